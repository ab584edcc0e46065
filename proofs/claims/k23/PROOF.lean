import PyProof.Rows.All
import Wide.All
import OpenK.AllK
import Wide.FinOn
import HandS.ForMost
import HandS.IsInst
import HandS.Rev
import HandS.Wide
import HandS.SortInts
import HandS.TupAny
import HandS.Codes
import HandS.SetFor
import HandS.Strs
import HandS.Zip
import HandS.Conv
import HandS.OwnEq
import HandS.TupMul
import HandS.Text
import HandS.WideBits
import KE.BitLaws
import KE.KDictList
import KE.GoesEnum
import PySem.Challenge.RW_latekinds_k23_whole_never_more_slots_tha
set_option Elab.async false
set_option linter.all false
set_option maxRecDepth 100000
set_option maxHeartbeats 4000000
namespace Lk
open PySem L2
def top (i : Nat) : Stmt := PySem.Challenge.pw_latekinds_k23_whole_never_more_slots_tha.main.body.getD i (.Pass ⟨0, 0, 0, 0⟩)
abbrev s_is_integer : Stmt := top 4
abbrev s_is_within : Stmt := top 5
abbrev s_is_lot : Stmt := top 6
abbrev s_are_parents : Stmt := top 10
abbrev s_Book_fill : Stmt := inClass (top 11) 1
abbrev s_Book___init__ : Stmt := inClass (top 11) 0
abbrev s_many_of : Stmt := top 12
abbrev s_is_one : Stmt := top 13
abbrev s_Groups___init__ : Stmt := inClass (top 15) 0
abbrev s_Groups_fitting : Stmt := inClass (top 15) 1
abbrev s_Groups_taken : Stmt := inClass (top 15) 2
abbrev s_Groups_put : Stmt := inClass (top 15) 3
abbrev s_Groups_told : Stmt := inClass (top 15) 4
abbrev s_entries_of : Stmt := top 16
abbrev s_gone_through : Stmt := top 17
abbrev s_placed : Stmt := top 18
abbrev s_groups : Stmt := top 19
abbrev s__law_tape : Stmt := top 21
abbrev s__law_pick : Stmt := top 22
abbrev s__law_above : Stmt := top 26
abbrev s__law_line_parents : Stmt := top 23
abbrev s__law_in_rows : Stmt := top 24
abbrev s__law_crossed : Stmt := top 25
abbrev s__law_lasts : Stmt := top 27
abbrev s__law_are_groups : Stmt := top 28
abbrev s_law : Stmt := top 29
/-! ### what is kept -/
theorem Same.at {H H' : Hp} {a : Addr} {o : HO} (e : Same H H') (h : H a = some o) : H' a = some o := e a o h
theorem Same.new {H H' : Hp} {p : Addr} {o : HO} (e : Same H H') (h : H' p = none) : Same H (upd H' p o) := fun b u z => by
  have z2 := e b u z
  rw [upd_ne (ne_of_none z2 h)]
  exact z2
theorem Same.mut {H H' : Hp} {p : Addr} {o : HO} (e : Same H H') (h : H p = none) : Same H (upd H' p o) := fun b u z => by
  rw [upd_ne (ne_of_none z h)]
  exact e b u z
theorem upd_at {H : Hp} {p a : Addr} {o u : HO} (n : a ≠ p) (h : H a = some u) : upd H p o a = some u := by
  rw [upd_ne n]
  exact h
theorem upd_at' {H : Hp} {p a : Addr} {o u : HO} (h : H a = some u) (n : a ≠ p) : upd H p o a = some u := upd_at n h
/-- the readings of len, list(..), tuple(..) by name -/
def rLenQ (K : PySem.W.Frag) : List V → Hp → VK → Prop := fun xs H Q => ∃ p ys, xs = [.ref p] ∧ (SqL K H p ys ∨ SqT K H p ys) ∧ Q (.int ys.length) H
def rListQ (K : PySem.W.Frag) : List V → Hp → VK → Prop := fun xs H Q => ∃ p ys, xs = [.ref p] ∧ (SqL K H p ys ∨ SqT K H p ys) ∧ ∀ l, H l = none → Q (.ref l) (upd H l (.lst ys))
def rTupQ (K : PySem.W.Frag) : List V → Hp → VK → Prop := fun xs H Q => ∃ p ys, xs = [.ref p] ∧ ((SqL K H p ys ∧ ∀ l, H l = none → Q (.ref l) (upd H l (.tup ys))) ∨ (SqT K H p ys ∧ Q (.ref p) H))
/-- new in H -/
structure Nw (H : Hp) (p : Addr) : Prop where
  e : H p = none
theorem Nw.ne {H : Hp} {a p : Addr} {o : HO} (w : Nw H p) (h : H a = some o) : a ≠ p := ne_of_none h w.e
/-- a tape: its address, its list's, the list -/
structure Tp where
  t : Addr
  l : Addr
  ns : List Int
structure Tape (τ : Tp) (H : Hp) : Prop where
  list : H τ.l = some (.lst (τ.ns.map V.int))
  ne : τ.l ≠ τ.t
  here : ∃ i c s n : Int, H τ.t = some (.lst [.ref τ.l, .int i, .int c, .int s, .int n]) ∧ 0 ≤ i
/-- all but the tape is kept, the tape is a tape -/
structure Mv (τ : Tp) (H0 H : Hp) : Prop where
  was : Tape τ H0
  keep : ∀ a o, a ≠ τ.t → H0 a = some o → H a = some o
  now : Tape τ H
structure Mz (τ : Tp) (H0 H : Hp) : Prop where
  mv : Mv τ H0 H
section
variable {τ : Tp} {H0 H H1 H2 : Hp} {p a : Addr} {o : HO}
theorem Tape.mv (h : Tape τ H) : Mv τ H H := ⟨h, fun _ _ _ e => e, h⟩
theorem Tape.mz (h : Tape τ H) : Mz τ H H := ⟨h.mv⟩
theorem Mv.self (m : Mv τ H0 H) : Mv τ H H := m.now.mv
theorem Mv.trans (m : Mv τ H0 H1) (k : Mv τ H1 H2) : Mv τ H0 H2 := ⟨m.was, fun a o n e => k.keep a o n (m.keep a o n e), k.now⟩
theorem Mz.trans (m : Mz τ H0 H1) (k : Mv τ H1 H2) : Mz τ H0 H2 := ⟨m.mv.trans k⟩
theorem Tape.new (h : Tape τ H) (n : H p = none) : Tape τ (upd H p o) := by
  obtain ⟨h1, h2, i, c, s, k, h3, h4⟩ := h
  exact ⟨upd_at (ne_of_none h1 n) h1, h2, i, c, s, k, upd_at (ne_of_none h3 n) h3, h4⟩
theorem Mv.new (m : Mv τ H0 H) (n : H p = none) : Mv τ H0 (upd H p o) := ⟨m.was, fun a u e z => upd_at (ne_of_none (m.keep a u e z) n) (m.keep a u e z), m.now.new n⟩
theorem Mz.new (m : Mz τ H0 H) (n : H p = none) : Mz τ H0 (upd H p o) := ⟨m.mv.new n⟩
theorem Mv.neF (m : Mv τ H0 H) (n : H0 p = none) : p ≠ τ.t := fun e => by
  obtain ⟨_, _, _, _, h, _⟩ := m.was.here
  rw [e, h] at n
  cases n
theorem Mv.neN (m : Mv τ H0 H) (n : H p = none) : p ≠ τ.t := fun e => by
  obtain ⟨_, _, _, _, h, _⟩ := m.now.here
  rw [e, h] at n
  cases n
theorem Mv.mut (m : Mv τ H0 H) (n : H0 p = none) : Mv τ H0 (upd H p o) := by
  obtain ⟨i, c, s, k, h3, h4⟩ := m.now.here
  have n1 : τ.l ≠ p := ne_of_none m.was.list n
  exact ⟨m.was, fun a u e z => upd_at (ne_of_none z n) (m.keep a u e z), upd_at n1 m.now.list, m.now.ne, i, c, s, k, upd_at (m.neF n).symm h3, h4⟩
theorem Mz.mut (m : Mz τ H0 H) (n : H0 p = none) : Mz τ H0 (upd H p o) := ⟨m.mv.mut n⟩
theorem Mv.free (m : Mv τ H0 H) (n : H p = none) : H0 p = none := by
  cases e : H0 p with
  | none => rfl
  | some o =>
    by_cases z : p = τ.t
    · obtain ⟨_, _, _, _, h, _⟩ := m.now.here
      rw [z, h] at n
      cases n
    · rw [m.keep p o z e] at n
      cases n
theorem Mz.free (m : Mz τ H0 H) (n : H p = none) : H0 p = none := m.mv.free n
theorem Mv.at (m : Mv τ H0 H) (n : a ≠ τ.t) (h : H0 a = some o) : H a = some o := m.keep a o n h
theorem Mv.at' (m : Mv τ H0 H) (h : H0 a = some o) (n : a ≠ τ.t) : H a = some o := m.keep a o n h
theorem Mz.at (m : Mz τ H0 H) (n : a ≠ τ.t) (h : H0 a = some o) : H a = some o := m.mv.keep a o n h
theorem Mv.neT {xs : List V} (m : Mv τ H0 H) (h : H a = some (.tup xs)) : a ≠ τ.t := fun e => by
  obtain ⟨_, _, _, _, z, _⟩ := m.now.here
  rw [e, z] at h
  cases h
theorem Mv.neT0 {xs : List V} (m : Mv τ H0 H) (h : H0 a = some (.tup xs)) : a ≠ τ.t := m.was.mv.neT h
theorem Mv.atT {xs : List V} (m : Mv τ H0 H) (h : H0 a = some (.tup xs)) : H a = some (.tup xs) := m.keep a _ (m.neT0 h) h
theorem Tape.same (h : Tape τ H) (s : Same H H1) : Tape τ H1 := by
  obtain ⟨h1, h2, i, c, s', k, h3, h4⟩ := h
  exact ⟨s _ _ h1, h2, i, c, s', k, s _ _ h3, h4⟩
theorem Mv.same (m : Mv τ H0 H) (s : Same H H1) : Mv τ H0 H1 := by
  obtain ⟨h1, h2, i, c, s', k, h3, h4⟩ := m.now
  exact ⟨m.was, fun a o e z => s a o (m.keep a o e z), s _ _ h1, h2, i, c, s', k, s _ _ h3, h4⟩
theorem Mz.same (m : Mz τ H0 H) (s : Same H H1) : Mz τ H0 H1 := ⟨m.mv.same s⟩
end
theorem iteD {c A B : Prop} [Decidable c] (h1 : c → A) (h2 : ¬ c → B) : if decide c = true then A else B := by
  by_cases h : c
  · rw [decide_eq_true h]
    exact iteT (h1 h)
  · rw [decide_eq_false h]
    exact iteF (h2 h)
theorem iteDY {c A B : Prop} [Decidable c] (h : c) (h1 : A) : if decide c = true then A else B := by
  rw [decide_eq_true h]
  exact iteT h1
theorem iteDN {c A B : Prop} [Decidable c] (h : ¬ c) (h1 : B) : if decide c = true then A else B := by
  rw [decide_eq_false h]
  exact iteF h1
theorem iteET {b : Bool} {A B : Prop} (h : b = true) (k : A) : if b = true then A else B := by
  rw [h]
  exact iteT k
theorem iteEF {b : Bool} {A B : Prop} (h : b = false) (k : B) : if b = true then A else B := by
  rw [h]
  exact iteF k
theorem iteB {b : Bool} {A B : Prop} (h1 : b = true → A) (h2 : b = false → B) : if b = true then A else B := by
  cases b with
  | true => exact iteT (h1 rfl)
  | false => exact iteF (h2 rfl)
theorem fmod_in {x m : Int} (h : 0 < m) : 0 ≤ x.fmod m ∧ x.fmod m < m := by
  rw [Int.fmod_eq_emod_of_nonneg x (Int.le_of_lt h)]
  exact ⟨Int.emod_nonneg x (by omega), Int.emod_lt_of_pos x h⟩
theorem Mv.put {τ : Tp} {H0 H : Hp} (m : Mv τ H0 H) {xs : List V} {i c s n : Int} (e : xs = [.ref τ.l, .int i, .int c, .int s, .int n]) (h : 0 ≤ i) : Mv τ H0 (upd H τ.t (.lst xs)) := by
  subst e
  exact ⟨m.was, fun a o k z => upd_at k (m.keep a o k z), upd_at m.now.ne m.now.list, m.now.ne, i, c, s, n, upd_same, h⟩
theorem le_lineB {n : Nat} (h : Nat.ble n 100000 = true) : n ≤ sizeLine := Nat.le_trans (Nat.le_of_ble_eq_true h) (by decide)
theorem fmod64 {x m : Int} (h : 0 < m) (h2 : m ≤ 2 ^ 64) : -(2 ^ 64) < x.fmod m ∧ x.fmod m < 2 ^ 64 := by
  have q := fmod_in (x := x) h
  omega
theorem at_ints {ns : List Int} {i : Int} (h0 : 0 ≤ i) (h : i < ((ns.map V.int).length : Int)) : ∃ v : Int, atI (ns.map V.int) i = some (.int v) := by
  rw [List.length_map] at h
  have hj : i.toNat < ns.length := by omega
  refine ⟨ns[i.toNat], at_of (j := i.toNat) (by omega) ?_⟩
  rw [List.getElem?_map, List.getElem?_eq_getElem hj]
  rfl
theorem dec_int {a b : Int} : decide (V.int a = V.int b) = decide (a = b) := by
  by_cases h : a = b
  · rw [decide_eq_true h, h, decide_eq_true rfl]
  · rw [decide_eq_false h, decide_eq_false fun e => h (V.int.inj e)]
theorem dec_nat {a b : Nat} : decide (V.int (a : Int) = V.int (b : Int)) = decide (a = b) := by
  rw [dec_int]
  exact decide_eq_decide.mpr Int.ofNat_inj
theorem iteI {a b : Int} {A B : Prop} (h1 : a = b → A) (h2 : ¬ a = b → B) : if decide (V.int a = V.int b) = true then A else B := by
  rw [dec_int]
  exact iteD h1 h2
/-! ### kinds of things -/
def isIntB : V → Bool
  | .int _ => true
  | _ => false
def withinB (v : V) (lo hi : Int) : Bool := match v with
  | .int i => decide (lo ≤ i) && decide (i ≤ hi)
  | _ => false
structure IntK (K : PySem.W.Frag) (H : Hp) (v : V) : Prop where
  ex : ∃ (t : Value) (bi bb : Bool), TyX K H v t ∧ PySem.W.kitOne K t (.type "int") = some bi ∧ PySem.W.kitOne K t (.type "bool") = some bb ∧ (bi && !bb) = isIntB v
section
variable {K : PySem.W.Frag} {H : Hp}
theorem IntK.int (i : Int) : IntK K H (.int i) := ⟨_, true, false, .base (.int i), kit_ty (by decide +kernel), kit_ty (by decide +kernel), rfl⟩
theorem IntK.bl (b : Bool) : IntK K H (.bl b) := ⟨_, true, true, .base (.bl b), kit_ty (by decide +kernel), kit_ty (by decide +kernel), rfl⟩
theorem IntK.non : IntK K H .non := ⟨_, false, false, .base .non, kit_ty (by decide +kernel), kit_ty (by decide +kernel), rfl⟩
theorem IntK.str (s : Str) : IntK K H (.str s) := ⟨_, false, false, .base (.str s), kit_ty (by decide +kernel), kit_ty (by decide +kernel), rfl⟩
theorem IntK.tup {a : Addr} {xs : List V} (h : H a = some (.tup xs)) : IntK K H (.ref a) := ⟨_, false, false, .base (.tup h), kit_ty (by decide +kernel), kit_ty (by decide +kernel), rfl⟩
theorem IntK.lst {a : Addr} {xs : List V} (h : H a = some (.lst xs)) : IntK K H (.ref a) := ⟨_, false, false, .base (.lst h), kit_ty (by decide +kernel), kit_ty (by decide +kernel), rfl⟩
theorem IntK.dK {a : Addr} {xs : List (Key × V)} (h : H a = some (.dK xs)) : IntK K H (.ref a) := ⟨_, false, false, .base (.dK h), kit_ty (by decide +kernel), kit_ty (by decide +kernel), rfl⟩
theorem ty_tup {a : Addr} {xs : List V} (h : H a = some (.tup xs)) : TyX K H (.ref a) (.type "tuple") := .base (.tup h)
theorem ty_int (i : Int) : TyX K H (.int i) (.type "int") := .base (.int i)
theorem ty_bl (b : Bool) : TyX K H (.bl b) (.type "bool") := .base (.bl b)
theorem tup_tup : PySem.W.kitOne K (.type "tuple") (.type "tuple") = some true := kit_ty (by decide +kernel)
theorem int_tup : PySem.W.kitOne K (.type "int") (.type "tuple") = some false := kit_ty (by decide +kernel)
theorem int_int : PySem.W.kitOne K (.type "int") (.type "int") = some true := kit_ty (by decide +kernel)
theorem int_bool : PySem.W.kitOne K (.type "int") (.type "bool") = some false := kit_ty (by decide +kernel)
theorem bool_bool : PySem.W.kitOne K (.type "bool") (.type "bool") = some true := kit_ty (by decide +kernel)
end
/-- tuples stay -/
def TK (H H' : Hp) : Prop := ∀ a xs, H a = some (.tup xs) → H' a = some (.tup xs)
theorem Same.tk {H H' : Hp} (s : Same H H') : TK H H' := fun a _ h => s a _ h
theorem Mv.tk {τ : Tp} {H H' : Hp} (m : Mv τ H H') : TK H H' := fun a _ h => m.keep a _ (m.neT0 h) h
theorem TK.trans {H H1 H2 : Hp} (a : TK H H1) (b : TK H1 H2) : TK H H2 := fun x xs h => b x xs (a x xs h)
theorem TK.mut {H : Hp} {p : Addr} {o : HO} {ys : List V} (h : H p = some (.lst ys)) : TK H (upd H p o) := fun a xs e => upd_at (ne_of e h (by intro z; cases z)) e
theorem TK.new {H : Hp} {p : Addr} {o : HO} (h : H p = none) : TK H (upd H p o) := fun a xs e => upd_at (ne_of_none e h) e
/-! ### len(set(a tuple of whole numbers)); list(reversed(a list)) -/
section
open PySem.Spec PyProof.Rows
variable {X : Cx}
def tLenSetU (K : PySem.W.Frag) (ta : TE) : TE := fun σ H Q => ta σ H fun x H1 => ∃ (l : Addr) (ns : List Int), x = .ref l ∧ SqT K H1 l (ns.map V.int) ∧ ns.length ≤ 4000 ∧ ∀ ks : List Int, ks.Nodup → (∀ k, k ∈ ks ↔ k ∈ ns) → Q (.int (ks.length : Nat)) H1
theorem pe_lenSetU {a : Expr} {ta : TE} {p p2 q pos : Pos} (hg : Gl X "len") (hm : X.mg "len" = none) (hg2 : Gl X "set") (hm2 : X.mg "set" = none) (ha : PE X a ta) (calm : X.calm = true := by rfl)
    (na : starEach [a] X.env = (false, eval a X.env) :: starEach [] X.env := by rfl) : PE X (.Call (.Name "len" p) [.Call (.Name "set" p2) [a] [] q] [] pos) (tLenSetU X.K ta) := by
  constructor
  intro pins s σ H Q I h
  refine Call_ (ld_blt I hg hm boot_len (PyProof.Rows.callWith_builtin1 (PyProof.Rows.args_cons ?_ rfl) rfl rfl))
  refine Call_ (ld_blt I hg2 hm2 PyProof.Rows.boot_set (PyProof.Rows.callWith_type1 (PyProof.Rows.args_cons (thn (ha.run pins s σ H _ I h) fun v s1 ⟨x, H1, I1, r1, q1⟩ => PyProof.Rows.args_nil ?_) na) na rfl))
  obtain ⟨l, ns, ex, hq, hl, done⟩ := q1
  subst ex
  obtain rfl : v = Value.ref l := r1
  obtain ⟨its, rv, pt, hz⟩ := I1.tuple hq
  have hi : PyProof.Rows.IntsAre its.toArray.toList ns := by simpa using ints_of_vals rv
  refine call_set_tupI ns (I1.ok.hd calm) (show s1.heap.IsTuple l its.toArray from pt) hi (by unfold scanBound; omega) fun h' tk c R1 hcn kp => PyProof.Rows.args_nil ?_
  obtain ⟨o, es, ep, t, ho, hex, hdt, g, nd, mem, hb, hf, hn, hr, hl2⟩ := R1
  have I2 : Inv X pins σ H1 { s1 with heap := h', toks := tk } := I1.kept kp
  have le : (es.toList.map keyOf).length = es.size := by rw [List.length_map, Array.length_toList]
  refine call_len_set ho hex hdt hf (by omega) ⟨.int es.size, H1, I2.tok _, ⟨_, rfl⟩, ?_⟩
  rw [← le]
  exact done _ nd fun k => by rw [← mem k, decide_eq_true_eq]
end
/-! ### set(a list of whole numbers) -/
section
open PySem.Spec PyProof.Rows PySem.Calls
variable {P : Program} {w : World} {A : Around} {E : Value → Shared → Prop} {s : Shared}
set_option maxHeartbeats 4000000 in
theorem call_set_listR {l : Addr} {items : Array Value} (ns : List Int) {Q : Value → Shared → Prop} (hh : A.handled = none) (hl : s.heap.IsList l items) (hit : IntsAre items.toList ns) (hb : ns.length + 1 < scanBound)
    (h : ∀ (h' : Heap) (tk c : Nat), SetR w h' s.heap.objs.size (fun j => decide (j ∈ ns)) c → c ≤ ns.length → (∀ b o, s.heap.get? b = some o → h'.get? b = some o) → Q (.ref s.heap.objs.size) { s with heap := h', toks := tk }) :
    wpAny (model P w) A (call (.type "set") [.ref l]) Q E s := by
  have hisz : items.size = ns.length := by
    have q := IntsAre.length hit
    rw [Array.length_toList] at q
    exact q
  obtain ⟨c, tl, hmro⟩ := F.called_set.mro
  have hmade := F.called_set.made
  have hsub := F.called_set.sub
  refine wpAny_call (codeAny_of_tree ?_)
  show wpAny _ _ (callAny (.type "set") _) _ _ _
  refine wpAny_pure ⟨Code.quiet_builtin _ (by decide +kernel), codeAny_builtin F.entry_type_call ?_⟩
  rw [Around.under_plain (weight_type_call_type "set" [.ref l] []) rfl]
  have h1 := F.called_set.notType
  have h2 := F.called_set.canCreate
  have hct := F.typeCall_set_1 (.ref l)
  repeat (any_goals (first | assumption | wp_step))
  refine codeAny_mono (code_set_led1 (.ref l) (E := E) (Q₁ := fun obj s₁ => obj = .ref s.heap.objs.size ∧ s₁ = { s with heap := s.heap.push { cls := .type "set", dict := none, data := .set #[] 0 (.fresh 0 0 (!w.params.followText "set-order")) } }) ⟨rfl, rfl⟩) fun r s₁ hr => ?_
  cases r with
  | error e => exact hr
  | ok fl =>
    cases fl with
    | ret obj =>
      obtain ⟨rfl, rfl⟩ := hr
      have hS : (s.heap.push { cls := .type "set", dict := none, data := .set #[] 0 (.fresh 0 0 (!w.params.followText "set-order")) }).get? s.heap.objs.size = some { cls := .type "set", dict := none, data := .set #[] 0 (.fresh 0 0 (!w.params.followText "set-order")) } := Heap.get?_push_size _ rfl
      have hT : Shared.TypeIs { s with heap := s.heap.push { cls := .type "set", dict := none, data := .set #[] 0 (.fresh 0 0 (!w.params.followText "set-order")) } } (.ref s.heap.objs.size) "set" := ⟨_, hS, rfl⟩
      have hli := F.called_set.init.lookup
      have hbi := F.called_set.init.bind (.ref s.heap.objs.size)
      repeat (any_goals (first | assumption | wp_step))
      refine codeAny_mono (codeAny_call_builtin (R := wants (fun r s₂ => r = .none ∧ ∃ h' tk c, s₂ = { s with heap := h', toks := tk } ∧ SetR w h' s.heap.objs.size (fun j => decide (j ∈ ns)) c ∧ c ≤ ns.length ∧
          (∀ b o, s.heap.get? b = some o → h'.get? b = some o)) E) F.called_set.init.plain F.entry_set_init (check_set_init_1 hT ?_)) fun r₂ s₂ hr₂ => ?_
      · obtain ⟨ol, hol, hcl, nl, hdl⟩ := hl
        obtain ⟨ocls, odict, odata, oslots⟩ := ol
        simp only at hcl hdl
        subst hcl; subst hdl
        have hol' : (s.heap.push { cls := .type "set", dict := none, data := .set #[] 0 (.fresh 0 0 (!w.params.followText "set-order")) }).get? l = some { cls := .type "list", dict := odict, data := .seq items nl, slots := oslots } := Heap.get?_push_of_some _ hol
        have hsls := F.sub_list_set
        have hslf := F.sub_list_frozenset
        have hne : (Value.type "list" == Value.type "dict") = false := by decide
        have hl1 : (s.heap.push { cls := .type "set", dict := none, data := .set #[] 0 (.fresh 0 0 (!w.params.followText "set-order")) }).IsList l items := ⟨_, hol', rfl, nl, rfl⟩
        unfold Builtin.«set.__init__» noKeywords Builtin.Frozenset.updateFrom
        generalize hPI : pyIter = PI
        wp_walk
        subst hPI
        refine wpAny_pyIter_list hl1 ?_
        refine wpAny_bind (wpAny_runValue ?_)
        have hlS : l < s.heap.objs.size := Heap.lt_size hol
        have hh3 : A.in1.in1.in1.handled = none := by simp [hh]
        have hz1 : (s.heap.push { cls := .type "set", dict := none, data := .set #[] 0 (.fresh 0 0 (!w.params.followText "set-order")) }).objs.size = s.heap.objs.size + 1 := Heap.size_push ..
        have hneI : l ≠ (s.heap.push { cls := .type "set", dict := none, data := .set #[] 0 (.fresh 0 0 (!w.params.followText "set-order")) }).objs.size := by
          rw [Heap.size_push]; exact Nat.ne_of_lt (Nat.lt_succ_of_lt hlS)
        have hSf : s.heap.objs.size ∉ [(s.heap.push { cls := .type "set", dict := none, data := .set #[] 0 (.fresh 0 0 (!w.params.followText "set-order")) }).objs.size, l] := by
          rw [Heap.size_push]; simp only [List.mem_cons, List.mem_singleton, List.not_mem_nil, or_false, not_or]
          exact ⟨Nat.ne_of_lt (Nat.lt_succ_self _), Nat.ne_of_gt hlS⟩
        have hval : ∀ (i : Nat) (v : Value), items[i]? = some v → ∃ k t, ns[i]? = some k ∧ v = .int k t := fun i v hv => by
          have hi : i < ns.length := by rw [← hisz]; exact (Array.getElem?_eq_some_iff.mp hv).1
          obtain ⟨t, e⟩ := PyProof.Rows.IntsAre.int_at hit i v (by rw [Array.getElem?_toList]; exact hv)
          refine ⟨ns[i], t, List.getElem?_eq_getElem hi, ?_⟩
          rw [e, List.getD_eq_getElem?_getD, List.getElem?_eq_getElem hi] <;> rfl
        refine set_update_ints ((Walks.list hh3 _ l hneI items).toS) s.heap.objs.size
          hSf ns hisz hb hval (items.size - 0) 0 _ (by omega) (Nat.zero_le _)
          ⟨⟨_, Heap.get?_push_size _ rfl, rfl, rfl⟩, (hl1.push _)⟩ ?hS0 ?hR
        case hS0 =>
          have hget : ((s.heap.push { cls := .type "set", dict := none, data := .set #[] 0 (.fresh 0 0 (!w.params.followText "set-order")) }).push { cls := .type "list_iterator", data := .fields #[.ref l, .int 0 0] }).get? s.heap.objs.size
              = some { cls := .type "set", dict := none, data := .set #[] 0 (.fresh 0 0 (!w.params.followText "set-order")) } := Heap.get?_push_of_some _ hS
          exact ⟨0, Nat.le_refl 0, setR_new_at hget⟩
        case hR =>
          intro s' c' hm hc' hS'
          obtain ⟨h', g2, d', tk', os'⟩ := s'
          have eg : g2 = s.gens := hm.gens
          have ed : d' = s.drawn := hm.drawn
          have eo : os' = s.os := hm.os
          subst eg; subst ed; subst eo
          show wpAny _ _ _ _ _ _
          refine wpAny_pure ?_
          show wpAny _ _ (ret Value.none) _ _ _
          rw [hisz] at hc'
          refine wpAny_pure ⟨rfl, h', tk', c', rfl, hS', hc', fun b o e => ?_⟩
          have hb0 : b < s.heap.objs.size := Heap.lt_size e
          have hb1 : b ≠ s.heap.objs.size := Nat.ne_of_lt hb0
          have hb2 : b ≠ (s.heap.push { cls := .type "set", dict := none, data := .set #[] 0 (.fresh 0 0 (!w.params.followText "set-order")) }).objs.size := by
            rw [Heap.size_push]; exact Nat.ne_of_lt (Nat.lt_succ_of_lt hb0)
          exact hm.heap b o (by simp only [List.mem_cons, List.mem_singleton, List.not_mem_nil, or_false, not_or]; exact ⟨hb1, hb2⟩) (Heap.get?_push_of_some _ (Heap.get?_push_of_some _ e))
      · cases r₂ with
        | error e => exact hr₂
        | ok fl₂ =>
          cases fl₂ with
          | ret r =>
            obtain ⟨rfl, h', tk, c', rfl, hS', hc', hk'⟩ := hr₂
            repeat (any_goals (first | assumption | wp_step))
            exact h _ _ _ hS' hc' hk'
          | _ => exact hr₂.elim
    | _ => exact hr.elim
variable {X : Cx}
def rSetL (w : World) (K : PySem.W.Frag) : List V → Hp → VK → Prop := fun xs H Q => ∃ (a : Addr) (ns : List Int), xs = [.ref a] ∧ SqL K H a (ns.map V.int) ∧ ns.length ≤ 4000 ∧ ∀ (p : Addr) (c : Nat), c ≤ ns.length → (∃ ks : List Int, ks.Nodup ∧ ks.length = c ∧ ∀ k, k ∈ ks ↔ k ∈ ns) → H p = none → Q (.ref p) (upd H p (SetO w p (fun j => decide (j ∈ ns)) c))
theorem cr_setL (hc : X.calm = true) : CallR X (.type "set") (rSetL X.w X.K) := by
  intro pins s σ H xs us Q I r h
  obtain ⟨a, ns, rfl, hq, hl, q⟩ := h
  rw [Vals.ref1 r]
  obtain ⟨its, rv, pl, hz⟩ := I.list hq
  refine call_set_listR ns (I.ok.hd hc) pl.isList (by simpa using ints_of_vals rv) (by unfold scanBound; omega) fun h' tk c R hc' k => ?_
  have nw : H s.heap.objs.size = none := I.hok.fresh (Nat.le_refl _)
  have kk : ∃ ks : List Int, ks.Nodup ∧ ks.length = c ∧ ∀ k, k ∈ ks ↔ k ∈ ns := by
    obtain ⟨o, es, ep, t, ho, hex, hd, g, nd, mem, hb, hf, hn, hr, hl2⟩ := R
    exact ⟨es.toList.map keyOf, nd, by rw [List.length_map, Array.length_toList]; exact hn, fun k => by rw [← mem k, decide_eq_true_eq]⟩
  exact ⟨.ref _, _, I.laid (t' := tk) k (Nat.le_refl _) (setO_new R), rfl, q _ c hc' kk nw⟩
end
/-! ### enumerate(a tuple) -/
section
open PySem.Spec PyProof.Rows PySem.Calls
set_option maxHeartbeats 4000000 in
theorem meets_enum1 {v : Value} {o : Obj} {HH : Heap → Prop} (B : Begins v o HH) :
    Meets (Builtin.«enumerate.__new__» ⟨[.type "enumerate", v], []⟩) (fun _ R s => HH s.heap ∧
      R (.ok (.ret (.ref (s.heap.push o).objs.size))) { s with heap := (s.heap.push o).push { cls := .type "enumerate", data := .fields #[.none, .bool false, .ref s.heap.objs.size, rawInt 0, .none, .none] } }) :=
  .of_wp fun prog w A R s both => by
    obtain ⟨hp, g, d, tk, os⟩ := s
    obtain ⟨h1, h⟩ := both
    have hsub := sub_enumerate
    have it1 : ∀ {A' : Around} {E : Value → Shared → Prop} {Q : Value → Shared → Prop}, Q (.ref hp.objs.size) ⟨hp.push o, g, d, tk, os⟩ → wpAny (model prog w) A' (pyIter v) Q E ⟨hp, g, d, tk, os⟩ := fun q => B.iter prog w _ _ ⟨hp, g, d, tk, os⟩ _ h1 q
    wp_walk using it1
    refine wpAny_stack_any fun st => wpAny_pure ?_
    split
    · rename_i c _ _ _ _ _
      cases (c == Value.type "enumerate") <;> (wp_walk using it1; exact ⟨_, rfl, h⟩)
    · wp_walk using it1
      exact ⟨_, rfl, h⟩
section
variable {prog : Program} {w : World} {A : Around} {E : Value → Shared → Prop} {s : Shared}
theorem call_enum1 {v : Value} {o : Obj} {HH : Heap → Prop} {Q : Value → Shared → Prop} (B : Begins v o HH) (h1 : HH s.heap)
    (fin : ∀ h', IsEnum h' (s.heap.objs.size + 1) s.heap.objs.size 0 .none → h'.get? s.heap.objs.size = some o → h'.objs.size = s.heap.objs.size + 2 → (∀ b u, s.heap.get? b = some u → h'.get? b = some u) → Q (.ref (s.heap.objs.size + 1)) { s with heap := h' }) :
    wpAny (model prog w) A (call (.type "enumerate") [v]) Q E s := by
  refine callType_new F.called_enumerate (by decide) (F.typeCall_enumerate_1 _) (F.newCall_enumerate_1 _) (fun obj => F.args_object_init_2 obj _) F.entry_enumerate_new (meets_enum1 B) ⟨h1, ?_⟩
  have hz : (s.heap.push o).objs.size = s.heap.objs.size + 1 := Heap.size_push ..
  show _ ∧ _
  rw [hz]
  have he : ((s.heap.push o).push { cls := .type "enumerate", data := .fields #[.none, .bool false, .ref s.heap.objs.size, rawInt 0, .none, .none] }).get? (s.heap.objs.size + 1) = some { cls := .type "enumerate", data := .fields #[.none, .bool false, .ref s.heap.objs.size, rawInt 0, .none, .none] } := by
    rw [← hz]
    exact Heap.get?_push_size (s.heap.push o) rfl
  exact ⟨⟨_, he, rfl⟩, fin _ he (Heap.get?_push_of_some _ (Heap.get?_push_size _ B.free)) (by rw [Heap.size_push, hz]) fun b u x => Heap.get?_push_of_some _ (Heap.get?_push_of_some _ x)⟩
end
/-- a tuple's iterator behind its end -/
theorem draws_end {prog : Program} {w : World} {A : Around} (calm : A.handled = none) (it t : Addr) (items : Array Value) (i : Nat) (hi : items[i]? = none) :
    Draws prog w A it [it, t] i (fun _ _ => True) (fun j h => j = i ∧ h.IsTupleIter it t j ∧ h.IsTuple t items) where
  live := fun _ _ st => let ⟨o, ho, _⟩ := st.2.1; ⟨o, ho⟩
  frame := fun _ _ _ st hk => ⟨st.1, st.2.1.at fun o e => hk it (by simp) o e, st.2.2.at fun o e => hk t (by simp) o e⟩
  item := fun j s Q E hj st _ => absurd st.1 (Nat.ne_of_lt hj)
  done := fun s Q E st hE => wpAny_nextOf_tuple_end calm st.2.1 st.2.2 hi hE
/-- the tuple at a, each item in a new pair -/
def IteT (K : PySem.W.Frag) (a : Addr) : It :=
  ⟨fun i H => ∃ (xs : List V) (x : V), SqT K H a xs ∧ xs[i]? = some x, fun i H v H' => ∃ T x, v = .ref T ∧ H T = none ∧ H' = upd H T (.tup [.int (i : Nat), x]) ∧ ∀ xs, SqT K H a xs → xs[i]? = some x, fun i H => ∃ xs : List V, SqT K H a xs ∧ xs.length ≤ i⟩
theorem turn_enumT {P : Program} {w : World} {K : PySem.W.Frag} {elts : List Expr} {kk : Nat} {tpos : Pos} (a e it : Addr) :
    Turn P w K (.Tuple elts kk tpos) (IteT K a) [e, it] e (fun i h => (∃ old, IsEnum h e it ((i : Nat) : Int) old) ∧ h.IsTupleIter it a i ∧ e ≠ it ∧ e ≠ a ∧ it ≠ a) where
  mem := by simp
  obj := fun i h st b hb => by
    obtain ⟨⟨old, he⟩, ⟨o, ho, hc, hd⟩, _⟩ := st
    rcases List.mem_cons.mp hb with z | z
    · subst z
      exact ⟨_, he, fun v q => nomatch q⟩
    · have z2 := List.mem_singleton.mp z
      subst z2
      exact ⟨o, ho, fun v q => by rw [hd] at q; cases q⟩
  keep := fun i h h' st k => let ⟨⟨old, he⟩, hi, hne⟩ := st; ⟨⟨old, k e (by simp) _ he⟩, hi.at fun o q => k it (by simp) o q, hne⟩
  item := by
    intro X hP hw hK calm i pins s σ H E I hf st hg
    subst hP hw hK
    obtain ⟨⟨old, he⟩, hit, n1, n2, n3⟩ := st
    obtain ⟨xs, x, hq, hx⟩ := hg
    obtain ⟨its, rv, p, hz⟩ := I.tuple hq
    obtain ⟨u, hu, ru⟩ := rv.get hx
    have hel : e < s.heap.objs.size := Heap.lt_size he
    have hil : it < s.heap.objs.size := by obtain ⟨_, q, _⟩ := hit; exact Heap.lt_size q
    have ilt : i < its.toArray.size := by rw [List.size_toArray]; exact (List.getElem?_eq_some_iff.mp hu).1
    have D := Draws.tuple (prog := X.prog) (w := X.w) (A := X.A.in1) (by simpa using I.ok.hd calm) it a (Ne.symm n3) its.toArray
    refine wpAny_pyNext_enum_itemD D he ⟨hit, p⟩ ilt n1 (by simp [n1, n2]) fun y h' tk hy ho hst hT hsz hk => ?_
    have ey : y = u := by
      have q : its[i]? = some y := by simpa using hy
      rw [hu] at q
      exact (Option.some.inj q).symm
    subst ey
    refine ⟨_, rfl, wpAny_letOwnedTupleGo_enum (s := { s with heap := h', toks := tk + 1 }) ho fun h2 he2 sb => ?_⟩
    have nT : h2.get? s.heap.objs.size = some { cls := .type "tuple", data := .seq #[.int i tk, y] } := (sb.2 _ (Nat.ne_of_gt hel)).trans hT
    have mk : ObjOk X.prog X.w (upd H s.heap.objs.size (.tup [.int (i : Nat), x])) h2 s.heap.objs.size (.tup [.int (i : Nat), x]) :=
      ⟨by show 2 ≤ sizeLine; decide, [.int i tk, y], .cons ⟨_, rfl⟩ (.cons ru .nil), ⟨_, nT, rfl, _, rfl⟩⟩
    have I1 : Inv X pins σ (upd H s.heap.objs.size (.tup [.int (i : Nat), x])) { s with heap := h2, toks := tk + 1 } :=
      I.turnedNew (ch := [e, it]) (fun b ob hb q => (sb.2 b (fun z => hb (by simp [z]))).trans (hk b ob (fun z => hb (by simp [z])) (fun z => hb (by simp [z])) q)) hf (Nat.le_refl _) mk
    refine ⟨.ref s.heap.objs.size, _, I1, rfl, ⟨_, x, rfl, I.hok.fresh (Nat.le_refl _), rfl, fun ys hy2 => by rw [I.tuple_inj hy2 hq]; exact hx⟩, ⟨⟨y, ?_⟩, hst.1.at fun o q => (sb.2 it (Ne.symm n1)).trans q, n1, n2, n3⟩, fun b hb => ?_⟩
    · rw [show ((i + 1 : Nat) : Int) = (i : Int) + 1 by omega]
      exact he2
    · have lt : b < s.heap.objs.size := by
        rcases List.mem_cons.mp hb with z | z
        · rw [z]; exact hel
        · rw [List.mem_singleton.mp z]; exact hil
      rw [upd_ne (Nat.ne_of_lt lt)]
      exact (hf b hb).1
  done := by
    intro X hP hw hK calm i pins s σ H E I hf st hg
    subst hP hw hK
    obtain ⟨⟨old, he⟩, hit, n1, n2, n3⟩ := st
    obtain ⟨xs, hq, hx⟩ := hg
    obtain ⟨its, rv, p, hz⟩ := I.tuple hq
    obtain ⟨f0, f1, f2, f3, f4, f5⟩ := hf it (by simp)
    have hl := rv.length
    have over : its.toArray[i]? = none := by simp; omega
    exact wpAny_pyNext_enum_endD (draws_end (by simpa using I.ok.hd calm) it a its.toArray i over) he ⟨rfl, hit, p⟩ fun h' eb => ⟨rfl, I.turned (t' := s.toks) (fun b o hb q => eb b o hb q) f0 f1 f3 f4 f5⟩
  self := fun A i s Q E st h => let ⟨⟨_, he⟩, _⟩ := st; wpAny_pyIter_enum he h
def iEnumT (K : PySem.W.Frag) (ta : TA) : TI := fun σ H R => ta σ H fun vs H1 => ∃ a xs, vs = [.ref a] ∧ SqT K H1 a xs ∧ R (IteT K a) H1
theorem pi_enumT {X : Cx} {e : Expr} {ta : TA} {p pos tpos : Pos} {elts : List Expr} {kk : Nat} (hg : Gl X "enumerate") (hm : X.mg "enumerate" = none) (ha : PA X [e] ta) (hs : starEach [e] X.env = [(false, eval e X.env)] := by rfl) :
    PI X (.Tuple elts kk tpos) (.Call (.Name "enumerate" p) [e] [] pos) (iEnumT X.K ta) := by
  constructor
  intro pins s σ H R I h
  refine Call_ (ld_blt I hg hm boot_enumerate (PyProof.Rows.callWith_type1 (thn (ha.run pos pins s σ H _ I h) fun us s1 ⟨vs, H1, I1, r1, q1⟩ => ?_) hs rfl))
  obtain ⟨a, xs, ex, hq, q⟩ := q1
  subst ex
  cases r1 with
  | cons r rr =>
    cases rr
    cases r
    obtain ⟨its, rv, tp, hz⟩ := I1.tuple hq
    have al : a < s1.heap.objs.size := by obtain ⟨_, q, _⟩ := tp; exact Heap.lt_size q
    refine call_enum1 (begins_tuple a its.toArray) (show s1.heap.IsTuple a its.toArray from tp) fun h' he hit hsz hk => wpAny_pyIter_enum he ?_
    have I2 : Inv X pins σ H1 { s1 with heap := h' } := I1.kept (t' := s1.toks) hk
    refine ⟨s1.heap.objs.size + 1, [s1.heap.objs.size + 1, s1.heap.objs.size], _, _, H1, rfl, I2, turn_enumT a (s1.heap.objs.size + 1) s1.heap.objs.size, ⟨⟨.none, he⟩, ⟨_, hit, rfl, rfl⟩, Nat.succ_ne_self _, Nat.ne_of_gt (Nat.lt_succ_of_lt al), Nat.ne_of_gt al⟩, fun b hb => ?_, q⟩
    have le : s1.heap.objs.size ≤ b := by
      rcases List.mem_cons.mp hb with z | z
      · rw [z]; exact Nat.le_add_right _ _
      · rw [List.mem_singleton.mp z]; exact Nat.le_refl _
    exact I1.fpOk le (I1.hok.fresh le)
theorem for_enumT {K : PySem.W.Frag} {a : Addr} {xs : List V} {g : TG} {tb : TS} {D : Ends} {σ : L2.St} {H : Hp} (Pv : Nat → L2.St → Hp → Prop) (h0 : Pv 0 σ H) (hq : ∀ i σ H, Pv i σ H → SqT K H a xs)
    (hs : ∀ (i : Nat) (x : V) (t : Addr) (σ : L2.St) (H : Hp), xs[i]? = some x → Pv i σ H → H t = none → g (.ref t) σ (upd H t (.tup [.int (i : Nat), x])) fun σ2 H2 => tb { D with nx := Pv (i + 1), ct := Pv (i + 1), bk := D.nx } σ2 H2)
    (hd : ∀ σ H, Pv xs.length σ H → D.nx σ H) : ∃ W : Nat → Nat → L2.St → Hp → Prop, (∃ m, W 0 m σ H) ∧ ∀ i m σ H, W i m σ H →
      ((IteT K a).stop i H ∧ D.nx σ H) ∨ ((IteT K a).go i H ∧ ∃ N : L2.St → Hp → Prop, (∀ σ' H', N σ' H' → ∃ m', m' < m ∧ W (i + 1) m' σ' H') ∧ ∀ v H', (IteT K a).yld i H v H' → g v σ H' fun σ2 H2 => tb { D with nx := N, ct := N, bk := D.nx } σ2 H2) := by
  refine ⟨fun i m σ H => m = xs.length - i ∧ i ≤ xs.length ∧ Pv i σ H, ⟨_, rfl, Nat.zero_le _, h0⟩, ?_⟩
  rintro i m σ H ⟨rfl, hi, p⟩
  have q := hq i σ H p
  by_cases lt : i < xs.length
  · refine .inr ⟨⟨xs, _, q, List.getElem?_eq_getElem lt⟩, Pv (i + 1), fun σ' H' p2 => ⟨_, by omega, rfl, lt, p2⟩, fun v H' y => ?_⟩
    obtain ⟨t, x, rfl, nt, rfl, f⟩ := y
    exact hs i x t σ H (f xs q) p nt
  · have e : i = xs.length := by omega
    subst e
    exact .inl ⟨⟨xs, q, Nat.le_refl _⟩, hd σ H p⟩
end
/-! ### x |= e -/
theorem ip_or {X : Cx} : PIp X .BitOr (ipI fun i j => Builtin.bitOr i j) := by
  intro pins s σ H x y v u Q I r1 r2 h
  exact iop_or pins s σ H x y v u Q I r1 r2 h
/-! ### comprehensions -/
theorem filterMap_range_succ {α : Type} (f : Nat → Option α) (n : Nat) : (List.range (n + 1)).filterMap f = (List.range n).filterMap f ++ (f n).toList := by
  rw [List.range_succ, List.filterMap_append]
  cases e : f n with
  | none => simp [e]
  | some v => simp [e]
theorem filterMap_range_len {α : Type} (f : Nat → Option α) (n : Nat) : ((List.range n).filterMap f).length ≤ n := by
  have h := List.length_filterMap_le f (List.range n)
  rw [List.length_range] at h
  exact h
theorem lt_line {n : Nat} (h : n ≤ 100000) : n < sizeLine := Nat.lt_of_le_of_lt h (by decide)
theorem lc_rangeF {lo : Int} {n : Nat} {g : TG} {tt : TT} {te : TE} {vs : List Nat} {σ : St} {H1 : Hp} {D : Addr} {Qd : Hp → Prop} (f : Nat → Option V) (nD : H1 D = none) (hn : n ≤ 100000)
    (hs : ∀ (i : Nat) (H : Hp) (N : V → Hp → Prop) (M : Hp → Prop), i < n → Same H1 H → (∀ v H4, f i = some v → Same H H4 → N v H4) → (∀ H4, f i = none → Same H H4 → M H4) → g (.int (lo + (i : Int))) (wipe σ vs) H fun σ2 H2 => wipe σ2 vs = wipe σ vs ∧ tt σ2 H2 fun b H3 => if b = true then te σ2 H3 N else M H3)
    (hd : ∀ H, Same H1 H → H D = some (.lst ((List.range n).filterMap f)) → Qd H) : ∃ W : Nat → Nat → Hp → Prop, (∃ m, W 0 m (upd H1 D (.lst []))) ∧ ∀ i m H, W i m H →
      ((Itr lo n).stop i H ∧ Qd H) ∨ ((Itr lo n).go i H ∧ ∃ Nx : Hp → Prop, (∀ H', Nx H' → ∃ m', m' < m ∧ W (i + 1) m' H') ∧ ∀ x H', (Itr lo n).yld i H x H' → g x (wipe σ vs) H' fun σ2 H2 => wipe σ2 vs = wipe σ vs ∧ tt σ2 H2 fun b H3 =>
        if b = true then te σ2 H3 fun y H4 => ∃ acc, H4 D = some (.lst acc) ∧ acc.length < sizeLine ∧ Nx (upd H4 D (.lst (acc ++ [y]))) else Nx H3) := by
  refine lc_range (lo := lo) (n := n) (fun i H => Same H1 H ∧ H D = some (.lst ((List.range i).filterMap f))) ⟨Same.new (Same.refl H1) nD, upd_same⟩ (fun i H hi p => ?_) (fun H p => hd H p.1 p.2)
  have il : i < n := hi
  have hz := filterMap_range_len f i
  refine hs i H _ _ hi p.1 (fun v H4 e s => ⟨_, s _ _ p.2, lt_line (by omega), ?_, ?_⟩) (fun H4 e s => ⟨?_, ?_⟩)
  · exact Same.mut (Same.trans p.1 s) nD
  · rw [filterMap_range_succ, e]
    exact upd_same
  · exact Same.trans p.1 s
  · rw [filterMap_range_succ, e, s _ _ p.2]
    simp
theorem lc_rangeM {lo : Int} {n : Nat} {g : TG} {tt : TT} {te : TE} {vs : List Nat} {σ : St} {H1 : Hp} {D : Addr} {Qd : Hp → Prop} {τ : Tp} (R : Nat → V → Hp → Prop) (st : ∀ i v H H', R i v H → TK H H' → R i v H') (t : Tape τ H1) (nD : H1 D = none) (hn : n ≤ 100000)
    (hs : ∀ (i : Nat) (H : Hp) (N : V → Hp → Prop) (M : Hp → Prop), i < n → Mv τ H1 H → (∀ v H4, Mv τ H H4 → R i v H4 → N v H4) → g (.int (lo + (i : Int))) (wipe σ vs) H fun σ2 H2 => wipe σ2 vs = wipe σ vs ∧ tt σ2 H2 fun b H3 => if b = true then te σ2 H3 N else M H3)
    (hd : ∀ H acc, Mv τ H1 H → H D = some (.lst acc) → acc.length = n → (∀ (j : Nat) v, acc[j]? = some v → R j v H) → Qd H) : ∃ W : Nat → Nat → Hp → Prop, (∃ m, W 0 m (upd H1 D (.lst []))) ∧ ∀ i m H, W i m H →
      ((Itr lo n).stop i H ∧ Qd H) ∨ ((Itr lo n).go i H ∧ ∃ Nx : Hp → Prop, (∀ H', Nx H' → ∃ m', m' < m ∧ W (i + 1) m' H') ∧ ∀ x H', (Itr lo n).yld i H x H' → g x (wipe σ vs) H' fun σ2 H2 => wipe σ2 vs = wipe σ vs ∧ tt σ2 H2 fun b H3 =>
        if b = true then te σ2 H3 fun y H4 => ∃ acc, H4 D = some (.lst acc) ∧ acc.length < sizeLine ∧ Nx (upd H4 D (.lst (acc ++ [y]))) else Nx H3) := by
  refine lc_range (lo := lo) (n := n) (fun i H => Mv τ H1 H ∧ ∃ acc, H D = some (.lst acc) ∧ acc.length = i ∧ ∀ (j : Nat) v, acc[j]? = some v → R j v H) ⟨(t.mv).new nD, [], upd_same, rfl, fun j v e => by simp at e⟩ (fun i H hi p => ?_) (fun H p => ?_)
  · obtain ⟨m, acc, hD, hlen, hR⟩ := p
    have il : i < n := hi
    refine hs i H _ _ hi m (fun v H4 m4 r => ⟨acc, m4.keep _ _ (t.mv.neF nD) hD, lt_line (by omega), (m.trans m4).mut nD, acc ++ [v], upd_same, by rw [List.length_append, hlen]; rfl, fun j u e => ?_⟩)
    have k1 : TK H4 (upd H4 D (.lst (acc ++ [v]))) := TK.mut (m4.keep _ _ (t.mv.neF nD) hD)
    by_cases hj : j < acc.length
    · rw [List.getElem?_append_left hj] at e
      exact st _ _ _ _ (st _ _ _ _ (hR j u e) m4.tk) k1
    · rw [List.getElem?_append_right (by omega)] at e
      have hj2 : j = i := by
        have q := (List.getElem?_eq_some_iff.mp e).1
        rw [List.length_singleton] at q
        omega
      rw [hj2, hlen, Nat.sub_self] at e
      have e2 : v = u := Option.some.inj e
      rw [← e2, hj2]
      exact st _ _ _ _ r k1
  · obtain ⟨m, acc, hD, hlen, hR⟩ := p
    exact hd H acc m hD hlen hR
theorem lc_listF {K : PySem.W.Frag} {a : Addr} {xs : List V} {g : TG} {tt : TT} {te : TE} {vs : List Nat} {σ : St} {H1 : Hp} {D : Addr} {Qd : Hp → Prop} (f : Nat → Option V) (hx : H1 a = some (.lst xs)) (nD : H1 D = none) (hn : xs.length ≤ 100000)
    (hs : ∀ (i : Nat) (x : V) (H : Hp) (N : V → Hp → Prop) (M : Hp → Prop), xs[i]? = some x → Same H1 H → (∀ v H4, f i = some v → Same H H4 → N v H4) → (∀ H4, f i = none → Same H H4 → M H4) → g x (wipe σ vs) H fun σ2 H2 => wipe σ2 vs = wipe σ vs ∧ tt σ2 H2 fun b H3 => if b = true then te σ2 H3 N else M H3)
    (hd : ∀ H, Same H1 H → H D = some (.lst ((List.range xs.length).filterMap f)) → Qd H) : ∃ W : Nat → Nat → Hp → Prop, (∃ m, W 0 m (upd H1 D (.lst []))) ∧ ∀ i m H, W i m H →
      ((Itl K a).stop i H ∧ Qd H) ∨ ((Itl K a).go i H ∧ ∃ Nx : Hp → Prop, (∀ H', Nx H' → ∃ m', m' < m ∧ W (i + 1) m' H') ∧ ∀ x H', (Itl K a).yld i H x H' → g x (wipe σ vs) H' fun σ2 H2 => wipe σ2 vs = wipe σ vs ∧ tt σ2 H2 fun b H3 =>
        if b = true then te σ2 H3 fun y H4 => ∃ acc, H4 D = some (.lst acc) ∧ acc.length < sizeLine ∧ Nx (upd H4 D (.lst (acc ++ [y]))) else Nx H3) := by
  refine lc_list (K := K) (a := a) (xs := xs) (fun i H => Same H1 H ∧ H D = some (.lst ((List.range i).filterMap f))) ⟨Same.new (Same.refl H1) nD, upd_same⟩ (fun i H _ p => SqL.of (p.1 _ _ hx)) (fun i x H hi p => ?_) (fun H p => hd H p.1 p.2)
  have il : i < xs.length := (List.getElem?_eq_some_iff.mp hi).1
  have hz := filterMap_range_len f i
  refine hs i x H _ _ hi p.1 (fun v H4 e s => ⟨_, s _ _ p.2, lt_line (by omega), ?_, ?_⟩) (fun H4 e s => ⟨?_, ?_⟩)
  · exact Same.mut (Same.trans p.1 s) nD
  · rw [filterMap_range_succ, e]
    exact upd_same
  · exact Same.trans p.1 s
  · rw [filterMap_range_succ, e, s _ _ p.2]
    simp
theorem lc_listM {K : PySem.W.Frag} {a : Addr} {xs : List V} {g : TG} {tt : TT} {te : TE} {vs : List Nat} {σ : St} {H1 : Hp} {D : Addr} {Qd : Hp → Prop} {τ : Tp} (R : Nat → V → Hp → Prop) (st : ∀ i v H H', R i v H → TK H H' → R i v H') (hx : H1 a = some (.lst xs)) (ne_a : a ≠ τ.t) (t : Tape τ H1) (nD : H1 D = none) (hn : xs.length ≤ 100000)
    (hs : ∀ (i : Nat) (x : V) (H : Hp) (N : V → Hp → Prop) (M : Hp → Prop), xs[i]? = some x → Mv τ H1 H → (∀ v H4, Mv τ H H4 → R i v H4 → N v H4) → g x (wipe σ vs) H fun σ2 H2 => wipe σ2 vs = wipe σ vs ∧ tt σ2 H2 fun b H3 => if b = true then te σ2 H3 N else M H3)
    (hd : ∀ H acc, Mv τ H1 H → H D = some (.lst acc) → acc.length = xs.length → (∀ (j : Nat) v, acc[j]? = some v → R j v H) → Qd H) : ∃ W : Nat → Nat → Hp → Prop, (∃ m, W 0 m (upd H1 D (.lst []))) ∧ ∀ i m H, W i m H →
      ((Itl K a).stop i H ∧ Qd H) ∨ ((Itl K a).go i H ∧ ∃ Nx : Hp → Prop, (∀ H', Nx H' → ∃ m', m' < m ∧ W (i + 1) m' H') ∧ ∀ x H', (Itl K a).yld i H x H' → g x (wipe σ vs) H' fun σ2 H2 => wipe σ2 vs = wipe σ vs ∧ tt σ2 H2 fun b H3 =>
        if b = true then te σ2 H3 fun y H4 => ∃ acc, H4 D = some (.lst acc) ∧ acc.length < sizeLine ∧ Nx (upd H4 D (.lst (acc ++ [y]))) else Nx H3) := by
  refine lc_list (K := K) (a := a) (xs := xs) (fun i H => Mv τ H1 H ∧ ∃ acc, H D = some (.lst acc) ∧ acc.length = i ∧ ∀ (j : Nat) v, acc[j]? = some v → R j v H) ⟨(t.mv).new nD, [], upd_same, rfl, fun j v e => by simp at e⟩ (fun i H _ p => SqL.of (p.1.keep _ _ ne_a hx)) (fun i x H hi p => ?_) (fun H p => ?_)
  · obtain ⟨m, acc, hD, hlen, hR⟩ := p
    have il : i < xs.length := (List.getElem?_eq_some_iff.mp hi).1
    refine hs i x H _ _ hi m (fun v H4 m4 r => ⟨acc, m4.keep _ _ (t.mv.neF nD) hD, lt_line (by omega), (m.trans m4).mut nD, acc ++ [v], upd_same, by rw [List.length_append, hlen]; rfl, fun j u e => ?_⟩)
    have k1 : TK H4 (upd H4 D (.lst (acc ++ [v]))) := TK.mut (m4.keep _ _ (t.mv.neF nD) hD)
    by_cases hj : j < acc.length
    · rw [List.getElem?_append_left hj] at e
      exact st _ _ _ _ (st _ _ _ _ (hR j u e) m4.tk) k1
    · rw [List.getElem?_append_right (by omega)] at e
      have hj2 : j = i := by
        have q := (List.getElem?_eq_some_iff.mp e).1
        rw [List.length_singleton] at q
        omega
      rw [hj2, hlen, Nat.sub_self] at e
      have e2 : v = u := Option.some.inj e
      rw [← e2, hj2]
      exact st _ _ _ _ r k1
  · obtain ⟨m, acc, hD, hlen, hR⟩ := p
    exact hd H acc m hD hlen hR
theorem lc_tupF {K : PySem.W.Frag} {a : Addr} {xs : List V} {g : TG} {tt : TT} {te : TE} {vs : List Nat} {σ : St} {H1 : Hp} {D : Addr} {Qd : Hp → Prop} (f : Nat → Option V) (hx : H1 a = some (.tup xs)) (nD : H1 D = none) (hn : xs.length ≤ 100000)
    (hs : ∀ (i : Nat) (x : V) (H : Hp) (N : V → Hp → Prop) (M : Hp → Prop), xs[i]? = some x → Same H1 H → (∀ v H4, f i = some v → Same H H4 → N v H4) → (∀ H4, f i = none → Same H H4 → M H4) → g x (wipe σ vs) H fun σ2 H2 => wipe σ2 vs = wipe σ vs ∧ tt σ2 H2 fun b H3 => if b = true then te σ2 H3 N else M H3)
    (hd : ∀ H, Same H1 H → H D = some (.lst ((List.range xs.length).filterMap f)) → Qd H) : ∃ W : Nat → Nat → Hp → Prop, (∃ m, W 0 m (upd H1 D (.lst []))) ∧ ∀ i m H, W i m H →
      ((Itt K a).stop i H ∧ Qd H) ∨ ((Itt K a).go i H ∧ ∃ Nx : Hp → Prop, (∀ H', Nx H' → ∃ m', m' < m ∧ W (i + 1) m' H') ∧ ∀ x H', (Itt K a).yld i H x H' → g x (wipe σ vs) H' fun σ2 H2 => wipe σ2 vs = wipe σ vs ∧ tt σ2 H2 fun b H3 =>
        if b = true then te σ2 H3 fun y H4 => ∃ acc, H4 D = some (.lst acc) ∧ acc.length < sizeLine ∧ Nx (upd H4 D (.lst (acc ++ [y]))) else Nx H3) := by
  refine lc_tup (K := K) (a := a) (xs := xs) (fun i H => Same H1 H ∧ H D = some (.lst ((List.range i).filterMap f))) ⟨Same.new (Same.refl H1) nD, upd_same⟩ (fun i H _ p => SqT.of (p.1 _ _ hx)) (fun i x H hi p => ?_) (fun H p => hd H p.1 p.2)
  have il : i < xs.length := (List.getElem?_eq_some_iff.mp hi).1
  have hz := filterMap_range_len f i
  refine hs i x H _ _ hi p.1 (fun v H4 e s => ⟨_, s _ _ p.2, lt_line (by omega), ?_, ?_⟩) (fun H4 e s => ⟨?_, ?_⟩)
  · exact Same.mut (Same.trans p.1 s) nD
  · rw [filterMap_range_succ, e]
    exact upd_same
  · exact Same.trans p.1 s
  · rw [filterMap_range_succ, e, s _ _ p.2]
    simp
theorem lc_tupM {K : PySem.W.Frag} {a : Addr} {xs : List V} {g : TG} {tt : TT} {te : TE} {vs : List Nat} {σ : St} {H1 : Hp} {D : Addr} {Qd : Hp → Prop} {τ : Tp} (R : Nat → V → Hp → Prop) (st : ∀ i v H H', R i v H → TK H H' → R i v H') (hx : H1 a = some (.tup xs)) (ne_a : a ≠ τ.t) (t : Tape τ H1) (nD : H1 D = none) (hn : xs.length ≤ 100000)
    (hs : ∀ (i : Nat) (x : V) (H : Hp) (N : V → Hp → Prop) (M : Hp → Prop), xs[i]? = some x → Mv τ H1 H → (∀ v H4, Mv τ H H4 → R i v H4 → N v H4) → g x (wipe σ vs) H fun σ2 H2 => wipe σ2 vs = wipe σ vs ∧ tt σ2 H2 fun b H3 => if b = true then te σ2 H3 N else M H3)
    (hd : ∀ H acc, Mv τ H1 H → H D = some (.lst acc) → acc.length = xs.length → (∀ (j : Nat) v, acc[j]? = some v → R j v H) → Qd H) : ∃ W : Nat → Nat → Hp → Prop, (∃ m, W 0 m (upd H1 D (.lst []))) ∧ ∀ i m H, W i m H →
      ((Itt K a).stop i H ∧ Qd H) ∨ ((Itt K a).go i H ∧ ∃ Nx : Hp → Prop, (∀ H', Nx H' → ∃ m', m' < m ∧ W (i + 1) m' H') ∧ ∀ x H', (Itt K a).yld i H x H' → g x (wipe σ vs) H' fun σ2 H2 => wipe σ2 vs = wipe σ vs ∧ tt σ2 H2 fun b H3 =>
        if b = true then te σ2 H3 fun y H4 => ∃ acc, H4 D = some (.lst acc) ∧ acc.length < sizeLine ∧ Nx (upd H4 D (.lst (acc ++ [y]))) else Nx H3) := by
  refine lc_tup (K := K) (a := a) (xs := xs) (fun i H => Mv τ H1 H ∧ ∃ acc, H D = some (.lst acc) ∧ acc.length = i ∧ ∀ (j : Nat) v, acc[j]? = some v → R j v H) ⟨(t.mv).new nD, [], upd_same, rfl, fun j v e => by simp at e⟩ (fun i H _ p => SqT.of (p.1.keep _ _ ne_a hx)) (fun i x H hi p => ?_) (fun H p => ?_)
  · obtain ⟨m, acc, hD, hlen, hR⟩ := p
    have il : i < xs.length := (List.getElem?_eq_some_iff.mp hi).1
    refine hs i x H _ _ hi m (fun v H4 m4 r => ⟨acc, m4.keep _ _ (t.mv.neF nD) hD, lt_line (by omega), (m.trans m4).mut nD, acc ++ [v], upd_same, by rw [List.length_append, hlen]; rfl, fun j u e => ?_⟩)
    have k1 : TK H4 (upd H4 D (.lst (acc ++ [v]))) := TK.mut (m4.keep _ _ (t.mv.neF nD) hD)
    by_cases hj : j < acc.length
    · rw [List.getElem?_append_left hj] at e
      exact st _ _ _ _ (st _ _ _ _ (hR j u e) m4.tk) k1
    · rw [List.getElem?_append_right (by omega)] at e
      have hj2 : j = i := by
        have q := (List.getElem?_eq_some_iff.mp e).1
        rw [List.length_singleton] at q
        omega
      rw [hj2, hlen, Nat.sub_self] at e
      have e2 : v = u := Option.some.inj e
      rw [← e2, hj2]
      exact st _ _ _ _ r k1
  · obtain ⟨m, acc, hD, hlen, hR⟩ := p
    exact hd H acc m hD hlen hR
/-! ### comprehensions over zip -/
theorem lc_zipLF {K : PySem.W.Frag} {a b : Addr} {xs ys : List V} {g : TG} {tt : TT} {te : TE} {vs : List Nat} {σ : St} {H1 : Hp} {D : Addr} {Qd : Hp → Prop} (f : Nat → Option V) (hx : H1 a = some (.lst xs)) (hy : H1 b = some (.lst ys)) (hl : xs.length = ys.length) (nD : H1 D = none) (hn : xs.length ≤ 100000)
    (hs : ∀ (i : Nat) (x y : V) (Z : Addr) (H : Hp) (N : V → Hp → Prop) (M : Hp → Prop), xs[i]? = some x → ys[i]? = some y → Same H1 H → H Z = some (.tup [x, y]) → (∀ v H4, f i = some v → Same H H4 → N v H4) → (∀ H4, f i = none → Same H H4 → M H4) → g (.ref Z) (wipe σ vs) H fun σ2 H2 => wipe σ2 vs = wipe σ vs ∧ tt σ2 H2 fun b H3 => if b = true then te σ2 H3 N else M H3)
    (hd : ∀ H, Same H1 H → H D = some (.lst ((List.range xs.length).filterMap f)) → Qd H) : ∃ W : Nat → Nat → Hp → Prop, (∃ m, W 0 m (upd H1 D (.lst []))) ∧ ∀ i m H, W i m H →
      ((Itz K a b).stop i H ∧ Qd H) ∨ ((Itz K a b).go i H ∧ ∃ Nx : Hp → Prop, (∀ H', Nx H' → ∃ m', m' < m ∧ W (i + 1) m' H') ∧ ∀ x H', (Itz K a b).yld i H x H' → g x (wipe σ vs) H' fun σ2 H2 => wipe σ2 vs = wipe σ vs ∧ tt σ2 H2 fun b H3 =>
        if b = true then te σ2 H3 fun y H4 => ∃ acc, H4 D = some (.lst acc) ∧ acc.length < sizeLine ∧ Nx (upd H4 D (.lst (acc ++ [y]))) else Nx H3) := by
  refine ⟨fun i m H => m = xs.length - i ∧ i ≤ xs.length ∧ Same H1 H ∧ H D = some (.lst ((List.range i).filterMap f)), ⟨xs.length, rfl, Nat.zero_le _, Same.new (Same.refl H1) nD, upd_same⟩, ?_⟩
  rintro i m H ⟨rfl, hi, s, hD⟩
  have qx : SqL K H a xs := SqL.of (s _ _ hx)
  have qy : SqL K H b ys := SqL.of (s _ _ hy)
  have hz := filterMap_range_len f i
  by_cases hlt : i < xs.length
  · have ex : xs[i]? = some xs[i] := List.getElem?_eq_getElem hlt
    have hlt2 : i < ys.length := by omega
    have ey : ys[i]? = some ys[i] := List.getElem?_eq_getElem hlt2
    refine .inr ⟨⟨xs, ys, _, _, qx, qy, ex, ey⟩, fun H => i < xs.length ∧ Same H1 H ∧ H D = some (.lst ((List.range (i + 1)).filterMap f)), fun H' p' => ⟨xs.length - (i + 1), by omega, rfl, hlt, p'.2⟩, fun v H' y => ?_⟩
    obtain ⟨Z, x', y', rfl, hZ, rfl, f1, f2⟩ := y
    have s1 : Same H (upd H Z (.tup [x', y'])) := Same.new (Same.refl H) hZ
    refine hs i x' y' Z _ _ _ (f1 xs qx) (f2 ys qy) (s.trans s1) upd_same (fun v H4 e s4 => ⟨_, s4 _ _ (s1 _ _ hD), lt_line (by omega), hlt, ?_, ?_⟩) (fun H4 e s4 => ⟨hlt, ?_, ?_⟩)
    · exact Same.mut ((s.trans s1).trans s4) nD
    · rw [filterMap_range_succ, e]
      exact upd_same
    · exact (s.trans s1).trans s4
    · rw [filterMap_range_succ, e, s4 _ _ (s1 _ _ hD)]
      simp
  · have e : i = xs.length := by omega
    subst e
    exact .inl ⟨⟨xs, ys, qx, qy, Or.inl (Nat.le_refl _)⟩, hd H s hD⟩
theorem lc_zipTF {K : PySem.W.Frag} {a b : Addr} {xs ys : List V} {g : TG} {tt : TT} {te : TE} {vs : List Nat} {σ : St} {H1 : Hp} {D : Addr} {Qd : Hp → Prop} (f : Nat → Option V) (hx : H1 a = some (.tup xs)) (hy : H1 b = some (.tup ys)) (hl : xs.length = ys.length) (nD : H1 D = none) (hn : xs.length ≤ 100000)
    (hs : ∀ (i : Nat) (x y : V) (Z : Addr) (H : Hp) (N : V → Hp → Prop) (M : Hp → Prop), xs[i]? = some x → ys[i]? = some y → Same H1 H → H Z = some (.tup [x, y]) → (∀ v H4, f i = some v → Same H H4 → N v H4) → (∀ H4, f i = none → Same H H4 → M H4) → g (.ref Z) (wipe σ vs) H fun σ2 H2 => wipe σ2 vs = wipe σ vs ∧ tt σ2 H2 fun b H3 => if b = true then te σ2 H3 N else M H3)
    (hd : ∀ H, Same H1 H → H D = some (.lst ((List.range xs.length).filterMap f)) → Qd H) : ∃ W : Nat → Nat → Hp → Prop, (∃ m, W 0 m (upd H1 D (.lst []))) ∧ ∀ i m H, W i m H →
      ((RZ.ItzT K a b).stop i H ∧ Qd H) ∨ ((RZ.ItzT K a b).go i H ∧ ∃ Nx : Hp → Prop, (∀ H', Nx H' → ∃ m', m' < m ∧ W (i + 1) m' H') ∧ ∀ x H', (RZ.ItzT K a b).yld i H x H' → g x (wipe σ vs) H' fun σ2 H2 => wipe σ2 vs = wipe σ vs ∧ tt σ2 H2 fun b H3 =>
        if b = true then te σ2 H3 fun y H4 => ∃ acc, H4 D = some (.lst acc) ∧ acc.length < sizeLine ∧ Nx (upd H4 D (.lst (acc ++ [y]))) else Nx H3) := by
  refine ⟨fun i m H => m = xs.length - i ∧ i ≤ xs.length ∧ Same H1 H ∧ H D = some (.lst ((List.range i).filterMap f)), ⟨xs.length, rfl, Nat.zero_le _, Same.new (Same.refl H1) nD, upd_same⟩, ?_⟩
  rintro i m H ⟨rfl, hi, s, hD⟩
  have qx : SqT K H a xs := SqT.of (s _ _ hx)
  have qy : SqT K H b ys := SqT.of (s _ _ hy)
  have hz := filterMap_range_len f i
  by_cases hlt : i < xs.length
  · have ex : xs[i]? = some xs[i] := List.getElem?_eq_getElem hlt
    have hlt2 : i < ys.length := by omega
    have ey : ys[i]? = some ys[i] := List.getElem?_eq_getElem hlt2
    refine .inr ⟨⟨xs, ys, _, _, qx, qy, ex, ey⟩, fun H => i < xs.length ∧ Same H1 H ∧ H D = some (.lst ((List.range (i + 1)).filterMap f)), fun H' p' => ⟨xs.length - (i + 1), by omega, rfl, hlt, p'.2⟩, fun v H' y => ?_⟩
    obtain ⟨Z, x', y', rfl, hZ, rfl, f1, f2⟩ := y
    have s1 : Same H (upd H Z (.tup [x', y'])) := Same.new (Same.refl H) hZ
    refine hs i x' y' Z _ _ _ (f1 xs qx) (f2 ys qy) (s.trans s1) upd_same (fun v H4 e s4 => ⟨_, s4 _ _ (s1 _ _ hD), lt_line (by omega), hlt, ?_, ?_⟩) (fun H4 e s4 => ⟨hlt, ?_, ?_⟩)
    · exact Same.mut ((s.trans s1).trans s4) nD
    · rw [filterMap_range_succ, e]
      exact upd_same
    · exact (s.trans s1).trans s4
    · rw [filterMap_range_succ, e, s4 _ _ (s1 _ _ hD)]
      simp
  · have e : i = xs.length := by omega
    subst e
    exact .inl ⟨⟨xs, ys, qx, qy, Or.inl (Nat.le_refl _)⟩, hd H s hD⟩
/-! comprehensions whose items are new things -/
theorem lc_rangeR {lo : Int} {n : Nat} {g : TG} {tt : TT} {te : TE} {vs : List Nat} {σ : St} {H1 : Hp} {D : Addr} {Qd : Hp → Prop} (R : Nat → V → Hp → Prop) (st : ∀ i v H H', R i v H → TK H H' → R i v H') (nD : H1 D = none) (hn : n ≤ 100000)
    (hs : ∀ (i : Nat) (H : Hp) (N : V → Hp → Prop) (M : Hp → Prop), i < n → Same H1 H → (∀ v H4, Same H H4 → R i v H4 → N v H4) → g (.int (lo + (i : Int))) (wipe σ vs) H fun σ2 H2 => wipe σ2 vs = wipe σ vs ∧ tt σ2 H2 fun b H3 => if b = true then te σ2 H3 N else M H3)
    (hd : ∀ H acc, Same H1 H → H D = some (.lst acc) → acc.length = n → (∀ (j : Nat) v, acc[j]? = some v → R j v H) → Qd H) : ∃ W : Nat → Nat → Hp → Prop, (∃ m, W 0 m (upd H1 D (.lst []))) ∧ ∀ i m H, W i m H →
      ((Itr lo n).stop i H ∧ Qd H) ∨ ((Itr lo n).go i H ∧ ∃ Nx : Hp → Prop, (∀ H', Nx H' → ∃ m', m' < m ∧ W (i + 1) m' H') ∧ ∀ x H', (Itr lo n).yld i H x H' → g x (wipe σ vs) H' fun σ2 H2 => wipe σ2 vs = wipe σ vs ∧ tt σ2 H2 fun b H3 =>
        if b = true then te σ2 H3 fun y H4 => ∃ acc, H4 D = some (.lst acc) ∧ acc.length < sizeLine ∧ Nx (upd H4 D (.lst (acc ++ [y]))) else Nx H3) := by
  refine lc_range (lo := lo) (n := n) (fun i H => Same H1 H ∧ ∃ acc, H D = some (.lst acc) ∧ acc.length = i ∧ ∀ (j : Nat) v, acc[j]? = some v → R j v H) ⟨Same.new (Same.refl H1) nD, [], upd_same, rfl, fun j v e => by simp at e⟩ (fun i H hi p => ?_) (fun H p => ?_)
  · obtain ⟨m, acc, hD, hlen, hR⟩ := p
    have il : i < n := hi
    refine hs i H _ _ hi m (fun v H4 m4 r => ⟨acc, m4 _ _ hD, lt_line (by omega), Same.mut (Same.trans m m4) nD, acc ++ [v], upd_same, by rw [List.length_append, hlen]; rfl, fun j u e => ?_⟩)
    have k1 : TK H4 (upd H4 D (.lst (acc ++ [v]))) := TK.mut (m4 _ _ hD)
    by_cases hj : j < acc.length
    · rw [List.getElem?_append_left hj] at e
      exact st _ _ _ _ (st _ _ _ _ (hR j u e) (Same.tk m4)) k1
    · rw [List.getElem?_append_right (by omega)] at e
      have hj2 : j = i := by
        have q := (List.getElem?_eq_some_iff.mp e).1
        rw [List.length_singleton] at q
        omega
      rw [hj2, hlen, Nat.sub_self] at e
      have e2 : v = u := Option.some.inj e
      rw [← e2, hj2]
      exact st _ _ _ _ r k1
  · obtain ⟨m, acc, hD, hlen, hR⟩ := p
    exact hd H acc m hD hlen hR
theorem lc_listR {K : PySem.W.Frag} {a : Addr} {xs : List V} {g : TG} {tt : TT} {te : TE} {vs : List Nat} {σ : St} {H1 : Hp} {D : Addr} {Qd : Hp → Prop} (R : Nat → V → Hp → Prop) (st : ∀ i v H H', R i v H → TK H H' → R i v H') (hx : H1 a = some (.lst xs)) (nD : H1 D = none) (hn : xs.length ≤ 100000)
    (hs : ∀ (i : Nat) (x : V) (H : Hp) (N : V → Hp → Prop) (M : Hp → Prop), xs[i]? = some x → Same H1 H → (∀ v H4, Same H H4 → R i v H4 → N v H4) → g x (wipe σ vs) H fun σ2 H2 => wipe σ2 vs = wipe σ vs ∧ tt σ2 H2 fun b H3 => if b = true then te σ2 H3 N else M H3)
    (hd : ∀ H acc, Same H1 H → H D = some (.lst acc) → acc.length = xs.length → (∀ (j : Nat) v, acc[j]? = some v → R j v H) → Qd H) : ∃ W : Nat → Nat → Hp → Prop, (∃ m, W 0 m (upd H1 D (.lst []))) ∧ ∀ i m H, W i m H →
      ((Itl K a).stop i H ∧ Qd H) ∨ ((Itl K a).go i H ∧ ∃ Nx : Hp → Prop, (∀ H', Nx H' → ∃ m', m' < m ∧ W (i + 1) m' H') ∧ ∀ x H', (Itl K a).yld i H x H' → g x (wipe σ vs) H' fun σ2 H2 => wipe σ2 vs = wipe σ vs ∧ tt σ2 H2 fun b H3 =>
        if b = true then te σ2 H3 fun y H4 => ∃ acc, H4 D = some (.lst acc) ∧ acc.length < sizeLine ∧ Nx (upd H4 D (.lst (acc ++ [y]))) else Nx H3) := by
  refine lc_list (K := K) (a := a) (xs := xs) (fun i H => Same H1 H ∧ ∃ acc, H D = some (.lst acc) ∧ acc.length = i ∧ ∀ (j : Nat) v, acc[j]? = some v → R j v H) ⟨Same.new (Same.refl H1) nD, [], upd_same, rfl, fun j v e => by simp at e⟩ (fun i H _ p => SqL.of (p.1 _ _ hx)) (fun i x H hi p => ?_) (fun H p => ?_)
  · obtain ⟨m, acc, hD, hlen, hR⟩ := p
    have il : i < xs.length := (List.getElem?_eq_some_iff.mp hi).1
    refine hs i x H _ _ hi m (fun v H4 m4 r => ⟨acc, m4 _ _ hD, lt_line (by omega), Same.mut (Same.trans m m4) nD, acc ++ [v], upd_same, by rw [List.length_append, hlen]; rfl, fun j u e => ?_⟩)
    have k1 : TK H4 (upd H4 D (.lst (acc ++ [v]))) := TK.mut (m4 _ _ hD)
    by_cases hj : j < acc.length
    · rw [List.getElem?_append_left hj] at e
      exact st _ _ _ _ (st _ _ _ _ (hR j u e) (Same.tk m4)) k1
    · rw [List.getElem?_append_right (by omega)] at e
      have hj2 : j = i := by
        have q := (List.getElem?_eq_some_iff.mp e).1
        rw [List.length_singleton] at q
        omega
      rw [hj2, hlen, Nat.sub_self] at e
      have e2 : v = u := Option.some.inj e
      rw [← e2, hj2]
      exact st _ _ _ _ r k1
  · obtain ⟨m, acc, hD, hlen, hR⟩ := p
    exact hd H acc m hD hlen hR
theorem lc_tupR {K : PySem.W.Frag} {a : Addr} {xs : List V} {g : TG} {tt : TT} {te : TE} {vs : List Nat} {σ : St} {H1 : Hp} {D : Addr} {Qd : Hp → Prop} (R : Nat → V → Hp → Prop) (st : ∀ i v H H', R i v H → TK H H' → R i v H') (hx : H1 a = some (.tup xs)) (nD : H1 D = none) (hn : xs.length ≤ 100000)
    (hs : ∀ (i : Nat) (x : V) (H : Hp) (N : V → Hp → Prop) (M : Hp → Prop), xs[i]? = some x → Same H1 H → (∀ v H4, Same H H4 → R i v H4 → N v H4) → g x (wipe σ vs) H fun σ2 H2 => wipe σ2 vs = wipe σ vs ∧ tt σ2 H2 fun b H3 => if b = true then te σ2 H3 N else M H3)
    (hd : ∀ H acc, Same H1 H → H D = some (.lst acc) → acc.length = xs.length → (∀ (j : Nat) v, acc[j]? = some v → R j v H) → Qd H) : ∃ W : Nat → Nat → Hp → Prop, (∃ m, W 0 m (upd H1 D (.lst []))) ∧ ∀ i m H, W i m H →
      ((Itt K a).stop i H ∧ Qd H) ∨ ((Itt K a).go i H ∧ ∃ Nx : Hp → Prop, (∀ H', Nx H' → ∃ m', m' < m ∧ W (i + 1) m' H') ∧ ∀ x H', (Itt K a).yld i H x H' → g x (wipe σ vs) H' fun σ2 H2 => wipe σ2 vs = wipe σ vs ∧ tt σ2 H2 fun b H3 =>
        if b = true then te σ2 H3 fun y H4 => ∃ acc, H4 D = some (.lst acc) ∧ acc.length < sizeLine ∧ Nx (upd H4 D (.lst (acc ++ [y]))) else Nx H3) := by
  refine lc_tup (K := K) (a := a) (xs := xs) (fun i H => Same H1 H ∧ ∃ acc, H D = some (.lst acc) ∧ acc.length = i ∧ ∀ (j : Nat) v, acc[j]? = some v → R j v H) ⟨Same.new (Same.refl H1) nD, [], upd_same, rfl, fun j v e => by simp at e⟩ (fun i H _ p => SqT.of (p.1 _ _ hx)) (fun i x H hi p => ?_) (fun H p => ?_)
  · obtain ⟨m, acc, hD, hlen, hR⟩ := p
    have il : i < xs.length := (List.getElem?_eq_some_iff.mp hi).1
    refine hs i x H _ _ hi m (fun v H4 m4 r => ⟨acc, m4 _ _ hD, lt_line (by omega), Same.mut (Same.trans m m4) nD, acc ++ [v], upd_same, by rw [List.length_append, hlen]; rfl, fun j u e => ?_⟩)
    have k1 : TK H4 (upd H4 D (.lst (acc ++ [v]))) := TK.mut (m4 _ _ hD)
    by_cases hj : j < acc.length
    · rw [List.getElem?_append_left hj] at e
      exact st _ _ _ _ (st _ _ _ _ (hR j u e) (Same.tk m4)) k1
    · rw [List.getElem?_append_right (by omega)] at e
      have hj2 : j = i := by
        have q := (List.getElem?_eq_some_iff.mp e).1
        rw [List.length_singleton] at q
        omega
      rw [hj2, hlen, Nat.sub_self] at e
      have e2 : v = u := Option.some.inj e
      rw [← e2, hj2]
      exact st _ _ _ _ r k1
  · obtain ⟨m, acc, hD, hlen, hR⟩ := p
    exact hd H acc m hD hlen hR
/-! comprehensions within comprehensions -/
theorem blk_in {X : Cx} {s : Shared} {H : Hp} {sc0 sc1 scope : Scope} {cl : List (Str × Addr)} {C : Addr} {env : Env} {fp : List Addr} {N : List Str} {own : List (Str × Nat)} (hN : X.N = N) (hs : env.scope = sc1) (h : blkC N (relS sc0 sc1) scope own = true) :
    BlkOk (X.blk s H sc0 (compEnvC sc0 cl C env) fp).N (X.blk s H sc0 (compEnvC sc0 cl C env) fp).env.scope scope own := by
  subst hN hs
  exact blkOk_by h
theorem pi_tupK {X : Cx} {K : PySem.W.Frag} {tg l : Expr} {tl : TE} (hK : X.K = K) (h : PE X l tl) : PI X tg l (iTup K tl) := by
  subst hK
  exact pi_tup h
theorem pi_listK {X : Cx} {K : PySem.W.Frag} {tg l : Expr} {tl : TE} (hK : X.K = K) (h : PE X l tl) : PI X tg l (iList K tl) := by
  subst hK
  exact pi_list h
theorem pe_fldK {X : Cx} {K : PySem.W.Frag} {e : Expr} {f : Str} {pos : Pos} {ta : TE} (hK : X.K = K) (h : PE X e ta) (hb : attributeBase e f X.env (eval e X.env) = eval e X.env) : PE X (.Attribute e f pos) (tFld K ta f) := by
  subst hK
  exact pe_fld h hb
theorem pg_tupK {X : Cx} {K : PySem.W.Frag} {es : List Expr} {k : Nat} {pos : Pos} {t : TGs} (n : Nat) (hc : X.calm = true) (hK : X.K = K) (h : PGs X es t)
    (hn : (assignEach es X.env).length = n := by rfl) (hst : (assignEach es X.env).findIdx? (·.1) = none := by rfl) : PG X (.Tuple es k pos) (gTup K n t) := by
  subst hK
  exact pg_tup hc h hn hst
/-! ### words -/
theorem tYes_go {σ : L2.St} {H : Hp} {Q : Bool → Hp → Prop} (h : Q true H) : tYes σ H Q := h
local macro_rules | `(tactic| tm_at "fld") => `(tactic| fail "fld")
local macro_rules | `(tactic| tm_at "hp") => `(tactic| first
  | assumption
  | (with_reducible exact upd_same)
  | exact Same.at (by assumption) (by tm_at "hp")
  | exact Mv.atT (by assumption) (by tm_at "hp")
  | exact Mv.at' (by assumption) (by tm_at "hp") (by tm_at "ne")
  | ((rw [upd_ne ?n]) <;> first | (tm_at "hp") | (tm_at "ne") | fail "upd")
  | fail "hp")
local macro_rules | `(tactic| tm_at "ne") => `(tactic| first
  | assumption
  | exact Ne.symm (by assumption)
  | exact Nw.ne (by assumption) (by tm_at "hp")
  | exact Ne.symm (Nw.ne (by assumption) (by tm_at "hp"))
  | fail "ne")
local macro_rules | `(tactic| tm_at "sq") => `(tactic| first
  | assumption
  | exact SqL.of (by tm_at "hp")
  | exact Same.seq (by assumption) (by tm_at "sq")
  | fail "sq")
local macro_rules | `(tactic| tm_at "sqt") => `(tactic| first
  | assumption
  | exact SqT.of (by tm_at "hp")
  | fail "sqt")
local macro_rules | `(tactic| tm_at "len") => `(tactic| first
  | omega
  | ((simp only [List.length_map, List.length_append, List.length_singleton, List.length_cons, List.length_nil, List.length_replicate, List.length_range]); omega)
  | fail "len")
local macro_rules | `(tactic| tm_at "sd") => `(tactic| first
  | decide
  | omega
  | exact ⟨by decide, by decide⟩
  | exact ⟨by omega, by omega⟩
  | exact Or.inr ⟨by decide, by decide⟩
  | exact Or.inl ⟨by omega, by omega⟩
  | exact Or.inl ⟨by decide, by decide⟩
  | exact Or.inr ⟨by omega, by omega⟩
  | exact Or.inl (fmod64 (by decide) (by decide))
  | exact ⟨by decide, by decide, by decide⟩
  | fail "sd")
local macro_rules | `(tactic| tm_at "w") => `(tactic| repeat (first
  | (with_reducible refine iteDY (by omega) ?_)
  | (with_reducible refine iteDN (by omega) ?_)
  | (refine ⟨_, rfl, ?_⟩)
  | (refine ⟨_, _, rfl, rfl, ?_⟩)
  | (refine ⟨_, _, _, _, rfl, rfl, by tm_at "sq", by rfl, ?_⟩)
  | (refine ⟨_, _, _, _, rfl, rfl, by tm_at "hp", by rfl, ?_⟩)
  | (refine ⟨_, _, _, _, rfl, rfl, by tm_at "sqt", by rfl, ?_⟩)
  | (refine ⟨_, _, _, _, rfl, rfl, by tm_at "sqt", atI_nat (by assumption), ?_⟩)
  | (refine ⟨_, _, _, _, rfl, rfl, by tm_at "sq", atI_nat (by assumption), ?_⟩)
  | (refine ⟨_, _, rfl, by tm_at "sqt", rfl, _, _, rfl, _, _, rfl, rfl, ?_⟩)
  | (refine ⟨_, _, rfl, by tm_at "sqt", rfl, _, _, rfl, _, _, rfl, _, _, rfl, rfl, ?_⟩)
  | (refine ⟨_, _, _, _, _, rfl, ClsV.ty _, by assumption, by assumption, ?_⟩)
  | (refine And.intro (rfl : scal _ _ = true) ?_)
  | (with_reducible refine iteET (by rfl) ?_)
  | (with_reducible refine iteEF (by rfl) ?_)
  | (refine And.intro (IntK.int _) ?_)
  | (with_reducible refine tYes_go ?_)
  | (refine And.intro (by (with_reducible refine le_lineB ?_); rfl) ?_)
  | (refine ⟨_, _, rfl, Or.inl ⟨SqL.of (by tm_at "hp"), ?_⟩⟩)
  | (refine And.intro (Or.inl ⟨rfl, _, SqL.of (by tm_at "hp")⟩) ?_)
  | (refine ⟨_, _, _, rfl, rfl, by tm_at "hp", lt_line (by tm_at "len"), ?_⟩)
  | (refine And.intro rfl ?_)
  | (refine Or.inl ⟨_, rfl, ?_⟩)
  | (refine ⟨_, _, rfl, Or.inl (by tm_at "sq"), ?_⟩)
  | (refine ⟨_, _, rfl, Or.inr (by tm_at "sqt"), ?_⟩)
  | (refine And.intro (by tm_at "sd") ?_)
  | (tm_at "fld")
  | fail "w"))
/-! ### lists of whole numbers -/
/-- an item of a list is a whole number -/
def IsI (v : V) : Prop := ∃ i : Int, v = .int i
theorem ints_of {xs : List V} (h : ∀ v ∈ xs, IsI v) : ∃ ns : List Int, xs = ns.map V.int := by
  induction xs with
  | nil => exact ⟨[], rfl⟩
  | cons x r ih =>
    obtain ⟨ns, e⟩ := ih fun v hv => h v (List.mem_cons_of_mem _ hv)
    obtain ⟨i, ei⟩ := h x List.mem_cons_self
    exact ⟨i :: ns, by rw [ei, e]; rfl⟩
theorem ints_at {xs : List V} (h : ∀ (j : Nat) v, xs[j]? = some v → IsI v) : ∃ ns : List Int, xs = ns.map V.int := ints_of fun v hv => by
  obtain ⟨j, hj, e⟩ := List.mem_iff_getElem.mp hv
  exact h j v (by rw [List.getElem?_eq_getElem hj, e])
theorem mem_app {P : V → Prop} {xs : List V} {y : V} (h : ∀ v ∈ xs, P v) (hy : P y) : ∀ v ∈ xs ++ [y], P v := fun v hv => by
  rcases List.mem_append.mp hv with hv | hv
  · exact h v hv
  · rw [List.mem_singleton.mp hv]
    exact hy
theorem len_app {xs : List V} {y : V} {n : Nat} (h : xs.length = n) : (xs ++ [y]).length = n + 1 := by
  rw [List.length_append, h]
  rfl
/-- the item at a place of a list of whole numbers -/
theorem int_here {ns : List Int} {i : Nat} {x : V} (h : (ns.map V.int)[i]? = some x) : ∃ z, ns[i]? = some z ∧ x = .int z ∧ i < ns.length := by
  rw [List.getElem?_map] at h
  cases e : ns[i]? with
  | none => rw [e] at h; cases h
  | some z => rw [e] at h; exact ⟨z, rfl, (Option.some.inj h).symm, (List.getElem?_eq_some_iff.mp e).1⟩
theorem map_snoc (ks : List Int) (k : Int) : ks.map V.int ++ [V.int k] = (ks ++ [k]).map V.int := by rw [List.map_append]; rfl
theorem inV_int (k : Int) (ks : List Int) : inV (.int k) (ks.map V.int) = decide (k ∈ ks) := by
  unfold inV
  rw [List.any_map]
  by_cases h : k ∈ ks
  · rw [decide_eq_true h]
    exact List.any_eq_true.mpr ⟨k, h, beq_self_eq_true k⟩
  · rw [decide_eq_false h]
    refine List.any_eq_false.mpr fun y hy z => h ?_
    have e : y = k := eq_of_beq (show (y == k) = true from z)
    rw [← e]
    exact hy
theorem flat_ints (ks : List Int) : (ks.map V.int).all flatV = true := List.all_eq_true.mpr fun v hv => by
  obtain ⟨i, _, rfl⟩ := List.mem_map.mp hv
  rfl
theorem len_of_same {a b : List Int} (ha : a.Nodup) (hb : b.Nodup) (h : ∀ k, k ∈ a ↔ k ∈ b) : a.length = b.length := ((List.perm_ext_iff_of_nodup ha hb).mpr h).length_eq
theorem dp_ints {K : PySem.W.Frag} {H : Hp} : ∀ ns : List Int, DpAll K H (ns.map V.int) (ns.map PyData.int)
  | [] => .nil
  | n :: r => .cons (.int n) (dp_ints r)
theorem range_items {α : Type} (S : List α) (f : α → V) : (List.range S.length).filterMap (fun i => S[i]?.map f) = S.map f := by
  have key : ∀ n, n ≤ S.length → (List.range n).filterMap (fun i => S[i]?.map f) = (S.take n).map f := by
    intro n
    induction n with
    | zero => intro _; rfl
    | succ n ih =>
      intro h
      rw [filterMap_range_succ, ih (by omega), List.take_add_one, List.map_append]
      rw [List.getElem?_eq_getElem (show n < S.length by omega)]
      rfl
  rw [key _ (Nat.le_refl _), List.take_length]
theorem lay_ints : ∀ ns : List Int, PyData.canLayAll0 (ns.map PyData.int) = true
  | [] => rfl
  | n :: r => by
    show (PyData.canLay0 (.int n) && PyData.canLayAll0 (r.map PyData.int)) = true
    rw [lay_ints r]
    rfl
theorem deep_ints : ∀ ns : List Int, PyData.depthAll (ns.map PyData.int) ≤ 1
  | [] => by simp [PyData.depthAll]
  | n :: r => by
    have ih := deep_ints r
    simp only [List.map_cons, PyData.depthAll, PyData.depth]
    omega
theorem shaped_ints (ns : List Int) : SeqAt.shaped (.tuple (ns.map PyData.int)) = true := by
  have h := deep_ints ns
  have h2 : PyData.depth (.tuple (ns.map PyData.int)) ≤ 64 := by
    simp only [PyData.depth]
    omega
  exact Bool.and_eq_true_iff.mpr ⟨lay_ints ns, decide_eq_true h2⟩
theorem same_ints (ns : List Int) : PyData.eqv (.tuple (ns.map PyData.int)) (.tuple (ns.map PyData.int)) = true := SeqAt.eqv_refl _ (lay_ints ns)
theorem at_map {r : List Int} {i : Int} (h0 : 0 ≤ i) (h : i < (r.length : Int)) : atI (r.map V.int) i = some (.int (r.getD i.toNat 0)) := by
  have hj : i.toNat < r.length := by omega
  refine at_of (j := i.toNat) (by omega) ?_
  rw [List.getElem?_map, List.getElem?_eq_getElem hj, List.getD_eq_getElem?_getD, List.getElem?_eq_getElem hj]
  rfl
/-! ### bits of what each kind is -/
def upBits (acc : List Nat) (n : Nat) (p : List Nat) : Nat := p.foldl (fun f q => f ||| acc.getD q 0) (2 ^ n)
theorem fold_bits (acc : List Nat) (j : Nat) : ∀ (p : List Nat) (f : Nat), (p.foldl (fun f q => f ||| acc.getD q 0) f).testBit j = (f.testBit j || p.any fun q => (acc.getD q 0).testBit j)
  | [], f => by simp
  | q :: r, f => by
    have ih := fold_bits acc j r (f ||| acc.getD q 0)
    rw [List.foldl_cons, ih, Nat.testBit_or, List.any_cons, Bool.or_assoc]
theorem upBits_at (acc : List Nat) (n : Nat) (p : List Nat) (j : Nat) : (upBits acc n p).testBit j = (decide (n = j) || p.any fun q => (acc.getD q 0).testBit j) := by
  unfold upBits
  rw [fold_bits, Nat.testBit_two_pow]
/-! ### books -/
structure InsT (K : PySem.W.Frag) (C : Addr) : Prop where
  ha : PySem.W.findIn K (.ref C) "__class__" = some (some (.builtin "object.__class__"))
  hn : PySem.W.specialIn K (.builtin "object.__class__") "__get__" = some (some (.builtin "getset_descriptor.__get__"))
  htk : PySem.W.takesIn K (.builtin "object.__class__") = some true
  hm : PySem.W.mroIn K C (.type "object") = some true
theorem pb_ne : ¬ (("parents" : Str) = "bits") := by decide +kernel
theorem bp_ne : ¬ (("bits" : Str) = "parents") := by decide +kernel
def bkF (pa lb : Addr) : List (Str × V) := putF "bits" (.ref lb) (putF "parents" (.ref pa) [])
theorem bkF_eq (pa lb : Addr) : bkF pa lb = ([("parents", V.ref pa), ("bits", V.ref lb)] : List (Str × V)) := by
  show (if ("parents" : Str) = "bits" then [(("parents" : Str), V.ref lb)] else (("parents" : Str), V.ref pa) :: putF "bits" (V.ref lb) []) = ([("parents", V.ref pa), ("bits", V.ref lb)] : List (Str × V))
  rw [if_neg pb_ne]
  all_goals rfl
theorem bkF_parents (pa lb : Addr) : (bkF pa lb).lookup ("parents" : Str) = some (.ref pa) := by
  unfold bkF
  rw [lookup_putF, if_neg pb_ne, lookup_putF, if_pos rfl]
theorem bkF_bits (pa lb : Addr) : (bkF pa lb).lookup ("bits" : Str) = some (.ref lb) := by
  unfold bkF
  rw [lookup_putF, if_pos rfl]
theorem bkF_no (pa lb : Addr) {m : Str} (h1 : ¬ m = "bits") (h2 : ¬ m = "parents") : (bkF pa lb).lookup m = none := by
  unfold bkF
  rw [lookup_putF, if_neg h1, lookup_putF, if_neg h2]
  all_goals rfl
theorem bkF_putP (pa lb p : Addr) : putF "parents" (.ref p) (bkF pa lb) = bkF p lb := by
  rw [bkF_eq, bkF_eq]
  show (if ("parents" : Str) = "parents" then (("parents" : Str), V.ref p) :: [(("bits" : Str), V.ref lb)] else _) = ([("parents", V.ref p), ("bits", V.ref lb)] : List (Str × V))
  rw [if_pos rfl]
theorem bkF_putB (pa lb l : Addr) : putF "bits" (.ref l) (bkF pa lb) = bkF pa l := by
  rw [bkF_eq, bkF_eq]
  show (if ("parents" : Str) = "bits" then _ else (("parents" : Str), V.ref pa) :: (if ("bits" : Str) = "bits" then [(("bits" : Str), V.ref l)] else _)) = ([("parents", V.ref pa), ("bits", V.ref l)] : List (Str × V))
  rw [if_neg pb_ne, if_pos rfl]
/-- the fields of a book that is being made: none, or an elder filling's -/
def BkFs (fs : List (Str × V)) : Prop := fs = [] ∨ ∃ pa lb, fs = bkF pa lb
theorem BkFs.put {fs : List (Str × V)} (h : BkFs fs) (p l : Addr) : putF "bits" (.ref l) (putF "parents" (.ref p) fs) = bkF p l := by
  rcases h with rfl | ⟨a, b, rfl⟩
  · rfl
  · rw [bkF_putP, bkF_putB]
theorem BkFs.len {fs : List (Str × V)} (h : BkFs fs) : fs.length < 500 := by
  rcases h with rfl | ⟨a, b, rfl⟩
  · decide
  · rw [bkF_eq]
    show 2 < 500
    decide
theorem BkFs.len1 {fs : List (Str × V)} (h : BkFs fs) (p : Addr) : (putF "parents" (.ref p) fs).length < 1000 := by
  have q := length_putF "parents" (.ref p) fs
  have r := h.len
  omega
theorem BkFs.fill {fs : List (Str × V)} (h : BkFs fs) : fs.lookup ("fill" : Str) = none := by
  rcases h with rfl | ⟨a, b, rfl⟩
  · rfl
  · exact bkF_no _ _ (by decide +kernel) (by decide +kernel)
def natsV (p : List Nat) : List V := p.map fun q : Nat => V.int (q : Int)
/-- parents: a tuple of tuples of numbers -/
def ParL (H : Hp) (vs : List V) (P : List (List Nat)) : Prop := vs.length = P.length ∧ ∀ (j : Nat) p, P[j]? = some p → ∃ a, vs[j]? = some (.ref a) ∧ H a = some (.tup (natsV p))
def ParAt (H : Hp) (pa : Addr) (P : List (List Nat)) : Prop := ∃ vs, H pa = some (.tup vs) ∧ ParL H vs P
theorem ParL.tk {H H' : Hp} {vs : List V} {P : List (List Nat)} (h : ParL H vs P) (k : TK H H') : ParL H' vs P := ⟨h.1, fun j p e => by
  obtain ⟨a, e1, e2⟩ := h.2 j p e
  exact ⟨a, e1, k _ _ e2⟩⟩
theorem ParAt.tk {H H' : Hp} {pa : Addr} {P : List (List Nat)} (h : ParAt H pa P) (k : TK H H') : ParAt H' pa P := by
  obtain ⟨vs, e, l⟩ := h
  exact ⟨vs, k _ _ e, l.tk k⟩
/-- each parent stands ahead -/
def RtP (P : List (List Nat)) : Prop := ∀ (j : Nat) p, P[j]? = some p → ∀ q ∈ p, q < j
/-- the bits of all kinds -/
def bitsOf (P : List (List Nat)) : List Nat := P.foldl (fun acc p => acc ++ [upBits acc acc.length p]) []
def isA (P : List (List Nat)) (x p : Nat) : Bool := ((bitsOf P).getD x 0).testBit p
theorem bitsOf_snoc (P : List (List Nat)) (p : List Nat) : bitsOf (P ++ [p]) = bitsOf P ++ [upBits (bitsOf P) (bitsOf P).length p] := by
  unfold bitsOf
  rw [List.foldl_append]
  rfl
theorem bitsOf_len (P : List (List Nat)) : (bitsOf P).length = P.length := by
  have key : ∀ (r : List (List Nat)) (acc : List Nat), (r.foldl (fun acc p => acc ++ [upBits acc acc.length p]) acc).length = acc.length + r.length := by
    intro r
    induction r with
    | nil => intro acc; simp
    | cons x r ih =>
      intro acc
      rw [List.foldl_cons, ih, List.length_append]
      simp only [List.length_cons, List.length_nil]
      omega
  rw [show bitsOf P = P.foldl (fun acc p => acc ++ [upBits acc acc.length p]) [] from rfl, key]
  simp
/-- a book: its address, its dict, its parents' tuple, its bits' list -/
structure Bk where
  b : Addr
  dx : Addr
  pa : Addr
  lb : Addr
structure BookAt (C : Addr) (H : Hp) (k : Bk) (P : List (List Nat)) : Prop where
  ins : H k.b = some (.ins C k.dx (bkF k.pa k.lb))
  par : ParAt H k.pa P
  bits : H k.lb = some (.lst (natsV (bitsOf P)))
theorem BookAt.same {C : Addr} {H H' : Hp} {k : Bk} {P : List (List Nat)} (h : BookAt C H k P) (s : Same H H') : BookAt C H' k P := ⟨s _ _ h.ins, h.par.tk (Same.tk s), s _ _ h.bits⟩
/-- all but b is kept -/
def But (b : Addr) (H H' : Hp) : Prop := ∀ a o, a ≠ b → H a = some o → H' a = some o
/-- the parents of a kind with a number are right -/
structure OkL (q : List Nat) (m : Nat) : Prop where
  asc : q.Pairwise (· < ·)
  lt : ∀ x ∈ q, x < m
  few : q.length ≤ 6
structure OkP (P : List (List Nat)) : Prop where
  ok : ∀ (j : Nat) q, P[j]? = some q → OkL q j
  few : P.length ≤ 400
theorem OkP.rt {P : List (List Nat)} (h : OkP P) : RtP P := fun j p e q hq => (h.ok j p e).lt q hq
theorem OkP.nil : OkP [] := ⟨fun j q e => by simp at e, by decide⟩
theorem OkP.take {P : List (List Nat)} (h : OkP P) (m : Nat) : OkP (P.take m) := by
  refine ⟨fun j q e => ?_, ?_⟩
  · rw [List.getElem?_take] at e
    split at e
    · exact h.ok j q e
    · cases e
  · have := h.few
    rw [List.length_take]
    omega
theorem natsV_len (q : List Nat) : (natsV q).length = q.length := by unfold natsV; rw [List.length_map]
theorem natsV_int {K : PySem.W.Frag} {H : Hp} (q : List Nat) : ∀ x ∈ natsV q, IntK K H x := fun x hx => by
  unfold natsV at hx
  obtain ⟨n, _, rfl⟩ := List.mem_map.mp hx
  exact IntK.int _
theorem natsV_at {q : List Nat} {i : Nat} {n : Nat} (h : q[i]? = some n) : (natsV q)[i]? = some (.int (n : Int)) := by
  unfold natsV
  rw [List.getElem?_map, h]
  rfl
theorem natsV_here {q : List Nat} {i : Nat} {x : V} (h : (natsV q)[i]? = some x) : ∃ n : Nat, q[i]? = some n ∧ x = .int (n : Int) ∧ i < q.length := by
  unfold natsV at h
  rw [List.getElem?_map] at h
  cases e : q[i]? with
  | none => rw [e] at h; cases h
  | some z => rw [e] at h; exact ⟨z, rfl, (Option.some.inj h).symm, (List.getElem?_eq_some_iff.mp e).1⟩
theorem natsV_snoc (q : List Nat) (n : Nat) : natsV q ++ [V.int (n : Int)] = natsV (q ++ [n]) := by unfold natsV; rw [List.map_append]; rfl
theorem ParL.here {H : Hp} {vs : List V} {P : List (List Nat)} (h : ParL H vs P) {j : Nat} {x : V} (e : vs[j]? = some x) : ∃ a p, x = .ref a ∧ P[j]? = some p ∧ H a = some (.tup (natsV p)) := by
  have hj := (List.getElem?_eq_some_iff.mp e).1
  rw [h.1] at hj
  obtain ⟨a, e1, e2⟩ := h.2 j _ (List.getElem?_eq_getElem hj)
  rw [e] at e1
  exact ⟨a, _, Option.some.inj e1, List.getElem?_eq_getElem hj, e2⟩
theorem ParL.nil {H : Hp} : ParL H [] [] := ⟨rfl, fun j p e => by simp at e⟩
theorem ParL.snoc {H : Hp} {vs : List V} {P : List (List Nat)} (h : ParL H vs P) {a : Addr} {p : List Nat} (e : H a = some (.tup (natsV p))) : ParL H (vs ++ [.ref a]) (P ++ [p]) := by
  refine ⟨by rw [List.length_append, List.length_append, h.1]; rfl, fun j q hq => ?_⟩
  by_cases hj : j < P.length
  · rw [List.getElem?_append_left hj] at hq
    rw [List.getElem?_append_left (by rw [h.1]; exact hj)]
    exact h.2 j q hq
  · rw [List.getElem?_append_right (by omega)] at hq
    have l := (List.getElem?_eq_some_iff.mp hq).1
    rw [List.length_singleton] at l
    have ej : j - P.length = 0 := by omega
    rw [ej] at hq
    have er : p = q := Option.some.inj hq
    rw [List.getElem?_append_right (by rw [h.1]; omega), h.1, ej, ← er]
    exact ⟨a, rfl, e⟩
theorem ParL.take {H : Hp} {vs : List V} {P : List (List Nat)} (h : ParL H vs P) (m : Nat) : ParL H (vs.take m) (P.take m) := by
  refine ⟨by rw [List.length_take, List.length_take, h.1], fun j q hq => ?_⟩
  rw [List.getElem?_take] at hq
  split at hq
  · rename_i hm
    rw [List.getElem?_take_of_lt hm]
    exact h.2 j q hq
  · cases hq
theorem But.same {b : Addr} {H H1 H2 : Hp} (s : Same H H1) (k : But b H1 H2) : But b H H2 := fun a o n e => k a o n (s a o e)
theorem But.new {b : Addr} {H H1 H2 : Hp} (s : Same H H1) (n : H b = none) (k : But b H1 H2) : Same H H2 := fun a o e => k a o (ne_of_none e n) (s a o e)
/-- a book that was made between H and H' -/
structure Made (C : Addr) (H H' : Hp) (k : Bk) (P : List (List Nat)) : Prop where
  same : Same H H'
  here : BookAt C H' k P
  nb : Nw H k.b
  nl : Nw H k.lb
theorem Made.later {C : Addr} {H H1 H2 : Hp} {k : Bk} {P : List (List Nat)} (m : Made C H H1 k P) (s : Same H1 H2) : Made C H H2 k P := ⟨m.same.trans s, m.here.same s, m.nb, m.nl⟩
theorem Made.early {C : Addr} {H H1 H2 : Hp} {k : Bk} {P : List (List Nat)} (s : Same H H1) (m : Made C H1 H2 k P) : Made C H H2 k P := ⟨s.trans m.same, m.here, ⟨s.free m.nb.e⟩, ⟨s.free m.nl.e⟩⟩
theorem BookAt.mv {C : Addr} {H H' : Hp} {k : Bk} {P : List (List Nat)} {τ : Tp} (h : BookAt C H k P) (m : Mv τ H H') (n : k.lb ≠ τ.t) : BookAt C H' k P :=
  ⟨m.keep _ _ (fun e => by obtain ⟨_, _, _, _, z, _⟩ := m.was.here; rw [← e, h.ins] at z; cases z) h.ins, h.par.tk m.tk, m.keep _ _ n h.bits⟩
/-! ### who is what: the plain law -/
theorem bitsOf_take : ∀ (P : List (List Nat)) (m : Nat), bitsOf (P.take m) = (bitsOf P).take m := by
  have key : ∀ (n : Nat) (P : List (List Nat)), P.length = n → ∀ m, bitsOf (P.take m) = (bitsOf P).take m := by
    intro n
    induction n with
    | zero =>
      intro P h m
      have e : P = [] := List.length_eq_zero_iff.mp h
      subst e
      simp [bitsOf]
    | succ n ih =>
      intro P h m
      have hne : P ≠ [] := by intro e; rw [e] at h; cases h
      have e : P = P.dropLast ++ [P.getLast hne] := (List.dropLast_concat_getLast hne).symm
      have hl : P.dropLast.length = n := by rw [List.length_dropLast, h]; rfl
      by_cases hm : m ≤ n
      · rw [e, List.take_append_of_le_length (by omega), ih _ hl, bitsOf_snoc, List.take_append_of_le_length (by rw [bitsOf_len]; omega)]
      · rw [List.take_of_length_le (by omega), List.take_of_length_le (by rw [bitsOf_len]; omega)]
  exact fun P => key P.length P rfl
theorem bitsOf_at (P : List (List Nat)) (j : Nat) (p : List Nat) (h : P[j]? = some p) : (bitsOf P)[j]? = some (upBits ((bitsOf P).take j) j p) := by
  have hj := (List.getElem?_eq_some_iff.mp h).1
  have e : P.take (j + 1) = P.take j ++ [p] := by rw [List.take_add_one, h]; rfl
  have e2 : (bitsOf P).take (j + 1) = (bitsOf P).take j ++ [upBits ((bitsOf P).take j) j p] := by
    have hl : ((bitsOf P).take j).length = j := by rw [List.length_take, bitsOf_len]; omega
    rw [← bitsOf_take, e, bitsOf_snoc, bitsOf_take, hl]
  have e3 : ((bitsOf P).take (j + 1))[j]? = (bitsOf P)[j]? := List.getElem?_take_of_lt (Nat.lt_succ_self j)
  have hl : ((bitsOf P).take j).length = j := by rw [List.length_take, bitsOf_len]; omega
  rw [← e3, e2, List.getElem?_append_right (by omega), hl, Nat.sub_self]
  rfl
theorem upBits_take {acc : List Nat} {j : Nat} {p : List Nat} (h : ∀ q ∈ p, q < j) : upBits (acc.take j) j p = upBits acc j p := by
  unfold upBits
  have key : ∀ (p : List Nat) (f : Nat), (∀ q ∈ p, q < j) → p.foldl (fun f q => f ||| (acc.take j).getD q 0) f = p.foldl (fun f q => f ||| acc.getD q 0) f := by
    intro p
    induction p with
    | nil => intro f _; rfl
    | cons q r ih =>
      intro f hq
      have e : (acc.take j).getD q 0 = acc.getD q 0 := by
        rw [List.getD_eq_getElem?_getD, List.getD_eq_getElem?_getD, List.getElem?_take_of_lt (hq q List.mem_cons_self)]
      rw [List.foldl_cons, List.foldl_cons, e, ih _ fun z hz => hq z (List.mem_cons_of_mem _ hz)]
  exact key p _ h
theorem isA_rec {P : List (List Nat)} (hR : RtP P) {x : Nat} {p : List Nat} (h : P[x]? = some p) (j : Nat) : isA P x j = (decide (x = j) || p.any fun q => isA P q j) := by
  have e : (bitsOf P).getD x 0 = upBits (bitsOf P) x p := by
    rw [List.getD_eq_getElem?_getD, bitsOf_at P x p h, upBits_take (hR x p h)]
    rfl
  unfold isA
  rw [e, upBits_at]
theorem isA_out {P : List (List Nat)} {x : Nat} (h : P.length ≤ x) (j : Nat) : isA P x j = false := by
  unfold isA
  rw [List.getD_eq_getElem?_getD, List.getElem?_eq_none (by rw [bitsOf_len]; exact h)]
  exact Nat.zero_testBit j
theorem isA_lt {P : List (List Nat)} {x j : Nat} (h : isA P x j = true) : x < P.length := by
  by_cases hx : x < P.length
  · exact hx
  · rw [isA_out (by omega)] at h
    cases h
theorem isA_le {P : List (List Nat)} (hR : RtP P) : ∀ {x j : Nat}, isA P x j = true → j ≤ x := by
  intro x
  induction x using Nat.strongRecOn with
  | ind x ih =>
    intro j h
    have hx := isA_lt h
    rw [isA_rec hR (List.getElem?_eq_getElem hx), Bool.or_eq_true, decide_eq_true_eq, List.any_eq_true] at h
    rcases h with h | ⟨q, hq, h⟩
    · omega
    · have l := hR x _ (List.getElem?_eq_getElem hx) q hq
      have := ih q l h
      omega
theorem isA_refl {P : List (List Nat)} (hR : RtP P) {x : Nat} (hx : x < P.length) : isA P x x = true := by
  rw [isA_rec hR (List.getElem?_eq_getElem hx), decide_eq_true rfl]
  rfl
theorem isA_trans {P : List (List Nat)} (hR : RtP P) : ∀ {x y z : Nat}, isA P x y = true → isA P y z = true → isA P x z = true := by
  intro x
  induction x using Nat.strongRecOn with
  | ind x ih =>
    intro y z h h2
    have hx := isA_lt h
    rw [isA_rec hR (List.getElem?_eq_getElem hx), Bool.or_eq_true, decide_eq_true_eq, List.any_eq_true] at h
    rcases h with h | ⟨q, hq, h⟩
    · rw [h]
      exact h2
    · have l := hR x _ (List.getElem?_eq_getElem hx) q hq
      rw [isA_rec hR (List.getElem?_eq_getElem hx), Bool.or_eq_true, List.any_eq_true]
      exact .inr ⟨q, hq, ih q l h h2⟩
theorem isA_take {P : List (List Nat)} {m x : Nat} (h : x < m) (j : Nat) : isA (P.take m) x j = isA P x j := by
  unfold isA
  rw [bitsOf_take, List.getD_eq_getElem?_getD, List.getD_eq_getElem?_getD, List.getElem?_take_of_lt h]
theorem RtP.take {P : List (List Nat)} (h : RtP P) (m : Nat) : RtP (P.take m) := fun j p e q hq => by
  rw [List.getElem?_take] at e
  split at e
  · exact h j p e q hq
  · cases e
theorem RtP.snoc {P : List (List Nat)} (h : RtP P) {p : List Nat} (hp : ∀ q ∈ p, q < P.length) : RtP (P ++ [p]) := fun j r e q hq => by
  by_cases hj : j < P.length
  · rw [List.getElem?_append_left hj] at e
    exact h j r e q hq
  · rw [List.getElem?_append_right (by omega)] at e
    have l := (List.getElem?_eq_some_iff.mp e).1
    rw [List.length_singleton] at l
    have ej : j - P.length = 0 := by omega
    rw [ej] at e
    have er : p = r := Option.some.inj e
    rw [← er] at hq
    have := hp q hq
    omega
/-- forebears, heirs; the lowest of a lot; plain parents -/
def foreB (P : List (List Nat)) (x : Nat) : List Nat := (List.range x).filter fun p => isA P x p
def heirB (P : List (List Nat)) (p : Nat) : List Nat := (List.range P.length).filter fun x => decide (p < x) && isA P x p
def lowB (P : List (List Nat)) (L : List Nat) : List Nat := L.filter fun p => !(L.any fun x => !decide (x = p) && isA P x p)
def plainB (P : List (List Nat)) : List (List Nat) := (List.range P.length).map fun x => lowB P (foreB P x)
theorem plainB_len (P : List (List Nat)) : (plainB P).length = P.length := by
  unfold plainB
  rw [List.length_map, List.length_range]
theorem plainB_at {P : List (List Nat)} {x : Nat} (h : x < P.length) : (plainB P)[x]? = some (lowB P (foreB P x)) := by
  unfold plainB
  rw [List.getElem?_map, List.getElem?_range h]
  rfl
theorem mem_foreB {P : List (List Nat)} {x p : Nat} : p ∈ foreB P x ↔ p < x ∧ isA P x p = true := by
  unfold foreB
  rw [List.mem_filter, List.mem_range]
theorem plainB_rt (P : List (List Nat)) : RtP (plainB P) := fun j p e q hq => by
  have hj := (List.getElem?_eq_some_iff.mp e).1
  rw [plainB_len] at hj
  rw [plainB_at hj] at e
  rw [← Option.some.inj e] at hq
  exact (mem_foreB.mp (List.mem_filter.mp hq).1).1
theorem low_above {P : List (List Nat)} (hR : RtP P) {x p : Nat} (hp : p < x) (h : isA P x p = true) : ∃ q ∈ lowB P (foreB P x), isA P q p = true := by
  have key : ∀ n q, x - q = n → q < x → isA P x q = true → isA P q p = true → ∃ q ∈ lowB P (foreB P x), isA P q p = true := by
    intro n
    induction n using Nat.strongRecOn with
    | ind n ih =>
      intro q hn hq hxq hqp
      by_cases hl : q ∈ lowB P (foreB P x)
      · exact ⟨q, hl, hqp⟩
      · have hf : q ∈ foreB P x := mem_foreB.mpr ⟨hq, hxq⟩
        have ha : ((foreB P x).any fun y => !decide (y = q) && isA P y q) = true := by
          cases e : ((foreB P x).any fun y => !decide (y = q) && isA P y q) with
          | true => rfl
          | false => exact absurd (List.mem_filter.mpr ⟨hf, by simp [e]⟩) hl
        obtain ⟨y, hy, hz⟩ := List.any_eq_true.mp ha
        rw [Bool.and_eq_true, Bool.not_eq_true', decide_eq_false_iff_not] at hz
        have l := isA_le hR hz.2
        obtain ⟨y1, y2⟩ := mem_foreB.mp hy
        exact ih (x - y) (by omega) y rfl y1 y2 (isA_trans hR hz.2 hqp)
  exact key _ p rfl hp h (isA_refl hR (by have := isA_lt h; omega))
theorem isA_plain {P : List (List Nat)} (hR : RtP P) : ∀ (x j : Nat), isA (plainB P) x j = isA P x j := by
  intro x
  induction x using Nat.strongRecOn with
  | ind x ih =>
    intro j
    by_cases hx : x < P.length
    · have l : ∀ q ∈ lowB P (foreB P x), q < x ∧ isA P x q = true := fun q hq => mem_foreB.mp (List.mem_filter.mp hq).1
      rw [isA_rec (plainB_rt P) (plainB_at hx)]
      rw [Bool.eq_iff_iff, Bool.or_eq_true, decide_eq_true_eq, List.any_eq_true]
      constructor
      · rintro (h | ⟨q, hq, h⟩)
        · rw [← h]
          exact isA_refl hR hx
        · rw [ih q (l q hq).1] at h
          exact isA_trans hR (l q hq).2 h
      · intro h
        by_cases e : x = j
        · exact .inl e
        · have := isA_le hR h
          obtain ⟨q, hq, hz⟩ := low_above hR (by omega) h
          exact .inr ⟨q, hq, by rw [ih q (l q hq).1]; exact hz⟩
    · rw [isA_out (P := P) (by omega), isA_out (P := plainB P) (by rw [plainB_len]; omega)]
theorem foreB_plain {P : List (List Nat)} (hR : RtP P) (x : Nat) : foreB (plainB P) x = foreB P x := by
  unfold foreB
  congr 1
  funext j
  rw [isA_plain hR]
theorem lowB_plain {P : List (List Nat)} (hR : RtP P) (L : List Nat) : lowB (plainB P) L = lowB P L := by
  unfold lowB
  congr 1
  funext p
  congr 2
  funext x
  rw [isA_plain hR]
theorem plainB_plainB {P : List (List Nat)} (hR : RtP P) : plainB (plainB P) = plainB P := by
  show (List.range (plainB P).length).map (fun x => lowB (plainB P) (foreB (plainB P) x)) = (List.range P.length).map fun x => lowB P (foreB P x)
  rw [plainB_len]
  congr 1
  funext x
  rw [foreB_plain hR, lowB_plain hR]
/-- 300 in a row, 300 beside one another -/
def chainP (n : Nat) : List (List Nat) := [] :: (List.range n).map fun k => [k]
def wideP (n : Nat) : List (List Nat) := List.replicate n []
theorem chainP_len (n : Nat) : (chainP n).length = n + 1 := by simp [chainP]
theorem chainP_at {n j : Nat} (h : j < n) : (chainP n)[j + 1]? = some [j] := by
  unfold chainP
  rw [List.getElem?_cons_succ, List.getElem?_map, List.getElem?_range h]
  rfl
theorem chainP_rt (n : Nat) : RtP (chainP n) := fun j p e q hq => by
  cases j with
  | zero => rw [show (chainP n)[0]? = some [] from rfl] at e; rw [← Option.some.inj e] at hq; cases hq
  | succ j =>
    have hj := (List.getElem?_eq_some_iff.mp e).1
    rw [chainP_len] at hj
    rw [chainP_at (by omega)] at e
    rw [← Option.some.inj e, List.mem_singleton] at hq
    omega
theorem isA_chain {n : Nat} : ∀ {x : Nat}, x ≤ n → ∀ j, isA (chainP n) x j = decide (j ≤ x)
  | 0, _, j => by
    rw [isA_rec (chainP_rt n) (show (chainP n)[0]? = some [] from rfl)]
    simp only [List.any_nil, Bool.or_false]
    exact decide_eq_decide.mpr (by omega)
  | x + 1, h, j => by
    rw [isA_rec (chainP_rt n) (chainP_at (by omega)), List.any_cons, List.any_nil, Bool.or_false, isA_chain (by omega) j, ← Bool.decide_or]
    exact decide_eq_decide.mpr (by omega)
theorem wideP_rt (n : Nat) : RtP (wideP n) := fun j p e q hq => by
  have := List.mem_of_getElem? e
  rw [List.eq_of_mem_replicate this] at hq
  cases hq
theorem isA_wide {n x : Nat} (h : x < n) (j : Nat) : isA (wideP n) x j = decide (x = j) := by
  rw [isA_rec (wideP_rt n) (p := []) (by unfold wideP; rw [List.getElem?_replicate, if_pos h])]
  simp
/-- the items of a list are tuples of numbers -/
def RN (f : Nat → List Nat) (i : Nat) (v : V) (H : Hp) : Prop := ∃ a, v = .ref a ∧ H a = some (.tup (natsV (f i)))
theorem RN.tk (f : Nat → List Nat) (i : Nat) (v : V) (H H' : Hp) (h : RN f i v H) (k : TK H H') : RN f i v H' := by
  obtain ⟨a, e, x⟩ := h
  exact ⟨a, e, k _ _ x⟩
theorem parL_of {H : Hp} {acc : List V} {n : Nat} {f : Nat → List Nat} (hl : acc.length = n) (h : ∀ (j : Nat) v, acc[j]? = some v → RN f j v H) : ParL H acc ((List.range n).map f) := by
  refine ⟨by rw [hl, List.length_map, List.length_range], fun j p e => ?_⟩
  have hj := (List.getElem?_eq_some_iff.mp e).1
  rw [List.length_map, List.length_range] at hj
  rw [List.getElem?_map, List.getElem?_range hj] at e
  have ep : f j = p := Option.some.inj e
  obtain ⟨a, e1, e2⟩ := h j _ (List.getElem?_eq_getElem (by omega))
  rw [ep] at e2
  exact ⟨a, by rw [List.getElem?_eq_getElem (by omega), e1], e2⟩
/-- the parents of the kind i -/
def RowR (i : Nat) (v : V) (H : Hp) : Prop := ∃ a q, v = .ref a ∧ H a = some (.tup (natsV q)) ∧ OkL q i
theorem RowR.tk {i : Nat} {v : V} {H H' : Hp} (h : RowR i v H) (k : TK H H') : RowR i v H' := by
  obtain ⟨a, q, e, x, o⟩ := h
  exact ⟨a, q, e, k _ _ x, o⟩
theorem rows_of {H : Hp} {acc : List V} {n : Nat} (hn : n ≤ 400) (hl : acc.length = n) (h : ∀ (j : Nat) v, acc[j]? = some v → RowR j v H) : ∃ P, ParL H acc P ∧ OkP P ∧ P.length = n := by
  obtain ⟨f, hf⟩ := Classical.axiomOfChoice (r := fun (j : Nat) (q : List Nat) => j < n → ∃ a, acc[j]? = some (.ref a) ∧ H a = some (.tup (natsV q)) ∧ OkL q j) (fun j => by
    by_cases hj : j < n
    · obtain ⟨a, q, e, x, o⟩ := h j _ (List.getElem?_eq_getElem (by omega))
      exact ⟨q, fun _ => ⟨a, by rw [List.getElem?_eq_getElem (by omega), e], x, o⟩⟩
    · exact ⟨[], fun z => absurd z hj⟩)
  refine ⟨(List.range n).map f, parL_of hl fun j v e => ?_, ⟨fun j q e => ?_, ?_⟩, ?_⟩
  · have hj := (List.getElem?_eq_some_iff.mp e).1
    obtain ⟨a, e1, e2, _⟩ := hf j (by omega)
    rw [e] at e1
    exact ⟨a, Option.some.inj e1, e2⟩
  · have hj := (List.getElem?_eq_some_iff.mp e).1
    rw [List.length_map, List.length_range] at hj
    rw [List.getElem?_map, List.getElem?_range hj] at e
    obtain ⟨_, _, _, o⟩ := hf j hj
    rw [← Option.some.inj e]
    exact o
  · rw [List.length_map, List.length_range]
    exact hn
  · rw [List.length_map, List.length_range]
theorem nats_of {n : Nat} : ∀ {ns : List Int}, ns.Pairwise (· < ·) → (∀ x ∈ ns, ∃ z : Nat, z < n ∧ x = (z : Int)) → ∃ ks : List Nat, ns = ks.map (fun z : Nat => (z : Int)) ∧ (∀ k ∈ ks, k < n) ∧ ks.Pairwise (· < ·)
  | [], _, _ => ⟨[], rfl, (fun k hk => by cases hk), List.Pairwise.nil⟩
  | x :: r, hp, h => by
    obtain ⟨h1, h2⟩ := List.pairwise_cons.mp hp
    obtain ⟨ks, e, hk, hkp⟩ := nats_of h2 fun y hy => h y (List.mem_cons_of_mem _ hy)
    obtain ⟨z, hz, ez⟩ := h x List.mem_cons_self
    refine ⟨z :: ks, by rw [e, ez]; rfl, fun k hk2 => ?_, List.pairwise_cons.mpr ⟨fun k hk2 => ?_, hkp⟩⟩
    · rcases List.mem_cons.mp hk2 with e2 | e2
      · rw [e2]; exact hz
      · exact hk k e2
    · have := h1 (k : Int) (by rw [e]; exact List.mem_map.mpr ⟨k, hk2, rfl⟩)
      omega
theorem nodup_le : ∀ (m : Nat) {ks : List Nat}, ks.Nodup → (∀ k ∈ ks, k < m) → ks.length ≤ m
  | 0, [], _, _ => Nat.le_refl _
  | 0, k :: r, _, h => absurd (h k List.mem_cons_self) (Nat.not_lt_zero _)
  | m + 1, ks, hn, h => by
    by_cases z : m ∈ ks
    · have l := List.length_erase_of_mem z
      have ih := nodup_le m (hn.erase m) fun k hk => by
        have q := (List.Nodup.mem_erase_iff hn).mp hk
        have := h k q.2
        omega
      have := List.length_pos_of_mem z
      omega
    · have ih := nodup_le m hn fun k hk => by
        have := h k hk
        have : k ≠ m := fun e => z (e ▸ hk)
        omega
      omega
/-! ### clauses -/
def optV : Option Int → V
  | none => .non
  | some i => .int i
def ClsL (H : Hp) (vs : List V) (Cs : List (Nat × Int)) : Prop := vs.length = Cs.length ∧ ∀ (j : Nat) c, Cs[j]? = some c → ∃ a, vs[j]? = some (.ref a) ∧ H a = some (.tup [.int (c.1 : Int), .int c.2])
def ClsAt (H : Hp) (a : Addr) (Cs : List (Nat × Int)) : Prop := ∃ vs, H a = some (.tup vs) ∧ ClsL H vs Cs
theorem ClsL.tk {H H' : Hp} {vs : List V} {Cs : List (Nat × Int)} (h : ClsL H vs Cs) (k : TK H H') : ClsL H' vs Cs := ⟨h.1, fun j p e => by
  obtain ⟨a, e1, e2⟩ := h.2 j p e
  exact ⟨a, e1, k _ _ e2⟩⟩
theorem ClsAt.tk {H H' : Hp} {a : Addr} {Cs : List (Nat × Int)} (h : ClsAt H a Cs) (k : TK H H') : ClsAt H' a Cs := by
  obtain ⟨vs, e, l⟩ := h
  exact ⟨vs, k _ _ e, l.tk k⟩
theorem ClsL.here {H : Hp} {vs : List V} {Cs : List (Nat × Int)} (h : ClsL H vs Cs) {j : Nat} {x : V} (e : vs[j]? = some x) : ∃ a c, x = .ref a ∧ Cs[j]? = some c ∧ H a = some (.tup [.int (c.1 : Int), .int c.2]) := by
  have hj := (List.getElem?_eq_some_iff.mp e).1
  rw [h.1] at hj
  obtain ⟨a, e1, e2⟩ := h.2 j _ (List.getElem?_eq_getElem hj)
  rw [e] at e1
  exact ⟨a, _, Option.some.inj e1, List.getElem?_eq_getElem hj, e2⟩
theorem ClsL.take {H : Hp} {vs : List V} {Cs : List (Nat × Int)} (h : ClsL H vs Cs) (m : Nat) : ClsL H (vs.take m) (Cs.take m) := by
  refine ⟨by rw [List.length_take, List.length_take, h.1], fun j q hq => ?_⟩
  rw [List.getElem?_take] at hq
  split at hq
  · rename_i hm
    rw [List.getElem?_take_of_lt hm]
    exact h.2 j q hq
  · cases hq
theorem ClsL.snoc {H : Hp} {vs : List V} {Cs : List (Nat × Int)} (h : ClsL H vs Cs) {a : Addr} {c : Nat × Int} (e : H a = some (.tup [.int (c.1 : Int), .int c.2])) : ClsL H (vs ++ [.ref a]) (Cs ++ [c]) := by
  refine ⟨by rw [List.length_append, List.length_append, h.1]; rfl, fun j q hq => ?_⟩
  by_cases hj : j < Cs.length
  · rw [List.getElem?_append_left hj] at hq
    rw [List.getElem?_append_left (by rw [h.1]; exact hj)]
    exact h.2 j q hq
  · rw [List.getElem?_append_right (by omega)] at hq
    have l := (List.getElem?_eq_some_iff.mp hq).1
    rw [List.length_singleton] at l
    have ej : j - Cs.length = 0 := by omega
    rw [ej] at hq
    have er : c = q := Option.some.inj hq
    rw [List.getElem?_append_right (by rw [h.1]; omega), h.1, ej, ← er]
    exact ⟨a, rfl, e⟩
/-- the first place that is met; the label there -/
def firstB (Cs : List (Nat × Int)) (S : Nat → Bool) : Nat := Cs.findIdx fun c => S c.1
def labB (Cs : List (Nat × Int)) (S : Nat → Bool) : Option Int := (Cs[firstB Cs S]?).map (·.2)
theorem labB_congr {Cs : List (Nat × Int)} {S T : Nat → Bool} (h : ∀ c ∈ Cs, S c.1 = T c.1) : labB Cs S = labB Cs T := by
  have key : ∀ Cs : List (Nat × Int), (∀ c ∈ Cs, S c.1 = T c.1) → firstB Cs S = firstB Cs T := by
    intro Cs
    induction Cs with
    | nil => intro _; rfl
    | cons c r ih =>
      intro h
      have ih := ih fun d hd => h d (List.mem_cons_of_mem _ hd)
      unfold firstB at ih ⊢
      rw [List.findIdx_cons, List.findIdx_cons, h c List.mem_cons_self, ih]
  unfold labB
  rw [key Cs h]
theorem first_drop {Cs : List (Nat × Int)} {S : Nat → Bool} {i : Nat} {c : Nat × Int} (hc : Cs[i]? = some c) (h : firstB Cs S = i + firstB (Cs.drop i) S) : firstB Cs S = if S c.1 then i else (i + 1) + firstB (Cs.drop (i + 1)) S := by
  have il := (List.getElem?_eq_some_iff.mp hc).1
  have hd : Cs.drop i = c :: Cs.drop (i + 1) := by
    rw [List.drop_eq_getElem_cons il]
    rw [List.getElem?_eq_getElem il] at hc
    rw [Option.some.inj hc]
  rw [h, hd]
  unfold firstB
  rw [List.findIdx_cons]
  cases S c.1 with
  | true => rfl
  | false => show i + ((Cs.drop (i + 1)).findIdx (fun c => S c.1) + 1) = _; simp only [Bool.false_eq_true, if_false]; omega
theorem all_true (n : Nat) : (List.range n).filterMap (fun _ => some (V.bl true)) = (List.replicate n true).map V.bl := by
  rw [show (fun _ : Nat => some (V.bl true)) = some ∘ (fun _ : Nat => V.bl true) from rfl, List.filterMap_eq_map, List.map_replicate]
  exact List.eq_replicate_iff.mpr ⟨by rw [List.length_map, List.length_range], fun b hb => by
    obtain ⟨x, _, e⟩ := List.mem_map.mp hb
    exact e.symm⟩
theorem all_id (n : Nat) : (List.replicate n true).all id = true := List.all_eq_true.mpr fun x hx => (List.eq_of_mem_replicate hx)
theorem filter_natsV (p : Nat → Bool) (f : Nat → Nat) (n : Nat) : (List.range n).filterMap (fun i => if p i = true then some (V.int ((f i : Nat) : Int)) else none) = natsV (((List.range n).filter p).map f) := by
  unfold natsV
  induction n with
  | zero => rfl
  | succ n ih =>
    rw [filterMap_range_succ, ih, List.range_succ, List.filter_append, List.map_append, List.map_append]
    congr 1
    rw [List.filter_cons]
    cases p n <;> rfl
theorem filter_nats (p : Nat → Bool) (n : Nat) : (List.range n).filterMap (fun i => if p i = true then some (V.int (i : Int)) else none) = natsV ((List.range n).filter p) := by
  have h := filter_natsV p id n
  rw [List.map_id] at h
  exact h
theorem slice_any {K : PySem.W.Frag} {H : Hp} {a : Addr} {xs : List V} {m : Nat} {Q : VK} (hx : H a = some (.tup xs)) (hm : m ≤ xs.length)
    (k : ∀ p H', Same H H' → H' p = some (.tup (xs.take m)) → Q (.ref p) H') : rSlA K (.ref a) none (some (m : Int)) H Q := by
  have e0 : HT.sIx xs.length 0 none = 0 := rfl
  have e1 : HT.sIx xs.length xs.length (some (m : Int)) = m := by
    rw [HT.sIx_nat]
    omega
  refine ⟨a, xs, rfl, SqT.of hx, fun e => ?_, fun _ p np => ?_⟩
  · rw [e1] at e
    exact k a H (Same.refl H) (by rw [hx, e.2, List.take_length])
  · refine k p _ (Same.new (Same.refl H) np) ?_
    rw [upd_same]
    unfold cutV
    rw [e0, e1]
    rfl
theorem ixn_nat {n j : Nat} (hj : j < n) : ixN n (j : Int) = some j := by
  unfold ixN
  rw [if_pos (by omega), if_pos (by omega)]
  simp
/-! ### words for books -/
local macro_rules | `(tactic| tm_at "fld") => `(tactic| refine ⟨_, _, _, _, _, rfl, by tm_at "hp", by assumption, by assumption, by first | exact bkF_bits _ _ | exact bkF_parents _ _ | fail "fld", ?_⟩)
/-! ### schemes -/
abbrev Tr := Int × Int × List Int
def Trip (H : Hp) (v : V) (e : Tr) : Prop := ∃ (p q : Addr), v = .ref p ∧ H p = some (.tup [.int e.1, .int e.2.1, .ref q]) ∧ H q = some (.tup (e.2.2.map V.int))
def SchAt (H : Hp) (a : Addr) (S : List Tr) : Prop := ∃ vs : List V, H a = some (.tup vs) ∧ vs.length = S.length ∧ ∀ (i : Nat) (e : Tr), S[i]? = some e → ∃ v, vs[i]? = some v ∧ Trip H v e
theorem Trip.tk {H H' : Hp} {v : V} {e : Tr} (h : Trip H v e) (k : TK H H') : Trip H' v e := by
  obtain ⟨p, q, e1, e2, e3⟩ := h
  exact ⟨p, q, e1, k _ _ e2, k _ _ e3⟩
theorem SchAt.tk {H H' : Hp} {a : Addr} {S : List Tr} (h : SchAt H a S) (k : TK H H') : SchAt H' a S := by
  obtain ⟨vs, h1, h2, h3⟩ := h
  refine ⟨vs, k _ _ h1, h2, fun i e he => ?_⟩
  obtain ⟨v, hv, ht⟩ := h3 i e he
  exact ⟨v, hv, ht.tk k⟩
theorem SchAt.at {H : Hp} {a : Addr} {S : List Tr} (h : SchAt H a S) {i : Nat} {e : Tr} (he : S[i]? = some e) : ∃ vs p q, H a = some (.tup vs) ∧ vs.length = S.length ∧ vs[i]? = some (.ref p) ∧ H p = some (.tup [.int e.1, .int e.2.1, .ref q]) ∧ H q = some (.tup (e.2.2.map V.int)) := by
  obtain ⟨vs, h1, h2, h3⟩ := h
  obtain ⟨v, hv, p, q, e1, e2, e3⟩ := h3 i e he
  exact ⟨vs, p, q, h1, h2, by rw [hv, e1], e2, e3⟩
def saysB (ex ep : Tr) : Bool := decide (ep.1 < (ex.2.2.length : Int)) && decide (ep.2.1 ≤ ex.2.2.getD ep.1.toNat 0)
def Good (e : Tr) : Prop := 0 ≤ e.1 ∧ e.2.2.length ≤ 1000
def GoodT (v : V) (H : Hp) : Prop := ∃ e, Good e ∧ Trip H v e
theorem GoodT.tk {v : V} {H H' : Hp} (h : GoodT v H) (k : TK H H') : GoodT v H' := by
  obtain ⟨e, g, t⟩ := h
  exact ⟨e, g, t.tk k⟩
theorem sch_of {H : Hp} {a : Addr} : ∀ {vs : List V}, (∀ v ∈ vs, GoodT v H) → ∃ S : List Tr, S.length = vs.length ∧ (∀ e ∈ S, Good e) ∧ ∀ (i : Nat) (e : Tr), S[i]? = some e → ∃ v, vs[i]? = some v ∧ Trip H v e
  | [], _ => ⟨[], rfl, (fun e h => by cases h), (fun i e h => by simp at h)⟩
  | v :: r, h => by
    obtain ⟨S, h1, h2, h3⟩ := sch_of (a := a) (vs := r) fun u hu => h u (List.mem_cons_of_mem _ hu)
    obtain ⟨e, g, t⟩ := h v List.mem_cons_self
    refine ⟨e :: S, by rw [List.length_cons, List.length_cons, h1], fun x hx => ?_, fun i x hx => ?_⟩
    · rcases List.mem_cons.mp hx with rfl | hx
      · exact g
      · exact h2 x hx
    · cases i with
      | zero =>
        have q : e = x := Option.some.inj hx
        exact ⟨v, rfl, q ▸ t⟩
      | succ i => exact h3 i x hx
/-- a list of triples' addresses -/
structure ScL (H : Hp) (vs : List V) (S : List Tr) : Prop where
  len : vs.length = S.length
  item : ∀ (i : Nat) (e : Tr), S[i]? = some e → ∃ v, vs[i]? = some v ∧ Trip H v e
theorem ScL.nil {H : Hp} : ScL H [] [] := ⟨rfl, fun i e h => by simp at h⟩
theorem ScL.tk {H H' : Hp} {vs : List V} {S : List Tr} (h : ScL H vs S) (k : TK H H') : ScL H' vs S := ⟨h.len, fun i e he => by
  obtain ⟨v, hv, ht⟩ := h.item i e he
  exact ⟨v, hv, ht.tk k⟩⟩
theorem ScL.snoc {H : Hp} {vs : List V} {S : List Tr} {v : V} {e : Tr} (h : ScL H vs S) (t : Trip H v e) : ScL H (vs ++ [v]) (S ++ [e]) := by
  refine ⟨by rw [List.length_append, List.length_append, h.len]; rfl, fun i x hx => ?_⟩
  by_cases hi : i < S.length
  · rw [List.getElem?_append_left hi] at hx
    obtain ⟨u, hu, ht⟩ := h.item i x hx
    exact ⟨u, by rw [List.getElem?_append_left (by rw [h.len]; exact hi)]; exact hu, ht⟩
  · rw [List.getElem?_append_right (by omega)] at hx
    have q := (List.getElem?_eq_some_iff.mp hx).1
    rw [List.length_singleton] at q
    have e0 : i - S.length = 0 := by omega
    rw [e0] at hx
    have ex : e = x := Option.some.inj hx
    refine ⟨v, ?_, ex ▸ t⟩
    rw [List.getElem?_append_right (by rw [h.len]; omega), h.len, e0]
    rfl
theorem ScL.sch {H : Hp} {a : Addr} {vs : List V} {S : List Tr} (h : ScL H vs S) (ha : H a = some (.tup vs)) : SchAt H a S := ⟨vs, ha, h.len, h.item⟩
theorem ScL.rev {H : Hp} {vs : List V} {S : List Tr} (h : ScL H vs S) : ScL H vs.reverse S.reverse := by
  refine ⟨by rw [List.length_reverse, List.length_reverse, h.len], fun i e he => ?_⟩
  have il : i < S.length := by
    have q := (List.getElem?_eq_some_iff.mp he).1
    rw [List.length_reverse] at q
    exact q
  rw [List.getElem?_reverse il] at he
  obtain ⟨v, hv, ht⟩ := h.item _ _ he
  exact ⟨v, by rw [List.getElem?_reverse (by rw [h.len]; exact il), h.len]; exact hv, ht⟩
structure Top (K : PySem.W.Frag) (mg : Str → Option Value) where
  C_Book : Addr
  g_Book : mg "Book" = some (.ref C_Book)
  cl_Book : Cls K C_Book
  ty_Book : InsT K C_Book
  n_Book_parents : NoAttr K C_Book "parents"
  n_Book_bits : NoAttr K C_Book "bits"
  C_Groups : Addr
  g_Groups : mg "Groups" = some (.ref C_Groups)
  cl_Groups : Cls K C_Groups
  ty_Groups : InsT K C_Groups
  n_Groups_lots : NoAttr K C_Groups "lots"
  n_Groups_held : NoAttr K C_Groups "held"
  c_MOST_KINDS : ∃ t, mg "MOST_KINDS" = some (.int 400 t)
  c_MOST_PARENTS : ∃ t, mg "MOST_PARENTS" = some (.int 6 t)
  f_is_integer : Addr
  fd_is_integer : FuncData
  F_is_integer : Fun K "is_integer" "is_integer" s_is_integer f_is_integer fd_is_integer
  b_is_integer : Binds K fd_is_integer ["thing"] []
  g_is_integer : mg "is_integer" = some (.ref f_is_integer)
  f_is_within : Addr
  fd_is_within : FuncData
  F_is_within : Fun K "is_within" "is_within" s_is_within f_is_within fd_is_within
  b_is_within : Binds K fd_is_within ["thing", "least", "most"] []
  g_is_within : mg "is_within" = some (.ref f_is_within)
  f_is_lot : Addr
  fd_is_lot : FuncData
  F_is_lot : Fun K "is_lot" "is_lot" s_is_lot f_is_lot fd_is_lot
  b_is_lot : Binds K fd_is_lot ["thing", "many"] []
  g_is_lot : mg "is_lot" = some (.ref f_is_lot)
  f_are_parents : Addr
  fd_are_parents : FuncData
  F_are_parents : Fun K "are_parents" "are_parents" s_are_parents f_are_parents fd_are_parents
  b_are_parents : Binds K fd_are_parents ["thing", "number"] []
  g_are_parents : mg "are_parents" = some (.ref f_are_parents)
  f_Book_fill : Addr
  fd_Book_fill : FuncData
  F_Book_fill : Fun K "fill" "Book.fill" s_Book_fill f_Book_fill fd_Book_fill
  b_Book_fill : Binds K fd_Book_fill ["self", "parents"] []
  m_Book_fill : Meth K C_Book "fill" f_Book_fill
  f_Book___init__ : Addr
  fd_Book___init__ : FuncData
  F_Book___init__ : Fun K "__init__" "Book.__init__" s_Book___init__ f_Book___init__ fd_Book___init__
  b_Book___init__ : Binds K fd_Book___init__ ["self", "parents"] []
  m_Book___init__ : Meth K C_Book "__init__" f_Book___init__
  M_Book : Mk K C_Book f_Book___init__
  f_many_of : Addr
  fd_many_of : FuncData
  F_many_of : Fun K "many_of" "many_of" s_many_of f_many_of fd_many_of
  b_many_of : Binds K fd_many_of ["book"] []
  g_many_of : mg "many_of" = some (.ref f_many_of)
  f_is_one : Addr
  fd_is_one : FuncData
  F_is_one : Fun K "is_one" "is_one" s_is_one f_is_one fd_is_one
  b_is_one : Binds K fd_is_one ["book", "x", "p"] []
  g_is_one : mg "is_one" = some (.ref f_is_one)
  f_Groups___init__ : Addr
  fd_Groups___init__ : FuncData
  F_Groups___init__ : Fun K "__init__" "Groups.__init__" s_Groups___init__ f_Groups___init__ fd_Groups___init__
  b_Groups___init__ : Binds K fd_Groups___init__ ["self"] []
  m_Groups___init__ : Meth K C_Groups "__init__" f_Groups___init__
  M_Groups : Mk K C_Groups f_Groups___init__
  f_Groups_fitting : Addr
  fd_Groups_fitting : FuncData
  F_Groups_fitting : Fun K "fitting" "Groups.fitting" s_Groups_fitting f_Groups_fitting fd_Groups_fitting
  b_Groups_fitting : Binds K fd_Groups_fitting ["self", "book", "lot", "x"] []
  m_Groups_fitting : Meth K C_Groups "fitting" f_Groups_fitting
  f_Groups_taken : Addr
  fd_Groups_taken : FuncData
  F_Groups_taken : Fun K "taken" "Groups.taken" s_Groups_taken f_Groups_taken fd_Groups_taken
  b_Groups_taken : Binds K fd_Groups_taken ["self", "book", "x"] []
  m_Groups_taken : Meth K C_Groups "taken" f_Groups_taken
  f_Groups_put : Addr
  fd_Groups_put : FuncData
  F_Groups_put : Fun K "put" "Groups.put" s_Groups_put f_Groups_put fd_Groups_put
  b_Groups_put : Binds K fd_Groups_put ["self", "book", "x"] []
  m_Groups_put : Meth K C_Groups "put" f_Groups_put
  f_Groups_told : Addr
  fd_Groups_told : FuncData
  F_Groups_told : Fun K "told" "Groups.told" s_Groups_told f_Groups_told fd_Groups_told
  b_Groups_told : Binds K fd_Groups_told ["self"] []
  m_Groups_told : Meth K C_Groups "told" f_Groups_told
  f_entries_of : Addr
  fd_entries_of : FuncData
  F_entries_of : Fun K "entries_of" "entries_of" s_entries_of f_entries_of fd_entries_of
  b_entries_of : Binds K fd_entries_of ["book", "held", "x"] []
  g_entries_of : mg "entries_of" = some (.ref f_entries_of)
  f_gone_through : Addr
  fd_gone_through : FuncData
  F_gone_through : Fun K "gone_through" "gone_through" s_gone_through f_gone_through fd_gone_through
  b_gone_through : Binds K fd_gone_through ["book"] []
  g_gone_through : mg "gone_through" = some (.ref f_gone_through)
  f_placed : Addr
  fd_placed : FuncData
  F_placed : Fun K "placed" "placed" s_placed f_placed fd_placed
  b_placed : Binds K fd_placed ["book"] []
  g_placed : mg "placed" = some (.ref f_placed)
  f_groups : Addr
  fd_groups : FuncData
  F_groups : Fun K "groups" "groups" s_groups f_groups fd_groups
  b_groups : Binds K fd_groups ["book"] []
  g_groups : mg "groups" = some (.ref f_groups)
  f__law_tape : Addr
  fd__law_tape : FuncData
  F__law_tape : Fun K "_law_tape" "_law_tape" s__law_tape f__law_tape fd__law_tape
  b__law_tape : Binds K fd__law_tape ["_law_script"] []
  g__law_tape : mg "_law_tape" = some (.ref f__law_tape)
  f__law_pick : Addr
  fd__law_pick : FuncData
  F__law_pick : Fun K "_law_pick" "_law_pick" s__law_pick f__law_pick fd__law_pick
  b__law_pick : Binds K fd__law_pick ["_law_tape_here", "_law_many"] []
  g__law_pick : mg "_law_pick" = some (.ref f__law_pick)
  f__law_above : Addr
  fd__law_above : FuncData
  F__law_above : Fun K "_law_above" "_law_above" s__law_above f__law_above fd__law_above
  b__law_above : Binds K fd__law_above ["_law_rows"] []
  g__law_above : mg "_law_above" = some (.ref f__law_above)
  f__law_line_parents : Addr
  fd__law_line_parents : FuncData
  F__law_line_parents : Fun K "_law_line_parents" "_law_line_parents" s__law_line_parents f__law_line_parents fd__law_line_parents
  b__law_line_parents : Binds K fd__law_line_parents ["_law_tape_here", "_law_number", "_law_last", "_law_kind"] []
  g__law_line_parents : mg "_law_line_parents" = some (.ref f__law_line_parents)
  f__law_in_rows : Addr
  fd__law_in_rows : FuncData
  F__law_in_rows : Fun K "_law_in_rows" "_law_in_rows" s__law_in_rows f__law_in_rows fd__law_in_rows
  b__law_in_rows : Binds K fd__law_in_rows ["_law_tape_here", "_law_wide", "_law_many"] []
  g__law_in_rows : mg "_law_in_rows" = some (.ref f__law_in_rows)
  f__law_crossed : Addr
  fd__law_crossed : FuncData
  F__law_crossed : Fun K "_law_crossed" "_law_crossed" s__law_crossed f__law_crossed fd__law_crossed
  b__law_crossed : Binds K fd__law_crossed ["_law_tape_here", "_law_wide", "_law_many"] []
  g__law_crossed : mg "_law_crossed" = some (.ref f__law_crossed)
  f__law_lasts : Addr
  fd__law_lasts : FuncData
  F__law_lasts : Fun K "_law_lasts" "_law_lasts" s__law_lasts f__law_lasts fd__law_lasts
  b__law_lasts : Binds K fd__law_lasts ["_law_above_here", "_law_slots"] []
  g__law_lasts : mg "_law_lasts" = some (.ref f__law_lasts)
  f__law_are_groups : Addr
  fd__law_are_groups : FuncData
  F__law_are_groups : Fun K "_law_are_groups" "_law_are_groups" s__law_are_groups f__law_are_groups fd__law_are_groups
  b__law_are_groups : Binds K fd__law_are_groups ["_law_above_here", "_law_lasts_here", "_law_told", "_law_wide"] []
  g__law_are_groups : mg "_law_are_groups" = some (.ref f__law_are_groups)
  f_law : Addr
  fd_law : FuncData
  F_law : Fun K "law" "law" s_law f_law fd_law
  b_law : Binds K fd_law ["_law_script"] []
  g_law : mg "law" = some (.ref f_law)
  z_all : mg "all" = none
  z_any : mg "any" = none
  z_bool : mg "bool" = none
  z_enumerate : mg "enumerate" = none
  z_int : mg "int" = none
  z_isinstance : mg "isinstance" = none
  z_len : mg "len" = none
  z_list : mg "list" = none
  z_max : mg "max" = none
  z_min : mg "min" = none
  z_range : mg "range" = none
  z_set : mg "set" = none
  z_sorted : mg "sorted" = none
  z_tuple : mg "tuple" = none
  z_zip : mg "zip" = none
section
variable {P : Program} {w : World} {K : PySem.W.Frag} {mg : Str → Option Value} {base : Heap}
/-! is_integer -/
def sp_is_integer (K : PySem.W.Frag) : Sp := fun vs H Q _ => ∃ v, vs = [v] ∧ IntK K H v ∧ Q (.bl (isIntB v)) H
theorem sc_is_integer : FnScope ["thing"] ["thing"] (defScope s_is_integer) := ⟨rfl, rfl, rfl, by decide +kernel, rfl, by decide +kernel, by decide +kernel⟩
theorem ok_is_integer (T : Top K mg) : FnOk P w K mg base CX0 1 T.f_is_integer T.fd_is_integer ["thing"] (sp_is_integer K) := by
  refine T.F_is_integer.ok sc_is_integer (fun vs H Q E h => ?_) (fun cdv A outer s H vs Q E hr h => ?_)
  · obtain ⟨v, rfl, _⟩ := h
    rfl
  · obtain ⟨v, rfl, ⟨t, bi, bb, ht, hi, hb, e⟩, k⟩ := h
    refine ⟨_, (pss_one (ps_ret (pe_and (pe_callB (r := rIsi K) (id := "isinstance") call_isi (by rfl) T.z_isinstance (by decide +kernel) (pa_cons (pv 0) (pa_cons (pe_bltn (v := .ty "int") (u := .type "int") (by rfl) T.z_int (by decide +kernel) rfl) pa_nil))) (pe_one (pe_not (pe_callB (r := rIsi K) (id := "isinstance") call_isi (by rfl) T.z_isinstance (by decide +kernel) (pa_cons (pv 0) (pa_cons (pe_bltn (v := .ty "bool") (u := .type "bool") (by rfl) T.z_bool (by decide +kernel) rfl) pa_nil)))))))), ?_⟩
    tm_at "w"
    cases bi with
    | false =>
      rw [← e] at k
      tm_at "w"
      exact k
    | true =>
      rw [← e] at k
      tm_at "w"
      exact k
/-! is_within -/
def sp_is_within (K : PySem.W.Frag) : Sp := fun vs H Q _ => ∃ (v : V) (lo hi : Int), vs = [v, .int lo, .int hi] ∧ IntK K H v ∧ Q (.bl (withinB v lo hi)) H
theorem sc_is_within : FnScope ["thing", "least", "most"] ["thing", "least", "most"] (defScope s_is_within) := ⟨rfl, rfl, rfl, by decide +kernel, rfl, by decide +kernel, by decide +kernel⟩
theorem ok_is_within (T : Top K mg) : FnOk P w K mg base CX0 2 T.f_is_within T.fd_is_within ["thing", "least", "most"] (sp_is_within K) := by
  have G_is_integer := ok_is_integer (P := P) (w := w) (base := base) T
  refine T.F_is_within.ok sc_is_within (fun vs H Q E h => ?_) (fun cdv A outer s H vs Q E hr h => ?_)
  · obtain ⟨v, lo, hi, rfl, _⟩ := h
    rfl
  · obtain ⟨v, lo, hi, rfl, hk, k⟩ := h
    refine ⟨_, (pss_one (ps_ret (pe_and (pe_call G_is_integer hr (by rfl) T.g_is_integer T.F_is_integer.kp T.b_is_integer .nil pass0 (pa_cons (pv 0) pa_nil)) (pe_one (pe_chain op_le op_le (pv 1) (pv 0) (pv 2)))))), ?_⟩
    refine ⟨v, rfl, v, rfl, hk, _, rfl, ?_⟩
    cases v with
    | int i =>
      refine iteT ?_
      tm_at "w"
      refine iteD (fun h1 => ?_) (fun h1 => ?_)
      · tm_at "w"
        have e : withinB (.int i) lo hi = decide (i ≤ hi) := by
          show (decide (lo ≤ i) && decide (i ≤ hi)) = _
          rw [decide_eq_true h1, Bool.true_and]
        rw [e] at k
        exact k
      · have e : withinB (.int i) lo hi = false := by
          show (decide (lo ≤ i) && decide (i ≤ hi)) = _
          rw [decide_eq_false h1, Bool.false_and]
        rw [e] at k
        exact k
    | _ =>
      refine iteF ?_
      exact k
/-! is_lot -/
/-- an ascending run of whole numbers above last, below m -/
def lotFrom (m : Int) : Int → List V → Bool
  | _, [] => true
  | last, x :: r => withinB x (last + 1) (m - 1) && lotFrom m (match x with | .int i => i | _ => 0) r
def sp_is_lot (K : PySem.W.Frag) : Sp := fun vs H Q _ => ∃ (v : V) (t : Value) (bt : Bool) (m : Int), vs = [v, .int m] ∧ TyX K H v t ∧ PySem.W.kitOne K t (.type "tuple") = some bt ∧
  ((bt = false ∧ Q (.bl false) H) ∨ ∃ (a : Addr) (xs : List V), v = .ref a ∧ H a = some (.tup xs) ∧ bt = true ∧ (∀ x ∈ xs, IntK K H x) ∧ Q (.bl (lotFrom m (-1) xs)) H)
theorem sc_is_lot : FnScope ["thing", "many", "last", "item"] ["thing", "many"] (defScope s_is_lot) := ⟨rfl, rfl, rfl, by decide +kernel, rfl, by decide +kernel, by decide +kernel⟩
theorem ok_is_lot (T : Top K mg) : FnOk P w K mg base CX0 3 T.f_is_lot T.fd_is_lot ["thing", "many"] (sp_is_lot K) := by
  have G_is_within := ok_is_within (P := P) (w := w) (base := base) T
  refine T.F_is_lot.ok sc_is_lot (fun vs H Q E h => ?_) (fun cdv A outer s H vs Q E hr h => ?_)
  · obtain ⟨v, t, bt, m, rfl, _⟩ := h
    rfl
  · obtain ⟨v, t, bt, m, rfl, ht, hb, hh⟩ := h
    refine ⟨_, (pss_cons (ps_if (pt_not (pt_val (pe_callB (r := rIsi K) (id := "isinstance") call_isi (by rfl) T.z_isinstance (by decide +kernel) (pa_cons (pv 0) (pa_cons (pe_bltn (v := .ty "tuple") (u := .type "tuple") (by rfl) T.z_tuple (by decide +kernel) rfl) pa_nil))))) (pss_one (ps_ret pe_bl)) pss_nil)
      (pss_cons (ps_set (i := 2) sc_is_lot.nd rfl (Or.inl rfl) (pe_un un_neg pe_int))
      (pss_cons (ps_for PassesOwn.never rfl (pi_tup (pv 0)) (pg_name (i := 3) sc_is_lot.nd rfl (Or.inl rfl))
      (pss_cons (ps_if (pt_not (pt_val (pe_call G_is_within hr (by rfl) T.g_is_within T.F_is_within.kp T.b_is_within .nil pass0 (pa_cons (pv 3) (pa_cons (pe_op op_add (pv 2) pe_int) (pa_cons (pe_op op_sub (pv 1) pe_int) pa_nil)))))) (pss_one (ps_ret pe_bl)) pss_nil)
      (pss_one (ps_set (i := 2) sc_is_lot.nd rfl (Or.inl rfl) (pv 3)))))
      (pss_one (ps_ret pe_bl))))), ?_⟩
    tm_at "w"
    rcases hh with ⟨rfl, k⟩ | ⟨a, xs, rfl, ha, rfl, hi, k⟩
    · tm_at "w"
      exact k
    · tm_at "w"
      refine ⟨⟨_, SqT.of ha⟩, for_tup (K := K) (a := a) (xs := xs) (fun i σ H' => ∃ (last : Int) (x : Option V), σ = [some (.ref a), some (.int m), some (.int last), x] ∧ H' = H ∧ lotFrom m last (xs.drop i) = lotFrom m (-1) xs) ?_ ?_ ?_ ?_⟩
      · exact ⟨-1, none, rfl, rfl, rfl⟩
      · rintro i σ H' _ ⟨_, _, _, rfl, _⟩
        exact SqT.of ha
      · rintro i x σ H' hx ⟨last, y, rfl, rfl, e⟩
        have il := (List.getElem?_eq_some_iff.mp hx).1
        have hd : xs.drop i = x :: xs.drop (i + 1) := by
          rw [List.drop_eq_getElem_cons il]
          rw [List.getElem?_eq_getElem il] at hx
          rw [Option.some.inj hx]
        rw [hd] at e
        tm_at "w"
        refine ⟨_, _, _, rfl, hi x (List.mem_of_getElem? hx), ?_⟩
        tm_at "w"
        refine iteB (fun h => ?_) (fun h => ?_)
        · have h2 : withinB x (last + 1) (m - 1) = false := by simpa using h
          have e2 : lotFrom m (-1) xs = false := by
            rw [← e]
            show (withinB x (last + 1) (m - 1) && _) = false
            rw [h2]
            rfl
          rw [e2] at k
          tm_at "w"
          exact k
        · have h2 : withinB x (last + 1) (m - 1) = true := by simpa using h
          cases x with
          | int z =>
            tm_at "w"
            rw [← e]
            show _ = (withinB (.int z) (last + 1) (m - 1) && lotFrom m z (xs.drop (i + 1)))
            rw [h2, Bool.true_and]
          | _ => cases h2
      · rintro σ H' ⟨last, y, rfl, rfl, e⟩
        rw [List.drop_length] at e
        rw [← e] at k
        tm_at "w"
        exact k
/-! are_parents -/
def sp_are_parents (K : PySem.W.Frag) : Sp := fun vs H Q _ => ∃ (v : V) (t : Value) (bt : Bool) (m : Int), vs = [v, .int m] ∧ TyX K H v t ∧ PySem.W.kitOne K t (.type "tuple") = some bt ∧
  ((bt = false ∧ Q (.bl false) H) ∨ ∃ (a : Addr) (xs : List V), v = .ref a ∧ H a = some (.tup xs) ∧ bt = true ∧ (∀ x ∈ xs, IntK K H x) ∧ Q (.bl (lotFrom m (-1) xs && decide (xs.length ≤ 6))) H)
theorem sc_are_parents : FnScope ["thing", "number"] ["thing", "number"] (defScope s_are_parents) := ⟨rfl, rfl, rfl, by decide +kernel, rfl, by decide +kernel, by decide +kernel⟩
theorem ok_are_parents (T : Top K mg) : FnOk P w K mg base CX0 4 T.f_are_parents T.fd_are_parents ["thing", "number"] (sp_are_parents K) := by
  have G_is_lot := ok_is_lot (P := P) (w := w) (base := base) T
  refine T.F_are_parents.ok sc_are_parents (fun vs H Q E h => ?_) (fun cdv A outer s H vs Q E hr h => ?_)
  · obtain ⟨v, t, bt, m, rfl, _⟩ := h
    rfl
  · obtain ⟨v, t, bt, m, rfl, ht, hb, hh⟩ := h
    refine ⟨_, (pss_one (ps_ret (pe_and (pe_call G_is_lot hr (by rfl) T.g_is_lot T.F_is_lot.kp T.b_is_lot .nil pass0 (pa_cons (pv 0) (pa_cons (pv 1) pa_nil))) (pe_one (pe_cmpR op_le (pe_callB (r := rLenQ K) (id := "len") call_len_seq (by rfl) T.z_len (by decide +kernel) (pa_cons (pv 0) pa_nil)) (pe_glob (v := .int 6) (by rfl) T.c_MOST_PARENTS.choose_spec ⟨_, rfl⟩) (nomark _)))))), ?_⟩
    tm_at "w"
    rcases hh with ⟨rfl, k⟩ | ⟨a, xs, rfl, ha, rfl, hi, k⟩
    · exact ⟨v, t, false, m, rfl, ht, hb, .inl ⟨rfl, false, rfl, iteF k⟩⟩
    · refine ⟨_, t, true, m, rfl, ht, hb, .inr ⟨a, xs, rfl, ha, rfl, hi, _, rfl, ?_⟩⟩
      refine iteB (fun h => ?_) (fun h => ?_)
      · tm_at "w"
        rw [h, Bool.true_and] at k
        have e : decide ((xs.length : Int) ≤ 6) = decide (xs.length ≤ 6) := decide_eq_decide.mpr (by omega)
        rw [← e] at k
        exact k
      · rw [h] at k
        exact k
/-! Book.fill -/
theorem bitOr_nat (a b : Nat) : Builtin.bitOr (a : Int) (b : Int) = ((a ||| b : Nat) : Int) := by
  rw [Bits.bitOr_pp (by omega) (by omega), Int.toNat_natCast, Int.toNat_natCast]
def sp_Book_fill (C : Addr) (K : PySem.W.Frag) : Sp := fun vs H Q _ => ∃ (b dx pa : Addr) (fs : List (Str × V)) (P : List (List Nat)), vs = [.ref b, .ref pa] ∧ H b = some (.ins C dx fs) ∧ BkFs fs ∧ ParAt H pa P ∧ RtP P ∧ P.length ≤ 1000 ∧
  ∀ lb H', But b H H' → H lb = none → BookAt C H' ⟨b, dx, pa, lb⟩ P → Q .non H'
theorem sc_Book_fill : FnScope ["self", "parents", "number", "item", "found", "parent"] ["self", "parents"] (defScope s_Book_fill) := ⟨rfl, rfl, rfl, by decide +kernel, rfl, by decide +kernel, by decide +kernel⟩
theorem ok_Book_fill (T : Top K mg) : FnOk P w K mg base CX0 1 T.f_Book_fill T.fd_Book_fill ["self", "parents"] (sp_Book_fill T.C_Book K) := by
  refine T.F_Book_fill.ok sc_Book_fill (fun vs H Q E h => ?_) (fun cdv A outer s H vs Q E hr h => ?_)
  · obtain ⟨b, dx, pa, fs, P, rfl, _⟩ := h
    rfl
  · obtain ⟨b, dx, pa, fs, P, rfl, hb, hf, hP, hR, hn, k⟩ := h
    refine ⟨_, (pss_cons (ps_fld (pv 0) (pv 1) rfl)
      (pss_cons (ps_fld (pv 0) (pe_lst pa_nil) rfl)
      (pss_one (ps_for PassesOwn.never rfl (pi_enumT (by rfl) T.z_enumerate (pa_cons (pv 1) pa_nil)) (pg_tup rfl (pgs_cons (pg_name (i := 2) sc_Book_fill.nd rfl (Or.inl rfl)) (pgs_cons (pg_name (i := 3) sc_Book_fill.nd rfl (Or.inl rfl)) pgs_nil)))
      (pss_cons (ps_set (i := 4) sc_Book_fill.nd rfl (Or.inl rfl) (pe_op op_shl pe_int (pv 2)))
      (pss_cons (ps_for PassesOwn.never rfl (pi_tup (pv 3)) (pg_name (i := 5) sc_Book_fill.nd rfl (Or.inl rfl))
      (pss_one (ps_aug (i := 4) sc_Book_fill.nd rfl (Or.inl rfl) (pe_ix (r := rIxL K) ix_list (pe_fld (pv 0) rfl) (pv 5) (fun _ _ => rfl)) ip_or)))
      (pss_one (ps_expr (pe_bm PySem.F.plainAttrs_list PySem.F.slot_list_append PySem.F.type_list_append mt_append (pe_fld (pv 0) rfl) (pa_cons (pv 4) pa_nil)))))))))), ?_⟩
    have cB := T.cl_Book
    have nB1 := T.n_Book_parents
    have nB2 := T.n_Book_bits
    have hlp := BkFs.len1 hf pa
    have wb : ∀ l, H l = none → b ≠ l := fun l e => ne_of_none hb e
    obtain ⟨vsP, hpa, hlen, hit⟩ := id hP
    have nap : ∀ a xs, H a = some (.tup xs) → a ≠ b := fun a xs e z => by rw [z, hb] at e; cases e
    refine ⟨_, rfl, _, rfl, b, T.C_Book, dx, fs, rfl, hb, T.cl_Book, T.n_Book_parents, Nat.lt_trans (m := 500) hf.len (by decide), ?_⟩
    tm_at "w"
    intro lb nlb0
    have nlb : H lb = none := by
      by_cases z : lb = b
      · rw [z, upd_same] at nlb0
        cases nlb0
      · rw [upd_ne z] at nlb0
        exact nlb0
    have nbl : b ≠ lb := wb lb nlb
    refine ⟨_, rfl, b, T.C_Book, dx, _, rfl, (upd_ne nbl).trans upd_same, T.cl_Book, T.n_Book_bits, hlp, ?_⟩
    rw [hf.put pa lb]
    refine ⟨_, rfl, _, _, rfl, SqT.of (xs := vsP) ((upd_ne (nap _ _ hpa)).trans ((upd_ne (ne_of_none hpa nlb)).trans ((upd_ne (nap _ _ hpa)).trans hpa))), for_enumT (K := K) (a := pa) (xs := vsP) (fun i σ H' => ∃ x y z w, σ = [some (.ref b), some (.ref pa), x, y, z, w] ∧ But b H H' ∧ H' b = some (.ins T.C_Book dx (bkF pa lb)) ∧ H' lb = some (.lst (natsV (bitsOf (P.take i))))) ?_ ?_ ?_ ?_⟩
    · refine ⟨none, none, none, none, rfl, fun a o n e => ?_, upd_same, ?_⟩
      · exact (upd_ne n).trans ((upd_ne (ne_of_none e nlb)).trans ((upd_ne n).trans e))
      · exact (upd_ne nbl.symm).trans upd_same
    · rintro i σ H' ⟨_, _, _, _, rfl, bt, _⟩
      exact SqT.of (bt _ _ (nap _ _ hpa) hpa)
    · rintro i x t σ H' hx ⟨x0, y0, z0, w0, rfl, bt, h1, h2⟩ nt
      obtain ⟨ai, p, rfl, hp, hai⟩ := ParL.here ⟨hlen, hit⟩ hx
      have il := (List.getElem?_eq_some_iff.mp hp).1
      have wt : Nw H' t := ⟨nt⟩
      have hai' : H' ai = some (.tup (natsV p)) := bt _ _ (nap _ _ hai) hai
      tm_at "w"
      have hai2 : upd H' t (.tup [V.int (i : Int), V.ref ai]) ai = some (.tup (natsV p)) := by tm_at "hp"
      have hb2 : upd H' t (.tup [V.int (i : Int), V.ref ai]) b = some (.ins T.C_Book dx (bkF pa lb)) := by tm_at "hp"
      have hl2 : upd H' t (.tup [V.int (i : Int), V.ref ai]) lb = some (.lst (natsV (bitsOf (P.take i)))) := by tm_at "hp"
      have hbl : (bitsOf (P.take i)).length = i := by rw [bitsOf_len, List.length_take]; omega
      refine ⟨⟨_, SqT.of hai2⟩, for_tup (K := K) (a := ai) (xs := natsV p) (fun j σ H2 => ∃ z, σ = [some (.ref b), some (.ref pa), some (.int (i : Int)), some (.ref ai), some (.int (((p.take j).foldl (fun f q => f ||| (bitsOf (P.take i)).getD q 0) (2 ^ i) : Nat) : Int)), z] ∧ H2 = upd H' t (.tup [V.int (i : Int), V.ref ai])) ?_ ?_ ?_ ?_⟩
      · refine ⟨w0, ?_, rfl⟩
        show _ = [some (.ref b), some (.ref pa), some (.int (i : Int)), some (.ref ai), some (.int ((2 ^ i : Nat) : Int)), w0]
        have e : (1 : Int) * 2 ^ ((i : Int)).toNat = ((2 ^ i : Nat) : Int) := by rw [Int.one_mul, Int.toNat_natCast, Int.natCast_pow]; rfl
        rw [← e]
        rfl
      · rintro j σ H2 _ ⟨_, rfl, rfl⟩
        exact SqT.of hai2
      · rintro j y σ H2 hy ⟨z, rfl, rfl⟩
        obtain ⟨q, hq, rfl, _⟩ := natsV_here hy
        have ql : q < i := hR i p hp q (List.mem_of_getElem? hq)
        have hq2 : (natsV (bitsOf (P.take i)))[q]? = some (.int (((bitsOf (P.take i)).getD q 0 : Nat) : Int)) := by
          refine natsV_at ?_
          rw [List.getD_eq_getElem?_getD, List.getElem?_eq_getElem (by omega)]
          rfl
        tm_at "w"
        refine ⟨some (.int (q : Int)), ?_, rfl⟩
        show ([some (.ref b), some (.ref pa), some (.int (i : Int)), some (.ref ai), some (.int (Builtin.bitOr _ _)), some (.int (q : Int))] : L2.St) = _
        rw [bitOr_nat, List.take_add_one, hq, List.foldl_append]
        rfl
      · rintro σ H2 ⟨z, rfl, rfl⟩
        rw [natsV_len, List.take_length]
        tm_at "w"
        refine ⟨_, _, _, rfl, rfl, hl2, lt_line (by rw [natsV_len, hbl]; omega), ?_⟩
        have nlt : lb ≠ t := ne_of_none h2 nt
        refine ⟨_, _, _, _, rfl, fun a o n e => ?_, (upd_ne nbl).trans hb2, ?_⟩
        · have e2 := bt a o n e
          exact (upd_ne (ne_of_none e nlb)).trans ((upd_ne (ne_of_none e2 nt)).trans e2)
        · rw [upd_same, natsV_snoc, List.take_add_one, hp]
          show _ = some (HO.lst (natsV (bitsOf (P.take i ++ [p]))))
          rw [bitsOf_snoc, hbl]
          rfl
    · rintro σ H' ⟨x0, y0, z0, w0, rfl, bt, h1, h2⟩
      rw [hlen, List.take_length] at h2
      exact k lb H' bt nlb ⟨h1, ⟨vsP, bt _ _ (nap _ _ hpa) hpa, hlen, fun j p e => by
        obtain ⟨a, e1, e2⟩ := hit j p e
        exact ⟨a, e1, bt _ _ (nap _ _ e2) e2⟩⟩, h2⟩
/-! Book.__init__ -/
theorem lot_from {m : Int} : ∀ {q : List Nat} {last : Int}, q.Pairwise (· < ·) → (∀ x ∈ q, last < (x : Int) ∧ (x : Int) < m) → lotFrom m last (natsV q) = true
  | [], _, _, _ => rfl
  | x :: r, last, hp, hm => by
    obtain ⟨h1, h2⟩ := List.pairwise_cons.mp hp
    have hx := hm x List.mem_cons_self
    have ih := lot_from (m := m) (q := r) (last := (x : Int)) h2 fun y hy => ⟨by have := h1 y hy; omega, (hm y (List.mem_cons_of_mem _ hy)).2⟩
    show (withinB (.int (x : Int)) (last + 1) (m - 1) && lotFrom m (x : Int) (natsV r)) = true
    rw [ih]
    show ((decide (last + 1 ≤ (x : Int)) && decide ((x : Int) ≤ m - 1)) && true) = true
    rw [decide_eq_true (show last + 1 ≤ (x : Int) by omega), decide_eq_true (show (x : Int) ≤ m - 1 by omega)]
    rfl
theorem OkL.lot {q : List Nat} {m : Nat} (h : OkL q m) : (lotFrom (m : Int) (-1) (natsV q) && decide ((natsV q).length ≤ 6)) = true := by
  rw [lot_from h.asc fun x hx => ⟨by omega, by have := h.lt x hx; omega⟩, natsV_len, decide_eq_true h.few]
  rfl
def sp_Book___init__ (C : Addr) (K : PySem.W.Frag) : Sp := fun vs H Q _ => ∃ (b dx pa : Addr) (P : List (List Nat)), vs = [.ref b, .ref pa] ∧ H b = some (.ins C dx []) ∧ ParAt H pa P ∧ OkP P ∧
  ∀ lb H', But b H H' → H lb = none → BookAt C H' ⟨b, dx, pa, lb⟩ P → Q .non H'
theorem sc_Book___init__ : FnScope ["self", "parents", "number", "item"] ["self", "parents"] (defScope s_Book___init__) := ⟨rfl, rfl, rfl, by decide +kernel, rfl, by decide +kernel, by decide +kernel⟩
theorem ok_Book___init__ (T : Top K mg) : FnOk P w K mg base CX0 5 T.f_Book___init__ T.fd_Book___init__ ["self", "parents"] (sp_Book___init__ T.C_Book K) := by
  have G_Book_fill := ok_Book_fill (P := P) (w := w) (base := base) T
  have G_are_parents := ok_are_parents (P := P) (w := w) (base := base) T
  refine T.F_Book___init__.ok sc_Book___init__ (fun vs H Q E h => ?_) (fun cdv A outer s H vs Q E hr h => ?_)
  · obtain ⟨b, dx, pa, P, rfl, _⟩ := h
    rfl
  · obtain ⟨b, dx, pa, P, rfl, hb, hP, ok, k⟩ := h
    refine ⟨_, (pss_cons (ps_if (PW.pt (pw_or (pt_not (pt_val (pe_callB (r := rIsi K) (id := "isinstance") call_isi (by rfl) T.z_isinstance (by decide +kernel) (pa_cons (pv 1) (pa_cons (pe_bltn (v := .ty "tuple") (u := .type "tuple") (by rfl) T.z_tuple (by decide +kernel) rfl) pa_nil))))) (pw_or1 (pt_cmpR op_gt (pe_callB (r := rLenQ K) (id := "len") call_len_seq (by rfl) T.z_len (by decide +kernel) (pa_cons (pv 1) pa_nil)) (pe_glob (v := .int 400) (by rfl) T.c_MOST_KINDS.choose_spec ⟨_, rfl⟩) (nomark _))))) (pss_one ps_never) pss_nil)
      (pss_cons (ps_for PassesOwn.never rfl (pi_enumT (by rfl) T.z_enumerate (pa_cons (pv 1) pa_nil)) (pg_tup rfl (pgs_cons (pg_name (i := 2) sc_Book___init__.nd rfl (Or.inl rfl)) (pgs_cons (pg_name (i := 3) sc_Book___init__.nd rfl (Or.inl rfl)) pgs_nil)))
      (pss_one (ps_if (pt_not (pt_val (pe_call G_are_parents hr (by rfl) T.g_are_parents T.F_are_parents.kp T.b_are_parents .nil pass0 (pa_cons (pv 3) (pa_cons (pv 2) pa_nil))))) (pss_one ps_never) pss_nil)))
      (pss_one (ps_expr (pe_meth (pv 0) T.cl_Book T.m_Book_fill G_Book_fill (hr.mono (by decide)) T.b_Book_fill .nil pass0 (pa_cons (pv 1) pa_nil)))))), ?_⟩
    have cB := T.cl_Book
    have nB1 := T.n_Book_parents
    have nB2 := T.n_Book_bits
    obtain ⟨vsP, hpa, hlen, hit⟩ := id hP
    have few := ok.few
    have ty := ty_tup (K := K) hpa
    have tt := tup_tup (K := K)
    tm_at "w"
    refine ⟨_, _, rfl, SqT.of hpa, for_enumT (K := K) (a := pa) (xs := vsP) (fun i σ H' => ∃ x y, σ = [some (.ref b), some (.ref pa), x, y] ∧ Same H H') ?_ ?_ ?_ ?_⟩
    · exact ⟨none, none, rfl, Same.refl H⟩
    · rintro i σ H' ⟨_, _, rfl, s1⟩
      exact SqT.of (s1 _ _ hpa)
    · rintro i x t σ H' hx ⟨x0, y0, rfl, s1⟩ nt
      obtain ⟨ai, p, rfl, hp, hai⟩ := ParL.here ⟨hlen, hit⟩ hx
      have s2 : Same H (upd H' t (.tup [V.int (i : Int), V.ref ai])) := Same.new s1 nt
      have hai2 := s2 _ _ hai
      tm_at "w"
      refine ⟨_, _, true, _, rfl, ty_tup hai2, tup_tup, .inr ⟨ai, natsV p, rfl, hai2, rfl, natsV_int p, ?_⟩⟩
      rw [(ok.ok i p hp).lot]
      refine ⟨_, rfl, iteF ?_⟩
      exact ⟨_, _, rfl, s2⟩
    · rintro σ H' ⟨x0, y0, rfl, s1⟩
      tm_at "w"
      refine ⟨b, dx, [], rfl, s1 _ _ hb, rfl, ?_⟩
      tm_at "w"
      refine ⟨b, dx, pa, [], P, rfl, s1 _ _ hb, .inl rfl, hP.tk (Same.tk s1), ok.rt, by omega, fun lb H2 bt nl at' => ?_⟩
      tm_at "w"
      exact k lb H2 (But.same s1 bt) (Same.free s1 nl) at'
/-- the book that is made of parents -/
theorem mk_book {C : Addr} {K : PySem.W.Frag} {H : Hp} {pa : Addr} {P : List (List Nat)} {Q : Addr → Hp → Prop} {E : XK} (hP : ParAt H pa P) (ok : OkP P)
    (k : ∀ b H', Made C H H' b P → b.pa = pa → Q b.b H') : ∀ x dx, H x = none → H dx = none → dx ≠ x → sp_Book___init__ C K [.ref x, .ref pa] (upd (upd H dx (.own x)) x (.ins C dx [])) (fun v H2 => v = .non ∧ Q x H2) E := by
  intro x dx hx hd ne
  have s1 : Same H (upd (upd H dx (.own x)) x (.ins C dx [])) := Same.mut (Same.new (Same.refl H) hd) hx
  refine ⟨x, dx, pa, P, rfl, upd_same, hP.tk (Same.tk s1), ok, fun lb H' bt nl at' => ⟨rfl, ?_⟩⟩
  exact k ⟨x, dx, pa, lb⟩ H' ⟨But.new s1 hx bt, at', ⟨hx⟩, ⟨Same.free s1 nl⟩⟩ rfl
/-! many_of -/
def sp_many_of (C : Addr) (K : PySem.W.Frag) : Sp := fun vs H Q _ => ∃ (l : Bk) (P : List (List Nat)), vs = [.ref l.b] ∧ BookAt C H l P ∧ Q (.int (P.length : Nat)) H
theorem sc_many_of : FnScope ["book"] ["book"] (defScope s_many_of) := ⟨rfl, rfl, rfl, by decide +kernel, rfl, by decide +kernel, by decide +kernel⟩
theorem ok_many_of (T : Top K mg) : FnOk P w K mg base CX0 1 T.f_many_of T.fd_many_of ["book"] (sp_many_of T.C_Book K) := by
  refine T.F_many_of.ok sc_many_of (fun vs H Q E h => ?_) (fun cdv A outer s H vs Q E hr h => ?_)
  · obtain ⟨l, P, rfl, _⟩ := h
    rfl
  · obtain ⟨l, P, rfl, hl, k⟩ := h
    refine ⟨_, (pss_one (ps_ret (pe_callB (r := rLenQ K) (id := "len") call_len_seq (by rfl) T.z_len (by decide +kernel) (pa_cons (pe_fld (pv 0) rfl) pa_nil)))), ?_⟩
    have cB := T.cl_Book
    have nB1 := T.n_Book_parents
    have nB2 := T.n_Book_bits
    have hli := hl.ins
    obtain ⟨xs, hx, hxl⟩ := id hl.par
    rw [← hxl.1] at k
    tm_at "w"
    exact k
/-! is_one -/
theorem bit_val (b p : Nat) : Builtin.bitAnd ((b : Int) / 2 ^ ((p : Int)).toNat) 1 = if b.testBit p then 1 else 0 := by
  rw [PyProof.Rows.bitAnd_m1, Int.toNat_natCast]
  have e : ((b : Int) / 2 ^ p) % 2 = ((b / 2 ^ p % 2 : Nat) : Int) := by
    rw [Int.natCast_emod, Int.natCast_ediv, Int.natCast_pow]
    rfl
  rw [e, Nat.testBit_eq_decide_div_mod_eq]
  have h : b / 2 ^ p % 2 < 2 := Nat.mod_lt _ (by decide)
  by_cases h1 : b / 2 ^ p % 2 = 1
  · rw [h1]
    rfl
  · have h0 : b / 2 ^ p % 2 = 0 := by omega
    rw [h0]
    rfl
theorem bit_one (b p : Nat) : decide (V.int (Builtin.bitAnd ((b : Int) / 2 ^ ((p : Int)).toNat) 1) = V.int 1) = b.testBit p := by
  rw [bit_val]
  cases b.testBit p
  · exact decide_eq_false (by intro e; cases e)
  · exact decide_eq_true rfl
def sp_is_one (C : Addr) (K : PySem.W.Frag) : Sp := fun vs H Q _ => ∃ (l : Bk) (P : List (List Nat)) (x p : Nat), vs = [.ref l.b, .int x, .int p] ∧ BookAt C H l P ∧ x < P.length ∧ Q (.bl (isA P x p)) H
theorem sc_is_one : FnScope ["book", "x", "p"] ["book", "x", "p"] (defScope s_is_one) := ⟨rfl, rfl, rfl, by decide +kernel, rfl, by decide +kernel, by decide +kernel⟩
theorem ok_is_one (T : Top K mg) : FnOk P w K mg base CX0 1 T.f_is_one T.fd_is_one ["book", "x", "p"] (sp_is_one T.C_Book K) := by
  refine T.F_is_one.ok sc_is_one (fun vs H Q E h => ?_) (fun cdv A outer s H vs Q E hr h => ?_)
  · obtain ⟨l, P, x, p, rfl, _⟩ := h
    rfl
  · obtain ⟨l, P, x, p, rfl, hl, hx, k⟩ := h
    refine ⟨_, (pss_one (ps_ret (pe_cmpR op_eq (pe_op op_and (pe_op op_shr (pe_ix (r := rIxL K) ix_list (pe_fld (pv 0) rfl) (pv 1) (fun _ _ => rfl)) (pv 2)) pe_int) pe_int (nomark _)))), ?_⟩
    have cB := T.cl_Book
    have nB1 := T.n_Book_parents
    have nB2 := T.n_Book_bits
    have hli := hl.ins
    have hb : (bitsOf P)[x]? = some ((bitsOf P).getD x 0) := by
      rw [List.getD_eq_getElem?_getD, List.getElem?_eq_getElem (by rw [bitsOf_len]; exact hx)]
      rfl
    have hb2 := natsV_at hb
    have hbits := hl.bits
    tm_at "w"
    have e : isA P x p = decide (V.int (Builtin.bitAnd ((((bitsOf P).getD x 0 : Nat) : Int) / 2 ^ ((p : Int)).toNat) 1) = V.int 1) := (bit_one _ _).symm
    rw [e] at k
    exact k
/-! Groups.__init__ -/
/-! ### loops over enumerate(a list) -/
theorem for_enumL {K : PySem.W.Frag} {a : Addr} {xs : List V} {g : TG} {tb : TS} {D : Ends} {σ : L2.St} {H : Hp} (Pv : Nat → L2.St → Hp → Prop) (h0 : Pv 0 σ H) (hq : ∀ i σ H, Pv i σ H → SqL K H a xs)
    (hs : ∀ (i : Nat) (x : V) (t : Addr) (σ : L2.St) (H : Hp), xs[i]? = some x → Pv i σ H → H t = none → g (.ref t) σ (upd H t (.tup [.int (i : Nat), x])) fun σ2 H2 => tb { D with nx := Pv (i + 1), ct := Pv (i + 1), bk := D.nx } σ2 H2)
    (hd : ∀ σ H, Pv xs.length σ H → D.nx σ H) : ∃ W : Nat → Nat → L2.St → Hp → Prop, (∃ m, W 0 m σ H) ∧ ∀ i m σ H, W i m σ H →
      ((Ite K a).stop i H ∧ D.nx σ H) ∨ ((Ite K a).go i H ∧ ∃ N : L2.St → Hp → Prop, (∀ σ' H', N σ' H' → ∃ m', m' < m ∧ W (i + 1) m' σ' H') ∧ ∀ v H', (Ite K a).yld i H v H' → g v σ H' fun σ2 H2 => tb { D with nx := N, ct := N, bk := D.nx } σ2 H2) := by
  refine ⟨fun i m σ H => m = xs.length - i ∧ i ≤ xs.length ∧ Pv i σ H, ⟨_, rfl, Nat.zero_le _, h0⟩, ?_⟩
  rintro i m σ H ⟨rfl, hi, p⟩
  have q := hq i σ H p
  by_cases lt : i < xs.length
  · refine .inr ⟨⟨xs, _, q, List.getElem?_eq_getElem lt⟩, Pv (i + 1), fun σ' H' p2 => ⟨_, by omega, rfl, lt, p2⟩, fun v H' y => ?_⟩
    obtain ⟨t, x, rfl, nt, rfl, f⟩ := y
    exact hs i x t σ H (f xs q) p nt
  · have e : i = xs.length := by omega
    subst e
    exact .inl ⟨⟨xs, q, Nat.le_refl _⟩, hd σ H p⟩
theorem lc_enumLF {K : PySem.W.Frag} {a : Addr} {xs : List V} {g : TG} {tt : TT} {te : TE} {vs : List Nat} {σ : St} {H1 : Hp} {D : Addr} {Qd : Hp → Prop} (f : Nat → Option V) (hx : H1 a = some (.lst xs)) (nD : H1 D = none) (hn : xs.length ≤ 100000)
    (hs : ∀ (i : Nat) (x : V) (Z : Addr) (H : Hp) (N : V → Hp → Prop) (M : Hp → Prop), xs[i]? = some x → Same H1 H → H Z = some (.tup [.int (i : Nat), x]) → (∀ v H4, f i = some v → Same H H4 → N v H4) → (∀ H4, f i = none → Same H H4 → M H4) → g (.ref Z) (wipe σ vs) H fun σ2 H2 => wipe σ2 vs = wipe σ vs ∧ tt σ2 H2 fun b H3 => if b = true then te σ2 H3 N else M H3)
    (hd : ∀ H, Same H1 H → H D = some (.lst ((List.range xs.length).filterMap f)) → Qd H) : ∃ W : Nat → Nat → Hp → Prop, (∃ m, W 0 m (upd H1 D (.lst []))) ∧ ∀ i m H, W i m H →
      ((Ite K a).stop i H ∧ Qd H) ∨ ((Ite K a).go i H ∧ ∃ Nx : Hp → Prop, (∀ H', Nx H' → ∃ m', m' < m ∧ W (i + 1) m' H') ∧ ∀ x H', (Ite K a).yld i H x H' → g x (wipe σ vs) H' fun σ2 H2 => wipe σ2 vs = wipe σ vs ∧ tt σ2 H2 fun b H3 =>
        if b = true then te σ2 H3 fun y H4 => ∃ acc, H4 D = some (.lst acc) ∧ acc.length < sizeLine ∧ Nx (upd H4 D (.lst (acc ++ [y]))) else Nx H3) := by
  refine ⟨fun i m H => m = xs.length - i ∧ i ≤ xs.length ∧ Same H1 H ∧ H D = some (.lst ((List.range i).filterMap f)), ⟨xs.length, rfl, Nat.zero_le _, Same.new (Same.refl H1) nD, upd_same⟩, ?_⟩
  rintro i m H ⟨rfl, hi, s, hD⟩
  have qx : SqL K H a xs := SqL.of (s _ _ hx)
  have hz := filterMap_range_len f i
  by_cases hlt : i < xs.length
  · have ex : xs[i]? = some xs[i] := List.getElem?_eq_getElem hlt
    refine .inr ⟨⟨xs, _, qx, ex⟩, fun H => i < xs.length ∧ Same H1 H ∧ H D = some (.lst ((List.range (i + 1)).filterMap f)), fun H' p' => ⟨xs.length - (i + 1), by omega, rfl, hlt, p'.2⟩, fun v H' y => ?_⟩
    obtain ⟨Z, x', rfl, hZ, rfl, f1⟩ := y
    have s1 : Same H (upd H Z (.tup [.int (i : Nat), x'])) := Same.new (Same.refl H) hZ
    refine hs i x' Z _ _ _ (f1 xs qx) (s.trans s1) upd_same (fun v H4 e s4 => ⟨_, s4 _ _ (s1 _ _ hD), lt_line (by omega), hlt, ?_, ?_⟩) (fun H4 e s4 => ⟨hlt, ?_, ?_⟩)
    · exact Same.mut ((s.trans s1).trans s4) nD
    · rw [filterMap_range_succ, e]
      exact upd_same
    · exact (s.trans s1).trans s4
    · rw [filterMap_range_succ, e, s4 _ _ (s1 _ _ hD)]
      simp
  · have e : i = xs.length := by omega
    subst e
    exact .inl ⟨⟨xs, qx, Nat.le_refl _⟩, hd H s hD⟩
/-! ### two lists of lists of numbers that change: groups (false), held (true) -/
def upS (S : Bool → List (List Nat)) (b : Bool) (l : List (List Nat)) : Bool → List (List Nat) := fun b' => if b' = b then l else S b'
theorem upS_at (S : Bool → List (List Nat)) (b : Bool) (l : List (List Nat)) : upS S b l b = l := if_pos rfl
theorem upS_ne (S : Bool → List (List Nat)) {b b' : Bool} (h : b' ≠ b) (l : List (List Nat)) : upS S b l b' = S b' := if_neg h
structure GF (H0 H : Hp) (R : Bool → Addr) (S : Bool → List (List Nat)) (F : Bool → Nat → Addr) : Prop where
  lists : ∀ b, H (R b) = some (.lst ((List.range (S b).length).map fun j => V.ref (F b j)))
  rows : ∀ b (j : Nat) q, (S b)[j]? = some q → H (F b j) = some (.lst (natsV q))
  inj : ∀ b (j : Nat) b' (j' : Nat), j < (S b).length → j' < (S b').length → F b j = F b' j' → b = b' ∧ j = j'
  apart : ∀ b (j : Nat) b', j < (S b).length → F b j ≠ R b'
  two : R false ≠ R true
  newR : ∀ b, H0 (R b) = none
  newF : ∀ b (j : Nat), j < (S b).length → H0 (F b j) = none
structure G (H0 H : Hp) (R : Bool → Addr) (S : Bool → List (List Nat)) : Prop where
  same : Same H0 H
  ex : ∃ F, GF H0 H R S F
section
variable {H0 H H' : Hp} {R : Bool → Addr} {S : Bool → List (List Nat)}
theorem GF.ne {F : Bool → Nat → Addr} (g : GF H0 H R S F) {b b' : Bool} (h : b ≠ b') : R b ≠ R b' := by
  cases b <;> cases b'
  · exact absurd rfl h
  · exact g.two
  · exact g.two.symm
  · exact absurd rfl h
theorem GF.row {F : Bool → Nat → Addr} (g : GF H0 H R S F) {b : Bool} {j : Nat} (h : j < (S b).length) : ∃ q, (S b)[j]? = some q ∧ H (F b j) = some (.lst (natsV q)) := ⟨_, List.getElem?_eq_getElem h, g.rows b j _ (List.getElem?_eq_getElem h)⟩
theorem G.later (g : G H0 H R S) (s : Same H H') : G H0 H' R S := by
  obtain ⟨F, f⟩ := g.ex
  exact ⟨Same.trans g.same s, F, fun b => s _ _ (f.lists b), fun b j q e => s _ _ (f.rows b j q e), f.inj, f.apart, f.two, f.newR, f.newF⟩
theorem G.at (g : G H0 H R S) (b : Bool) : ∃ xs, H (R b) = some (.lst xs) ∧ xs.length = (S b).length ∧ ∀ (j : Nat) q, (S b)[j]? = some q → ∃ a, xs[j]? = some (.ref a) ∧ H a = some (.lst (natsV q)) := by
  obtain ⟨F, f⟩ := g.ex
  refine ⟨_, f.lists b, by rw [List.length_map, List.length_range], fun j q e => ⟨F b j, ?_, f.rows b j q e⟩⟩
  have hj := (List.getElem?_eq_some_iff.mp e).1
  rw [List.getElem?_map, List.getElem?_range hj]
  rfl
theorem G.init {l h : Addr} (nl : H0 l = none) (nh : H0 h = none) (n : l ≠ h) (s : Same H0 H) (hl : H l = some (.lst [])) (hh : H h = some (.lst [])) : G H0 H (fun b => if b = true then h else l) (fun _ => []) := by
  refine ⟨s, fun _ _ => l, fun b => ?_, fun b j q e => by simp at e, fun b j b' j' e => absurd e (Nat.not_lt_zero _), fun b j b' e => absurd e (Nat.not_lt_zero _), ?_, fun b => ?_, fun b j e => absurd e (Nat.not_lt_zero _)⟩
  · cases b
    · exact hl
    · exact hh
  · exact n
  · cases b
    · exact nl
    · exact nh
theorem range_snoc {F : Nat → Addr} {e : Addr} (n : Nat) : ((List.range n).map fun j => V.ref (F j)) ++ [V.ref e] = (List.range (n + 1)).map fun j => V.ref (if j = n then e else F j) := by
  rw [List.range_succ, List.map_append]
  congr 1
  · refine List.map_congr_left fun j hj => ?_
    rw [List.mem_range] at hj
    rw [if_neg (by omega)]
  · show [V.ref e] = [V.ref (if n = n then e else F n)]
    rw [if_pos rfl]
theorem G.grow (g : G H0 H R S) (b : Bool) {e : Addr} {xs : List V} (ne : H e = none) (hx : H (R b) = some (.lst xs)) : G H0 (upd (upd H e (.lst [])) (R b) (.lst (xs ++ [.ref e]))) R (upS S b (S b ++ [[]])) := by
  obtain ⟨F, f⟩ := g.ex
  have ex : xs = (List.range (S b).length).map fun j => V.ref (F b j) := by
    have := f.lists b
    rw [hx] at this
    injection this with this
    injection this
  have nF : ∀ b' (j : Nat), j < (S b').length → F b' j ≠ e := fun b' j hj => by
    obtain ⟨q, _, h⟩ := f.row hj
    exact ne_of_none h ne
  have nR : ∀ b', R b' ≠ e := fun b' => ne_of_none (f.lists b') ne
  have s1 : Same H0 (upd H e (.lst [])) := Same.new g.same ne
  have len : ∀ b', b' ≠ b → (upS S b (S b ++ [[]]) b').length = (S b').length := fun b' h => by rw [upS_ne S h]
  have lenb : (upS S b (S b ++ [[]]) b).length = (S b).length + 1 := by rw [upS_at, List.length_append]; rfl
  refine ⟨Same.mut s1 (f.newR b), fun b' j => if b' = b ∧ j = (S b).length then e else F b' j, ?_, ?_, ?_, ?_, f.two, f.newR, ?_⟩
  · intro b'
    by_cases h : b' = b
    · subst h
      rw [upd_same, lenb, ex, range_snoc]
      congr 2
      refine List.map_congr_left fun j _ => ?_
      simp
    · rw [upd_ne (f.ne h), upd_ne (nR b'), len b' h, f.lists b']
      congr 2
      refine List.map_congr_left fun j _ => ?_
      rw [if_neg (fun z => h z.1)]
  · intro b' j q hq
    by_cases h : b' = b
    · subst h
      rw [upS_at] at hq
      by_cases hj : j < (S b').length
      · rw [List.getElem?_append_left hj] at hq
        rw [if_neg (fun z => by omega), upd_ne (f.apart b' j b' hj), upd_ne (nF b' j hj)]
        exact f.rows b' j q hq
      · rw [List.getElem?_append_right (by omega)] at hq
        have l := (List.getElem?_eq_some_iff.mp hq).1
        rw [List.length_singleton] at l
        have ej : j = (S b').length := by omega
        rw [ej, Nat.sub_self] at hq
        rw [if_pos ⟨rfl, ej⟩, upd_ne (nR b').symm, upd_same, ← Option.some.inj hq]
        rfl
    · rw [upS_ne S h] at hq
      have hj := (List.getElem?_eq_some_iff.mp hq).1
      rw [if_neg (fun z => h z.1), upd_ne (f.apart b' j b hj), upd_ne (nF b' j hj)]
      exact f.rows b' j q hq
  · intro b1 j1 b2 j2 h1 h2 e12
    have key : ∀ b' j, j < (upS S b (S b ++ [[]]) b').length → ¬ (b' = b ∧ j = (S b).length) → j < (S b').length := fun b' j hj hn => by
      by_cases h : b' = b
      · subst h
        rw [lenb] at hj
        have : j ≠ (S b').length := fun z => hn ⟨rfl, z⟩
        omega
      · rw [len b' h] at hj
        exact hj
    by_cases c1 : b1 = b ∧ j1 = (S b).length
    · by_cases c2 : b2 = b ∧ j2 = (S b).length
      · exact ⟨c1.1.trans c2.1.symm, c1.2.trans c2.2.symm⟩
      · rw [if_pos c1, if_neg c2] at e12
        exact absurd e12.symm (nF b2 j2 (key b2 j2 h2 c2))
    · by_cases c2 : b2 = b ∧ j2 = (S b).length
      · rw [if_neg c1, if_pos c2] at e12
        exact absurd e12 (nF b1 j1 (key b1 j1 h1 c1))
      · rw [if_neg c1, if_neg c2] at e12
        exact f.inj b1 j1 b2 j2 (key b1 j1 h1 c1) (key b2 j2 h2 c2) e12
  · intro b' j b2 hj
    by_cases c : b' = b ∧ j = (S b).length
    · rw [if_pos c]
      exact (nR b2).symm
    · rw [if_neg c]
      refine f.apart b' j b2 ?_
      by_cases h : b' = b
      · subst h
        rw [lenb] at hj
        have : j ≠ (S b').length := fun z => c ⟨rfl, z⟩
        omega
      · rw [len b' h] at hj
        exact hj
  · intro b' j hj
    by_cases c : b' = b ∧ j = (S b).length
    · rw [if_pos c]
      exact Same.free g.same ne
    · rw [if_neg c]
      refine f.newF b' j ?_
      by_cases h : b' = b
      · subst h
        rw [lenb] at hj
        have : j ≠ (S b').length := fun z => c ⟨rfl, z⟩
        omega
      · rw [len b' h] at hj
        exact hj
theorem G.push (g : G H0 H R S) (b : Bool) {j : Nat} {q q' : List Nat} {a : Addr} {xs : List V} (hq : (S b)[j]? = some q) (hx : H (R b) = some (.lst xs)) (ha : xs[j]? = some (.ref a)) : G H0 (upd H a (.lst (natsV q'))) R (upS S b ((S b).set j q')) := by
  obtain ⟨F, f⟩ := g.ex
  have hj := (List.getElem?_eq_some_iff.mp hq).1
  have ea : a = F b j := by
    have := f.lists b
    rw [hx] at this
    injection this with this
    injection this with this
    rw [this, List.getElem?_map, List.getElem?_range hj] at ha
    injection ha with ha
    injection ha with ha
    exact ha.symm
  subst ea
  have len : ∀ b', (upS S b ((S b).set j q') b').length = (S b').length := fun b' => by
    by_cases h : b' = b
    · subst h
      rw [upS_at, List.length_set]
    · rw [upS_ne S h]
  refine ⟨Same.mut g.same (f.newF b j hj), F, fun b' => ?_, fun b' i r hr => ?_, fun b1 j1 b2 j2 h1 h2 => ?_, fun b1 j1 b2 h1 => ?_, f.two, f.newR, fun b1 j1 h1 => ?_⟩
  · rw [upd_ne (f.apart b j b' hj).symm, len, f.lists b']
  · by_cases h : b' = b ∧ i = j
    · obtain ⟨rfl, rfl⟩ := h
      rw [upS_at, List.getElem?_set, if_pos rfl, if_pos hj] at hr
      rw [upd_same, Option.some.inj hr]
    · have hi : i < (S b').length := by
        have := (List.getElem?_eq_some_iff.mp hr).1
        rw [len] at this
        exact this
      have hr2 : (S b')[i]? = some r := by
        by_cases hb : b' = b
        · subst hb
          rw [upS_at, List.getElem?_set, if_neg (fun z => h ⟨rfl, z.symm⟩)] at hr
          exact hr
        · rw [upS_ne S hb] at hr
          exact hr
      rw [upd_ne (fun z => h (f.inj b' i b j hi hj z))]
      exact f.rows b' i r hr2
  · rw [len] at h1 h2
    exact f.inj b1 j1 b2 j2 h1 h2
  · rw [len] at h1
    exact f.apart b1 j1 b2 h1
  · rw [len] at h1
    exact f.newF b1 j1 h1
/-- another new list in the place of a row -/
theorem GF.swap {F : Bool → Nat → Addr} (f : GF H0 H R S F) (b : Bool) {j : Nat} {q : List Nat} {c : Addr} (hj : j < (S b).length) (hc : H c = some (.lst (natsV q))) (nF : ∀ b' (i : Nat), i < (S b').length → F b' i ≠ c) (nR : ∀ b', R b' ≠ c) (n0 : H0 c = none) :
    GF H0 (upd H (R b) (.lst (((List.range (S b).length).map fun i => V.ref (F b i)).set j (.ref c)))) R (upS S b ((S b).set j q)) (fun b' i => if b' = b ∧ i = j then c else F b' i) := by
  have len : ∀ b', (upS S b ((S b).set j q) b').length = (S b').length := fun b' => by
    by_cases h : b' = b
    · subst h
      rw [upS_at, List.length_set]
    · rw [upS_ne S h]
  refine ⟨fun b' => ?_, fun b' i r hr => ?_, fun b1 j1 b2 j2 h1 h2 e => ?_, fun b1 j1 b2 h1 => ?_, f.two, f.newR, fun b1 j1 h1 => ?_⟩
  · by_cases h : b' = b
    · subst h
      rw [upd_same, len]
      congr 2
      refine List.ext_getElem? fun i => ?_
      rw [List.getElem?_set, List.getElem?_map, List.getElem?_map, List.length_map, List.length_range]
      by_cases hi : i < (S b').length
      · rw [List.getElem?_range hi]
        by_cases e : j = i
        · rw [if_pos e, if_pos hj]
          show _ = some (V.ref (if b' = b' ∧ i = j then c else F b' i))
          rw [if_pos ⟨rfl, e.symm⟩]
        · rw [if_neg e]
          show some (V.ref (F b' i)) = some (V.ref (if b' = b' ∧ i = j then c else F b' i))
          rw [if_neg (fun z => e z.2.symm)]
      · rw [if_neg (by omega), List.getElem?_eq_none (by rw [List.length_range]; omega)]
        rfl
    · rw [upd_ne (f.ne h), len, f.lists b']
      congr 2
      refine List.map_congr_left fun i _ => ?_
      rw [if_neg (fun z => h z.1)]
  · have hi : i < (S b').length := by
      have := (List.getElem?_eq_some_iff.mp hr).1
      rw [len] at this
      exact this
    by_cases h : b' = b ∧ i = j
    · obtain ⟨rfl, rfl⟩ := h
      rw [upS_at, List.getElem?_set, if_pos rfl, if_pos hj] at hr
      rw [if_pos ⟨rfl, rfl⟩, upd_ne (nR b').symm, hc, Option.some.inj hr]
    · have hr2 : (S b')[i]? = some r := by
        by_cases hb : b' = b
        · subst hb
          rw [upS_at, List.getElem?_set, if_neg (fun z => h ⟨rfl, z.symm⟩)] at hr
          exact hr
        · rw [upS_ne S hb] at hr
          exact hr
      rw [if_neg h, upd_ne (f.apart b' i b hi)]
      exact f.rows b' i r hr2
  · rw [len] at h1 h2
    by_cases c1 : b1 = b ∧ j1 = j
    · by_cases c2 : b2 = b ∧ j2 = j
      · exact ⟨c1.1.trans c2.1.symm, c1.2.trans c2.2.symm⟩
      · rw [if_pos c1, if_neg c2] at e
        exact absurd e.symm (nF b2 j2 h2)
    · by_cases c2 : b2 = b ∧ j2 = j
      · rw [if_neg c1, if_pos c2] at e
        exact absurd e (nF b1 j1 h1)
      · rw [if_neg c1, if_neg c2] at e
        exact f.inj b1 j1 b2 j2 h1 h2 e
  · rw [len] at h1
    by_cases c1 : b1 = b ∧ j1 = j
    · rw [if_pos c1]
      exact (nR b2).symm
    · rw [if_neg c1]
      exact f.apart b1 j1 b2 h1
  · rw [len] at h1
    by_cases c1 : b1 = b ∧ j1 = j
    · rw [if_pos c1]
      exact n0
    · rw [if_neg c1]
      exact f.newF b1 j1 h1
theorem G.one (g : G H0 H R S) (s : Same H H') (b : Bool) {j : Nat} {q : List Nat} {c : Addr} {xs : List V} (n : H c = none) (hj : j < (S b).length) (hc : H' c = some (.lst (natsV q))) (hx : H' (R b) = some (.lst xs)) :
    G H0 (upd H' (R b) (.lst (xs.set j (.ref c)))) R (upS S b ((S b).set j q)) := by
  obtain ⟨F, f⟩ := g.ex
  obtain ⟨F', f'⟩ : ∃ F', F' = F ∧ GF H0 H' R S F' := ⟨F, rfl, fun b => s _ _ (f.lists b), fun b j q e => s _ _ (f.rows b j q e), f.inj, f.apart, f.two, f.newR, f.newF⟩
  obtain ⟨rfl, f'⟩ := f'
  have ex : xs = (List.range (S b).length).map fun j => V.ref (F' b j) := by
    have := f'.lists b
    rw [hx] at this
    injection this with this
    injection this
  subst ex
  refine ⟨Same.mut (Same.trans g.same s) (f.newR b), _, f'.swap b hj hc (fun b' i hi => ?_) (fun b' => ne_of_none (f.lists b') n) (Same.free g.same n)⟩
  obtain ⟨r, _, h⟩ := f.row hi
  exact ne_of_none h n
theorem G.both (g : G H0 H R S) (s : Same H H') (b : Bool) {j k : Nat} {q r : List Nat} {c d : Addr} {xs : List V} (nc : H c = none) (nd : H d = none) (ncd : c ≠ d) (hj : j < (S b).length) (hk : k < (S b).length) (hjk : j ≠ k) (hc : H' c = some (.lst (natsV q))) (hd : H' d = some (.lst (natsV r))) (hx : H' (R b) = some (.lst xs)) :
    G H0 (upd (upd H' (R b) (.lst (xs.set j (.ref c)))) (R b) (.lst ((xs.set j (.ref c)).set k (.ref d)))) R (upS S b (((S b).set j q).set k r)) := by
  obtain ⟨F, f⟩ := g.ex
  obtain ⟨F', f'⟩ : ∃ F', F' = F ∧ GF H0 H' R S F' := ⟨F, rfl, fun b => s _ _ (f.lists b), fun b j q e => s _ _ (f.rows b j q e), f.inj, f.apart, f.two, f.newR, f.newF⟩
  obtain ⟨rfl, f'⟩ := f'
  have ex : xs = (List.range (S b).length).map fun j => V.ref (F' b j) := by
    have := f'.lists b
    rw [hx] at this
    injection this with this
    injection this
  subst ex
  have nRc : ∀ b', R b' ≠ c := fun b' => ne_of_none (f.lists b') nc
  have nRd : ∀ b', R b' ≠ d := fun b' => ne_of_none (f.lists b') nd
  have nF : ∀ {c}, H c = none → ∀ b' (i : Nat), i < (S b').length → F' b' i ≠ c := fun n b' i hi => by
    obtain ⟨r, _, h⟩ := f.row hi
    exact ne_of_none h n
  have f1 := f'.swap b hj hc (nF nc) nRc (Same.free g.same nc)
  have len : ∀ b', (upS S b ((S b).set j q) b').length = (S b').length := fun b' => by
    by_cases h : b' = b
    · subst h
      rw [upS_at, List.length_set]
    · rw [upS_ne S h]
  have f2 := f1.swap b (j := k) (q := r) (c := d) (by rw [len]; exact hk) ((upd_ne (nRd b).symm).trans hd) (fun b' i hi => by
    rw [len] at hi
    by_cases h : b' = b ∧ i = j
    · rw [if_pos h]
      exact ncd
    · rw [if_neg h]
      exact nF nd b' i hi) nRd (Same.free g.same nd)
  have e1 := f1.lists b
  rw [upd_same] at e1
  injection e1 with e1
  injection e1 with e1
  rw [← e1, upS_at] at f2
  have e2 : upS (upS S b ((S b).set j q)) b (((S b).set j q).set k r) = upS S b (((S b).set j q).set k r) := by
    funext b'
    by_cases h : b' = b
    · subst h
      rw [upS_at, upS_at]
    · rw [upS_ne _ h, upS_ne _ h, upS_ne _ h]
  rw [e2] at f2
  exact ⟨Same.mut (Same.mut (Same.trans g.same s) (f.newR b)) (f.newR b), _, f2⟩
end
/-! ### the told rule, in plain -/
def lastD (D : List (List Nat)) (s : Nat) : Nat := (D.getD s []).getLastD 0
theorem getD_some {l : List (List Nat)} {i : Nat} {v : List Nat} (h : l[i]? = some v) : l.getD i [] = v := by
  rw [List.getD_eq_getElem?_getD, h]
  rfl
def fitB (P : List (List Nat)) (D : List (List Nat)) (x : Nat) (lot : List Nat) : List Nat := lot.filter fun s => isA P x (lastD D s)
def takenB (P : List (List Nat)) (D : List (List Nat)) (x : Nat) : Nat → List (List Nat) → Nat × Option Nat
  | n, [] => (n, none)
  | n, lot :: r => match (fitB P D x lot).min? with
    | some s => (n, some s)
    | none => if lot.length ≤ n then (n, none) else takenB P D x (n + 1) r
structure OkG (m : Nat) (L D : List (List Nat)) : Prop where
  slots : ∀ lot ∈ L, ∀ s ∈ lot, s < D.length
  few : ∀ (j : Nat) lot, L[j]? = some lot → lot.length ≤ j + 1
  full : ∀ d ∈ D, d ≠ []
  kinds : ∀ d ∈ D, ∀ k ∈ d, k < m
  wl : L.length ≤ m
  wd : D.length ≤ m
  rows : ∀ d ∈ D, d.length ≤ m
theorem min_mem {l : List Nat} {s : Nat} (h : l.min? = some s) : s ∈ l := (List.min?_eq_some_iff.mp h).1
theorem taken_at (P D : List (List Nat)) (x : Nat) : ∀ (L : List (List Nat)) (n : Nat), n ≤ (takenB P D x n L).1 ∧ (takenB P D x n L).1 ≤ n + L.length ∧
    (∀ s, (takenB P D x n L).2 = some s → ∃ lot, L[(takenB P D x n L).1 - n]? = some lot ∧ s ∈ lot) ∧
    ((takenB P D x n L).2 = none → (takenB P D x n L).1 < n + L.length → ∃ lot, L[(takenB P D x n L).1 - n]? = some lot ∧ lot.length ≤ (takenB P D x n L).1)
  | [], n => by
    refine ⟨Nat.le_refl _, Nat.le_refl _, fun s h => ?_, fun _ h => ?_⟩
    · cases h
    · exact absurd h (Nat.lt_irrefl _)
  | lot :: r, n => by
    cases e : (fitB P D x lot).min? with
    | some s =>
      have et : takenB P D x n (lot :: r) = (n, some s) := by unfold takenB; rw [e]
      rw [et]
      refine ⟨Nat.le_refl _, Nat.le_add_right _ _, fun s' h => ?_, fun h => ?_⟩
      · refine ⟨lot, by rw [Nat.sub_self]; rfl, ?_⟩
        rw [← Option.some.inj h]
        exact (List.mem_filter.mp (min_mem e)).1
      · cases h
    | none =>
      by_cases z : lot.length ≤ n
      · have et : takenB P D x n (lot :: r) = (n, none) := by unfold takenB; rw [e]; exact if_pos z
        rw [et]
        refine ⟨Nat.le_refl _, Nat.le_add_right _ _, fun s' h => ?_, fun _ _ => ?_⟩
        · cases h
        · exact ⟨lot, by rw [Nat.sub_self]; rfl, z⟩
      · have et : takenB P D x n (lot :: r) = takenB P D x (n + 1) r := by
          show (match (fitB P D x lot).min? with | some s => (n, some s) | none => if lot.length ≤ n then (n, none) else takenB P D x (n + 1) r) = _
          rw [e]
          exact if_neg z
        rw [et]
        obtain ⟨h1, h2, h3, h4⟩ := taken_at P D x r (n + 1)
        have sh : ∀ m, n + 1 ≤ m → (lot :: r)[m - n]? = r[m - (n + 1)]? := fun m hm => by
          rw [show m - n = (m - (n + 1)) + 1 by omega]
          rfl
        refine ⟨by omega, by rw [List.length_cons]; omega, fun s h => ?_, fun h hl => ?_⟩
        · rw [sh _ h1]
          exact h3 s h
        · rw [sh _ h1]
          rw [List.length_cons] at hl
          exact h4 h (by omega)
/-- one kind more: groups, kinds of the slots, the slot -/
def putN (P L D : List (List Nat)) (x : Nat) : Nat := (takenB P D x 0 L).1
def putSlot (P L D : List (List Nat)) (x : Nat) : Nat := ((takenB P D x 0 L).2).getD D.length
def putL1 (P L D : List (List Nat)) (x : Nat) : List (List Nat) := if putN P L D x = L.length then L ++ [[]] else L
def putD (P L D : List (List Nat)) (x : Nat) : List (List Nat) :=
  let D1 := if (takenB P D x 0 L).2 = none then D ++ [[]] else D
  D1.set (putSlot P L D x) (D1.getD (putSlot P L D x) [] ++ [x])
def putL (P L D : List (List Nat)) (x : Nat) : List (List Nat) :=
  let n := putN P L D x
  let L1 := putL1 P L D x
  let s := putSlot P L D x
  if n = 0 then L1.set 0 [s] else (L1.set n (L1.getD (n - 1) [] ++ [s])).set (n - 1) ((L1.getD n []).filter fun o => !decide (o = s))
theorem putN_le (P L D : List (List Nat)) (x : Nat) : putN P L D x ≤ L.length := by
  have := (taken_at P D x L 0).2.1
  unfold putN
  omega
theorem putL1_len (P L D : List (List Nat)) (x : Nat) : putN P L D x < (putL1 P L D x).length := by
  have := putN_le P L D x
  unfold putL1
  split
  · rw [List.length_append]
    show _ < L.length + 1
    omega
  · omega
theorem set_mem {l : List (List Nat)} {i : Nat} {v y : List Nat} (h : y ∈ l.set i v) : y ∈ l ∨ y = v := List.mem_or_eq_of_mem_set h
theorem getD_mem {l : List (List Nat)} {i : Nat} (h : i < l.length) : l.getD i [] ∈ l := by
  rw [List.getD_eq_getElem?_getD, List.getElem?_eq_getElem h]
  exact List.getElem_mem h
theorem slot_lt {m : Nat} {P L D : List (List Nat)} {x : Nat} (o : OkG m L D) : (takenB P D x 0 L).2 = none ∧ putSlot P L D x = D.length ∨ (∃ s lot, (takenB P D x 0 L).2 = some s ∧ putSlot P L D x = s ∧ s < D.length ∧ L[putN P L D x]? = some lot ∧ s ∈ lot) := by
  cases e : (takenB P D x 0 L).2 with
  | none => exact .inl ⟨rfl, by unfold putSlot; rw [e]; rfl⟩
  | some s =>
    obtain ⟨lot, h1, h2⟩ := (taken_at P D x L 0).2.2.1 s e
    rw [Nat.sub_zero] at h1
    exact .inr ⟨s, lot, rfl, by unfold putSlot; rw [e]; rfl, o.slots lot (List.mem_of_getElem? h1) s h2, h1, h2⟩
theorem putD_len {m : Nat} {P L D : List (List Nat)} {x : Nat} (o : OkG m L D) : D.length ≤ (putD P L D x).length ∧ putSlot P L D x < (putD P L D x).length := by
  unfold putD
  rcases slot_lt (P := P) (x := x) o with ⟨e, h⟩ | ⟨s, lot, e, h, hs, _⟩
  · rw [if_pos e, List.length_set, List.length_append]
    show D.length ≤ D.length + 1 ∧ _ < D.length + 1
    omega
  · rw [if_neg (by rw [e]; intro z; cases z), List.length_set]
    omega
theorem OkG.put {P L D : List (List Nat)} {x : Nat} (o : OkG x L D) : OkG (x + 1) (putL P L D x) (putD P L D x) := by
  obtain ⟨dl, sl⟩ := putD_len (P := P) (x := x) o
  have L1s : ∀ lot ∈ putL1 P L D x, ∀ s ∈ lot, s < D.length := fun lot h s hs => by
    unfold putL1 at h
    split at h
    · rcases List.mem_append.mp h with h | h
      · exact o.slots lot h s hs
      · rw [List.mem_singleton.mp h] at hs
        cases hs
    · exact o.slots lot h s hs
  have L1f : ∀ (j : Nat) lot, (putL1 P L D x)[j]? = some lot → lot.length ≤ j + 1 := fun j lot h => by
    unfold putL1 at h
    split at h
    · by_cases hj : j < L.length
      · rw [List.getElem?_append_left hj] at h
        exact o.few j lot h
      · rw [List.getElem?_append_right (by omega)] at h
        have := List.mem_of_getElem? h
        rw [List.mem_singleton.mp this]
        exact Nat.zero_le _
    · exact o.few j lot h
  have nl := putL1_len P L D x
  have getf : ∀ j, j < (putL1 P L D x).length → ((putL1 P L D x).getD j []).length ≤ j + 1 := fun j hj => by
    rw [getD_some (List.getElem?_eq_getElem hj)]
    exact L1f j _ (List.getElem?_eq_getElem hj)
  have gets : ∀ j, j < (putL1 P L D x).length → ∀ s ∈ (putL1 P L D x).getD j [], s < D.length := fun j hj s hs => L1s _ (getD_mem hj) s hs
  have left : (((putL1 P L D x).getD (putN P L D x) []).filter (fun o => !decide (o = putSlot P L D x))).length ≤ putN P L D x := by
    rcases slot_lt (P := P) (x := x) o with ⟨e, h⟩ | ⟨s, lot, e, h, hs, h1, h2⟩
    · refine Nat.le_trans (List.length_filter_le _ _) ?_
      by_cases z : putN P L D x = L.length
      · unfold putL1
        rw [if_pos z, z, List.getD_eq_getElem?_getD, List.getElem?_append_right (Nat.le_refl _), Nat.sub_self]
        exact Nat.zero_le _
      · obtain ⟨lot, h3, h4⟩ := (taken_at P D x L 0).2.2.2 e (by have := putN_le P L D x; unfold putN at z this; omega)
        rw [Nat.sub_zero] at h3
        unfold putL1
        rw [if_neg z, getD_some (show L[putN P L D x]? = some lot from h3)]
        exact h4
    · have el : (putL1 P L D x).getD (putN P L D x) [] = lot := by
        have hl := (List.getElem?_eq_some_iff.mp h1).1
        unfold putL1
        rw [if_neg (by omega)]
        exact getD_some h1
      rw [el, h]
      have f1 := o.few _ lot h1
      have : (lot.filter fun o => !decide (o = s)).length < lot.length := by
        refine List.length_filter_lt_length_iff_exists.mpr ⟨s, h2, ?_⟩
        simp
      omega
  refine ⟨?_, ?_, ?_, ?_, ?_, ?_, ?_⟩
  · intro lot h s hs
    unfold putL at h
    simp only at h
    split at h
    · rcases set_mem h with h | h
      · have := L1s lot h s hs
        omega
      · rw [h] at hs
        rw [List.mem_singleton.mp hs]
        exact sl
    · rename_i hn
      rcases set_mem h with h | h
      · rcases set_mem h with h | h
        · have := L1s lot h s hs
          omega
        · rw [h] at hs
          rcases List.mem_append.mp hs with hs | hs
          · have := gets (putN P L D x - 1) (by omega) s hs
            omega
          · rw [List.mem_singleton.mp hs]
            exact sl
      · rw [h] at hs
        have := gets (putN P L D x) nl s (List.mem_filter.mp hs).1
        omega
  · intro j lot h
    unfold putL at h
    simp only at h
    split at h
    · rename_i hn
      rw [List.getElem?_set] at h
      split at h
      · split at h
        · rw [← Option.some.inj h]
          show 1 ≤ j + 1
          omega
        · cases h
      · exact L1f j lot h
    · rename_i hn
      rw [List.getElem?_set] at h
      split at h
      · rename_i e
        split at h
        · rw [← Option.some.inj h]
          omega
        · cases h
      · rw [List.getElem?_set] at h
        split at h
        · rename_i e
          rw [← Option.some.inj h, List.length_append, List.length_singleton]
          have := getf (putN P L D x - 1) (by omega)
          omega
        · exact L1f j lot h
  · intro d h
    unfold putD at h
    simp only at h
    rcases slot_lt (P := P) (x := x) o with ⟨e, hs⟩ | ⟨s, lot, e, hs, hlt, _⟩
    · rw [if_pos e] at h
      rcases List.mem_iff_getElem?.mp h with ⟨i, hi⟩
      rw [List.getElem?_set] at hi
      split at hi
      · split at hi
        · rw [← Option.some.inj hi]
          simp
        · cases hi
      · rename_i ne
        by_cases hl : i < D.length
        · rw [List.getElem?_append_left hl] at hi
          exact o.full d (List.mem_of_getElem? hi)
        · rw [List.getElem?_append_right (by omega)] at hi
          have l := (List.getElem?_eq_some_iff.mp hi).1
          rw [List.length_singleton] at l
          omega
    · rw [if_neg (by rw [e]; intro z; cases z)] at h
      rcases set_mem h with h | h
      · exact o.full d h
      · rw [h]
        simp
  · intro d h k hk
    unfold putD at h
    simp only at h
    have key : ∀ D1 : List (List Nat), (∀ d ∈ D1, ∀ k ∈ d, k < x) → d ∈ D1.set (putSlot P L D x) (D1.getD (putSlot P L D x) [] ++ [x]) → k < x + 1 := fun D1 h1 h => by
      rcases set_mem h with h | h
      · have := h1 d h k hk
        omega
      · rw [h] at hk
        rcases List.mem_append.mp hk with hk | hk
        · by_cases hl : putSlot P L D x < D1.length
          · have := h1 _ (getD_mem hl) k hk
            omega
          · rw [List.getD_eq_getElem?_getD, List.getElem?_eq_none (by omega)] at hk
            cases hk
        · rw [List.mem_singleton.mp hk]
          omega
    split at h
    · refine key _ (fun d hd => ?_) h
      rcases List.mem_append.mp hd with hd | hd
      · exact o.kinds d hd
      · rw [List.mem_singleton.mp hd]
        intro k hk
        cases hk
    · exact key _ o.kinds h
  · have l1 : (putL1 P L D x).length ≤ L.length + 1 := by
      unfold putL1
      split
      · rw [List.length_append]
        exact Nat.le_refl _
      · omega
    have := o.wl
    unfold putL
    simp only
    split
    · rw [List.length_set]
      omega
    · rw [List.length_set, List.length_set]
      omega
  · have := o.wd
    unfold putD
    simp only
    rw [List.length_set]
    split
    · rw [List.length_append]
      show D.length + 1 ≤ x + 1
      omega
    · omega
  · intro d h
    unfold putD at h
    simp only at h
    have key : ∀ D1 : List (List Nat), (∀ d ∈ D1, d.length ≤ x) → d ∈ D1.set (putSlot P L D x) (D1.getD (putSlot P L D x) [] ++ [x]) → d.length ≤ x + 1 := fun D1 h1 h => by
      rcases set_mem h with h | h
      · have := h1 d h
        omega
      · rw [h, List.length_append, List.length_singleton]
        by_cases hl : putSlot P L D x < D1.length
        · have := h1 _ (getD_mem hl)
          omega
        · rw [List.getD_eq_getElem?_getD, List.getElem?_eq_none (by omega)]
          exact Nat.succ_le_succ (Nat.zero_le _)
    split at h
    · refine key _ (fun d hd => ?_) h
      rcases List.mem_append.mp hd with hd | hd
      · exact o.rows d hd
      · rw [List.mem_singleton.mp hd]
        exact Nat.zero_le _
    · exact key _ o.rows h
theorem putL1_few {m : Nat} {P L D : List (List Nat)} {x : Nat} (o : OkG m L D) : ∀ lot ∈ putL1 P L D x, lot.length ≤ m + 1 := fun lot h => by
  have key : ∀ lot ∈ L, lot.length ≤ m + 1 := fun lot h => by
    obtain ⟨j, hj⟩ := List.mem_iff_getElem?.mp h
    have := o.few j lot hj
    have := (List.getElem?_eq_some_iff.mp hj).1
    have := o.wl
    omega
  unfold putL1 at h
  split at h
  · rcases List.mem_append.mp h with h | h
    · exact key lot h
    · rw [List.mem_singleton.mp h]
      exact Nat.zero_le _
  · exact key lot h
theorem putD1_rows {m : Nat} {P L D : List (List Nat)} {x : Nat} (o : OkG m L D) : ∀ d ∈ (if (takenB P D x 0 L).2 = none then D ++ [[]] else D), d.length ≤ m := fun d h => by
  split at h
  · rcases List.mem_append.mp h with h | h
    · exact o.rows d h
    · rw [List.mem_singleton.mp h]
      exact Nat.zero_le _
  · exact o.rows d h
def putD1 (P L D : List (List Nat)) (x : Nat) : List (List Nat) := if (takenB P D x 0 L).2 = none then D ++ [[]] else D
def putL2 (P L D : List (List Nat)) (x : Nat) : List (List Nat) := if (takenB P D x 0 L).2 = none then (putL1 P L D x).set (putN P L D x) ((putL1 P L D x).getD (putN P L D x) [] ++ [putSlot P L D x]) else putL1 P L D x
theorem putL2_len (P L D : List (List Nat)) (x : Nat) : (putL2 P L D x).length = (putL1 P L D x).length := by
  unfold putL2
  split
  · rw [List.length_set]
  · rfl
theorem putD_eq (P L D : List (List Nat)) (x : Nat) : (putD1 P L D x).set (putSlot P L D x) ((putD1 P L D x).getD (putSlot P L D x) [] ++ [x]) = putD P L D x := rfl
theorem slot_lt1 {m : Nat} {P L D : List (List Nat)} {x : Nat} (o : OkG m L D) : putSlot P L D x < (putD1 P L D x).length := by
  unfold putD1
  rcases slot_lt (P := P) (x := x) o with ⟨e, h⟩ | ⟨s, lot, e, h, hs, _⟩
  · rw [if_pos e, List.length_append]
    show _ < D.length + 1
    omega
  · rw [if_neg (by rw [e]; intro z; cases z)]
    omega
theorem set_same {l : List (List Nat)} {i : Nat} {v : List Nat} (h : l[i]? = some v) : l.set i v = l := by
  refine List.ext_getElem? fun j => ?_
  rw [List.getElem?_set]
  split
  · rename_i e
    rw [← e, h, if_pos (List.getElem?_eq_some_iff.mp h).1]
  · rfl
theorem put0 {m : Nat} {P L D : List (List Nat)} {x : Nat} (o : OkG m L D) (hn : putN P L D x = 0) : putL2 P L D x = putL P L D x := by
  have nl := putL1_len P L D x
  unfold putL
  simp only
  rw [if_pos hn]
  rcases slot_lt (P := P) (x := x) o with ⟨e, h⟩ | ⟨s, lot, e, h, hs, h1, h2⟩
  · unfold putL2
    rw [if_pos e, hn]
    have z : (putL1 P L D x).getD 0 [] = [] := by
      unfold putL1
      by_cases c : putN P L D x = L.length
      · rw [if_pos c]
        have : L = [] := List.length_eq_zero_iff.mp (by omega)
        rw [this]
        rfl
      · rw [if_neg c]
        have le := putN_le P L D x
        obtain ⟨lot, h3, h4⟩ := (taken_at P D x L 0).2.2.2 e (by unfold putN at c le; omega)
        rw [Nat.sub_zero] at h3
        have hn' : (takenB P D x 0 L).1 = 0 := hn
        rw [hn'] at h3 h4
        rw [getD_some h3]
        exact List.length_eq_zero_iff.mp (by omega)
    rw [z]
    rfl
  · unfold putL2
    rw [if_neg (by rw [e]; intro z; cases z), h]
    have hl := (List.getElem?_eq_some_iff.mp h1).1
    rw [hn] at h1
    have el : lot = [s] := by
      have := o.few 0 lot h1
      cases lot with
      | nil => cases h2
      | cons a r =>
        cases r with
        | nil => rw [List.mem_singleton.mp h2]
        | cons b r => simp at this
    have e1 : (putL1 P L D x)[0]? = some [s] := by
      unfold putL1
      rw [if_neg (by omega), h1, el]
    exact (set_same e1).symm
theorem putP {m : Nat} {P L D : List (List Nat)} {x : Nat} (o : OkG m L D) (hn : putN P L D x ≠ 0) : ((putL2 P L D x).set (putN P L D x) ((putL2 P L D x).getD (putN P L D x - 1) [] ++ [putSlot P L D x])).set (putN P L D x - 1) (((putL2 P L D x).getD (putN P L D x) []).filter fun o => !decide (o = putSlot P L D x)) = putL P L D x := by
  have nl := putL1_len P L D x
  unfold putL
  simp only
  rw [if_neg hn]
  unfold putL2
  split
  · have e1 : ((putL1 P L D x).set (putN P L D x) ((putL1 P L D x).getD (putN P L D x) [] ++ [putSlot P L D x])).getD (putN P L D x - 1) [] = (putL1 P L D x).getD (putN P L D x - 1) [] := by
      rw [List.getD_eq_getElem?_getD, List.getElem?_set, if_neg (by omega), ← List.getD_eq_getElem?_getD]
    have e2 : ((putL1 P L D x).set (putN P L D x) ((putL1 P L D x).getD (putN P L D x) [] ++ [putSlot P L D x])).getD (putN P L D x) [] = (putL1 P L D x).getD (putN P L D x) [] ++ [putSlot P L D x] := by
      rw [List.getD_eq_getElem?_getD, List.getElem?_set, if_pos rfl, if_pos nl]
      rfl
    rw [e1, e2, List.set_set, List.filter_append]
    have e3 : [putSlot P L D x].filter (fun o => !decide (o = putSlot P L D x)) = [] := by simp
    rw [e3, List.append_nil]
  · rfl
theorem putL2_few {m : Nat} {P L D : List (List Nat)} {x : Nat} (o : OkG m L D) : ∀ lot ∈ putL2 P L D x, lot.length ≤ m + 2 := fun lot h => by
  unfold putL2 at h
  split at h
  · rcases set_mem h with h | h
    · have := putL1_few o lot h
      omega
    · rw [h, List.length_append, List.length_singleton]
      have := putL1_few o _ (getD_mem (putL1_len P L D x))
      omega
  · have := putL1_few o lot h
    omega
def grF (l h : Addr) : List (Str × V) := putF "held" (.ref h) (putF "lots" (.ref l) [])
theorem hl_ne : ¬ (("held" : Str) = "lots") := by decide +kernel
theorem lh_ne : ¬ (("lots" : Str) = "held") := by decide +kernel
theorem grF_lots (l h : Addr) : (grF l h).lookup ("lots" : Str) = some (.ref l) := by
  unfold grF
  rw [lookup_putF, if_neg lh_ne, lookup_putF, if_pos rfl]
theorem grF_held (l h : Addr) : (grF l h).lookup ("held" : Str) = some (.ref h) := by
  unfold grF
  rw [lookup_putF, if_pos rfl]
theorem grF_no (l h : Addr) {m : Str} (h1 : ¬ m = "held") (h2 : ¬ m = "lots") : (grF l h).lookup m = none := by
  unfold grF
  rw [lookup_putF, if_neg h1, lookup_putF, if_neg h2]
  all_goals rfl
def RR (l h : Addr) : Bool → Addr := fun b => if b = true then h else l
local macro_rules | `(tactic| tm_at "fld") => `(tactic| refine ⟨_, _, _, _, _, rfl, by tm_at "hp", by assumption, by assumption, by first | exact grF_lots _ _ | exact grF_held _ _ | exact bkF_bits _ _ | exact bkF_parents _ _ | fail "fld", ?_⟩)
def sp_Groups___init__ (CG : Addr) (K : PySem.W.Frag) : Sp := fun vs H Q _ => ∃ (g dx : Addr), vs = [.ref g] ∧ H g = some (.ins CG dx []) ∧ ∀ l h H', But g H H' → H l = none → H h = none → l ≠ h → H' g = some (.ins CG dx (grF l h)) → H' l = some (.lst []) → H' h = some (.lst []) → Q .non H'
theorem sc_Groups___init__ : FnScope ["self"] ["self"] (defScope s_Groups___init__) := ⟨rfl, rfl, rfl, by decide +kernel, rfl, by decide +kernel, by decide +kernel⟩
theorem ok_Groups___init__ (T : Top K mg) : FnOk P w K mg base CX0 1 T.f_Groups___init__ T.fd_Groups___init__ ["self"] (sp_Groups___init__ T.C_Groups K) := by
  refine T.F_Groups___init__.ok sc_Groups___init__ (fun vs H Q E h => ?_) (fun cdv A outer s H vs Q E hr h => ?_)
  · obtain ⟨g, dx, rfl, _⟩ := h
    rfl
  · obtain ⟨g, dx, rfl, hg, k⟩ := h
    refine ⟨_, (pss_cons (ps_fld (pv 0) (pe_lst pa_nil) rfl)
      (pss_one (ps_fld (pv 0) (pe_lst pa_nil) rfl))), ?_⟩
    have cB := T.cl_Groups
    have nB1 := T.n_Groups_lots
    have nB2 := T.n_Groups_held
    tm_at "w"
    intro l nl
    refine ⟨_, rfl, g, T.C_Groups, dx, [], rfl, (upd_ne (ne_of_none hg nl)).trans hg, cB, nB1, by decide, ?_⟩
    tm_at "w"
    intro h nh0
    have hgh : g ≠ h := ne_of_none upd_same nh0
    have hlg : l ≠ g := (ne_of_none hg nl).symm
    have hlh : l ≠ h := ne_of_none ((upd_ne hlg).trans upd_same) nh0
    have nh : H h = none := by
      rw [upd_ne hgh.symm, upd_ne hlh.symm] at nh0
      exact nh0
    refine ⟨_, rfl, g, T.C_Groups, dx, _, rfl, (upd_ne hgh).trans upd_same, cB, nB2, by show 1 < 1000; decide, ?_⟩
    tm_at "w"
    refine k l h _ (fun a o n e => ?_) nl nh hlh upd_same ?_ ?_
    · exact (upd_ne n).trans ((upd_ne (ne_of_none e nh)).trans ((upd_ne n).trans ((upd_ne (ne_of_none e nl)).trans e)))
    · exact (upd_ne hlg).trans ((upd_ne hlh).trans ((upd_ne hlg).trans upd_same))
    · exact (upd_ne hgh.symm).trans upd_same
/-! Groups.fitting -/
def optN : Option Nat → V
  | none => .non
  | some n => .int (n : Int)
theorem at_neg1 {q : List Nat} (h : q ≠ []) : atI (natsV q) (-1) = some (.int ((q.getLastD 0 : Nat) : Int)) := by
  have hl : 0 < q.length := List.length_pos_iff.mpr h
  unfold atI
  have e : ixN (natsV q).length (-1) = some (q.length - 1) := by
    rw [natsV_len]
    unfold ixN
    rw [if_neg (by decide), if_pos (by omega)]
    congr 1
    omega
  rw [e]
  refine natsV_at ?_
  rw [List.getElem?_eq_getElem (by omega), ← List.getLast_eq_getElem h, List.getLastD_eq_getLast?, List.getLast?_eq_getLast h]
  rfl
theorem filter_list (q : List Nat) (c : Nat → Bool) : (List.range (natsV q).length).filterMap (fun i => q[i]?.bind fun s => if c s = true then some (V.int (s : Int)) else none) = natsV (q.filter c) := by
  rw [natsV_len]
  have h1 : (List.range q.length).filterMap (fun i => q[i]?.bind fun s => if c s = true then some (V.int (s : Int)) else none) = q.filterMap fun s => if c s = true then some (V.int (s : Int)) else none := by
    have key : ∀ n, n ≤ q.length → (List.range n).filterMap (fun i => q[i]?.bind fun s => if c s = true then some (V.int (s : Int)) else none) = (q.take n).filterMap fun s => if c s = true then some (V.int (s : Int)) else none := by
      intro n
      induction n with
      | zero => intro _; rfl
      | succ n ih =>
        intro h
        rw [filterMap_range_succ, ih (by omega), List.take_add_one, List.filterMap_append]
        rw [List.getElem?_eq_getElem (show n < q.length by omega)]
        congr 1
    rw [key _ (Nat.le_refl _), List.take_length]
  rw [h1]
  induction q with
  | nil => rfl
  | cons p r ih =>
    have ih2 : r.filterMap (fun s => if c s = true then some (V.int (s : Int)) else none) = natsV (r.filter c) := by
      clear ih h1
      induction r with
      | nil => rfl
      | cons p r ih =>
        rw [List.filterMap_cons, List.filter_cons]
        cases e : c p with
        | true => rw [if_pos rfl, if_pos rfl]; show _ :: _ = V.int (p : Int) :: natsV (r.filter c); rw [ih]
        | false => simp only [Bool.false_eq_true, if_false]; exact ih
    rw [List.filterMap_cons, List.filter_cons]
    cases e : c p with
    | true => rw [if_pos rfl, if_pos rfl]; show _ :: _ = V.int (p : Int) :: natsV (r.filter c); rw [ih2]
    | false => simp only [Bool.false_eq_true, if_false]; exact ih2
/-- the least of some numbers, as min tells it -/
theorem min_is {q : List Nat} {m : Int} (h1 : m ∈ q.map (fun z : Nat => (z : Int))) (h2 : ∀ y ∈ q.map (fun z : Nat => (z : Int)), m ≤ y) : ∃ s, q.min? = some s ∧ m = (s : Int) := by
  obtain ⟨s, hs, rfl⟩ := List.mem_map.mp h1
  refine ⟨s, List.min?_eq_some_iff.mpr ⟨hs, fun b hb => ?_⟩, rfl⟩
  have := h2 (b : Int) (List.mem_map.mpr ⟨b, hb, rfl⟩)
  omega
def sp_Groups_fitting (C : Addr) (CG : Addr) (K : PySem.W.Frag) : Sp := fun vs H Q _ => ∃ (g l h la x dx : Nat) (b : Bk) (P : List (List Nat)) (H0 : Hp) (S : Bool → List (List Nat)) (lot : List Nat), vs = [.ref g, .ref b.b, .ref la, .int x] ∧ H g = some (.ins CG dx (grF l h)) ∧ BookAt C H b P ∧ x < P.length ∧ G H0 H (RR l h) S ∧
  H la = some (.lst (natsV lot)) ∧ lot.length ≤ 100000 ∧ (∀ s ∈ lot, s < (S true).length) ∧ (∀ d ∈ S true, d ≠ []) ∧ ∀ H', Same H H' → Q (optN (fitB P (S true) x lot).min?) H'
theorem sc_Groups_fitting : FnScope ["self", "book", "lot", "x", "some", "slot"] ["self", "book", "lot", "x"] (defScope s_Groups_fitting) := ⟨rfl, rfl, rfl, by decide +kernel, rfl, by decide +kernel, by decide +kernel⟩
theorem ok_Groups_fitting (T : Top K mg) : FnOk P w K mg base CX0 2 T.f_Groups_fitting T.fd_Groups_fitting ["self", "book", "lot", "x"] (sp_Groups_fitting T.C_Book T.C_Groups K) := by
  have G_is_one := ok_is_one (P := P) (w := w) (base := base) T
  refine T.F_Groups_fitting.ok sc_Groups_fitting (fun vs H Q E h => ?_) (fun cdv A outer s H vs Q E hr h => ?_)
  · obtain ⟨g, l, h, la, x, dx, b, P, H0, S, lot, rfl, _⟩ := h
    rfl
  · obtain ⟨g, l, h, la, x, dx, b, P, H0, S, lot, rfl, hg, hb, hx, hG, hla, hlen, hs, hf, k⟩ := h
    refine ⟨_, (pss_cons (ps_setLc (i := 4) (own := [("slot", 5)]) (g := gName 5) rfl sc_Groups_fitting.nd rfl rfl (sw_true rfl rfl rfl (by decide +kernel)) (pi_list (pv 2)) (blkOk_by (own := [("slot", 5)]) (N := ["self", "book", "lot", "x", "some", "slot"]) (sc := defScope s_Groups_fitting) (by decide +kernel)) (fun _ _ _ _ _ => (pg_name (i := 5) sc_Groups_fitting.nd rfl (Or.inl rfl))) (fun _ _ _ _ _ => (pts_one (pt_val (pe_call G_is_one hr (by rfl) T.g_is_one T.F_is_one.kp T.b_is_one .nil pass0 (pa_cons (pv 1) (pa_cons (pv 3) (pa_cons (pe_ix (r := rIxL K) ix_list (pe_ix (r := rIxL K) ix_list (pe_fldK (K := K) rfl (pv 0) rfl) (pv 5) (fun _ _ => rfl)) (pe_un un_neg pe_int) (fun _ _ => rfl)) pa_nil))))))) (fun _ _ _ _ _ => (pv 5)))
      (pss_one (ps_ret (pe_ifExp (pt_cmpR op_gt (pe_callB (r := rLenQ K) (id := "len") call_len_seq (by rfl) T.z_len (by decide +kernel) (pa_cons (pv 4) pa_nil)) pe_int (nomark _)) (pe_callB (id := "min") (cr_min rfl) (by rfl) T.z_min (by decide +kernel) (pa_cons (pv 4) pa_nil)) pe_non)))), ?_⟩
    have cG := T.cl_Groups
    have nG1 := T.n_Groups_lots
    have nG2 := T.n_Groups_held
    tm_at "w"
    refine ⟨⟨_, SqL.of hla⟩, fun D nD => lc_listF (fun i => lot[i]?.bind fun s => if isA P x (lastD (S true) s) = true then some (V.int (s : Int)) else none) hla nD (by rw [natsV_len]; exact hlen) ?_ ?_⟩
    · intro i y H1 N M hy s1 kN kM
      obtain ⟨s, hs2, rfl, _⟩ := natsV_here hy
      have hsl := hs s (List.mem_of_getElem? hs2)
      obtain ⟨xs, h1, h2, h3⟩ := (hG.later s1).at true
      obtain ⟨a, e1, e2⟩ := h3 s _ (List.getElem?_eq_getElem hsl)
      have hg1 := s1 _ _ hg
      have h1 : H1 h = some (.lst xs) := h1
      have el : lastD (S true) s = ((S true)[s]).getLastD 0 := by
        unfold lastD
        rw [getD_some (List.getElem?_eq_getElem hsl)]
      tm_at "w"
      refine ⟨_, _, _, _, rfl, rfl, SqL.of e2, at_neg1 (hf _ (List.getElem_mem hsl)), ?_⟩
      tm_at "w"
      refine ⟨b, P, x, _, rfl, hb.same s1, hx, ?_⟩
      rw [← el]
      refine ⟨_, rfl, ?_⟩
      refine iteB (fun e => ?_) (fun e => ?_)
      · tm_at "w"
        exact kN _ _ (by rw [hs2]; show (if isA P x (lastD (S true) s) = true then _ else _) = _; rw [if_pos e]) (Same.refl H1)
      · exact kM _ (by rw [hs2]; show (if isA P x (lastD (S true) s) = true then _ else _) = _; rw [e, if_neg (by decide)]) (Same.refl H1)
    · intro H1 s1 hD
      rw [filter_list] at hD
      have hD : H1 D = some (.lst (natsV (fitB P (S true) x lot))) := hD
      tm_at "w"
      rw [natsV_len]
      refine iteD (fun z => ?_) (fun z => ?_)
      · tm_at "w"
        refine ⟨D, (fitB P (S true) x lot).map fun z : Nat => (z : Int), rfl, SqL.of (by rw [List.map_map]; exact hD), by rw [List.length_map]; omega, fun m hm1 hm2 => ?_⟩
        obtain ⟨s, e1, rfl⟩ := min_is hm1 hm2
        have := k H1 s1
        rw [e1] at this
        exact this
      · have e : fitB P (S true) x lot = [] := List.length_eq_zero_iff.mp (by omega)
        have := k H1 s1
        rw [e] at this
        tm_at "w"
        exact this
/-! Groups.taken -/
def sp_Groups_taken (C : Addr) (CG : Addr) (K : PySem.W.Frag) : Sp := fun vs H Q _ => ∃ (g l h x dx : Nat) (b : Bk) (P : List (List Nat)) (H0 : Hp) (S : Bool → List (List Nat)), vs = [.ref g, .ref b.b, .int x] ∧ H g = some (.ins CG dx (grF l h)) ∧ BookAt C H b P ∧ x < P.length ∧ P.length ≤ 400 ∧ G H0 H (RR l h) S ∧ OkG x (S false) (S true) ∧
  ∀ t H', Same H H' → H' t = some (.tup [.int ((takenB P (S true) x 0 (S false)).1 : Nat), optN (takenB P (S true) x 0 (S false)).2]) → Q (.ref t) H'
theorem sc_Groups_taken : FnScope ["self", "book", "x", "number", "lot", "slot"] ["self", "book", "x"] (defScope s_Groups_taken) := ⟨rfl, rfl, rfl, by decide +kernel, rfl, by decide +kernel, by decide +kernel⟩
theorem ok_Groups_taken (T : Top K mg) : FnOk P w K mg base CX0 3 T.f_Groups_taken T.fd_Groups_taken ["self", "book", "x"] (sp_Groups_taken T.C_Book T.C_Groups K) := by
  have G_Groups_fitting := ok_Groups_fitting (P := P) (w := w) (base := base) T
  refine T.F_Groups_taken.ok sc_Groups_taken (fun vs H Q E h => ?_) (fun cdv A outer s H vs Q E hr h => ?_)
  · obtain ⟨g, l, h, x, dx, b, P, H0, S, rfl, _⟩ := h
    rfl
  · obtain ⟨g, l, h, x, dx, b, P, H0, S, rfl, hg, hb, hx, h400, hG, hok, k⟩ := h
    refine ⟨_, (pss_cons (ps_for PassesOwn.never rfl (pi_enum (by rfl) T.z_enumerate (pa_cons (pe_fld (pv 0) rfl) pa_nil)) (pg_tup rfl (pgs_cons (pg_name (i := 3) sc_Groups_taken.nd rfl (Or.inl rfl)) (pgs_cons (pg_name (i := 4) sc_Groups_taken.nd rfl (Or.inl rfl)) pgs_nil)))
      (pss_cons (ps_set (i := 5) sc_Groups_taken.nd rfl (Or.inl rfl) (pe_meth (pv 0) T.cl_Groups T.m_Groups_fitting G_Groups_fitting hr T.b_Groups_fitting .nil pass0 (pa_cons (pv 1) (pa_cons (pv 4) (pa_cons (pv 2) pa_nil)))))
      (pss_one (ps_if (PW.pt (pw_or (pt_cmpR op_notN (pv 5) pe_non (nomark _)) (pw_or1 (pt_cmpR op_le (pe_callB (r := rLenQ K) (id := "len") call_len_seq (by rfl) T.z_len (by decide +kernel) (pa_cons (pv 4) pa_nil)) (pv 3) (nomark _))))) (pss_one (ps_ret (pe_tup (pa_cons (pv 3) (pa_cons (pv 5) pa_nil))))) pss_nil))))
      (pss_one (ps_ret (pe_tup (pa_cons (pe_callB (r := rLenQ K) (id := "len") call_len_seq (by rfl) T.z_len (by decide +kernel) (pa_cons (pe_fld (pv 0) rfl) pa_nil)) (pa_cons pe_non pa_nil)))))), ?_⟩
    have cG := T.cl_Groups
    have nG1 := T.n_Groups_lots
    have nG2 := T.n_Groups_held
    obtain ⟨xs, h1, h2, h3⟩ := hG.at false
    have wl := hok.wl
    have h1 : H l = some (.lst xs) := h1
    tm_at "w"
    refine ⟨_, _, rfl, SqL.of h1, for_enumL (K := K) (a := l) (xs := xs) (fun i σ H' => ∃ u v w, σ = [some (.ref g), some (.ref b.b), some (.int (x : Int)), u, v, w] ∧ Same H H' ∧ takenB P (S true) x 0 (S false) = takenB P (S true) x i ((S false).drop i)) ?_ ?_ ?_ ?_⟩
    · exact ⟨none, none, none, rfl, Same.refl H, rfl⟩
    · rintro i σ H' ⟨_, _, _, rfl, s1, _⟩
      exact SqL.of (s1 _ _ h1)
    · rintro i y t σ H' hy ⟨u, v, w, rfl, s1, he⟩ nt
      have il : i < (S false).length := by
        have := (List.getElem?_eq_some_iff.mp hy).1
        omega
      obtain ⟨la, e1, e2⟩ := h3 i _ (List.getElem?_eq_getElem il)
      have ey : y = .ref la := by
        rw [hy] at e1
        exact Option.some.inj e1
      subst ey
      have s2 : Same H (upd H' t (.tup [V.int (i : Int), V.ref la])) := Same.new s1 nt
      have hd : (S false).drop i = (S false)[i] :: (S false).drop (i + 1) := List.drop_eq_getElem_cons il
      have hg2 := s2 _ _ hg
      have hla := s2 _ _ e2
      have lm : (S false)[i] ∈ S false := List.getElem_mem il
      have lf := hok.few i _ (List.getElem?_eq_getElem il)
      tm_at "w"
      refine ⟨g, dx, _, rfl, hg2, grF_no _ _ (by decide +kernel) (by decide +kernel), ?_⟩
      tm_at "w"
      refine ⟨g, l, h, la, x, dx, b, P, H0, S, _, rfl, hg2, hb.same s2, hx, hG.later s2, hla, by omega, hok.slots _ lm, hok.full, fun H3 s3 => ?_⟩
      have s4 := Same.trans s2 s3
      have hla3 := s3 _ _ hla
      rw [hd] at he
      cases hm : (fitB P (S true) x ((S false)[i])).min? with
      | some s =>
        have et : takenB P (S true) x i ((S false)[i] :: (S false).drop (i + 1)) = (i, some s) := by unfold takenB; rw [hm]
        rw [et] at he
        rw [he] at k
        tm_at "w"
        intro t2 nt2
        exact k t2 _ (Same.new s4 nt2) upd_same
      | none =>
        have et : takenB P (S true) x i ((S false)[i] :: (S false).drop (i + 1)) = if ((S false)[i]).length ≤ i then (i, none) else takenB P (S true) x (i + 1) ((S false).drop (i + 1)) := by
          show (match (fitB P (S true) x ((S false)[i])).min? with | some s => (i, some s) | none => _) = _
          rw [hm]
        rw [et] at he
        tm_at "w"
        rw [natsV_len]
        refine iteD (fun z => ?_) (fun z => ?_)
        · rw [if_pos (by omega)] at he
          rw [he] at k
          tm_at "w"
          intro t2 nt2
          exact k t2 _ (Same.new s4 nt2) upd_same
        · rw [if_neg (by omega)] at he
          exact ⟨_, _, _, rfl, s4, he⟩
    · rintro σ H' ⟨u, v, w, rfl, s1, he⟩
      rw [h2, List.drop_length] at he
      rw [he] at k
      have hg2 := s1 _ _ hg
      have h12 := s1 _ _ h1
      tm_at "w"
      intro t nt
      exact k t _ (Same.new s1 nt) (by rw [upd_same, h2]; rfl)
/-! Groups.put -/
local macro_rules | `(tactic| tm_at "fld") => `(tactic| refine ⟨_, _, _, _, _, rfl, by tm_at "hp", by assumption, by assumption, by first | exact grF_lots _ _ | exact grF_held _ _ | exact bkF_bits _ _ | exact bkF_parents _ _ | fail "fld", ?_⟩)
def st (L D : List (List Nat)) : Bool → List (List Nat) := fun b => if b = true then D else L
theorem st_of (S : Bool → List (List Nat)) : S = st (S false) (S true) := by funext b; cases b <;> rfl
theorem up_f (L D L' : List (List Nat)) : upS (st L D) false L' = st L' D := by funext b; cases b <;> rfl
theorem up_t (L D D' : List (List Nat)) : upS (st L D) true D' = st L D' := by funext b; cases b <;> rfl
def putS (P : List (List Nat)) (S : Bool → List (List Nat)) (x : Nat) : Bool → List (List Nat) := fun b => if b = true then putD P (S false) (S true) x else putL P (S false) (S true) x
def sp_Groups_put (C : Addr) (CG : Addr) (K : PySem.W.Frag) : Sp := fun vs H Q _ => ∃ (g l h x dx : Nat) (b : Bk) (P : List (List Nat)) (H0 : Hp) (S : Bool → List (List Nat)), vs = [.ref g, .ref b.b, .int x] ∧ H0 g = some (.ins CG dx (grF l h)) ∧ BookAt C H0 b P ∧ x < P.length ∧ P.length ≤ 400 ∧ G H0 H (RR l h) S ∧ OkG x (S false) (S true) ∧
  ∀ H', G H0 H' (RR l h) (putS P S x) → Q (.int (putSlot P (S false) (S true) x : Nat)) H'
theorem sc_Groups_put : FnScope ["self", "book", "x", "number", "slot", "less", "one"] ["self", "book", "x"] (defScope s_Groups_put) := ⟨rfl, rfl, rfl, by decide +kernel, rfl, by decide +kernel, by decide +kernel⟩
theorem ok_Groups_put (T : Top K mg) : FnOk P w K mg base CX0 4 T.f_Groups_put T.fd_Groups_put ["self", "book", "x"] (sp_Groups_put T.C_Book T.C_Groups K) := by
  have G_Groups_taken := ok_Groups_taken (P := P) (w := w) (base := base) T
  refine T.F_Groups_put.ok sc_Groups_put (fun vs H Q E h => ?_) (fun cdv A outer s H vs Q E hr h => ?_)
  · obtain ⟨g, l, h, x, dx, b, P, H0, S, rfl, _⟩ := h
    rfl
  · obtain ⟨g, l, h, x, dx, b, P, H0, S, rfl, hg0, hb0, hx, h400, hG, hok, k⟩ := h
    refine ⟨_, (pss_cons (ps_asg (pe_meth (pv 0) T.cl_Groups T.m_Groups_taken G_Groups_taken hr T.b_Groups_taken .nil pass0 (pa_cons (pv 1) (pa_cons (pv 2) pa_nil))) (pg_tup rfl (pgs_cons (pg_name (i := 3) sc_Groups_put.nd rfl (Or.inl rfl)) (pgs_cons (pg_name (i := 4) sc_Groups_put.nd rfl (Or.inr rfl)) pgs_nil))))
      (C8.pss_cut (ps_if (pt_cmpR op_eq (pv 3) (pe_callB (r := rLenQ K) (id := "len") call_len_seq (by rfl) T.z_len (by decide +kernel) (pa_cons (pe_fld (pv 0) rfl) pa_nil)) (nomark _)) (pss_one (ps_expr (pe_bm PySem.F.plainAttrs_list PySem.F.slot_list_append PySem.F.type_list_append mt_append (pe_fld (pv 0) rfl) (pa_cons (pe_lst pa_nil) pa_nil)))) pss_nil)
      (C8.pss_cut (ps_if (pt_cmpR op_isN (pv 4) pe_non (nomark _)) (pss_cons (ps_set (i := 4) sc_Groups_put.nd rfl (Or.inr rfl) (pe_callB (r := rLenQ K) (id := "len") call_len_seq (by rfl) T.z_len (by decide +kernel) (pa_cons (pe_fld (pv 0) rfl) pa_nil)))
      (pss_cons (ps_expr (pe_bm PySem.F.plainAttrs_list PySem.F.slot_list_append PySem.F.type_list_append mt_append (pe_fld (pv 0) rfl) (pa_cons (pe_lst pa_nil) pa_nil)))
      (pss_one (ps_expr (pe_bm PySem.F.plainAttrs_list PySem.F.slot_list_append PySem.F.type_list_append mt_append (pe_ix (r := rIxL K) ix_list (pe_fld (pv 0) rfl) (pv 3) (fun _ _ => rfl)) (pa_cons (pv 4) pa_nil)))))) pss_nil)
      (pss_cons (ps_expr (pe_bm PySem.F.plainAttrs_list PySem.F.slot_list_append PySem.F.type_list_append mt_append (pe_ix (r := rIxL K) ix_list (pe_fld (pv 0) rfl) (pv 4) (fun _ _ => rfl)) (pa_cons (pv 2) pa_nil)))
      (C8.pss_cut (ps_if (pt_cmpR op_gt (pv 3) pe_int (nomark _)) (pss_cons (ps_setLc (i := 5) (own := [("one", 6)]) (g := gName 6) rfl sc_Groups_put.nd rfl rfl (sw_true rfl rfl rfl (by decide +kernel)) (pi_list (pe_ix (r := rIxL K) ix_list (pe_fld (pv 0) rfl) (pv 3) (fun _ _ => rfl))) (blkOk_by (own := [("one", 6)]) (N := ["self", "book", "x", "number", "slot", "less", "one"]) (sc := defScope s_Groups_put) (by decide +kernel)) (fun _ _ _ _ _ => (pg_name (i := 6) sc_Groups_put.nd rfl (Or.inl rfl))) (fun _ _ _ _ _ => (pts_one (pt_cmpR op_ne (pv 6) (pv 4) (nomark _)))) (fun _ _ _ _ _ => (pv 6)))
      (pss_cons (ps_asg (pe_op op_cat (pe_ix (r := rIxL K) ix_list (pe_fld (pv 0) rfl) (pe_op op_sub (pv 3) pe_int) (fun _ _ => rfl)) (pe_lst (pa_cons (pv 4) pa_nil))) (pg_sub (pe_fld (pv 0) rfl) (pv 3) set_list))
      (pss_one (ps_asg (pv 5) (pg_sub (pe_fld (pv 0) rfl) (pe_op op_sub (pv 3) pe_int) set_list))))) pss_nil)
      (pss_one (ps_ret (pv 4)))))))), ?_⟩
    have cG := T.cl_Groups
    have nG1 := T.n_Groups_lots
    have nG2 := T.n_Groups_held
    have hg := hG.same _ _ hg0
    tm_at "w"
    refine ⟨g, dx, _, rfl, hg, grF_no _ _ (by decide +kernel) (by decide +kernel), ?_⟩
    tm_at "w"
    refine ⟨g, l, h, x, dx, b, P, H0, S, rfl, hg, hb0.same hG.same, hx, h400, hG, hok, fun t H1 s1 ht => ?_⟩
    have hG1 := hG.later s1
    have hg1 := s1 _ _ hg
    rw [st_of S] at hG1
    obtain ⟨xs, h1, h2, h3⟩ := hG1.at false
    have h1 : H1 l = some (.lst xs) := h1
    have h2 : xs.length = (S false).length := h2
    have nle := putN_le P (S false) (S true) x
    have n1 := putL1_len P (S false) (S true) x
    have wl := hok.wl
    tm_at "w"
    refine ⟨fun σ H' => σ = [some (.ref g), some (.ref b.b), some (.int (x : Int)), some (.int (putN P (S false) (S true) x : Nat)), some (optN (takenB P (S true) x 0 (S false)).2), none, none] ∧ G H0 H' (RR l h) (st (putL1 P (S false) (S true) x) (S true)), ?_, ?_⟩
    · tm_at "w"
      refine iteI (fun z => ?_) (fun z => ?_)
      · tm_at "w"
        intro e ne
        have h4 : upd H1 e (.lst []) l = some (.lst xs) := (upd_ne (ne_of_none h1 ne)).trans h1
        tm_at "w"
        have g1 := hG1.grow false ne h1
        rw [up_f] at g1
        have e1 : putL1 P (S false) (S true) x = S false ++ [[]] := if_pos (by show (takenB P (S true) x 0 (S false)).1 = _; omega)
        rw [e1]
        exact g1
      · have e1 : putL1 P (S false) (S true) x = S false := if_neg (by show ¬ (takenB P (S true) x 0 (S false)).1 = _; omega)
        refine ⟨rfl, ?_⟩
        rw [e1]
        exact hG1
    · rintro σ H2 ⟨rfl, hG2⟩
      have hg2 := hG2.same _ _ hg0
      tm_at "w"
      refine ⟨fun σ H' => σ = [some (.ref g), some (.ref b.b), some (.int (x : Int)), some (.int (putN P (S false) (S true) x : Nat)), some (.int (putSlot P (S false) (S true) x : Nat)), none, none] ∧ G H0 H' (RR l h) (st (putL2 P (S false) (S true) x) (putD1 P (S false) (S true) x)), ?_, ?_⟩
      · rcases slot_lt (P := P) (x := x) hok with ⟨e, hs⟩ | ⟨s, lot, e, hs, hsl, _⟩
        · rw [e]
          obtain ⟨ys, k1, k2, k3⟩ := hG2.at true
          have k1 : H2 h = some (.lst ys) := k1
          have k2 : ys.length = (S true).length := k2
          have wd := hok.wd
          tm_at "w"
          intro e2 ne2
          have k4 : upd H2 e2 (.lst []) h = some (.lst ys) := (upd_ne (ne_of_none k1 ne2)).trans k1
          have hg3 : upd H2 e2 (.lst []) g = some (.ins T.C_Groups dx (grF l h)) := (upd_ne (ne_of_none hg2 ne2)).trans hg2
          have g3 := hG2.grow true ne2 k1
          rw [up_t] at g3
          tm_at "w"
          obtain ⟨zs, z1, z2, z3⟩ := g3.at false
          have z1 : upd (upd H2 e2 (.lst [])) h (.lst (ys ++ [.ref e2])) l = some (.lst zs) := z1
          obtain ⟨ra, y1, y2⟩ := z3 (putN P (S false) (S true) x) _ (List.getElem?_eq_getElem n1)
          have hg4 := g3.same _ _ hg0
          have hfew := putL1_few (P := P) (x := x) hok _ (List.getElem_mem n1)
          tm_at "w"
          refine ⟨ra, _, _, rfl, rfl, y2, lt_line (by rw [natsV_len]; omega), ?_⟩
          have g4 := g3.push false (q' := (putL1 P (S false) (S true) x)[putN P (S false) (S true) x] ++ [ys.length]) (List.getElem?_eq_getElem n1) z1 y1
          rw [up_f, ← natsV_snoc] at g4
          refine ⟨by rw [hs, ← k2]; rfl, ?_⟩
          have q1 : putL2 P (S false) (S true) x = (putL1 P (S false) (S true) x).set (putN P (S false) (S true) x) ((putL1 P (S false) (S true) x)[putN P (S false) (S true) x] ++ [ys.length]) := by
            unfold putL2
            rw [if_pos e, getD_some (List.getElem?_eq_getElem n1), hs, k2]
          have q2 : putD1 P (S false) (S true) x = S true ++ [[]] := if_pos e
          rw [q1, q2]
          exact g4
        · rw [e]
          tm_at "w"
          refine iteEF (decide_eq_false (by intro z; cases z)) ?_
          refine ⟨by rw [hs]; rfl, ?_⟩
          have q1 : putL2 P (S false) (S true) x = putL1 P (S false) (S true) x := if_neg (by rw [e]; intro z; cases z)
          have q2 : putD1 P (S false) (S true) x = S true := if_neg (by rw [e]; intro z; cases z)
          rw [q1, q2]
          exact hG2
      · rintro σ H3 ⟨rfl, hG3⟩
        have hg3 := hG3.same _ _ hg0
        obtain ⟨ys, k1, k2, k3⟩ := hG3.at true
        have k1 : H3 h = some (.lst ys) := k1
        have sl := slot_lt1 (P := P) (x := x) hok
        obtain ⟨r, e1, e2⟩ := k3 _ _ (List.getElem?_eq_getElem sl)
        have hrl := putD1_rows (P := P) (x := x) hok _ (List.getElem_mem sl)
        tm_at "w"
        refine ⟨r, _, _, rfl, rfl, e2, lt_line (by rw [natsV_len]; omega), ?_⟩
        have g4 := hG3.push true (q' := (putD1 P (S false) (S true) x)[putSlot P (S false) (S true) x] ++ [x]) (List.getElem?_eq_getElem sl) k1 e1
        rw [up_t, ← natsV_snoc] at g4
        have eD : (putD1 P (S false) (S true) x).set (putSlot P (S false) (S true) x) ((putD1 P (S false) (S true) x)[putSlot P (S false) (S true) x] ++ [x]) = putD P (S false) (S true) x := by
          rw [← putD_eq, getD_some (List.getElem?_eq_getElem sl)]
        have g4 : G H0 _ (RR l h) (st (putL2 P (S false) (S true) x) (putD P (S false) (S true) x)) := eD ▸ g4
        have hg4 := g4.same _ _ hg0
        refine ⟨fun σ H' => (∃ u v, σ = [some (.ref g), some (.ref b.b), some (.int (x : Int)), some (.int (putN P (S false) (S true) x : Nat)), some (.int (putSlot P (S false) (S true) x : Nat)), u, v]) ∧ G H0 H' (RR l h) (st (putL P (S false) (S true) x) (putD P (S false) (S true) x)), ?_, ?_⟩
        · tm_at "w"
          refine iteD (fun z => ?_) (fun z => ?_)
          · obtain ⟨zs, z1, z2, z3⟩ := g4.at false
            have n2 := n1
            rw [← putL2_len] at n2
            obtain ⟨ra, y1, y2⟩ := z3 (putN P (S false) (S true) x) _ (List.getElem?_eq_getElem n2)
            obtain ⟨rb, w1, w2⟩ := z3 (putN P (S false) (S true) x - 1) _ (List.getElem?_eq_getElem (by show _ < (putL2 P (S false) (S true) x).length; omega))
            have hf2 := putL2_few (P := P) (x := x) hok _ (List.getElem_mem n2)
            tm_at "w"
            refine ⟨⟨_, SqL.of y2⟩, fun D nD => lc_listF (fun i => ((putL2 P (S false) (S true) x)[putN P (S false) (S true) x])[i]?.bind fun o => if (!decide (o = putSlot P (S false) (S true) x)) = true then some (V.int (o : Int)) else none) y2 nD (by rw [natsV_len]; omega) ?_ ?_⟩
            · intro i y H6 N M hy s6 kN kM
              obtain ⟨o, ho, rfl, _⟩ := natsV_here hy
              tm_at "w"
              rw [dec_nat]
              refine iteB (fun e => ?_) (fun e => ?_)
              · tm_at "w"
                exact kN _ _ (by rw [ho]; show (if (!decide (o = putSlot P (S false) (S true) x)) = true then _ else _) = _; rw [if_pos e]) (Same.refl H6)
              · exact kM _ (by rw [ho]; show (if (!decide (o = putSlot P (S false) (S true) x)) = true then _ else _) = _; rw [e, if_neg (by decide)]) (Same.refl H6)
            · intro H6 s6 hD
              rw [filter_list] at hD
              have hg6 := s6 _ _ hg4
              have z16 : H6 l = some (.lst zs) := s6 _ _ z1
              have hzl : zs.length = (putL2 P (S false) (S true) x).length := z2
              have w26 := s6 _ _ w2
              tm_at "w"
              refine ⟨_, _, _, _, rfl, rfl, SqL.of z16, at_of (j := putN P (S false) (S true) x - 1) (by omega) w1, ?_⟩
              tm_at "w"
              intro p np
              have s7 := Same.new (o := .lst [V.int (putSlot P (S false) (S true) x : Nat)]) (Same.refl H6) np
              have hfb := putL2_few (P := P) (x := x) hok _ (List.getElem_mem (show putN P (S false) (S true) x - 1 < (putL2 P (S false) (S true) x).length by omega))
              refine ⟨_, _, _, _, rfl, rfl, s7 _ _ w26, upd_same, by rw [natsV_len]; have := lt_line (n := 1000) (by decide); show (putL2 P (S false) (S true) x)[putN P (S false) (S true) x - 1].length + 1 ≤ _; omega, fun p2 np2 => ?_⟩
              have s8 : Same H6 (upd (upd H6 p (.lst [V.int (putSlot P (S false) (S true) x : Nat)])) p2 (.lst (natsV (putL2 P (S false) (S true) x)[putN P (S false) (S true) x - 1] ++ [V.int (putSlot P (S false) (S true) x : Nat)]))) := Same.new s7 np2
              have hg8 := s8 _ _ hg6
              have z18 := s8 _ _ z16
              have hgl : g ≠ l := fun e => by rw [e, z18] at hg8; cases hg8
              tm_at "w"
              refine ⟨l, zs, _, putN P (S false) (S true) x, rfl, rfl, z18, ixn_nat (by omega), ?_⟩
              have hg9 := (upd_ne (o := HO.lst (zs.set (putN P (S false) (S true) x) (.ref p2))) hgl).trans hg8
              tm_at "w"
              refine ⟨l, _, _, putN P (S false) (S true) x - 1, rfl, rfl, upd_same, ?_, ?_⟩
              · rw [show ((putN P (S false) (S true) x : Nat) : Int) - 1 = ((putN P (S false) (S true) x - 1 : Nat) : Int) by omega]
                exact ixn_nat (by rw [List.length_set]; omega)
              refine ⟨⟨_, _, rfl⟩, ?_⟩
              have gb := g4.both (Same.trans s6 s8) false (j := putN P (S false) (S true) x) (k := putN P (S false) (S true) x - 1) (q := (putL2 P (S false) (S true) x)[putN P (S false) (S true) x - 1] ++ [putSlot P (S false) (S true) x])
                (r := ((putL2 P (S false) (S true) x)[putN P (S false) (S true) x]).filter fun o => !decide (o = putSlot P (S false) (S true) x)) (c := p2) (d := D) (xs := zs)
                (Same.free (Same.trans s6 s7) np2) nD (ne_of_none (s7 _ _ hD) np2).symm n2 (by show _ < (putL2 P (S false) (S true) x).length; omega) (by omega) (by rw [upd_same, natsV_snoc]) (s8 _ _ hD) z18
              rw [up_f] at gb
              have eP := putP (P := P) (x := x) hok (show putN P (S false) (S true) x ≠ 0 by omega)
              rw [getD_some (List.getElem?_eq_getElem n2), getD_some (List.getElem?_eq_getElem (show putN P (S false) (S true) x - 1 < (putL2 P (S false) (S true) x).length by omega))] at eP
              rw [← eP]
              exact gb
          · refine ⟨⟨_, _, rfl⟩, ?_⟩
            rw [← put0 hok (by omega)]
            exact g4
        · rintro σ H5 ⟨⟨u, v, rfl⟩, hG5⟩
          tm_at "w"
          exact k H5 hG5
/-! Groups.told -/
local macro_rules | `(tactic| tm_at "fld") => `(tactic| refine ⟨_, _, _, _, _, rfl, by tm_at "hp", by assumption, by assumption, by first | exact grF_lots _ _ | exact grF_held _ _ | exact bkF_bits _ _ | exact bkF_parents _ _ | fail "fld", ?_⟩)
/-- the groups up to the last that is not empty -/
def mostB (L : List (List Nat)) : List Nat := 0 :: ((List.range L.length).filter fun i => decide (0 < (L.getD i []).length)).map (· + 1)
theorem max_le {L : List (List Nat)} {m : Int} (h1 : m ∈ (mostB L).map (fun z : Nat => (z : Int))) : ∃ k : Nat, m = (k : Int) ∧ k ≤ L.length := by
  obtain ⟨z, hz, rfl⟩ := List.mem_map.mp h1
  refine ⟨z, rfl, ?_⟩
  unfold mostB at hz
  rcases List.mem_cons.mp hz with e | e
  · omega
  · obtain ⟨i, hi, e⟩ := List.mem_map.mp e
    have := List.mem_range.mp (List.mem_filter.mp hi).1
    omega
/-- the tuple of the groups, each ascending -/
def LotsAt (H : Hp) (a : Addr) (L : List (List Nat)) : Prop := ∃ vs : List V, H a = some (.tup vs) ∧ (∃ m, (∀ y ∈ mostB L, y ≤ m) ∧ m ∈ mostB L ∧ vs.length = m) ∧ ∀ (j : Nat) v, vs[j]? = some v → ∃ b q, v = .ref b ∧ H b = some (.tup (natsV q)) ∧ q.Perm (L.getD j []) ∧ q.Pairwise (· ≤ ·)
theorem nats_perm {q : List Nat} {ns : List Int} (h : ns.Perm (q.map fun z : Nat => (z : Int))) (hs : ns.Pairwise (· ≤ ·)) : ∃ ks : List Nat, ns = ks.map (fun z : Nat => (z : Int)) ∧ ks.Perm q ∧ ks.Pairwise (· ≤ ·) := by
  have e : ns = (ns.map Int.toNat).map fun z : Nat => (z : Int) := by
    rw [List.map_map]
    refine (List.map_id _).symm.trans (List.map_congr_left fun z hz => ?_)
    obtain ⟨y, _, ey⟩ := List.mem_map.mp (h.mem_iff.mp hz)
    show z = ((z.toNat : Nat) : Int)
    omega
  refine ⟨ns.map Int.toNat, e, ?_, ?_⟩
  · have := h.map Int.toNat
    rw [List.map_map] at this
    have e2 : q.map (Int.toNat ∘ fun z : Nat => (z : Int)) = q := (List.map_congr_left fun z _ => (by show (z : Int).toNat = z; omega)).trans (List.map_id q)
    rw [e2] at this
    exact this
  · rw [List.pairwise_map]
    exact hs.imp fun {a b} hab => by omega
theorem take_list {xs : List V} {k : Nat} (h : k ≤ xs.length) : cutV xs none (some (k : Int)) = xs.take k := by
  unfold cutV
  rw [show HT.sIx xs.length 0 none = 0 from rfl, HT.sIx_nat, List.drop_zero]
  congr 1
  omega
theorem drop_list {xs : List V} {k : Nat} (h : k ≤ xs.length) : cutV xs (some (k : Int)) none = xs.drop k := by
  unfold cutV
  rw [show HT.sIx xs.length xs.length none = xs.length from rfl, HT.sIx_nat, show min k xs.length = k by omega]
  exact List.take_of_length_le (by rw [List.length_drop]; omega)
def sp_Groups_told (C : Addr) (CG : Addr) (K : PySem.W.Frag) : Sp := fun vs H Q _ => ∃ (g l h dx : Nat) (H0 : Hp) (S : Bool → List (List Nat)), vs = [.ref g] ∧ H g = some (.ins CG dx (grF l h)) ∧ G H0 H (RR l h) S ∧ (S false).length ≤ 400 ∧ (∀ lot ∈ S false, lot.length ≤ 1000) ∧
  ∀ t H', Same H H' → LotsAt H' t (S false) → Q (.ref t) H'
theorem sc_Groups_told : FnScope ["self", "most", "number", "lot"] ["self"] (defScope s_Groups_told) := ⟨rfl, rfl, rfl, by decide +kernel, rfl, by decide +kernel, by decide +kernel⟩
theorem ok_Groups_told (T : Top K mg) : FnOk P w K mg base CX0 1 T.f_Groups_told T.fd_Groups_told ["self"] (sp_Groups_told T.C_Book T.C_Groups K) := by
  refine T.F_Groups_told.ok sc_Groups_told (fun vs H Q E h => ?_) (fun cdv A outer s H vs Q E hr h => ?_)
  · obtain ⟨g, l, h, dx, H0, S, rfl, _⟩ := h
    rfl
  · obtain ⟨g, l, h, dx, H0, S, rfl, hg, hG, h400, hlot, k⟩ := h
    refine ⟨_, (pss_cons (ps_set (i := 1) sc_Groups_told.nd rfl (Or.inl rfl) (pe_callB (id := "max") (cr_max rfl) (by rfl) T.z_max (by decide +kernel) (pa_cons (pe_op op_cat (pe_lst (pa_cons pe_int pa_nil)) (pe_lc (own := [("number", 2), ("lot", 3)]) rfl sc_Groups_told.nd (pi_enum (by rfl) T.z_enumerate (pa_cons (pe_fld (pv 0) rfl) pa_nil)) (blkOk_by (own := [("number", 2), ("lot", 3)]) (N := ["self", "most", "number", "lot"]) (sc := defScope s_Groups_told) (by decide +kernel)) (fun _ _ _ _ _ => (pg_tupK (K := K) 2 rfl rfl (pgs_cons (pg_name (i := 2) sc_Groups_told.nd rfl (Or.inl rfl)) (pgs_cons (pg_name (i := 3) sc_Groups_told.nd rfl (Or.inl rfl)) pgs_nil)))) (fun _ _ _ _ _ => (pts_one (pt_cmpR op_gt (pe_callB (r := rLenQ K) (id := "len") call_len_seq (by rfl) T.z_len (by decide +kernel) (pa_cons (pv 3) pa_nil)) pe_int (nomark _)))) (fun _ _ _ _ _ => (pe_op op_add (pv 2) pe_int)))) pa_nil)))
      (pss_one (ps_ret (pe_callTy (r := rTupQ K) (T := "tuple") call_tuple_of (by rfl) T.z_tuple (by decide +kernel) (pa_cons (pe_lc (own := [("lot", 3)]) (g := gName 3) (tt := tYes) rfl sc_Groups_told.nd (pi_list (pe_slice sl_list (pe_fld (pv 0) rfl) po_none (po_some (pv 1)))) (blkOk_by (own := [("lot", 3)]) (N := ["self", "most", "number", "lot"]) (sc := defScope s_Groups_told) (by decide +kernel)) (fun _ _ _ _ _ => (pg_name (i := 3) sc_Groups_told.nd rfl (Or.inl rfl))) (fun _ _ _ _ _ => pts_nil) (fun _ _ _ _ _ => (pe_callTy (r := rTupQ K) (T := "tuple") call_tuple_of (by rfl) T.z_tuple (by decide +kernel) (pa_cons (pe_callB (r := rSortedI K) (id := "sorted") cr_sortedI (by rfl) T.z_sorted (by decide +kernel) (pa_cons (pv 3) pa_nil)) pa_nil)))) pa_nil))))), ?_⟩
    have cG := T.cl_Groups
    have nG1 := T.n_Groups_lots
    have nG2 := T.n_Groups_held
    obtain ⟨xs, h1, h2, h3⟩ := hG.at false
    have h1 : H l = some (.lst xs) := h1
    tm_at "w"
    intro p0 np0
    have s1 : Same H (upd H p0 (.lst [V.int 0])) := Same.new (Same.refl H) np0
    have hg1 := s1 _ _ hg
    have h11 := s1 _ _ h1
    have h2 : xs.length = (S false).length := h2
    tm_at "w"
    refine ⟨_, _, rfl, SqL.of h11, fun D nD => lc_enumLF (fun i => if decide (0 < ((S false).getD i []).length) = true then some (V.int ((i + 1 : Nat) : Int)) else none) h11 nD (by omega) ?_ ?_⟩
    · intro i y Z H1 N M hy s2 hZ kN kM
      have il : i < (S false).length := by
        have := (List.getElem?_eq_some_iff.mp hy).1
        omega
      obtain ⟨a, e1, e2⟩ := h3 i _ (List.getElem?_eq_getElem il)
      have ey : y = .ref a := by
        rw [hy] at e1
        exact Option.some.inj e1
      subst ey
      have e21 := s2 _ _ (s1 _ _ e2)
      have eg : (S false).getD i [] = (S false)[i] := getD_some (List.getElem?_eq_getElem il)
      tm_at "w"
      rw [natsV_len]
      refine iteD (fun z => ?_) (fun z => ?_)
      · tm_at "w"
        exact kN _ _ (by rw [eg, decide_eq_true (by omega)]; rfl) (Same.refl H1)
      · exact kM _ (by rw [eg, decide_eq_false (by omega)]; rfl) (Same.refl H1)
    · intro H1 s2 hD
      rw [h2, filter_natsV] at hD
      have s3 := Same.trans s1 s2
      have hp0 := s2 _ _ (upd_same (H := H) (a := p0) (o := .lst [V.int 0]))
      have ml : (mostB (S false)).length ≤ 401 := by
        unfold mostB
        rw [List.length_cons, List.length_map]
        have := List.length_filter_le (fun i => decide (0 < ((S false).getD i []).length)) (List.range (S false).length)
        rw [List.length_range] at this
        omega
      refine ⟨_, _, _, _, rfl, rfl, hp0, hD, by rw [natsV_len, List.length_map]; have := lt_line (n := 1000) (by decide); have := List.length_filter_le (fun i => decide (0 < ((S false).getD i []).length)) (List.range (S false).length); rw [List.length_range] at this; show 1 + _ ≤ _; omega, fun p np => ?_⟩
      have hm : upd H1 p (.lst ([V.int 0] ++ natsV (((List.range (S false).length).filter fun i => decide (0 < ((S false).getD i []).length)).map fun i => i + 1))) p = some (.lst (((mostB (S false)).map fun z : Nat => (z : Int)).map V.int)) := by
        rw [upd_same, List.map_map]
        rfl
      have s4 := Same.new (o := .lst ([V.int 0] ++ natsV (((List.range (S false).length).filter fun i => decide (0 < ((S false).getD i []).length)).map fun i => i + 1))) s3 np
      tm_at "w"
      refine ⟨p, (mostB (S false)).map fun z : Nat => (z : Int), rfl, SqL.of hm, by rw [List.length_map]; exact Nat.succ_pos _, fun m hm1 hm2 => ?_⟩
      obtain ⟨kk, rfl, hkl⟩ := max_le hm1
      have hg4 := s4 _ _ hg
      have h14 := s4 _ _ h1
      tm_at "w"
      refine ⟨_, _, rfl, SqL.of h14, fun p2 np2 => ?_⟩
      rw [take_list (by omega)]
      have s5 := Same.new (o := .lst (xs.take kk)) s4 np2
      refine ⟨p2, rfl, ⟨_, SqL.of upd_same⟩, fun D2 nD2 => lc_listR (fun j v H => ∃ b q, v = .ref b ∧ H b = some (.tup (natsV q)) ∧ q.Perm ((S false).getD j []) ∧ q.Pairwise (· ≤ ·)) (fun j v H H' h k => by
        obtain ⟨b, q, e1, e2, e3⟩ := h
        exact ⟨b, q, e1, k _ _ e2, e3⟩) upd_same nD2 (by rw [List.length_take]; omega) ?_ ?_⟩
      · intro j y H6 N M hy s6 kN
        have il : j < (S false).length := by
          have := (List.getElem?_eq_some_iff.mp hy).1
          rw [List.length_take] at this
          omega
        obtain ⟨a, e1, e2⟩ := h3 j _ (List.getElem?_eq_getElem il)
        have ey : y = .ref a := by
          rw [List.getElem?_take] at hy
          split at hy
          · rw [hy] at e1
            exact Option.some.inj e1
          · cases hy
        subst ey
        have e26 := s6 _ _ (s5 _ _ e2)
        have eg : (S false).getD j [] = (S false)[j] := getD_some (List.getElem?_eq_getElem il)
        tm_at "w"
        refine ⟨a, ((S false)[j]).map fun z : Nat => (z : Int), rfl, SqL.of (by rw [List.map_map]; exact e26), fun ns q perm pw nq => ?_⟩
        obtain ⟨ks, rfl, kp, kw⟩ := nats_perm perm pw
        tm_at "w"
        intro t nt
        refine kN _ _ (Same.new (Same.new (Same.refl H6) nq) nt) ⟨t, ks, rfl, by rw [upd_same, List.map_map]; rfl, by rw [eg]; exact kp, kw⟩
      · intro H6 acc s6 hD2 hlen hR
        tm_at "w"
        intro t nt
        rw [List.length_take] at hlen
        refine k t _ (Same.new (Same.trans s5 s6) nt) ⟨acc, upd_same, ⟨kk, fun y hy => ?_, ?_, by omega⟩, fun j v e => ?_⟩
        · have := hm2 (y : Int) (List.mem_map.mpr ⟨y, hy, rfl⟩)
          omega
        · obtain ⟨z, hz, e⟩ := List.mem_map.mp hm1
          rw [show kk = z by omega]
          exact hz
        · obtain ⟨b, q, e1, e2, e3⟩ := hR j v e
          exact ⟨b, q, e1, (upd_ne (ne_of_none e2 nt)).trans e2, e3⟩
/-! entries_of -/
def entB (P : List (List Nat)) (D : List (List Nat)) (x : Nat) : List Nat := D.map fun row => (row.filter fun k => isA P x k).length
def sp_entries_of (C : Addr) (K : PySem.W.Frag) : Sp := fun vs H Q _ => ∃ (l h x : Nat) (b : Bk) (P : List (List Nat)) (H0 : Hp) (S : Bool → List (List Nat)), vs = [.ref b.b, .ref h, .int x] ∧ BookAt C H b P ∧ x < P.length ∧ G H0 H (RR l h) S ∧ (S true).length ≤ 400 ∧ (∀ d ∈ S true, d.length ≤ 400) ∧
  ∀ t H', Same H H' → H' t = some (.tup (natsV (entB P (S true) x))) → Q (.ref t) H'
theorem sc_entries_of : FnScope ["book", "held", "x", "row", "kind"] ["book", "held", "x"] (defScope s_entries_of) := ⟨rfl, rfl, rfl, by decide +kernel, rfl, by decide +kernel, by decide +kernel⟩
theorem ok_entries_of (T : Top K mg) : FnOk P w K mg base CX0 2 T.f_entries_of T.fd_entries_of ["book", "held", "x"] (sp_entries_of T.C_Book K) := by
  have G_is_one := ok_is_one (P := P) (w := w) (base := base) T
  refine T.F_entries_of.ok sc_entries_of (fun vs H Q E h => ?_) (fun cdv A outer s H vs Q E hr h => ?_)
  · obtain ⟨l, h, x, b, P, H0, S, rfl, _⟩ := h
    rfl
  · obtain ⟨l, h, x, b, P, H0, S, rfl, hb, hx, hG, h400, hd4, k⟩ := h
    refine ⟨_, (pss_one (ps_ret (pe_callTy (r := rTupQ K) (T := "tuple") call_tuple_of (by rfl) T.z_tuple (by decide +kernel) (pa_cons (pe_lc (own := [("row", 3)]) (g := gName 3) (tt := tYes) rfl sc_entries_of.nd (pi_list (pv 1)) (blkOk_by (own := [("row", 3)]) (N := ["book", "held", "x", "row", "kind"]) (sc := defScope s_entries_of) (by decide +kernel)) (fun _ _ _ _ _ => (pg_name (i := 3) sc_entries_of.nd rfl (Or.inl rfl))) (fun _ _ _ _ _ => pts_nil) (fun _ _ _ _ _ => (pe_callB (r := rLenQ K) (id := "len") call_len_seq (by rfl) T.z_len (by decide +kernel) (pa_cons (by exact (pe_lc (own := [("kind", 4)]) (g := gName 4) rfl sc_entries_of.nd (pi_listK (K := K) rfl (pv 3)) (blk_in (own := [("kind", 4)]) (N := ["book", "held", "x", "row", "kind"]) (sc1 := defScope s_entries_of) rfl rfl (by decide +kernel)) (fun _ _ _ _ _ => (pg_name (i := 4) sc_entries_of.nd rfl (Or.inl rfl))) (fun _ _ _ _ _ => (pts_one (pt_val (pe_call G_is_one hr (by rfl) T.g_is_one T.F_is_one.kp T.b_is_one .nil pass0 (pa_cons (pv 0) (pa_cons (pv 2) (pa_cons (pv 4) pa_nil))))))) (fun _ _ _ _ _ => (pv 4)))) pa_nil)))) pa_nil)))), ?_⟩
    obtain ⟨xs, h1, h2, h3⟩ := hG.at true
    have h1 : H h = some (.lst xs) := h1
    have h2 : xs.length = (S true).length := h2
    tm_at "w"
    refine ⟨⟨_, SqL.of h1⟩, fun D nD => lc_listF (fun i => (S true)[i]?.map fun row => V.int (((row.filter fun k => isA P x k).length : Nat) : Int)) h1 nD (by omega) ?_ ?_⟩
    · intro i y H1 N M hy s1 kN kM
      have il : i < (S true).length := by
        have := (List.getElem?_eq_some_iff.mp hy).1
        omega
      obtain ⟨a, e1, e2⟩ := h3 i _ (List.getElem?_eq_getElem il)
      have ey : y = .ref a := by
        rw [hy] at e1
        exact Option.some.inj e1
      subst ey
      have e21 := s1 _ _ e2
      have dl := hd4 _ (List.getElem_mem il)
      tm_at "w"
      refine ⟨⟨_, SqL.of e21⟩, fun D2 nD2 => lc_listF (fun j => ((S true)[i])[j]?.bind fun k => if isA P x k = true then some (V.int (k : Int)) else none) e21 nD2 (by rw [natsV_len]; omega) ?_ ?_⟩
      · intro j z H2 N2 M2 hz s2 kN2 kM2
        obtain ⟨kd, hkd, rfl, _⟩ := natsV_here hz
        have hb2 := (hb.same s1).same s2
        tm_at "w"
        refine ⟨b, P, x, kd, rfl, hb2, hx, ?_⟩
        refine ⟨_, rfl, ?_⟩
        refine iteB (fun e => ?_) (fun e => ?_)
        · tm_at "w"
          exact kN2 _ _ (by rw [hkd]; show (if isA P x kd = true then _ else _) = _; rw [if_pos e]) (Same.refl H2)
        · exact kM2 _ (by rw [hkd]; show (if isA P x kd = true then _ else _) = _; rw [e, if_neg (by decide)]) (Same.refl H2)
      · intro H2 s2 hD2
        rw [filter_list] at hD2
        tm_at "w"
        rw [natsV_len]
        exact kN _ _ (by rw [List.getElem?_eq_getElem il]; rfl) s2
    · intro H1 s1 hD
      rw [h2, range_items] at hD
      tm_at "w"
      intro t nt
      refine k t _ (Same.new s1 nt) ?_
      rw [upd_same]
      unfold entB natsV
      rw [List.map_map]
      rfl
/-! gone_through -/
local macro_rules | `(tactic| tm_at "fld") => `(tactic| refine ⟨_, _, _, _, _, rfl, by tm_at "hp", by assumption, by assumption, by first | exact grF_lots _ _ | exact grF_held _ _ | exact bkF_bits _ _ | exact bkF_parents _ _ | fail "fld", ?_⟩)
/-- the told rule behind so many kinds -/
def runS (P : List (List Nat)) : Nat → Bool → List (List Nat)
  | 0 => fun _ => []
  | x + 1 => putS P (runS P x) x
def tripB (P : List (List Nat)) (x : Nat) : Tr :=
  let s := putSlot P (runS P x false) (runS P x true) x
  ((s : Int), (((runS P (x + 1) true).getD s []).length : Int), (entB P (runS P (x + 1) true) x).map fun z : Nat => (z : Int))
def runT (P : List (List Nat)) : Nat → List Tr
  | 0 => []
  | x + 1 => runT P x ++ [tripB P x]
theorem runT_len (P : List (List Nat)) : ∀ x, (runT P x).length = x
  | 0 => rfl
  | x + 1 => by
    show (runT P x ++ [tripB P x]).length = x + 1
    rw [List.length_append, runT_len P x]
    rfl
theorem run_ok (P : List (List Nat)) : ∀ x, OkG x (runS P x false) (runS P x true)
  | 0 => ⟨(fun lot h => by cases h), (fun j lot h => by simp [runS] at h), (fun d h => by cases h), (fun d h => by cases h), Nat.le_refl _, Nat.le_refl _, (fun d h => by cases h)⟩
  | x + 1 => (run_ok P x).put
theorem G.more {H0 H : Hp} {R : Bool → Addr} {S : Bool → List (List Nat)} (g : G H0 H R S) {p : Addr} {o : HO} (n : H p = none) : G (upd H0 p o) (upd H p o) R S := by
  obtain ⟨F, f⟩ := g.ex
  refine ⟨fun a u e => ?_, F, fun b => upd_at (ne_of_none (f.lists b) n) (f.lists b), fun b j q e => upd_at (ne_of_none (f.rows b j q e) n) (f.rows b j q e), f.inj, f.apart, f.two, fun b => ?_, fun b j h => ?_⟩
  · by_cases h : a = p
    · rw [h, upd_same] at e ⊢
      exact e
    · rw [upd_ne h] at e ⊢
      exact g.same _ _ e
  · rw [upd_ne (ne_of_none (f.lists b) n)]
    exact f.newR b
  · obtain ⟨q, _, e⟩ := f.row h
    rw [upd_ne (ne_of_none e n)]
    exact f.newF b j h
theorem G.mutb {H0 H : Hp} {R : Bool → Addr} {S : Bool → List (List Nat)} (g : G H0 H R S) {p : Addr} {o u : HO} (n : H0 p = some u) : G (upd H0 p o) (upd H p o) R S := by
  obtain ⟨F, f⟩ := g.ex
  have nR : ∀ b, R b ≠ p := fun b e => by rw [← e, f.newR b] at n; cases n
  have nF : ∀ b (j : Nat), j < (S b).length → F b j ≠ p := fun b j h e => by rw [← e, f.newF b j h] at n; cases n
  refine ⟨fun a u e => ?_, F, fun b => upd_at (nR b) (f.lists b), fun b j q e => upd_at (nF b j (List.getElem?_eq_some_iff.mp e).1) (f.rows b j q e), f.inj, f.apart, f.two, fun b => ?_, fun b j h => ?_⟩
  · by_cases h : a = p
    · rw [h, upd_same] at e ⊢
      exact e
    · rw [upd_ne h] at e ⊢
      exact g.same _ _ e
  · rw [upd_ne (nR b)]
    exact f.newR b
  · rw [upd_ne (nF b j h)]
    exact f.newF b j h
open Classical in
/-- as much as can be kept -/
theorem G.maxb {B H : Hp} {R : Bool → Addr} {S : Bool → List (List Nat)} (g : G B H R S) : ∃ B', G B' H R S ∧ Same B B' ∧ ∀ a xs, H a = some (.tup xs) → B' a = some (.tup xs) := by
  obtain ⟨F, f⟩ := g.ex
  refine ⟨fun a => if (∃ b, a = R b) ∨ ∃ b j, j < (S b).length ∧ a = F b j then none else H a, ⟨fun a o e => ?_, F, f.lists, f.rows, f.inj, f.apart, f.two, fun b => if_pos (.inl ⟨b, rfl⟩), fun b j h => if_pos (.inr ⟨b, j, h, rfl⟩)⟩, fun a o e => ?_, fun a xs e => ?_⟩
  · split at e
    · cases e
    · exact e
  · show (if _ then none else H a) = some o
    rw [if_neg]
    · exact g.same _ _ e
    · rintro (⟨b, rfl⟩ | ⟨b, j, h, rfl⟩)
      · rw [f.newR b] at e
        cases e
      · rw [f.newF b j h] at e
        cases e
  · show (if _ then none else H a) = some _
    rw [if_neg]
    · exact e
    · rintro (⟨b, rfl⟩ | ⟨b, j, h, rfl⟩)
      · rw [f.lists b] at e
        cases e
      · obtain ⟨q, _, z⟩ := f.row h
        rw [z] at e
        cases e
def sp_gone_through (C : Addr) (CG : Addr) (K : PySem.W.Frag) : Sp := fun vs H Q _ => ∃ (b : Bk) (P : List (List Nat)), vs = [.ref b.b] ∧ BookAt C H b P ∧ P.length ≤ 400 ∧
  ∀ t g l h dx f B vs H', Same H H' → H' t = some (.tup [.ref g, .ref f]) → H' g = some (.ins CG dx (grF l h)) → G B H' (RR l h) (runS P P.length) → H' f = some (.lst vs) → ScL H' vs (runT P P.length) → Q (.ref t) H'
theorem sc_gone_through : FnScope ["book", "groups_now", "found", "x", "slot"] ["book"] (defScope s_gone_through) := ⟨rfl, rfl, rfl, by decide +kernel, rfl, by decide +kernel, by decide +kernel⟩
theorem ok_gone_through (T : Top K mg) : FnOk P w K mg base CX0 5 T.f_gone_through T.fd_gone_through ["book"] (sp_gone_through T.C_Book T.C_Groups K) := by
  have G_Groups___init__ := ok_Groups___init__ (P := P) (w := w) (base := base) T
  have G_Groups_put := ok_Groups_put (P := P) (w := w) (base := base) T
  have G_entries_of := ok_entries_of (P := P) (w := w) (base := base) T
  have G_many_of := ok_many_of (P := P) (w := w) (base := base) T
  refine T.F_gone_through.ok sc_gone_through (fun vs H Q E h => ?_) (fun cdv A outer s H vs Q E hr h => ?_)
  · obtain ⟨b, P, rfl, _⟩ := h
    rfl
  · obtain ⟨b, P, rfl, hb, h400, k⟩ := h
    refine ⟨_, (pss_cons (ps_set (i := 1) sc_gone_through.nd rfl (Or.inl rfl) (pe_make0 T.M_Groups G_Groups___init__ (hr.mono (by decide)) (by rfl) T.g_Groups T.b_Groups___init__ .nil pass0))
      (pss_cons (ps_set (i := 2) sc_gone_through.nd rfl (Or.inl rfl) (pe_lst pa_nil))
      (pss_cons (ps_for PassesOwn.never rfl (pi_range1 rfl T.z_range (pa_cons (pe_call G_many_of (hr.mono (by decide)) (by rfl) T.g_many_of T.F_many_of.kp T.b_many_of .nil pass0 (pa_cons (pv 0) pa_nil)) pa_nil)) (pg_name (i := 3) sc_gone_through.nd rfl (Or.inl rfl))
      (pss_cons (ps_set (i := 4) sc_gone_through.nd rfl (Or.inl rfl) (pe_meth (pv 1) T.cl_Groups T.m_Groups_put G_Groups_put hr T.b_Groups_put .nil pass0 (pa_cons (pv 0) (pa_cons (pv 3) pa_nil))))
      (pss_one (ps_expr (pe_bm PySem.F.plainAttrs_list PySem.F.slot_list_append PySem.F.type_list_append mt_append (pv 2) (pa_cons (pe_tup (pa_cons (pv 4) (pa_cons (pe_callB (r := rLenQ K) (id := "len") call_len_seq (by rfl) T.z_len (by decide +kernel) (pa_cons (pe_ix (r := rIxL K) ix_list (pe_fld (pv 1) rfl) (pv 4) (fun _ _ => rfl)) pa_nil)) (pa_cons (pe_call G_entries_of (hr.mono (by decide)) (by rfl) T.g_entries_of T.F_entries_of.kp T.b_entries_of .nil pass0 (pa_cons (pv 0) (pa_cons (pe_fld (pv 1) rfl) (pa_cons (pv 3) pa_nil)))) pa_nil)))) pa_nil))))))
      (pss_one (ps_ret (pe_tup (pa_cons (pv 1) (pa_cons (pv 2) pa_nil)))))))), ?_⟩
    have cG := T.cl_Groups
    have nG1 := T.n_Groups_lots
    have nG2 := T.n_Groups_held
    obtain ⟨pv, hpv, hpl⟩ := id hb.par
    intro g dx ng ndx ndg
    refine ⟨g, dx, rfl, upd_same, fun l h H1 bt nl nh nlh hg1 hl1 hh1 => ⟨rfl, ?_⟩⟩
    have lg : l ≠ g := fun e => by rw [e, upd_same] at nl; cases nl
    have hgn : h ≠ g := fun e => by rw [e, upd_same] at nh; cases nh
    have nlB : upd (upd H dx (.own g)) g (.ins T.C_Groups dx (grF l h)) l = none := by
      rw [upd_ne lg] at nl ⊢
      exact nl
    have nhB : upd (upd H dx (.own g)) g (.ins T.C_Groups dx (grF l h)) h = none := by
      rw [upd_ne hgn] at nh ⊢
      exact nh
    have sB : Same H (upd (upd H dx (.own g)) g (.ins T.C_Groups dx (grF l h))) := Same.mut (Same.new (Same.refl H) ndx) ng
    have sB1 : Same (upd (upd H dx (.own g)) g (.ins T.C_Groups dx (grF l h))) H1 := fun a o e => by
      by_cases z : a = g
      · rw [z, upd_same] at e
        rw [z, hg1]
        exact e
      · rw [upd_ne z] at e
        exact bt a o z ((upd_ne z).trans e)
    have g0 : G _ H1 (RR l h) (runS P 0) := G.init nlB nhB nlh sB1 hl1 hh1
    tm_at "w"
    intro f nf
    have g1 := g0.more (p := f) (o := .lst []) nf
    have gf : g ≠ f := ne_of_none hg1 nf
    have nfB := Same.free sB1 nf
    have sBf := Same.new (o := .lst []) sB nfB
    tm_at "w"
    refine ⟨b, P, rfl, (hb.same sBf).same g1.same, ?_⟩
    tm_at "w"
    refine for_range (lo := 0) (n := (P.length : Int).toNat) (fun i σ H' => ∃ u v, σ = [some (.ref b.b), some (.ref g), some (.ref f), u, v] ∧ ∃ B vs, Same H B ∧ B g = some (.ins T.C_Groups dx (grF l h)) ∧ B f = some (.lst vs) ∧ G B H' (RR l h) (runS P i) ∧ ScL H' vs (runT P i)) ?_ ?_ ?_
    · exact ⟨none, none, rfl, _, [], sBf, (upd_ne gf).trans upd_same, upd_same, g1, ScL.nil⟩
    · rintro i σ H2 hi ⟨u, v, rfl, B0, vs, sHB0, hBg0, hBf0, hG0, hT⟩
      obtain ⟨B, hG, sub, tups⟩ := hG0.maxb
      have sHB := Same.trans sHB0 sub
      have hBg := sub _ _ hBg0
      have hBf := sub _ _ hBf0
      rw [Int.zero_add]
      tm_at "w"
      refine ⟨g, dx, _, rfl, hG.same _ _ hBg, grF_no _ _ (by decide +kernel) (by decide +kernel), ?_⟩
      tm_at "w"
      refine ⟨g, l, h, i, dx, b, P, B, runS P i, rfl, hBg, hb.same sHB, by omega, h400, hG, run_ok P i, fun H3 hG3 => ?_⟩
      have hG3 : G B H3 (RR l h) (runS P (i + 1)) := hG3
      have tk23 : TK H2 H3 := fun a xs e => hG3.same _ _ (tups a xs e)
      have hf3 := hG3.same _ _ hBf
      have hg3 := hG3.same _ _ hBg
      have ok3 := run_ok P (i + 1)
      have wd3 := ok3.wd
      obtain ⟨xs3, h1, h2, h3⟩ := hG3.at true
      have h1 : H3 h = some (.lst xs3) := h1
      have sl := (putD_len (P := P) (x := i) (run_ok P i)).2
      have sl : putSlot P (runS P i false) (runS P i true) i < (runS P (i + 1) true).length := sl
      obtain ⟨ra, e1, e2⟩ := h3 _ _ (List.getElem?_eq_getElem sl)
      tm_at "w"
      refine ⟨l, h, i, b, P, B, runS P (i + 1), rfl, (hb.same sHB).same hG3.same, by omega, hG3, by omega, fun d hd => by have := ok3.rows d hd; omega, fun t H4 s4 ht => ?_⟩
      tm_at "w"
      intro T nT
      have hf4 := s4 _ _ hf3
      have hf5 : ∀ o, upd H4 T o f = some (.lst vs) := fun o => (upd_ne (ne_of_none hf4 nT)).trans hf4
      have hTf : T ≠ f := (ne_of_none hf4 nT).symm
      have nfH := Same.free sB nfB
      have vl : vs.length = i := hT.len.trans (runT_len P i)
      tm_at "w"
      refine ⟨_, _, rfl, upd B f (.lst (vs ++ [.ref T])), vs ++ [.ref T], Same.mut sHB nfH, (upd_ne gf).trans hBg, upd_same, ((hG3.later s4).later (Same.new (Same.refl H4) nT)).mutb hBf, ?_⟩
      refine (hT.tk (TK.trans (TK.trans tk23 (Same.tk s4)) (TK.trans (TK.new nT) (TK.mut (hf5 _))))).snoc ⟨T, t, rfl, ?_, ?_⟩
      · refine (upd_ne hTf).trans (upd_same.trans ?_)
        rw [natsV_len]
        show _ = some (HO.tup [V.int (putSlot P (runS P i false) (runS P i true) i : Nat), V.int (((runS P (i + 1) true).getD (putSlot P (runS P i false) (runS P i true) i) []).length : Nat), V.ref t])
        rw [getD_some (List.getElem?_eq_getElem sl)]
      · refine (upd_ne (fun e => by rw [e, hf4] at ht; cases ht)).trans ((upd_ne (ne_of_none ht nT)).trans (ht.trans ?_))
        show _ = some (HO.tup (((entB P (runS P (i + 1) true) i).map fun z : Nat => (z : Int)).map V.int))
        rw [List.map_map]
        rfl
    · rintro σ H2 ⟨u, v, rfl, B, vs, sHB, hBg, hBf, hG, hT⟩
      tm_at "w"
      intro t nt
      have e : (P.length : Int).toNat = P.length := Int.toNat_natCast _
      rw [e] at hG hT
      exact k t g l h dx f B vs _ (Same.new (Same.trans sHB hG.same) nt) upd_same ((Same.new (Same.refl H2) nt) _ _ (hG.same _ _ hBg)) (hG.later (Same.new (Same.refl H2) nt)) ((Same.new (Same.refl H2) nt) _ _ (hG.same _ _ hBf)) (hT.tk (TK.new nt))
/-! placed -/
def sp_placed (C : Addr) (CG : Addr) (K : PySem.W.Frag) : Sp := fun vs H Q _ => ∃ (b : Bk) (P : List (List Nat)), vs = [.ref b.b] ∧ BookAt C H b P ∧ P.length ≤ 400 ∧
  ∀ t H', Same H H' → H' t = some (.tup (((runT P P.length).map fun e => e.1).map V.int)) → Q (.ref t) H'
theorem sc_placed : FnScope ["book", "item"] ["book"] (defScope s_placed) := ⟨rfl, rfl, rfl, by decide +kernel, rfl, by decide +kernel, by decide +kernel⟩
theorem ok_placed (T : Top K mg) : FnOk P w K mg base CX0 6 T.f_placed T.fd_placed ["book"] (sp_placed T.C_Book T.C_Groups K) := by
  have G_gone_through := ok_gone_through (P := P) (w := w) (base := base) T
  refine T.F_placed.ok sc_placed (fun vs H Q E h => ?_) (fun cdv A outer s H vs Q E hr h => ?_)
  · obtain ⟨b, P, rfl, _⟩ := h
    rfl
  · obtain ⟨b, P, rfl, hb, h400, k⟩ := h
    refine ⟨_, (pss_one (ps_ret (pe_callTy (r := rTupQ K) (T := "tuple") call_tuple_of (by rfl) T.z_tuple (by decide +kernel) (pa_cons (pe_lc (own := [("item", 1)]) (g := gName 1) (tt := tYes) rfl sc_placed.nd (pi_list (pe_ix (r := rIxT K) ix_tup (pe_call G_gone_through hr (by rfl) T.g_gone_through T.F_gone_through.kp T.b_gone_through .nil pass0 (pa_cons (pv 0) pa_nil)) pe_int (fun _ _ => rfl))) (blkOk_by (own := [("item", 1)]) (N := ["book", "item"]) (sc := defScope s_placed) (by decide +kernel)) (fun _ _ _ _ _ => (pg_name (i := 1) sc_placed.nd rfl (Or.inl rfl))) (fun _ _ _ _ _ => pts_nil) (fun _ _ _ _ _ => (pe_ix (r := rIxT K) ix_tup (pv 1) pe_int (fun _ _ => rfl)))) pa_nil)))), ?_⟩
    tm_at "w"
    refine ⟨b, P, rfl, hb, h400, fun t g l h dx f B vs H1 s1 ht hg hG hf hT => ?_⟩
    have vl := hT.len
    rw [runT_len] at vl
    tm_at "w"
    refine ⟨⟨_, SqL.of hf⟩, fun D nD => lc_listF (fun i => (runT P P.length)[i]?.map fun e => V.int e.1) hf nD (by omega) ?_ ?_⟩
    · intro i x H2 N M hx s2 kN kM
      have il : i < (runT P P.length).length := by
        have := (List.getElem?_eq_some_iff.mp hx).1
        rw [runT_len]
        omega
      obtain ⟨v, e1, p, q, rfl, e2, e3⟩ := hT.item i _ (List.getElem?_eq_getElem il)
      have ex : x = .ref p := Option.some.inj (hx.symm.trans e1)
      subst ex
      have e22 := s2 _ _ e2
      tm_at "w"
      exact kN _ _ (by rw [List.getElem?_eq_getElem il]; rfl) (Same.refl H2)
    · intro H2 s2 hD
      have e : (List.range vs.length).filterMap (fun i => (runT P P.length)[i]?.map fun e => V.int e.1) = ((runT P P.length).map fun e => e.1).map V.int := by
        rw [show vs.length = (runT P P.length).length by rw [runT_len]; exact vl, List.map_map]
        exact range_items _ _
      rw [e] at hD
      tm_at "w"
      intro u nu
      exact k u _ (Same.new (Same.trans s1 s2) nu) upd_same
/-! groups -/
def sp_groups (C : Addr) (CG : Addr) (K : PySem.W.Frag) : Sp := fun vs H Q _ => ∃ (b : Bk) (P : List (List Nat)), vs = [.ref b.b] ∧ BookAt C H b P ∧ P.length ≤ 400 ∧
  ∀ t H', Same H H' → LotsAt H' t (runS P P.length false) → Q (.ref t) H'
theorem sc_groups : FnScope ["book"] ["book"] (defScope s_groups) := ⟨rfl, rfl, rfl, by decide +kernel, rfl, by decide +kernel, by decide +kernel⟩
theorem ok_groups (T : Top K mg) : FnOk P w K mg base CX0 6 T.f_groups T.fd_groups ["book"] (sp_groups T.C_Book T.C_Groups K) := by
  have G_Groups_told := ok_Groups_told (P := P) (w := w) (base := base) T
  have G_gone_through := ok_gone_through (P := P) (w := w) (base := base) T
  refine T.F_groups.ok sc_groups (fun vs H Q E h => ?_) (fun cdv A outer s H vs Q E hr h => ?_)
  · obtain ⟨b, P, rfl, _⟩ := h
    rfl
  · obtain ⟨b, P, rfl, hb, h400, k⟩ := h
    refine ⟨_, (pss_one (ps_ret (pe_meth0 (pe_ix (r := rIxT K) ix_tup (pe_call G_gone_through hr (by rfl) T.g_gone_through T.F_gone_through.kp T.b_gone_through .nil pass0 (pa_cons (pv 0) pa_nil)) pe_int (fun _ _ => rfl)) T.cl_Groups T.m_Groups_told G_Groups_told (hr.mono (by decide)) T.b_Groups_told .nil pass0))), ?_⟩
    tm_at "w"
    refine ⟨b, P, rfl, hb, h400, fun t g l h dx f B vs H1 s1 ht hg hG hf hT => ?_⟩
    have ok := run_ok P P.length
    have wl := ok.wl
    tm_at "w"
    refine ⟨g, dx, _, rfl, hg, grF_no _ _ (by decide +kernel) (by decide +kernel), ?_⟩
    tm_at "w"
    refine ⟨g, l, h, dx, B, _, rfl, hg, hG, by omega, fun lot hl => ?_, fun u H2 s2 hu => k u H2 (Same.trans s1 s2) hu⟩
    obtain ⟨j, hj⟩ := List.mem_iff_getElem?.mp hl
    have := ok.few j lot hj
    have := (List.getElem?_eq_some_iff.mp hj).1
    omega
/-! _law_tape -/
def sp__law_tape (K : PySem.W.Frag) : Sp := fun vs H Q _ => ∃ (a : Addr) (ns : List Int), vs = [.ref a] ∧ SqL K H a (ns.map V.int) ∧ ∀ (τ : Tp) (H' : Hp), τ.ns = ns → Same H H' → H τ.t = none → Tape τ H' → Q (.ref τ.t) H'
theorem sc__law_tape : FnScope ["_law_script"] ["_law_script"] (defScope s__law_tape) := ⟨rfl, rfl, rfl, by decide +kernel, rfl, by decide +kernel, by decide +kernel⟩
theorem ok__law_tape (T : Top K mg) : FnOk P w K mg base CX0 1 T.f__law_tape T.fd__law_tape ["_law_script"] (sp__law_tape K) := by
  refine T.F__law_tape.ok sc__law_tape (fun vs H Q E h => ?_) (fun cdv A outer s H vs Q E hr h => ?_)
  · obtain ⟨a, ns, rfl, _⟩ := h
    rfl
  · obtain ⟨a, ns, rfl, hS, k⟩ := h
    refine ⟨_, (pss_one (ps_ret (pe_lst (pa_cons (pe_callTy (r := rListQ K) (T := "list") call_list_of (by rfl) T.z_list (by decide +kernel) (pa_cons (pv 0) pa_nil)) (pa_cons pe_int (pa_cons pe_int (pa_cons pe_int (pa_cons pe_int pa_nil)))))))), ?_⟩
    refine ⟨_, rfl, a, _, rfl, .inl hS, fun l nl => ⟨by show 5 ≤ sizeLine; decide, fun t nt => ?_⟩⟩
    have wt : Nw _ t := ⟨nt⟩
    have ntl : l ≠ t := ne_of_none upd_same nt
    have s1 : Same H (upd H l (.lst (ns.map V.int))) := Same.new (Same.refl H) nl
    exact k ⟨t, l, ns⟩ _ rfl (Same.new s1 nt) (s1.free nt) ⟨by tm_at "hp", ntl, 0, 0, 1, 0, upd_same, by decide⟩
/-! _law_pick -/
def sp__law_pick (K : PySem.W.Frag) : Sp := fun vs H Q _ => ∃ (τ : Tp) (m : Int), vs = [.ref τ.t, .int m] ∧ Tape τ H ∧ 0 < m ∧ m < 1073741824 ∧ ∀ (r : Int) (H' : Hp), Mv τ H H' → 0 ≤ r → r < m → Q (.int r) H'
theorem sc__law_pick : FnScope ["_law_tape_here", "_law_many", "_law_cell", "_law_mixed", "_law_digit"] ["_law_tape_here", "_law_many"] (defScope s__law_pick) := ⟨rfl, rfl, rfl, by decide +kernel, rfl, by decide +kernel, by decide +kernel⟩
theorem ok__law_pick (T : Top K mg) : FnOk P w K mg base CX0 1 T.f__law_pick T.fd__law_pick ["_law_tape_here", "_law_many"] (sp__law_pick K) := by
  refine T.F__law_pick.ok sc__law_pick (fun vs H Q E h => ?_) (fun cdv A outer s H vs Q E hr h => ?_)
  · obtain ⟨τ, m, rfl, _⟩ := h
    rfl
  · obtain ⟨τ, m, rfl, m0, hm, hm2, k⟩ := h
    refine ⟨_, (pss_cons (ps_if (pt_cmpR op_gt (pe_ix (r := rIxL K) ix_list (pv 0) pe_int (fun _ _ => rfl)) pe_int (nomark _)) (pss_cons (ps_set (i := 4) sc__law_pick.nd rfl (Or.inl rfl) (pe_op op_modN (pe_callTy (T := "int") call_int1 (by rfl) T.z_int (by decide +kernel) (pa_cons (pe_ix (r := rIxL K) ix_list (pv 0) pe_int (fun _ _ => rfl)) pa_nil)) (pv 1)))
      (pss_cons (ps_asg (pe_op op_fdivN (pe_ix (r := rIxL K) ix_list (pv 0) pe_int (fun _ _ => rfl)) (pv 1)) (pg_sub (pv 0) pe_int set_list))
      (pss_one (ps_ret (pv 4))))) pss_nil)
      (pss_cons (ps_asg (pe_op op_add (pe_ix (r := rIxL K) ix_list (pv 0) pe_int (fun _ _ => rfl)) pe_int) (pg_sub (pv 0) pe_int set_list))
      (pss_cons (ps_set (i := 2) sc__law_pick.nd rfl (Or.inl rfl) pe_int)
      (C8.pss_cut (ps_if (pt_cmpR op_lt (pe_ix (r := rIxL K) ix_list (pv 0) pe_int (fun _ _ => rfl)) (pe_callB (r := rLenQ K) (id := "len") call_len_seq (by rfl) T.z_len (by decide +kernel) (pa_cons (pe_ix (r := rIxL K) ix_list (pv 0) pe_int (fun _ _ => rfl)) pa_nil)) (nomark _)) (pss_cons (ps_set (i := 2) sc__law_pick.nd rfl (Or.inl rfl) (pe_ix (r := rIxL K) ix_list (pe_ix (r := rIxL K) ix_list (pv 0) pe_int (fun _ _ => rfl)) (pe_ix (r := rIxL K) ix_list (pv 0) pe_int (fun _ _ => rfl)) (fun _ _ => rfl)))
      (pss_one (ps_asg (pe_op op_add (pe_ix (r := rIxL K) ix_list (pv 0) pe_int (fun _ _ => rfl)) pe_int) (pg_sub (pv 0) pe_int set_list)))) pss_nil)
      (pss_cons (ps_if (pt_cmpR op_ge (pv 2) (pe_op op_pow pe_int pe_int) (nomark _)) (pss_cons (ps_asg (pe_op op_fdivN (pv 2) (pv 1)) (pg_sub (pv 0) pe_int set_list))
      (pss_one (ps_ret (pe_op op_modN (pe_callTy (T := "int") call_int1 (by rfl) T.z_int (by decide +kernel) (pa_cons (pv 2) pa_nil)) (pv 1))))) pss_nil)
      (pss_cons (ps_set (i := 3) sc__law_pick.nd rfl (Or.inl rfl) (pe_op op_modN (pe_callTy (T := "int") call_int1 (by rfl) T.z_int (by decide +kernel) (pa_cons (pe_op op_add (pe_op op_add (pe_op op_mul (pe_ix (r := rIxL K) ix_list (pv 0) pe_int (fun _ _ => rfl)) pe_int) (pe_op op_modN (pe_callTy (T := "int") call_int1 (by rfl) T.z_int (by decide +kernel) (pa_cons (pv 2) pa_nil)) pe_int)) (pe_op op_mul (pe_ix (r := rIxL K) ix_list (pv 0) pe_int (fun _ _ => rfl)) pe_int)) pa_nil)) pe_int))
      (pss_cons (ps_set (i := 3) sc__law_pick.nd rfl (Or.inl rfl) (pe_op op_modN (pe_callTy (T := "int") call_int1 (by rfl) T.z_int (by decide +kernel) (pa_cons (pe_op op_mul (pv 3) (pe_op op_add (pe_op op_fdivN (pv 3) pe_int) pe_int)) pa_nil)) pe_int))
      (pss_cons (ps_asg (pv 3) (pg_sub (pv 0) pe_int set_list))
      (pss_one (ps_ret (pe_op op_modN (pe_callTy (T := "int") call_int1 (by rfl) T.z_int (by decide +kernel) (pa_cons (pe_op op_fdivN (pv 3) pe_int) pa_nil)) (pv 1)))))))))))), ?_⟩
    obtain ⟨hl, nlt, i, c, s, n, ht, hi⟩ := id m0
    tm_at "w"
    refine iteD (fun hc => ?_) (fun hc => ?_)
    · tm_at "w"
      exact k _ _ (m0.mv.put rfl hi) (fmod_in hm).1 (fmod_in hm).2
    · tm_at "w"
      refine ⟨fun σ H' => ∃ v : Int, σ = [some (.ref τ.t), some (.int m), some (.int v), none, none] ∧ Mv τ H H', ?_, ?_⟩
      · tm_at "w"
        refine iteD (fun hc => ?_) (fun hc => ?_)
        · tm_at "w"
          obtain ⟨v, hv⟩ := at_ints hi hc
          refine ⟨_, _, _, _, rfl, rfl, by tm_at "sq", hv, ?_⟩
          tm_at "w"
          exact (m0.mv.put rfl hi).put rfl (by omega)
        · exact ⟨_, rfl, m0.mv.put rfl hi⟩
      · rintro σ H' ⟨v, rfl, m1⟩
        obtain ⟨hl, nlt, i, c, s, n, ht, hi⟩ := m1.now
        tm_at "w"
        refine iteD (fun hc => ?_) (fun hc => ?_)
        · tm_at "w"
          exact k _ _ (m1.put rfl hi) (fmod_in hm).1 (fmod_in hm).2
        · tm_at "w"
          exact k _ _ (m1.put rfl hi) (fmod_in hm).1 (fmod_in hm).2
/-! _law_above -/
/-- the flags of one kind; of all -/
def rowF (P : List (List Nat)) (x : Nat) : List V := (List.range P.length).map fun p => V.bl (isA P x p)
def FlagsL (H : Hp) (vs : List V) (P : List (List Nat)) (l : Addr) : Prop := ∀ (j : Nat) v, vs[j]? = some v → ∃ a, v = .ref a ∧ H a = some (.lst (rowF P j)) ∧ a ≠ l
def FlagsAt (H : Hp) (l : Addr) (P : List (List Nat)) : Prop := ∃ vs, H l = some (.lst vs) ∧ vs.length = P.length ∧ FlagsL H vs P l
theorem FlagsAt.same {H H' : Hp} {l : Addr} {P : List (List Nat)} (h : FlagsAt H l P) (s : Same H H') : FlagsAt H' l P := by
  obtain ⟨vs, h1, h2, h3⟩ := h
  refine ⟨vs, s _ _ h1, h2, fun j v e => ?_⟩
  obtain ⟨a, e1, e2, e3⟩ := h3 j v e
  exact ⟨a, e1, s _ _ e2, e3⟩
theorem FlagsAt.at {H : Hp} {l : Addr} {P : List (List Nat)} (h : FlagsAt H l P) {x : Nat} (hx : x < P.length) : ∃ vs a, H l = some (.lst vs) ∧ vs[x]? = some (.ref a) ∧ H a = some (.lst (rowF P x)) := by
  obtain ⟨vs, h1, h2, h3⟩ := h
  obtain ⟨a, e1, e2, e3⟩ := h3 x _ (List.getElem?_eq_getElem (by omega))
  exact ⟨vs, a, h1, by rw [List.getElem?_eq_getElem (by omega), e1], e2⟩
theorem rowF_at {P : List (List Nat)} {x p : Nat} (h : p < P.length) : (rowF P x)[p]? = some (.bl (isA P x p)) := by
  unfold rowF
  rw [List.getElem?_map, List.getElem?_range h]
  rfl
theorem rowF_len (P : List (List Nat)) (x : Nat) : (rowF P x).length = P.length := by unfold rowF; rw [List.length_map, List.length_range]
theorem flat_rep {α : Type} (x : α) : ∀ n : Nat, (List.replicate n [x]).flatten = (List.range n).map fun _ => x
  | 0 => rfl
  | n + 1 => by
    rw [List.replicate_succ', List.flatten_append, flat_rep x n, List.range_succ, List.map_append]
    rfl
theorem set_flag {n i : Nat} (h : i < n) : ((List.range n).map fun _ => V.bl false).set i (.bl true) = (List.range n).map fun c => V.bl (decide (i = c)) := by
  refine List.ext_getElem? fun j => ?_
  rw [List.getElem?_set, List.getElem?_map, List.getElem?_map, List.length_map, List.length_range]
  by_cases e : i = j
  · rw [if_pos e, if_pos h, ← e, List.getElem?_range h]
    show _ = some (V.bl (decide (i = i)))
    rw [decide_eq_true rfl]
  · rw [if_neg e]
    by_cases hj : j < n
    · rw [List.getElem?_range hj]
      show some (V.bl false) = some (V.bl (decide (i = j)))
      rw [decide_eq_false e]
    · rw [List.getElem?_eq_none (by rw [List.length_range]; omega)]
      rfl
theorem filterMap_lt {α : Type} (f : Nat → α) (n : Nat) : (List.range n).filterMap (fun c => if c < n then some (f c) else none) = (List.range n).map f := by
  have key : ∀ m, m ≤ n → (List.range m).filterMap (fun c => if c < n then some (f c) else none) = (List.range m).map f := by
    intro m
    induction m with
    | zero => intro _; rfl
    | succ m ih =>
      intro h
      rw [filterMap_range_succ, ih (by omega), List.range_succ, List.map_append, if_pos (by omega)]
      rfl
  exact key n (Nat.le_refl _)
def sp__law_above (K : PySem.W.Frag) : Sp := fun vs H Q _ => ∃ (a : Addr) (P : List (List Nat)), vs = [.ref a] ∧ ParAt H a P ∧ RtP P ∧ P.length ≤ 1000 ∧
  ∀ l H', Same H H' → FlagsAt H' l P → Q (.ref l) H'
theorem sc__law_above : FnScope ["_law_rows", "_law_found", "_law_number", "_law_parents", "_law_flags", "_law_parent", "_law_one", "_law_other"] ["_law_rows"] (defScope s__law_above) := ⟨rfl, rfl, rfl, by decide +kernel, rfl, by decide +kernel, by decide +kernel⟩
theorem ok__law_above (T : Top K mg) : FnOk P w K mg base CX0 1 T.f__law_above T.fd__law_above ["_law_rows"] (sp__law_above K) := by
  refine T.F__law_above.ok sc__law_above (fun vs H Q E h => ?_) (fun cdv A outer s H vs Q E hr h => ?_)
  · obtain ⟨a, P, rfl, _⟩ := h
    rfl
  · obtain ⟨a, P, rfl, hP, hR, hn, k⟩ := h
    refine ⟨_, (pss_cons (ps_set (i := 1) sc__law_above.nd rfl (Or.inl rfl) (pe_lst pa_nil))
      (pss_cons (ps_for PassesOwn.never rfl (pi_enumT (by rfl) T.z_enumerate (pa_cons (pv 0) pa_nil)) (pg_tup rfl (pgs_cons (pg_name (i := 2) sc__law_above.nd rfl (Or.inl rfl)) (pgs_cons (pg_name (i := 3) sc__law_above.nd rfl (Or.inl rfl)) pgs_nil)))
      (pss_cons (ps_set (i := 4) sc__law_above.nd rfl (Or.inl rfl) (pe_op op_rep (pe_lst (pa_cons pe_bl pa_nil)) (pe_callB (r := rLenQ K) (id := "len") call_len_seq (by rfl) T.z_len (by decide +kernel) (pa_cons (pv 0) pa_nil))))
      (pss_cons (ps_asg pe_bl (pg_sub (pv 4) (pv 2) set_list))
      (pss_cons (ps_for PassesOwn.never rfl (pi_tup (pv 3)) (pg_name (i := 5) sc__law_above.nd rfl (Or.inl rfl))
      (pss_one (ps_setLc (i := 4) (own := [("_law_one", 6), ("_law_other", 7)]) (tt := tYes) rfl sc__law_above.nd rfl rfl (sw_true rfl rfl rfl (by decide +kernel)) (RZ.pi_zipA (by rfl) T.z_zip (pa_cons (pv 4) (pa_cons (pe_ix (r := rIxL K) ix_list (pv 1) (pv 5) (fun _ _ => rfl)) pa_nil))) (blkOk_by (own := [("_law_one", 6), ("_law_other", 7)]) (N := ["_law_rows", "_law_found", "_law_number", "_law_parents", "_law_flags", "_law_parent", "_law_one", "_law_other"]) (sc := defScope s__law_above) (by decide +kernel)) (fun _ _ _ _ _ => (pg_tupK (K := K) 2 rfl rfl (pgs_cons (pg_name (i := 6) sc__law_above.nd rfl (Or.inl rfl)) (pgs_cons (pg_name (i := 7) sc__law_above.nd rfl (Or.inl rfl)) pgs_nil)))) (fun _ _ _ _ _ => pts_nil) (fun _ _ _ _ _ => (pe_or (pv 6) (pe_one (pv 7)))))))
      (pss_one (ps_expr (pe_bm PySem.F.plainAttrs_list PySem.F.slot_list_append PySem.F.type_list_append mt_append (pv 1) (pa_cons (pv 4) pa_nil))))))))
      (pss_one (ps_ret (pv 1))))), ?_⟩
    obtain ⟨vsP, hpa, hlen, hit⟩ := id hP
    tm_at "w"
    intro l nl
    have hpa1 : upd H l (.lst []) a = some (.tup vsP) := (Same.new (Same.refl H) nl) _ _ hpa
    tm_at "w"
    refine ⟨_, _, rfl, SqT.of hpa1, for_enumT (K := K) (a := a) (xs := vsP) (fun i σ H' => ∃ x y z w u v, σ = [some (.ref a), some (.ref l), x, y, z, w, u, v] ∧ Same H H' ∧ ∃ vs, H' l = some (.lst vs) ∧ vs.length = i ∧ FlagsL H' vs P l) ?_ ?_ ?_ ?_⟩
    · exact ⟨_, _, _, _, _, _, rfl, Same.new (Same.refl H) nl, [], upd_same, rfl, fun j v e => by simp at e⟩
    · rintro i σ H' ⟨_, _, _, _, _, _, rfl, s1, _⟩
      exact SqT.of (s1 _ _ hpa)
    · rintro i x t σ H' hx ⟨x0, y0, z0, w0, u0, v0, rfl, s1, vs, hl1, hvl, hfl⟩ nt
      obtain ⟨ai, p, rfl, hp, hai⟩ := ParL.here ⟨hlen, hit⟩ hx
      have il := (List.getElem?_eq_some_iff.mp hp).1
      have s2 : Same H' (upd H' t (.tup [V.int (i : Int), V.ref ai])) := Same.new (Same.refl H') nt
      have hai2 := s2 _ _ (s1 _ _ hai)
      have hpa2 := s2 _ _ (s1 _ _ hpa)
      tm_at "w"
      intro p1 np1
      have hpa3 := (Same.new (o := .lst [V.bl false]) (Same.refl _) np1) _ _ hpa2
      tm_at "w"
      refine ⟨_, _, _, rfl, rfl, upd_same, by omega, by omega, ?_, fun F nF => ?_⟩
      · rw [Int.toNat_natCast]
        show 1 * vsP.length ≤ sizeLine
        have := lt_line (n := vsP.length) (by omega)
        omega
      rw [Int.toNat_natCast, flat_rep]
      have s3 := Same.new (o := .lst [V.bl false]) s2 np1
      have s4 := Same.new (o := .lst ((List.range vsP.length).map fun _ => V.bl false)) s3 nF
      have nF0 : H' F = none := Same.free s3 nF
      tm_at "w"
      refine ⟨_, _, _, i, rfl, rfl, upd_same, ixn_nat (by rw [List.length_map, List.length_range]; omega), ?_⟩
      have s5 := Same.mut (o := .lst (((List.range vsP.length).map fun _ => V.bl false).set i (.bl true))) s4 nF0
      rw [set_flag (show i < vsP.length by omega)] at s5 ⊢
      have hai5 := s5 _ _ (s1 _ _ hai)
      tm_at "w"
      refine ⟨⟨_, SqT.of hai5⟩, for_tup (K := K) (a := ai) (xs := natsV p) (fun j σ H2 => ∃ F u, σ = [some (.ref a), some (.ref l), some (.int (i : Int)), some (.ref ai), some (.ref F), u, u0, v0] ∧ Same H' H2 ∧ H' F = none ∧ H2 F = some (.lst ((List.range vsP.length).map fun c => V.bl (decide (i = c) || (p.take j).any fun q => isA P q c)))) ?_ ?_ ?_ ?_⟩
      · refine ⟨F, w0, rfl, s5, nF0, ?_⟩
        rw [upd_same]
        simp
      · rintro j σ H2 _ ⟨_, _, rfl, s6, _⟩
        exact SqT.of (s6 _ _ (s1 _ _ hai))
      · rintro j y σ H2 hy ⟨F2, u2, rfl, s6, nF2, hF2⟩
        obtain ⟨q, hq, rfl, _⟩ := natsV_here hy
        have ql := hR i p hp q (List.mem_of_getElem? hq)
        obtain ⟨aq, e1, e2, e3⟩ := hfl q _ (List.getElem?_eq_getElem (by omega))
        have hl6 := s6 _ _ hl1
        have hq6 := s6 _ _ e2
        have hvq : vs[q]? = some (.ref aq) := by rw [List.getElem?_eq_getElem (by omega), e1]
        tm_at "w"
        refine ⟨_, _, _, _, rfl, .inl ⟨SqL.of hF2, SqL.of hq6, fun D nD => lc_zipLF (fun c => if c < vsP.length then some (V.bl ((decide (i = c) || (p.take j).any fun q => isA P q c) || isA P q c)) else none) hF2 hq6 (by rw [rowF_len, List.length_map, List.length_range]; exact hlen) nD (by rw [List.length_map, List.length_range]; omega) ?_ ?_⟩⟩
        · intro c x y Z H3 N M hx hy s7 hZ kN kM
          obtain ⟨ex, hc⟩ : x = V.bl (decide (i = c) || (p.take j).any fun q => isA P q c) ∧ c < vsP.length := by
            have q1 := (List.getElem?_eq_some_iff.mp hx).1
            rw [List.length_map, List.length_range] at q1
            rw [List.getElem?_map, List.getElem?_range q1] at hx
            exact ⟨(Option.some.inj hx).symm, q1⟩
          have ey : y = V.bl (isA P q c) := by
            rw [rowF_at (by omega)] at hy
            exact (Option.some.inj hy).symm
          subst ex ey
          tm_at "w"
          refine iteB (fun e => ?_) (fun e => ?_)
          · refine kN _ _ ?_ (Same.refl H3)
            rw [if_pos hc, e]
            rfl
          · tm_at "w"
            refine kN _ _ ?_ (Same.refl H3)
            rw [if_pos hc, e]
            rfl
        · intro H3 s7 hD
          rw [List.length_map, List.length_range, filterMap_lt] at hD
          refine ⟨D, _, rfl, Same.trans s6 s7, Same.free s6 nD, ?_⟩
          rw [hD, List.take_add_one, hq]
          congr 2
          refine List.map_congr_left fun c _ => ?_
          rw [List.any_append]
          simp [Bool.or_assoc]
      · rintro σ H2 ⟨F2, u2, rfl, s6, nF2, hF2⟩
        rw [natsV_len, List.take_length] at hF2
        have hl6 := s6 _ _ hl1
        tm_at "w"
        have nl2 : F2 ≠ l := fun e => by rw [e, hl1] at nF2; cases nF2
        refine ⟨_, _, _, _, _, _, rfl, Same.mut (Same.trans s1 s6) nl, vs ++ [.ref F2], upd_same, by rw [List.length_append, hvl]; rfl, fun j v e => ?_⟩
        by_cases hj : j < vs.length
        · rw [List.getElem?_append_left hj] at e
          obtain ⟨aj, f1, f2, f3⟩ := hfl j v e
          exact ⟨aj, f1, (upd_ne f3).trans (s6 _ _ f2), f3⟩
        · rw [List.getElem?_append_right (by omega)] at e
          have q := (List.getElem?_eq_some_iff.mp e).1
          rw [List.length_singleton] at q
          have ej : j = i := by omega
          rw [ej, hvl, Nat.sub_self] at e
          refine ⟨F2, (Option.some.inj e).symm, ?_, nl2⟩
          rw [ej, upd_ne nl2, hF2]
          unfold rowF
          rw [hlen]
          congr 2
          refine List.map_congr_left fun c _ => ?_
          rw [isA_rec hR hp]
    · rintro σ H' ⟨x0, y0, z0, w0, u0, v0, rfl, s1, vs, hl1, hvl, hfl⟩
      tm_at "w"
      exact k l _ s1 ⟨vs, hl1, by omega, hfl⟩
/-! _law_line_parents -/
def sp__law_line_parents (K : PySem.W.Frag) : Sp := fun vs H Q _ => ∃ (τ : Tp) (n k : Nat) (la : Option Nat), vs = [.ref τ.t, .int n, optN la, .int k] ∧ Tape τ H ∧ n ≤ 400 ∧ k < 2 ∧ (∀ y, la = some y → y < n) ∧
  ∀ a q H', Mv τ H H' → H' a = some (.tup (natsV q)) → OkL q n → (∀ y, la = some y → y ∈ q) → Q (.ref a) H'
theorem sc__law_line_parents : FnScope ["_law_tape_here", "_law_number", "_law_last", "_law_kind", "_law_found", "_law_low", "_law_again"] ["_law_tape_here", "_law_number", "_law_last", "_law_kind"] (defScope s__law_line_parents) := ⟨rfl, rfl, rfl, by decide +kernel, rfl, by decide +kernel, by decide +kernel⟩
theorem ok__law_line_parents (T : Top K mg) : FnOk P w K mg base CX0 2 T.f__law_line_parents T.fd__law_line_parents ["_law_tape_here", "_law_number", "_law_last", "_law_kind"] (sp__law_line_parents K) := by
  have G__law_pick := ok__law_pick (P := P) (w := w) (base := base) T
  refine T.F__law_line_parents.ok sc__law_line_parents (fun vs H Q E h => ?_) (fun cdv A outer s H vs Q E hr h => ?_)
  · obtain ⟨τ, n, k, la, rfl, _⟩ := h
    rfl
  · obtain ⟨τ, n, k, la, rfl, m0, hn, hk, hla, kk⟩ := h
    refine ⟨_, (C8.pss_cut (ps_set (i := 4) sc__law_line_parents.nd rfl (Or.inl rfl) (pe_ifExp (pt_cmpR op_isN (pv 2) pe_non (nomark _)) (pe_lst pa_nil) (pe_lst (pa_cons (pv 2) pa_nil))))
      (pss_cons (ps_set (i := 5) sc__law_line_parents.nd rfl (Or.inl rfl) (pe_callB (id := "max") (call_max2 rfl) (by rfl) T.z_max (by decide +kernel) (pa_cons pe_int (pa_cons (pe_op op_sub (pv 1) (pe_ix (r := rIxL K) ix_list (pe_lst (pa_cons (pv 1) (pa_cons pe_int pa_nil))) (pv 3) (fun _ _ => rfl))) pa_nil))))
      (pss_cons (ps_for PassesOwn.never rfl (pi_range1 rfl T.z_range (pa_cons (pe_call G__law_pick hr (by rfl) T.g__law_pick T.F__law_pick.kp T.b__law_pick .nil pass0 (pa_cons (pv 0) (pa_cons pe_int pa_nil))) pa_nil)) (pg_name (i := 6) sc__law_line_parents.nd rfl (Or.inl rfl))
      (pss_one (ps_if (pt_cmpR op_gt (pv 1) (pv 5) (nomark _)) (pss_one (ps_expr (pe_bm PySem.F.plainAttrs_list PySem.F.slot_list_append PySem.F.type_list_append mt_append (pv 4) (pa_cons (pe_op op_add (pv 5) (pe_call G__law_pick hr (by rfl) T.g__law_pick T.F__law_pick.kp T.b__law_pick .nil pass0 (pa_cons (pv 0) (pa_cons (pe_op op_sub (pv 1) (pv 5)) pa_nil)))) pa_nil)))) pss_nil)))
      (pss_one (ps_ret (pe_callTy (r := rTupQ K) (T := "tuple") call_tuple_of (by rfl) T.z_tuple (by decide +kernel) (pa_cons (pe_callB (id := "sorted") (cr_sortedSet rfl) (by rfl) T.z_sorted (by decide +kernel) (pa_cons (pe_callTy (T := "set") (cr_setL rfl) (by rfl) T.z_set (by decide +kernel) (pa_cons (pv 4) pa_nil)) pa_nil)) pa_nil))))))), ?_⟩
    refine ⟨fun σ H' => ∃ D, σ = [some (.ref τ.t), some (.int (n : Int)), some (optN la), some (.int (k : Int)), some (.ref D), none, none] ∧ Mv τ H H' ∧ H D = none ∧ H' D = some (.lst (natsV la.toList)), ?_, ?_⟩
    · cases la with
      | none =>
        tm_at "w"
        intro p np
        exact ⟨p, rfl, m0.mv.new np, np, upd_same⟩
      | some y =>
        tm_at "w"
        intro p np
        exact ⟨p, rfl, m0.mv.new np, np, upd_same⟩
    · rintro σ H1 ⟨D, rfl, m1, nD0, hD1⟩
      tm_at "w"
      intro p1 np1
      obtain ⟨d, hd, ed⟩ : ∃ d : Int, 0 ≤ d ∧ atI [V.int (n : Int), V.int 6] (k : Int) = some (.int d) := by
        rcases (show k = 0 ∨ k = 1 by omega) with rfl | rfl
        · exact ⟨n, by omega, rfl⟩
        · exact ⟨6, by omega, rfl⟩
      refine ⟨_, rfl, _, _, _, _, rfl, rfl, SqL.of upd_same, ed, ?_⟩
      obtain ⟨lo, hlo, elo⟩ : ∃ lo : Nat, lo ≤ n ∧ (if (n : Int) - d > 0 then (n : Int) - d else 0) = (lo : Int) := by
        by_cases z : (n : Int) - d > 0
        · exact ⟨((n : Int) - d).toNat, by omega, by rw [if_pos z]; omega⟩
        · exact ⟨0, by omega, by rw [if_neg z]; rfl⟩
      tm_at "w"
      refine ⟨_, _, rfl, ?_⟩
      rw [elo]
      have m2 := m1.new (o := .lst [V.int (n : Int), V.int 6]) np1
      have hD2 := (Same.new (o := .lst [V.int (n : Int), V.int 6]) (Same.refl H1) np1) _ _ hD1
      have nDt : D ≠ τ.t := fun e => by
        have := m0.here
        obtain ⟨_, _, _, _, h, _⟩ := this
        rw [← e, nD0] at h
        cases h
      tm_at "w"
      refine ⟨τ, _, rfl, m2.now, by omega, by omega, fun r H2 m3 h0 h1 => ?_⟩
      have hD3 := m3.keep _ _ nDt hD2
      tm_at "w"
      refine for_range (lo := 0) (n := r.toNat) (fun i σ H' => ∃ x, σ = [some (.ref τ.t), some (.int (n : Int)), some (optN la), some (.int (k : Int)), some (.ref D), some (.int (lo : Int)), x] ∧ Mv τ H H' ∧ ∃ q : List Nat, H' D = some (.lst (natsV q)) ∧ q.length ≤ i + 1 ∧ (∀ x ∈ q, x < n) ∧ ∀ y, la = some y → y ∈ q) ?_ ?_ ?_
      · refine ⟨none, rfl, m2.trans m3, la.toList, hD3, ?_, fun x hx => ?_, fun y e => by rw [e]; exact List.mem_cons_self⟩
        · cases la with
          | none => exact Nat.zero_le _
          | some y => exact Nat.le_refl _
        · cases la with
          | none => cases hx
          | some y => rw [List.mem_singleton.mp hx]; exact hla y rfl
      · rintro i σ H3 hi ⟨x, rfl, m4, q, hD, hql, hqn, hqy⟩
        tm_at "w"
        refine iteD (fun z => ?_) (fun z => ?_)
        · tm_at "w"
          refine ⟨τ, _, rfl, m4.now, by omega, by omega, fun r2 H4 m5 h2 h3 => ?_⟩
          obtain ⟨r2, rfl⟩ : ∃ n : Nat, r2 = n := ⟨r2.toNat, by omega⟩
          have hD4 := m5.keep _ _ nDt hD
          tm_at "w"
          refine ⟨_, _, _, rfl, rfl, hD4, lt_line (by rw [natsV_len]; omega), ?_⟩
          refine ⟨_, rfl, (m4.trans m5).mut nD0, q ++ [lo + r2], ?_, by rw [List.length_append]; show q.length + 1 ≤ i + 1 + 1; omega, fun x hx => ?_, fun y e => List.mem_append_left _ (hqy y e)⟩
          · rw [upd_same, ← natsV_snoc, show ((lo + r2 : Nat) : Int) = (lo : Int) + (r2 : Int) by omega]
          · rcases List.mem_append.mp hx with hx | hx
            · exact hqn x hx
            · rw [List.mem_singleton.mp hx]
              omega
        · exact ⟨_, rfl, m4, q, hD, by omega, hqn, hqy⟩
      · rintro σ H3 ⟨x, rfl, m4, q, hD, hql, hqn, hqy⟩
        tm_at "w"
        refine ⟨_, q.map fun z : Nat => (z : Int), rfl, SqL.of (by rw [List.map_map]; exact hD), by rw [List.length_map]; omega, fun S c hc _ nS => ?_⟩
        rw [List.length_map] at hc
        refine ⟨S, _, _, rfl, upd_same, by omega, fun ns p hs hmem hlen np => ?_⟩
        have hin : ∀ y, la = some y → (y : Int) ∈ ns := fun y e => (hmem _).mpr (decide_eq_true (List.mem_map.mpr ⟨y, hqy y e, rfl⟩))
        obtain ⟨ks, rfl, hks, hkp⟩ := nats_of hs (n := n) fun x hx => by
          have := of_decide_eq_true ((hmem x).mp hx)
          obtain ⟨z, hz, e⟩ := List.mem_map.mp this
          exact ⟨z, hqn z hz, e.symm⟩
        rw [List.length_map] at hlen
        tm_at "w"
        intro t nt
        have m5 := (m4.new nS).new (p := p) (o := .lst ((ks.map fun z : Nat => (z : Int)).map V.int)) np
        refine kk t ks _ (m5.new nt) ?_ ⟨hkp, hks, by omega⟩ fun y e => ?_
        · rw [upd_same, List.map_map]
          rfl
        · obtain ⟨z, hz, ez⟩ := List.mem_map.mp (hin y e)
          rw [show y = z by omega]
          exact hz
/-! _law_in_rows -/
/-! ### never more slots than told: groups whose last kinds lie side by side -/
/-- w rows, each a chain -/
def Cov (P : List (List Nat)) (w : Nat) : Prop := ∃ rw : Nat → Nat, (∀ x, x < P.length → rw x < w) ∧ ∀ x y, y < x → x < P.length → rw y = rw x → isA P x y = true
/-- side by side -/
def Apt (P : List (List Nat)) (a b : Nat) : Prop := isA P a b = false ∧ isA P b a = false
theorem Apt.symm {P : List (List Nat)} {a b : Nat} (h : Apt P a b) : Apt P b a := ⟨h.2, h.1⟩
/-- no more kinds lie side by side than rows -/
theorem anti_le {P : List (List Nat)} {w : Nat} (c : Cov P w) {q : List Nat} (hq : ∀ x ∈ q, x < P.length) (nd : q.Nodup) (hp : q.Pairwise (Apt P)) : q.length ≤ w := by
  obtain ⟨rw', h1, h2⟩ := c
  have e : (q.map rw').length = q.length := List.length_map _
  rw [← e]
  refine nodup_le w ?_ fun k hk => ?_
  · refine List.pairwise_map.mpr ?_
    have both : q.Pairwise fun a b => a ≠ b ∧ Apt P a b := nd.and hp
    refine both.imp_of_mem fun {a b} ha hb ⟨n, h⟩ z => ?_
    rcases Nat.lt_or_gt_of_ne n with l | l
    · have := h2 b a l (hq b hb) z
      rw [h.2] at this
      cases this
    · have := h2 a b l (hq a ha) z.symm
      rw [h.1] at this
      cases this
  · obtain ⟨x, hx, rfl⟩ := List.mem_map.mp hk
    exact h1 x (hq x hx)
theorem count_set (t : Nat) (v : List Nat) : ∀ (L : List (List Nat)) (n : Nat), n < L.length → (L.set n v).flatten.count t + (L.getD n []).count t = L.flatten.count t + v.count t
  | [], n, h => absurd h (Nat.not_lt_zero _)
  | a :: r, 0, _ => by
    show (v ++ r.flatten).count t + a.count t = (a ++ r.flatten).count t + v.count t
    rw [List.count_append, List.count_append]
    omega
  | a :: r, n + 1, h => by
    have ih := count_set t v r n (Nat.lt_of_succ_lt_succ h)
    show (a ++ (r.set n v).flatten).count t + (r.getD n []).count t = (a ++ r.flatten).count t + v.count t
    rw [List.count_append, List.count_append]
    omega
theorem count_le_flat (t : Nat) : ∀ (L : List (List Nat)) (n : Nat), (L.getD n []).count t ≤ L.flatten.count t
  | [], n => by rw [List.getD_eq_getElem?_getD]; simp
  | a :: r, 0 => by
    show a.count t ≤ (a ++ r.flatten).count t
    rw [List.count_append]
    omega
  | a :: r, n + 1 => by
    have ih := count_le_flat t r n
    show (r.getD n []).count t ≤ (a ++ r.flatten).count t
    rw [List.count_append]
    omega
theorem count_minus (t s : Nat) (l : List Nat) : (l.filter fun o => !decide (o = s)).count t = if t = s then 0 else l.count t := by
  by_cases z : t = s
  · rw [if_pos z, z]
    refine List.count_eq_zero.mpr fun h => ?_
    have := (List.mem_filter.mp h).2
    simp at this
  · rw [if_neg z, List.count_filter]
    simp [z]
/-- the groups: their last kinds side by side, each slot in one group -/
structure TopG (P : List (List Nat)) (w m : Nat) (L D : List (List Nat)) : Prop where
  anti : ∀ lot ∈ L, ∀ s ∈ lot, ∀ t ∈ lot, s ≠ t → Apt P (lastD D s) (lastD D t)
  part : ∀ t, L.flatten.count t = if t < D.length then 1 else 0
  inj : ∀ s t, s < D.length → t < D.length → s ≠ t → lastD D s ≠ lastD D t
  top : ∀ s, s < D.length → lastD D s < m
  len : L.length ≤ w
theorem TopG.nil (P : List (List Nat)) (w : Nat) : TopG P w 0 [] [] := ⟨(fun lot h => by cases h), fun t => rfl, fun s t h => absurd h (Nat.not_lt_zero _), fun s h => absurd h (Nat.not_lt_zero _), Nat.zero_le _⟩
theorem count_two {t : Nat} : ∀ {L : List (List Nat)} {i j : Nat}, i < j → t ∈ L.getD i [] → t ∈ L.getD j [] → 2 ≤ L.flatten.count t
  | [], i, j, _, h, _ => by rw [List.getD_eq_getElem?_getD] at h; simp at h
  | a :: r, 0, 0, h, _, _ => absurd h (Nat.lt_irrefl _)
  | a :: r, 0, j + 1, _, h1, h2 => by
    have h1 : t ∈ a := h1
    have h2 : t ∈ r.getD j [] := h2
    have c1 := List.count_pos_iff.mpr h1
    have c2 := List.count_pos_iff.mpr h2
    have c3 := count_le_flat t r j
    show 2 ≤ (a ++ r.flatten).count t
    rw [List.count_append]
    omega
  | a :: r, i + 1, 0, h, _, _ => absurd h (Nat.not_lt_zero _)
  | a :: r, i + 1, j + 1, h, h1, h2 => by
    have ih := count_two (L := r) (Nat.lt_of_succ_lt_succ h) h1 h2
    show 2 ≤ (a ++ r.flatten).count t
    rw [List.count_append]
    omega
/-- the groups that are passed -/
theorem taken_pass (P D : List (List Nat)) (x : Nat) : ∀ (L : List (List Nat)) (n i : Nat), i < (takenB P D x n L).1 - n → ∃ lot, L[i]? = some lot ∧ fitB P D x lot = [] ∧ n + i < lot.length
  | [], n, i, h => by
    have h : i < n - n := h
    omega
  | lot :: r, n, i, h => by
    cases e : (fitB P D x lot).min? with
    | some s =>
      have et : takenB P D x n (lot :: r) = (n, some s) := by unfold takenB; rw [e]
      rw [et] at h
      have h : i < n - n := h
      omega
    | none =>
      by_cases z : lot.length ≤ n
      · have et : takenB P D x n (lot :: r) = (n, none) := by unfold takenB; rw [e]; exact if_pos z
        rw [et] at h
        have h : i < n - n := h
        omega
      · have et : takenB P D x n (lot :: r) = takenB P D x (n + 1) r := by
          show (match (fitB P D x lot).min? with | some s => (n, some s) | none => if lot.length ≤ n then (n, none) else takenB P D x (n + 1) r) = _
          rw [e]
          exact if_neg z
        rw [et] at h
        cases i with
        | zero => exact ⟨lot, rfl, List.min?_eq_none_iff.mp e, by omega⟩
        | succ i =>
          obtain ⟨l2, h1, h2, h3⟩ := taken_pass P D x r (n + 1) i (by omega)
          exact ⟨l2, h1, h2, by omega⟩
theorem lastD_set {D : List (List Nat)} {s t : Nat} {v : List Nat} (hs : s < D.length) : lastD (D.set s v) t = if t = s then v.getLastD 0 else lastD D t := by
  unfold lastD
  rw [List.getD_eq_getElem?_getD, List.getD_eq_getElem?_getD, List.getElem?_set]
  by_cases z : s = t
  · rw [if_pos z, if_pos hs, if_pos z.symm]
    rfl
  · rw [if_neg z, if_neg (fun e => z e.symm)]
theorem lastD_app (D : List (List Nat)) (t : Nat) : lastD (D ++ [[]]) t = lastD D t := by
  unfold lastD
  rw [List.getD_eq_getElem?_getD, List.getD_eq_getElem?_getD]
  by_cases z : t < D.length
  · rw [List.getElem?_append_left z]
  · rw [List.getElem?_append_right (by omega), List.getElem?_eq_none (l := D) (by omega)]
    by_cases y : t - D.length = 0
    · rw [y]
      rfl
    · rw [List.getElem?_eq_none (by rw [List.length_singleton]; omega)]
theorem put_last {m x : Nat} {P L D : List (List Nat)} (o : OkG m L D) (t : Nat) : lastD (putD P L D x) t = if t = putSlot P L D x then x else lastD D t := by
  have sl := slot_lt1 (P := P) (x := x) o
  rw [← putD_eq, lastD_set sl]
  by_cases z : t = putSlot P L D x
  · rw [if_pos z, if_pos z]
    simp [List.getLastD_eq_getLast?]
  · rw [if_neg z, if_neg z]
    unfold putD1
    split
    · exact lastD_app D t
    · rfl
theorem put_len {m x : Nat} {P L D : List (List Nat)} (o : OkG m L D) : ((takenB P D x 0 L).2 = none ∧ putSlot P L D x = D.length ∧ (putD P L D x).length = D.length + 1) ∨ ((takenB P D x 0 L).2 ≠ none ∧ putSlot P L D x < D.length ∧ (putD P L D x).length = D.length) := by
  have e : (putD P L D x).length = (putD1 P L D x).length := by rw [← putD_eq, List.length_set]
  rcases slot_lt (P := P) (x := x) o with ⟨h1, h2⟩ | ⟨s, lot, h1, h2, h3, _⟩
  · refine .inl ⟨h1, h2, ?_⟩
    rw [e]
    unfold putD1
    rw [if_pos h1, List.length_append]
    rfl
  · have hn : (takenB P D x 0 L).2 ≠ none := by rw [h1]; intro z; cases z
    refine .inr ⟨hn, by omega, ?_⟩
    rw [e]
    unfold putD1
    rw [if_neg hn]
theorem nodup_of_count {l : List Nat} (h : ∀ t, l.count t ≤ 1) : l.Nodup := List.nodup_iff_count.mpr fun t => h t
theorem TopG.nd {P : List (List Nat)} {w m : Nat} {L D : List (List Nat)} (h : TopG P w m L D) {lot : List Nat} (hl : lot ∈ L) : lot.Nodup := by
  obtain ⟨i, hi⟩ := List.mem_iff_getElem?.mp hl
  refine nodup_of_count fun t => ?_
  have := count_le_flat t L i
  rw [h.part t, getD_some hi] at this
  split at this <;> omega
theorem putL1_mem {P L D : List (List Nat)} {x : Nat} {q : List Nat} (h : q ∈ putL1 P L D x) : q ∈ L ∨ q = [] := by
  unfold putL1 at h
  split at h
  · rcases List.mem_append.mp h with h | h
    · exact .inl h
    · exact .inr (List.mem_singleton.mp h)
  · exact .inl h
theorem putL1_count (P L D : List (List Nat)) (x t : Nat) : (putL1 P L D x).flatten.count t = L.flatten.count t := by
  unfold putL1
  split
  · rw [List.flatten_append, List.count_append]
    rfl
  · rfl
theorem count_one (s t : Nat) : [s].count t = if t = s then 1 else 0 := by
  rw [List.count_singleton]
  by_cases z : t = s
  · rw [z]
    simp
  · rw [if_neg z, if_neg]
    intro e
    exact z (beq_iff_eq.mp e).symm
/-- where everything stands behind one kind more -/
theorem putL_at {P L D : List (List Nat)} {x : Nat} {i : Nat} {lot : List Nat} (h : (putL P L D x)[i]? = some lot) :
    (i = putN P L D x ∧ ∀ t ∈ lot, t ≠ putSlot P L D x → ∃ q, L[putN P L D x - 1]? = some q ∧ t ∈ q ∧ 0 < putN P L D x) ∨ (i ≠ putN P L D x ∧ ∃ q ∈ putL1 P L D x, ∀ t ∈ lot, t ∈ q) := by
  have n1 := putL1_len P L D x
  have nle := putN_le P L D x
  unfold putL at h
  simp only at h
  split at h
  · rename_i n0
    rw [List.getElem?_set] at h
    by_cases z : 0 = i
    · rw [if_pos z] at h
      split at h
      · refine .inl ⟨by omega, fun t ht nt => ?_⟩
        rw [← Option.some.inj h] at ht
        exact absurd (List.mem_singleton.mp ht) nt
      · cases h
    · rw [if_neg z] at h
      exact .inr ⟨by omega, lot, List.mem_of_getElem? h, fun t ht => ht⟩
  · rename_i n0
    rw [List.getElem?_set] at h
    by_cases z : putN P L D x - 1 = i
    · rw [if_pos z] at h
      split at h
      · refine .inr ⟨by omega, _, getD_mem n1, fun t ht => ?_⟩
        rw [← Option.some.inj h] at ht
        exact (List.mem_filter.mp ht).1
      · cases h
    · rw [if_neg z, List.getElem?_set] at h
      by_cases y : putN P L D x = i
      · rw [if_pos y, if_pos n1] at h
        refine .inl ⟨y.symm, fun t ht nt => ?_⟩
        rw [← Option.some.inj h] at ht
        rcases List.mem_append.mp ht with ht | ht
        · have e1 : L[putN P L D x - 1]? = some L[putN P L D x - 1] := List.getElem?_eq_getElem (by omega)
          refine ⟨_, e1, ?_, by omega⟩
          have e2 : (putL1 P L D x)[putN P L D x - 1]? = some L[putN P L D x - 1] := by
            unfold putL1
            split
            · rw [List.getElem?_append_left (by omega)]
              exact e1
            · exact e1
          rw [getD_some e2] at ht
          exact ht
        · exact absurd (List.mem_singleton.mp ht) nt
      · rw [if_neg y] at h
        exact .inr ⟨fun e => y e.symm, lot, List.mem_of_getElem? h, fun t ht => ht⟩
theorem putL_slot {P L D : List (List Nat)} {x : Nat} : putSlot P L D x ∈ (putL P L D x).getD (putN P L D x) [] := by
  have n1 := putL1_len P L D x
  unfold putL
  simp only
  split
  · rename_i n0
    rw [n0, List.getD_eq_getElem?_getD, List.getElem?_set, if_pos rfl, if_pos (by omega)]
    exact List.mem_singleton.mpr rfl
  · rename_i n0
    rw [List.getD_eq_getElem?_getD, List.getElem?_set, if_neg (by omega), List.getElem?_set, if_pos rfl, if_pos n1]
    exact List.mem_append_right _ (List.mem_singleton.mpr rfl)
theorem putL2_slot {m : Nat} {P L D : List (List Nat)} {x : Nat} (o : OkG m L D) : putSlot P L D x ∈ (putL2 P L D x).getD (putN P L D x) [] := by
  have n1 := putL1_len P L D x
  unfold putL2
  rcases slot_lt (P := P) (x := x) o with ⟨e, _⟩ | ⟨s, lot, e, h2, _, h4, h5⟩
  · rw [if_pos e, List.getD_eq_getElem?_getD, List.getElem?_set, if_pos rfl, if_pos n1]
    exact List.mem_append_right _ (List.mem_singleton.mpr rfl)
  · rw [if_neg (by rw [e]; intro z; cases z)]
    have hl := (List.getElem?_eq_some_iff.mp h4).1
    have e1 : (putL1 P L D x)[putN P L D x]? = some lot := by
      unfold putL1
      rw [if_neg (by omega)]
      exact h4
    rw [getD_some e1, h2]
    exact h5
theorem put_part {P : List (List Nat)} {w x : Nat} {L D : List (List Nat)} (o : OkG x L D) (h : TopG P w x L D) (t : Nat) : (putL P L D x).flatten.count t = if t < (putD P L D x).length then 1 else 0 := by
  have n1 := putL1_len P L D x
  have dl := put_len (P := P) (x := x) o
  have cL2 : ∀ t, (putL2 P L D x).flatten.count t = if t < (putD P L D x).length then 1 else 0 := by
    intro t
    rcases dl with ⟨d1, d2, d3⟩ | ⟨d1, d2, d3⟩
    · have cs := count_set t ((putL1 P L D x).getD (putN P L D x) [] ++ [putSlot P L D x]) (putL1 P L D x) (putN P L D x) n1
      rw [List.count_append, putL1_count, h.part, count_one, d2] at cs
      unfold putL2
      rw [if_pos d1, d3]
      rw [d2]
      by_cases a : t < D.length
      · rw [if_pos a, if_neg (by omega)] at cs
        rw [if_pos (by omega)]
        omega
      · by_cases b : t = D.length
        · rw [if_neg a, if_pos b] at cs
          rw [if_pos (by omega)]
          omega
        · rw [if_neg a, if_neg b] at cs
          rw [if_neg (by omega)]
          omega
    · unfold putL2
      rw [if_neg d1, putL1_count, h.part, d3]
  by_cases n0 : putN P L D x = 0
  · rw [← put0 o n0]
    exact cL2 t
  · have n2 := n1
    rw [← putL2_len] at n2
    have sIn := putL2_slot (P := P) (x := x) o
    have b1 := List.count_pos_iff.mpr sIn
    have b2 := count_le_flat (putSlot P L D x) (putL2 P L D x) (putN P L D x)
    have b3 := cL2 (putSlot P L D x)
    have b4 : (if putSlot P L D x < (putD P L D x).length then 1 else 0) ≤ 1 := by split <;> omega
    have cs1 := count_set t ((putL2 P L D x).getD (putN P L D x - 1) [] ++ [putSlot P L D x]) (putL2 P L D x) (putN P L D x) n2
    have cs2 := count_set t (((putL2 P L D x).getD (putN P L D x) []).filter fun o => !decide (o = putSlot P L D x)) ((putL2 P L D x).set (putN P L D x) ((putL2 P L D x).getD (putN P L D x - 1) [] ++ [putSlot P L D x])) (putN P L D x - 1) (by rw [List.length_set]; omega)
    have e3 : ((putL2 P L D x).set (putN P L D x) ((putL2 P L D x).getD (putN P L D x - 1) [] ++ [putSlot P L D x])).getD (putN P L D x - 1) [] = (putL2 P L D x).getD (putN P L D x - 1) [] := by
      rw [List.getD_eq_getElem?_getD, List.getElem?_set, if_neg (by omega), ← List.getD_eq_getElem?_getD]
    rw [e3, count_minus] at cs2
    rw [List.count_append, count_one, cL2] at cs1
    rw [← putP o n0]
    by_cases z : t = putSlot P L D x
    · rw [if_pos z] at cs1 cs2
      rw [z] at cs1 cs2 ⊢
      rw [b3] at b2
      omega
    · rw [if_neg z] at cs1 cs2
      omega
theorem TopG.put {P : List (List Nat)} {w x : Nat} {L D : List (List Nat)} (c : Cov P w) (hR : RtP P) (hx : x < P.length) (o : OkG x L D) (h : TopG P w x L D) : TopG P w (x + 1) (putL P L D x) (putD P L D x) := by
  have n1 := putL1_len P L D x
  have nle := putN_le P L D x
  have hl := put_last (P := P) (x := x) o
  have dl := put_len (P := P) (x := x) o
  have newS : lastD (putD P L D x) (putSlot P L D x) = x := by rw [hl, if_pos rfl]
  have oldS : ∀ t, t ≠ putSlot P L D x → lastD (putD P L D x) t = lastD D t := fun t z => by rw [hl, if_neg z]
  have ltD : ∀ t, t < (putD P L D x).length → t ≠ putSlot P L D x → t < D.length := fun t ht nt => by
    rcases dl with ⟨_, d2, d3⟩ | ⟨_, d2, d3⟩
    · rw [d3] at ht
      rw [d2] at nt
      omega
    · omega
  have pass : ∀ i, i < putN P L D x → ∃ lot, L[i]? = some lot ∧ (∀ t ∈ lot, isA P x (lastD D t) = false) ∧ i < lot.length := fun i hi => by
    obtain ⟨lot, h1, h2, h3⟩ := taken_pass P D x L 0 i (by unfold putN at hi; omega)
    refine ⟨lot, h1, fun t ht => ?_, by omega⟩
    cases e : isA P x (lastD D t) with
    | false => rfl
    | true =>
      have : t ∈ fitB P D x lot := List.mem_filter.mpr ⟨ht, e⟩
      rw [h2] at this
      cases this
  have aptx : ∀ t, t < D.length → isA P x (lastD D t) = false → Apt P x (lastD D t) := fun t ht e => ⟨e, by
    cases e2 : isA P (lastD D t) x with
    | false => rfl
    | true =>
      have := isA_le hR e2
      have := h.top t ht
      omega⟩
  have len1 : (putL1 P L D x).length ≤ w := by
    unfold putL1
    split
    · rename_i z
      rw [List.length_append]
      show L.length + 1 ≤ w
      by_cases l0 : L.length = 0
      · obtain ⟨rw', c1, _⟩ := c
        have := c1 x hx
        omega
      · obtain ⟨lot, e1, e2, e3⟩ := pass (L.length - 1) (by omega)
        have lm := List.mem_of_getElem? e1
        have sl := o.slots lot lm
        have q := anti_le c (q := lot.map (lastD D) ++ [x]) (fun y hy => by
          rcases List.mem_append.mp hy with hy | hy
          · obtain ⟨t, ht, rfl⟩ := List.mem_map.mp hy
            have := h.top t (sl t ht)
            omega
          · rw [List.mem_singleton.mp hy]
            exact hx)
          (List.nodup_append.mpr ⟨List.pairwise_map.mpr ((h.nd lm).imp_of_mem fun {a b} ha hb n => h.inj a b (sl a ha) (sl b hb) n), List.nodup_cons.mpr ⟨(fun z => by cases z), List.nodup_nil⟩, fun a ha b hb => by
            obtain ⟨t, ht, rfl⟩ := List.mem_map.mp ha
            rw [List.mem_singleton.mp hb]
            have := h.top t (sl t ht)
            omega⟩)
          (List.pairwise_append.mpr ⟨List.pairwise_map.mpr ((h.nd lm).imp_of_mem fun {a b} ha hb n => h.anti lot lm a ha b hb n), List.pairwise_singleton _ _, fun a ha b hb => by
            obtain ⟨t, ht, rfl⟩ := List.mem_map.mp ha
            rw [List.mem_singleton.mp hb]
            exact (aptx t (sl t ht) (e2 t ht)).symm⟩)
        rw [List.length_append, List.length_map, List.length_singleton] at q
        omega
    · exact h.len
  have part := put_part o h
  have lenL : (putL P L D x).length = (putL1 P L D x).length := by
    unfold putL
    simp only
    split
    · rw [List.length_set]
    · rw [List.length_set, List.length_set]
  refine ⟨fun lot hlot t ht u hu tu => ?_, part, fun a b ha hb ab => ?_, fun t ht => ?_, by omega⟩
  · obtain ⟨i, hi⟩ := List.mem_iff_getElem?.mp hlot
    have both : ∀ q, q ∈ L → t ∈ q → u ∈ q → t ≠ putSlot P L D x → u ≠ putSlot P L D x → Apt P (lastD (putD P L D x) t) (lastD (putD P L D x) u) := fun q hq h1 h2 h3 h4 => by
      rw [oldS t h3, oldS u h4]
      exact h.anti q hq t h1 u h2 tu
    rcases putL_at hi with ⟨ei, a1⟩ | ⟨ni, q, hq, a2⟩
    · have one : ∀ v, v ∈ lot → v ≠ putSlot P L D x → Apt P x (lastD D v) := fun v hv nv => by
        obtain ⟨q, e1, e2, e3⟩ := a1 v hv nv
        obtain ⟨lot2, f1, f2, _⟩ := pass (putN P L D x - 1) (by omega)
        rw [e1] at f1
        rw [← Option.some.inj f1] at f2
        exact aptx v (o.slots q (List.mem_of_getElem? e1) v e2) (f2 v e2)
      by_cases zt : t = putSlot P L D x
      · have nu : u ≠ putSlot P L D x := fun e => tu (zt.trans e.symm)
        rw [zt, newS, oldS u nu]
        exact one u hu nu
      · by_cases zu : u = putSlot P L D x
        · rw [zu, newS, oldS t zt]
          exact (one t ht zt).symm
        · obtain ⟨q, e1, e2, _⟩ := a1 t ht zt
          obtain ⟨q2, f1, f2, _⟩ := a1 u hu zu
          rw [e1] at f1
          rw [← Option.some.inj f1] at f2
          exact both q (List.mem_of_getElem? e1) e2 f2 zt zu
    · have no : ∀ v, v ∈ lot → v ≠ putSlot P L D x := fun v hv e => by
        have p1 : putSlot P L D x ∈ (putL P L D x).getD i [] := by
          rw [getD_some hi, ← e]
          exact hv
        have p2 := putL_slot (P := P) (L := L) (D := D) (x := x)
        have p3 := part (putSlot P L D x)
        have p4 : (if putSlot P L D x < (putD P L D x).length then 1 else 0) ≤ 1 := by split <;> omega
        rcases Nat.lt_or_gt_of_ne ni with l | l
        · have := count_two l p1 p2
          omega
        · have := count_two l p2 p1
          omega
      rcases putL1_mem hq with hq | hq
      · exact both q hq (a2 t ht) (a2 u hu) (no t ht) (no u hu)
      · have := a2 t ht
        rw [hq] at this
        cases this
  · by_cases za : a = putSlot P L D x
    · have nb : b ≠ putSlot P L D x := fun e => ab (za.trans e.symm)
      rw [za, newS, oldS b nb]
      have := h.top b (ltD b hb nb)
      omega
    · by_cases zb : b = putSlot P L D x
      · rw [zb, newS, oldS a za]
        have := h.top a (ltD a ha za)
        omega
      · rw [oldS a za, oldS b zb]
        exact h.inj a b (ltD a ha za) (ltD b hb zb) ab
  · by_cases z : t = putSlot P L D x
    · rw [z, newS]
      omega
    · rw [oldS t z]
      have := h.top t (ltD t ht z)
      omega
/-- so many slots -/
theorem flat_le : ∀ (L : List (List Nat)) (k : Nat), (∀ (j : Nat) lot, L[j]? = some lot → lot.length ≤ k + j + 1) → 2 * L.flatten.length ≤ L.length * (2 * k + L.length + 1)
  | [], k, _ => by simp
  | a :: r, k, h => by
    have ih := flat_le r (k + 1) fun j lot e => by
      have := h (j + 1) lot e
      omega
    have ha := h 0 a rfl
    show 2 * (a ++ r.flatten).length ≤ (r.length + 1) * (2 * k + (r.length + 1) + 1)
    rw [List.length_append]
    have e1 : (r.length + 1) * (2 * k + (r.length + 1) + 1) = r.length * (2 * (k + 1) + r.length + 1) + (2 * k + r.length + 2) - r.length := by
      generalize r.length = n
      have : (n + 1) * (2 * k + (n + 1) + 1) = n * (2 * k + (n + 1) + 1) + (2 * k + (n + 1) + 1) := Nat.succ_mul _ _
      have e2 : n * (2 * (k + 1) + n + 1) = n * (2 * k + (n + 1) + 1) + n := by
        rw [show 2 * (k + 1) + n + 1 = (2 * k + (n + 1) + 1) + 1 by omega, Nat.mul_succ]
      omega
    omega
/-- rows that are made, their last kinds -/
structure CovI (P : List (List Nat)) (w : Nat) (la : List (Option Nat)) (rw : Nat → Nat) : Prop where
  len : la.length = w
  lt : ∀ x, x < P.length → rw x < w
  chain : ∀ x y, y < x → x < P.length → rw y = rw x → isA P x y = true
  last : ∀ r y, la[r]? = some (some y) → y < P.length ∧ rw y = r ∧ ∀ x, x < P.length → rw x = r → x ≤ y
  no : ∀ r, la[r]? = some none → ∀ x, x < P.length → rw x ≠ r
theorem CovI.cov {P : List (List Nat)} {w : Nat} {la : List (Option Nat)} {rw : Nat → Nat} (h : CovI P w la rw) : Cov P w := ⟨rw, h.lt, h.chain⟩
theorem Cov.take {P : List (List Nat)} {w : Nat} (h : Cov P w) (n : Nat) : Cov (P.take n) w := by
  obtain ⟨rw', h1, h2⟩ := h
  refine ⟨rw', fun x hx => h1 x ?_, fun x y yx hx e => ?_⟩
  · rw [List.length_take] at hx
    omega
  · rw [List.length_take] at hx
    rw [isA_take (by omega)]
    exact h2 x y yx (by omega) e
theorem CovI.step {P : List (List Nat)} {q : List Nat} {w : Nat} {la : List (Option Nat)} {rw : Nat → Nat} (h : CovI P w la rw) (hR : RtP (P ++ [q])) {r : Nat} {o : Option Nat} (hr : la[r]? = some o) (hq : ∀ y, o = some y → y ∈ q) :
    CovI (P ++ [q]) w (la.set r (some P.length)) (fun x => if x = P.length then r else rw x) := by
  have pl : (P ++ [q]).length = P.length + 1 := by rw [List.length_append]; rfl
  have rl := (List.getElem?_eq_some_iff.mp hr).1
  have hl := h.len
  have gr : ∀ x, x < P.length → ∀ y, isA (P ++ [q]) x y = isA P x y := fun x hx y => by
    have := isA_take (P := P ++ [q]) hx y
    rw [List.take_left] at this
    exact this.symm
  have eP : (P ++ [q])[P.length]? = some q := by rw [List.getElem?_append_right (Nat.le_refl _), Nat.sub_self]; rfl
  refine ⟨by rw [List.length_set]; exact hl, fun x hx => ?_, fun x y yx hx e => ?_, fun s y e => ?_, fun s e x hx => ?_⟩
  · show (if x = P.length then r else rw x) < w
    split
    · omega
    · exact h.lt x (by omega)
  · have e : (if y = P.length then r else rw y) = (if x = P.length then r else rw x) := e
    by_cases z : x = P.length
    · rw [if_neg (by omega), if_pos z] at e
      rw [z]
      cases o with
      | none => exact absurd e (h.no r hr y (by omega))
      | some l =>
        obtain ⟨l1, l2, l3⟩ := h.last r l hr
        have il : isA (P ++ [q]) P.length l = true := by
          rw [isA_rec hR eP, Bool.or_eq_true, List.any_eq_true]
          refine .inr ⟨l, hq l rfl, ?_⟩
          rw [isA_rec hR (List.getElem?_append_left l1 ▸ List.getElem?_eq_getElem l1), decide_eq_true rfl, Bool.true_or]
        by_cases yl : y = l
        · rw [yl]
          exact il
        · have yl2 : y < l := Nat.lt_of_le_of_ne (l3 y (by omega) e) yl
          have := h.chain l y yl2 l1 (e.trans l2.symm)
          rw [← gr l l1] at this
          exact isA_trans hR il this
    · rw [if_neg (by omega), if_neg z] at e
      rw [gr x (by omega)]
      exact h.chain x y yx (by omega) e
  · rw [List.getElem?_set] at e
    by_cases z : r = s
    · rw [if_pos z, if_pos rl] at e
      have e : P.length = y := Option.some.inj (Option.some.inj e)
      refine ⟨by omega, ?_, fun x hx _ => by omega⟩
      show (if y = P.length then r else rw y) = s
      rw [if_pos e.symm]
      exact z
    · rw [if_neg z] at e
      obtain ⟨l1, l2, l3⟩ := h.last s y e
      refine ⟨by omega, ?_, fun x hx ex => ?_⟩
      · show (if y = P.length then r else rw y) = s
        rw [if_neg (by omega)]
        exact l2
      · have ex : (if x = P.length then r else rw x) = s := ex
        by_cases y2 : x = P.length
        · rw [if_pos y2] at ex
          exact absurd ex z
        · rw [if_neg y2] at ex
          exact l3 x (by omega) ex
  · rw [List.getElem?_set] at e
    by_cases z : r = s
    · rw [if_pos z, if_pos rl] at e
      cases e
    · rw [if_neg z] at e
      show (if x = P.length then r else rw x) ≠ s
      by_cases y2 : x = P.length
      · rw [if_pos y2]
        exact z
      · rw [if_neg y2]
        exact h.no s e x (by omega)
theorem OkP.snoc {P : List (List Nat)} {q : List Nat} (h : OkP P) (hq : OkL q P.length) (hn : P.length < 400) : OkP (P ++ [q]) := by
  refine ⟨fun j r e => ?_, by rw [List.length_append]; exact hn⟩
  by_cases hj : j < P.length
  · rw [List.getElem?_append_left hj] at e
    exact h.ok j r e
  · rw [List.getElem?_append_right (by omega)] at e
    have := (List.getElem?_eq_some_iff.mp e).1
    rw [List.length_singleton] at this
    have z : j - P.length = 0 := by omega
    rw [z] at e
    have e : q = r := Option.some.inj e
    rw [← e, show j = P.length by omega]
    exact hq
theorem map_optN (la : List (Option Nat)) (r x : Nat) : (la.map optN).set r (.int (x : Int)) = (la.set r (some x)).map optN := by
  rw [List.map_set]
  rfl
def sp__law_in_rows (K : PySem.W.Frag) : Sp := fun vs H Q _ => ∃ (τ : Tp) (w n : Nat), vs = [.ref τ.t, .int w, .int n] ∧ Tape τ H ∧ 0 < w ∧ w ≤ 6 ∧ n ≤ 400 ∧
  ∀ a P H', Mv τ H H' → ParAt H' a P → OkP P → P.length = n → Cov P w → Q (.ref a) H'
theorem sc__law_in_rows : FnScope ["_law_tape_here", "_law_wide", "_law_many", "_law_kind", "_law_lasts_here", "_law_found", "_law_number", "_law_at"] ["_law_tape_here", "_law_wide", "_law_many"] (defScope s__law_in_rows) := ⟨rfl, rfl, rfl, by decide +kernel, rfl, by decide +kernel, by decide +kernel⟩
theorem ok__law_in_rows (T : Top K mg) : FnOk P w K mg base CX0 3 T.f__law_in_rows T.fd__law_in_rows ["_law_tape_here", "_law_wide", "_law_many"] (sp__law_in_rows K) := by
  have G__law_line_parents := ok__law_line_parents (P := P) (w := w) (base := base) T
  have G__law_pick := ok__law_pick (P := P) (w := w) (base := base) T
  refine T.F__law_in_rows.ok sc__law_in_rows (fun vs H Q E h => ?_) (fun cdv A outer s H vs Q E hr h => ?_)
  · obtain ⟨τ, w, n, rfl, _⟩ := h
    rfl
  · obtain ⟨τ, w, n, rfl, m0, w0, w6, hn, kk⟩ := h
    refine ⟨_, (pss_cons (ps_set (i := 3) sc__law_in_rows.nd rfl (Or.inl rfl) (pe_call G__law_pick (hr.mono (by decide)) (by rfl) T.g__law_pick T.F__law_pick.kp T.b__law_pick .nil pass0 (pa_cons (pv 0) (pa_cons pe_int pa_nil))))
      (pss_cons (ps_set (i := 4) sc__law_in_rows.nd rfl (Or.inl rfl) (pe_op op_rep (pe_lst (pa_cons pe_non pa_nil)) (pv 1)))
      (pss_cons (ps_set (i := 5) sc__law_in_rows.nd rfl (Or.inl rfl) (pe_lst pa_nil))
      (pss_cons (ps_for PassesOwn.never rfl (pi_range1 rfl T.z_range (pa_cons (pv 2) pa_nil)) (pg_name (i := 6) sc__law_in_rows.nd rfl (Or.inl rfl))
      (pss_cons (ps_set (i := 7) sc__law_in_rows.nd rfl (Or.inl rfl) (pe_call G__law_pick (hr.mono (by decide)) (by rfl) T.g__law_pick T.F__law_pick.kp T.b__law_pick .nil pass0 (pa_cons (pv 0) (pa_cons (pv 1) pa_nil))))
      (pss_cons (ps_expr (pe_bm PySem.F.plainAttrs_list PySem.F.slot_list_append PySem.F.type_list_append mt_append (pv 5) (pa_cons (pe_call G__law_line_parents hr (by rfl) T.g__law_line_parents T.F__law_line_parents.kp T.b__law_line_parents .nil pass0 (pa_cons (pv 0) (pa_cons (pv 6) (pa_cons (pe_ix (r := rIxL K) ix_list (pv 4) (pv 7) (fun _ _ => rfl)) (pa_cons (pv 3) pa_nil))))) pa_nil)))
      (pss_one (ps_asg (pv 6) (pg_sub (pv 4) (pv 7) set_list))))))
      (pss_one (ps_ret (pe_callTy (r := rTupQ K) (T := "tuple") call_tuple_of (by rfl) T.z_tuple (by decide +kernel) (pa_cons (pv 5) pa_nil)))))))), ?_⟩
    tm_at "w"
    refine ⟨τ, _, rfl, m0, by decide, by decide, fun k H1 m1 k0 k1 => ?_⟩
    obtain ⟨k, rfl⟩ : ∃ j : Nat, k = j := ⟨k.toNat, by omega⟩
    tm_at "w"
    intro p1 np1
    tm_at "w"
    refine ⟨_, _, _, rfl, rfl, upd_same, by omega, by omega, ?_, fun ll nll => ?_⟩
    · rw [Int.toNat_natCast]
      show 1 * w ≤ sizeLine
      have := lt_line (n := w) (by omega)
      omega
    rw [Int.toNat_natCast, flat_rep]
    have m2 := m1.new (o := .lst [V.non]) np1
    have nllt : ll ≠ τ.t := fun e => by
      obtain ⟨_, _, _, _, h, _⟩ := m2.now.here
      rw [← e, nll] at h
      cases h
    have nll0 := m2.free nll
    have m3 := m2.new (o := .lst ((List.range w).map fun _ => V.non)) nll
    have hll : (upd (upd H1 p1 (.lst [V.non])) ll (.lst ((List.range w).map fun _ => V.non))) ll = some (.lst (((List.range w).map fun _ => (none : Option Nat)).map optN)) := by
      rw [upd_same, List.map_map]
      rfl
    have c0 : CovI [] w ((List.range w).map fun _ => (none : Option Nat)) (fun _ => 0) := by
      refine ⟨by rw [List.length_map, List.length_range], fun x hx => absurd hx (Nat.not_lt_zero _), fun x y _ hx => absurd hx (Nat.not_lt_zero _), fun r y e => ?_, fun r _ x hx => absurd hx (Nat.not_lt_zero _)⟩
      have := List.mem_of_getElem? e
      obtain ⟨_, _, e⟩ := List.mem_map.mp this
      cases e
    revert m3 hll
    generalize upd (upd H1 p1 (.lst [V.non])) ll (.lst ((List.range w).map fun _ => V.non)) = H3
    intro m3 hll
    have est : L2.start ["_law_tape_here", "_law_wide", "_law_many", "_law_kind", "_law_lasts_here", "_law_found", "_law_number", "_law_at"] [V.ref τ.t, V.int w, V.int n] = ([some (.ref τ.t), some (.int (w : Int)), some (.int (n : Int)), none, none, none, none, none] : L2.St) := rfl
    rw [est]
    tm_at "w"
    intro lf nlf
    have nlft : lf ≠ τ.t := fun e => by
      obtain ⟨_, _, _, _, h, _⟩ := m3.now.here
      rw [← e, nlf] at h
      cases h
    have nlf0 := m3.free nlf
    have lne : lf ≠ ll := (ne_of_none hll nlf).symm
    have m4 := m3.new (o := .lst []) nlf
    have hll4 := (Same.new (o := .lst []) (Same.refl H3) nlf) _ _ hll
    have hlf4 : (upd H3 lf (.lst [])) lf = some (.lst []) := upd_same
    revert m4 hll4 hlf4
    generalize upd H3 lf (.lst []) = H4
    intro m4 hll4 hlf4
    simp only [List.set_cons_zero, List.set_cons_succ]
    tm_at "w"
    refine for_range (lo := 0) (n := (n : Int).toNat) (fun i σ H' => ∃ (v6 v7 : Option V) (xs : List V) (P : List (List Nat)) (la : List (Option Nat)) (rw : Nat → Nat), σ = [some (.ref τ.t), some (.int (w : Int)), some (.int (n : Int)), some (.int (k : Int)), some (.ref ll), some (.ref lf), v6, v7] ∧ Mv τ H H' ∧ H' ll = some (.lst (la.map optN)) ∧ H' lf = some (.lst xs) ∧ ParL H' xs P ∧ P.length = i ∧ OkP P ∧ CovI P w la rw) ?_ ?_ ?_
    · exact ⟨none, none, [], [], _, _, rfl, m4, hll4, hlf4, ParL.nil, rfl, OkP.nil, c0⟩
    · rintro i σ H5 hi ⟨v6, v7, xs, P, la, rw', rfl, m5, hll5, hlf5, hp5, hPi, okP, cov⟩
      rw [Int.zero_add]
      have hi : i < n := by omega
      have lal := cov.len
      have xl := hp5.1
      tm_at "w"
      refine ⟨τ, _, rfl, m5.now, by omega, by omega, fun r H6 m6 r0 r1 => ?_⟩
      obtain ⟨r, rfl⟩ : ∃ j : Nat, r = j := ⟨r.toNat, by omega⟩
      have hll6 := m6.keep _ _ nllt hll5
      have hlf6 := m6.keep _ _ nlft hlf5
      obtain ⟨o, ho⟩ : ∃ o, la[r]? = some o := ⟨_, List.getElem?_eq_getElem (by omega)⟩
      have at6 : atI (la.map optN) (r : Int) = some (optN o) := atI_nat (by rw [List.getElem?_map, ho]; rfl)
      tm_at "w"
      refine ⟨_, _, _, _, rfl, rfl, SqL.of hll6, at6, ?_⟩
      tm_at "w"
      refine ⟨τ, i, k, o, rfl, m6.now, by omega, by omega, fun y e => ?_, fun a q H7 m7 ha okq hq => ?_⟩
      · rw [e] at ho
        have := (cov.last r y ho).1
        omega
      have hll7 := m7.keep _ _ nllt hll6
      have hlf7 := m7.keep _ _ nlft hlf6
      have hp7 := (hp5.tk m6.tk).tk m7.tk
      have tk8 : TK H7 (upd H7 lf (.lst (xs ++ [.ref a]))) := TK.mut hlf7
      have hll8 : (upd H7 lf (.lst (xs ++ [.ref a]))) ll = some (.lst (la.map optN)) := (upd_ne lne.symm).trans hll7
      have hlf8 : (upd H7 lf (.lst (xs ++ [.ref a]))) lf = some (.lst (xs ++ [.ref a])) := upd_same
      have m8 := ((m5.trans m6).trans m7).mut (o := .lst (xs ++ [.ref a])) nlf0
      tm_at "w"
      refine ⟨ll, la.map optN, _, r, rfl, rfl, hll8, ixn_nat (by rw [List.length_map]; omega), ?_⟩
      rw [map_optN]
      have okn := okP.snoc (q := q) (by rw [hPi]; exact okq) (by omega)
      have cov9 := cov.step okn.rt ho hq
      rw [hPi] at cov9
      have m9 := m8.mut (o := .lst ((la.set r (some i)).map optN)) nll0
      refine ⟨_, _, xs ++ [.ref a], P ++ [q], la.set r (some i), _, rfl, m9, upd_same, (upd_ne lne).trans hlf8, ?_, by rw [List.length_append, hPi]; rfl, okn, cov9⟩
      exact (hp7.tk (TK.trans tk8 (TK.mut hll8))).snoc ((TK.trans tk8 (TK.mut hll8)) _ _ ha)
    · rintro σ H5 ⟨v6, v7, xs, P, la, rw', rfl, m5, hll5, hlf5, hp5, hPi, okP, cov⟩
      tm_at "w"
      intro t nt
      exact kk t P _ (m5.new nt) ⟨xs, upd_same, hp5.tk (TK.new nt)⟩ okP (by omega) cov.cov
/-! _law_crossed -/
theorem new_hide {H X : Hp} {t : Addr} {o : HO} (s : Same H (upd X t o)) : ∃ H9, upd X t o = H9 ∧ Same H H9 ∧ H9 t = some o := ⟨_, rfl, s, upd_same⟩
theorem alloc_hide {H : Hp} {p : Addr} {o : HO} {R : Hp → Prop} (n : H p = none) (k : ∀ J, Same H J → J p = some o → R J) : R (upd H p o) := k _ (Same.new (Same.refl H) n) upd_same
def sp__law_crossed (K : PySem.W.Frag) : Sp := fun vs H Q _ => ∃ (τ : Tp) (w n : Nat), vs = [.ref τ.t, .int w, .int n] ∧ Tape τ H ∧ 0 < w ∧ w ≤ 6 ∧ n ≤ 400 ∧
  ∀ a P H', Mv τ H H' → ParAt H' a P → OkP P → P.length = n → Cov P w → Q (.ref a) H'
theorem sc__law_crossed : FnScope ["_law_tape_here", "_law_wide", "_law_many", "_law_lasts_here", "_law_found", "_law_number", "_law_at", "_law_other"] ["_law_tape_here", "_law_wide", "_law_many"] (defScope s__law_crossed) := ⟨rfl, rfl, rfl, by decide +kernel, rfl, by decide +kernel, by decide +kernel⟩
theorem ok__law_crossed (T : Top K mg) : FnOk P w K mg base CX0 2 T.f__law_crossed T.fd__law_crossed ["_law_tape_here", "_law_wide", "_law_many"] (sp__law_crossed K) := by
  have G__law_pick := ok__law_pick (P := P) (w := w) (base := base) T
  refine T.F__law_crossed.ok sc__law_crossed (fun vs H Q E h => ?_) (fun cdv A outer s H vs Q E hr h => ?_)
  · obtain ⟨τ, w, n, rfl, _⟩ := h
    rfl
  · obtain ⟨τ, w, n, rfl, m0, w0, w6, hn, kk⟩ := h
    refine ⟨_, (pss_cons (ps_set (i := 3) sc__law_crossed.nd rfl (Or.inl rfl) (pe_listRg rfl (by rfl) T.z_list (prg_1 (by rfl) T.z_range (pv 1))))
      (pss_cons (ps_set (i := 4) sc__law_crossed.nd rfl (Or.inl rfl) (pe_op op_rep (pe_lst (pa_cons (pe_tup pa_nil) pa_nil)) (pv 1)))
      (pss_cons (ps_for PassesOwn.never rfl (pi_range2 rfl T.z_range (pa_cons (pv 1) (pa_cons (pv 2) pa_nil))) (pg_name (i := 5) sc__law_crossed.nd rfl (Or.inl rfl))
      (pss_cons (ps_set (i := 6) sc__law_crossed.nd rfl (Or.inl rfl) (pe_call G__law_pick hr (by rfl) T.g__law_pick T.F__law_pick.kp T.b__law_pick .nil pass0 (pa_cons (pv 0) (pa_cons (pv 1) pa_nil))))
      (pss_cons (ps_set (i := 7) sc__law_crossed.nd rfl (Or.inl rfl) (pe_call G__law_pick hr (by rfl) T.g__law_pick T.F__law_pick.kp T.b__law_pick .nil pass0 (pa_cons (pv 0) (pa_cons (pv 1) pa_nil))))
      (pss_cons (ps_expr (pe_bm PySem.F.plainAttrs_list PySem.F.slot_list_append PySem.F.type_list_append mt_append (pv 4) (pa_cons (pe_callTy (r := rTupQ K) (T := "tuple") call_tuple_of (by rfl) T.z_tuple (by decide +kernel) (pa_cons (pe_callB (id := "sorted") (cr_sortedSet rfl) (by rfl) T.z_sorted (by decide +kernel) (pa_cons (pe_callTy (T := "set") (cr_setL rfl) (by rfl) T.z_set (by decide +kernel) (pa_cons (pe_lst (pa_cons (pe_ix (r := rIxL K) ix_list (pv 3) (pv 6) (fun _ _ => rfl)) (pa_cons (pe_ix (r := rIxL K) ix_list (pv 3) (pv 7) (fun _ _ => rfl)) pa_nil))) pa_nil)) pa_nil)) pa_nil)) pa_nil)))
      (pss_one (ps_asg (pv 5) (pg_sub (pv 3) (pv 6) set_list)))))))
      (pss_one (ps_ret (pe_callTy (r := rTupQ K) (T := "tuple") call_tuple_of (by rfl) T.z_tuple (by decide +kernel) (pa_cons (pe_slice sl_list (pv 4) po_none (po_some (pv 2))) pa_nil))))))), ?_⟩
    tm_at "w"
    intro ll nll
    have er : rgV 0 (w : Int) = ((List.range w).map fun j => (some j : Option Nat)).map optN := by
      unfold rgV
      rw [List.map_map, show ((w : Int) - 0).toNat = w by omega]
      refine List.map_congr_left fun j _ => ?_
      show V.int (0 + (j : Int)) = V.int (j : Int)
      rw [Int.zero_add]
    rw [er]
    have nllt : ll ≠ τ.t := fun e => by
      obtain ⟨_, _, _, _, h, _⟩ := m0.here
      rw [← e, nll] at h
      cases h
    have m1 := m0.mv.new (o := .lst (((List.range w).map fun j => (some j : Option Nat)).map optN)) nll
    have hll1 : (upd H ll (.lst (((List.range w).map fun j => (some j : Option Nat)).map optN))) ll = some (.lst (((List.range w).map fun j => (some j : Option Nat)).map optN)) := upd_same
    revert m1 hll1
    generalize upd H ll (.lst (((List.range w).map fun j => (some j : Option Nat)).map optN)) = H1
    intro m1 hll1
    have est : L2.start ["_law_tape_here", "_law_wide", "_law_many", "_law_lasts_here", "_law_found", "_law_number", "_law_at", "_law_other"] [V.ref τ.t, V.int w, V.int n] = ([some (.ref τ.t), some (.int (w : Int)), some (.int (n : Int)), none, none, none, none, none] : L2.St) := rfl
    rw [est]
    tm_at "w"
    intro p0 np0
    obtain ⟨H2, e2, s2, hp0⟩ := new_hide (Same.new (o := .tup []) (Same.refl H1) np0)
    rw [e2]
    tm_at "w"
    intro p1 np1
    obtain ⟨H3, e3, s3, hp1⟩ := new_hide (Same.new (o := .lst [.ref p0]) (Same.refl H2) np1)
    rw [e3]
    tm_at "w"
    refine ⟨_, _, _, rfl, rfl, hp1, by omega, by omega, ?_, fun lf nlf => ?_⟩
    · rw [Int.toNat_natCast]
      show 1 * w ≤ sizeLine
      have := lt_line (n := w) (by omega)
      omega
    rw [Int.toNat_natCast, flat_rep]
    have m3 := (m1.same s2).same s3
    have nlft : lf ≠ τ.t := fun e => by
      obtain ⟨_, _, _, _, h, _⟩ := m3.now.here
      rw [← e, nlf] at h
      cases h
    have nlf0 := m3.free nlf
    have hll3 := s3 _ _ (s2 _ _ hll1)
    have lne : lf ≠ ll := (ne_of_none hll3 nlf).symm
    obtain ⟨H4, e4, s4, hlf4⟩ := new_hide (Same.new (o := .lst ((List.range w).map fun _ => V.ref p0)) (Same.refl H3) nlf)
    rw [e4]
    have m4 := m3.same s4
    have hll4 := s4 _ _ hll3
    have hp04 := s4 _ _ (s3 _ _ hp0)
    have pl0 : ParL H4 ((List.range w).map fun _ => V.ref p0) ((List.range w).map fun _ => ([] : List Nat)) := by
      refine ⟨by rw [List.length_map, List.length_map], fun j q e => ?_⟩
      have jl := (List.getElem?_eq_some_iff.mp e).1
      rw [List.length_map, List.length_range] at jl
      rw [List.getElem?_map, List.getElem?_range jl] at e ⊢
      refine ⟨p0, rfl, ?_⟩
      rw [← Option.some.inj e]
      exact hp04
    have ok0 : OkP ((List.range w).map fun _ => ([] : List Nat)) := by
      refine ⟨fun j q e => ?_, by rw [List.length_map, List.length_range]; omega⟩
      obtain ⟨_, _, e⟩ := List.mem_map.mp (List.mem_of_getElem? e)
      rw [← e]
      exact ⟨List.Pairwise.nil, (fun x h => by cases h), by decide⟩
    have c0 : CovI ((List.range w).map fun _ => ([] : List Nat)) w ((List.range w).map fun j => (some j : Option Nat)) (fun x => x) := by
      refine ⟨by rw [List.length_map, List.length_range], fun x hx => ?_, fun x y yx _ e => ?_, fun r y e => ?_, fun r e => ?_⟩
      · rw [List.length_map, List.length_range] at hx
        exact hx
      · have e : y = x := e
        omega
      · have jl := (List.getElem?_eq_some_iff.mp e).1
        rw [List.length_map, List.length_range] at jl
        rw [List.getElem?_map, List.getElem?_range jl] at e
        have e : r = y := Option.some.inj (Option.some.inj e)
        refine ⟨by rw [List.length_map, List.length_range]; omega, e.symm, fun x _ ex => ?_⟩
        have ex : x = r := ex
        omega
      · obtain ⟨_, _, e⟩ := List.mem_map.mp (List.mem_of_getElem? e)
        cases e
    simp only [List.set_cons_zero, List.set_cons_succ]
    tm_at "w"
    refine ⟨_, _, rfl, ⟨by omega, by omega, by omega, by omega⟩, ?_⟩
    refine for_range (lo := (w : Int)) (n := ((n : Int) - (w : Int)).toNat) (fun i σ H' => ∃ (v5 v6 v7 : Option V) (xs : List V) (P : List (List Nat)) (la : List (Option Nat)) (rw : Nat → Nat), σ = [some (.ref τ.t), some (.int (w : Int)), some (.int (n : Int)), some (.ref ll), some (.ref lf), v5, v6, v7] ∧ Mv τ H H' ∧ H' ll = some (.lst (la.map optN)) ∧ H' lf = some (.lst xs) ∧ ParL H' xs P ∧ P.length = w + i ∧ OkP P ∧ CovI P w la rw ∧ ∀ o ∈ la, o ≠ none) ?_ ?_ ?_
    · refine ⟨none, none, none, _, _, _, _, rfl, m4, hll4, hlf4, pl0, by rw [List.length_map, List.length_range]; rfl, ok0, c0, fun o ho e => ?_⟩
      obtain ⟨_, _, e2⟩ := List.mem_map.mp ho
      rw [← e2] at e
      cases e
    · rintro i σ H5 hi ⟨v5, v6, v7, xs, P, la, rw', rfl, m5, hll5, hlf5, hp5, hPi, okP, cov, all⟩
      have lal := cov.len
      have xl := hp5.1
      tm_at "w"
      refine ⟨τ, _, rfl, m5.now, by omega, by omega, fun r H6 m6 r0 r1 => ?_⟩
      obtain ⟨r, rfl⟩ : ∃ j : Nat, r = j := ⟨r.toNat, by omega⟩
      tm_at "w"
      refine ⟨τ, _, rfl, m6.now, by omega, by omega, fun u H7 m7 u0 u1 => ?_⟩
      obtain ⟨u, rfl⟩ : ∃ j : Nat, u = j := ⟨u.toNat, by omega⟩
      have hll7 := m7.keep _ _ nllt (m6.keep _ _ nllt hll5)
      have hlf7 := m7.keep _ _ nlft (m6.keep _ _ nlft hlf5)
      have hp7 := (hp5.tk m6.tk).tk m7.tk
      have get : ∀ j, j < w → ∃ y, la[j]? = some (some y) ∧ y < P.length := fun j hj => by
        have e := List.getElem?_eq_getElem (show j < la.length by omega)
        cases c : la[j]'(by omega) with
        | none => exact absurd c (all _ (List.getElem_mem _))
        | some y =>
          rw [c] at e
          exact ⟨y, e, (cov.last j y e).1⟩
      obtain ⟨y, ey, yl⟩ := get r (by omega)
      obtain ⟨z, ez, zl⟩ := get u (by omega)
      have aty : atI (la.map optN) (r : Int) = some (.int (y : Int)) := atI_nat (by rw [List.getElem?_map, ey]; rfl)
      have atz : atI (la.map optN) (u : Int) = some (.int (z : Int)) := atI_nat (by rw [List.getElem?_map, ez]; rfl)
      tm_at "w"
      refine ⟨_, _, _, _, rfl, rfl, SqL.of hll7, aty, ?_⟩
      tm_at "w"
      refine ⟨_, _, _, _, rfl, rfl, SqL.of hll7, atz, ?_⟩
      tm_at "w"
      intro pq npq
      obtain ⟨H8, e8, s8, hpq⟩ := new_hide (Same.new (o := .lst [.int (y : Int), .int (z : Int)]) (Same.refl H7) npq)
      rw [e8]
      have m8 := ((m5.trans m6).trans m7).same s8
      have nps : ∃ P2 : Nat, P2 = P.length := ⟨_, rfl⟩
      have hll8 := s8 _ _ hll7
      have hlf8 := s8 _ _ hlf7
      have hp8 := hp7.tk (Same.tk s8)
      tm_at "w"
      refine ⟨_, [(y : Int), (z : Int)], rfl, SqL.of hpq, by show 2 ≤ 4000; omega, fun S c hc _ nS => ?_⟩
      refine ⟨S, _, _, rfl, upd_same, by have hc : c ≤ 2 := hc; omega, fun ns p hs hmem hlen np => ?_⟩
      have hin : ∀ x : Nat, x = y ∨ x = z → (x : Int) ∈ ns := fun x e => (hmem _).mpr (decide_eq_true (by rcases e with e | e <;> rw [e] <;> simp))
      obtain ⟨ks, rfl, hks, hkp⟩ := nats_of hs (n := P.length) fun x hx => by
        have := of_decide_eq_true ((hmem x).mp hx)
        rcases List.mem_cons.mp this with e | e
        · exact ⟨y, yl, e⟩
        · exact ⟨z, zl, List.mem_singleton.mp e⟩
      have hlen : ks.length ≤ 2 := by
        rw [List.length_map] at hlen
        have hc : c ≤ 2 := hc
        omega
      tm_at "w"
      intro t nt
      have hyq : y ∈ ks := by
        obtain ⟨j, hj, ej⟩ := List.mem_map.mp (hin y (.inl rfl))
        rw [show y = j by omega]
        exact hj
      obtain ⟨H9, e9, s9, ht9⟩ := new_hide (Same.new (o := .tup ((ks.map fun z : Nat => (z : Int)).map V.int)) (Same.new (Same.new (Same.refl H8) nS) np) nt)
      rw [e9]
      have m9 := m8.same s9
      have hll9 := s9 _ _ hll8
      have hlf9 := s9 _ _ hlf8
      have hp9 := hp8.tk (Same.tk s9)
      have ht9 : H9 t = some (.tup (natsV ks)) := by
        rw [ht9, List.map_map]
        rfl
      have tk10 : TK H9 (upd H9 lf (.lst (xs ++ [.ref t]))) := TK.mut hlf9
      have hll10 : (upd H9 lf (.lst (xs ++ [.ref t]))) ll = some (.lst (la.map optN)) := (upd_ne lne.symm).trans hll9
      have hlf10 : (upd H9 lf (.lst (xs ++ [.ref t]))) lf = some (.lst (xs ++ [.ref t])) := upd_same
      have m10 := m9.mut (o := .lst (xs ++ [.ref t])) nlf0
      tm_at "w"
      skip
      refine ⟨ll, la.map optN, _, r, rfl, rfl, hll10, ixn_nat (by rw [List.length_map]; omega), ?_⟩
      have ei : (w : Int) + (i : Int) = ((P.length : Nat) : Int) := by omega
      rw [ei, map_optN]
      have okn := okP.snoc (q := ks) ⟨hkp, hks, by omega⟩ (by omega)
      have cov9 := cov.step okn.rt ey (q := ks) fun y' e => by rw [← Option.some.inj e]; exact hyq
      have m11 := m10.mut (o := .lst ((la.set r (some P.length)).map optN)) nll
      refine ⟨_, _, _, xs ++ [.ref t], P ++ [ks], la.set r (some P.length), _, rfl, m11, upd_same, (upd_ne lne).trans hlf10, ?_, by rw [List.length_append, hPi]; rfl, okn, cov9, fun o ho => ?_⟩
      · exact (hp9.tk (TK.trans tk10 (TK.mut hll10))).snoc ((TK.trans tk10 (TK.mut hll10)) _ _ ht9)
      · rcases List.mem_or_eq_of_mem_set ho with h | h
        · exact all o h
        · rw [h]
          intro z
          cases z
    · rintro σ H5 ⟨v5, v6, v7, xs, P, la, rw', rfl, m5, hll5, hlf5, hp5, hPi, okP, cov, all⟩
      have xl := hp5.1
      have nP : n ≤ P.length := by omega
      tm_at "w"
      refine ⟨_, _, rfl, SqL.of hlf5, fun p np => ?_⟩
      rw [take_list (by omega)]
      tm_at "w"
      intro t nt
      obtain ⟨H6, e6, s6, ht6⟩ := new_hide (Same.new (o := .tup (xs.take n)) (Same.new (Same.refl H5) np) nt)
      rw [e6]
      exact kk t (P.take n) _ (m5.same s6) ⟨xs.take n, ht6, (hp5.tk (Same.tk s6)).take n⟩ (okP.take n) (by rw [List.length_take]; omega) (cov.cov.take n)
/-! _law_lasts -/
/-! ### what the told rule says -/
theorem taken_fits (P D : List (List Nat)) (x : Nat) : ∀ (L : List (List Nat)) (n s : Nat), (takenB P D x n L).2 = some s → isA P x (lastD D s) = true
  | [], n, s, h => by cases h
  | lot :: r, n, s, h => by
    have et : takenB P D x n (lot :: r) = match (fitB P D x lot).min? with | some s => (n, some s) | none => if lot.length ≤ n then (n, none) else takenB P D x (n + 1) r := rfl
    cases e : (fitB P D x lot).min? with
    | some s' =>
      rw [et, e] at h
      have := (List.mem_filter.mp (min_mem e)).2
      rw [← Option.some.inj h]
      exact this
    | none =>
      rw [et, e] at h
      by_cases z : lot.length ≤ n
      · simp only [if_pos z] at h
        cases h
      · simp only [if_neg z] at h
        exact taken_fits P D x r (n + 1) s h
def Chn (P : List (List Nat)) (d : List Nat) : Prop := d.Pairwise fun a b => isA P b a = true
theorem chn_count {P : List (List Nat)} (hR : RtP P) (x : Nat) : ∀ {d : List Nat} {j p : Nat}, Chn P d → d[j]? = some p → (j + 1 ≤ (d.filter fun k => isA P x k).length ↔ isA P x p = true)
  | [], j, p, _, h => by simp at h
  | a :: r, j, p, hc, h => by
    obtain ⟨h1, h2⟩ := List.pairwise_cons.mp hc
    rw [List.filter_cons]
    cases e : isA P x a with
    | true =>
      rw [if_pos rfl, List.length_cons]
      cases j with
      | zero =>
        have : a = p := Option.some.inj h
        rw [← this, e]
        exact ⟨fun _ => rfl, fun _ => by omega⟩
      | succ j =>
        have ih := chn_count hR x h2 (show r[j]? = some p from h)
        rw [← ih]
        omega
    | false =>
      rw [if_neg (by decide)]
      have no : ∀ b ∈ r, isA P x b = false := fun b hb => by
        cases eb : isA P x b with
        | false => rfl
        | true =>
          rw [isA_trans hR eb (h1 b hb)] at e
          cases e
      have nil : r.filter (fun k => isA P x k) = [] := List.filter_eq_nil_iff.mpr fun b hb => by rw [no b hb]; decide
      rw [nil]
      have np : isA P x p = false := by
        cases j with
        | zero =>
          have : a = p := Option.some.inj h
          rw [← this]
          exact e
        | succ j => exact no p (List.mem_of_getElem? h)
      rw [np]
      exact ⟨fun z => absurd z (by simp), fun z => by cases z⟩
theorem chn_snoc {P : List (List Nat)} (hR : RtP P) {d : List Nat} {x : Nat} (h : Chn P d) (hl : d = [] ∨ isA P x (d.getLastD 0) = true) : Chn P (d ++ [x]) := by
  refine List.pairwise_append.mpr ⟨h, List.pairwise_singleton _ _, fun a ha b hb => ?_⟩
  rw [List.mem_singleton.mp hb]
  rcases hl with e | e
  · rw [e] at ha
    cases ha
  · have dne : d ≠ [] := List.ne_nil_of_mem ha
    have el : d.getLastD 0 = d.getLast dne := by
      rw [List.getLastD_eq_getLast?, List.getLast?_eq_getLast dne]
      rfl
    rw [el] at e
    have ed : d = d.dropLast ++ [d.getLast dne] := (List.dropLast_concat_getLast dne).symm
    rw [ed] at ha
    rcases List.mem_append.mp ha with ha | ha
    · have h2 := h
      rw [ed] at h2
      exact isA_trans hR e ((List.pairwise_append.mp h2).2.2 a ha _ (List.mem_singleton.mpr rfl))
    · rw [List.mem_singleton.mp ha]
      exact e
/-- the row of the slot that a kind gets -/
theorem put_row {m : Nat} {P L D : List (List Nat)} {x : Nat} (o : OkG m L D) : (putD P L D x).getD (putSlot P L D x) [] = D.getD (putSlot P L D x) [] ++ [x] ∧ ∀ s, s ≠ putSlot P L D x → (putD P L D x).getD s [] = D.getD s [] := by
  have sl := (putD_len (P := P) (x := x) o).2
  have e1 : ∀ s, (if (takenB P D x 0 L).2 = none then D ++ [[]] else D).getD s [] = D.getD s [] := fun s => by
    split
    · rw [List.getD_eq_getElem?_getD, List.getD_eq_getElem?_getD]
      by_cases h : s < D.length
      · rw [List.getElem?_append_left h]
      · rw [List.getElem?_append_right (by omega), List.getElem?_eq_none (l := D) (by omega)]
        cases e : s - D.length with
        | zero => rfl
        | succ n => rfl
    · rfl
  have ls : (putD P L D x).length = (if (takenB P D x 0 L).2 = none then D ++ [[]] else D).length := by
    unfold putD
    simp only
    rw [List.length_set]
  constructor
  · unfold putD at sl ls ⊢
    simp only at sl ls ⊢
    rw [List.getD_eq_getElem?_getD, List.getElem?_set, if_pos rfl, if_pos (by omega), e1]
    rfl
  · intro s hs
    rw [← e1 s]
    unfold putD
    simp only
    rw [List.getD_eq_getElem?_getD, List.getElem?_set, if_neg (fun z => hs z.symm), ← List.getD_eq_getElem?_getD]
def slotB (P : List (List Nat)) (x : Nat) : Nat := putSlot P (runS P x false) (runS P x true) x
def rowB (P : List (List Nat)) (x s : Nat) : List Nat := (runS P x true).getD s []
theorem row_step (P : List (List Nat)) (x s : Nat) : rowB P (x + 1) s = if s = slotB P x then rowB P x s ++ [x] else rowB P x s := by
  obtain ⟨h1, h2⟩ := put_row (P := P) (x := x) (run_ok P x)
  by_cases z : s = slotB P x
  · rw [if_pos z, z]
    exact h1
  · rw [if_neg z]
    exact h2 s z
theorem row_prefix (P : List (List Nat)) (s : Nat) {m : Nat} : ∀ {n : Nat}, m ≤ n → rowB P m s <+: rowB P n s := by
  intro n h
  induction n with
  | zero => rw [show m = 0 by omega]; exact List.prefix_refl _
  | succ n ih =>
    by_cases e : m = n + 1
    · rw [e]
      exact List.prefix_refl _
    · refine (ih (by omega)).trans ?_
      rw [row_step]
      split
      · exact List.prefix_append _ _
      · exact List.prefix_refl _
theorem row_chain {P : List (List Nat)} (hR : RtP P) (s : Nat) : ∀ x, Chn P (rowB P x s)
  | 0 => by
    show Chn P (([] : List (List Nat)).getD s [])
    exact List.Pairwise.nil
  | x + 1 => by
    rw [row_step]
    split
    · rename_i e
      refine chn_snoc hR (row_chain hR s x) ?_
      rcases slot_lt (P := P) (x := x) (run_ok P x) with ⟨e1, h⟩ | ⟨s', lot, e1, h, hs, _⟩
      · refine .inl ?_
        unfold rowB
        rw [e, show slotB P x = (runS P x true).length from h, List.getD_eq_getElem?_getD, List.getElem?_eq_none (Nat.le_refl _)]
        rfl
      · refine .inr ?_
        have := taken_fits P (runS P x true) x (runS P x false) 0 s' e1
        unfold rowB
        rw [e, show slotB P x = s' from h]
        exact this
    · exact row_chain hR s x
theorem row_put (P : List (List Nat)) (x : Nat) : (rowB P (x + 1) (slotB P x))[(rowB P (x + 1) (slotB P x)).length - 1]? = some x := by
  rw [row_step, if_pos rfl, List.length_append, List.length_singleton, Nat.add_sub_cancel, List.getElem?_append_right (Nat.le_refl _), Nat.sub_self]
  rfl
theorem row_pos (P : List (List Nat)) (x : Nat) : 0 < (rowB P (x + 1) (slotB P x)).length := by
  rw [row_step, if_pos rfl, List.length_append]
  exact Nat.succ_pos _
theorem held_mono (P : List (List Nat)) {m n : Nat} (h : m ≤ n) : (runS P m true).length ≤ (runS P n true).length := by
  induction n with
  | zero => rw [show m = 0 by omega]; exact Nat.le_refl _
  | succ n ih =>
    by_cases e : m = n + 1
    · rw [e]
      exact Nat.le_refl _
    · exact Nat.le_trans (ih (by omega)) (putD_len (P := P) (x := n) (run_ok P n)).1
theorem slot_in (P : List (List Nat)) (x : Nat) : slotB P x < (runS P (x + 1) true).length := (putD_len (P := P) (x := x) (run_ok P x)).2
theorem slot_le (P : List (List Nat)) (x : Nat) : slotB P x ≤ (runS P x true).length := by
  rcases slot_lt (P := P) (x := x) (run_ok P x) with ⟨_, h⟩ | ⟨s', lot, e1, h, hs, _⟩
  · exact Nat.le_of_eq h
  · rw [show slotB P x = s' from h]
    exact Nat.le_of_lt hs
theorem ent_at {P : List (List Nat)} {x s : Nat} (h : s < (runS P (x + 1) true).length) : ((entB P (runS P (x + 1) true) x).map fun z : Nat => (z : Int)).getD s 0 = (((rowB P (x + 1) s).filter fun k => isA P x k).length : Int) := by
  unfold entB rowB
  rw [List.getD_eq_getElem?_getD, List.getElem?_map, List.getElem?_map, List.getElem?_eq_getElem h, List.getD_eq_getElem?_getD, List.getElem?_eq_getElem h]
  rfl
/-- the told scheme says what is so -/
theorem told_says {P : List (List Nat)} (hR : RtP P) (x p : Nat) : saysB (tripB P x) (tripB P p) = isA P x p := by
  have el : (tripB P x).2.2.length = (runS P (x + 1) true).length := by
    show ((entB P (runS P (x + 1) true) x).map fun z : Nat => (z : Int)).length = _
    unfold entB
    rw [List.length_map, List.length_map]
  have e1 : (tripB P p).1 = (slotB P p : Int) := rfl
  have e2 : (tripB P p).2.1 = ((rowB P (p + 1) (slotB P p)).length : Int) := rfl
  have e3 : (tripB P x).2.2 = (entB P (runS P (x + 1) true) x).map fun z : Nat => (z : Int) := rfl
  unfold saysB
  rw [el, e1, e2, e3, Int.toNat_natCast]
  by_cases hp : p ≤ x
  · have sl : slotB P p < (runS P (x + 1) true).length := Nat.lt_of_lt_of_le (slot_in P p) (held_mono P (by omega))
    rw [decide_eq_true (by omega), Bool.true_and, ent_at sl]
    have pre : rowB P (p + 1) (slotB P p) <+: rowB P (x + 1) (slotB P p) := row_prefix P _ (by omega)
    have pos := row_pos P p
    have at' : (rowB P (x + 1) (slotB P p))[(rowB P (p + 1) (slotB P p)).length - 1]? = some p := by
      obtain ⟨t, ht⟩ := pre
      rw [← ht, List.getElem?_append_left (by omega)]
      exact row_put P p
    have ct := chn_count hR x (row_chain hR (slotB P p) (x + 1)) at'
    cases e : isA P x p with
    | true =>
      have := ct.mpr e
      exact decide_eq_true (by omega)
    | false =>
      refine decide_eq_false fun z => ?_
      have := ct.mp (by omega)
      rw [e] at this
      cases this
  · have no : isA P x p = false := by
      cases e : isA P x p with
      | false => rfl
      | true =>
        have := isA_le hR e
        omega
    rw [no]
    by_cases sl : slotB P p < (runS P (x + 1) true).length
    · rw [ent_at sl]
      have pre : rowB P (x + 1) (slotB P p) <+: rowB P p (slotB P p) := row_prefix P _ (by omega)
      have l1 := pre.length_le
      have l2 : (rowB P (p + 1) (slotB P p)).length = (rowB P p (slotB P p)).length + 1 := by
        rw [row_step, if_pos rfl, List.length_append]
        rfl
      have l3 := List.length_filter_le (fun k => isA P x k) (rowB P (x + 1) (slotB P p))
      rw [decide_eq_false (p := ((rowB P (p + 1) (slotB P p)).length : Int) ≤ _) (by omega), Bool.and_false]
    · rw [decide_eq_false (by omega), Bool.false_and]
/-- the beginning's scheme is the scheme's beginning -/
theorem fit_congr {P Q : List (List Nat)} {D : List (List Nat)} {x : Nat} (h : ∀ k, isA P x k = isA Q x k) (lot : List Nat) : fitB P D x lot = fitB Q D x lot := by
  unfold fitB
  congr 1
  funext s
  exact h _
theorem taken_congr {P Q : List (List Nat)} {D : List (List Nat)} {x : Nat} (h : ∀ k, isA P x k = isA Q x k) : ∀ (L : List (List Nat)) (n : Nat), takenB P D x n L = takenB Q D x n L
  | [], n => rfl
  | lot :: r, n => by
    have e : ∀ P, takenB P D x n (lot :: r) = match (fitB P D x lot).min? with | some s => (n, some s) | none => if lot.length ≤ n then (n, none) else takenB P D x (n + 1) r := fun _ => rfl
    rw [e, e, fit_congr h, taken_congr h r (n + 1)]
theorem put_congr {P Q : List (List Nat)} {L D : List (List Nat)} {x : Nat} (h : ∀ k, isA P x k = isA Q x k) : putL P L D x = putL Q L D x ∧ putD P L D x = putD Q L D x ∧ putSlot P L D x = putSlot Q L D x := by
  unfold putL putD putL1 putSlot putN
  rw [taken_congr h]
  exact ⟨rfl, rfl, rfl⟩
theorem run_congr {P Q : List (List Nat)} : ∀ {x : Nat}, (∀ y, y < x → ∀ k, isA P y k = isA Q y k) → runS P x = runS Q x
  | 0, _ => rfl
  | x + 1, h => by
    have ih : runS P x = runS Q x := run_congr fun y hy => h y (by omega)
    obtain ⟨h1, h2, _⟩ := put_congr (L := runS P x false) (D := runS P x true) (h x (by omega))
    show putS P (runS P x) x = putS Q (runS Q x) x
    rw [← ih]
    unfold putS
    rw [h1, h2]
theorem runT_congr {P Q : List (List Nat)} : ∀ {x : Nat}, (∀ y, y < x → ∀ k, isA P y k = isA Q y k) → runT P x = runT Q x
  | 0, _ => rfl
  | x + 1, h => by
    show runT P x ++ [tripB P x] = runT Q x ++ [tripB Q x]
    rw [runT_congr fun y hy => h y (by omega)]
    have e1 : runS P x = runS Q x := run_congr fun y hy => h y (by omega)
    have e2 : runS P (x + 1) = runS Q (x + 1) := run_congr h
    have e3 := (put_congr (L := runS P x false) (D := runS P x true) (h x (by omega))).2.2
    unfold tripB
    simp only
    rw [← e1, ← e2, e3]
    unfold entB
    have e4 : (fun row : List Nat => (row.filter fun k => isA P x k).length) = fun row => (row.filter fun k => isA Q x k).length := by
      funext row
      congr 2
      funext k
      exact h x (by omega) k
    rw [e4]
theorem runT_take (P : List (List Nat)) (m : Nat) {x : Nat} (h : x ≤ m) : runT (P.take m) x = runT P x := runT_congr fun y hy k => isA_take (by omega) k
theorem runT_pre (P : List (List Nat)) : ∀ {n m : Nat}, m ≤ n → (runT P n).take m = runT P m
  | 0, m, h => by rw [show m = 0 by omega]; rfl
  | n + 1, m, h => by
    by_cases e : m = n + 1
    · rw [e]
      exact List.take_of_length_le (by rw [runT_len]; exact Nat.le_refl _)
    · show (runT P n ++ [tripB P n]).take m = _
      rw [List.take_append_of_le_length (by rw [runT_len]; omega)]
      exact runT_pre P (by omega)
theorem runT_at (P : List (List Nat)) : ∀ {n x : Nat}, x < n → (runT P n)[x]? = some (tripB P x)
  | n + 1, x, h => by
    show (runT P n ++ [tripB P n])[x]? = _
    by_cases e : x = n
    · rw [e, List.getElem?_append_right (by rw [runT_len]; exact Nat.le_refl _), runT_len, Nat.sub_self]
      rfl
    · rw [List.getElem?_append_left (by rw [runT_len]; omega)]
      exact runT_at P (by omega)
/-- the last kinds of the slots -/
def lasL (D : List (List Nat)) : List Nat := (List.range D.length).map (lastD D)
theorem lasL_len (D : List (List Nat)) : (lasL D).length = D.length := by unfold lasL; rw [List.length_map, List.length_range]
theorem lasL_at {D : List (List Nat)} {s : Nat} (h : s < D.length) : (lasL D)[s]? = some (lastD D s) := by
  unfold lasL
  rw [List.getElem?_map, List.getElem?_range h]
  rfl
theorem lasL_none {D : List (List Nat)} {s : Nat} (h : D.length ≤ s) : (lasL D)[s]? = none := List.getElem?_eq_none (by rw [lasL_len]; exact h)
theorem okg_last {m s : Nat} {L D : List (List Nat)} (o : OkG m L D) (h : s < D.length) : lastD D s < m := by
  have hm := List.getElem_mem h
  have e : lastD D s = (D[s]).getLastD 0 := by
    unfold lastD
    rw [getD_some (List.getElem?_eq_getElem h)]
  rw [e, List.getLastD_eq_getLast?, List.getLast?_eq_some_getLast (o.full _ hm)]
  exact o.kinds _ hm _ (List.getLast_mem _)
theorem lasL_new {m x : Nat} {P L D : List (List Nat)} (o : OkG m L D) (e : (takenB P D x 0 L).2 = none) : lasL (putD P L D x) = lasL D ++ [x] := by
  rcases put_len (P := P) (x := x) o with ⟨d1, d2, d3⟩ | ⟨d1, _, _⟩
  · refine List.ext_getElem? fun j => ?_
    by_cases h : j < D.length
    · rw [lasL_at (by omega), List.getElem?_append_left (by rw [lasL_len]; exact h), lasL_at h, put_last o, if_neg (by omega)]
    · rw [List.getElem?_append_right (by rw [lasL_len]; omega), lasL_len]
      by_cases z : j = D.length
      · rw [lasL_at (by omega), put_last o, if_pos (by omega), z, Nat.sub_self]
        rfl
      · rw [lasL_none (by omega), List.getElem?_eq_none]
        show 1 ≤ _
        omega
  · exact absurd e d1
theorem lasL_old {m x : Nat} {P L D : List (List Nat)} (o : OkG m L D) (e : (takenB P D x 0 L).2 ≠ none) : lasL (putD P L D x) = (lasL D).set (putSlot P L D x) x := by
  rcases put_len (P := P) (x := x) o with ⟨d1, _, _⟩ | ⟨d1, d2, d3⟩
  · exact absurd d1 e
  · refine List.ext_getElem? fun j => ?_
    rw [List.getElem?_set, lasL_len]
    by_cases h : j < D.length
    · rw [lasL_at (by omega), put_last o]
      by_cases z : j = putSlot P L D x
      · rw [if_pos z, if_pos z.symm, if_pos d2]
      · rw [if_neg z, if_neg (fun e => z e.symm), lasL_at h]
    · rw [lasL_none (by omega), if_neg (by omega), lasL_none (by omega)]
/-- the same list once more -/
theorem lasL_same {D : List (List Nat)} {x : Nat} : (lasL D ++ [x]).set D.length x = lasL D ++ [x] := by
  rw [List.set_append_right _ _ (by rw [lasL_len]; exact Nat.le_refl _), lasL_len, Nat.sub_self]
  rfl
theorem run_slot (P : List (List Nat)) {n x : Nat} (h : x < n) : ((runT P n).map fun e => e.1)[x]? = some ((putSlot P (runS P x false) (runS P x true) x : Nat) : Int) := by
  rw [List.getElem?_map, runT_at P h]
  rfl
theorem run_next (P : List (List Nat)) (x : Nat) : runS P (x + 1) true = putD P (runS P x false) (runS P x true) x := rfl
def sp__law_lasts (K : PySem.W.Frag) : Sp := fun vs H Q _ => ∃ (f t : Addr) (P : List (List Nat)), vs = [.ref f, .ref t] ∧ FlagsAt H f P ∧ H t = some (.tup (((runT P P.length).map fun e => e.1).map V.int)) ∧ P.length ≤ 400 ∧
  ∀ l H', Same H H' → H' l = some (.lst (natsV (lasL (runS P P.length true)))) → Q (.ref l) H'
theorem sc__law_lasts : FnScope ["_law_above_here", "_law_slots", "_law_lasts_here", "_law_x", "_law_slot"] ["_law_above_here", "_law_slots"] (defScope s__law_lasts) := ⟨rfl, rfl, rfl, by decide +kernel, rfl, by decide +kernel, by decide +kernel⟩
theorem ok__law_lasts (T : Top K mg) : FnOk P w K mg base CX0 1 T.f__law_lasts T.fd__law_lasts ["_law_above_here", "_law_slots"] (sp__law_lasts K) := by
  refine T.F__law_lasts.ok sc__law_lasts (fun vs H Q E h => ?_) (fun cdv A outer s H vs Q E hr h => ?_)
  · obtain ⟨f, t, P, rfl, _⟩ := h
    rfl
  · obtain ⟨f, t, P, rfl, hF, ht, h400, k⟩ := h
    refine ⟨_, (pss_cons (ps_set (i := 2) sc__law_lasts.nd rfl (Or.inl rfl) (pe_lst pa_nil))
      (pss_cons (ps_for PassesOwn.never rfl (pi_enumT (by rfl) T.z_enumerate (pa_cons (pv 1) pa_nil)) (pg_tup rfl (pgs_cons (pg_name (i := 3) sc__law_lasts.nd rfl (Or.inl rfl)) (pgs_cons (pg_name (i := 4) sc__law_lasts.nd rfl (Or.inl rfl)) pgs_nil)))
      (pss_cons (ps_if (PW.pt (pw_or (pt_not (pt_val (pe_callB (r := rIsi K) (id := "isinstance") call_isi (by rfl) T.z_isinstance (by decide +kernel) (pa_cons (pv 4) (pa_cons (pe_bltn (v := .ty "int") (u := .type "int") (by rfl) T.z_int (by decide +kernel) rfl) pa_nil))))) (pw_or (pt_val (pe_callB (r := rIsi K) (id := "isinstance") call_isi (by rfl) T.z_isinstance (by decide +kernel) (pa_cons (pv 4) (pa_cons (pe_bltn (v := .ty "bool") (u := .type "bool") (by rfl) T.z_bool (by decide +kernel) rfl) pa_nil)))) (pw_or (pt_cmpR op_lt (pv 4) pe_int (nomark _)) (pw_or1 (pt_cmpR op_gt (pv 4) (pe_callB (r := rLenQ K) (id := "len") call_len_seq (by rfl) T.z_len (by decide +kernel) (pa_cons (pv 2) pa_nil)) (nomark _))))))) (pss_one (ps_ret pe_non)) pss_nil)
      (C8.pss_cut (ps_if (pt_cmpR op_eq (pv 4) (pe_callB (r := rLenQ K) (id := "len") call_len_seq (by rfl) T.z_len (by decide +kernel) (pa_cons (pv 2) pa_nil)) (nomark _)) (pss_one (ps_expr (pe_bm PySem.F.plainAttrs_list PySem.F.slot_list_append PySem.F.type_list_append mt_append (pv 2) (pa_cons (pv 3) pa_nil)))) pss_nil)
      (pss_cons (ps_if (PW.pt (pw_and (pt_cmpR op_ne (pe_ix (r := rIxL K) ix_list (pv 2) (pv 4) (fun _ _ => rfl)) (pv 3) (nomark _)) (pw_and1 (pt_not (pt_val (pe_ix (r := rIxL K) ix_list (pe_ix (r := rIxL K) ix_list (pv 0) (pv 3) (fun _ _ => rfl)) (pe_ix (r := rIxL K) ix_list (pv 2) (pv 4) (fun _ _ => rfl)) (fun _ _ => rfl))))))) (pss_one (ps_ret pe_non)) pss_nil)
      (pss_one (ps_asg (pv 3) (pg_sub (pv 2) (pv 4) set_list)))))))
      (pss_one (ps_ret (pv 2))))), ?_⟩
    have tl : (((runT P P.length).map fun e => e.1).map V.int).length = P.length := by rw [List.length_map, List.length_map, runT_len]
    tm_at "w"
    intro l nl
    have ht1 : upd H l (.lst []) t = _ := (Same.new (Same.refl H) nl) _ _ ht
    tm_at "w"
    refine ⟨_, _, rfl, SqT.of ht1, for_enumT (K := K) (a := t) (xs := ((runT P P.length).map fun e => e.1).map V.int) (fun i σ H' => ∃ x y, σ = [some (.ref f), some (.ref t), some (.ref l), x, y] ∧ Same H H' ∧ H' l = some (.lst (natsV (lasL (runS P i true))))) ?_ ?_ ?_ ?_⟩
    · exact ⟨none, none, rfl, Same.new (Same.refl H) nl, upd_same⟩
    · rintro i σ H' ⟨_, _, rfl, s1, _⟩
      exact SqT.of (s1 _ _ ht)
    · rintro x v p σ H' hx ⟨x0, y0, rfl, s1, hl⟩ np
      have xl : x < P.length := by
        have := (List.getElem?_eq_some_iff.mp hx).1
        omega
      rw [List.getElem?_map, run_slot P xl] at hx
      have ev : v = .int ((putSlot P (runS P x false) (runS P x true) x : Nat) : Int) := (Option.some.inj hx).symm
      have o := run_ok P x
      have nx := run_next P x
      have dl := put_len (P := P) (x := x) o
      have fits := taken_fits P (runS P x true) x (runS P x false) 0
      have sl : (runS P x true).length ≤ x := o.wd
      have las := fun s => okg_last (s := s) o
      have new := lasL_new (P := P) (x := x) o
      have old := lasL_old (P := P) (x := x) o
      have slot : ∀ s, (takenB P (runS P x true) x 0 (runS P x false)).2 = some s → putSlot P (runS P x false) (runS P x true) x = s := fun s e => by unfold putSlot; rw [e]; rfl
      revert ev nx dl fits sl las new old slot hl
      generalize runS P x true = D
      generalize runS P x false = L
      intro hl ev nx dl fits sl las new old slot
      rw [nx]
      revert ev slot dl new old
      generalize putSlot P L D x = s
      intro ev dl new old slot
      subst ev
      have s2 : Same H' (upd H' p (.tup [V.int (x : Int), V.int (s : Int)])) := Same.new (Same.refl H') np
      have hl2 := s2 _ _ hl
      have ll := lasL_len D
      have hp2 : (upd H' p (.tup [V.int (x : Int), V.int (s : Int)])) p = some (.tup [V.int (x : Int), V.int (s : Int)]) := upd_same
      have hF2 := (hF.same s1).same s2
      have m2 := Same.trans s1 s2
      revert hl2 hF2 m2 hp2
      generalize upd H' p (.tup [V.int (x : Int), V.int (s : Int)]) = H2
      intro hl2 hp2 hF2 m2
      tm_at "w"
      refine ⟨_, _, _, _, _, rfl, ClsV.ty _, ty_int _, int_int, ?_⟩
      tm_at "w"
      refine ⟨_, _, _, _, _, rfl, ClsV.ty _, ty_int _, int_bool, ?_⟩
      tm_at "w"
      refine iteD (fun z => absurd z ?_) (fun _ => ?_)
      · rw [natsV_len, ll]
        omega
      tm_at "w"
      refine ⟨fun σ' J => σ' = [some (.ref f), some (.ref t), some (.ref l), some (.int (x : Int)), some (.int (s : Int))] ∧ Same H J ∧ ∃ (M : List Nat) (y : Nat), J l = some (.lst (natsV M)) ∧ M[s]? = some y ∧ y ≤ x ∧ (y = x ∨ isA P x y = true) ∧ M.set s x = lasL (putD P L D x), ?_, ?_⟩
      · tm_at "w"
        refine iteI (fun z => ?_) (fun z => ?_)
        · rw [natsV_len, ll] at z
          have z : s = D.length := by omega
          tm_at "w"
          refine ⟨_, _, _, rfl, rfl, hl2, lt_line (by rw [natsV_len, ll]; omega), ?_⟩
          have d1 : (takenB P D x 0 L).2 = none := by
            rcases dl with ⟨d1, d2, d3⟩ | ⟨d1, d2, d3⟩
            · exact d1
            · omega
          refine ⟨rfl, Same.mut m2 nl, lasL D ++ [x], x, ?_, ?_, Nat.le_refl x, .inl rfl, ?_⟩
          · rw [upd_same, ← natsV_snoc]
          · rw [z, List.getElem?_append_right (by omega), ll, Nat.sub_self]
            rfl
          · rw [new d1, z]
            exact lasL_same
        · rw [natsV_len, ll] at z
          rcases dl with ⟨d1, d2, d3⟩ | ⟨d1, d2, d3⟩
          · exact absurd (by rw [d2]) z
          obtain ⟨s', es⟩ := Option.ne_none_iff_exists'.mp d1
          have e := slot s' es
          tm_at "w"
          exact ⟨lasL D, lastD D s, hl2, lasL_at d2, by have := las s d2; omega, .inr (by rw [e]; exact fits s' es), (old d1).symm⟩
      · rintro σ' J ⟨rfl, m3, M, y, hl3, hM, yx, yA, eM⟩
        have hF3 := hF.same m3
        have sM := (List.getElem?_eq_some_iff.mp hM).1
        have as : atI (natsV M) (s : Int) = some (.int (y : Int)) := atI_nat (natsV_at hM)
        have aM : ∀ j z : Nat, M[j]? = some z → atI (natsV M) (j : Int) = some (.int (z : Int)) := fun j z e => atI_nat (natsV_at e)
        tm_at "w"
        refine ⟨_, _, _, _, rfl, rfl, SqL.of hl3, as, ?_⟩
        tm_at "w"
        have fin : ∃ x_1 y, [some (.ref f), some (.ref t), some (.ref l), some (.int (x : Int)), some (.int (s : Int))] = [some (V.ref f), some (V.ref t), some (V.ref l), x_1, y] ∧ Same H (upd J l (.lst ((natsV M).set s (.int (x : Int))))) ∧ upd J l (.lst ((natsV M).set s (.int (x : Int)))) l = some (HO.lst (natsV (lasL (putD P L D x)))) := by
          refine ⟨_, _, rfl, Same.mut m3 nl, ?_⟩
          rw [upd_same, ← eM]
          unfold natsV
          rw [List.map_set]
        refine iteB (fun e => ?_) (fun e => ?_)
        · have yA : isA P x y = true := by
            rcases yA with z | z
            · rw [z] at e
              simp at e
            · exact z
          obtain ⟨vs2, a2, g1, g2, g3⟩ := hF3.at (x := x) xl
          have g4 := rowF_at (P := P) (x := x) (p := y) (by omega)
          rw [yA] at g4
          tm_at "w"
          refine ⟨_, _, _, _, rfl, rfl, SqL.of hl3, as, ?_⟩
          tm_at "w"
          refine ⟨_, _, _, _, rfl, rfl, hl3, ixn_nat (by rw [natsV_len]; exact sM), ?_⟩
          exact fin
        · tm_at "w"
          refine ⟨_, _, _, _, rfl, rfl, hl3, ixn_nat (by rw [natsV_len]; exact sM), ?_⟩
          exact fin
    · rintro σ H' ⟨_, _, rfl, s1, hl⟩
      rw [tl] at hl
      tm_at "w"
      exact k l H' s1 hl
/-! _law_are_groups -/
theorem lc_enumTF {K : PySem.W.Frag} {a : Addr} {xs : List V} {g : TG} {tt : TT} {te : TE} {vs : List Nat} {σ : St} {H1 : Hp} {D : Addr} {Qd : Hp → Prop} (f : Nat → Option V) (hx : H1 a = some (.tup xs)) (nD : H1 D = none) (hn : xs.length ≤ 100000)
    (hs : ∀ (i : Nat) (x : V) (Z : Addr) (H : Hp) (N : V → Hp → Prop) (M : Hp → Prop), xs[i]? = some x → Same H1 H → H Z = some (.tup [.int (i : Nat), x]) → (∀ v H4, f i = some v → Same H H4 → N v H4) → (∀ H4, f i = none → Same H H4 → M H4) → g (.ref Z) (wipe σ vs) H fun σ2 H2 => wipe σ2 vs = wipe σ vs ∧ tt σ2 H2 fun b H3 => if b = true then te σ2 H3 N else M H3)
    (hd : ∀ H, Same H1 H → H D = some (.lst ((List.range xs.length).filterMap f)) → Qd H) : ∃ W : Nat → Nat → Hp → Prop, (∃ m, W 0 m (upd H1 D (.lst []))) ∧ ∀ i m H, W i m H →
      ((IteT K a).stop i H ∧ Qd H) ∨ ((IteT K a).go i H ∧ ∃ Nx : Hp → Prop, (∀ H', Nx H' → ∃ m', m' < m ∧ W (i + 1) m' H') ∧ ∀ x H', (IteT K a).yld i H x H' → g x (wipe σ vs) H' fun σ2 H2 => wipe σ2 vs = wipe σ vs ∧ tt σ2 H2 fun b H3 =>
        if b = true then te σ2 H3 fun y H4 => ∃ acc, H4 D = some (.lst acc) ∧ acc.length < sizeLine ∧ Nx (upd H4 D (.lst (acc ++ [y]))) else Nx H3) := by
  refine ⟨fun i m H => m = xs.length - i ∧ i ≤ xs.length ∧ Same H1 H ∧ H D = some (.lst ((List.range i).filterMap f)), ⟨xs.length, rfl, Nat.zero_le _, Same.new (Same.refl H1) nD, upd_same⟩, ?_⟩
  rintro i m H ⟨rfl, hi, s, hD⟩
  have qx : SqT K H a xs := SqT.of (s _ _ hx)
  have hz := filterMap_range_len f i
  by_cases hlt : i < xs.length
  · have ex : xs[i]? = some xs[i] := List.getElem?_eq_getElem hlt
    refine .inr ⟨⟨xs, _, qx, ex⟩, fun H => i < xs.length ∧ Same H1 H ∧ H D = some (.lst ((List.range (i + 1)).filterMap f)), fun H' p' => ⟨xs.length - (i + 1), by omega, rfl, hlt, p'.2⟩, fun v H' y => ?_⟩
    obtain ⟨Z, x', rfl, hZ, rfl, f1⟩ := y
    have s1 : Same H (upd H Z (.tup [.int (i : Nat), x'])) := Same.new (Same.refl H) hZ
    refine hs i x' Z _ _ _ (f1 xs qx) (s.trans s1) upd_same (fun v H4 e s4 => ⟨_, s4 _ _ (s1 _ _ hD), lt_line (by omega), hlt, ?_, ?_⟩) (fun H4 e s4 => ⟨hlt, ?_, ?_⟩)
    · exact Same.mut ((s.trans s1).trans s4) nD
    · rw [filterMap_range_succ, e]
      exact upd_same
    · exact (s.trans s1).trans s4
    · rw [filterMap_range_succ, e, s4 _ _ (s1 _ _ hD)]
      simp
  · have e : i = xs.length := by omega
    subst e
    exact .inl ⟨⟨xs, qx, Nat.le_refl _⟩, hd H s hD⟩
/-- the told groups as lists -/
theorem flat_perm : ∀ (Z L : List (List Nat)), Z.length ≤ L.length → (∀ (j : Nat) q, Z[j]? = some q → q.Perm (L.getD j [])) → (∀ j, Z.length ≤ j → L.getD j [] = []) → Z.flatten.Perm L.flatten
  | [], [], _, _, _ => List.Perm.refl _
  | _ :: _, [], h, _, _ => absurd h (by simp)
  | [], a :: r, _, _, h3 => by
    have ih := flat_perm [] r (Nat.zero_le _) (fun j q e => by simp at e) fun j _ => h3 (j + 1) (Nat.zero_le _)
    have e : a = [] := h3 0 (Nat.zero_le _)
    rw [e]
    exact ih
  | b :: z, a :: r, h1, h2, h3 => by
    have ih := flat_perm z r (Nat.le_of_succ_le_succ h1) (fun j q e => h2 (j + 1) q e) fun j hj => h3 (j + 1) (Nat.succ_le_succ hj)
    exact (h2 0 b rfl).append ih
theorem LotsAt.par {H : Hp} {a : Addr} {L : List (List Nat)} (h : LotsAt H a L) : ∃ (vs : List V) (Z : List (List Nat)), H a = some (.tup vs) ∧ ParL H vs Z ∧ Z.length ≤ L.length ∧ (∀ (j : Nat) q, Z[j]? = some q → q.Perm (L.getD j [])) ∧ Z.flatten.Perm L.flatten := by
  obtain ⟨vs, h1, ⟨m, hm1, hm2, hm3⟩, h2⟩ := h
  obtain ⟨f, hf⟩ := Classical.axiomOfChoice (r := fun (j : Nat) (q : List Nat) => j < vs.length → ∃ b, vs[j]? = some (.ref b) ∧ H b = some (.tup (natsV q)) ∧ q.Perm (L.getD j [])) (fun j => by
    by_cases hj : j < vs.length
    · obtain ⟨b, q, e1, e2, e3, _⟩ := h2 j _ (List.getElem?_eq_getElem hj)
      exact ⟨q, fun _ => ⟨b, by rw [List.getElem?_eq_getElem hj, e1], e2, e3⟩⟩
    · exact ⟨[], fun z => absurd z hj⟩)
  have zl : ((List.range vs.length).map f).length = vs.length := by rw [List.length_map, List.length_range]
  have zat : ∀ (j : Nat) q, ((List.range vs.length).map f)[j]? = some q → j < vs.length ∧ q = f j := fun j q e => by
    have hj := (List.getElem?_eq_some_iff.mp e).1
    rw [zl] at hj
    rw [List.getElem?_map, List.getElem?_range hj] at e
    exact ⟨hj, (Option.some.inj e).symm⟩
  have mL : vs.length ≤ L.length := by
    obtain ⟨z, e, hz⟩ := max_le (L := L) (m := (m : Int)) (List.mem_map.mpr ⟨m, hm2, rfl⟩)
    omega
  have zp : ∀ (j : Nat) q, ((List.range vs.length).map f)[j]? = some q → q.Perm (L.getD j []) := fun j q e => by
    obtain ⟨hj, rfl⟩ := zat j q e
    obtain ⟨b, _, _, e3⟩ := hf j hj
    exact e3
  refine ⟨vs, (List.range vs.length).map f, h1, ⟨zl.symm, fun j q e => ?_⟩, by omega, zp, flat_perm _ _ (by omega) zp fun j hj => ?_⟩
  · obtain ⟨hj, rfl⟩ := zat j q e
    obtain ⟨b, e1, e2, _⟩ := hf j hj
    exact ⟨b, e1, e2⟩
  · rw [zl] at hj
    by_cases l : j < L.length
    · cases e : L.getD j [] with
      | nil => rfl
      | cons s r =>
        have : j + 1 ∈ mostB L := List.mem_cons_of_mem _ (List.mem_map.mpr ⟨j, List.mem_filter.mpr ⟨List.mem_range.mpr l, decide_eq_true (by rw [e]; exact Nat.succ_pos _)⟩, rfl⟩)
        have := hm1 _ this
        omega
    · rw [List.getD_eq_getElem?_getD, List.getElem?_eq_none (by omega)]
      rfl
theorem range_perm {n : Nat} {F : List Nat} (hF : ∀ t, F.count t = if t < n then 1 else 0) : F.Perm (List.range n) := by
  refine List.perm_iff_count.mpr fun t => ?_
  rw [hF]
  have nd : (List.range n).Nodup := List.nodup_range
  by_cases h : t < n
  · rw [if_pos h, nd.count, if_pos (List.mem_range.mpr h)]
  · rw [if_neg h, nd.count, if_neg (fun z => h (List.mem_range.mp z))]
/-- each slot once, in order -/
theorem sorted_slots {n : Nat} {F ks : List Nat} (hF : F.Perm (List.range n)) (p : ks.Perm F) (s : ks.Pairwise (· ≤ ·)) : ks = List.range n := by
  refine List.Perm.eq_of_pairwise (le := (· ≤ ·)) (fun a b _ _ h1 h2 => Nat.le_antisymm h1 h2) s ?_ (p.trans hF)
  exact (List.pairwise_lt_range (n := n)).imp fun h => Nat.le_of_lt h
/-- the last kinds of a group, in order, lie side by side -/
theorem kinds_apt {P : List (List Nat)} {w m : Nat} {L D : List (List Nat)} (g : TopG P w m L D) (o : OkG m L D) {j : Nat} {q ks : List Nat} (hq : q.Perm (L.getD j [])) (hk : ks.Perm (q.map (lastD D))) : ks.Pairwise (Apt P) := by
  have base : (q.map (lastD D)).Pairwise (Apt P) := by
    by_cases hj : j < L.length
    · have hm : L.getD j [] ∈ L := getD_mem hj
      have nd := g.nd hm
      have pw : (L.getD j []).Pairwise fun a b => Apt P (lastD D a) (lastD D b) := nd.imp_of_mem fun {a b} ha hb n => g.anti _ hm a ha b hb n
      have pq : q.Pairwise fun a b => Apt P (lastD D a) (lastD D b) := (hq.pairwise_iff fun {a b} h => h.symm).mpr pw
      exact List.pairwise_map.mpr pq
    · rw [List.getD_eq_getElem?_getD, List.getElem?_eq_none (by omega)] at hq
      rw [List.perm_nil.mp hq]
      exact List.Pairwise.nil
  exact (hk.pairwise_iff fun {a b} h => h.symm).mpr base
theorem all_false (n : Nat) : (List.range n).filterMap (fun _ => some (V.bl false)) = (List.replicate n false).map V.bl := by
  rw [show (fun _ : Nat => some (V.bl false)) = some ∘ (fun _ : Nat => V.bl false) from rfl, List.filterMap_eq_map, List.map_replicate]
  exact List.eq_replicate_iff.mpr ⟨by rw [List.length_map, List.length_range], fun b hb => by
    obtain ⟨x, _, e⟩ := List.mem_map.mp hb
    exact e.symm⟩
theorem any_id (n : Nat) : (List.replicate n false).any id = false := by
  rw [List.any_eq_false]
  intro x hx
  rw [List.eq_of_mem_replicate hx]
  decide
theorem shaped_listI (ns : List Int) : SeqAt.shaped (.list (ns.map PyData.int)) = true := by
  have h := deep_ints ns
  have h2 : PyData.depth (.list (ns.map PyData.int)) ≤ 64 := by
    simp only [PyData.depth]
    omega
  exact Bool.and_eq_true_iff.mpr ⟨lay_ints ns, decide_eq_true h2⟩
theorem refl_listI (ns : List Int) : PyData.eqv (.list (ns.map PyData.int)) (.list (ns.map PyData.int)) = true := SeqAt.eqv_refl _ (lay_ints ns)
def sp__law_are_groups (K : PySem.W.Frag) : Sp := fun vs H Q _ => ∃ (f l t : Addr) (P L D : List (List Nat)) (w : Nat), vs = [.ref f, .ref l, .ref t, .int (w : Int)] ∧ FlagsAt H f P ∧ H l = some (.lst (natsV (lasL D))) ∧ LotsAt H t L ∧ TopG P w P.length L D ∧ OkG P.length L D ∧ P.length ≤ 400 ∧
  ∀ H', Same H H' → Q (.bl true) H'
theorem sc__law_are_groups : FnScope ["_law_above_here", "_law_lasts_here", "_law_told", "_law_wide", "_law_found", "_law_lot", "_law_kinds", "_law_at", "_law_number", "_law_slot", "_law_p"] ["_law_above_here", "_law_lasts_here", "_law_told", "_law_wide"] (defScope s__law_are_groups) := ⟨rfl, rfl, rfl, by decide +kernel, rfl, by decide +kernel, by decide +kernel⟩
theorem ok__law_are_groups (T : Top K mg) : FnOk P w K mg base CX0 1 T.f__law_are_groups T.fd__law_are_groups ["_law_above_here", "_law_lasts_here", "_law_told", "_law_wide"] (sp__law_are_groups K) := by
  refine T.F__law_are_groups.ok sc__law_are_groups (fun vs H Q E h => ?_) (fun cdv A outer s H vs Q E hr h => ?_)
  · obtain ⟨f, l, t, P, L, D, w, rfl, _⟩ := h
    rfl
  · obtain ⟨f, l, t, P, L, D, w, rfl, hF, hl, hL, g, o, h400, k⟩ := h
    refine ⟨_, (pss_cons (ps_if (PW.pt (pw_or (pt_not (pt_val (pe_callB (r := rIsi K) (id := "isinstance") call_isi (by rfl) T.z_isinstance (by decide +kernel) (pa_cons (pv 2) (pa_cons (pe_bltn (v := .ty "tuple") (u := .type "tuple") (by rfl) T.z_tuple (by decide +kernel) rfl) pa_nil))))) (pw_or1 (pt_cmpR op_gt (pe_callB (r := rLenQ K) (id := "len") call_len_seq (by rfl) T.z_len (by decide +kernel) (pa_cons (pv 2) pa_nil)) (pv 3) (nomark _))))) (pss_one (ps_ret pe_bl)) pss_nil)
      (pss_cons (ps_if (pt_not (pt_val (pe_callB (r := rAll K) (id := "all") (cr_all rfl) (by rfl) T.z_all (by decide +kernel) (pa_cons (pe_lc (own := [("_law_number", 8), ("_law_lot", 5)]) (tt := tYes) rfl sc__law_are_groups.nd (pi_enumT (by rfl) T.z_enumerate (pa_cons (pv 2) pa_nil)) (blkOk_by (own := [("_law_number", 8), ("_law_lot", 5)]) (N := ["_law_above_here", "_law_lasts_here", "_law_told", "_law_wide", "_law_found", "_law_lot", "_law_kinds", "_law_at", "_law_number", "_law_slot", "_law_p"]) (sc := defScope s__law_are_groups) (by decide +kernel)) (fun _ _ _ _ _ => (pg_tupK (K := K) 2 rfl rfl (pgs_cons (pg_name (i := 8) sc__law_are_groups.nd rfl (Or.inl rfl)) (pgs_cons (pg_name (i := 5) sc__law_are_groups.nd rfl (Or.inl rfl)) pgs_nil)))) (fun _ _ _ _ _ => pts_nil) (fun _ _ _ _ _ => (pe_and (pe_callB (r := rIsi K) (id := "isinstance") call_isi (by rfl) T.z_isinstance (by decide +kernel) (pa_cons (pv 5) (pa_cons (pe_bltn (v := .ty "tuple") (u := .type "tuple") (by rfl) T.z_tuple (by decide +kernel) rfl) pa_nil))) (pe_one (pe_cmpR op_le (pe_callB (r := rLenQ K) (id := "len") call_len_seq (by rfl) T.z_len (by decide +kernel) (pa_cons (pv 5) pa_nil)) (pe_op op_add (pv 8) pe_int) (nomark _)))))) pa_nil)))) (pss_one (ps_ret pe_bl)) pss_nil)
      (pss_cons (ps_set (i := 4) sc__law_are_groups.nd rfl (Or.inl rfl) (pe_lst pa_nil))
      (pss_cons (ps_for PassesOwn.never rfl (pi_tup (pv 2)) (pg_name (i := 5) sc__law_are_groups.nd rfl (Or.inl rfl))
      (pss_one (ps_expr (pe_bm PySem.F.plainAttrs_list PySem.F.slot_list_extend PySem.F.type_list_extend mt_extend (pv 4) (pa_cons (pe_callTy (r := rListQ K) (T := "list") call_list_of (by rfl) T.z_list (by decide +kernel) (pa_cons (pv 5) pa_nil)) pa_nil)))))
      (pss_cons (ps_if (pt_not (pt_val (pe_callB (r := rAll K) (id := "all") (cr_all rfl) (by rfl) T.z_all (by decide +kernel) (pa_cons (pe_lc (own := [("_law_slot", 9)]) (g := gName 9) (tt := tYes) rfl sc__law_are_groups.nd (pi_list (pv 4)) (blkOk_by (own := [("_law_slot", 9)]) (N := ["_law_above_here", "_law_lasts_here", "_law_told", "_law_wide", "_law_found", "_law_lot", "_law_kinds", "_law_at", "_law_number", "_law_slot", "_law_p"]) (sc := defScope s__law_are_groups) (by decide +kernel)) (fun _ _ _ _ _ => (pg_name (i := 9) sc__law_are_groups.nd rfl (Or.inl rfl))) (fun _ _ _ _ _ => pts_nil) (fun _ _ _ _ _ => (pe_and (pe_callB (r := rIsi K) (id := "isinstance") call_isi (by rfl) T.z_isinstance (by decide +kernel) (pa_cons (pv 9) (pa_cons (pe_bltn (v := .ty "int") (u := .type "int") (by rfl) T.z_int (by decide +kernel) rfl) pa_nil))) (pe_one (pe_not (pe_callB (r := rIsi K) (id := "isinstance") call_isi (by rfl) T.z_isinstance (by decide +kernel) (pa_cons (pv 9) (pa_cons (pe_bltn (v := .ty "bool") (u := .type "bool") (by rfl) T.z_bool (by decide +kernel) rfl) pa_nil)))))))) pa_nil)))) (pss_one (ps_ret pe_bl)) pss_nil)
      (pss_cons (ps_if (pt_cmpR (op_neD hr.units) (pe_callB (id := "sorted") cr_sortedI (by rfl) T.z_sorted (by decide +kernel) (pa_cons (pv 4) pa_nil)) (pe_listRg rfl (by rfl) T.z_list (prg_1 (by rfl) T.z_range (pe_callB (r := rLenQ K) (id := "len") call_len_seq (by rfl) T.z_len (by decide +kernel) (pa_cons (pv 1) pa_nil)))) (nomark _)) (pss_one (ps_ret pe_bl)) pss_nil)
      (pss_cons (ps_for PassesOwn.never rfl (pi_tup (pv 2)) (pg_name (i := 5) sc__law_are_groups.nd rfl (Or.inl rfl))
      (pss_cons (ps_set (i := 6) sc__law_are_groups.nd rfl (Or.inr rfl) (pe_callB (id := "sorted") cr_sortedI (by rfl) T.z_sorted (by decide +kernel) (pa_cons (pe_lc (own := [("_law_slot", 9)]) (g := gName 9) (tt := tYes) rfl sc__law_are_groups.nd (pi_tup (pv 5)) (blkOk_by (own := [("_law_slot", 9)]) (N := ["_law_above_here", "_law_lasts_here", "_law_told", "_law_wide", "_law_found", "_law_lot", "_law_kinds", "_law_at", "_law_number", "_law_slot", "_law_p"]) (sc := defScope s__law_are_groups) (by decide +kernel)) (fun _ _ _ _ _ => (pg_name (i := 9) sc__law_are_groups.nd rfl (Or.inl rfl))) (fun _ _ _ _ _ => pts_nil) (fun _ _ _ _ _ => (pe_ix (r := rIxL K) ix_list (pv 1) (pv 9) (fun _ _ => rfl)))) pa_nil)))
      (pss_one (ps_for PassesOwn.never rfl (pi_range1 rfl T.z_range (pa_cons (pe_callB (r := rLenQ K) (id := "len") call_len_seq (by rfl) T.z_len (by decide +kernel) (pa_cons (pv 6) pa_nil)) pa_nil)) (pg_name (i := 7) sc__law_are_groups.nd rfl (Or.inr rfl))
      (pss_one (ps_if (pt_val (pe_callB (r := rAny K) (id := "any") (cr_any rfl) (by rfl) T.z_any (by decide +kernel) (pa_cons (pe_lc (own := [("_law_p", 10)]) (g := gName 10) (tt := tYes) rfl sc__law_are_groups.nd (pi_list (pe_slice sl_list (pv 6) po_none (po_some (pv 7)))) (blkOk_by (own := [("_law_p", 10)]) (N := ["_law_above_here", "_law_lasts_here", "_law_told", "_law_wide", "_law_found", "_law_lot", "_law_kinds", "_law_at", "_law_number", "_law_slot", "_law_p"]) (sc := defScope s__law_are_groups) (by decide +kernel)) (fun _ _ _ _ _ => (pg_name (i := 10) sc__law_are_groups.nd rfl (Or.inl rfl))) (fun _ _ _ _ _ => pts_nil) (fun _ _ _ _ _ => (pe_ix (r := rIxL K) ix_list (pe_ix (r := rIxL K) ix_list (pv 0) (pe_ix (r := rIxL K) ix_list (pv 6) (pv 7) (fun _ _ => rfl)) (fun _ _ => rfl)) (pv 10) (fun _ _ => rfl)))) pa_nil))) (pss_one (ps_ret pe_bl)) pss_nil))))))
      (pss_one (ps_ret pe_bl))))))))), ?_⟩
    have ll := lasL_len D
    have wd := o.wd
    have wl := o.wl
    have gl := g.len
    obtain ⟨vs, Z, ht, hZ, zL, zq, zf⟩ := hL.par
    have zl := hZ.1
    have ty := ty_tup (K := K) ht
    have tt := tup_tup (K := K)
    have zs : ∀ (j : Nat) q, Z[j]? = some q → ∀ s ∈ q, s < D.length := fun j q e s hs => by
      have p := zq j q e
      have hs := p.mem_iff.mp hs
      by_cases hj : j < L.length
      · exact o.slots _ (getD_mem hj) s hs
      · rw [List.getD_eq_getElem?_getD, List.getElem?_eq_none (by omega)] at hs
        cases hs
    have zn : ∀ (j : Nat) q, Z[j]? = some q → q.length ≤ j + 1 := fun j q e => by
      rw [(zq j q e).length_eq]
      by_cases hj : j < L.length
      · exact o.few j _ (by rw [getD_some (List.getElem?_eq_getElem hj)]; exact List.getElem?_eq_getElem hj)
      · rw [List.getD_eq_getElem?_getD, List.getElem?_eq_none (by omega)]
        exact Nat.zero_le _
    have rp := range_perm g.part
    have fl : Z.flatten.length = D.length := by rw [zf.length_eq, rp.length_eq, List.length_range]
    have tf : ∀ i, (Z.take i).flatten.length ≤ D.length := fun i => by
      have e : Z.flatten = (Z.take i).flatten ++ (Z.drop i).flatten := by rw [← List.flatten_append, List.take_append_drop]
      rw [e, List.length_append] at fl
      omega
    tm_at "w"
    refine ⟨_, _, rfl, SqT.of ht, fun B nB => lc_enumTF (fun _ => some (V.bl true)) ht nB (by omega) ?_ ?_⟩
    · intro i x Z2 H2 N M hx s2 hZ2 kN kM
      obtain ⟨a, q, rfl, hq, ha⟩ := hZ.here hx
      have ha2 := s2 _ _ ha
      have ql := zn i q hq
      have ty2 := ty_tup (K := K) ha2
      tm_at "w"
      refine kN _ _ ?_ (Same.refl H2)
      show some (V.bl true) = some (V.bl (decide (((natsV q).length : Int) ≤ (i : Int) + 1)))
      rw [decide_eq_true (by rw [natsV_len]; omega)]
    · intro H2 s2 hB
      rw [all_true] at hB
      tm_at "w"
      refine ⟨_, _, rfl, SqL.of hB, ?_⟩
      rw [all_id]
      have est : L2.start ["_law_above_here", "_law_lasts_here", "_law_told", "_law_wide", "_law_found", "_law_lot", "_law_kinds", "_law_at", "_law_number", "_law_slot", "_law_p"] [V.ref f, V.ref l, V.ref t, V.int w] = ([some (.ref f), some (.ref l), some (.ref t), some (.int (w : Int)), none, none, none, none, none, none, none] : L2.St) := rfl
      rw [est]
      tm_at "w"
      intro e ne
      obtain ⟨H3, e3, s3, he3⟩ := new_hide (Same.new (o := .lst []) (Same.refl H2) ne)
      rw [e3]
      have ne0 : H e = none := Same.free s2 ne
      have s03 := Same.trans s2 s3
      have ht3 := s03 _ _ ht
      simp only [List.set_cons_zero, List.set_cons_succ]
      tm_at "w"
      refine ⟨⟨_, SqT.of ht3⟩, for_tup (K := K) (a := t) (xs := vs) (fun i σ H' => ∃ x5, σ = [some (.ref f), some (.ref l), some (.ref t), some (.int (w : Int)), some (.ref e), x5, none, none, none, none, none] ∧ Same H H' ∧ H' e = some (.lst (natsV (Z.take i).flatten))) ?_ ?_ ?_ ?_⟩
      · exact ⟨none, rfl, s03, he3⟩
      · rintro i σ H4 _ ⟨x5, rfl, s4, _⟩
        exact SqT.of (s4 _ _ ht)
      · rintro i x σ H4 hx ⟨x5, rfl, s4, he4⟩
        obtain ⟨a, q, rfl, hq, ha⟩ := hZ.here hx
        have ha4 := s4 _ _ ha
        tm_at "w"
        intro b nb
        obtain ⟨H5, e5, s5, hb5⟩ := new_hide (Same.new (o := .lst (natsV q)) (Same.refl H4) nb)
        rw [e5]
        have he5 := s5 _ _ he4
        have tk : (Z.take (i + 1)).flatten = (Z.take i).flatten ++ q := by
          rw [List.take_add_one, hq, List.flatten_append]
          show _ ++ (q ++ []) = _
          rw [List.append_nil]
        have l1 := tf (i + 1)
        rw [tk, List.length_append] at l1
        tm_at "w"
        refine ⟨e, b, _, _, rfl, rfl, he5, hb5, by rw [natsV_len, natsV_len]; exact Nat.le_of_lt (lt_line (by omega)), ?_⟩
        refine ⟨_, rfl, Same.mut (Same.trans s4 s5) ne0, ?_⟩
        rw [upd_same, tk]
        unfold natsV
        rw [List.map_append]
      · rintro σ H4 ⟨x5, rfl, s4, he4⟩
        rw [zl, List.take_length] at he4
        tm_at "w"
        refine ⟨⟨_, SqL.of he4⟩, fun B2 nB2 => lc_listF (fun _ => some (.bl true)) he4 nB2 (by rw [natsV_len]; omega) ?_ ?_⟩
        · intro i x H5 N M hx s5 kN kM
          obtain ⟨z, _, rfl, _⟩ := natsV_here hx
          tm_at "w"
          refine ⟨_, _, _, _, _, rfl, ClsV.ty _, ty_int _, int_int, ?_⟩
          tm_at "w"
          refine ⟨_, _, _, _, _, rfl, ClsV.ty _, ty_int _, int_bool, ?_⟩
          exact ⟨_, rfl, kN _ _ rfl (Same.refl H5)⟩
        · intro H5 s5 hB2
          rw [all_true] at hB2
          tm_at "w"
          refine ⟨_, _, rfl, SqL.of hB2, ?_⟩
          rw [all_id]
          tm_at "w"
          have he6 := s5 _ _ he4
          have s6 := Same.trans s4 s5
          refine ⟨e, (Z.flatten).map fun z : Nat => (z : Int), rfl, SqL.of (by rw [List.map_map]; exact he6), fun ns q1 perm pw nq => ?_⟩
          obtain ⟨ks, rfl, kp, kw⟩ := nats_perm perm pw
          have ek := sorted_slots (zf.trans rp) kp kw
          subst ek
          obtain ⟨H7, e7, s7, hq7⟩ := new_hide (Same.new (o := .lst (((List.range D.length).map fun z : Nat => (z : Int)).map V.int)) (Same.refl H5) nq)
          rw [e7]
          have hl7 := (Same.trans s6 s7) _ _ hl
          have bl : (natsV (lasL D)).length = D.length := by rw [natsV_len, ll]
          tm_at "w"
          intro q2 nq2
          rw [bl]
          have er : rgV 0 (D.length : Int) = ((List.range D.length).map fun z : Nat => (z : Int)).map V.int := by
            unfold rgV
            rw [List.map_map, show ((D.length : Int) - 0).toNat = D.length by omega]
            refine List.map_congr_left fun j _ => ?_
            show V.int (0 + (j : Int)) = V.int (j : Int)
            rw [Int.zero_add]
          rw [er]
          obtain ⟨H8, e8, s8, hq8⟩ := new_hide (Same.new (o := .lst (((List.range D.length).map fun z : Nat => (z : Int)).map V.int)) (Same.refl H7) nq2)
          rw [e8]
          have s08 := Same.trans (Same.trans s6 s7) s8
          have hl8 := s08 _ _ hl
          have hF8 := hF.same s08
          have ht8 := s08 _ _ ht
          refine ⟨_, _, .lst (SqL.of (s8 _ _ hq7)) (dp_ints _), .lst (SqL.of hq8) (dp_ints _), shaped_listI _, shaped_listI _, _, rfl, ?_⟩
          rw [refl_listI]
          refine iteEF rfl ?_
          tm_at "w"
          refine ⟨⟨_, SqT.of ht8⟩, for_tup (K := K) (a := t) (xs := vs) (fun i σ H' => ∃ x5 x6 x7, σ = [some (.ref f), some (.ref l), some (.ref t), some (.int (w : Int)), some (.ref e), x5, x6, x7, none, none, none] ∧ Same H H') ?_ ?_ ?_ ?_⟩
          · exact ⟨x5, none, none, rfl, s08⟩
          · rintro i σ H9 _ ⟨_, _, _, rfl, s9⟩
            exact SqT.of (s9 _ _ ht)
          · rintro i x σ H9 hx ⟨y5, y6, y7, rfl, s9⟩
            obtain ⟨a, q, rfl, hq, ha⟩ := hZ.here hx
            have ha9 := s9 _ _ ha
            have hl9 := s9 _ _ hl
            have ql := zn i q hq
            have iZ := (List.getElem?_eq_some_iff.mp hq).1
            tm_at "w"
            refine ⟨⟨_, SqT.of ha9⟩, fun B3 nB3 => lc_tupF (fun j => q[j]?.map fun s => V.int (lastD D s : Nat)) ha9 nB3 (by rw [natsV_len]; omega) ?_ ?_⟩
            · intro j x H10 N M hx s10 kN kM
              obtain ⟨s, hs, rfl, _⟩ := natsV_here hx
              have sD := zs i q hq s (List.mem_of_getElem? hs)
              have as := natsV_at (lasL_at sD)
              have hl10 := s10 _ _ hl9
              tm_at "w"
              exact kN _ _ (by rw [hs]; rfl) (Same.refl H10)
            · intro H10 s10 hB3
              rw [natsV_len, range_items] at hB3
              have e3 : q.map (fun s => V.int ((lastD D s : Nat) : Int)) = ((q.map (lastD D)).map fun z : Nat => (z : Int)).map V.int := by rw [List.map_map, List.map_map]; rfl
              rw [e3] at hB3
              have s10' := Same.trans s9 s10
              tm_at "w"
              refine ⟨B3, (q.map (lastD D)).map fun z : Nat => (z : Int), rfl, SqL.of hB3, fun ns q3 perm pw nq3 => ?_⟩
              obtain ⟨ks, rfl, kp, kw⟩ := nats_perm perm pw
              have apt := kinds_apt g o (zq i q hq) kp
              have kl : ks.length = q.length := by rw [kp.length_eq, List.length_map]
              have kin : ∀ y ∈ ks, y < P.length := fun y hy => by
                obtain ⟨s, hs, rfl⟩ := List.mem_map.mp (kp.mem_iff.mp hy)
                exact okg_last o (zs i q hq s hs)
              have e4 : (ks.map fun z : Nat => (z : Int)).map V.int = natsV ks := by rw [List.map_map]; rfl
              rw [e4]
              obtain ⟨H11, e11, s11, hq11⟩ := new_hide (Same.new (o := .lst (natsV ks)) (Same.refl H10) nq3)
              rw [e11]
              have s011 := Same.trans s10' s11
              have bk : (natsV ks).length = ks.length := natsV_len ks
              simp only [List.set_cons_zero, List.set_cons_succ]
              tm_at "w"
              refine for_range (lo := 0) (n := ((natsV ks).length : Int).toNat) (fun j σ H' => ∃ x7, σ = [some (.ref f), some (.ref l), some (.ref t), some (.int (w : Int)), some (.ref e), some (.ref a), some (.ref q3), x7, none, none, none] ∧ Same H11 H') ?_ ?_ ?_
              · exact ⟨_, rfl, Same.refl H11⟩
              · rintro j σ H12 hj ⟨x7, rfl, s12⟩
                rw [Int.zero_add]
                have hj : j < ks.length := by rw [natsV_len] at hj; omega
                have hq12 := s12 _ _ hq11
                tm_at "w"
                refine ⟨_, _, rfl, SqL.of hq12, fun p3 np3 => ?_⟩
                rw [take_list (by rw [natsV_len]; omega)]
                obtain ⟨H13, e13, s13, hp13⟩ := new_hide (Same.new (o := .lst ((natsV ks).take j)) (Same.refl H12) np3)
                rw [e13]
                refine ⟨p3, rfl, ⟨_, SqL.of hp13⟩, fun B4 nB4 => lc_listF (fun _ => some (.bl false)) hp13 nB4 (by rw [List.length_take]; omega) ?_ ?_⟩
                · intro c x H14 N M hx s14 kN kM
                  rw [List.getElem?_take] at hx
                  split at hx
                  · rename_i cj
                    obtain ⟨p, hp, rfl, _⟩ := natsV_here hx
                    have ej : ks[j]? = some ks[j] := List.getElem?_eq_getElem hj
                    have cl : c < ks.length := by omega
                    have ep : p = ks[c] := by
                      rw [List.getElem?_eq_getElem cl] at hp
                      exact (Option.some.inj hp).symm
                    have ap := List.pairwise_iff_getElem.mp apt c j cl hj cj
                    rw [← ep] at ap
                    have pl := kin p (by rw [ep]; exact List.getElem_mem _)
                    have yl := kin ks[j] (List.getElem_mem _)
                    have s014 := Same.trans (Same.trans (Same.trans s011 s12) s13) s14
                    obtain ⟨vs2, a2, g1, g2, g3⟩ := (hF.same s014).at (x := ks[j]) yl
                    have g4 := rowF_at (P := P) (x := ks[j]) (p := p) pl
                    rw [ap.2] at g4
                    have g5 := natsV_at ej
                    have hq14 := s14 _ _ (s13 _ _ hq12)
                    tm_at "w"
                    exact kN _ _ rfl (Same.refl H14)
                  · cases hx
                · intro H14 s14 hB4
                  rw [all_false] at hB4
                  tm_at "w"
                  refine ⟨_, _, rfl, SqL.of hB4, ?_⟩
                  rw [any_id]
                  tm_at "w"
                  exact Same.trans (Same.trans s12 s13) s14
              · rintro σ H12 ⟨x7, rfl, s12⟩
                tm_at "w"
                exact ⟨_, _, _, rfl, Same.trans s011 s12⟩
          · rintro σ H9 ⟨_, _, _, rfl, s9⟩
            tm_at "w"
            exact k H9 s9
/-! law -/
theorem run_top {P : List (List Nat)} {w : Nat} (c : Cov P w) (hR : RtP P) : ∀ x, x ≤ P.length → TopG P w x (runS P x false) (runS P x true)
  | 0, _ => TopG.nil P w
  | x + 1, h => (run_top c hR x (by omega)).put c hR (by omega) (run_ok P x)
/-- never more slots -/
theorem run_few {P : List (List Nat)} {w : Nat} (g : TopG P w P.length (runS P P.length false) (runS P P.length true)) : 2 * (runS P P.length true).length ≤ w * (w + 1) := by
  have o := run_ok P P.length
  have f := flat_le (runS P P.length false) 0 fun j lot e => by
    have := o.few j lot e
    omega
  have p := (range_perm g.part).length_eq
  rw [List.length_range] at p
  have l := g.len
  have m : (runS P P.length false).length * (2 * 0 + (runS P P.length false).length + 1) ≤ w * (w + 1) := Nat.mul_le_mul l (by omega)
  omega
def sp_law (K : PySem.W.Frag) : Sp := fun vs H Q _ => ∃ (a : Addr) (ns : List Int), vs = [.ref a] ∧ SqL K H a (ns.map V.int) ∧ ns.length ≤ 63 ∧ ∀ H', Q (.bl true) H'
theorem sc_law : FnScope ["_law_script", "_law_tape_here", "_law_wide", "_law_sort", "_law_many", "_law_above_here", "_law_told", "_law_lasts_here", "_law_rows"] ["_law_script"] (defScope s_law) := ⟨rfl, rfl, rfl, by decide +kernel, rfl, by decide +kernel, by decide +kernel⟩
theorem ok_law (T : Top K mg) : FnOk P w K mg base CX0 7 T.f_law T.fd_law ["_law_script"] (sp_law K) := by
  have G_Book___init__ := ok_Book___init__ (P := P) (w := w) (base := base) T
  have G__law_above := ok__law_above (P := P) (w := w) (base := base) T
  have G__law_are_groups := ok__law_are_groups (P := P) (w := w) (base := base) T
  have G__law_crossed := ok__law_crossed (P := P) (w := w) (base := base) T
  have G__law_in_rows := ok__law_in_rows (P := P) (w := w) (base := base) T
  have G__law_lasts := ok__law_lasts (P := P) (w := w) (base := base) T
  have G__law_pick := ok__law_pick (P := P) (w := w) (base := base) T
  have G__law_tape := ok__law_tape (P := P) (w := w) (base := base) T
  have G_groups := ok_groups (P := P) (w := w) (base := base) T
  have G_placed := ok_placed (P := P) (w := w) (base := base) T
  refine T.F_law.ok sc_law (fun vs H Q E h => ?_) (fun cdv A outer s H vs Q E hr h => ?_)
  · obtain ⟨a, ns, rfl, _⟩ := h
    rfl
  · obtain ⟨a, ns, rfl, hS, hlen, k⟩ := h
    refine ⟨_, (pss_cons (ps_set (i := 1) sc_law.nd rfl (Or.inl rfl) (pe_call G__law_tape (hr.mono (by decide)) (by rfl) T.g__law_tape T.F__law_tape.kp T.b__law_tape .nil pass0 (pa_cons (pv 0) pa_nil)))
      (pss_cons (ps_set (i := 2) sc_law.nd rfl (Or.inl rfl) (pe_op op_add pe_int (pe_call G__law_pick (hr.mono (by decide)) (by rfl) T.g__law_pick T.F__law_pick.kp T.b__law_pick .nil pass0 (pa_cons (pv 1) (pa_cons pe_int pa_nil)))))
      (pss_cons (ps_set (i := 3) sc_law.nd rfl (Or.inl rfl) (pe_call G__law_pick (hr.mono (by decide)) (by rfl) T.g__law_pick T.F__law_pick.kp T.b__law_pick .nil pass0 (pa_cons (pv 1) (pa_cons pe_int pa_nil))))
      (pss_cons (ps_set (i := 4) sc_law.nd rfl (Or.inl rfl) (pe_call G__law_pick (hr.mono (by decide)) (by rfl) T.g__law_pick T.F__law_pick.kp T.b__law_pick .nil pass0 (pa_cons (pv 1) (pa_cons pe_int pa_nil))))
      (C8.pss_cut (ps_if (pt_cmpR op_eq (pe_call G__law_pick (hr.mono (by decide)) (by rfl) T.g__law_pick T.F__law_pick.kp T.b__law_pick .nil pass0 (pa_cons (pv 1) (pa_cons pe_int pa_nil))) pe_int (nomark _)) (pss_one (ps_set (i := 4) sc_law.nd rfl (Or.inl rfl) pe_int)) pss_nil)
      (C8.pss_cut (ps_if (pt_cmpR op_eq (pv 3) pe_int (nomark _)) (pss_one (ps_set (i := 8) sc_law.nd rfl (Or.inl rfl) (pe_call G__law_in_rows (hr.mono (by decide)) (by rfl) T.g__law_in_rows T.F__law_in_rows.kp T.b__law_in_rows .nil pass0 (pa_cons (pv 1) (pa_cons (pv 2) (pa_cons (pv 4) pa_nil)))))) (pss_one (ps_set (i := 8) sc_law.nd rfl (Or.inl rfl) (pe_call G__law_crossed (hr.mono (by decide)) (by rfl) T.g__law_crossed T.F__law_crossed.kp T.b__law_crossed .nil pass0 (pa_cons (pv 1) (pa_cons (pv 2) (pa_cons (pv 4) pa_nil)))))))
      (pss_cons (ps_set (i := 5) sc_law.nd rfl (Or.inl rfl) (pe_call G__law_above (hr.mono (by decide)) (by rfl) T.g__law_above T.F__law_above.kp T.b__law_above .nil pass0 (pa_cons (pv 8) pa_nil)))
      (pss_cons (ps_set (i := 6) sc_law.nd rfl (Or.inl rfl) (pe_call G_placed hr (by rfl) T.g_placed T.F_placed.kp T.b_placed .nil pass0 (pa_cons (pe_make T.M_Book G_Book___init__ hr (by rfl) T.g_Book T.b_Book___init__ .nil pass0 (pa_cons (pv 8) pa_nil)) pa_nil)))
      (pss_cons (ps_if (PW.pt (pw_or (pt_not (pt_val (pe_callB (r := rIsi K) (id := "isinstance") call_isi (by rfl) T.z_isinstance (by decide +kernel) (pa_cons (pv 6) (pa_cons (pe_bltn (v := .ty "tuple") (u := .type "tuple") (by rfl) T.z_tuple (by decide +kernel) rfl) pa_nil))))) (pw_or1 (pt_cmpR op_ne (pe_callB (r := rLenQ K) (id := "len") call_len_seq (by rfl) T.z_len (by decide +kernel) (pa_cons (pv 6) pa_nil)) (pe_callB (r := rLenQ K) (id := "len") call_len_seq (by rfl) T.z_len (by decide +kernel) (pa_cons (pv 8) pa_nil)) (nomark _))))) (pss_one (ps_ret pe_bl)) pss_nil)
      (pss_cons (ps_set (i := 7) sc_law.nd rfl (Or.inl rfl) (pe_call G__law_lasts (hr.mono (by decide)) (by rfl) T.g__law_lasts T.F__law_lasts.kp T.b__law_lasts .nil pass0 (pa_cons (pv 5) (pa_cons (pv 6) pa_nil))))
      (pss_cons (ps_if (PW.pt (pw_or (pt_cmpR op_isN (pv 7) pe_non (nomark _)) (pw_or1 (pt_cmpR op_gt (pe_op op_mul pe_int (pe_callB (r := rLenQ K) (id := "len") call_len_seq (by rfl) T.z_len (by decide +kernel) (pa_cons (pv 7) pa_nil))) (pe_op op_mul (pv 2) (pe_op op_add (pv 2) pe_int)) (nomark _))))) (pss_one (ps_ret pe_bl)) pss_nil)
      (pss_one (ps_ret (pe_call G__law_are_groups (hr.mono (by decide)) (by rfl) T.g__law_are_groups T.F__law_are_groups.kp T.b__law_are_groups .nil pass0 (pa_cons (pv 5) (pa_cons (pv 7) (pa_cons (pe_call G_groups hr (by rfl) T.g_groups T.F_groups.kp T.b_groups .nil pass0 (pa_cons (pe_make T.M_Book G_Book___init__ hr (by rfl) T.g_Book T.b_Book___init__ .nil pass0 (pa_cons (pv 8) pa_nil)) pa_nil)) (pa_cons (pv 2) pa_nil)))))))))))))))))), ?_⟩
    tm_at "w"
    refine ⟨a, ns, rfl, hS, fun τ H1 _ s1 _ m1 => ?_⟩
    tm_at "w"
    refine ⟨τ, _, rfl, m1, by decide, by decide, fun r0 H2 m2 h0 h1 => ?_⟩
    tm_at "w"
    obtain ⟨w, hw⟩ : ∃ w : Nat, 1 + r0 = (w : Int) := ⟨(1 + r0).toNat, by omega⟩
    have hw2 : (fun i j : Int => V.int (i + j)) 1 r0 = V.int (w : Int) := by
      show V.int (1 + r0) = _
      rw [hw]
    rw [hw2]
    tm_at "w"
    refine ⟨τ, _, rfl, m2.now, by decide, by decide, fun r1 H3 m3 h2 h3 => ?_⟩
    tm_at "w"
    refine ⟨τ, _, rfl, m3.now, by decide, by decide, fun r2 H4 m4 h4 h5 => ?_⟩
    obtain ⟨r2, rfl⟩ : ∃ n : Nat, r2 = n := ⟨r2.toNat, by omega⟩
    tm_at "w"
    refine ⟨fun σ H' => ∃ n : Nat, σ = [some (.ref a), some (.ref τ.t), some (.int (w : Int)), some (.int r1), some (.int (n : Int)), none, none, none, none] ∧ Tape τ H' ∧ n ≤ 150, ?_, ?_⟩
    · tm_at "w"
      refine ⟨τ, _, rfl, m4.now, by decide, by decide, fun r3 H5 m5 h6 h7 => ?_⟩
      tm_at "w"
      refine iteI (fun z => ?_) (fun z => ?_)
      · tm_at "w"
        exact ⟨m5.now, by decide⟩
      · exact ⟨r2, rfl, m5.now, by omega⟩
    · rintro σ H5 ⟨n, rfl, m5, hn⟩
      refine ⟨fun σ H' => ∃ (ra : Addr) (P : List (List Nat)), σ = [some (.ref a), some (.ref τ.t), some (.int (w : Int)), some (.int r1), some (.int (n : Int)), none, none, none, some (.ref ra)] ∧ ParAt H' ra P ∧ OkP P ∧ Cov P w, ?_, ?_⟩
      · tm_at "w"
        refine iteI (fun z => ?_) (fun z => ?_)
        · tm_at "w"
          refine ⟨τ, w, n, rfl, m5, by omega, by omega, by omega, fun ra P H6 m6 hP ok hl cov => ?_⟩
          exact ⟨ra, P, rfl, hP, ok, cov⟩
        · tm_at "w"
          refine ⟨τ, w, n, rfl, m5, by omega, by omega, by omega, fun ra P H6 m6 hP ok hl cov => ?_⟩
          exact ⟨ra, P, rfl, hP, ok, cov⟩
      · rintro σ H6 ⟨ra, P, rfl, hP, ok, cov⟩
        have few := ok.few
        obtain ⟨vsP, hra, hPl⟩ := id hP
        have hPl := hPl.1
        tm_at "w"
        refine ⟨ra, P, rfl, hP, ok.rt, by omega, fun f H7 s7 fl => ?_⟩
        tm_at "w"
        refine mk_book (hP.tk (Same.tk s7)) ok fun b H8 mk _ => ?_
        tm_at "w"
        refine ⟨b, P, rfl, mk.here, few, fun t H9 s9 ht => ?_⟩
        have ty := ty_tup (K := K) ht
        have hra9 := s9 _ _ (mk.same _ _ (s7 _ _ hra))
        have tl : (((runT P P.length).map fun e => e.1).map V.int).length = P.length := by rw [List.length_map, List.length_map, runT_len]
        have tt := tup_tup (K := K)
        have g := run_top cov ok.rt P.length (Nat.le_refl _)
        have fw := run_few g
        have o := run_ok P P.length
        have wd := o.wd
        tm_at "w"
        refine iteEF ?_ ?_
        · rw [tl, hPl]
          simp
        tm_at "w"
        refine ⟨f, t, P, rfl, (fl.same mk.same).same s9, ht, few, fun l H10 s10 hl => ?_⟩
        have ll := lasL_len (runS P P.length true)
        tm_at "w"
        refine iteD (fun z => absurd z ?_) (fun _ => ?_)
        · rw [natsV_len, ll]
          have ew : ((w * (w + 1) : Nat) : Int) = (w : Int) * ((w : Int) + 1) := by rw [Int.natCast_mul]; rfl
          rw [← ew]
          omega
        tm_at "w"
        have hP10 := (((hP.tk (Same.tk s7)).tk (Same.tk mk.same)).tk (Same.tk s9)).tk (Same.tk s10)
        refine mk_book hP10 ok fun b2 H11 mk2 _ => ?_
        tm_at "w"
        refine ⟨b2, P, rfl, mk2.here, few, fun t2 H12 s12 ht2 => ?_⟩
        tm_at "w"
        exact ⟨f, l, t2, P, _, _, w, rfl, (((((fl.same mk.same).same s9).same s10).same mk2.same).same s12), s12 _ _ (mk2.same _ _ hl), ht2, g, o, few, fun H13 _ => k H13⟩
end
theorem all_mk {l : PySem.W.OpenLaw} {w : World} {K : PySem.W.Frag} {h : Heap} {mg : Str → Option Value} {fa : Addr} (X : K.In h) (G : h.Ns mainGlobals mg) (hfa : mg "law" = some (.ref fa))
    {t_MOST_PARENTS : Tok}
    {t_MOST_KINDS : Tok}
    {C_Groups : Addr}
    {C_Book : Addr}
    {od0 an0 : Option Addr} {sl0 : Array (Option Value)} {oc0 kV0 dc0 pm0 cd0 ct0 : Value} {f0 : Addr}
    {od1 an1 : Option Addr} {sl1 : Array (Option Value)} {oc1 kV1 dc1 pm1 cd1 ct1 : Value} {f1 : Addr}
    {od2 an2 : Option Addr} {sl2 : Array (Option Value)} {oc2 kV2 dc2 pm2 cd2 ct2 : Value} {f2 : Addr}
    {od3 an3 : Option Addr} {sl3 : Array (Option Value)} {oc3 kV3 dc3 pm3 cd3 ct3 : Value} {f3 : Addr}
    {od4 an4 : Option Addr} {sl4 : Array (Option Value)} {oc4 kV4 dc4 pm4 cd4 ct4 : Value} {f4 : Addr}
    {od5 an5 : Option Addr} {sl5 : Array (Option Value)} {oc5 kV5 dc5 pm5 cd5 ct5 : Value} {f5 : Addr}
    {od6 an6 : Option Addr} {sl6 : Array (Option Value)} {oc6 kV6 dc6 pm6 cd6 ct6 : Value} {f6 : Addr}
    {od7 an7 : Option Addr} {sl7 : Array (Option Value)} {oc7 kV7 dc7 pm7 cd7 ct7 : Value} {f7 : Addr}
    {od8 an8 : Option Addr} {sl8 : Array (Option Value)} {oc8 kV8 dc8 pm8 cd8 ct8 : Value} {f8 : Addr}
    {od9 an9 : Option Addr} {sl9 : Array (Option Value)} {oc9 kV9 dc9 pm9 cd9 ct9 : Value} {f9 : Addr}
    {od10 an10 : Option Addr} {sl10 : Array (Option Value)} {oc10 kV10 dc10 pm10 cd10 ct10 : Value} {f10 : Addr}
    {od11 an11 : Option Addr} {sl11 : Array (Option Value)} {oc11 kV11 dc11 pm11 cd11 ct11 : Value} {f11 : Addr}
    {od12 an12 : Option Addr} {sl12 : Array (Option Value)} {oc12 kV12 dc12 pm12 cd12 ct12 : Value} {f12 : Addr}
    {od13 an13 : Option Addr} {sl13 : Array (Option Value)} {oc13 kV13 dc13 pm13 cd13 ct13 : Value} {f13 : Addr}
    {od14 an14 : Option Addr} {sl14 : Array (Option Value)} {oc14 kV14 dc14 pm14 cd14 ct14 : Value} {f14 : Addr}
    {od15 an15 : Option Addr} {sl15 : Array (Option Value)} {oc15 kV15 dc15 pm15 cd15 ct15 : Value} {f15 : Addr}
    {od16 an16 : Option Addr} {sl16 : Array (Option Value)} {oc16 kV16 dc16 pm16 cd16 ct16 : Value} {f16 : Addr}
    {od17 an17 : Option Addr} {sl17 : Array (Option Value)} {oc17 kV17 dc17 pm17 cd17 ct17 : Value} {f17 : Addr}
    {od18 an18 : Option Addr} {sl18 : Array (Option Value)} {oc18 kV18 dc18 pm18 cd18 ct18 : Value} {f18 : Addr}
    {od19 an19 : Option Addr} {sl19 : Array (Option Value)} {oc19 kV19 dc19 pm19 cd19 ct19 : Value} {f19 : Addr}
    {od20 an20 : Option Addr} {sl20 : Array (Option Value)} {oc20 kV20 dc20 pm20 cd20 ct20 : Value} {f20 : Addr}
    {od21 an21 : Option Addr} {sl21 : Array (Option Value)} {oc21 kV21 dc21 pm21 cd21 ct21 : Value} {f21 : Addr}
    {od22 an22 : Option Addr} {sl22 : Array (Option Value)} {oc22 kV22 dc22 pm22 cd22 ct22 : Value} {f22 : Addr}
    {od23 an23 : Option Addr} {sl23 : Array (Option Value)} {oc23 kV23 dc23 pm23 cd23 ct23 : Value} {f23 : Addr}
    {od24 an24 : Option Addr} {sl24 : Array (Option Value)} {oc24 kV24 dc24 pm24 cd24 ct24 : Value} {f24 : Addr}
    {od25 an25 : Option Addr} {sl25 : Array (Option Value)} {oc25 kV25 dc25 pm25 cd25 ct25 : Value} {f25 : Addr}
    (gc_Book : PySem.W.nsIn K mainGlobals "Book" = some (some (.ref C_Book))) (pg_Book : PySem.W.plainGet K C_Book Str.empty = true) (hd_Book : PySem.W.hasDictIn K C_Book = true) (po_Book : PySem.W.plainOver K C_Book = true) (sa_Book : PySem.W.findIn K (.ref C_Book) "__setattr__" = some (some (.builtin "object.__setattr__"))) (mk_Book : PySem.W.makesIn K C_Book = true) (kc_Book : PySem.W.keepIn K (.ref C_Book) = true) (ta_Book : PySem.W.findIn K (.ref C_Book) "__class__" = some (some (.builtin "object.__class__"))) (tn_Book : PySem.W.specialIn K (.builtin "object.__class__") "__get__" = some (some (.builtin "getset_descriptor.__get__"))) (tt_Book : PySem.W.takesIn K (.builtin "object.__class__") = some true) (tm_Book : PySem.W.mroIn K C_Book (.type "object") = some true)
    (n_Book_parents : PySem.W.findIn K (.ref C_Book) "parents" = some none)
    (n_Book_bits : PySem.W.findIn K (.ref C_Book) "bits" = some none)
    (gc_Groups : PySem.W.nsIn K mainGlobals "Groups" = some (some (.ref C_Groups))) (pg_Groups : PySem.W.plainGet K C_Groups Str.empty = true) (hd_Groups : PySem.W.hasDictIn K C_Groups = true) (po_Groups : PySem.W.plainOver K C_Groups = true) (sa_Groups : PySem.W.findIn K (.ref C_Groups) "__setattr__" = some (some (.builtin "object.__setattr__"))) (mk_Groups : PySem.W.makesIn K C_Groups = true) (kc_Groups : PySem.W.keepIn K (.ref C_Groups) = true) (ta_Groups : PySem.W.findIn K (.ref C_Groups) "__class__" = some (some (.builtin "object.__class__"))) (tn_Groups : PySem.W.specialIn K (.builtin "object.__class__") "__get__" = some (some (.builtin "getset_descriptor.__get__"))) (tt_Groups : PySem.W.takesIn K (.builtin "object.__class__") = some true) (tm_Groups : PySem.W.mroIn K C_Groups (.type "object") = some true)
    (n_Groups_lots : PySem.W.findIn K (.ref C_Groups) "lots" = some none)
    (n_Groups_held : PySem.W.findIn K (.ref C_Groups) "held" = some none)
    (k_MOST_KINDS : PySem.W.nsIn K mainGlobals "MOST_KINDS" = some (some (.int 400 t_MOST_KINDS)))
    (k_MOST_PARENTS : PySem.W.nsIn K mainGlobals "MOST_PARENTS" = some (some (.int 6 t_MOST_PARENTS)))
    (a0 : PySem.W.nsIn K mainGlobals "is_integer" = some (some (.ref f0)))
    (l0 : K.lookup f0 = some ⟨oc0, od0, .func (PySem.W.fnOf "is_integer" "is_integer" (defArgs s_is_integer) (defBody s_is_integer) (defScope s_is_integer) .none kV0 dc0 pm0 an0 cd0 ct0), sl0⟩) (c0 : PySem.W.codeIn K cd0 "is_integer" = true) (k0 : PySem.W.keepIn K (.ref f0) = true)
    (a1 : PySem.W.nsIn K mainGlobals "is_within" = some (some (.ref f1)))
    (l1 : K.lookup f1 = some ⟨oc1, od1, .func (PySem.W.fnOf "is_within" "is_within" (defArgs s_is_within) (defBody s_is_within) (defScope s_is_within) .none kV1 dc1 pm1 an1 cd1 ct1), sl1⟩) (c1 : PySem.W.codeIn K cd1 "is_within" = true) (k1 : PySem.W.keepIn K (.ref f1) = true)
    (a2 : PySem.W.nsIn K mainGlobals "is_lot" = some (some (.ref f2)))
    (l2 : K.lookup f2 = some ⟨oc2, od2, .func (PySem.W.fnOf "is_lot" "is_lot" (defArgs s_is_lot) (defBody s_is_lot) (defScope s_is_lot) .none kV2 dc2 pm2 an2 cd2 ct2), sl2⟩) (c2 : PySem.W.codeIn K cd2 "is_lot" = true) (k2 : PySem.W.keepIn K (.ref f2) = true)
    (a3 : PySem.W.nsIn K mainGlobals "are_parents" = some (some (.ref f3)))
    (l3 : K.lookup f3 = some ⟨oc3, od3, .func (PySem.W.fnOf "are_parents" "are_parents" (defArgs s_are_parents) (defBody s_are_parents) (defScope s_are_parents) .none kV3 dc3 pm3 an3 cd3 ct3), sl3⟩) (c3 : PySem.W.codeIn K cd3 "are_parents" = true) (k3 : PySem.W.keepIn K (.ref f3) = true)
    (a4 : PySem.W.findIn K (.ref C_Book) "fill" = some (some (.ref f4))) (i4 : PySem.W.isFn K (.ref f4) = true)
    (l4 : K.lookup f4 = some ⟨oc4, od4, .func (PySem.W.fnOf "fill" "Book.fill" (defArgs s_Book_fill) (defBody s_Book_fill) (defScope s_Book_fill) .none kV4 dc4 pm4 an4 cd4 ct4), sl4⟩) (c4 : PySem.W.codeIn K cd4 "Book.fill" = true) (k4 : PySem.W.keepIn K (.ref f4) = true)
    (a5 : PySem.W.findIn K (.ref C_Book) "__init__" = some (some (.ref f5))) (i5 : PySem.W.isFn K (.ref f5) = true)
    (l5 : K.lookup f5 = some ⟨oc5, od5, .func (PySem.W.fnOf "__init__" "Book.__init__" (defArgs s_Book___init__) (defBody s_Book___init__) (defScope s_Book___init__) .none kV5 dc5 pm5 an5 cd5 ct5), sl5⟩) (c5 : PySem.W.codeIn K cd5 "Book.__init__" = true) (k5 : PySem.W.keepIn K (.ref f5) = true)
    (a6 : PySem.W.nsIn K mainGlobals "many_of" = some (some (.ref f6)))
    (l6 : K.lookup f6 = some ⟨oc6, od6, .func (PySem.W.fnOf "many_of" "many_of" (defArgs s_many_of) (defBody s_many_of) (defScope s_many_of) .none kV6 dc6 pm6 an6 cd6 ct6), sl6⟩) (c6 : PySem.W.codeIn K cd6 "many_of" = true) (k6 : PySem.W.keepIn K (.ref f6) = true)
    (a7 : PySem.W.nsIn K mainGlobals "is_one" = some (some (.ref f7)))
    (l7 : K.lookup f7 = some ⟨oc7, od7, .func (PySem.W.fnOf "is_one" "is_one" (defArgs s_is_one) (defBody s_is_one) (defScope s_is_one) .none kV7 dc7 pm7 an7 cd7 ct7), sl7⟩) (c7 : PySem.W.codeIn K cd7 "is_one" = true) (k7 : PySem.W.keepIn K (.ref f7) = true)
    (a8 : PySem.W.findIn K (.ref C_Groups) "__init__" = some (some (.ref f8))) (i8 : PySem.W.isFn K (.ref f8) = true)
    (l8 : K.lookup f8 = some ⟨oc8, od8, .func (PySem.W.fnOf "__init__" "Groups.__init__" (defArgs s_Groups___init__) (defBody s_Groups___init__) (defScope s_Groups___init__) .none kV8 dc8 pm8 an8 cd8 ct8), sl8⟩) (c8 : PySem.W.codeIn K cd8 "Groups.__init__" = true) (k8 : PySem.W.keepIn K (.ref f8) = true)
    (a9 : PySem.W.findIn K (.ref C_Groups) "fitting" = some (some (.ref f9))) (i9 : PySem.W.isFn K (.ref f9) = true)
    (l9 : K.lookup f9 = some ⟨oc9, od9, .func (PySem.W.fnOf "fitting" "Groups.fitting" (defArgs s_Groups_fitting) (defBody s_Groups_fitting) (defScope s_Groups_fitting) .none kV9 dc9 pm9 an9 cd9 ct9), sl9⟩) (c9 : PySem.W.codeIn K cd9 "Groups.fitting" = true) (k9 : PySem.W.keepIn K (.ref f9) = true)
    (a10 : PySem.W.findIn K (.ref C_Groups) "taken" = some (some (.ref f10))) (i10 : PySem.W.isFn K (.ref f10) = true)
    (l10 : K.lookup f10 = some ⟨oc10, od10, .func (PySem.W.fnOf "taken" "Groups.taken" (defArgs s_Groups_taken) (defBody s_Groups_taken) (defScope s_Groups_taken) .none kV10 dc10 pm10 an10 cd10 ct10), sl10⟩) (c10 : PySem.W.codeIn K cd10 "Groups.taken" = true) (k10 : PySem.W.keepIn K (.ref f10) = true)
    (a11 : PySem.W.findIn K (.ref C_Groups) "put" = some (some (.ref f11))) (i11 : PySem.W.isFn K (.ref f11) = true)
    (l11 : K.lookup f11 = some ⟨oc11, od11, .func (PySem.W.fnOf "put" "Groups.put" (defArgs s_Groups_put) (defBody s_Groups_put) (defScope s_Groups_put) .none kV11 dc11 pm11 an11 cd11 ct11), sl11⟩) (c11 : PySem.W.codeIn K cd11 "Groups.put" = true) (k11 : PySem.W.keepIn K (.ref f11) = true)
    (a12 : PySem.W.findIn K (.ref C_Groups) "told" = some (some (.ref f12))) (i12 : PySem.W.isFn K (.ref f12) = true)
    (l12 : K.lookup f12 = some ⟨oc12, od12, .func (PySem.W.fnOf "told" "Groups.told" (defArgs s_Groups_told) (defBody s_Groups_told) (defScope s_Groups_told) .none kV12 dc12 pm12 an12 cd12 ct12), sl12⟩) (c12 : PySem.W.codeIn K cd12 "Groups.told" = true) (k12 : PySem.W.keepIn K (.ref f12) = true)
    (a13 : PySem.W.nsIn K mainGlobals "entries_of" = some (some (.ref f13)))
    (l13 : K.lookup f13 = some ⟨oc13, od13, .func (PySem.W.fnOf "entries_of" "entries_of" (defArgs s_entries_of) (defBody s_entries_of) (defScope s_entries_of) .none kV13 dc13 pm13 an13 cd13 ct13), sl13⟩) (c13 : PySem.W.codeIn K cd13 "entries_of" = true) (k13 : PySem.W.keepIn K (.ref f13) = true)
    (a14 : PySem.W.nsIn K mainGlobals "gone_through" = some (some (.ref f14)))
    (l14 : K.lookup f14 = some ⟨oc14, od14, .func (PySem.W.fnOf "gone_through" "gone_through" (defArgs s_gone_through) (defBody s_gone_through) (defScope s_gone_through) .none kV14 dc14 pm14 an14 cd14 ct14), sl14⟩) (c14 : PySem.W.codeIn K cd14 "gone_through" = true) (k14 : PySem.W.keepIn K (.ref f14) = true)
    (a15 : PySem.W.nsIn K mainGlobals "placed" = some (some (.ref f15)))
    (l15 : K.lookup f15 = some ⟨oc15, od15, .func (PySem.W.fnOf "placed" "placed" (defArgs s_placed) (defBody s_placed) (defScope s_placed) .none kV15 dc15 pm15 an15 cd15 ct15), sl15⟩) (c15 : PySem.W.codeIn K cd15 "placed" = true) (k15 : PySem.W.keepIn K (.ref f15) = true)
    (a16 : PySem.W.nsIn K mainGlobals "groups" = some (some (.ref f16)))
    (l16 : K.lookup f16 = some ⟨oc16, od16, .func (PySem.W.fnOf "groups" "groups" (defArgs s_groups) (defBody s_groups) (defScope s_groups) .none kV16 dc16 pm16 an16 cd16 ct16), sl16⟩) (c16 : PySem.W.codeIn K cd16 "groups" = true) (k16 : PySem.W.keepIn K (.ref f16) = true)
    (a17 : PySem.W.nsIn K mainGlobals "_law_tape" = some (some (.ref f17)))
    (l17 : K.lookup f17 = some ⟨oc17, od17, .func (PySem.W.fnOf "_law_tape" "_law_tape" (defArgs s__law_tape) (defBody s__law_tape) (defScope s__law_tape) .none kV17 dc17 pm17 an17 cd17 ct17), sl17⟩) (c17 : PySem.W.codeIn K cd17 "_law_tape" = true) (k17 : PySem.W.keepIn K (.ref f17) = true)
    (a18 : PySem.W.nsIn K mainGlobals "_law_pick" = some (some (.ref f18)))
    (l18 : K.lookup f18 = some ⟨oc18, od18, .func (PySem.W.fnOf "_law_pick" "_law_pick" (defArgs s__law_pick) (defBody s__law_pick) (defScope s__law_pick) .none kV18 dc18 pm18 an18 cd18 ct18), sl18⟩) (c18 : PySem.W.codeIn K cd18 "_law_pick" = true) (k18 : PySem.W.keepIn K (.ref f18) = true)
    (a19 : PySem.W.nsIn K mainGlobals "_law_above" = some (some (.ref f19)))
    (l19 : K.lookup f19 = some ⟨oc19, od19, .func (PySem.W.fnOf "_law_above" "_law_above" (defArgs s__law_above) (defBody s__law_above) (defScope s__law_above) .none kV19 dc19 pm19 an19 cd19 ct19), sl19⟩) (c19 : PySem.W.codeIn K cd19 "_law_above" = true) (k19 : PySem.W.keepIn K (.ref f19) = true)
    (a20 : PySem.W.nsIn K mainGlobals "_law_line_parents" = some (some (.ref f20)))
    (l20 : K.lookup f20 = some ⟨oc20, od20, .func (PySem.W.fnOf "_law_line_parents" "_law_line_parents" (defArgs s__law_line_parents) (defBody s__law_line_parents) (defScope s__law_line_parents) .none kV20 dc20 pm20 an20 cd20 ct20), sl20⟩) (c20 : PySem.W.codeIn K cd20 "_law_line_parents" = true) (k20 : PySem.W.keepIn K (.ref f20) = true)
    (a21 : PySem.W.nsIn K mainGlobals "_law_in_rows" = some (some (.ref f21)))
    (l21 : K.lookup f21 = some ⟨oc21, od21, .func (PySem.W.fnOf "_law_in_rows" "_law_in_rows" (defArgs s__law_in_rows) (defBody s__law_in_rows) (defScope s__law_in_rows) .none kV21 dc21 pm21 an21 cd21 ct21), sl21⟩) (c21 : PySem.W.codeIn K cd21 "_law_in_rows" = true) (k21 : PySem.W.keepIn K (.ref f21) = true)
    (a22 : PySem.W.nsIn K mainGlobals "_law_crossed" = some (some (.ref f22)))
    (l22 : K.lookup f22 = some ⟨oc22, od22, .func (PySem.W.fnOf "_law_crossed" "_law_crossed" (defArgs s__law_crossed) (defBody s__law_crossed) (defScope s__law_crossed) .none kV22 dc22 pm22 an22 cd22 ct22), sl22⟩) (c22 : PySem.W.codeIn K cd22 "_law_crossed" = true) (k22 : PySem.W.keepIn K (.ref f22) = true)
    (a23 : PySem.W.nsIn K mainGlobals "_law_lasts" = some (some (.ref f23)))
    (l23 : K.lookup f23 = some ⟨oc23, od23, .func (PySem.W.fnOf "_law_lasts" "_law_lasts" (defArgs s__law_lasts) (defBody s__law_lasts) (defScope s__law_lasts) .none kV23 dc23 pm23 an23 cd23 ct23), sl23⟩) (c23 : PySem.W.codeIn K cd23 "_law_lasts" = true) (k23 : PySem.W.keepIn K (.ref f23) = true)
    (a24 : PySem.W.nsIn K mainGlobals "_law_are_groups" = some (some (.ref f24)))
    (l24 : K.lookup f24 = some ⟨oc24, od24, .func (PySem.W.fnOf "_law_are_groups" "_law_are_groups" (defArgs s__law_are_groups) (defBody s__law_are_groups) (defScope s__law_are_groups) .none kV24 dc24 pm24 an24 cd24 ct24), sl24⟩) (c24 : PySem.W.codeIn K cd24 "_law_are_groups" = true) (k24 : PySem.W.keepIn K (.ref f24) = true)
    (a25 : PySem.W.nsIn K mainGlobals "law" = some (some (.ref f25)))
    (l25 : K.lookup f25 = some ⟨oc25, od25, .func (PySem.W.fnOf "law" "law" (defArgs s_law) (defBody s_law) (defScope s_law) .none kV25 dc25 pm25 an25 cd25 ct25), sl25⟩) (c25 : PySem.W.codeIn K cd25 "law" = true) (k25 : PySem.W.keepIn K (.ref f25) = true)
    (z_all : PySem.W.nsIn K mainGlobals "all" = some none)
    (z_any : PySem.W.nsIn K mainGlobals "any" = some none)
    (z_bool : PySem.W.nsIn K mainGlobals "bool" = some none)
    (z_enumerate : PySem.W.nsIn K mainGlobals "enumerate" = some none)
    (z_int : PySem.W.nsIn K mainGlobals "int" = some none)
    (z_isinstance : PySem.W.nsIn K mainGlobals "isinstance" = some none)
    (z_len : PySem.W.nsIn K mainGlobals "len" = some none)
    (z_list : PySem.W.nsIn K mainGlobals "list" = some none)
    (z_max : PySem.W.nsIn K mainGlobals "max" = some none)
    (z_min : PySem.W.nsIn K mainGlobals "min" = some none)
    (z_range : PySem.W.nsIn K mainGlobals "range" = some none)
    (z_set : PySem.W.nsIn K mainGlobals "set" = some none)
    (z_sorted : PySem.W.nsIn K mainGlobals "sorted" = some none)
    (z_tuple : PySem.W.nsIn K mainGlobals "tuple" = some none)
    (z_zip : PySem.W.nsIn K mainGlobals "zip" = some none) :
    ∃ fd : FuncData, (∀ (s : Shared) (v : Value), BindsTo s fd ⟨[v], []⟩ [("_law_script", v)]) ∧ ∀ base : Heap, K.In base → base.Ns mainGlobals mg → FnOk l.prog w K mg base CX0 7 fa fd ["_law_script"] (sp_law K) := by
  have e := hfa.symm.trans (PySem.W.mg_of X G a25)
  cases e
  exact ⟨_, fun s v => .of_eq rfl, fun base _ _ => ok_law {
    C_Book := C_Book, g_Book := PySem.W.mg_of X G gc_Book, cl_Book := ⟨pg_Book, hd_Book, po_Book, sa_Book⟩, ty_Book := ⟨ta_Book, tn_Book, tt_Book, tm_Book⟩,
    n_Book_parents := n_Book_parents,
    n_Book_bits := n_Book_bits,
    C_Groups := C_Groups, g_Groups := PySem.W.mg_of X G gc_Groups, cl_Groups := ⟨pg_Groups, hd_Groups, po_Groups, sa_Groups⟩, ty_Groups := ⟨ta_Groups, tn_Groups, tt_Groups, tm_Groups⟩,
    n_Groups_lots := n_Groups_lots,
    n_Groups_held := n_Groups_held,
    c_MOST_KINDS := ⟨_, PySem.W.mg_of X G k_MOST_KINDS⟩,
    c_MOST_PARENTS := ⟨_, PySem.W.mg_of X G k_MOST_PARENTS⟩,
    f_is_integer := f0, fd_is_integer := _, F_is_integer := (fun_mk (st := s_is_integer) l0 c0 k0), b_is_integer := (fun_mk (st := s_is_integer) l0 c0 k0).binds (ps := ["thing"]) (fun _ _ _ _ _ _ us hl => match us, hl with | [_], _ => rfl), g_is_integer := PySem.W.mg_of X G a0,
    f_is_within := f1, fd_is_within := _, F_is_within := (fun_mk (st := s_is_within) l1 c1 k1), b_is_within := (fun_mk (st := s_is_within) l1 c1 k1).binds (ps := ["thing", "least", "most"]) (fun _ _ _ _ _ _ us hl => match us, hl with | [_, _, _], _ => rfl), g_is_within := PySem.W.mg_of X G a1,
    f_is_lot := f2, fd_is_lot := _, F_is_lot := (fun_mk (st := s_is_lot) l2 c2 k2), b_is_lot := (fun_mk (st := s_is_lot) l2 c2 k2).binds (ps := ["thing", "many"]) (fun _ _ _ _ _ _ us hl => match us, hl with | [_, _], _ => rfl), g_is_lot := PySem.W.mg_of X G a2,
    f_are_parents := f3, fd_are_parents := _, F_are_parents := (fun_mk (st := s_are_parents) l3 c3 k3), b_are_parents := (fun_mk (st := s_are_parents) l3 c3 k3).binds (ps := ["thing", "number"]) (fun _ _ _ _ _ _ us hl => match us, hl with | [_, _], _ => rfl), g_are_parents := PySem.W.mg_of X G a3,
    f_Book_fill := f4, fd_Book_fill := _, F_Book_fill := (fun_mk (st := s_Book_fill) l4 c4 k4), b_Book_fill := (fun_mk (st := s_Book_fill) l4 c4 k4).binds (ps := ["self", "parents"]) (fun _ _ _ _ _ _ us hl => match us, hl with | [_, _], _ => rfl), m_Book_fill := ⟨a4, i4, k4⟩,
    f_Book___init__ := f5, fd_Book___init__ := _, F_Book___init__ := (fun_mk (st := s_Book___init__) l5 c5 k5), b_Book___init__ := (fun_mk (st := s_Book___init__) l5 c5 k5).binds (ps := ["self", "parents"]) (fun _ _ _ _ _ _ us hl => match us, hl with | [_, _], _ => rfl), m_Book___init__ := ⟨a5, i5, k5⟩, M_Book := ⟨mk_Book, a5, i5, kc_Book⟩,
    f_many_of := f6, fd_many_of := _, F_many_of := (fun_mk (st := s_many_of) l6 c6 k6), b_many_of := (fun_mk (st := s_many_of) l6 c6 k6).binds (ps := ["book"]) (fun _ _ _ _ _ _ us hl => match us, hl with | [_], _ => rfl), g_many_of := PySem.W.mg_of X G a6,
    f_is_one := f7, fd_is_one := _, F_is_one := (fun_mk (st := s_is_one) l7 c7 k7), b_is_one := (fun_mk (st := s_is_one) l7 c7 k7).binds (ps := ["book", "x", "p"]) (fun _ _ _ _ _ _ us hl => match us, hl with | [_, _, _], _ => rfl), g_is_one := PySem.W.mg_of X G a7,
    f_Groups___init__ := f8, fd_Groups___init__ := _, F_Groups___init__ := (fun_mk (st := s_Groups___init__) l8 c8 k8), b_Groups___init__ := (fun_mk (st := s_Groups___init__) l8 c8 k8).binds (ps := ["self"]) (fun _ _ _ _ _ _ us hl => match us, hl with | [_], _ => rfl), m_Groups___init__ := ⟨a8, i8, k8⟩, M_Groups := ⟨mk_Groups, a8, i8, kc_Groups⟩,
    f_Groups_fitting := f9, fd_Groups_fitting := _, F_Groups_fitting := (fun_mk (st := s_Groups_fitting) l9 c9 k9), b_Groups_fitting := (fun_mk (st := s_Groups_fitting) l9 c9 k9).binds (ps := ["self", "book", "lot", "x"]) (fun _ _ _ _ _ _ us hl => match us, hl with | [_, _, _, _], _ => rfl), m_Groups_fitting := ⟨a9, i9, k9⟩,
    f_Groups_taken := f10, fd_Groups_taken := _, F_Groups_taken := (fun_mk (st := s_Groups_taken) l10 c10 k10), b_Groups_taken := (fun_mk (st := s_Groups_taken) l10 c10 k10).binds (ps := ["self", "book", "x"]) (fun _ _ _ _ _ _ us hl => match us, hl with | [_, _, _], _ => rfl), m_Groups_taken := ⟨a10, i10, k10⟩,
    f_Groups_put := f11, fd_Groups_put := _, F_Groups_put := (fun_mk (st := s_Groups_put) l11 c11 k11), b_Groups_put := (fun_mk (st := s_Groups_put) l11 c11 k11).binds (ps := ["self", "book", "x"]) (fun _ _ _ _ _ _ us hl => match us, hl with | [_, _, _], _ => rfl), m_Groups_put := ⟨a11, i11, k11⟩,
    f_Groups_told := f12, fd_Groups_told := _, F_Groups_told := (fun_mk (st := s_Groups_told) l12 c12 k12), b_Groups_told := (fun_mk (st := s_Groups_told) l12 c12 k12).binds (ps := ["self"]) (fun _ _ _ _ _ _ us hl => match us, hl with | [_], _ => rfl), m_Groups_told := ⟨a12, i12, k12⟩,
    f_entries_of := f13, fd_entries_of := _, F_entries_of := (fun_mk (st := s_entries_of) l13 c13 k13), b_entries_of := (fun_mk (st := s_entries_of) l13 c13 k13).binds (ps := ["book", "held", "x"]) (fun _ _ _ _ _ _ us hl => match us, hl with | [_, _, _], _ => rfl), g_entries_of := PySem.W.mg_of X G a13,
    f_gone_through := f14, fd_gone_through := _, F_gone_through := (fun_mk (st := s_gone_through) l14 c14 k14), b_gone_through := (fun_mk (st := s_gone_through) l14 c14 k14).binds (ps := ["book"]) (fun _ _ _ _ _ _ us hl => match us, hl with | [_], _ => rfl), g_gone_through := PySem.W.mg_of X G a14,
    f_placed := f15, fd_placed := _, F_placed := (fun_mk (st := s_placed) l15 c15 k15), b_placed := (fun_mk (st := s_placed) l15 c15 k15).binds (ps := ["book"]) (fun _ _ _ _ _ _ us hl => match us, hl with | [_], _ => rfl), g_placed := PySem.W.mg_of X G a15,
    f_groups := f16, fd_groups := _, F_groups := (fun_mk (st := s_groups) l16 c16 k16), b_groups := (fun_mk (st := s_groups) l16 c16 k16).binds (ps := ["book"]) (fun _ _ _ _ _ _ us hl => match us, hl with | [_], _ => rfl), g_groups := PySem.W.mg_of X G a16,
    f__law_tape := f17, fd__law_tape := _, F__law_tape := (fun_mk (st := s__law_tape) l17 c17 k17), b__law_tape := (fun_mk (st := s__law_tape) l17 c17 k17).binds (ps := ["_law_script"]) (fun _ _ _ _ _ _ us hl => match us, hl with | [_], _ => rfl), g__law_tape := PySem.W.mg_of X G a17,
    f__law_pick := f18, fd__law_pick := _, F__law_pick := (fun_mk (st := s__law_pick) l18 c18 k18), b__law_pick := (fun_mk (st := s__law_pick) l18 c18 k18).binds (ps := ["_law_tape_here", "_law_many"]) (fun _ _ _ _ _ _ us hl => match us, hl with | [_, _], _ => rfl), g__law_pick := PySem.W.mg_of X G a18,
    f__law_above := f19, fd__law_above := _, F__law_above := (fun_mk (st := s__law_above) l19 c19 k19), b__law_above := (fun_mk (st := s__law_above) l19 c19 k19).binds (ps := ["_law_rows"]) (fun _ _ _ _ _ _ us hl => match us, hl with | [_], _ => rfl), g__law_above := PySem.W.mg_of X G a19,
    f__law_line_parents := f20, fd__law_line_parents := _, F__law_line_parents := (fun_mk (st := s__law_line_parents) l20 c20 k20), b__law_line_parents := (fun_mk (st := s__law_line_parents) l20 c20 k20).binds (ps := ["_law_tape_here", "_law_number", "_law_last", "_law_kind"]) (fun _ _ _ _ _ _ us hl => match us, hl with | [_, _, _, _], _ => rfl), g__law_line_parents := PySem.W.mg_of X G a20,
    f__law_in_rows := f21, fd__law_in_rows := _, F__law_in_rows := (fun_mk (st := s__law_in_rows) l21 c21 k21), b__law_in_rows := (fun_mk (st := s__law_in_rows) l21 c21 k21).binds (ps := ["_law_tape_here", "_law_wide", "_law_many"]) (fun _ _ _ _ _ _ us hl => match us, hl with | [_, _, _], _ => rfl), g__law_in_rows := PySem.W.mg_of X G a21,
    f__law_crossed := f22, fd__law_crossed := _, F__law_crossed := (fun_mk (st := s__law_crossed) l22 c22 k22), b__law_crossed := (fun_mk (st := s__law_crossed) l22 c22 k22).binds (ps := ["_law_tape_here", "_law_wide", "_law_many"]) (fun _ _ _ _ _ _ us hl => match us, hl with | [_, _, _], _ => rfl), g__law_crossed := PySem.W.mg_of X G a22,
    f__law_lasts := f23, fd__law_lasts := _, F__law_lasts := (fun_mk (st := s__law_lasts) l23 c23 k23), b__law_lasts := (fun_mk (st := s__law_lasts) l23 c23 k23).binds (ps := ["_law_above_here", "_law_slots"]) (fun _ _ _ _ _ _ us hl => match us, hl with | [_, _], _ => rfl), g__law_lasts := PySem.W.mg_of X G a23,
    f__law_are_groups := f24, fd__law_are_groups := _, F__law_are_groups := (fun_mk (st := s__law_are_groups) l24 c24 k24), b__law_are_groups := (fun_mk (st := s__law_are_groups) l24 c24 k24).binds (ps := ["_law_above_here", "_law_lasts_here", "_law_told", "_law_wide"]) (fun _ _ _ _ _ _ us hl => match us, hl with | [_, _, _, _], _ => rfl), g__law_are_groups := PySem.W.mg_of X G a24,
    f_law := _, fd_law := _, F_law := (fun_mk (st := s_law) l25 c25 k25), b_law := (fun_mk (st := s_law) l25 c25 k25).binds (ps := ["_law_script"]) (fun _ _ _ _ _ _ us hl => match us, hl with | [_], _ => rfl), g_law := PySem.W.mg_of X G a25,
    z_all := PySem.W.mg_none_of X G z_all,
    z_any := PySem.W.mg_none_of X G z_any,
    z_bool := PySem.W.mg_none_of X G z_bool,
    z_enumerate := PySem.W.mg_none_of X G z_enumerate,
    z_int := PySem.W.mg_none_of X G z_int,
    z_isinstance := PySem.W.mg_none_of X G z_isinstance,
    z_len := PySem.W.mg_none_of X G z_len,
    z_list := PySem.W.mg_none_of X G z_list,
    z_max := PySem.W.mg_none_of X G z_max,
    z_min := PySem.W.mg_none_of X G z_min,
    z_range := PySem.W.mg_none_of X G z_range,
    z_set := PySem.W.mg_none_of X G z_set,
    z_sorted := PySem.W.mg_none_of X G z_sorted,
    z_tuple := PySem.W.mg_none_of X G z_tuple,
    z_zip := PySem.W.mg_none_of X G z_zip }⟩
end Lk
open PySem PySem.W PyProof.Rows
set_option maxHeartbeats 0 in
theorem PySem.Challenge.cw_latekinds_k23_whole_never_more_slots_tha_holds : PySem.Challenge.rw_latekinds_k23_whole_never_more_slots_tha.Holds := by
  w_on; o_law; k_head; (case hw => w_witness2)
  k_fill
  refine L2.walk_of (l := PySem.Challenge.rw_latekinds_k23_whole_never_more_slots_tha) (n := 63) (k := 7) (x := "_law_script") (CX := fun _ => L2.CX0) (sp := fun w => Lk.sp_law _) rfl (by decide) rfl ⟨rfl, by decide, by decide⟩ (fun w h Y => PySem.W.kIn_of Y) ?F (fun _ _ a ns hl _ hS => ⟨a, ns, rfl, hS, hl, fun _ => rfl⟩) (fun _ _ _ _ _ h => h)
  case F =>
    intro w mg fa h KX G hmg
    refine' Lk.all_mk KX G hmg ?gc_Book ?pg_Book ?hd_Book ?po_Book ?sa_Book ?mk_Book ?kc_Book ?ta_Book ?tn_Book ?tt_Book ?tm_Book ?n_Book_parents ?n_Book_bits ?gc_Groups ?pg_Groups ?hd_Groups ?po_Groups ?sa_Groups ?mk_Groups ?kc_Groups ?ta_Groups ?tn_Groups ?tt_Groups ?tm_Groups ?n_Groups_lots ?n_Groups_held ?k_MOST_KINDS ?k_MOST_PARENTS ?a0 ?l0 ?c0 ?k0 ?a1 ?l1 ?c1 ?k1 ?a2 ?l2 ?c2 ?k2 ?a3 ?l3 ?c3 ?k3 ?a4 ?i4 ?l4 ?c4 ?k4 ?a5 ?i5 ?l5 ?c5 ?k5 ?a6 ?l6 ?c6 ?k6 ?a7 ?l7 ?c7 ?k7 ?a8 ?i8 ?l8 ?c8 ?k8 ?a9 ?i9 ?l9 ?c9 ?k9 ?a10 ?i10 ?l10 ?c10 ?k10 ?a11 ?i11 ?l11 ?c11 ?k11 ?a12 ?i12 ?l12 ?c12 ?k12 ?a13 ?l13 ?c13 ?k13 ?a14 ?l14 ?c14 ?k14 ?a15 ?l15 ?c15 ?k15 ?a16 ?l16 ?c16 ?k16 ?a17 ?l17 ?c17 ?k17 ?a18 ?l18 ?c18 ?k18 ?a19 ?l19 ?c19 ?k19 ?a20 ?l20 ?c20 ?k20 ?a21 ?l21 ?c21 ?k21 ?a22 ?l22 ?c22 ?k22 ?a23 ?l23 ?c23 ?k23 ?a24 ?l24 ?c24 ?k24 ?a25 ?l25 ?c25 ?k25 ?z_all ?z_any ?z_bool ?z_enumerate ?z_int ?z_isinstance ?z_len ?z_list ?z_max ?z_min ?z_range ?z_set ?z_sorted ?z_tuple ?z_zip
    (case gc_Book => k_is)
    (case pg_Book => k_is)
    (case hd_Book => k_is)
    (case po_Book => k_is)
    (case sa_Book => k_is)
    (case mk_Book => k_is)
    (case kc_Book => k_is)
    (case ta_Book => k_is)
    (case tn_Book => k_is)
    (case tt_Book => k_is)
    (case tm_Book => k_is)
    (case n_Book_parents => k_is)
    (case n_Book_bits => k_is)
    (case gc_Groups => k_is)
    (case pg_Groups => k_is)
    (case hd_Groups => k_is)
    (case po_Groups => k_is)
    (case sa_Groups => k_is)
    (case mk_Groups => k_is)
    (case kc_Groups => k_is)
    (case ta_Groups => k_is)
    (case tn_Groups => k_is)
    (case tt_Groups => k_is)
    (case tm_Groups => k_is)
    (case n_Groups_lots => k_is)
    (case n_Groups_held => k_is)
    (case a0 => k_is)
    (case l0 => k_is)
    (case c0 => k_is)
    (case k0 => k_is)
    (case a1 => k_is)
    (case l1 => k_is)
    (case c1 => k_is)
    (case k1 => k_is)
    (case a2 => k_is)
    (case l2 => k_is)
    (case c2 => k_is)
    (case k2 => k_is)
    (case a3 => k_is)
    (case l3 => k_is)
    (case c3 => k_is)
    (case k3 => k_is)
    (case a4 => k_is)
    (case i4 => k_is)
    (case l4 => k_is)
    (case c4 => k_is)
    (case k4 => k_is)
    (case a5 => k_is)
    (case i5 => k_is)
    (case l5 => k_is)
    (case c5 => k_is)
    (case k5 => k_is)
    (case a6 => k_is)
    (case l6 => k_is)
    (case c6 => k_is)
    (case k6 => k_is)
    (case a7 => k_is)
    (case l7 => k_is)
    (case c7 => k_is)
    (case k7 => k_is)
    (case a8 => k_is)
    (case i8 => k_is)
    (case l8 => k_is)
    (case c8 => k_is)
    (case k8 => k_is)
    (case a9 => k_is)
    (case i9 => k_is)
    (case l9 => k_is)
    (case c9 => k_is)
    (case k9 => k_is)
    (case a10 => k_is)
    (case i10 => k_is)
    (case l10 => k_is)
    (case c10 => k_is)
    (case k10 => k_is)
    (case a11 => k_is)
    (case i11 => k_is)
    (case l11 => k_is)
    (case c11 => k_is)
    (case k11 => k_is)
    (case a12 => k_is)
    (case i12 => k_is)
    (case l12 => k_is)
    (case c12 => k_is)
    (case k12 => k_is)
    (case a13 => k_is)
    (case l13 => k_is)
    (case c13 => k_is)
    (case k13 => k_is)
    (case a14 => k_is)
    (case l14 => k_is)
    (case c14 => k_is)
    (case k14 => k_is)
    (case a15 => k_is)
    (case l15 => k_is)
    (case c15 => k_is)
    (case k15 => k_is)
    (case a16 => k_is)
    (case l16 => k_is)
    (case c16 => k_is)
    (case k16 => k_is)
    (case a17 => k_is)
    (case l17 => k_is)
    (case c17 => k_is)
    (case k17 => k_is)
    (case a18 => k_is)
    (case l18 => k_is)
    (case c18 => k_is)
    (case k18 => k_is)
    (case a19 => k_is)
    (case l19 => k_is)
    (case c19 => k_is)
    (case k19 => k_is)
    (case a20 => k_is)
    (case l20 => k_is)
    (case c20 => k_is)
    (case k20 => k_is)
    (case a21 => k_is)
    (case l21 => k_is)
    (case c21 => k_is)
    (case k21 => k_is)
    (case a22 => k_is)
    (case l22 => k_is)
    (case c22 => k_is)
    (case k22 => k_is)
    (case a23 => k_is)
    (case l23 => k_is)
    (case c23 => k_is)
    (case k23 => k_is)
    (case a24 => k_is)
    (case l24 => k_is)
    (case c24 => k_is)
    (case k24 => k_is)
    (case a25 => k_is)
    (case l25 => k_is)
    (case c25 => k_is)
    (case k25 => k_is)
    (case k_MOST_KINDS => k_is)
    (case k_MOST_PARENTS => k_is)
    (case z_all => k_is)
    (case z_any => k_is)
    (case z_bool => k_is)
    (case z_enumerate => k_is)
    (case z_int => k_is)
    (case z_isinstance => k_is)
    (case z_len => k_is)
    (case z_list => k_is)
    (case z_max => k_is)
    (case z_min => k_is)
    (case z_range => k_is)
    (case z_set => k_is)
    (case z_sorted => k_is)
    (case z_tuple => k_is)
    (case z_zip => k_is)
#print axioms PySem.Challenge.cw_latekinds_k23_whole_never_more_slots_tha_holds
