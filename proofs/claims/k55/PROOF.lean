import PyProof.Rows.All
import Wide.All
import OpenK.AllK
import Wide.FinOn
import HandS.ForMost
import HandS.IsInst
import HandS.Rev
import HandS.Wide
import HandS.SortInts
import HandS.TupAny
import HandS.Codes
import HandS.SetFor
import HandS.Strs
import HandS.Zip
import HandS.Conv
import HandS.OwnEq
import HandS.TupMul
import HandS.Text
import HandS.WideBits
import KE.BitLaws
import KE.KDictList
import KE.GoesEnum
import KE.SortData
import HandS.Style
import PySem.Challenge.RW_latekinds_k55_whole_clauses_of_great_boo
set_option Elab.async false
set_option linter.all false
set_option maxRecDepth 100000
set_option maxHeartbeats 4000000
namespace Lk
open PySem L2
def top (i : Nat) : Stmt := PySem.Challenge.pw_latekinds_k55_whole_clauses_of_great_boo.main.body.getD i (.Pass ⟨0, 0, 0, 0⟩)
abbrev s_is_integer : Stmt := top 7
abbrev s_is_within : Stmt := top 8
abbrev s_is_pair : Stmt := top 9
abbrev s_is_lot : Stmt := top 10
abbrev s_are_parents : Stmt := top 15
abbrev s_Book_fill : Stmt := inClass (top 16) 1
abbrev s_Book___init__ : Stmt := inClass (top 16) 0
abbrev s_grown : Stmt := top 17
abbrev s_many_of : Stmt := top 18
abbrev s_is_one : Stmt := top 19
abbrev s_check_kind_of : Stmt := top 11
abbrev s_check_kind : Stmt := top 20
abbrev s_loaded : Stmt := top 21
abbrev s_are_clauses : Stmt := top 24
abbrev s_check_clauses : Stmt := top 25
abbrev s_first_place : Stmt := top 26
abbrev s_label_at : Stmt := top 27
abbrev s_label_of : Stmt := top 28
abbrev s_never_met : Stmt := top 29
abbrev s_places_of : Stmt := top 30
abbrev s_parting_of : Stmt := top 31
abbrev s_parting : Stmt := top 32
abbrev s_alike : Stmt := top 33
abbrev s__law_hand : Stmt := top 35
abbrev s__law_draw : Stmt := top 36
abbrev s__law_is : Stmt := top 37
abbrev s__law_flag : Stmt := top 38
abbrev s__law_parents : Stmt := top 39
abbrev s__law_sheet : Stmt := top 40
abbrev s__law_clauses : Stmt := top 41
abbrev s__law_places : Stmt := top 42
abbrev s__law_parting : Stmt := top 43
abbrev s_law : Stmt := top 44
/-! ### what is kept -/
theorem Same.at {H H' : Hp} {a : Addr} {o : HO} (e : Same H H') (h : H a = some o) : H' a = some o := e a o h
theorem Same.new {H H' : Hp} {p : Addr} {o : HO} (e : Same H H') (h : H' p = none) : Same H (upd H' p o) := fun b u z => by
  have z2 := e b u z
  rw [upd_ne (ne_of_none z2 h)]
  exact z2
theorem Same.mut {H H' : Hp} {p : Addr} {o : HO} (e : Same H H') (h : H p = none) : Same H (upd H' p o) := fun b u z => by
  rw [upd_ne (ne_of_none z h)]
  exact e b u z
theorem upd_at {H : Hp} {p a : Addr} {o u : HO} (n : a ≠ p) (h : H a = some u) : upd H p o a = some u := by
  rw [upd_ne n]
  exact h
theorem upd_at' {H : Hp} {p a : Addr} {o u : HO} (h : H a = some u) (n : a ≠ p) : upd H p o a = some u := upd_at n h
/-- the readings of len, list(..), tuple(..) by name -/
def rLenQ (K : PySem.W.Frag) : List V → Hp → VK → Prop := fun xs H Q => ∃ p ys, xs = [.ref p] ∧ (SqL K H p ys ∨ SqT K H p ys) ∧ Q (.int ys.length) H
def rListQ (K : PySem.W.Frag) : List V → Hp → VK → Prop := fun xs H Q => ∃ p ys, xs = [.ref p] ∧ (SqL K H p ys ∨ SqT K H p ys) ∧ ∀ l, H l = none → Q (.ref l) (upd H l (.lst ys))
def rTupQ (K : PySem.W.Frag) : List V → Hp → VK → Prop := fun xs H Q => ∃ p ys, xs = [.ref p] ∧ ((SqL K H p ys ∧ ∀ l, H l = none → Q (.ref l) (upd H l (.tup ys))) ∨ (SqT K H p ys ∧ Q (.ref p) H))
/-- new in H -/
structure Nw (H : Hp) (p : Addr) : Prop where
  e : H p = none
theorem Nw.ne {H : Hp} {a p : Addr} {o : HO} (w : Nw H p) (h : H a = some o) : a ≠ p := ne_of_none h w.e
/-- a tape: its address, its list's, the list -/
structure Tp where
  t : Addr
  l : Addr
  ns : List Int
structure Tape (τ : Tp) (H : Hp) : Prop where
  list : H τ.l = some (.lst (τ.ns.map V.int))
  ne : τ.l ≠ τ.t
  here : ∃ i c s n : Int, H τ.t = some (.lst [.ref τ.l, .int i, .int c, .int s, .int n]) ∧ 0 ≤ i
/-- all but the tape is kept, the tape is a tape -/
structure Mv (τ : Tp) (H0 H : Hp) : Prop where
  was : Tape τ H0
  keep : ∀ a o, a ≠ τ.t → H0 a = some o → H a = some o
  now : Tape τ H
structure Mz (τ : Tp) (H0 H : Hp) : Prop where
  mv : Mv τ H0 H
section
variable {τ : Tp} {H0 H H1 H2 : Hp} {p a : Addr} {o : HO}
theorem Tape.mv (h : Tape τ H) : Mv τ H H := ⟨h, fun _ _ _ e => e, h⟩
theorem Tape.mz (h : Tape τ H) : Mz τ H H := ⟨h.mv⟩
theorem Mv.self (m : Mv τ H0 H) : Mv τ H H := m.now.mv
theorem Mv.trans (m : Mv τ H0 H1) (k : Mv τ H1 H2) : Mv τ H0 H2 := ⟨m.was, fun a o n e => k.keep a o n (m.keep a o n e), k.now⟩
theorem Mz.trans (m : Mz τ H0 H1) (k : Mv τ H1 H2) : Mz τ H0 H2 := ⟨m.mv.trans k⟩
theorem Tape.new (h : Tape τ H) (n : H p = none) : Tape τ (upd H p o) := by
  obtain ⟨h1, h2, i, c, s, k, h3, h4⟩ := h
  exact ⟨upd_at (ne_of_none h1 n) h1, h2, i, c, s, k, upd_at (ne_of_none h3 n) h3, h4⟩
theorem Mv.new (m : Mv τ H0 H) (n : H p = none) : Mv τ H0 (upd H p o) := ⟨m.was, fun a u e z => upd_at (ne_of_none (m.keep a u e z) n) (m.keep a u e z), m.now.new n⟩
theorem Mz.new (m : Mz τ H0 H) (n : H p = none) : Mz τ H0 (upd H p o) := ⟨m.mv.new n⟩
theorem Mv.neF (m : Mv τ H0 H) (n : H0 p = none) : p ≠ τ.t := fun e => by
  obtain ⟨_, _, _, _, h, _⟩ := m.was.here
  rw [e, h] at n
  cases n
theorem Mv.neN (m : Mv τ H0 H) (n : H p = none) : p ≠ τ.t := fun e => by
  obtain ⟨_, _, _, _, h, _⟩ := m.now.here
  rw [e, h] at n
  cases n
theorem Mv.mut (m : Mv τ H0 H) (n : H0 p = none) : Mv τ H0 (upd H p o) := by
  obtain ⟨i, c, s, k, h3, h4⟩ := m.now.here
  have n1 : τ.l ≠ p := ne_of_none m.was.list n
  exact ⟨m.was, fun a u e z => upd_at (ne_of_none z n) (m.keep a u e z), upd_at n1 m.now.list, m.now.ne, i, c, s, k, upd_at (m.neF n).symm h3, h4⟩
theorem Mz.mut (m : Mz τ H0 H) (n : H0 p = none) : Mz τ H0 (upd H p o) := ⟨m.mv.mut n⟩
theorem Mv.free (m : Mv τ H0 H) (n : H p = none) : H0 p = none := by
  cases e : H0 p with
  | none => rfl
  | some o =>
    by_cases z : p = τ.t
    · obtain ⟨_, _, _, _, h, _⟩ := m.now.here
      rw [z, h] at n
      cases n
    · rw [m.keep p o z e] at n
      cases n
theorem Mz.free (m : Mz τ H0 H) (n : H p = none) : H0 p = none := m.mv.free n
theorem Mv.at (m : Mv τ H0 H) (n : a ≠ τ.t) (h : H0 a = some o) : H a = some o := m.keep a o n h
theorem Mv.at' (m : Mv τ H0 H) (h : H0 a = some o) (n : a ≠ τ.t) : H a = some o := m.keep a o n h
theorem Mz.at (m : Mz τ H0 H) (n : a ≠ τ.t) (h : H0 a = some o) : H a = some o := m.mv.keep a o n h
theorem Mv.neT {xs : List V} (m : Mv τ H0 H) (h : H a = some (.tup xs)) : a ≠ τ.t := fun e => by
  obtain ⟨_, _, _, _, z, _⟩ := m.now.here
  rw [e, z] at h
  cases h
theorem Mv.neT0 {xs : List V} (m : Mv τ H0 H) (h : H0 a = some (.tup xs)) : a ≠ τ.t := m.was.mv.neT h
theorem Mv.atT {xs : List V} (m : Mv τ H0 H) (h : H0 a = some (.tup xs)) : H a = some (.tup xs) := m.keep a _ (m.neT0 h) h
theorem Tape.same (h : Tape τ H) (s : Same H H1) : Tape τ H1 := by
  obtain ⟨h1, h2, i, c, s', k, h3, h4⟩ := h
  exact ⟨s _ _ h1, h2, i, c, s', k, s _ _ h3, h4⟩
theorem Mv.same (m : Mv τ H0 H) (s : Same H H1) : Mv τ H0 H1 := by
  obtain ⟨h1, h2, i, c, s', k, h3, h4⟩ := m.now
  exact ⟨m.was, fun a o e z => s a o (m.keep a o e z), s _ _ h1, h2, i, c, s', k, s _ _ h3, h4⟩
theorem Mz.same (m : Mz τ H0 H) (s : Same H H1) : Mz τ H0 H1 := ⟨m.mv.same s⟩
end
theorem iteD {c A B : Prop} [Decidable c] (h1 : c → A) (h2 : ¬ c → B) : if decide c = true then A else B := by
  by_cases h : c
  · rw [decide_eq_true h]
    exact iteT (h1 h)
  · rw [decide_eq_false h]
    exact iteF (h2 h)
theorem iteDY {c A B : Prop} [Decidable c] (h : c) (h1 : A) : if decide c = true then A else B := by
  rw [decide_eq_true h]
  exact iteT h1
theorem iteDN {c A B : Prop} [Decidable c] (h : ¬ c) (h1 : B) : if decide c = true then A else B := by
  rw [decide_eq_false h]
  exact iteF h1
theorem iteET {b : Bool} {A B : Prop} (h : b = true) (k : A) : if b = true then A else B := by
  rw [h]
  exact iteT k
theorem iteEF {b : Bool} {A B : Prop} (h : b = false) (k : B) : if b = true then A else B := by
  rw [h]
  exact iteF k
theorem iteB {b : Bool} {A B : Prop} (h1 : b = true → A) (h2 : b = false → B) : if b = true then A else B := by
  cases b with
  | true => exact iteT (h1 rfl)
  | false => exact iteF (h2 rfl)
theorem fmod_in {x m : Int} (h : 0 < m) : 0 ≤ x.fmod m ∧ x.fmod m < m := by
  rw [Int.fmod_eq_emod_of_nonneg x (Int.le_of_lt h)]
  exact ⟨Int.emod_nonneg x (by omega), Int.emod_lt_of_pos x h⟩
theorem Mv.put {τ : Tp} {H0 H : Hp} (m : Mv τ H0 H) {xs : List V} {i c s n : Int} (e : xs = [.ref τ.l, .int i, .int c, .int s, .int n]) (h : 0 ≤ i) : Mv τ H0 (upd H τ.t (.lst xs)) := by
  subst e
  exact ⟨m.was, fun a o k z => upd_at k (m.keep a o k z), upd_at m.now.ne m.now.list, m.now.ne, i, c, s, n, upd_same, h⟩
theorem le_lineB {n : Nat} (h : Nat.ble n 100000 = true) : n ≤ sizeLine := Nat.le_trans (Nat.le_of_ble_eq_true h) (by decide)
theorem fmod64 {x m : Int} (h : 0 < m) (h2 : m ≤ 2 ^ 64) : -(2 ^ 64) < x.fmod m ∧ x.fmod m < 2 ^ 64 := by
  have q := fmod_in (x := x) h
  omega
theorem at_ints {ns : List Int} {i : Int} (h0 : 0 ≤ i) (h : i < ((ns.map V.int).length : Int)) : ∃ v : Int, atI (ns.map V.int) i = some (.int v) := by
  rw [List.length_map] at h
  have hj : i.toNat < ns.length := by omega
  refine ⟨ns[i.toNat], at_of (j := i.toNat) (by omega) ?_⟩
  rw [List.getElem?_map, List.getElem?_eq_getElem hj]
  rfl
theorem dec_int {a b : Int} : decide (V.int a = V.int b) = decide (a = b) := by
  by_cases h : a = b
  · rw [decide_eq_true h, h, decide_eq_true rfl]
  · rw [decide_eq_false h, decide_eq_false fun e => h (V.int.inj e)]
theorem dec_nat {a b : Nat} : decide (V.int (a : Int) = V.int (b : Int)) = decide (a = b) := by
  rw [dec_int]
  exact decide_eq_decide.mpr Int.ofNat_inj
theorem iteI {a b : Int} {A B : Prop} (h1 : a = b → A) (h2 : ¬ a = b → B) : if decide (V.int a = V.int b) = true then A else B := by
  rw [dec_int]
  exact iteD h1 h2
/-! ### kinds of things -/
def isIntB : V → Bool
  | .int _ => true
  | _ => false
def withinB (v : V) (lo hi : Int) : Bool := match v with
  | .int i => decide (lo ≤ i) && decide (i ≤ hi)
  | _ => false
structure IntK (K : PySem.W.Frag) (H : Hp) (v : V) : Prop where
  ex : ∃ (t : Value) (bi bb : Bool), TyX K H v t ∧ PySem.W.kitOne K t (.type "int") = some bi ∧ PySem.W.kitOne K t (.type "bool") = some bb ∧ (bi && !bb) = isIntB v
section
variable {K : PySem.W.Frag} {H : Hp}
theorem IntK.int (i : Int) : IntK K H (.int i) := ⟨_, true, false, .base (.int i), kit_ty (by decide +kernel), kit_ty (by decide +kernel), rfl⟩
theorem IntK.bl (b : Bool) : IntK K H (.bl b) := ⟨_, true, true, .base (.bl b), kit_ty (by decide +kernel), kit_ty (by decide +kernel), rfl⟩
theorem IntK.non : IntK K H .non := ⟨_, false, false, .base .non, kit_ty (by decide +kernel), kit_ty (by decide +kernel), rfl⟩
theorem IntK.str (s : Str) : IntK K H (.str s) := ⟨_, false, false, .base (.str s), kit_ty (by decide +kernel), kit_ty (by decide +kernel), rfl⟩
theorem IntK.tup {a : Addr} {xs : List V} (h : H a = some (.tup xs)) : IntK K H (.ref a) := ⟨_, false, false, .base (.tup h), kit_ty (by decide +kernel), kit_ty (by decide +kernel), rfl⟩
theorem IntK.lst {a : Addr} {xs : List V} (h : H a = some (.lst xs)) : IntK K H (.ref a) := ⟨_, false, false, .base (.lst h), kit_ty (by decide +kernel), kit_ty (by decide +kernel), rfl⟩
theorem IntK.dK {a : Addr} {xs : List (Key × V)} (h : H a = some (.dK xs)) : IntK K H (.ref a) := ⟨_, false, false, .base (.dK h), kit_ty (by decide +kernel), kit_ty (by decide +kernel), rfl⟩
theorem ty_tup {a : Addr} {xs : List V} (h : H a = some (.tup xs)) : TyX K H (.ref a) (.type "tuple") := .base (.tup h)
theorem ty_int (i : Int) : TyX K H (.int i) (.type "int") := .base (.int i)
theorem ty_bl (b : Bool) : TyX K H (.bl b) (.type "bool") := .base (.bl b)
theorem tup_tup : PySem.W.kitOne K (.type "tuple") (.type "tuple") = some true := kit_ty (by decide +kernel)
theorem int_tup : PySem.W.kitOne K (.type "int") (.type "tuple") = some false := kit_ty (by decide +kernel)
theorem int_int : PySem.W.kitOne K (.type "int") (.type "int") = some true := kit_ty (by decide +kernel)
theorem int_bool : PySem.W.kitOne K (.type "int") (.type "bool") = some false := kit_ty (by decide +kernel)
theorem bool_bool : PySem.W.kitOne K (.type "bool") (.type "bool") = some true := kit_ty (by decide +kernel)
end
/-- tuples stay -/
def TK (H H' : Hp) : Prop := ∀ a xs, H a = some (.tup xs) → H' a = some (.tup xs)
theorem Same.tk {H H' : Hp} (s : Same H H') : TK H H' := fun a _ h => s a _ h
theorem Mv.tk {τ : Tp} {H H' : Hp} (m : Mv τ H H') : TK H H' := fun a _ h => m.keep a _ (m.neT0 h) h
theorem TK.trans {H H1 H2 : Hp} (a : TK H H1) (b : TK H1 H2) : TK H H2 := fun x xs h => b x xs (a x xs h)
theorem TK.mut {H : Hp} {p : Addr} {o : HO} {ys : List V} (h : H p = some (.lst ys)) : TK H (upd H p o) := fun a xs e => upd_at (ne_of e h (by intro z; cases z)) e
theorem TK.new {H : Hp} {p : Addr} {o : HO} (h : H p = none) : TK H (upd H p o) := fun a xs e => upd_at (ne_of_none e h) e
/-! ### len(set(a tuple of whole numbers)); list(reversed(a list)) -/
section
open PySem.Spec PyProof.Rows
variable {X : Cx}
def tLenSetU (K : PySem.W.Frag) (ta : TE) : TE := fun σ H Q => ta σ H fun x H1 => ∃ (l : Addr) (ns : List Int), x = .ref l ∧ SqT K H1 l (ns.map V.int) ∧ ns.length ≤ 4000 ∧ ∀ ks : List Int, ks.Nodup → (∀ k, k ∈ ks ↔ k ∈ ns) → Q (.int (ks.length : Nat)) H1
theorem pe_lenSetU {a : Expr} {ta : TE} {p p2 q pos : Pos} (hg : Gl X "len") (hm : X.mg "len" = none) (hg2 : Gl X "set") (hm2 : X.mg "set" = none) (ha : PE X a ta) (calm : X.calm = true := by rfl)
    (na : starEach [a] X.env = (false, eval a X.env) :: starEach [] X.env := by rfl) : PE X (.Call (.Name "len" p) [.Call (.Name "set" p2) [a] [] q] [] pos) (tLenSetU X.K ta) := by
  constructor
  intro pins s σ H Q I h
  refine Call_ (ld_blt I hg hm boot_len (PyProof.Rows.callWith_builtin1 (PyProof.Rows.args_cons ?_ rfl) rfl rfl))
  refine Call_ (ld_blt I hg2 hm2 PyProof.Rows.boot_set (PyProof.Rows.callWith_type1 (PyProof.Rows.args_cons (thn (ha.run pins s σ H _ I h) fun v s1 ⟨x, H1, I1, r1, q1⟩ => PyProof.Rows.args_nil ?_) na) na rfl))
  obtain ⟨l, ns, ex, hq, hl, done⟩ := q1
  subst ex
  obtain rfl : v = Value.ref l := r1
  obtain ⟨its, rv, pt, hz⟩ := I1.tuple hq
  have hi : PyProof.Rows.IntsAre its.toArray.toList ns := by simpa using ints_of_vals rv
  refine call_set_tupI ns (I1.ok.hd calm) (show s1.heap.IsTuple l its.toArray from pt) hi (by unfold scanBound; omega) fun h' tk c R1 hcn kp => PyProof.Rows.args_nil ?_
  obtain ⟨o, es, ep, t, ho, hex, hdt, g, nd, mem, hb, hf, hn, hr, hl2⟩ := R1
  have I2 : Inv X pins σ H1 { s1 with heap := h', toks := tk } := I1.kept kp
  have le : (es.toList.map keyOf).length = es.size := by rw [List.length_map, Array.length_toList]
  refine call_len_set ho hex hdt hf (by omega) ⟨.int es.size, H1, I2.tok _, ⟨_, rfl⟩, ?_⟩
  rw [← le]
  exact done _ nd fun k => by rw [← mem k, decide_eq_true_eq]
end
/-! ### set(a list of whole numbers) -/
section
open PySem.Spec PyProof.Rows PySem.Calls
variable {P : Program} {w : World} {A : Around} {E : Value → Shared → Prop} {s : Shared}
set_option maxHeartbeats 4000000 in
theorem call_set_listR {l : Addr} {items : Array Value} (ns : List Int) {Q : Value → Shared → Prop} (hh : A.handled = none) (hl : s.heap.IsList l items) (hit : IntsAre items.toList ns) (hb : ns.length + 1 < scanBound)
    (h : ∀ (h' : Heap) (tk c : Nat), SetR w h' s.heap.objs.size (fun j => decide (j ∈ ns)) c → c ≤ ns.length → (∀ b o, s.heap.get? b = some o → h'.get? b = some o) → Q (.ref s.heap.objs.size) { s with heap := h', toks := tk }) :
    wpAny (model P w) A (call (.type "set") [.ref l]) Q E s := by
  have hisz : items.size = ns.length := by
    have q := IntsAre.length hit
    rw [Array.length_toList] at q
    exact q
  obtain ⟨c, tl, hmro⟩ := F.called_set.mro
  have hmade := F.called_set.made
  have hsub := F.called_set.sub
  refine wpAny_call (codeAny_of_tree ?_)
  show wpAny _ _ (callAny (.type "set") _) _ _ _
  refine wpAny_pure ⟨Code.quiet_builtin _ (by decide +kernel), codeAny_builtin F.entry_type_call ?_⟩
  rw [Around.under_plain (weight_type_call_type "set" [.ref l] []) rfl]
  have h1 := F.called_set.notType
  have h2 := F.called_set.canCreate
  have hct := F.typeCall_set_1 (.ref l)
  repeat (any_goals (first | assumption | wp_step))
  refine codeAny_mono (code_set_led1 (.ref l) (E := E) (Q₁ := fun obj s₁ => obj = .ref s.heap.objs.size ∧ s₁ = { s with heap := s.heap.push { cls := .type "set", dict := none, data := .set #[] 0 (.fresh 0 0 (!w.params.followText "set-order")) } }) ⟨rfl, rfl⟩) fun r s₁ hr => ?_
  cases r with
  | error e => exact hr
  | ok fl =>
    cases fl with
    | ret obj =>
      obtain ⟨rfl, rfl⟩ := hr
      have hS : (s.heap.push { cls := .type "set", dict := none, data := .set #[] 0 (.fresh 0 0 (!w.params.followText "set-order")) }).get? s.heap.objs.size = some { cls := .type "set", dict := none, data := .set #[] 0 (.fresh 0 0 (!w.params.followText "set-order")) } := Heap.get?_push_size _ rfl
      have hT : Shared.TypeIs { s with heap := s.heap.push { cls := .type "set", dict := none, data := .set #[] 0 (.fresh 0 0 (!w.params.followText "set-order")) } } (.ref s.heap.objs.size) "set" := ⟨_, hS, rfl⟩
      have hli := F.called_set.init.lookup
      have hbi := F.called_set.init.bind (.ref s.heap.objs.size)
      repeat (any_goals (first | assumption | wp_step))
      refine codeAny_mono (codeAny_call_builtin (R := wants (fun r s₂ => r = .none ∧ ∃ h' tk c, s₂ = { s with heap := h', toks := tk } ∧ SetR w h' s.heap.objs.size (fun j => decide (j ∈ ns)) c ∧ c ≤ ns.length ∧
          (∀ b o, s.heap.get? b = some o → h'.get? b = some o)) E) F.called_set.init.plain F.entry_set_init (check_set_init_1 hT ?_)) fun r₂ s₂ hr₂ => ?_
      · obtain ⟨ol, hol, hcl, nl, hdl⟩ := hl
        obtain ⟨ocls, odict, odata, oslots⟩ := ol
        simp only at hcl hdl
        subst hcl; subst hdl
        have hol' : (s.heap.push { cls := .type "set", dict := none, data := .set #[] 0 (.fresh 0 0 (!w.params.followText "set-order")) }).get? l = some { cls := .type "list", dict := odict, data := .seq items nl, slots := oslots } := Heap.get?_push_of_some _ hol
        have hsls := F.sub_list_set
        have hslf := F.sub_list_frozenset
        have hne : (Value.type "list" == Value.type "dict") = false := by decide
        have hl1 : (s.heap.push { cls := .type "set", dict := none, data := .set #[] 0 (.fresh 0 0 (!w.params.followText "set-order")) }).IsList l items := ⟨_, hol', rfl, nl, rfl⟩
        unfold Builtin.«set.__init__» noKeywords Builtin.Frozenset.updateFrom
        generalize hPI : pyIter = PI
        wp_walk
        subst hPI
        refine wpAny_pyIter_list hl1 ?_
        refine wpAny_bind (wpAny_runValue ?_)
        have hlS : l < s.heap.objs.size := Heap.lt_size hol
        have hh3 : A.in1.in1.in1.handled = none := by simp [hh]
        have hz1 : (s.heap.push { cls := .type "set", dict := none, data := .set #[] 0 (.fresh 0 0 (!w.params.followText "set-order")) }).objs.size = s.heap.objs.size + 1 := Heap.size_push ..
        have hneI : l ≠ (s.heap.push { cls := .type "set", dict := none, data := .set #[] 0 (.fresh 0 0 (!w.params.followText "set-order")) }).objs.size := by
          rw [Heap.size_push]; exact Nat.ne_of_lt (Nat.lt_succ_of_lt hlS)
        have hSf : s.heap.objs.size ∉ [(s.heap.push { cls := .type "set", dict := none, data := .set #[] 0 (.fresh 0 0 (!w.params.followText "set-order")) }).objs.size, l] := by
          rw [Heap.size_push]; simp only [List.mem_cons, List.mem_singleton, List.not_mem_nil, or_false, not_or]
          exact ⟨Nat.ne_of_lt (Nat.lt_succ_self _), Nat.ne_of_gt hlS⟩
        have hval : ∀ (i : Nat) (v : Value), items[i]? = some v → ∃ k t, ns[i]? = some k ∧ v = .int k t := fun i v hv => by
          have hi : i < ns.length := by rw [← hisz]; exact (Array.getElem?_eq_some_iff.mp hv).1
          obtain ⟨t, e⟩ := PyProof.Rows.IntsAre.int_at hit i v (by rw [Array.getElem?_toList]; exact hv)
          refine ⟨ns[i], t, List.getElem?_eq_getElem hi, ?_⟩
          rw [e, List.getD_eq_getElem?_getD, List.getElem?_eq_getElem hi] <;> rfl
        refine set_update_ints ((Walks.list hh3 _ l hneI items).toS) s.heap.objs.size
          hSf ns hisz hb hval (items.size - 0) 0 _ (by omega) (Nat.zero_le _)
          ⟨⟨_, Heap.get?_push_size _ rfl, rfl, rfl⟩, (hl1.push _)⟩ ?hS0 ?hR
        case hS0 =>
          have hget : ((s.heap.push { cls := .type "set", dict := none, data := .set #[] 0 (.fresh 0 0 (!w.params.followText "set-order")) }).push { cls := .type "list_iterator", data := .fields #[.ref l, .int 0 0] }).get? s.heap.objs.size
              = some { cls := .type "set", dict := none, data := .set #[] 0 (.fresh 0 0 (!w.params.followText "set-order")) } := Heap.get?_push_of_some _ hS
          exact ⟨0, Nat.le_refl 0, setR_new_at hget⟩
        case hR =>
          intro s' c' hm hc' hS'
          obtain ⟨h', g2, d', tk', os'⟩ := s'
          have eg : g2 = s.gens := hm.gens
          have ed : d' = s.drawn := hm.drawn
          have eo : os' = s.os := hm.os
          subst eg; subst ed; subst eo
          show wpAny _ _ _ _ _ _
          refine wpAny_pure ?_
          show wpAny _ _ (ret Value.none) _ _ _
          rw [hisz] at hc'
          refine wpAny_pure ⟨rfl, h', tk', c', rfl, hS', hc', fun b o e => ?_⟩
          have hb0 : b < s.heap.objs.size := Heap.lt_size e
          have hb1 : b ≠ s.heap.objs.size := Nat.ne_of_lt hb0
          have hb2 : b ≠ (s.heap.push { cls := .type "set", dict := none, data := .set #[] 0 (.fresh 0 0 (!w.params.followText "set-order")) }).objs.size := by
            rw [Heap.size_push]; exact Nat.ne_of_lt (Nat.lt_succ_of_lt hb0)
          exact hm.heap b o (by simp only [List.mem_cons, List.mem_singleton, List.not_mem_nil, or_false, not_or]; exact ⟨hb1, hb2⟩) (Heap.get?_push_of_some _ (Heap.get?_push_of_some _ e))
      · cases r₂ with
        | error e => exact hr₂
        | ok fl₂ =>
          cases fl₂ with
          | ret r =>
            obtain ⟨rfl, h', tk, c', rfl, hS', hc', hk'⟩ := hr₂
            repeat (any_goals (first | assumption | wp_step))
            exact h _ _ _ hS' hc' hk'
          | _ => exact hr₂.elim
    | _ => exact hr.elim
variable {X : Cx}
def rSetL (w : World) (K : PySem.W.Frag) : List V → Hp → VK → Prop := fun xs H Q => ∃ (a : Addr) (ns : List Int), xs = [.ref a] ∧ SqL K H a (ns.map V.int) ∧ ns.length ≤ 4000 ∧ ∀ (p : Addr) (c : Nat), c ≤ ns.length → (∃ ks : List Int, ks.Nodup ∧ ks.length = c ∧ ∀ k, k ∈ ks ↔ k ∈ ns) → H p = none → Q (.ref p) (upd H p (SetO w p (fun j => decide (j ∈ ns)) c))
theorem cr_setL (hc : X.calm = true) : CallR X (.type "set") (rSetL X.w X.K) := by
  intro pins s σ H xs us Q I r h
  obtain ⟨a, ns, rfl, hq, hl, q⟩ := h
  rw [Vals.ref1 r]
  obtain ⟨its, rv, pl, hz⟩ := I.list hq
  refine call_set_listR ns (I.ok.hd hc) pl.isList (by simpa using ints_of_vals rv) (by unfold scanBound; omega) fun h' tk c R hc' k => ?_
  have nw : H s.heap.objs.size = none := I.hok.fresh (Nat.le_refl _)
  have kk : ∃ ks : List Int, ks.Nodup ∧ ks.length = c ∧ ∀ k, k ∈ ks ↔ k ∈ ns := by
    obtain ⟨o, es, ep, t, ho, hex, hd, g, nd, mem, hb, hf, hn, hr, hl2⟩ := R
    exact ⟨es.toList.map keyOf, nd, by rw [List.length_map, Array.length_toList]; exact hn, fun k => by rw [← mem k, decide_eq_true_eq]⟩
  exact ⟨.ref _, _, I.laid (t' := tk) k (Nat.le_refl _) (setO_new R), rfl, q _ c hc' kk nw⟩
end
/-! ### enumerate(a tuple) -/
section
open PySem.Spec PyProof.Rows PySem.Calls
set_option maxHeartbeats 4000000 in
theorem meets_enum1 {v : Value} {o : Obj} {HH : Heap → Prop} (B : Begins v o HH) :
    Meets (Builtin.«enumerate.__new__» ⟨[.type "enumerate", v], []⟩) (fun _ R s => HH s.heap ∧
      R (.ok (.ret (.ref (s.heap.push o).objs.size))) { s with heap := (s.heap.push o).push { cls := .type "enumerate", data := .fields #[.none, .bool false, .ref s.heap.objs.size, rawInt 0, .none, .none] } }) :=
  .of_wp fun prog w A R s both => by
    obtain ⟨hp, g, d, tk, os⟩ := s
    obtain ⟨h1, h⟩ := both
    have hsub := sub_enumerate
    have it1 : ∀ {A' : Around} {E : Value → Shared → Prop} {Q : Value → Shared → Prop}, Q (.ref hp.objs.size) ⟨hp.push o, g, d, tk, os⟩ → wpAny (model prog w) A' (pyIter v) Q E ⟨hp, g, d, tk, os⟩ := fun q => B.iter prog w _ _ ⟨hp, g, d, tk, os⟩ _ h1 q
    wp_walk using it1
    refine wpAny_stack_any fun st => wpAny_pure ?_
    split
    · rename_i c _ _ _ _ _
      cases (c == Value.type "enumerate") <;> (wp_walk using it1; exact ⟨_, rfl, h⟩)
    · wp_walk using it1
      exact ⟨_, rfl, h⟩
section
variable {prog : Program} {w : World} {A : Around} {E : Value → Shared → Prop} {s : Shared}
theorem call_enum1 {v : Value} {o : Obj} {HH : Heap → Prop} {Q : Value → Shared → Prop} (B : Begins v o HH) (h1 : HH s.heap)
    (fin : ∀ h', IsEnum h' (s.heap.objs.size + 1) s.heap.objs.size 0 .none → h'.get? s.heap.objs.size = some o → h'.objs.size = s.heap.objs.size + 2 → (∀ b u, s.heap.get? b = some u → h'.get? b = some u) → Q (.ref (s.heap.objs.size + 1)) { s with heap := h' }) :
    wpAny (model prog w) A (call (.type "enumerate") [v]) Q E s := by
  refine callType_new F.called_enumerate (by decide) (F.typeCall_enumerate_1 _) (F.newCall_enumerate_1 _) (fun obj => F.args_object_init_2 obj _) F.entry_enumerate_new (meets_enum1 B) ⟨h1, ?_⟩
  have hz : (s.heap.push o).objs.size = s.heap.objs.size + 1 := Heap.size_push ..
  show _ ∧ _
  rw [hz]
  have he : ((s.heap.push o).push { cls := .type "enumerate", data := .fields #[.none, .bool false, .ref s.heap.objs.size, rawInt 0, .none, .none] }).get? (s.heap.objs.size + 1) = some { cls := .type "enumerate", data := .fields #[.none, .bool false, .ref s.heap.objs.size, rawInt 0, .none, .none] } := by
    rw [← hz]
    exact Heap.get?_push_size (s.heap.push o) rfl
  exact ⟨⟨_, he, rfl⟩, fin _ he (Heap.get?_push_of_some _ (Heap.get?_push_size _ B.free)) (by rw [Heap.size_push, hz]) fun b u x => Heap.get?_push_of_some _ (Heap.get?_push_of_some _ x)⟩
end
/-- a tuple's iterator behind its end -/
theorem draws_end {prog : Program} {w : World} {A : Around} (calm : A.handled = none) (it t : Addr) (items : Array Value) (i : Nat) (hi : items[i]? = none) :
    Draws prog w A it [it, t] i (fun _ _ => True) (fun j h => j = i ∧ h.IsTupleIter it t j ∧ h.IsTuple t items) where
  live := fun _ _ st => let ⟨o, ho, _⟩ := st.2.1; ⟨o, ho⟩
  frame := fun _ _ _ st hk => ⟨st.1, st.2.1.at fun o e => hk it (by simp) o e, st.2.2.at fun o e => hk t (by simp) o e⟩
  item := fun j s Q E hj st _ => absurd st.1 (Nat.ne_of_lt hj)
  done := fun s Q E st hE => wpAny_nextOf_tuple_end calm st.2.1 st.2.2 hi hE
/-- the tuple at a, each item in a new pair -/
def IteT (K : PySem.W.Frag) (a : Addr) : It :=
  ⟨fun i H => ∃ (xs : List V) (x : V), SqT K H a xs ∧ xs[i]? = some x, fun i H v H' => ∃ T x, v = .ref T ∧ H T = none ∧ H' = upd H T (.tup [.int (i : Nat), x]) ∧ ∀ xs, SqT K H a xs → xs[i]? = some x, fun i H => ∃ xs : List V, SqT K H a xs ∧ xs.length ≤ i⟩
theorem turn_enumT {P : Program} {w : World} {K : PySem.W.Frag} {elts : List Expr} {kk : Nat} {tpos : Pos} (a e it : Addr) :
    Turn P w K (.Tuple elts kk tpos) (IteT K a) [e, it] e (fun i h => (∃ old, IsEnum h e it ((i : Nat) : Int) old) ∧ h.IsTupleIter it a i ∧ e ≠ it ∧ e ≠ a ∧ it ≠ a) where
  mem := by simp
  obj := fun i h st b hb => by
    obtain ⟨⟨old, he⟩, ⟨o, ho, hc, hd⟩, _⟩ := st
    rcases List.mem_cons.mp hb with z | z
    · subst z
      exact ⟨_, he, fun v q => nomatch q⟩
    · have z2 := List.mem_singleton.mp z
      subst z2
      exact ⟨o, ho, fun v q => by rw [hd] at q; cases q⟩
  keep := fun i h h' st k => let ⟨⟨old, he⟩, hi, hne⟩ := st; ⟨⟨old, k e (by simp) _ he⟩, hi.at fun o q => k it (by simp) o q, hne⟩
  item := by
    intro X hP hw hK calm i pins s σ H E I hf st hg
    subst hP hw hK
    obtain ⟨⟨old, he⟩, hit, n1, n2, n3⟩ := st
    obtain ⟨xs, x, hq, hx⟩ := hg
    obtain ⟨its, rv, p, hz⟩ := I.tuple hq
    obtain ⟨u, hu, ru⟩ := rv.get hx
    have hel : e < s.heap.objs.size := Heap.lt_size he
    have hil : it < s.heap.objs.size := by obtain ⟨_, q, _⟩ := hit; exact Heap.lt_size q
    have ilt : i < its.toArray.size := by rw [List.size_toArray]; exact (List.getElem?_eq_some_iff.mp hu).1
    have D := Draws.tuple (prog := X.prog) (w := X.w) (A := X.A.in1) (by simpa using I.ok.hd calm) it a (Ne.symm n3) its.toArray
    refine wpAny_pyNext_enum_itemD D he ⟨hit, p⟩ ilt n1 (by simp [n1, n2]) fun y h' tk hy ho hst hT hsz hk => ?_
    have ey : y = u := by
      have q : its[i]? = some y := by simpa using hy
      rw [hu] at q
      exact (Option.some.inj q).symm
    subst ey
    refine ⟨_, rfl, wpAny_letOwnedTupleGo_enum (s := { s with heap := h', toks := tk + 1 }) ho fun h2 he2 sb => ?_⟩
    have nT : h2.get? s.heap.objs.size = some { cls := .type "tuple", data := .seq #[.int i tk, y] } := (sb.2 _ (Nat.ne_of_gt hel)).trans hT
    have mk : ObjOk X.prog X.w (upd H s.heap.objs.size (.tup [.int (i : Nat), x])) h2 s.heap.objs.size (.tup [.int (i : Nat), x]) :=
      ⟨by show 2 ≤ sizeLine; decide, [.int i tk, y], .cons ⟨_, rfl⟩ (.cons ru .nil), ⟨_, nT, rfl, _, rfl⟩⟩
    have I1 : Inv X pins σ (upd H s.heap.objs.size (.tup [.int (i : Nat), x])) { s with heap := h2, toks := tk + 1 } :=
      I.turnedNew (ch := [e, it]) (fun b ob hb q => (sb.2 b (fun z => hb (by simp [z]))).trans (hk b ob (fun z => hb (by simp [z])) (fun z => hb (by simp [z])) q)) hf (Nat.le_refl _) mk
    refine ⟨.ref s.heap.objs.size, _, I1, rfl, ⟨_, x, rfl, I.hok.fresh (Nat.le_refl _), rfl, fun ys hy2 => by rw [I.tuple_inj hy2 hq]; exact hx⟩, ⟨⟨y, ?_⟩, hst.1.at fun o q => (sb.2 it (Ne.symm n1)).trans q, n1, n2, n3⟩, fun b hb => ?_⟩
    · rw [show ((i + 1 : Nat) : Int) = (i : Int) + 1 by omega]
      exact he2
    · have lt : b < s.heap.objs.size := by
        rcases List.mem_cons.mp hb with z | z
        · rw [z]; exact hel
        · rw [List.mem_singleton.mp z]; exact hil
      rw [upd_ne (Nat.ne_of_lt lt)]
      exact (hf b hb).1
  done := by
    intro X hP hw hK calm i pins s σ H E I hf st hg
    subst hP hw hK
    obtain ⟨⟨old, he⟩, hit, n1, n2, n3⟩ := st
    obtain ⟨xs, hq, hx⟩ := hg
    obtain ⟨its, rv, p, hz⟩ := I.tuple hq
    obtain ⟨f0, f1, f2, f3, f4, f5⟩ := hf it (by simp)
    have hl := rv.length
    have over : its.toArray[i]? = none := by simp; omega
    exact wpAny_pyNext_enum_endD (draws_end (by simpa using I.ok.hd calm) it a its.toArray i over) he ⟨rfl, hit, p⟩ fun h' eb => ⟨rfl, I.turned (t' := s.toks) (fun b o hb q => eb b o hb q) f0 f1 f3 f4 f5⟩
  self := fun A i s Q E st h => let ⟨⟨_, he⟩, _⟩ := st; wpAny_pyIter_enum he h
def iEnumT (K : PySem.W.Frag) (ta : TA) : TI := fun σ H R => ta σ H fun vs H1 => ∃ a xs, vs = [.ref a] ∧ SqT K H1 a xs ∧ R (IteT K a) H1
theorem pi_enumT {X : Cx} {e : Expr} {ta : TA} {p pos tpos : Pos} {elts : List Expr} {kk : Nat} (hg : Gl X "enumerate") (hm : X.mg "enumerate" = none) (ha : PA X [e] ta) (hs : starEach [e] X.env = [(false, eval e X.env)] := by rfl) :
    PI X (.Tuple elts kk tpos) (.Call (.Name "enumerate" p) [e] [] pos) (iEnumT X.K ta) := by
  constructor
  intro pins s σ H R I h
  refine Call_ (ld_blt I hg hm boot_enumerate (PyProof.Rows.callWith_type1 (thn (ha.run pos pins s σ H _ I h) fun us s1 ⟨vs, H1, I1, r1, q1⟩ => ?_) hs rfl))
  obtain ⟨a, xs, ex, hq, q⟩ := q1
  subst ex
  cases r1 with
  | cons r rr =>
    cases rr
    cases r
    obtain ⟨its, rv, tp, hz⟩ := I1.tuple hq
    have al : a < s1.heap.objs.size := by obtain ⟨_, q, _⟩ := tp; exact Heap.lt_size q
    refine call_enum1 (begins_tuple a its.toArray) (show s1.heap.IsTuple a its.toArray from tp) fun h' he hit hsz hk => wpAny_pyIter_enum he ?_
    have I2 : Inv X pins σ H1 { s1 with heap := h' } := I1.kept (t' := s1.toks) hk
    refine ⟨s1.heap.objs.size + 1, [s1.heap.objs.size + 1, s1.heap.objs.size], _, _, H1, rfl, I2, turn_enumT a (s1.heap.objs.size + 1) s1.heap.objs.size, ⟨⟨.none, he⟩, ⟨_, hit, rfl, rfl⟩, Nat.succ_ne_self _, Nat.ne_of_gt (Nat.lt_succ_of_lt al), Nat.ne_of_gt al⟩, fun b hb => ?_, q⟩
    have le : s1.heap.objs.size ≤ b := by
      rcases List.mem_cons.mp hb with z | z
      · rw [z]; exact Nat.le_add_right _ _
      · rw [List.mem_singleton.mp z]; exact Nat.le_refl _
    exact I1.fpOk le (I1.hok.fresh le)
theorem for_enumT {K : PySem.W.Frag} {a : Addr} {xs : List V} {g : TG} {tb : TS} {D : Ends} {σ : L2.St} {H : Hp} (Pv : Nat → L2.St → Hp → Prop) (h0 : Pv 0 σ H) (hq : ∀ i σ H, Pv i σ H → SqT K H a xs)
    (hs : ∀ (i : Nat) (x : V) (t : Addr) (σ : L2.St) (H : Hp), xs[i]? = some x → Pv i σ H → H t = none → g (.ref t) σ (upd H t (.tup [.int (i : Nat), x])) fun σ2 H2 => tb { D with nx := Pv (i + 1), ct := Pv (i + 1), bk := D.nx } σ2 H2)
    (hd : ∀ σ H, Pv xs.length σ H → D.nx σ H) : ∃ W : Nat → Nat → L2.St → Hp → Prop, (∃ m, W 0 m σ H) ∧ ∀ i m σ H, W i m σ H →
      ((IteT K a).stop i H ∧ D.nx σ H) ∨ ((IteT K a).go i H ∧ ∃ N : L2.St → Hp → Prop, (∀ σ' H', N σ' H' → ∃ m', m' < m ∧ W (i + 1) m' σ' H') ∧ ∀ v H', (IteT K a).yld i H v H' → g v σ H' fun σ2 H2 => tb { D with nx := N, ct := N, bk := D.nx } σ2 H2) := by
  refine ⟨fun i m σ H => m = xs.length - i ∧ i ≤ xs.length ∧ Pv i σ H, ⟨_, rfl, Nat.zero_le _, h0⟩, ?_⟩
  rintro i m σ H ⟨rfl, hi, p⟩
  have q := hq i σ H p
  by_cases lt : i < xs.length
  · refine .inr ⟨⟨xs, _, q, List.getElem?_eq_getElem lt⟩, Pv (i + 1), fun σ' H' p2 => ⟨_, by omega, rfl, lt, p2⟩, fun v H' y => ?_⟩
    obtain ⟨t, x, rfl, nt, rfl, f⟩ := y
    exact hs i x t σ H (f xs q) p nt
  · have e : i = xs.length := by omega
    subst e
    exact .inl ⟨⟨xs, q, Nat.le_refl _⟩, hd σ H p⟩
end
/-! ### x |= e -/
theorem ip_or {X : Cx} : PIp X .BitOr (ipI fun i j => Builtin.bitOr i j) := by
  intro pins s σ H x y v u Q I r1 r2 h
  exact iop_or pins s σ H x y v u Q I r1 r2 h
/-! ### comprehensions -/
theorem filterMap_range_succ {α : Type} (f : Nat → Option α) (n : Nat) : (List.range (n + 1)).filterMap f = (List.range n).filterMap f ++ (f n).toList := by
  rw [List.range_succ, List.filterMap_append]
  cases e : f n with
  | none => simp [e]
  | some v => simp [e]
theorem filterMap_range_len {α : Type} (f : Nat → Option α) (n : Nat) : ((List.range n).filterMap f).length ≤ n := by
  have h := List.length_filterMap_le f (List.range n)
  rw [List.length_range] at h
  exact h
theorem lt_line {n : Nat} (h : n ≤ 100000) : n < sizeLine := Nat.lt_of_le_of_lt h (by decide)
theorem lc_rangeF {lo : Int} {n : Nat} {g : TG} {tt : TT} {te : TE} {vs : List Nat} {σ : St} {H1 : Hp} {D : Addr} {Qd : Hp → Prop} (f : Nat → Option V) (nD : H1 D = none) (hn : n ≤ 100000)
    (hs : ∀ (i : Nat) (H : Hp) (N : V → Hp → Prop) (M : Hp → Prop), i < n → Same H1 H → (∀ v H4, f i = some v → Same H H4 → N v H4) → (∀ H4, f i = none → Same H H4 → M H4) → g (.int (lo + (i : Int))) (wipe σ vs) H fun σ2 H2 => wipe σ2 vs = wipe σ vs ∧ tt σ2 H2 fun b H3 => if b = true then te σ2 H3 N else M H3)
    (hd : ∀ H, Same H1 H → H D = some (.lst ((List.range n).filterMap f)) → Qd H) : ∃ W : Nat → Nat → Hp → Prop, (∃ m, W 0 m (upd H1 D (.lst []))) ∧ ∀ i m H, W i m H →
      ((Itr lo n).stop i H ∧ Qd H) ∨ ((Itr lo n).go i H ∧ ∃ Nx : Hp → Prop, (∀ H', Nx H' → ∃ m', m' < m ∧ W (i + 1) m' H') ∧ ∀ x H', (Itr lo n).yld i H x H' → g x (wipe σ vs) H' fun σ2 H2 => wipe σ2 vs = wipe σ vs ∧ tt σ2 H2 fun b H3 =>
        if b = true then te σ2 H3 fun y H4 => ∃ acc, H4 D = some (.lst acc) ∧ acc.length < sizeLine ∧ Nx (upd H4 D (.lst (acc ++ [y]))) else Nx H3) := by
  refine lc_range (lo := lo) (n := n) (fun i H => Same H1 H ∧ H D = some (.lst ((List.range i).filterMap f))) ⟨Same.new (Same.refl H1) nD, upd_same⟩ (fun i H hi p => ?_) (fun H p => hd H p.1 p.2)
  have il : i < n := hi
  have hz := filterMap_range_len f i
  refine hs i H _ _ hi p.1 (fun v H4 e s => ⟨_, s _ _ p.2, lt_line (by omega), ?_, ?_⟩) (fun H4 e s => ⟨?_, ?_⟩)
  · exact Same.mut (Same.trans p.1 s) nD
  · rw [filterMap_range_succ, e]
    exact upd_same
  · exact Same.trans p.1 s
  · rw [filterMap_range_succ, e, s _ _ p.2]
    simp
theorem lc_rangeM {lo : Int} {n : Nat} {g : TG} {tt : TT} {te : TE} {vs : List Nat} {σ : St} {H1 : Hp} {D : Addr} {Qd : Hp → Prop} {τ : Tp} (R : Nat → V → Hp → Prop) (st : ∀ i v H H', R i v H → TK H H' → R i v H') (t : Tape τ H1) (nD : H1 D = none) (hn : n ≤ 100000)
    (hs : ∀ (i : Nat) (H : Hp) (N : V → Hp → Prop) (M : Hp → Prop), i < n → Mv τ H1 H → (∀ v H4, Mv τ H H4 → R i v H4 → N v H4) → g (.int (lo + (i : Int))) (wipe σ vs) H fun σ2 H2 => wipe σ2 vs = wipe σ vs ∧ tt σ2 H2 fun b H3 => if b = true then te σ2 H3 N else M H3)
    (hd : ∀ H acc, Mv τ H1 H → H D = some (.lst acc) → acc.length = n → (∀ (j : Nat) v, acc[j]? = some v → R j v H) → Qd H) : ∃ W : Nat → Nat → Hp → Prop, (∃ m, W 0 m (upd H1 D (.lst []))) ∧ ∀ i m H, W i m H →
      ((Itr lo n).stop i H ∧ Qd H) ∨ ((Itr lo n).go i H ∧ ∃ Nx : Hp → Prop, (∀ H', Nx H' → ∃ m', m' < m ∧ W (i + 1) m' H') ∧ ∀ x H', (Itr lo n).yld i H x H' → g x (wipe σ vs) H' fun σ2 H2 => wipe σ2 vs = wipe σ vs ∧ tt σ2 H2 fun b H3 =>
        if b = true then te σ2 H3 fun y H4 => ∃ acc, H4 D = some (.lst acc) ∧ acc.length < sizeLine ∧ Nx (upd H4 D (.lst (acc ++ [y]))) else Nx H3) := by
  refine lc_range (lo := lo) (n := n) (fun i H => Mv τ H1 H ∧ ∃ acc, H D = some (.lst acc) ∧ acc.length = i ∧ ∀ (j : Nat) v, acc[j]? = some v → R j v H) ⟨(t.mv).new nD, [], upd_same, rfl, fun j v e => by simp at e⟩ (fun i H hi p => ?_) (fun H p => ?_)
  · obtain ⟨m, acc, hD, hlen, hR⟩ := p
    have il : i < n := hi
    refine hs i H _ _ hi m (fun v H4 m4 r => ⟨acc, m4.keep _ _ (t.mv.neF nD) hD, lt_line (by omega), (m.trans m4).mut nD, acc ++ [v], upd_same, by rw [List.length_append, hlen]; rfl, fun j u e => ?_⟩)
    have k1 : TK H4 (upd H4 D (.lst (acc ++ [v]))) := TK.mut (m4.keep _ _ (t.mv.neF nD) hD)
    by_cases hj : j < acc.length
    · rw [List.getElem?_append_left hj] at e
      exact st _ _ _ _ (st _ _ _ _ (hR j u e) m4.tk) k1
    · rw [List.getElem?_append_right (by omega)] at e
      have hj2 : j = i := by
        have q := (List.getElem?_eq_some_iff.mp e).1
        rw [List.length_singleton] at q
        omega
      rw [hj2, hlen, Nat.sub_self] at e
      have e2 : v = u := Option.some.inj e
      rw [← e2, hj2]
      exact st _ _ _ _ r k1
  · obtain ⟨m, acc, hD, hlen, hR⟩ := p
    exact hd H acc m hD hlen hR
theorem lc_listF {K : PySem.W.Frag} {a : Addr} {xs : List V} {g : TG} {tt : TT} {te : TE} {vs : List Nat} {σ : St} {H1 : Hp} {D : Addr} {Qd : Hp → Prop} (f : Nat → Option V) (hx : H1 a = some (.lst xs)) (nD : H1 D = none) (hn : xs.length ≤ 100000)
    (hs : ∀ (i : Nat) (x : V) (H : Hp) (N : V → Hp → Prop) (M : Hp → Prop), xs[i]? = some x → Same H1 H → (∀ v H4, f i = some v → Same H H4 → N v H4) → (∀ H4, f i = none → Same H H4 → M H4) → g x (wipe σ vs) H fun σ2 H2 => wipe σ2 vs = wipe σ vs ∧ tt σ2 H2 fun b H3 => if b = true then te σ2 H3 N else M H3)
    (hd : ∀ H, Same H1 H → H D = some (.lst ((List.range xs.length).filterMap f)) → Qd H) : ∃ W : Nat → Nat → Hp → Prop, (∃ m, W 0 m (upd H1 D (.lst []))) ∧ ∀ i m H, W i m H →
      ((Itl K a).stop i H ∧ Qd H) ∨ ((Itl K a).go i H ∧ ∃ Nx : Hp → Prop, (∀ H', Nx H' → ∃ m', m' < m ∧ W (i + 1) m' H') ∧ ∀ x H', (Itl K a).yld i H x H' → g x (wipe σ vs) H' fun σ2 H2 => wipe σ2 vs = wipe σ vs ∧ tt σ2 H2 fun b H3 =>
        if b = true then te σ2 H3 fun y H4 => ∃ acc, H4 D = some (.lst acc) ∧ acc.length < sizeLine ∧ Nx (upd H4 D (.lst (acc ++ [y]))) else Nx H3) := by
  refine lc_list (K := K) (a := a) (xs := xs) (fun i H => Same H1 H ∧ H D = some (.lst ((List.range i).filterMap f))) ⟨Same.new (Same.refl H1) nD, upd_same⟩ (fun i H _ p => SqL.of (p.1 _ _ hx)) (fun i x H hi p => ?_) (fun H p => hd H p.1 p.2)
  have il : i < xs.length := (List.getElem?_eq_some_iff.mp hi).1
  have hz := filterMap_range_len f i
  refine hs i x H _ _ hi p.1 (fun v H4 e s => ⟨_, s _ _ p.2, lt_line (by omega), ?_, ?_⟩) (fun H4 e s => ⟨?_, ?_⟩)
  · exact Same.mut (Same.trans p.1 s) nD
  · rw [filterMap_range_succ, e]
    exact upd_same
  · exact Same.trans p.1 s
  · rw [filterMap_range_succ, e, s _ _ p.2]
    simp
theorem lc_listM {K : PySem.W.Frag} {a : Addr} {xs : List V} {g : TG} {tt : TT} {te : TE} {vs : List Nat} {σ : St} {H1 : Hp} {D : Addr} {Qd : Hp → Prop} {τ : Tp} (R : Nat → V → Hp → Prop) (st : ∀ i v H H', R i v H → TK H H' → R i v H') (hx : H1 a = some (.lst xs)) (ne_a : a ≠ τ.t) (t : Tape τ H1) (nD : H1 D = none) (hn : xs.length ≤ 100000)
    (hs : ∀ (i : Nat) (x : V) (H : Hp) (N : V → Hp → Prop) (M : Hp → Prop), xs[i]? = some x → Mv τ H1 H → (∀ v H4, Mv τ H H4 → R i v H4 → N v H4) → g x (wipe σ vs) H fun σ2 H2 => wipe σ2 vs = wipe σ vs ∧ tt σ2 H2 fun b H3 => if b = true then te σ2 H3 N else M H3)
    (hd : ∀ H acc, Mv τ H1 H → H D = some (.lst acc) → acc.length = xs.length → (∀ (j : Nat) v, acc[j]? = some v → R j v H) → Qd H) : ∃ W : Nat → Nat → Hp → Prop, (∃ m, W 0 m (upd H1 D (.lst []))) ∧ ∀ i m H, W i m H →
      ((Itl K a).stop i H ∧ Qd H) ∨ ((Itl K a).go i H ∧ ∃ Nx : Hp → Prop, (∀ H', Nx H' → ∃ m', m' < m ∧ W (i + 1) m' H') ∧ ∀ x H', (Itl K a).yld i H x H' → g x (wipe σ vs) H' fun σ2 H2 => wipe σ2 vs = wipe σ vs ∧ tt σ2 H2 fun b H3 =>
        if b = true then te σ2 H3 fun y H4 => ∃ acc, H4 D = some (.lst acc) ∧ acc.length < sizeLine ∧ Nx (upd H4 D (.lst (acc ++ [y]))) else Nx H3) := by
  refine lc_list (K := K) (a := a) (xs := xs) (fun i H => Mv τ H1 H ∧ ∃ acc, H D = some (.lst acc) ∧ acc.length = i ∧ ∀ (j : Nat) v, acc[j]? = some v → R j v H) ⟨(t.mv).new nD, [], upd_same, rfl, fun j v e => by simp at e⟩ (fun i H _ p => SqL.of (p.1.keep _ _ ne_a hx)) (fun i x H hi p => ?_) (fun H p => ?_)
  · obtain ⟨m, acc, hD, hlen, hR⟩ := p
    have il : i < xs.length := (List.getElem?_eq_some_iff.mp hi).1
    refine hs i x H _ _ hi m (fun v H4 m4 r => ⟨acc, m4.keep _ _ (t.mv.neF nD) hD, lt_line (by omega), (m.trans m4).mut nD, acc ++ [v], upd_same, by rw [List.length_append, hlen]; rfl, fun j u e => ?_⟩)
    have k1 : TK H4 (upd H4 D (.lst (acc ++ [v]))) := TK.mut (m4.keep _ _ (t.mv.neF nD) hD)
    by_cases hj : j < acc.length
    · rw [List.getElem?_append_left hj] at e
      exact st _ _ _ _ (st _ _ _ _ (hR j u e) m4.tk) k1
    · rw [List.getElem?_append_right (by omega)] at e
      have hj2 : j = i := by
        have q := (List.getElem?_eq_some_iff.mp e).1
        rw [List.length_singleton] at q
        omega
      rw [hj2, hlen, Nat.sub_self] at e
      have e2 : v = u := Option.some.inj e
      rw [← e2, hj2]
      exact st _ _ _ _ r k1
  · obtain ⟨m, acc, hD, hlen, hR⟩ := p
    exact hd H acc m hD hlen hR
theorem lc_tupF {K : PySem.W.Frag} {a : Addr} {xs : List V} {g : TG} {tt : TT} {te : TE} {vs : List Nat} {σ : St} {H1 : Hp} {D : Addr} {Qd : Hp → Prop} (f : Nat → Option V) (hx : H1 a = some (.tup xs)) (nD : H1 D = none) (hn : xs.length ≤ 100000)
    (hs : ∀ (i : Nat) (x : V) (H : Hp) (N : V → Hp → Prop) (M : Hp → Prop), xs[i]? = some x → Same H1 H → (∀ v H4, f i = some v → Same H H4 → N v H4) → (∀ H4, f i = none → Same H H4 → M H4) → g x (wipe σ vs) H fun σ2 H2 => wipe σ2 vs = wipe σ vs ∧ tt σ2 H2 fun b H3 => if b = true then te σ2 H3 N else M H3)
    (hd : ∀ H, Same H1 H → H D = some (.lst ((List.range xs.length).filterMap f)) → Qd H) : ∃ W : Nat → Nat → Hp → Prop, (∃ m, W 0 m (upd H1 D (.lst []))) ∧ ∀ i m H, W i m H →
      ((Itt K a).stop i H ∧ Qd H) ∨ ((Itt K a).go i H ∧ ∃ Nx : Hp → Prop, (∀ H', Nx H' → ∃ m', m' < m ∧ W (i + 1) m' H') ∧ ∀ x H', (Itt K a).yld i H x H' → g x (wipe σ vs) H' fun σ2 H2 => wipe σ2 vs = wipe σ vs ∧ tt σ2 H2 fun b H3 =>
        if b = true then te σ2 H3 fun y H4 => ∃ acc, H4 D = some (.lst acc) ∧ acc.length < sizeLine ∧ Nx (upd H4 D (.lst (acc ++ [y]))) else Nx H3) := by
  refine lc_tup (K := K) (a := a) (xs := xs) (fun i H => Same H1 H ∧ H D = some (.lst ((List.range i).filterMap f))) ⟨Same.new (Same.refl H1) nD, upd_same⟩ (fun i H _ p => SqT.of (p.1 _ _ hx)) (fun i x H hi p => ?_) (fun H p => hd H p.1 p.2)
  have il : i < xs.length := (List.getElem?_eq_some_iff.mp hi).1
  have hz := filterMap_range_len f i
  refine hs i x H _ _ hi p.1 (fun v H4 e s => ⟨_, s _ _ p.2, lt_line (by omega), ?_, ?_⟩) (fun H4 e s => ⟨?_, ?_⟩)
  · exact Same.mut (Same.trans p.1 s) nD
  · rw [filterMap_range_succ, e]
    exact upd_same
  · exact Same.trans p.1 s
  · rw [filterMap_range_succ, e, s _ _ p.2]
    simp
theorem lc_tupM {K : PySem.W.Frag} {a : Addr} {xs : List V} {g : TG} {tt : TT} {te : TE} {vs : List Nat} {σ : St} {H1 : Hp} {D : Addr} {Qd : Hp → Prop} {τ : Tp} (R : Nat → V → Hp → Prop) (st : ∀ i v H H', R i v H → TK H H' → R i v H') (hx : H1 a = some (.tup xs)) (ne_a : a ≠ τ.t) (t : Tape τ H1) (nD : H1 D = none) (hn : xs.length ≤ 100000)
    (hs : ∀ (i : Nat) (x : V) (H : Hp) (N : V → Hp → Prop) (M : Hp → Prop), xs[i]? = some x → Mv τ H1 H → (∀ v H4, Mv τ H H4 → R i v H4 → N v H4) → g x (wipe σ vs) H fun σ2 H2 => wipe σ2 vs = wipe σ vs ∧ tt σ2 H2 fun b H3 => if b = true then te σ2 H3 N else M H3)
    (hd : ∀ H acc, Mv τ H1 H → H D = some (.lst acc) → acc.length = xs.length → (∀ (j : Nat) v, acc[j]? = some v → R j v H) → Qd H) : ∃ W : Nat → Nat → Hp → Prop, (∃ m, W 0 m (upd H1 D (.lst []))) ∧ ∀ i m H, W i m H →
      ((Itt K a).stop i H ∧ Qd H) ∨ ((Itt K a).go i H ∧ ∃ Nx : Hp → Prop, (∀ H', Nx H' → ∃ m', m' < m ∧ W (i + 1) m' H') ∧ ∀ x H', (Itt K a).yld i H x H' → g x (wipe σ vs) H' fun σ2 H2 => wipe σ2 vs = wipe σ vs ∧ tt σ2 H2 fun b H3 =>
        if b = true then te σ2 H3 fun y H4 => ∃ acc, H4 D = some (.lst acc) ∧ acc.length < sizeLine ∧ Nx (upd H4 D (.lst (acc ++ [y]))) else Nx H3) := by
  refine lc_tup (K := K) (a := a) (xs := xs) (fun i H => Mv τ H1 H ∧ ∃ acc, H D = some (.lst acc) ∧ acc.length = i ∧ ∀ (j : Nat) v, acc[j]? = some v → R j v H) ⟨(t.mv).new nD, [], upd_same, rfl, fun j v e => by simp at e⟩ (fun i H _ p => SqT.of (p.1.keep _ _ ne_a hx)) (fun i x H hi p => ?_) (fun H p => ?_)
  · obtain ⟨m, acc, hD, hlen, hR⟩ := p
    have il : i < xs.length := (List.getElem?_eq_some_iff.mp hi).1
    refine hs i x H _ _ hi m (fun v H4 m4 r => ⟨acc, m4.keep _ _ (t.mv.neF nD) hD, lt_line (by omega), (m.trans m4).mut nD, acc ++ [v], upd_same, by rw [List.length_append, hlen]; rfl, fun j u e => ?_⟩)
    have k1 : TK H4 (upd H4 D (.lst (acc ++ [v]))) := TK.mut (m4.keep _ _ (t.mv.neF nD) hD)
    by_cases hj : j < acc.length
    · rw [List.getElem?_append_left hj] at e
      exact st _ _ _ _ (st _ _ _ _ (hR j u e) m4.tk) k1
    · rw [List.getElem?_append_right (by omega)] at e
      have hj2 : j = i := by
        have q := (List.getElem?_eq_some_iff.mp e).1
        rw [List.length_singleton] at q
        omega
      rw [hj2, hlen, Nat.sub_self] at e
      have e2 : v = u := Option.some.inj e
      rw [← e2, hj2]
      exact st _ _ _ _ r k1
  · obtain ⟨m, acc, hD, hlen, hR⟩ := p
    exact hd H acc m hD hlen hR
/-! ### comprehensions over zip -/
theorem lc_zipLF {K : PySem.W.Frag} {a b : Addr} {xs ys : List V} {g : TG} {tt : TT} {te : TE} {vs : List Nat} {σ : St} {H1 : Hp} {D : Addr} {Qd : Hp → Prop} (f : Nat → Option V) (hx : H1 a = some (.lst xs)) (hy : H1 b = some (.lst ys)) (hl : xs.length = ys.length) (nD : H1 D = none) (hn : xs.length ≤ 100000)
    (hs : ∀ (i : Nat) (x y : V) (Z : Addr) (H : Hp) (N : V → Hp → Prop) (M : Hp → Prop), xs[i]? = some x → ys[i]? = some y → Same H1 H → H Z = some (.tup [x, y]) → (∀ v H4, f i = some v → Same H H4 → N v H4) → (∀ H4, f i = none → Same H H4 → M H4) → g (.ref Z) (wipe σ vs) H fun σ2 H2 => wipe σ2 vs = wipe σ vs ∧ tt σ2 H2 fun b H3 => if b = true then te σ2 H3 N else M H3)
    (hd : ∀ H, Same H1 H → H D = some (.lst ((List.range xs.length).filterMap f)) → Qd H) : ∃ W : Nat → Nat → Hp → Prop, (∃ m, W 0 m (upd H1 D (.lst []))) ∧ ∀ i m H, W i m H →
      ((Itz K a b).stop i H ∧ Qd H) ∨ ((Itz K a b).go i H ∧ ∃ Nx : Hp → Prop, (∀ H', Nx H' → ∃ m', m' < m ∧ W (i + 1) m' H') ∧ ∀ x H', (Itz K a b).yld i H x H' → g x (wipe σ vs) H' fun σ2 H2 => wipe σ2 vs = wipe σ vs ∧ tt σ2 H2 fun b H3 =>
        if b = true then te σ2 H3 fun y H4 => ∃ acc, H4 D = some (.lst acc) ∧ acc.length < sizeLine ∧ Nx (upd H4 D (.lst (acc ++ [y]))) else Nx H3) := by
  refine ⟨fun i m H => m = xs.length - i ∧ i ≤ xs.length ∧ Same H1 H ∧ H D = some (.lst ((List.range i).filterMap f)), ⟨xs.length, rfl, Nat.zero_le _, Same.new (Same.refl H1) nD, upd_same⟩, ?_⟩
  rintro i m H ⟨rfl, hi, s, hD⟩
  have qx : SqL K H a xs := SqL.of (s _ _ hx)
  have qy : SqL K H b ys := SqL.of (s _ _ hy)
  have hz := filterMap_range_len f i
  by_cases hlt : i < xs.length
  · have ex : xs[i]? = some xs[i] := List.getElem?_eq_getElem hlt
    have hlt2 : i < ys.length := by omega
    have ey : ys[i]? = some ys[i] := List.getElem?_eq_getElem hlt2
    refine .inr ⟨⟨xs, ys, _, _, qx, qy, ex, ey⟩, fun H => i < xs.length ∧ Same H1 H ∧ H D = some (.lst ((List.range (i + 1)).filterMap f)), fun H' p' => ⟨xs.length - (i + 1), by omega, rfl, hlt, p'.2⟩, fun v H' y => ?_⟩
    obtain ⟨Z, x', y', rfl, hZ, rfl, f1, f2⟩ := y
    have s1 : Same H (upd H Z (.tup [x', y'])) := Same.new (Same.refl H) hZ
    refine hs i x' y' Z _ _ _ (f1 xs qx) (f2 ys qy) (s.trans s1) upd_same (fun v H4 e s4 => ⟨_, s4 _ _ (s1 _ _ hD), lt_line (by omega), hlt, ?_, ?_⟩) (fun H4 e s4 => ⟨hlt, ?_, ?_⟩)
    · exact Same.mut ((s.trans s1).trans s4) nD
    · rw [filterMap_range_succ, e]
      exact upd_same
    · exact (s.trans s1).trans s4
    · rw [filterMap_range_succ, e, s4 _ _ (s1 _ _ hD)]
      simp
  · have e : i = xs.length := by omega
    subst e
    exact .inl ⟨⟨xs, ys, qx, qy, Or.inl (Nat.le_refl _)⟩, hd H s hD⟩
theorem lc_zipTF {K : PySem.W.Frag} {a b : Addr} {xs ys : List V} {g : TG} {tt : TT} {te : TE} {vs : List Nat} {σ : St} {H1 : Hp} {D : Addr} {Qd : Hp → Prop} (f : Nat → Option V) (hx : H1 a = some (.tup xs)) (hy : H1 b = some (.tup ys)) (hl : xs.length = ys.length) (nD : H1 D = none) (hn : xs.length ≤ 100000)
    (hs : ∀ (i : Nat) (x y : V) (Z : Addr) (H : Hp) (N : V → Hp → Prop) (M : Hp → Prop), xs[i]? = some x → ys[i]? = some y → Same H1 H → H Z = some (.tup [x, y]) → (∀ v H4, f i = some v → Same H H4 → N v H4) → (∀ H4, f i = none → Same H H4 → M H4) → g (.ref Z) (wipe σ vs) H fun σ2 H2 => wipe σ2 vs = wipe σ vs ∧ tt σ2 H2 fun b H3 => if b = true then te σ2 H3 N else M H3)
    (hd : ∀ H, Same H1 H → H D = some (.lst ((List.range xs.length).filterMap f)) → Qd H) : ∃ W : Nat → Nat → Hp → Prop, (∃ m, W 0 m (upd H1 D (.lst []))) ∧ ∀ i m H, W i m H →
      ((RZ.ItzT K a b).stop i H ∧ Qd H) ∨ ((RZ.ItzT K a b).go i H ∧ ∃ Nx : Hp → Prop, (∀ H', Nx H' → ∃ m', m' < m ∧ W (i + 1) m' H') ∧ ∀ x H', (RZ.ItzT K a b).yld i H x H' → g x (wipe σ vs) H' fun σ2 H2 => wipe σ2 vs = wipe σ vs ∧ tt σ2 H2 fun b H3 =>
        if b = true then te σ2 H3 fun y H4 => ∃ acc, H4 D = some (.lst acc) ∧ acc.length < sizeLine ∧ Nx (upd H4 D (.lst (acc ++ [y]))) else Nx H3) := by
  refine ⟨fun i m H => m = xs.length - i ∧ i ≤ xs.length ∧ Same H1 H ∧ H D = some (.lst ((List.range i).filterMap f)), ⟨xs.length, rfl, Nat.zero_le _, Same.new (Same.refl H1) nD, upd_same⟩, ?_⟩
  rintro i m H ⟨rfl, hi, s, hD⟩
  have qx : SqT K H a xs := SqT.of (s _ _ hx)
  have qy : SqT K H b ys := SqT.of (s _ _ hy)
  have hz := filterMap_range_len f i
  by_cases hlt : i < xs.length
  · have ex : xs[i]? = some xs[i] := List.getElem?_eq_getElem hlt
    have hlt2 : i < ys.length := by omega
    have ey : ys[i]? = some ys[i] := List.getElem?_eq_getElem hlt2
    refine .inr ⟨⟨xs, ys, _, _, qx, qy, ex, ey⟩, fun H => i < xs.length ∧ Same H1 H ∧ H D = some (.lst ((List.range (i + 1)).filterMap f)), fun H' p' => ⟨xs.length - (i + 1), by omega, rfl, hlt, p'.2⟩, fun v H' y => ?_⟩
    obtain ⟨Z, x', y', rfl, hZ, rfl, f1, f2⟩ := y
    have s1 : Same H (upd H Z (.tup [x', y'])) := Same.new (Same.refl H) hZ
    refine hs i x' y' Z _ _ _ (f1 xs qx) (f2 ys qy) (s.trans s1) upd_same (fun v H4 e s4 => ⟨_, s4 _ _ (s1 _ _ hD), lt_line (by omega), hlt, ?_, ?_⟩) (fun H4 e s4 => ⟨hlt, ?_, ?_⟩)
    · exact Same.mut ((s.trans s1).trans s4) nD
    · rw [filterMap_range_succ, e]
      exact upd_same
    · exact (s.trans s1).trans s4
    · rw [filterMap_range_succ, e, s4 _ _ (s1 _ _ hD)]
      simp
  · have e : i = xs.length := by omega
    subst e
    exact .inl ⟨⟨xs, ys, qx, qy, Or.inl (Nat.le_refl _)⟩, hd H s hD⟩
/-! comprehensions whose items are new things -/
theorem lc_rangeR {lo : Int} {n : Nat} {g : TG} {tt : TT} {te : TE} {vs : List Nat} {σ : St} {H1 : Hp} {D : Addr} {Qd : Hp → Prop} (R : Nat → V → Hp → Prop) (st : ∀ i v H H', R i v H → TK H H' → R i v H') (nD : H1 D = none) (hn : n ≤ 100000)
    (hs : ∀ (i : Nat) (H : Hp) (N : V → Hp → Prop) (M : Hp → Prop), i < n → Same H1 H → (∀ v H4, Same H H4 → R i v H4 → N v H4) → g (.int (lo + (i : Int))) (wipe σ vs) H fun σ2 H2 => wipe σ2 vs = wipe σ vs ∧ tt σ2 H2 fun b H3 => if b = true then te σ2 H3 N else M H3)
    (hd : ∀ H acc, Same H1 H → H D = some (.lst acc) → acc.length = n → (∀ (j : Nat) v, acc[j]? = some v → R j v H) → Qd H) : ∃ W : Nat → Nat → Hp → Prop, (∃ m, W 0 m (upd H1 D (.lst []))) ∧ ∀ i m H, W i m H →
      ((Itr lo n).stop i H ∧ Qd H) ∨ ((Itr lo n).go i H ∧ ∃ Nx : Hp → Prop, (∀ H', Nx H' → ∃ m', m' < m ∧ W (i + 1) m' H') ∧ ∀ x H', (Itr lo n).yld i H x H' → g x (wipe σ vs) H' fun σ2 H2 => wipe σ2 vs = wipe σ vs ∧ tt σ2 H2 fun b H3 =>
        if b = true then te σ2 H3 fun y H4 => ∃ acc, H4 D = some (.lst acc) ∧ acc.length < sizeLine ∧ Nx (upd H4 D (.lst (acc ++ [y]))) else Nx H3) := by
  refine lc_range (lo := lo) (n := n) (fun i H => Same H1 H ∧ ∃ acc, H D = some (.lst acc) ∧ acc.length = i ∧ ∀ (j : Nat) v, acc[j]? = some v → R j v H) ⟨Same.new (Same.refl H1) nD, [], upd_same, rfl, fun j v e => by simp at e⟩ (fun i H hi p => ?_) (fun H p => ?_)
  · obtain ⟨m, acc, hD, hlen, hR⟩ := p
    have il : i < n := hi
    refine hs i H _ _ hi m (fun v H4 m4 r => ⟨acc, m4 _ _ hD, lt_line (by omega), Same.mut (Same.trans m m4) nD, acc ++ [v], upd_same, by rw [List.length_append, hlen]; rfl, fun j u e => ?_⟩)
    have k1 : TK H4 (upd H4 D (.lst (acc ++ [v]))) := TK.mut (m4 _ _ hD)
    by_cases hj : j < acc.length
    · rw [List.getElem?_append_left hj] at e
      exact st _ _ _ _ (st _ _ _ _ (hR j u e) (Same.tk m4)) k1
    · rw [List.getElem?_append_right (by omega)] at e
      have hj2 : j = i := by
        have q := (List.getElem?_eq_some_iff.mp e).1
        rw [List.length_singleton] at q
        omega
      rw [hj2, hlen, Nat.sub_self] at e
      have e2 : v = u := Option.some.inj e
      rw [← e2, hj2]
      exact st _ _ _ _ r k1
  · obtain ⟨m, acc, hD, hlen, hR⟩ := p
    exact hd H acc m hD hlen hR
theorem lc_listR {K : PySem.W.Frag} {a : Addr} {xs : List V} {g : TG} {tt : TT} {te : TE} {vs : List Nat} {σ : St} {H1 : Hp} {D : Addr} {Qd : Hp → Prop} (R : Nat → V → Hp → Prop) (st : ∀ i v H H', R i v H → TK H H' → R i v H') (hx : H1 a = some (.lst xs)) (nD : H1 D = none) (hn : xs.length ≤ 100000)
    (hs : ∀ (i : Nat) (x : V) (H : Hp) (N : V → Hp → Prop) (M : Hp → Prop), xs[i]? = some x → Same H1 H → (∀ v H4, Same H H4 → R i v H4 → N v H4) → g x (wipe σ vs) H fun σ2 H2 => wipe σ2 vs = wipe σ vs ∧ tt σ2 H2 fun b H3 => if b = true then te σ2 H3 N else M H3)
    (hd : ∀ H acc, Same H1 H → H D = some (.lst acc) → acc.length = xs.length → (∀ (j : Nat) v, acc[j]? = some v → R j v H) → Qd H) : ∃ W : Nat → Nat → Hp → Prop, (∃ m, W 0 m (upd H1 D (.lst []))) ∧ ∀ i m H, W i m H →
      ((Itl K a).stop i H ∧ Qd H) ∨ ((Itl K a).go i H ∧ ∃ Nx : Hp → Prop, (∀ H', Nx H' → ∃ m', m' < m ∧ W (i + 1) m' H') ∧ ∀ x H', (Itl K a).yld i H x H' → g x (wipe σ vs) H' fun σ2 H2 => wipe σ2 vs = wipe σ vs ∧ tt σ2 H2 fun b H3 =>
        if b = true then te σ2 H3 fun y H4 => ∃ acc, H4 D = some (.lst acc) ∧ acc.length < sizeLine ∧ Nx (upd H4 D (.lst (acc ++ [y]))) else Nx H3) := by
  refine lc_list (K := K) (a := a) (xs := xs) (fun i H => Same H1 H ∧ ∃ acc, H D = some (.lst acc) ∧ acc.length = i ∧ ∀ (j : Nat) v, acc[j]? = some v → R j v H) ⟨Same.new (Same.refl H1) nD, [], upd_same, rfl, fun j v e => by simp at e⟩ (fun i H _ p => SqL.of (p.1 _ _ hx)) (fun i x H hi p => ?_) (fun H p => ?_)
  · obtain ⟨m, acc, hD, hlen, hR⟩ := p
    have il : i < xs.length := (List.getElem?_eq_some_iff.mp hi).1
    refine hs i x H _ _ hi m (fun v H4 m4 r => ⟨acc, m4 _ _ hD, lt_line (by omega), Same.mut (Same.trans m m4) nD, acc ++ [v], upd_same, by rw [List.length_append, hlen]; rfl, fun j u e => ?_⟩)
    have k1 : TK H4 (upd H4 D (.lst (acc ++ [v]))) := TK.mut (m4 _ _ hD)
    by_cases hj : j < acc.length
    · rw [List.getElem?_append_left hj] at e
      exact st _ _ _ _ (st _ _ _ _ (hR j u e) (Same.tk m4)) k1
    · rw [List.getElem?_append_right (by omega)] at e
      have hj2 : j = i := by
        have q := (List.getElem?_eq_some_iff.mp e).1
        rw [List.length_singleton] at q
        omega
      rw [hj2, hlen, Nat.sub_self] at e
      have e2 : v = u := Option.some.inj e
      rw [← e2, hj2]
      exact st _ _ _ _ r k1
  · obtain ⟨m, acc, hD, hlen, hR⟩ := p
    exact hd H acc m hD hlen hR
theorem lc_tupR {K : PySem.W.Frag} {a : Addr} {xs : List V} {g : TG} {tt : TT} {te : TE} {vs : List Nat} {σ : St} {H1 : Hp} {D : Addr} {Qd : Hp → Prop} (R : Nat → V → Hp → Prop) (st : ∀ i v H H', R i v H → TK H H' → R i v H') (hx : H1 a = some (.tup xs)) (nD : H1 D = none) (hn : xs.length ≤ 100000)
    (hs : ∀ (i : Nat) (x : V) (H : Hp) (N : V → Hp → Prop) (M : Hp → Prop), xs[i]? = some x → Same H1 H → (∀ v H4, Same H H4 → R i v H4 → N v H4) → g x (wipe σ vs) H fun σ2 H2 => wipe σ2 vs = wipe σ vs ∧ tt σ2 H2 fun b H3 => if b = true then te σ2 H3 N else M H3)
    (hd : ∀ H acc, Same H1 H → H D = some (.lst acc) → acc.length = xs.length → (∀ (j : Nat) v, acc[j]? = some v → R j v H) → Qd H) : ∃ W : Nat → Nat → Hp → Prop, (∃ m, W 0 m (upd H1 D (.lst []))) ∧ ∀ i m H, W i m H →
      ((Itt K a).stop i H ∧ Qd H) ∨ ((Itt K a).go i H ∧ ∃ Nx : Hp → Prop, (∀ H', Nx H' → ∃ m', m' < m ∧ W (i + 1) m' H') ∧ ∀ x H', (Itt K a).yld i H x H' → g x (wipe σ vs) H' fun σ2 H2 => wipe σ2 vs = wipe σ vs ∧ tt σ2 H2 fun b H3 =>
        if b = true then te σ2 H3 fun y H4 => ∃ acc, H4 D = some (.lst acc) ∧ acc.length < sizeLine ∧ Nx (upd H4 D (.lst (acc ++ [y]))) else Nx H3) := by
  refine lc_tup (K := K) (a := a) (xs := xs) (fun i H => Same H1 H ∧ ∃ acc, H D = some (.lst acc) ∧ acc.length = i ∧ ∀ (j : Nat) v, acc[j]? = some v → R j v H) ⟨Same.new (Same.refl H1) nD, [], upd_same, rfl, fun j v e => by simp at e⟩ (fun i H _ p => SqT.of (p.1 _ _ hx)) (fun i x H hi p => ?_) (fun H p => ?_)
  · obtain ⟨m, acc, hD, hlen, hR⟩ := p
    have il : i < xs.length := (List.getElem?_eq_some_iff.mp hi).1
    refine hs i x H _ _ hi m (fun v H4 m4 r => ⟨acc, m4 _ _ hD, lt_line (by omega), Same.mut (Same.trans m m4) nD, acc ++ [v], upd_same, by rw [List.length_append, hlen]; rfl, fun j u e => ?_⟩)
    have k1 : TK H4 (upd H4 D (.lst (acc ++ [v]))) := TK.mut (m4 _ _ hD)
    by_cases hj : j < acc.length
    · rw [List.getElem?_append_left hj] at e
      exact st _ _ _ _ (st _ _ _ _ (hR j u e) (Same.tk m4)) k1
    · rw [List.getElem?_append_right (by omega)] at e
      have hj2 : j = i := by
        have q := (List.getElem?_eq_some_iff.mp e).1
        rw [List.length_singleton] at q
        omega
      rw [hj2, hlen, Nat.sub_self] at e
      have e2 : v = u := Option.some.inj e
      rw [← e2, hj2]
      exact st _ _ _ _ r k1
  · obtain ⟨m, acc, hD, hlen, hR⟩ := p
    exact hd H acc m hD hlen hR
/-! comprehensions within comprehensions -/
theorem blk_in {X : Cx} {s : Shared} {H : Hp} {sc0 sc1 scope : Scope} {cl : List (Str × Addr)} {C : Addr} {env : Env} {fp : List Addr} {N : List Str} {own : List (Str × Nat)} (hN : X.N = N) (hs : env.scope = sc1) (h : blkC N (relS sc0 sc1) scope own = true) :
    BlkOk (X.blk s H sc0 (compEnvC sc0 cl C env) fp).N (X.blk s H sc0 (compEnvC sc0 cl C env) fp).env.scope scope own := by
  subst hN hs
  exact blkOk_by h
theorem pi_tupK {X : Cx} {K : PySem.W.Frag} {tg l : Expr} {tl : TE} (hK : X.K = K) (h : PE X l tl) : PI X tg l (iTup K tl) := by
  subst hK
  exact pi_tup h
theorem pi_listK {X : Cx} {K : PySem.W.Frag} {tg l : Expr} {tl : TE} (hK : X.K = K) (h : PE X l tl) : PI X tg l (iList K tl) := by
  subst hK
  exact pi_list h
theorem pe_fldK {X : Cx} {K : PySem.W.Frag} {e : Expr} {f : Str} {pos : Pos} {ta : TE} (hK : X.K = K) (h : PE X e ta) (hb : attributeBase e f X.env (eval e X.env) = eval e X.env) : PE X (.Attribute e f pos) (tFld K ta f) := by
  subst hK
  exact pe_fld h hb
theorem pg_tupK {X : Cx} {K : PySem.W.Frag} {es : List Expr} {k : Nat} {pos : Pos} {t : TGs} (n : Nat) (hc : X.calm = true) (hK : X.K = K) (h : PGs X es t)
    (hn : (assignEach es X.env).length = n := by rfl) (hst : (assignEach es X.env).findIdx? (·.1) = none := by rfl) : PG X (.Tuple es k pos) (gTup K n t) := by
  subst hK
  exact pg_tup hc h hn hst
/-! ### words -/
theorem tYes_go {σ : L2.St} {H : Hp} {Q : Bool → Hp → Prop} (h : Q true H) : tYes σ H Q := h
local macro_rules | `(tactic| tm_at "fld") => `(tactic| fail "fld")
local macro_rules | `(tactic| tm_at "hp") => `(tactic| first
  | assumption
  | (with_reducible exact upd_same)
  | exact Same.at (by assumption) (by tm_at "hp")
  | exact Mv.atT (by assumption) (by tm_at "hp")
  | exact Mv.at' (by assumption) (by tm_at "hp") (by tm_at "ne")
  | ((rw [upd_ne ?n]) <;> first | (tm_at "hp") | (tm_at "ne") | fail "upd")
  | fail "hp")
local macro_rules | `(tactic| tm_at "ne") => `(tactic| first
  | assumption
  | exact Ne.symm (by assumption)
  | exact Nw.ne (by assumption) (by tm_at "hp")
  | exact Ne.symm (Nw.ne (by assumption) (by tm_at "hp"))
  | fail "ne")
local macro_rules | `(tactic| tm_at "sq") => `(tactic| first
  | assumption
  | exact SqL.of (by tm_at "hp")
  | exact Same.seq (by assumption) (by tm_at "sq")
  | fail "sq")
local macro_rules | `(tactic| tm_at "sqt") => `(tactic| first
  | assumption
  | exact SqT.of (by tm_at "hp")
  | fail "sqt")
local macro_rules | `(tactic| tm_at "len") => `(tactic| first
  | omega
  | ((simp only [List.length_map, List.length_append, List.length_singleton, List.length_cons, List.length_nil, List.length_replicate, List.length_range]); omega)
  | fail "len")
local macro_rules | `(tactic| tm_at "sd") => `(tactic| first
  | decide
  | omega
  | exact ⟨by decide, by decide⟩
  | exact ⟨by omega, by omega⟩
  | exact Or.inr ⟨by decide, by decide⟩
  | exact Or.inl ⟨by omega, by omega⟩
  | exact Or.inl ⟨by decide, by decide⟩
  | exact Or.inr ⟨by omega, by omega⟩
  | exact Or.inl (fmod64 (by decide) (by decide))
  | exact ⟨by decide, by decide, by decide⟩
  | fail "sd")
local macro_rules | `(tactic| tm_at "w") => `(tactic| repeat (first
  | (with_reducible refine iteDY (by omega) ?_)
  | (with_reducible refine iteDN (by omega) ?_)
  | (refine ⟨_, rfl, ?_⟩)
  | (refine ⟨_, _, rfl, rfl, ?_⟩)
  | (refine ⟨_, _, _, _, rfl, rfl, by tm_at "sq", by rfl, ?_⟩)
  | (refine ⟨_, _, _, _, rfl, rfl, by tm_at "hp", by rfl, ?_⟩)
  | (refine ⟨_, _, _, _, rfl, rfl, by tm_at "sqt", by rfl, ?_⟩)
  | (refine ⟨_, _, _, _, rfl, rfl, by tm_at "sqt", atI_nat (by assumption), ?_⟩)
  | (refine ⟨_, _, _, _, rfl, rfl, by tm_at "sq", atI_nat (by assumption), ?_⟩)
  | (refine ⟨_, _, rfl, by tm_at "sqt", rfl, _, _, rfl, _, _, rfl, rfl, ?_⟩)
  | (refine ⟨_, _, rfl, by tm_at "sqt", rfl, _, _, rfl, _, _, rfl, _, _, rfl, rfl, ?_⟩)
  | (refine ⟨_, _, _, _, _, rfl, ClsV.ty _, by assumption, by assumption, ?_⟩)
  | (refine And.intro (rfl : scal _ _ = true) ?_)
  | (with_reducible refine iteET (by rfl) ?_)
  | (with_reducible refine iteEF (by rfl) ?_)
  | (refine And.intro (IntK.int _) ?_)
  | (with_reducible refine tYes_go ?_)
  | (refine And.intro (by (with_reducible refine le_lineB ?_); rfl) ?_)
  | (refine ⟨_, _, rfl, Or.inl ⟨SqL.of (by tm_at "hp"), ?_⟩⟩)
  | (refine And.intro (Or.inl ⟨rfl, _, SqL.of (by tm_at "hp")⟩) ?_)
  | (refine ⟨_, _, _, rfl, rfl, by tm_at "hp", lt_line (by tm_at "len"), ?_⟩)
  | (refine And.intro rfl ?_)
  | (refine Or.inl ⟨_, rfl, ?_⟩)
  | (refine ⟨_, _, rfl, Or.inl (by tm_at "sq"), ?_⟩)
  | (refine ⟨_, _, rfl, Or.inr (by tm_at "sqt"), ?_⟩)
  | (refine And.intro (by tm_at "sd") ?_)
  | (tm_at "fld")
  | fail "w"))
/-! ### lists of whole numbers -/
/-- an item of a list is a whole number -/
def IsI (v : V) : Prop := ∃ i : Int, v = .int i
theorem ints_of {xs : List V} (h : ∀ v ∈ xs, IsI v) : ∃ ns : List Int, xs = ns.map V.int := by
  induction xs with
  | nil => exact ⟨[], rfl⟩
  | cons x r ih =>
    obtain ⟨ns, e⟩ := ih fun v hv => h v (List.mem_cons_of_mem _ hv)
    obtain ⟨i, ei⟩ := h x List.mem_cons_self
    exact ⟨i :: ns, by rw [ei, e]; rfl⟩
theorem ints_at {xs : List V} (h : ∀ (j : Nat) v, xs[j]? = some v → IsI v) : ∃ ns : List Int, xs = ns.map V.int := ints_of fun v hv => by
  obtain ⟨j, hj, e⟩ := List.mem_iff_getElem.mp hv
  exact h j v (by rw [List.getElem?_eq_getElem hj, e])
theorem mem_app {P : V → Prop} {xs : List V} {y : V} (h : ∀ v ∈ xs, P v) (hy : P y) : ∀ v ∈ xs ++ [y], P v := fun v hv => by
  rcases List.mem_append.mp hv with hv | hv
  · exact h v hv
  · rw [List.mem_singleton.mp hv]
    exact hy
theorem len_app {xs : List V} {y : V} {n : Nat} (h : xs.length = n) : (xs ++ [y]).length = n + 1 := by
  rw [List.length_append, h]
  rfl
/-- the item at a place of a list of whole numbers -/
theorem int_here {ns : List Int} {i : Nat} {x : V} (h : (ns.map V.int)[i]? = some x) : ∃ z, ns[i]? = some z ∧ x = .int z ∧ i < ns.length := by
  rw [List.getElem?_map] at h
  cases e : ns[i]? with
  | none => rw [e] at h; cases h
  | some z => rw [e] at h; exact ⟨z, rfl, (Option.some.inj h).symm, (List.getElem?_eq_some_iff.mp e).1⟩
theorem map_snoc (ks : List Int) (k : Int) : ks.map V.int ++ [V.int k] = (ks ++ [k]).map V.int := by rw [List.map_append]; rfl
theorem inV_int (k : Int) (ks : List Int) : inV (.int k) (ks.map V.int) = decide (k ∈ ks) := by
  unfold inV
  rw [List.any_map]
  by_cases h : k ∈ ks
  · rw [decide_eq_true h]
    exact List.any_eq_true.mpr ⟨k, h, beq_self_eq_true k⟩
  · rw [decide_eq_false h]
    refine List.any_eq_false.mpr fun y hy z => h ?_
    have e : y = k := eq_of_beq (show (y == k) = true from z)
    rw [← e]
    exact hy
theorem flat_ints (ks : List Int) : (ks.map V.int).all flatV = true := List.all_eq_true.mpr fun v hv => by
  obtain ⟨i, _, rfl⟩ := List.mem_map.mp hv
  rfl
theorem len_of_same {a b : List Int} (ha : a.Nodup) (hb : b.Nodup) (h : ∀ k, k ∈ a ↔ k ∈ b) : a.length = b.length := ((List.perm_ext_iff_of_nodup ha hb).mpr h).length_eq
theorem dp_ints {K : PySem.W.Frag} {H : Hp} : ∀ ns : List Int, DpAll K H (ns.map V.int) (ns.map PyData.int)
  | [] => .nil
  | n :: r => .cons (.int n) (dp_ints r)
theorem range_items {α : Type} (S : List α) (f : α → V) : (List.range S.length).filterMap (fun i => S[i]?.map f) = S.map f := by
  have key : ∀ n, n ≤ S.length → (List.range n).filterMap (fun i => S[i]?.map f) = (S.take n).map f := by
    intro n
    induction n with
    | zero => intro _; rfl
    | succ n ih =>
      intro h
      rw [filterMap_range_succ, ih (by omega), List.take_add_one, List.map_append]
      rw [List.getElem?_eq_getElem (show n < S.length by omega)]
      rfl
  rw [key _ (Nat.le_refl _), List.take_length]
theorem lay_ints : ∀ ns : List Int, PyData.canLayAll0 (ns.map PyData.int) = true
  | [] => rfl
  | n :: r => by
    show (PyData.canLay0 (.int n) && PyData.canLayAll0 (r.map PyData.int)) = true
    rw [lay_ints r]
    rfl
theorem deep_ints : ∀ ns : List Int, PyData.depthAll (ns.map PyData.int) ≤ 1
  | [] => by simp [PyData.depthAll]
  | n :: r => by
    have ih := deep_ints r
    simp only [List.map_cons, PyData.depthAll, PyData.depth]
    omega
theorem shaped_ints (ns : List Int) : SeqAt.shaped (.tuple (ns.map PyData.int)) = true := by
  have h := deep_ints ns
  have h2 : PyData.depth (.tuple (ns.map PyData.int)) ≤ 64 := by
    simp only [PyData.depth]
    omega
  exact Bool.and_eq_true_iff.mpr ⟨lay_ints ns, decide_eq_true h2⟩
theorem same_ints (ns : List Int) : PyData.eqv (.tuple (ns.map PyData.int)) (.tuple (ns.map PyData.int)) = true := SeqAt.eqv_refl _ (lay_ints ns)
theorem at_map {r : List Int} {i : Int} (h0 : 0 ≤ i) (h : i < (r.length : Int)) : atI (r.map V.int) i = some (.int (r.getD i.toNat 0)) := by
  have hj : i.toNat < r.length := by omega
  refine at_of (j := i.toNat) (by omega) ?_
  rw [List.getElem?_map, List.getElem?_eq_getElem hj, List.getD_eq_getElem?_getD, List.getElem?_eq_getElem hj]
  rfl
/-! ### bits of what each kind is -/
def upBits (acc : List Nat) (n : Nat) (p : List Nat) : Nat := p.foldl (fun f q => f ||| acc.getD q 0) (2 ^ n)
theorem fold_bits (acc : List Nat) (j : Nat) : ∀ (p : List Nat) (f : Nat), (p.foldl (fun f q => f ||| acc.getD q 0) f).testBit j = (f.testBit j || p.any fun q => (acc.getD q 0).testBit j)
  | [], f => by simp
  | q :: r, f => by
    have ih := fold_bits acc j r (f ||| acc.getD q 0)
    rw [List.foldl_cons, ih, Nat.testBit_or, List.any_cons, Bool.or_assoc]
theorem upBits_at (acc : List Nat) (n : Nat) (p : List Nat) (j : Nat) : (upBits acc n p).testBit j = (decide (n = j) || p.any fun q => (acc.getD q 0).testBit j) := by
  unfold upBits
  rw [fold_bits, Nat.testBit_two_pow]
/-! ### books -/
structure InsT (K : PySem.W.Frag) (C : Addr) : Prop where
  ha : PySem.W.findIn K (.ref C) "__class__" = some (some (.builtin "object.__class__"))
  hn : PySem.W.specialIn K (.builtin "object.__class__") "__get__" = some (some (.builtin "getset_descriptor.__get__"))
  htk : PySem.W.takesIn K (.builtin "object.__class__") = some true
  hm : PySem.W.mroIn K C (.type "object") = some true
theorem pb_ne : ¬ (("parents" : Str) = "bits") := by decide +kernel
theorem bp_ne : ¬ (("bits" : Str) = "parents") := by decide +kernel
def bkF (pa lb : Addr) : List (Str × V) := putF "bits" (.ref lb) (putF "parents" (.ref pa) [])
theorem bkF_eq (pa lb : Addr) : bkF pa lb = ([("parents", V.ref pa), ("bits", V.ref lb)] : List (Str × V)) := by
  show (if ("parents" : Str) = "bits" then [(("parents" : Str), V.ref lb)] else (("parents" : Str), V.ref pa) :: putF "bits" (V.ref lb) []) = ([("parents", V.ref pa), ("bits", V.ref lb)] : List (Str × V))
  rw [if_neg pb_ne]
  all_goals rfl
theorem bkF_parents (pa lb : Addr) : (bkF pa lb).lookup ("parents" : Str) = some (.ref pa) := by
  unfold bkF
  rw [lookup_putF, if_neg pb_ne, lookup_putF, if_pos rfl]
theorem bkF_bits (pa lb : Addr) : (bkF pa lb).lookup ("bits" : Str) = some (.ref lb) := by
  unfold bkF
  rw [lookup_putF, if_pos rfl]
theorem bkF_no (pa lb : Addr) {m : Str} (h1 : ¬ m = "bits") (h2 : ¬ m = "parents") : (bkF pa lb).lookup m = none := by
  unfold bkF
  rw [lookup_putF, if_neg h1, lookup_putF, if_neg h2]
  all_goals rfl
theorem bkF_putP (pa lb p : Addr) : putF "parents" (.ref p) (bkF pa lb) = bkF p lb := by
  rw [bkF_eq, bkF_eq]
  show (if ("parents" : Str) = "parents" then (("parents" : Str), V.ref p) :: [(("bits" : Str), V.ref lb)] else _) = ([("parents", V.ref p), ("bits", V.ref lb)] : List (Str × V))
  rw [if_pos rfl]
theorem bkF_putB (pa lb l : Addr) : putF "bits" (.ref l) (bkF pa lb) = bkF pa l := by
  rw [bkF_eq, bkF_eq]
  show (if ("parents" : Str) = "bits" then _ else (("parents" : Str), V.ref pa) :: (if ("bits" : Str) = "bits" then [(("bits" : Str), V.ref l)] else _)) = ([("parents", V.ref pa), ("bits", V.ref l)] : List (Str × V))
  rw [if_neg pb_ne, if_pos rfl]
/-- the fields of a book that is being made: none, or an elder filling's -/
def BkFs (fs : List (Str × V)) : Prop := fs = [] ∨ ∃ pa lb, fs = bkF pa lb
theorem BkFs.put {fs : List (Str × V)} (h : BkFs fs) (p l : Addr) : putF "bits" (.ref l) (putF "parents" (.ref p) fs) = bkF p l := by
  rcases h with rfl | ⟨a, b, rfl⟩
  · rfl
  · rw [bkF_putP, bkF_putB]
theorem BkFs.len {fs : List (Str × V)} (h : BkFs fs) : fs.length < 500 := by
  rcases h with rfl | ⟨a, b, rfl⟩
  · decide
  · rw [bkF_eq]
    show 2 < 500
    decide
theorem BkFs.len1 {fs : List (Str × V)} (h : BkFs fs) (p : Addr) : (putF "parents" (.ref p) fs).length < 1000 := by
  have q := length_putF "parents" (.ref p) fs
  have r := h.len
  omega
theorem BkFs.fill {fs : List (Str × V)} (h : BkFs fs) : fs.lookup ("fill" : Str) = none := by
  rcases h with rfl | ⟨a, b, rfl⟩
  · rfl
  · exact bkF_no _ _ (by decide +kernel) (by decide +kernel)
def natsV (p : List Nat) : List V := p.map fun q : Nat => V.int (q : Int)
/-- parents: a tuple of tuples of numbers -/
def ParL (H : Hp) (vs : List V) (P : List (List Nat)) : Prop := vs.length = P.length ∧ ∀ (j : Nat) p, P[j]? = some p → ∃ a, vs[j]? = some (.ref a) ∧ H a = some (.tup (natsV p))
def ParAt (H : Hp) (pa : Addr) (P : List (List Nat)) : Prop := ∃ vs, H pa = some (.tup vs) ∧ ParL H vs P
theorem ParL.tk {H H' : Hp} {vs : List V} {P : List (List Nat)} (h : ParL H vs P) (k : TK H H') : ParL H' vs P := ⟨h.1, fun j p e => by
  obtain ⟨a, e1, e2⟩ := h.2 j p e
  exact ⟨a, e1, k _ _ e2⟩⟩
theorem ParAt.tk {H H' : Hp} {pa : Addr} {P : List (List Nat)} (h : ParAt H pa P) (k : TK H H') : ParAt H' pa P := by
  obtain ⟨vs, e, l⟩ := h
  exact ⟨vs, k _ _ e, l.tk k⟩
/-- each parent stands ahead -/
def RtP (P : List (List Nat)) : Prop := ∀ (j : Nat) p, P[j]? = some p → ∀ q ∈ p, q < j
/-- the bits of all kinds -/
def bitsOf (P : List (List Nat)) : List Nat := P.foldl (fun acc p => acc ++ [upBits acc acc.length p]) []
def isA (P : List (List Nat)) (x p : Nat) : Bool := ((bitsOf P).getD x 0).testBit p
theorem bitsOf_snoc (P : List (List Nat)) (p : List Nat) : bitsOf (P ++ [p]) = bitsOf P ++ [upBits (bitsOf P) (bitsOf P).length p] := by
  unfold bitsOf
  rw [List.foldl_append]
  rfl
theorem bitsOf_len (P : List (List Nat)) : (bitsOf P).length = P.length := by
  have key : ∀ (r : List (List Nat)) (acc : List Nat), (r.foldl (fun acc p => acc ++ [upBits acc acc.length p]) acc).length = acc.length + r.length := by
    intro r
    induction r with
    | nil => intro acc; simp
    | cons x r ih =>
      intro acc
      rw [List.foldl_cons, ih, List.length_append]
      simp only [List.length_cons, List.length_nil]
      omega
  rw [show bitsOf P = P.foldl (fun acc p => acc ++ [upBits acc acc.length p]) [] from rfl, key]
  simp
/-- a book: its address, its dict, its parents' tuple, its bits' list -/
structure Bk where
  b : Addr
  dx : Addr
  pa : Addr
  lb : Addr
structure BookAt (C : Addr) (H : Hp) (k : Bk) (P : List (List Nat)) : Prop where
  ins : H k.b = some (.ins C k.dx (bkF k.pa k.lb))
  par : ParAt H k.pa P
  bits : H k.lb = some (.lst (natsV (bitsOf P)))
theorem BookAt.same {C : Addr} {H H' : Hp} {k : Bk} {P : List (List Nat)} (h : BookAt C H k P) (s : Same H H') : BookAt C H' k P := ⟨s _ _ h.ins, h.par.tk (Same.tk s), s _ _ h.bits⟩
/-- all but b is kept -/
def But (b : Addr) (H H' : Hp) : Prop := ∀ a o, a ≠ b → H a = some o → H' a = some o
/-- the parents of a kind with a number are right -/
structure OkL (q : List Nat) (m : Nat) : Prop where
  asc : q.Pairwise (· < ·)
  lt : ∀ x ∈ q, x < m
  few : q.length ≤ 6
structure OkP (P : List (List Nat)) : Prop where
  ok : ∀ (j : Nat) q, P[j]? = some q → OkL q j
  few : P.length ≤ 400
theorem OkP.rt {P : List (List Nat)} (h : OkP P) : RtP P := fun j p e q hq => (h.ok j p e).lt q hq
theorem OkP.nil : OkP [] := ⟨fun j q e => by simp at e, by decide⟩
theorem OkP.take {P : List (List Nat)} (h : OkP P) (m : Nat) : OkP (P.take m) := by
  refine ⟨fun j q e => ?_, ?_⟩
  · rw [List.getElem?_take] at e
    split at e
    · exact h.ok j q e
    · cases e
  · have := h.few
    rw [List.length_take]
    omega
theorem natsV_len (q : List Nat) : (natsV q).length = q.length := by unfold natsV; rw [List.length_map]
theorem natsV_int {K : PySem.W.Frag} {H : Hp} (q : List Nat) : ∀ x ∈ natsV q, IntK K H x := fun x hx => by
  unfold natsV at hx
  obtain ⟨n, _, rfl⟩ := List.mem_map.mp hx
  exact IntK.int _
theorem natsV_at {q : List Nat} {i : Nat} {n : Nat} (h : q[i]? = some n) : (natsV q)[i]? = some (.int (n : Int)) := by
  unfold natsV
  rw [List.getElem?_map, h]
  rfl
theorem natsV_here {q : List Nat} {i : Nat} {x : V} (h : (natsV q)[i]? = some x) : ∃ n : Nat, q[i]? = some n ∧ x = .int (n : Int) ∧ i < q.length := by
  unfold natsV at h
  rw [List.getElem?_map] at h
  cases e : q[i]? with
  | none => rw [e] at h; cases h
  | some z => rw [e] at h; exact ⟨z, rfl, (Option.some.inj h).symm, (List.getElem?_eq_some_iff.mp e).1⟩
theorem natsV_snoc (q : List Nat) (n : Nat) : natsV q ++ [V.int (n : Int)] = natsV (q ++ [n]) := by unfold natsV; rw [List.map_append]; rfl
theorem ParL.here {H : Hp} {vs : List V} {P : List (List Nat)} (h : ParL H vs P) {j : Nat} {x : V} (e : vs[j]? = some x) : ∃ a p, x = .ref a ∧ P[j]? = some p ∧ H a = some (.tup (natsV p)) := by
  have hj := (List.getElem?_eq_some_iff.mp e).1
  rw [h.1] at hj
  obtain ⟨a, e1, e2⟩ := h.2 j _ (List.getElem?_eq_getElem hj)
  rw [e] at e1
  exact ⟨a, _, Option.some.inj e1, List.getElem?_eq_getElem hj, e2⟩
theorem ParL.nil {H : Hp} : ParL H [] [] := ⟨rfl, fun j p e => by simp at e⟩
theorem ParL.snoc {H : Hp} {vs : List V} {P : List (List Nat)} (h : ParL H vs P) {a : Addr} {p : List Nat} (e : H a = some (.tup (natsV p))) : ParL H (vs ++ [.ref a]) (P ++ [p]) := by
  refine ⟨by rw [List.length_append, List.length_append, h.1]; rfl, fun j q hq => ?_⟩
  by_cases hj : j < P.length
  · rw [List.getElem?_append_left hj] at hq
    rw [List.getElem?_append_left (by rw [h.1]; exact hj)]
    exact h.2 j q hq
  · rw [List.getElem?_append_right (by omega)] at hq
    have l := (List.getElem?_eq_some_iff.mp hq).1
    rw [List.length_singleton] at l
    have ej : j - P.length = 0 := by omega
    rw [ej] at hq
    have er : p = q := Option.some.inj hq
    rw [List.getElem?_append_right (by rw [h.1]; omega), h.1, ej, ← er]
    exact ⟨a, rfl, e⟩
theorem ParL.take {H : Hp} {vs : List V} {P : List (List Nat)} (h : ParL H vs P) (m : Nat) : ParL H (vs.take m) (P.take m) := by
  refine ⟨by rw [List.length_take, List.length_take, h.1], fun j q hq => ?_⟩
  rw [List.getElem?_take] at hq
  split at hq
  · rename_i hm
    rw [List.getElem?_take_of_lt hm]
    exact h.2 j q hq
  · cases hq
theorem But.same {b : Addr} {H H1 H2 : Hp} (s : Same H H1) (k : But b H1 H2) : But b H H2 := fun a o n e => k a o n (s a o e)
theorem But.new {b : Addr} {H H1 H2 : Hp} (s : Same H H1) (n : H b = none) (k : But b H1 H2) : Same H H2 := fun a o e => k a o (ne_of_none e n) (s a o e)
/-- a book that was made between H and H' -/
structure Made (C : Addr) (H H' : Hp) (k : Bk) (P : List (List Nat)) : Prop where
  same : Same H H'
  here : BookAt C H' k P
  nb : Nw H k.b
  nl : Nw H k.lb
theorem Made.later {C : Addr} {H H1 H2 : Hp} {k : Bk} {P : List (List Nat)} (m : Made C H H1 k P) (s : Same H1 H2) : Made C H H2 k P := ⟨m.same.trans s, m.here.same s, m.nb, m.nl⟩
theorem Made.early {C : Addr} {H H1 H2 : Hp} {k : Bk} {P : List (List Nat)} (s : Same H H1) (m : Made C H1 H2 k P) : Made C H H2 k P := ⟨s.trans m.same, m.here, ⟨s.free m.nb.e⟩, ⟨s.free m.nl.e⟩⟩
theorem BookAt.mv {C : Addr} {H H' : Hp} {k : Bk} {P : List (List Nat)} {τ : Tp} (h : BookAt C H k P) (m : Mv τ H H') (n : k.lb ≠ τ.t) : BookAt C H' k P :=
  ⟨m.keep _ _ (fun e => by obtain ⟨_, _, _, _, z, _⟩ := m.was.here; rw [← e, h.ins] at z; cases z) h.ins, h.par.tk m.tk, m.keep _ _ n h.bits⟩
/-! ### who is what: the plain law -/
theorem bitsOf_take : ∀ (P : List (List Nat)) (m : Nat), bitsOf (P.take m) = (bitsOf P).take m := by
  have key : ∀ (n : Nat) (P : List (List Nat)), P.length = n → ∀ m, bitsOf (P.take m) = (bitsOf P).take m := by
    intro n
    induction n with
    | zero =>
      intro P h m
      have e : P = [] := List.length_eq_zero_iff.mp h
      subst e
      simp [bitsOf]
    | succ n ih =>
      intro P h m
      have hne : P ≠ [] := by intro e; rw [e] at h; cases h
      have e : P = P.dropLast ++ [P.getLast hne] := (List.dropLast_concat_getLast hne).symm
      have hl : P.dropLast.length = n := by rw [List.length_dropLast, h]; rfl
      by_cases hm : m ≤ n
      · rw [e, List.take_append_of_le_length (by omega), ih _ hl, bitsOf_snoc, List.take_append_of_le_length (by rw [bitsOf_len]; omega)]
      · rw [List.take_of_length_le (by omega), List.take_of_length_le (by rw [bitsOf_len]; omega)]
  exact fun P => key P.length P rfl
theorem bitsOf_at (P : List (List Nat)) (j : Nat) (p : List Nat) (h : P[j]? = some p) : (bitsOf P)[j]? = some (upBits ((bitsOf P).take j) j p) := by
  have hj := (List.getElem?_eq_some_iff.mp h).1
  have e : P.take (j + 1) = P.take j ++ [p] := by rw [List.take_add_one, h]; rfl
  have e2 : (bitsOf P).take (j + 1) = (bitsOf P).take j ++ [upBits ((bitsOf P).take j) j p] := by
    have hl : ((bitsOf P).take j).length = j := by rw [List.length_take, bitsOf_len]; omega
    rw [← bitsOf_take, e, bitsOf_snoc, bitsOf_take, hl]
  have e3 : ((bitsOf P).take (j + 1))[j]? = (bitsOf P)[j]? := List.getElem?_take_of_lt (Nat.lt_succ_self j)
  have hl : ((bitsOf P).take j).length = j := by rw [List.length_take, bitsOf_len]; omega
  rw [← e3, e2, List.getElem?_append_right (by omega), hl, Nat.sub_self]
  rfl
theorem upBits_take {acc : List Nat} {j : Nat} {p : List Nat} (h : ∀ q ∈ p, q < j) : upBits (acc.take j) j p = upBits acc j p := by
  unfold upBits
  have key : ∀ (p : List Nat) (f : Nat), (∀ q ∈ p, q < j) → p.foldl (fun f q => f ||| (acc.take j).getD q 0) f = p.foldl (fun f q => f ||| acc.getD q 0) f := by
    intro p
    induction p with
    | nil => intro f _; rfl
    | cons q r ih =>
      intro f hq
      have e : (acc.take j).getD q 0 = acc.getD q 0 := by
        rw [List.getD_eq_getElem?_getD, List.getD_eq_getElem?_getD, List.getElem?_take_of_lt (hq q List.mem_cons_self)]
      rw [List.foldl_cons, List.foldl_cons, e, ih _ fun z hz => hq z (List.mem_cons_of_mem _ hz)]
  exact key p _ h
theorem isA_rec {P : List (List Nat)} (hR : RtP P) {x : Nat} {p : List Nat} (h : P[x]? = some p) (j : Nat) : isA P x j = (decide (x = j) || p.any fun q => isA P q j) := by
  have e : (bitsOf P).getD x 0 = upBits (bitsOf P) x p := by
    rw [List.getD_eq_getElem?_getD, bitsOf_at P x p h, upBits_take (hR x p h)]
    rfl
  unfold isA
  rw [e, upBits_at]
theorem isA_out {P : List (List Nat)} {x : Nat} (h : P.length ≤ x) (j : Nat) : isA P x j = false := by
  unfold isA
  rw [List.getD_eq_getElem?_getD, List.getElem?_eq_none (by rw [bitsOf_len]; exact h)]
  exact Nat.zero_testBit j
theorem isA_lt {P : List (List Nat)} {x j : Nat} (h : isA P x j = true) : x < P.length := by
  by_cases hx : x < P.length
  · exact hx
  · rw [isA_out (by omega)] at h
    cases h
theorem isA_le {P : List (List Nat)} (hR : RtP P) : ∀ {x j : Nat}, isA P x j = true → j ≤ x := by
  intro x
  induction x using Nat.strongRecOn with
  | ind x ih =>
    intro j h
    have hx := isA_lt h
    rw [isA_rec hR (List.getElem?_eq_getElem hx), Bool.or_eq_true, decide_eq_true_eq, List.any_eq_true] at h
    rcases h with h | ⟨q, hq, h⟩
    · omega
    · have l := hR x _ (List.getElem?_eq_getElem hx) q hq
      have := ih q l h
      omega
theorem isA_refl {P : List (List Nat)} (hR : RtP P) {x : Nat} (hx : x < P.length) : isA P x x = true := by
  rw [isA_rec hR (List.getElem?_eq_getElem hx), decide_eq_true rfl]
  rfl
theorem isA_trans {P : List (List Nat)} (hR : RtP P) : ∀ {x y z : Nat}, isA P x y = true → isA P y z = true → isA P x z = true := by
  intro x
  induction x using Nat.strongRecOn with
  | ind x ih =>
    intro y z h h2
    have hx := isA_lt h
    rw [isA_rec hR (List.getElem?_eq_getElem hx), Bool.or_eq_true, decide_eq_true_eq, List.any_eq_true] at h
    rcases h with h | ⟨q, hq, h⟩
    · rw [h]
      exact h2
    · have l := hR x _ (List.getElem?_eq_getElem hx) q hq
      rw [isA_rec hR (List.getElem?_eq_getElem hx), Bool.or_eq_true, List.any_eq_true]
      exact .inr ⟨q, hq, ih q l h h2⟩
theorem isA_take {P : List (List Nat)} {m x : Nat} (h : x < m) (j : Nat) : isA (P.take m) x j = isA P x j := by
  unfold isA
  rw [bitsOf_take, List.getD_eq_getElem?_getD, List.getD_eq_getElem?_getD, List.getElem?_take_of_lt h]
theorem RtP.take {P : List (List Nat)} (h : RtP P) (m : Nat) : RtP (P.take m) := fun j p e q hq => by
  rw [List.getElem?_take] at e
  split at e
  · exact h j p e q hq
  · cases e
theorem RtP.snoc {P : List (List Nat)} (h : RtP P) {p : List Nat} (hp : ∀ q ∈ p, q < P.length) : RtP (P ++ [p]) := fun j r e q hq => by
  by_cases hj : j < P.length
  · rw [List.getElem?_append_left hj] at e
    exact h j r e q hq
  · rw [List.getElem?_append_right (by omega)] at e
    have l := (List.getElem?_eq_some_iff.mp e).1
    rw [List.length_singleton] at l
    have ej : j - P.length = 0 := by omega
    rw [ej] at e
    have er : p = r := Option.some.inj e
    rw [← er] at hq
    have := hp q hq
    omega
/-- forebears, heirs; the lowest of a lot; plain parents -/
def foreB (P : List (List Nat)) (x : Nat) : List Nat := (List.range x).filter fun p => isA P x p
def heirB (P : List (List Nat)) (p : Nat) : List Nat := (List.range P.length).filter fun x => decide (p < x) && isA P x p
def lowB (P : List (List Nat)) (L : List Nat) : List Nat := L.filter fun p => !(L.any fun x => !decide (x = p) && isA P x p)
def plainB (P : List (List Nat)) : List (List Nat) := (List.range P.length).map fun x => lowB P (foreB P x)
theorem plainB_len (P : List (List Nat)) : (plainB P).length = P.length := by
  unfold plainB
  rw [List.length_map, List.length_range]
theorem plainB_at {P : List (List Nat)} {x : Nat} (h : x < P.length) : (plainB P)[x]? = some (lowB P (foreB P x)) := by
  unfold plainB
  rw [List.getElem?_map, List.getElem?_range h]
  rfl
theorem mem_foreB {P : List (List Nat)} {x p : Nat} : p ∈ foreB P x ↔ p < x ∧ isA P x p = true := by
  unfold foreB
  rw [List.mem_filter, List.mem_range]
theorem plainB_rt (P : List (List Nat)) : RtP (plainB P) := fun j p e q hq => by
  have hj := (List.getElem?_eq_some_iff.mp e).1
  rw [plainB_len] at hj
  rw [plainB_at hj] at e
  rw [← Option.some.inj e] at hq
  exact (mem_foreB.mp (List.mem_filter.mp hq).1).1
theorem low_above {P : List (List Nat)} (hR : RtP P) {x p : Nat} (hp : p < x) (h : isA P x p = true) : ∃ q ∈ lowB P (foreB P x), isA P q p = true := by
  have key : ∀ n q, x - q = n → q < x → isA P x q = true → isA P q p = true → ∃ q ∈ lowB P (foreB P x), isA P q p = true := by
    intro n
    induction n using Nat.strongRecOn with
    | ind n ih =>
      intro q hn hq hxq hqp
      by_cases hl : q ∈ lowB P (foreB P x)
      · exact ⟨q, hl, hqp⟩
      · have hf : q ∈ foreB P x := mem_foreB.mpr ⟨hq, hxq⟩
        have ha : ((foreB P x).any fun y => !decide (y = q) && isA P y q) = true := by
          cases e : ((foreB P x).any fun y => !decide (y = q) && isA P y q) with
          | true => rfl
          | false => exact absurd (List.mem_filter.mpr ⟨hf, by simp [e]⟩) hl
        obtain ⟨y, hy, hz⟩ := List.any_eq_true.mp ha
        rw [Bool.and_eq_true, Bool.not_eq_true', decide_eq_false_iff_not] at hz
        have l := isA_le hR hz.2
        obtain ⟨y1, y2⟩ := mem_foreB.mp hy
        exact ih (x - y) (by omega) y rfl y1 y2 (isA_trans hR hz.2 hqp)
  exact key _ p rfl hp h (isA_refl hR (by have := isA_lt h; omega))
theorem isA_plain {P : List (List Nat)} (hR : RtP P) : ∀ (x j : Nat), isA (plainB P) x j = isA P x j := by
  intro x
  induction x using Nat.strongRecOn with
  | ind x ih =>
    intro j
    by_cases hx : x < P.length
    · have l : ∀ q ∈ lowB P (foreB P x), q < x ∧ isA P x q = true := fun q hq => mem_foreB.mp (List.mem_filter.mp hq).1
      rw [isA_rec (plainB_rt P) (plainB_at hx)]
      rw [Bool.eq_iff_iff, Bool.or_eq_true, decide_eq_true_eq, List.any_eq_true]
      constructor
      · rintro (h | ⟨q, hq, h⟩)
        · rw [← h]
          exact isA_refl hR hx
        · rw [ih q (l q hq).1] at h
          exact isA_trans hR (l q hq).2 h
      · intro h
        by_cases e : x = j
        · exact .inl e
        · have := isA_le hR h
          obtain ⟨q, hq, hz⟩ := low_above hR (by omega) h
          exact .inr ⟨q, hq, by rw [ih q (l q hq).1]; exact hz⟩
    · rw [isA_out (P := P) (by omega), isA_out (P := plainB P) (by rw [plainB_len]; omega)]
theorem foreB_plain {P : List (List Nat)} (hR : RtP P) (x : Nat) : foreB (plainB P) x = foreB P x := by
  unfold foreB
  congr 1
  funext j
  rw [isA_plain hR]
theorem lowB_plain {P : List (List Nat)} (hR : RtP P) (L : List Nat) : lowB (plainB P) L = lowB P L := by
  unfold lowB
  congr 1
  funext p
  congr 2
  funext x
  rw [isA_plain hR]
theorem plainB_plainB {P : List (List Nat)} (hR : RtP P) : plainB (plainB P) = plainB P := by
  show (List.range (plainB P).length).map (fun x => lowB (plainB P) (foreB (plainB P) x)) = (List.range P.length).map fun x => lowB P (foreB P x)
  rw [plainB_len]
  congr 1
  funext x
  rw [foreB_plain hR, lowB_plain hR]
/-- 300 in a row, 300 beside one another -/
def chainP (n : Nat) : List (List Nat) := [] :: (List.range n).map fun k => [k]
def wideP (n : Nat) : List (List Nat) := List.replicate n []
theorem chainP_len (n : Nat) : (chainP n).length = n + 1 := by simp [chainP]
theorem chainP_at {n j : Nat} (h : j < n) : (chainP n)[j + 1]? = some [j] := by
  unfold chainP
  rw [List.getElem?_cons_succ, List.getElem?_map, List.getElem?_range h]
  rfl
theorem chainP_rt (n : Nat) : RtP (chainP n) := fun j p e q hq => by
  cases j with
  | zero => rw [show (chainP n)[0]? = some [] from rfl] at e; rw [← Option.some.inj e] at hq; cases hq
  | succ j =>
    have hj := (List.getElem?_eq_some_iff.mp e).1
    rw [chainP_len] at hj
    rw [chainP_at (by omega)] at e
    rw [← Option.some.inj e, List.mem_singleton] at hq
    omega
theorem isA_chain {n : Nat} : ∀ {x : Nat}, x ≤ n → ∀ j, isA (chainP n) x j = decide (j ≤ x)
  | 0, _, j => by
    rw [isA_rec (chainP_rt n) (show (chainP n)[0]? = some [] from rfl)]
    simp only [List.any_nil, Bool.or_false]
    exact decide_eq_decide.mpr (by omega)
  | x + 1, h, j => by
    rw [isA_rec (chainP_rt n) (chainP_at (by omega)), List.any_cons, List.any_nil, Bool.or_false, isA_chain (by omega) j, ← Bool.decide_or]
    exact decide_eq_decide.mpr (by omega)
theorem wideP_rt (n : Nat) : RtP (wideP n) := fun j p e q hq => by
  have := List.mem_of_getElem? e
  rw [List.eq_of_mem_replicate this] at hq
  cases hq
theorem isA_wide {n x : Nat} (h : x < n) (j : Nat) : isA (wideP n) x j = decide (x = j) := by
  rw [isA_rec (wideP_rt n) (p := []) (by unfold wideP; rw [List.getElem?_replicate, if_pos h])]
  simp
/-- the items of a list are tuples of numbers -/
def RN (f : Nat → List Nat) (i : Nat) (v : V) (H : Hp) : Prop := ∃ a, v = .ref a ∧ H a = some (.tup (natsV (f i)))
theorem RN.tk (f : Nat → List Nat) (i : Nat) (v : V) (H H' : Hp) (h : RN f i v H) (k : TK H H') : RN f i v H' := by
  obtain ⟨a, e, x⟩ := h
  exact ⟨a, e, k _ _ x⟩
theorem parL_of {H : Hp} {acc : List V} {n : Nat} {f : Nat → List Nat} (hl : acc.length = n) (h : ∀ (j : Nat) v, acc[j]? = some v → RN f j v H) : ParL H acc ((List.range n).map f) := by
  refine ⟨by rw [hl, List.length_map, List.length_range], fun j p e => ?_⟩
  have hj := (List.getElem?_eq_some_iff.mp e).1
  rw [List.length_map, List.length_range] at hj
  rw [List.getElem?_map, List.getElem?_range hj] at e
  have ep : f j = p := Option.some.inj e
  obtain ⟨a, e1, e2⟩ := h j _ (List.getElem?_eq_getElem (by omega))
  rw [ep] at e2
  exact ⟨a, by rw [List.getElem?_eq_getElem (by omega), e1], e2⟩
/-- the parents of the kind i -/
def RowR (i : Nat) (v : V) (H : Hp) : Prop := ∃ a q, v = .ref a ∧ H a = some (.tup (natsV q)) ∧ OkL q i
theorem RowR.tk {i : Nat} {v : V} {H H' : Hp} (h : RowR i v H) (k : TK H H') : RowR i v H' := by
  obtain ⟨a, q, e, x, o⟩ := h
  exact ⟨a, q, e, k _ _ x, o⟩
theorem rows_of {H : Hp} {acc : List V} {n : Nat} (hn : n ≤ 400) (hl : acc.length = n) (h : ∀ (j : Nat) v, acc[j]? = some v → RowR j v H) : ∃ P, ParL H acc P ∧ OkP P ∧ P.length = n := by
  obtain ⟨f, hf⟩ := Classical.axiomOfChoice (r := fun (j : Nat) (q : List Nat) => j < n → ∃ a, acc[j]? = some (.ref a) ∧ H a = some (.tup (natsV q)) ∧ OkL q j) (fun j => by
    by_cases hj : j < n
    · obtain ⟨a, q, e, x, o⟩ := h j _ (List.getElem?_eq_getElem (by omega))
      exact ⟨q, fun _ => ⟨a, by rw [List.getElem?_eq_getElem (by omega), e], x, o⟩⟩
    · exact ⟨[], fun z => absurd z hj⟩)
  refine ⟨(List.range n).map f, parL_of hl fun j v e => ?_, ⟨fun j q e => ?_, ?_⟩, ?_⟩
  · have hj := (List.getElem?_eq_some_iff.mp e).1
    obtain ⟨a, e1, e2, _⟩ := hf j (by omega)
    rw [e] at e1
    exact ⟨a, Option.some.inj e1, e2⟩
  · have hj := (List.getElem?_eq_some_iff.mp e).1
    rw [List.length_map, List.length_range] at hj
    rw [List.getElem?_map, List.getElem?_range hj] at e
    obtain ⟨_, _, _, o⟩ := hf j hj
    rw [← Option.some.inj e]
    exact o
  · rw [List.length_map, List.length_range]
    exact hn
  · rw [List.length_map, List.length_range]
theorem nats_of {n : Nat} : ∀ {ns : List Int}, ns.Pairwise (· < ·) → (∀ x ∈ ns, ∃ z : Nat, z < n ∧ x = (z : Int)) → ∃ ks : List Nat, ns = ks.map (fun z : Nat => (z : Int)) ∧ (∀ k ∈ ks, k < n) ∧ ks.Pairwise (· < ·)
  | [], _, _ => ⟨[], rfl, (fun k hk => by cases hk), List.Pairwise.nil⟩
  | x :: r, hp, h => by
    obtain ⟨h1, h2⟩ := List.pairwise_cons.mp hp
    obtain ⟨ks, e, hk, hkp⟩ := nats_of h2 fun y hy => h y (List.mem_cons_of_mem _ hy)
    obtain ⟨z, hz, ez⟩ := h x List.mem_cons_self
    refine ⟨z :: ks, by rw [e, ez]; rfl, fun k hk2 => ?_, List.pairwise_cons.mpr ⟨fun k hk2 => ?_, hkp⟩⟩
    · rcases List.mem_cons.mp hk2 with e2 | e2
      · rw [e2]; exact hz
      · exact hk k e2
    · have := h1 (k : Int) (by rw [e]; exact List.mem_map.mpr ⟨k, hk2, rfl⟩)
      omega
theorem nodup_le : ∀ (m : Nat) {ks : List Nat}, ks.Nodup → (∀ k ∈ ks, k < m) → ks.length ≤ m
  | 0, [], _, _ => Nat.le_refl _
  | 0, k :: r, _, h => absurd (h k List.mem_cons_self) (Nat.not_lt_zero _)
  | m + 1, ks, hn, h => by
    by_cases z : m ∈ ks
    · have l := List.length_erase_of_mem z
      have ih := nodup_le m (hn.erase m) fun k hk => by
        have q := (List.Nodup.mem_erase_iff hn).mp hk
        have := h k q.2
        omega
      have := List.length_pos_of_mem z
      omega
    · have ih := nodup_le m hn fun k hk => by
        have := h k hk
        have : k ≠ m := fun e => z (e ▸ hk)
        omega
      omega
/-! ### clauses -/
def optV : Option Int → V
  | none => .non
  | some i => .int i
def ClsL (H : Hp) (vs : List V) (Cs : List (Nat × Int)) : Prop := vs.length = Cs.length ∧ ∀ (j : Nat) c, Cs[j]? = some c → ∃ a, vs[j]? = some (.ref a) ∧ H a = some (.tup [.int (c.1 : Int), .int c.2])
def ClsAt (H : Hp) (a : Addr) (Cs : List (Nat × Int)) : Prop := ∃ vs, H a = some (.tup vs) ∧ ClsL H vs Cs
theorem ClsL.tk {H H' : Hp} {vs : List V} {Cs : List (Nat × Int)} (h : ClsL H vs Cs) (k : TK H H') : ClsL H' vs Cs := ⟨h.1, fun j p e => by
  obtain ⟨a, e1, e2⟩ := h.2 j p e
  exact ⟨a, e1, k _ _ e2⟩⟩
theorem ClsAt.tk {H H' : Hp} {a : Addr} {Cs : List (Nat × Int)} (h : ClsAt H a Cs) (k : TK H H') : ClsAt H' a Cs := by
  obtain ⟨vs, e, l⟩ := h
  exact ⟨vs, k _ _ e, l.tk k⟩
theorem ClsL.here {H : Hp} {vs : List V} {Cs : List (Nat × Int)} (h : ClsL H vs Cs) {j : Nat} {x : V} (e : vs[j]? = some x) : ∃ a c, x = .ref a ∧ Cs[j]? = some c ∧ H a = some (.tup [.int (c.1 : Int), .int c.2]) := by
  have hj := (List.getElem?_eq_some_iff.mp e).1
  rw [h.1] at hj
  obtain ⟨a, e1, e2⟩ := h.2 j _ (List.getElem?_eq_getElem hj)
  rw [e] at e1
  exact ⟨a, _, Option.some.inj e1, List.getElem?_eq_getElem hj, e2⟩
theorem ClsL.take {H : Hp} {vs : List V} {Cs : List (Nat × Int)} (h : ClsL H vs Cs) (m : Nat) : ClsL H (vs.take m) (Cs.take m) := by
  refine ⟨by rw [List.length_take, List.length_take, h.1], fun j q hq => ?_⟩
  rw [List.getElem?_take] at hq
  split at hq
  · rename_i hm
    rw [List.getElem?_take_of_lt hm]
    exact h.2 j q hq
  · cases hq
theorem ClsL.snoc {H : Hp} {vs : List V} {Cs : List (Nat × Int)} (h : ClsL H vs Cs) {a : Addr} {c : Nat × Int} (e : H a = some (.tup [.int (c.1 : Int), .int c.2])) : ClsL H (vs ++ [.ref a]) (Cs ++ [c]) := by
  refine ⟨by rw [List.length_append, List.length_append, h.1]; rfl, fun j q hq => ?_⟩
  by_cases hj : j < Cs.length
  · rw [List.getElem?_append_left hj] at hq
    rw [List.getElem?_append_left (by rw [h.1]; exact hj)]
    exact h.2 j q hq
  · rw [List.getElem?_append_right (by omega)] at hq
    have l := (List.getElem?_eq_some_iff.mp hq).1
    rw [List.length_singleton] at l
    have ej : j - Cs.length = 0 := by omega
    rw [ej] at hq
    have er : c = q := Option.some.inj hq
    rw [List.getElem?_append_right (by rw [h.1]; omega), h.1, ej, ← er]
    exact ⟨a, rfl, e⟩
/-- the first place that is met; the label there -/
def firstB (Cs : List (Nat × Int)) (S : Nat → Bool) : Nat := Cs.findIdx fun c => S c.1
def labB (Cs : List (Nat × Int)) (S : Nat → Bool) : Option Int := (Cs[firstB Cs S]?).map (·.2)
theorem labB_congr {Cs : List (Nat × Int)} {S T : Nat → Bool} (h : ∀ c ∈ Cs, S c.1 = T c.1) : labB Cs S = labB Cs T := by
  have key : ∀ Cs : List (Nat × Int), (∀ c ∈ Cs, S c.1 = T c.1) → firstB Cs S = firstB Cs T := by
    intro Cs
    induction Cs with
    | nil => intro _; rfl
    | cons c r ih =>
      intro h
      have ih := ih fun d hd => h d (List.mem_cons_of_mem _ hd)
      unfold firstB at ih ⊢
      rw [List.findIdx_cons, List.findIdx_cons, h c List.mem_cons_self, ih]
  unfold labB
  rw [key Cs h]
theorem first_drop {Cs : List (Nat × Int)} {S : Nat → Bool} {i : Nat} {c : Nat × Int} (hc : Cs[i]? = some c) (h : firstB Cs S = i + firstB (Cs.drop i) S) : firstB Cs S = if S c.1 then i else (i + 1) + firstB (Cs.drop (i + 1)) S := by
  have il := (List.getElem?_eq_some_iff.mp hc).1
  have hd : Cs.drop i = c :: Cs.drop (i + 1) := by
    rw [List.drop_eq_getElem_cons il]
    rw [List.getElem?_eq_getElem il] at hc
    rw [Option.some.inj hc]
  rw [h, hd]
  unfold firstB
  rw [List.findIdx_cons]
  cases S c.1 with
  | true => rfl
  | false => show i + ((Cs.drop (i + 1)).findIdx (fun c => S c.1) + 1) = _; simp only [Bool.false_eq_true, if_false]; omega
theorem all_true (n : Nat) : (List.range n).filterMap (fun _ => some (V.bl true)) = (List.replicate n true).map V.bl := by
  rw [show (fun _ : Nat => some (V.bl true)) = some ∘ (fun _ : Nat => V.bl true) from rfl, List.filterMap_eq_map, List.map_replicate]
  exact List.eq_replicate_iff.mpr ⟨by rw [List.length_map, List.length_range], fun b hb => by
    obtain ⟨x, _, e⟩ := List.mem_map.mp hb
    exact e.symm⟩
theorem all_id (n : Nat) : (List.replicate n true).all id = true := List.all_eq_true.mpr fun x hx => (List.eq_of_mem_replicate hx)
theorem filter_natsV (p : Nat → Bool) (f : Nat → Nat) (n : Nat) : (List.range n).filterMap (fun i => if p i = true then some (V.int ((f i : Nat) : Int)) else none) = natsV (((List.range n).filter p).map f) := by
  unfold natsV
  induction n with
  | zero => rfl
  | succ n ih =>
    rw [filterMap_range_succ, ih, List.range_succ, List.filter_append, List.map_append, List.map_append]
    congr 1
    rw [List.filter_cons]
    cases p n <;> rfl
theorem filter_nats (p : Nat → Bool) (n : Nat) : (List.range n).filterMap (fun i => if p i = true then some (V.int (i : Int)) else none) = natsV ((List.range n).filter p) := by
  have h := filter_natsV p id n
  rw [List.map_id] at h
  exact h
theorem slice_any {K : PySem.W.Frag} {H : Hp} {a : Addr} {xs : List V} {m : Nat} {Q : VK} (hx : H a = some (.tup xs)) (hm : m ≤ xs.length)
    (k : ∀ p H', Same H H' → H' p = some (.tup (xs.take m)) → Q (.ref p) H') : rSlA K (.ref a) none (some (m : Int)) H Q := by
  have e0 : HT.sIx xs.length 0 none = 0 := rfl
  have e1 : HT.sIx xs.length xs.length (some (m : Int)) = m := by
    rw [HT.sIx_nat]
    omega
  refine ⟨a, xs, rfl, SqT.of hx, fun e => ?_, fun _ p np => ?_⟩
  · rw [e1] at e
    exact k a H (Same.refl H) (by rw [hx, e.2, List.take_length])
  · refine k p _ (Same.new (Same.refl H) np) ?_
    rw [upd_same]
    unfold cutV
    rw [e0, e1]
    rfl
theorem ixn_nat {n j : Nat} (hj : j < n) : ixN n (j : Int) = some j := by
  unfold ixN
  rw [if_pos (by omega), if_pos (by omega)]
  simp
/-! ### words for books -/
local macro_rules | `(tactic| tm_at "fld") => `(tactic| refine ⟨_, _, _, _, _, rfl, by tm_at "hp", by assumption, by assumption, by first | exact bkF_bits _ _ | exact bkF_parents _ _ | fail "fld", ?_⟩)
structure Top (K : PySem.W.Frag) (mg : Str → Option Value) where
  C_Book : Addr
  g_Book : mg "Book" = some (.ref C_Book)
  cl_Book : Cls K C_Book
  ty_Book : InsT K C_Book
  n_Book_parents : NoAttr K C_Book "parents"
  n_Book_bits : NoAttr K C_Book "bits"
  c_MOST_KINDS : ∃ t, mg "MOST_KINDS" = some (.int 400 t)
  c_MOST_PARENTS : ∃ t, mg "MOST_PARENTS" = some (.int 6 t)
  c_MOST_CLAUSES : ∃ t, mg "MOST_CLAUSES" = some (.int 40 t)
  f_is_integer : Addr
  fd_is_integer : FuncData
  F_is_integer : Fun K "is_integer" "is_integer" s_is_integer f_is_integer fd_is_integer
  b_is_integer : Binds K fd_is_integer ["thing"] []
  g_is_integer : mg "is_integer" = some (.ref f_is_integer)
  f_is_within : Addr
  fd_is_within : FuncData
  F_is_within : Fun K "is_within" "is_within" s_is_within f_is_within fd_is_within
  b_is_within : Binds K fd_is_within ["thing", "least", "most"] []
  g_is_within : mg "is_within" = some (.ref f_is_within)
  f_is_pair : Addr
  fd_is_pair : FuncData
  F_is_pair : Fun K "is_pair" "is_pair" s_is_pair f_is_pair fd_is_pair
  b_is_pair : Binds K fd_is_pair ["thing"] []
  g_is_pair : mg "is_pair" = some (.ref f_is_pair)
  f_is_lot : Addr
  fd_is_lot : FuncData
  F_is_lot : Fun K "is_lot" "is_lot" s_is_lot f_is_lot fd_is_lot
  b_is_lot : Binds K fd_is_lot ["thing", "many"] []
  g_is_lot : mg "is_lot" = some (.ref f_is_lot)
  f_are_parents : Addr
  fd_are_parents : FuncData
  F_are_parents : Fun K "are_parents" "are_parents" s_are_parents f_are_parents fd_are_parents
  b_are_parents : Binds K fd_are_parents ["thing", "number"] []
  g_are_parents : mg "are_parents" = some (.ref f_are_parents)
  f_Book_fill : Addr
  fd_Book_fill : FuncData
  F_Book_fill : Fun K "fill" "Book.fill" s_Book_fill f_Book_fill fd_Book_fill
  b_Book_fill : Binds K fd_Book_fill ["self", "parents"] []
  m_Book_fill : Meth K C_Book "fill" f_Book_fill
  f_Book___init__ : Addr
  fd_Book___init__ : FuncData
  F_Book___init__ : Fun K "__init__" "Book.__init__" s_Book___init__ f_Book___init__ fd_Book___init__
  b_Book___init__ : Binds K fd_Book___init__ ["self", "parents"] []
  m_Book___init__ : Meth K C_Book "__init__" f_Book___init__
  M_Book : Mk K C_Book f_Book___init__
  f_grown : Addr
  fd_grown : FuncData
  F_grown : Fun K "grown" "grown" s_grown f_grown fd_grown
  b_grown : Binds K fd_grown ["book", "parents"] []
  g_grown : mg "grown" = some (.ref f_grown)
  f_many_of : Addr
  fd_many_of : FuncData
  F_many_of : Fun K "many_of" "many_of" s_many_of f_many_of fd_many_of
  b_many_of : Binds K fd_many_of ["book"] []
  g_many_of : mg "many_of" = some (.ref f_many_of)
  f_is_one : Addr
  fd_is_one : FuncData
  F_is_one : Fun K "is_one" "is_one" s_is_one f_is_one fd_is_one
  b_is_one : Binds K fd_is_one ["book", "x", "p"] []
  g_is_one : mg "is_one" = some (.ref f_is_one)
  f_check_kind_of : Addr
  fd_check_kind_of : FuncData
  F_check_kind_of : Fun K "check_kind_of" "check_kind_of" s_check_kind_of f_check_kind_of fd_check_kind_of
  b_check_kind_of : Binds K fd_check_kind_of ["thing", "many"] []
  g_check_kind_of : mg "check_kind_of" = some (.ref f_check_kind_of)
  f_check_kind : Addr
  fd_check_kind : FuncData
  F_check_kind : Fun K "check_kind" "check_kind" s_check_kind f_check_kind fd_check_kind
  b_check_kind : Binds K fd_check_kind ["book", "thing"] []
  g_check_kind : mg "check_kind" = some (.ref f_check_kind)
  f_loaded : Addr
  fd_loaded : FuncData
  F_loaded : Fun K "loaded" "loaded" s_loaded f_loaded fd_loaded
  b_loaded : Binds K fd_loaded ["book", "parents"] []
  g_loaded : mg "loaded" = some (.ref f_loaded)
  f_are_clauses : Addr
  fd_are_clauses : FuncData
  F_are_clauses : Fun K "are_clauses" "are_clauses" s_are_clauses f_are_clauses fd_are_clauses
  b_are_clauses : Binds K fd_are_clauses ["book", "thing"] []
  g_are_clauses : mg "are_clauses" = some (.ref f_are_clauses)
  f_check_clauses : Addr
  fd_check_clauses : FuncData
  F_check_clauses : Fun K "check_clauses" "check_clauses" s_check_clauses f_check_clauses fd_check_clauses
  b_check_clauses : Binds K fd_check_clauses ["book", "thing"] []
  g_check_clauses : mg "check_clauses" = some (.ref f_check_clauses)
  f_first_place : Addr
  fd_first_place : FuncData
  F_first_place : Fun K "first_place" "first_place" s_first_place f_first_place fd_first_place
  b_first_place : Binds K fd_first_place ["book", "clauses", "x"] []
  g_first_place : mg "first_place" = some (.ref f_first_place)
  f_label_at : Addr
  fd_label_at : FuncData
  F_label_at : Fun K "label_at" "label_at" s_label_at f_label_at fd_label_at
  b_label_at : Binds K fd_label_at ["clauses", "place"] []
  g_label_at : mg "label_at" = some (.ref f_label_at)
  f_label_of : Addr
  fd_label_of : FuncData
  F_label_of : Fun K "label_of" "label_of" s_label_of f_label_of fd_label_of
  b_label_of : Binds K fd_label_of ["book", "clauses", "x"] []
  g_label_of : mg "label_of" = some (.ref f_label_of)
  f_never_met : Addr
  fd_never_met : FuncData
  F_never_met : Fun K "never_met" "never_met" s_never_met f_never_met fd_never_met
  b_never_met : Binds K fd_never_met ["book", "clauses"] []
  g_never_met : mg "never_met" = some (.ref f_never_met)
  f_places_of : Addr
  fd_places_of : FuncData
  F_places_of : Fun K "places_of" "places_of" s_places_of f_places_of fd_places_of
  b_places_of : Binds K fd_places_of ["book", "one", "other"] []
  g_places_of : mg "places_of" = some (.ref f_places_of)
  f_parting_of : Addr
  fd_parting_of : FuncData
  F_parting_of : Fun K "parting_of" "parting_of" s_parting_of f_parting_of fd_parting_of
  b_parting_of : Binds K fd_parting_of ["book", "one", "other"] []
  g_parting_of : mg "parting_of" = some (.ref f_parting_of)
  f_parting : Addr
  fd_parting : FuncData
  F_parting : Fun K "parting" "parting" s_parting f_parting fd_parting
  b_parting : Binds K fd_parting ["book", "one", "other"] []
  g_parting : mg "parting" = some (.ref f_parting)
  f_alike : Addr
  fd_alike : FuncData
  F_alike : Fun K "alike" "alike" s_alike f_alike fd_alike
  b_alike : Binds K fd_alike ["book", "one", "other"] []
  g_alike : mg "alike" = some (.ref f_alike)
  f__law_hand : Addr
  fd__law_hand : FuncData
  F__law_hand : Fun K "_law_hand" "_law_hand" s__law_hand f__law_hand fd__law_hand
  b__law_hand : Binds K fd__law_hand ["_law_script"] []
  g__law_hand : mg "_law_hand" = some (.ref f__law_hand)
  f__law_draw : Addr
  fd__law_draw : FuncData
  F__law_draw : Fun K "_law_draw" "_law_draw" s__law_draw f__law_draw fd__law_draw
  b__law_draw : Binds K fd__law_draw ["_law_hand_here", "_law_many"] []
  g__law_draw : mg "_law_draw" = some (.ref f__law_draw)
  f__law_is : Addr
  fd__law_is : FuncData
  F__law_is : Fun K "_law_is" "_law_is" s__law_is f__law_is fd__law_is
  b__law_is : Binds K fd__law_is ["_law_told", "_law_due"] []
  g__law_is : mg "_law_is" = some (.ref f__law_is)
  f__law_flag : Addr
  fd__law_flag : FuncData
  F__law_flag : Fun K "_law_flag" "_law_flag" s__law_flag f__law_flag fd__law_flag
  b__law_flag : Binds K fd__law_flag ["_law_told", "_law_due"] []
  g__law_flag : mg "_law_flag" = some (.ref f__law_flag)
  f__law_parents : Addr
  fd__law_parents : FuncData
  F__law_parents : Fun K "_law_parents" "_law_parents" s__law_parents f__law_parents fd__law_parents
  b__law_parents : Binds K fd__law_parents ["_law_hand_here", "_law_many", "_law_most"] []
  g__law_parents : mg "_law_parents" = some (.ref f__law_parents)
  f__law_sheet : Addr
  fd__law_sheet : FuncData
  F__law_sheet : Fun K "_law_sheet" "_law_sheet" s__law_sheet f__law_sheet fd__law_sheet
  b__law_sheet : Binds K fd__law_sheet ["_law_parents_here"] []
  g__law_sheet : mg "_law_sheet" = some (.ref f__law_sheet)
  f__law_clauses : Addr
  fd__law_clauses : FuncData
  F__law_clauses : Fun K "_law_clauses" "_law_clauses" s__law_clauses f__law_clauses fd__law_clauses
  b__law_clauses : Binds K fd__law_clauses ["_law_hand_here", "_law_many", "_law_size"] []
  g__law_clauses : mg "_law_clauses" = some (.ref f__law_clauses)
  f__law_places : Addr
  fd__law_places : FuncData
  F__law_places : Fun K "_law_places" "_law_places" s__law_places f__law_places fd__law_places
  b__law_places : Binds K fd__law_places ["_law_clauses_here", "_law_sheet_here"] []
  g__law_places : mg "_law_places" = some (.ref f__law_places)
  f__law_parting : Addr
  fd__law_parting : FuncData
  F__law_parting : Fun K "_law_parting" "_law_parting" s__law_parting f__law_parting fd__law_parting
  b__law_parting : Binds K fd__law_parting ["_law_one", "_law_other", "_law_sheet_here"] []
  g__law_parting : mg "_law_parting" = some (.ref f__law_parting)
  f_law : Addr
  fd_law : FuncData
  F_law : Fun K "law" "law" s_law f_law fd_law
  b_law : Binds K fd_law ["_law_script"] []
  g_law : mg "law" = some (.ref f_law)
  z_abs : mg "abs" = none
  z_all : mg "all" = none
  z_bool : mg "bool" = none
  z_enumerate : mg "enumerate" = none
  z_int : mg "int" = none
  z_isinstance : mg "isinstance" = none
  z_len : mg "len" = none
  z_list : mg "list" = none
  z_min : mg "min" = none
  z_range : mg "range" = none
  z_set : mg "set" = none
  z_sorted : mg "sorted" = none
  z_tuple : mg "tuple" = none
  z_zip : mg "zip" = none
section
variable {P : Program} {w : World} {K : PySem.W.Frag} {mg : Str → Option Value} {base : Heap}
/-! is_integer -/
def sp_is_integer (K : PySem.W.Frag) : Sp := fun vs H Q _ => ∃ v, vs = [v] ∧ IntK K H v ∧ Q (.bl (isIntB v)) H
theorem sc_is_integer : FnScope ["thing"] ["thing"] (defScope s_is_integer) := ⟨rfl, rfl, rfl, by decide +kernel, rfl, by decide +kernel, by decide +kernel⟩
theorem ok_is_integer (T : Top K mg) : FnOk P w K mg base CX0 1 T.f_is_integer T.fd_is_integer ["thing"] (sp_is_integer K) := by
  refine T.F_is_integer.ok sc_is_integer (fun vs H Q E h => ?_) (fun cdv A outer s H vs Q E hr h => ?_)
  · obtain ⟨v, rfl, _⟩ := h
    rfl
  · obtain ⟨v, rfl, ⟨t, bi, bb, ht, hi, hb, e⟩, k⟩ := h
    refine ⟨_, (pss_one (ps_ret (pe_and (pe_callB (r := rIsi K) (id := "isinstance") call_isi (by rfl) T.z_isinstance (by decide +kernel) (pa_cons (pv 0) (pa_cons (pe_bltn (v := .ty "int") (u := .type "int") (by rfl) T.z_int (by decide +kernel) rfl) pa_nil))) (pe_one (pe_not (pe_callB (r := rIsi K) (id := "isinstance") call_isi (by rfl) T.z_isinstance (by decide +kernel) (pa_cons (pv 0) (pa_cons (pe_bltn (v := .ty "bool") (u := .type "bool") (by rfl) T.z_bool (by decide +kernel) rfl) pa_nil)))))))), ?_⟩
    tm_at "w"
    cases bi with
    | false =>
      rw [← e] at k
      tm_at "w"
      exact k
    | true =>
      rw [← e] at k
      tm_at "w"
      exact k
/-! is_within -/
def sp_is_within (K : PySem.W.Frag) : Sp := fun vs H Q _ => ∃ (v : V) (lo hi : Int), vs = [v, .int lo, .int hi] ∧ IntK K H v ∧ Q (.bl (withinB v lo hi)) H
theorem sc_is_within : FnScope ["thing", "least", "most"] ["thing", "least", "most"] (defScope s_is_within) := ⟨rfl, rfl, rfl, by decide +kernel, rfl, by decide +kernel, by decide +kernel⟩
theorem ok_is_within (T : Top K mg) : FnOk P w K mg base CX0 2 T.f_is_within T.fd_is_within ["thing", "least", "most"] (sp_is_within K) := by
  have G_is_integer := ok_is_integer (P := P) (w := w) (base := base) T
  refine T.F_is_within.ok sc_is_within (fun vs H Q E h => ?_) (fun cdv A outer s H vs Q E hr h => ?_)
  · obtain ⟨v, lo, hi, rfl, _⟩ := h
    rfl
  · obtain ⟨v, lo, hi, rfl, hk, k⟩ := h
    refine ⟨_, (pss_one (ps_ret (pe_and (pe_call G_is_integer hr (by rfl) T.g_is_integer T.F_is_integer.kp T.b_is_integer .nil pass0 (pa_cons (pv 0) pa_nil)) (pe_one (pe_chain op_le op_le (pv 1) (pv 0) (pv 2)))))), ?_⟩
    refine ⟨v, rfl, v, rfl, hk, _, rfl, ?_⟩
    cases v with
    | int i =>
      refine iteT ?_
      tm_at "w"
      refine iteD (fun h1 => ?_) (fun h1 => ?_)
      · tm_at "w"
        have e : withinB (.int i) lo hi = decide (i ≤ hi) := by
          show (decide (lo ≤ i) && decide (i ≤ hi)) = _
          rw [decide_eq_true h1, Bool.true_and]
        rw [e] at k
        exact k
      · have e : withinB (.int i) lo hi = false := by
          show (decide (lo ≤ i) && decide (i ≤ hi)) = _
          rw [decide_eq_false h1, Bool.false_and]
        rw [e] at k
        exact k
    | _ =>
      refine iteF ?_
      exact k
/-! is_pair -/
def sp_is_pair (K : PySem.W.Frag) : Sp := fun vs H Q _ => ∃ (a : Addr) (xs : List V), vs = [.ref a] ∧ H a = some (.tup xs) ∧ Q (.bl (decide (xs.length = 2))) H
theorem sc_is_pair : FnScope ["thing"] ["thing"] (defScope s_is_pair) := ⟨rfl, rfl, rfl, by decide +kernel, rfl, by decide +kernel, by decide +kernel⟩
theorem ok_is_pair (T : Top K mg) : FnOk P w K mg base CX0 1 T.f_is_pair T.fd_is_pair ["thing"] (sp_is_pair K) := by
  refine T.F_is_pair.ok sc_is_pair (fun vs H Q E h => ?_) (fun cdv A outer s H vs Q E hr h => ?_)
  · obtain ⟨a, xs, rfl, _⟩ := h
    rfl
  · obtain ⟨a, xs, rfl, ha, k⟩ := h
    refine ⟨_, (pss_one (ps_ret (pe_and (pe_callB (r := rIsi K) (id := "isinstance") call_isi (by rfl) T.z_isinstance (by decide +kernel) (pa_cons (pv 0) (pa_cons (pe_bltn (v := .ty "tuple") (u := .type "tuple") (by rfl) T.z_tuple (by decide +kernel) rfl) pa_nil))) (pe_one (pe_cmpR op_eq (pe_callB (r := rLenQ K) (id := "len") call_len_seq (by rfl) T.z_len (by decide +kernel) (pa_cons (pv 0) pa_nil)) pe_int (nomark _)))))), ?_⟩
    have ty := ty_tup (K := K) ha
    have tt := tup_tup (K := K)
    tm_at "w"
    have e : decide (V.int (xs.length : Int) = V.int 2) = decide (xs.length = 2) := dec_nat (a := xs.length) (b := 2)
    rw [← e] at k
    exact k
/-! is_lot -/
/-- an ascending run of whole numbers above last, below m -/
def lotFrom (m : Int) : Int → List V → Bool
  | _, [] => true
  | last, x :: r => withinB x (last + 1) (m - 1) && lotFrom m (match x with | .int i => i | _ => 0) r
def sp_is_lot (K : PySem.W.Frag) : Sp := fun vs H Q _ => ∃ (v : V) (t : Value) (bt : Bool) (m : Int), vs = [v, .int m] ∧ TyX K H v t ∧ PySem.W.kitOne K t (.type "tuple") = some bt ∧
  ((bt = false ∧ Q (.bl false) H) ∨ ∃ (a : Addr) (xs : List V), v = .ref a ∧ H a = some (.tup xs) ∧ bt = true ∧ (∀ x ∈ xs, IntK K H x) ∧ Q (.bl (lotFrom m (-1) xs)) H)
theorem sc_is_lot : FnScope ["thing", "many", "last", "item"] ["thing", "many"] (defScope s_is_lot) := ⟨rfl, rfl, rfl, by decide +kernel, rfl, by decide +kernel, by decide +kernel⟩
theorem ok_is_lot (T : Top K mg) : FnOk P w K mg base CX0 3 T.f_is_lot T.fd_is_lot ["thing", "many"] (sp_is_lot K) := by
  have G_is_within := ok_is_within (P := P) (w := w) (base := base) T
  refine T.F_is_lot.ok sc_is_lot (fun vs H Q E h => ?_) (fun cdv A outer s H vs Q E hr h => ?_)
  · obtain ⟨v, t, bt, m, rfl, _⟩ := h
    rfl
  · obtain ⟨v, t, bt, m, rfl, ht, hb, hh⟩ := h
    refine ⟨_, (pss_cons (ps_if (pt_not (pt_val (pe_callB (r := rIsi K) (id := "isinstance") call_isi (by rfl) T.z_isinstance (by decide +kernel) (pa_cons (pv 0) (pa_cons (pe_bltn (v := .ty "tuple") (u := .type "tuple") (by rfl) T.z_tuple (by decide +kernel) rfl) pa_nil))))) (pss_one (ps_ret pe_bl)) pss_nil)
      (pss_cons (ps_set (i := 2) sc_is_lot.nd rfl (Or.inl rfl) (pe_un un_neg pe_int))
      (pss_cons (ps_for PassesOwn.never rfl (pi_tup (pv 0)) (pg_name (i := 3) sc_is_lot.nd rfl (Or.inl rfl))
      (pss_cons (ps_if (pt_not (pt_val (pe_call G_is_within hr (by rfl) T.g_is_within T.F_is_within.kp T.b_is_within .nil pass0 (pa_cons (pv 3) (pa_cons (pe_op op_add (pv 2) pe_int) (pa_cons (pe_op op_sub (pv 1) pe_int) pa_nil)))))) (pss_one (ps_ret pe_bl)) pss_nil)
      (pss_one (ps_set (i := 2) sc_is_lot.nd rfl (Or.inl rfl) (pv 3)))))
      (pss_one (ps_ret pe_bl))))), ?_⟩
    tm_at "w"
    rcases hh with ⟨rfl, k⟩ | ⟨a, xs, rfl, ha, rfl, hi, k⟩
    · tm_at "w"
      exact k
    · tm_at "w"
      refine ⟨⟨_, SqT.of ha⟩, for_tup (K := K) (a := a) (xs := xs) (fun i σ H' => ∃ (last : Int) (x : Option V), σ = [some (.ref a), some (.int m), some (.int last), x] ∧ H' = H ∧ lotFrom m last (xs.drop i) = lotFrom m (-1) xs) ?_ ?_ ?_ ?_⟩
      · exact ⟨-1, none, rfl, rfl, rfl⟩
      · rintro i σ H' _ ⟨_, _, _, rfl, _⟩
        exact SqT.of ha
      · rintro i x σ H' hx ⟨last, y, rfl, rfl, e⟩
        have il := (List.getElem?_eq_some_iff.mp hx).1
        have hd : xs.drop i = x :: xs.drop (i + 1) := by
          rw [List.drop_eq_getElem_cons il]
          rw [List.getElem?_eq_getElem il] at hx
          rw [Option.some.inj hx]
        rw [hd] at e
        tm_at "w"
        refine ⟨_, _, _, rfl, hi x (List.mem_of_getElem? hx), ?_⟩
        tm_at "w"
        refine iteB (fun h => ?_) (fun h => ?_)
        · have h2 : withinB x (last + 1) (m - 1) = false := by simpa using h
          have e2 : lotFrom m (-1) xs = false := by
            rw [← e]
            show (withinB x (last + 1) (m - 1) && _) = false
            rw [h2]
            rfl
          rw [e2] at k
          tm_at "w"
          exact k
        · have h2 : withinB x (last + 1) (m - 1) = true := by simpa using h
          cases x with
          | int z =>
            tm_at "w"
            rw [← e]
            show _ = (withinB (.int z) (last + 1) (m - 1) && lotFrom m z (xs.drop (i + 1)))
            rw [h2, Bool.true_and]
          | _ => cases h2
      · rintro σ H' ⟨last, y, rfl, rfl, e⟩
        rw [List.drop_length] at e
        rw [← e] at k
        tm_at "w"
        exact k
/-! are_parents -/
def sp_are_parents (K : PySem.W.Frag) : Sp := fun vs H Q _ => ∃ (v : V) (t : Value) (bt : Bool) (m : Int), vs = [v, .int m] ∧ TyX K H v t ∧ PySem.W.kitOne K t (.type "tuple") = some bt ∧
  ((bt = false ∧ Q (.bl false) H) ∨ ∃ (a : Addr) (xs : List V), v = .ref a ∧ H a = some (.tup xs) ∧ bt = true ∧ (∀ x ∈ xs, IntK K H x) ∧ Q (.bl (lotFrom m (-1) xs && decide (xs.length ≤ 6))) H)
theorem sc_are_parents : FnScope ["thing", "number"] ["thing", "number"] (defScope s_are_parents) := ⟨rfl, rfl, rfl, by decide +kernel, rfl, by decide +kernel, by decide +kernel⟩
theorem ok_are_parents (T : Top K mg) : FnOk P w K mg base CX0 4 T.f_are_parents T.fd_are_parents ["thing", "number"] (sp_are_parents K) := by
  have G_is_lot := ok_is_lot (P := P) (w := w) (base := base) T
  refine T.F_are_parents.ok sc_are_parents (fun vs H Q E h => ?_) (fun cdv A outer s H vs Q E hr h => ?_)
  · obtain ⟨v, t, bt, m, rfl, _⟩ := h
    rfl
  · obtain ⟨v, t, bt, m, rfl, ht, hb, hh⟩ := h
    refine ⟨_, (pss_one (ps_ret (pe_and (pe_call G_is_lot hr (by rfl) T.g_is_lot T.F_is_lot.kp T.b_is_lot .nil pass0 (pa_cons (pv 0) (pa_cons (pv 1) pa_nil))) (pe_one (pe_cmpR op_le (pe_callB (r := rLenQ K) (id := "len") call_len_seq (by rfl) T.z_len (by decide +kernel) (pa_cons (pv 0) pa_nil)) (pe_glob (v := .int 6) (by rfl) T.c_MOST_PARENTS.choose_spec ⟨_, rfl⟩) (nomark _)))))), ?_⟩
    tm_at "w"
    rcases hh with ⟨rfl, k⟩ | ⟨a, xs, rfl, ha, rfl, hi, k⟩
    · exact ⟨v, t, false, m, rfl, ht, hb, .inl ⟨rfl, false, rfl, iteF k⟩⟩
    · refine ⟨_, t, true, m, rfl, ht, hb, .inr ⟨a, xs, rfl, ha, rfl, hi, _, rfl, ?_⟩⟩
      refine iteB (fun h => ?_) (fun h => ?_)
      · tm_at "w"
        rw [h, Bool.true_and] at k
        have e : decide ((xs.length : Int) ≤ 6) = decide (xs.length ≤ 6) := decide_eq_decide.mpr (by omega)
        rw [← e] at k
        exact k
      · rw [h] at k
        exact k
/-! Book.fill -/
theorem bitOr_nat (a b : Nat) : Builtin.bitOr (a : Int) (b : Int) = ((a ||| b : Nat) : Int) := by
  rw [Bits.bitOr_pp (by omega) (by omega), Int.toNat_natCast, Int.toNat_natCast]
def sp_Book_fill (C : Addr) (K : PySem.W.Frag) : Sp := fun vs H Q _ => ∃ (b dx pa : Addr) (fs : List (Str × V)) (P : List (List Nat)), vs = [.ref b, .ref pa] ∧ H b = some (.ins C dx fs) ∧ BkFs fs ∧ ParAt H pa P ∧ RtP P ∧ P.length ≤ 1000 ∧
  ∀ lb H', But b H H' → H lb = none → BookAt C H' ⟨b, dx, pa, lb⟩ P → Q .non H'
theorem sc_Book_fill : FnScope ["self", "parents", "number", "item", "found", "parent"] ["self", "parents"] (defScope s_Book_fill) := ⟨rfl, rfl, rfl, by decide +kernel, rfl, by decide +kernel, by decide +kernel⟩
theorem ok_Book_fill (T : Top K mg) : FnOk P w K mg base CX0 1 T.f_Book_fill T.fd_Book_fill ["self", "parents"] (sp_Book_fill T.C_Book K) := by
  refine T.F_Book_fill.ok sc_Book_fill (fun vs H Q E h => ?_) (fun cdv A outer s H vs Q E hr h => ?_)
  · obtain ⟨b, dx, pa, fs, P, rfl, _⟩ := h
    rfl
  · obtain ⟨b, dx, pa, fs, P, rfl, hb, hf, hP, hR, hn, k⟩ := h
    refine ⟨_, (pss_cons (ps_fld (pv 0) (pv 1) rfl)
      (pss_cons (ps_fld (pv 0) (pe_lst pa_nil) rfl)
      (pss_one (ps_for PassesOwn.never rfl (pi_enumT (by rfl) T.z_enumerate (pa_cons (pv 1) pa_nil)) (pg_tup rfl (pgs_cons (pg_name (i := 2) sc_Book_fill.nd rfl (Or.inl rfl)) (pgs_cons (pg_name (i := 3) sc_Book_fill.nd rfl (Or.inl rfl)) pgs_nil)))
      (pss_cons (ps_set (i := 4) sc_Book_fill.nd rfl (Or.inl rfl) (pe_op op_shl pe_int (pv 2)))
      (pss_cons (ps_for PassesOwn.never rfl (pi_tup (pv 3)) (pg_name (i := 5) sc_Book_fill.nd rfl (Or.inl rfl))
      (pss_one (ps_aug (i := 4) sc_Book_fill.nd rfl (Or.inl rfl) (pe_ix (r := rIxL K) ix_list (pe_fld (pv 0) rfl) (pv 5) (fun _ _ => rfl)) ip_or)))
      (pss_one (ps_expr (pe_bm PySem.F.plainAttrs_list PySem.F.slot_list_append PySem.F.type_list_append mt_append (pe_fld (pv 0) rfl) (pa_cons (pv 4) pa_nil)))))))))), ?_⟩
    have cB := T.cl_Book
    have nB1 := T.n_Book_parents
    have nB2 := T.n_Book_bits
    have hlp := BkFs.len1 hf pa
    have wb : ∀ l, H l = none → b ≠ l := fun l e => ne_of_none hb e
    obtain ⟨vsP, hpa, hlen, hit⟩ := id hP
    have nap : ∀ a xs, H a = some (.tup xs) → a ≠ b := fun a xs e z => by rw [z, hb] at e; cases e
    refine ⟨_, rfl, _, rfl, b, T.C_Book, dx, fs, rfl, hb, T.cl_Book, T.n_Book_parents, Nat.lt_trans (m := 500) hf.len (by decide), ?_⟩
    tm_at "w"
    intro lb nlb0
    have nlb : H lb = none := by
      by_cases z : lb = b
      · rw [z, upd_same] at nlb0
        cases nlb0
      · rw [upd_ne z] at nlb0
        exact nlb0
    have nbl : b ≠ lb := wb lb nlb
    refine ⟨_, rfl, b, T.C_Book, dx, _, rfl, (upd_ne nbl).trans upd_same, T.cl_Book, T.n_Book_bits, hlp, ?_⟩
    rw [hf.put pa lb]
    refine ⟨_, rfl, _, _, rfl, SqT.of (xs := vsP) ((upd_ne (nap _ _ hpa)).trans ((upd_ne (ne_of_none hpa nlb)).trans ((upd_ne (nap _ _ hpa)).trans hpa))), for_enumT (K := K) (a := pa) (xs := vsP) (fun i σ H' => ∃ x y z w, σ = [some (.ref b), some (.ref pa), x, y, z, w] ∧ But b H H' ∧ H' b = some (.ins T.C_Book dx (bkF pa lb)) ∧ H' lb = some (.lst (natsV (bitsOf (P.take i))))) ?_ ?_ ?_ ?_⟩
    · refine ⟨none, none, none, none, rfl, fun a o n e => ?_, upd_same, ?_⟩
      · exact (upd_ne n).trans ((upd_ne (ne_of_none e nlb)).trans ((upd_ne n).trans e))
      · exact (upd_ne nbl.symm).trans upd_same
    · rintro i σ H' ⟨_, _, _, _, rfl, bt, _⟩
      exact SqT.of (bt _ _ (nap _ _ hpa) hpa)
    · rintro i x t σ H' hx ⟨x0, y0, z0, w0, rfl, bt, h1, h2⟩ nt
      obtain ⟨ai, p, rfl, hp, hai⟩ := ParL.here ⟨hlen, hit⟩ hx
      have il := (List.getElem?_eq_some_iff.mp hp).1
      have wt : Nw H' t := ⟨nt⟩
      have hai' : H' ai = some (.tup (natsV p)) := bt _ _ (nap _ _ hai) hai
      tm_at "w"
      have hai2 : upd H' t (.tup [V.int (i : Int), V.ref ai]) ai = some (.tup (natsV p)) := by tm_at "hp"
      have hb2 : upd H' t (.tup [V.int (i : Int), V.ref ai]) b = some (.ins T.C_Book dx (bkF pa lb)) := by tm_at "hp"
      have hl2 : upd H' t (.tup [V.int (i : Int), V.ref ai]) lb = some (.lst (natsV (bitsOf (P.take i)))) := by tm_at "hp"
      have hbl : (bitsOf (P.take i)).length = i := by rw [bitsOf_len, List.length_take]; omega
      refine ⟨⟨_, SqT.of hai2⟩, for_tup (K := K) (a := ai) (xs := natsV p) (fun j σ H2 => ∃ z, σ = [some (.ref b), some (.ref pa), some (.int (i : Int)), some (.ref ai), some (.int (((p.take j).foldl (fun f q => f ||| (bitsOf (P.take i)).getD q 0) (2 ^ i) : Nat) : Int)), z] ∧ H2 = upd H' t (.tup [V.int (i : Int), V.ref ai])) ?_ ?_ ?_ ?_⟩
      · refine ⟨w0, ?_, rfl⟩
        show _ = [some (.ref b), some (.ref pa), some (.int (i : Int)), some (.ref ai), some (.int ((2 ^ i : Nat) : Int)), w0]
        have e : (1 : Int) * 2 ^ ((i : Int)).toNat = ((2 ^ i : Nat) : Int) := by rw [Int.one_mul, Int.toNat_natCast, Int.natCast_pow]; rfl
        rw [← e]
        rfl
      · rintro j σ H2 _ ⟨_, rfl, rfl⟩
        exact SqT.of hai2
      · rintro j y σ H2 hy ⟨z, rfl, rfl⟩
        obtain ⟨q, hq, rfl, _⟩ := natsV_here hy
        have ql : q < i := hR i p hp q (List.mem_of_getElem? hq)
        have hq2 : (natsV (bitsOf (P.take i)))[q]? = some (.int (((bitsOf (P.take i)).getD q 0 : Nat) : Int)) := by
          refine natsV_at ?_
          rw [List.getD_eq_getElem?_getD, List.getElem?_eq_getElem (by omega)]
          rfl
        tm_at "w"
        refine ⟨some (.int (q : Int)), ?_, rfl⟩
        show ([some (.ref b), some (.ref pa), some (.int (i : Int)), some (.ref ai), some (.int (Builtin.bitOr _ _)), some (.int (q : Int))] : L2.St) = _
        rw [bitOr_nat, List.take_add_one, hq, List.foldl_append]
        rfl
      · rintro σ H2 ⟨z, rfl, rfl⟩
        rw [natsV_len, List.take_length]
        tm_at "w"
        refine ⟨_, _, _, rfl, rfl, hl2, lt_line (by rw [natsV_len, hbl]; omega), ?_⟩
        have nlt : lb ≠ t := ne_of_none h2 nt
        refine ⟨_, _, _, _, rfl, fun a o n e => ?_, (upd_ne nbl).trans hb2, ?_⟩
        · have e2 := bt a o n e
          exact (upd_ne (ne_of_none e nlb)).trans ((upd_ne (ne_of_none e2 nt)).trans e2)
        · rw [upd_same, natsV_snoc, List.take_add_one, hp]
          show _ = some (HO.lst (natsV (bitsOf (P.take i ++ [p]))))
          rw [bitsOf_snoc, hbl]
          rfl
    · rintro σ H' ⟨x0, y0, z0, w0, rfl, bt, h1, h2⟩
      rw [hlen, List.take_length] at h2
      exact k lb H' bt nlb ⟨h1, ⟨vsP, bt _ _ (nap _ _ hpa) hpa, hlen, fun j p e => by
        obtain ⟨a, e1, e2⟩ := hit j p e
        exact ⟨a, e1, bt _ _ (nap _ _ e2) e2⟩⟩, h2⟩
/-! Book.__init__ -/
theorem lot_from {m : Int} : ∀ {q : List Nat} {last : Int}, q.Pairwise (· < ·) → (∀ x ∈ q, last < (x : Int) ∧ (x : Int) < m) → lotFrom m last (natsV q) = true
  | [], _, _, _ => rfl
  | x :: r, last, hp, hm => by
    obtain ⟨h1, h2⟩ := List.pairwise_cons.mp hp
    have hx := hm x List.mem_cons_self
    have ih := lot_from (m := m) (q := r) (last := (x : Int)) h2 fun y hy => ⟨by have := h1 y hy; omega, (hm y (List.mem_cons_of_mem _ hy)).2⟩
    show (withinB (.int (x : Int)) (last + 1) (m - 1) && lotFrom m (x : Int) (natsV r)) = true
    rw [ih]
    show ((decide (last + 1 ≤ (x : Int)) && decide ((x : Int) ≤ m - 1)) && true) = true
    rw [decide_eq_true (show last + 1 ≤ (x : Int) by omega), decide_eq_true (show (x : Int) ≤ m - 1 by omega)]
    rfl
theorem OkL.lot {q : List Nat} {m : Nat} (h : OkL q m) : (lotFrom (m : Int) (-1) (natsV q) && decide ((natsV q).length ≤ 6)) = true := by
  rw [lot_from h.asc fun x hx => ⟨by omega, by have := h.lt x hx; omega⟩, natsV_len, decide_eq_true h.few]
  rfl
def sp_Book___init__ (C : Addr) (K : PySem.W.Frag) : Sp := fun vs H Q _ => ∃ (b dx pa : Addr) (P : List (List Nat)), vs = [.ref b, .ref pa] ∧ H b = some (.ins C dx []) ∧ ParAt H pa P ∧ OkP P ∧
  ∀ lb H', But b H H' → H lb = none → BookAt C H' ⟨b, dx, pa, lb⟩ P → Q .non H'
theorem sc_Book___init__ : FnScope ["self", "parents", "number", "item"] ["self", "parents"] (defScope s_Book___init__) := ⟨rfl, rfl, rfl, by decide +kernel, rfl, by decide +kernel, by decide +kernel⟩
theorem ok_Book___init__ (T : Top K mg) : FnOk P w K mg base CX0 5 T.f_Book___init__ T.fd_Book___init__ ["self", "parents"] (sp_Book___init__ T.C_Book K) := by
  have G_Book_fill := ok_Book_fill (P := P) (w := w) (base := base) T
  have G_are_parents := ok_are_parents (P := P) (w := w) (base := base) T
  refine T.F_Book___init__.ok sc_Book___init__ (fun vs H Q E h => ?_) (fun cdv A outer s H vs Q E hr h => ?_)
  · obtain ⟨b, dx, pa, P, rfl, _⟩ := h
    rfl
  · obtain ⟨b, dx, pa, P, rfl, hb, hP, ok, k⟩ := h
    refine ⟨_, (pss_cons (ps_if (PW.pt (pw_or (pt_not (pt_val (pe_callB (r := rIsi K) (id := "isinstance") call_isi (by rfl) T.z_isinstance (by decide +kernel) (pa_cons (pv 1) (pa_cons (pe_bltn (v := .ty "tuple") (u := .type "tuple") (by rfl) T.z_tuple (by decide +kernel) rfl) pa_nil))))) (pw_or1 (pt_cmpR op_gt (pe_callB (r := rLenQ K) (id := "len") call_len_seq (by rfl) T.z_len (by decide +kernel) (pa_cons (pv 1) pa_nil)) (pe_glob (v := .int 400) (by rfl) T.c_MOST_KINDS.choose_spec ⟨_, rfl⟩) (nomark _))))) (pss_one ps_never) pss_nil)
      (pss_cons (ps_for PassesOwn.never rfl (pi_enumT (by rfl) T.z_enumerate (pa_cons (pv 1) pa_nil)) (pg_tup rfl (pgs_cons (pg_name (i := 2) sc_Book___init__.nd rfl (Or.inl rfl)) (pgs_cons (pg_name (i := 3) sc_Book___init__.nd rfl (Or.inl rfl)) pgs_nil)))
      (pss_one (ps_if (pt_not (pt_val (pe_call G_are_parents hr (by rfl) T.g_are_parents T.F_are_parents.kp T.b_are_parents .nil pass0 (pa_cons (pv 3) (pa_cons (pv 2) pa_nil))))) (pss_one ps_never) pss_nil)))
      (pss_one (ps_expr (pe_meth (pv 0) T.cl_Book T.m_Book_fill G_Book_fill (hr.mono (by decide)) T.b_Book_fill .nil pass0 (pa_cons (pv 1) pa_nil)))))), ?_⟩
    have cB := T.cl_Book
    have nB1 := T.n_Book_parents
    have nB2 := T.n_Book_bits
    obtain ⟨vsP, hpa, hlen, hit⟩ := id hP
    have few := ok.few
    have ty := ty_tup (K := K) hpa
    have tt := tup_tup (K := K)
    tm_at "w"
    refine ⟨_, _, rfl, SqT.of hpa, for_enumT (K := K) (a := pa) (xs := vsP) (fun i σ H' => ∃ x y, σ = [some (.ref b), some (.ref pa), x, y] ∧ Same H H') ?_ ?_ ?_ ?_⟩
    · exact ⟨none, none, rfl, Same.refl H⟩
    · rintro i σ H' ⟨_, _, rfl, s1⟩
      exact SqT.of (s1 _ _ hpa)
    · rintro i x t σ H' hx ⟨x0, y0, rfl, s1⟩ nt
      obtain ⟨ai, p, rfl, hp, hai⟩ := ParL.here ⟨hlen, hit⟩ hx
      have s2 : Same H (upd H' t (.tup [V.int (i : Int), V.ref ai])) := Same.new s1 nt
      have hai2 := s2 _ _ hai
      tm_at "w"
      refine ⟨_, _, true, _, rfl, ty_tup hai2, tup_tup, .inr ⟨ai, natsV p, rfl, hai2, rfl, natsV_int p, ?_⟩⟩
      rw [(ok.ok i p hp).lot]
      refine ⟨_, rfl, iteF ?_⟩
      exact ⟨_, _, rfl, s2⟩
    · rintro σ H' ⟨x0, y0, rfl, s1⟩
      tm_at "w"
      refine ⟨b, dx, [], rfl, s1 _ _ hb, rfl, ?_⟩
      tm_at "w"
      refine ⟨b, dx, pa, [], P, rfl, s1 _ _ hb, .inl rfl, hP.tk (Same.tk s1), ok.rt, by omega, fun lb H2 bt nl at' => ?_⟩
      tm_at "w"
      exact k lb H2 (But.same s1 bt) (Same.free s1 nl) at'
/-- the book that is made of parents -/
theorem mk_book {C : Addr} {K : PySem.W.Frag} {H : Hp} {pa : Addr} {P : List (List Nat)} {Q : Addr → Hp → Prop} {E : XK} (hP : ParAt H pa P) (ok : OkP P)
    (k : ∀ b H', Made C H H' b P → b.pa = pa → Q b.b H') : ∀ x dx, H x = none → H dx = none → dx ≠ x → sp_Book___init__ C K [.ref x, .ref pa] (upd (upd H dx (.own x)) x (.ins C dx [])) (fun v H2 => v = .non ∧ Q x H2) E := by
  intro x dx hx hd ne
  have s1 : Same H (upd (upd H dx (.own x)) x (.ins C dx [])) := Same.mut (Same.new (Same.refl H) hd) hx
  refine ⟨x, dx, pa, P, rfl, upd_same, hP.tk (Same.tk s1), ok, fun lb H' bt nl at' => ⟨rfl, ?_⟩⟩
  exact k ⟨x, dx, pa, lb⟩ H' ⟨But.new s1 hx bt, at', ⟨hx⟩, ⟨Same.free s1 nl⟩⟩ rfl
/-! grown -/
theorem TK.mutI {H : Hp} {p : Addr} {o : HO} {C dx : Addr} {fs : List (Str × V)} (h : H p = some (.ins C dx fs)) : TK H (upd H p o) := fun a xs e => upd_at (ne_of e h (by intro z; cases z)) e
theorem cat_any {K : PySem.W.Frag} {H : Hp} {a b : Addr} {xs ys : List V} {Q : VK} (hx : H a = some (.tup xs)) (hy : H b = some (.tup ys)) (hl : xs.length + ys.length ≤ sizeLine)
    (k : ∀ p H', Same H H' → H' p = some (.tup (xs ++ ys)) → Q (.ref p) H') : rCatA K (.ref a) (.ref b) H Q := by
  refine ⟨a, b, xs, ys, rfl, rfl, SqT.of hx, SqT.of hy, hl, fun e => ?_, fun _ e => ?_, fun _ _ p np => ?_⟩
  · exact k b H (Same.refl H) (by rw [hy, e]; rfl)
  · exact k a H (Same.refl H) (by rw [hx, e, List.append_nil])
  · exact k p _ (Same.new (Same.refl H) np) upd_same
def sp_grown (C : Addr) (K : PySem.W.Frag) : Sp := fun vs H Q _ => ∃ (l : Bk) (a : Addr) (P : List (List Nat)) (q : List Nat), vs = [.ref l.b, .ref a] ∧ BookAt C H l P ∧ H a = some (.tup (natsV q)) ∧ (∀ x ∈ q, x < P.length) ∧ P.length ≤ 1000 ∧
  ∀ b H', Made C H H' b (P ++ [q]) → Q (.ref b.b) H'
theorem sc_grown : FnScope ["book", "parents", "found", "bits", "parent"] ["book", "parents"] (defScope s_grown) := ⟨rfl, rfl, rfl, by decide +kernel, rfl, by decide +kernel, by decide +kernel⟩
theorem ok_grown (T : Top K mg) : FnOk P w K mg base CX0 7 T.f_grown T.fd_grown ["book", "parents"] (sp_grown T.C_Book K) := by
  have G_Book___init__ := ok_Book___init__ (P := P) (w := w) (base := base) T
  refine T.F_grown.ok sc_grown (fun vs H Q E h => ?_) (fun cdv A outer s H vs Q E hr h => ?_)
  · obtain ⟨l, a, P, q, rfl, _⟩ := h
    rfl
  · obtain ⟨l, a, P, q, rfl, hl, ha, hq, hn, k⟩ := h
    refine ⟨_, (pss_cons (ps_set (i := 2) sc_grown.nd rfl (Or.inl rfl) (pe_make T.M_Book G_Book___init__ hr (by rfl) T.g_Book T.b_Book___init__ .nil pass0 (pa_cons (pe_tup pa_nil) pa_nil)))
      (pss_cons (ps_set (i := 3) sc_grown.nd rfl (Or.inl rfl) (pe_op op_shl pe_int (pe_callB (r := rLenQ K) (id := "len") call_len_seq (by rfl) T.z_len (by decide +kernel) (pa_cons (pe_fld (pv 0) rfl) pa_nil))))
      (pss_cons (ps_for PassesOwn.never rfl (pi_tup (pv 1)) (pg_name (i := 4) sc_grown.nd rfl (Or.inl rfl))
      (pss_one (ps_aug (i := 3) sc_grown.nd rfl (Or.inl rfl) (pe_ix (r := rIxL K) ix_list (pe_fld (pv 0) rfl) (pv 4) (fun _ _ => rfl)) ip_or)))
      (pss_cons (ps_fld (pv 2) (pe_op op_catA (pe_fld (pv 0) rfl) (pe_tup (pa_cons (pv 1) pa_nil))) rfl)
      (pss_cons (ps_fld (pv 2) (pe_op op_cat (pe_fld (pv 0) rfl) (pe_lst (pa_cons (pv 3) pa_nil))) rfl)
      (pss_one (ps_ret (pv 2)))))))), ?_⟩
    have cB := T.cl_Book
    have nB1 := T.n_Book_parents
    have nB2 := T.n_Book_bits
    tm_at "w"
    intro e ne
    have s1 : Same H (upd H e (.tup [])) := Same.new (Same.refl H) ne
    tm_at "w"
    refine mk_book (pa := e) (P := []) ⟨[], upd_same, ParL.nil⟩ OkP.nil fun f H1 mk epa => ?_
    have m1 := mk.early s1
    have s2 := m1.same
    have hins := mk.here.ins
    have hl1 := hl.same s2
    have hli := hl1.ins
    have hlb := hl1.bits
    obtain ⟨xs, hx, hxl⟩ := id hl1.par
    have ha1 := s2 _ _ ha
    have hxn := hxl.1
    have hfb : f.b ≠ l.b := fun e => by
      have z := m1.nb.e
      rw [e, hl.ins] at z
      cases z
    tm_at "w"
    refine ⟨⟨_, SqT.of ha1⟩, for_tup (K := K) (a := a) (xs := natsV q) (fun j σ H2 => ∃ z, σ = [some (.ref l.b), some (.ref a), some (.ref f.b), some (.int (((q.take j).foldl (fun f q => f ||| (bitsOf P).getD q 0) (2 ^ P.length) : Nat) : Int)), z] ∧ H2 = H1) ?_ ?_ ?_ ?_⟩
    · refine ⟨none, ?_, rfl⟩
      have e : (1 : Int) * 2 ^ ((xs.length : Int)).toNat = ((2 ^ P.length : Nat) : Int) := by rw [Int.one_mul, Int.toNat_natCast, hxn, Int.natCast_pow]; rfl
      show _ = ([some (.ref l.b), some (.ref a), some (.ref f.b), some (.int ((2 ^ P.length : Nat) : Int)), none] : L2.St)
      rw [← e]
      rfl
    · rintro j σ H2 _ ⟨_, rfl, rfl⟩
      exact SqT.of ha1
    · rintro j y σ H2 hy ⟨z, rfl, rfl⟩
      obtain ⟨x, hx2, rfl, _⟩ := natsV_here hy
      have xl := hq x (List.mem_of_getElem? hx2)
      have hq2 : (natsV (bitsOf P))[x]? = some (.int (((bitsOf P).getD x 0 : Nat) : Int)) := by
        refine natsV_at ?_
        rw [List.getD_eq_getElem?_getD, List.getElem?_eq_getElem (by rw [bitsOf_len]; omega)]
        rfl
      tm_at "w"
      refine ⟨some (.int (x : Int)), ?_, rfl⟩
      show ([some (.ref l.b), some (.ref a), some (.ref f.b), some (.int (Builtin.bitOr _ _)), some (.int (x : Int))] : L2.St) = _
      rw [bitOr_nat, List.take_add_one, hx2, List.foldl_append]
      rfl
    · rintro σ H2 ⟨z, rfl, rfl⟩
      rw [natsV_len, List.take_length]
      tm_at "w"
      intro p1 np1
      have s3 : Same H2 (upd H2 p1 (.tup [.ref a])) := Same.new (Same.refl H2) np1
      refine cat_any (s3 _ _ hx) upd_same (by rw [hxn]; show _ + 1 ≤ sizeLine; have := lt_line (n := P.length + 1) (by omega); omega) fun pa2 H4 s4 hpa2 => ?_
      have s24 := Same.trans s3 s4
      have hins4 := s24 _ _ hins
      refine ⟨_, rfl, _, _, _, _, rfl, hins4, cB, nB1, by rw [bkF_eq]; show 2 < 1000; decide, ?_⟩
      rw [bkF_putP]
      have hli4 : upd H4 f.b (.ins T.C_Book f.dx (bkF pa2 f.lb)) l.b = some (HO.ins T.C_Book l.dx (bkF l.pa l.lb)) := (upd_ne hfb.symm).trans (s24 _ _ hli)
      tm_at "w"
      intro l1 nl1
      have w1 : Nw _ l1 := ⟨nl1⟩
      have hlb4 : upd H4 f.b (.ins T.C_Book f.dx (bkF pa2 f.lb)) l.lb = some (.lst (natsV (bitsOf P))) := (upd_ne (m1.nb.ne hl.bits)).trans (s24 _ _ hlb)
      have hin5 : upd H4 f.b (.ins T.C_Book f.dx (bkF pa2 f.lb)) f.b = some (.ins T.C_Book f.dx (bkF pa2 f.lb)) := upd_same
      refine ⟨_, _, _, _, rfl, rfl, (upd_ne (w1.ne hlb4)).trans hlb4, upd_same, by rw [natsV_len, bitsOf_len]; show _ + 1 ≤ sizeLine; have := lt_line (n := P.length + 1) (by omega); omega, fun lb nlb0 => ?_⟩
      have w2 : Nw _ lb := ⟨nlb0⟩
      have hin6 := (upd_ne (o := HO.lst [V.int ((List.foldl (fun f q => f ||| (bitsOf P).getD q 0) (2 ^ P.length) q : Nat) : Int)]) (w1.ne hin5)).trans hin5
      have hin7 := (upd_ne (o := HO.lst (natsV (bitsOf P) ++ [V.int ((List.foldl (fun f q => f ||| (bitsOf P).getD q 0) (2 ^ P.length) q : Nat) : Int)])) (w2.ne hin6)).trans hin6
      refine ⟨_, rfl, _, _, _, _, rfl, hin7, cB, nB2, by rw [bkF_eq]; show 2 < 1000; decide, ?_⟩
      rw [bkF_putB]
      tm_at "w"
      have sA : Same H (upd H4 f.b (.ins T.C_Book f.dx (bkF pa2 f.lb))) := Same.mut (Same.trans s2 s24) m1.nb.e
      have sB := Same.new (o := HO.lst [V.int ((List.foldl (fun f q => f ||| (bitsOf P).getD q 0) (2 ^ P.length) q : Nat) : Int)]) sA nl1
      have sC := Same.new (o := HO.lst (natsV (bitsOf P) ++ [V.int ((List.foldl (fun f q => f ||| (bitsOf P).getD q 0) (2 ^ P.length) q : Nat) : Int)])) sB nlb0
      have k1 : TK H4 (upd H4 f.b (.ins T.C_Book f.dx (bkF pa2 f.lb))) := TK.mutI hins4
      have k2 := TK.trans k1 (TK.new (o := HO.lst [V.int ((List.foldl (fun f q => f ||| (bitsOf P).getD q 0) (2 ^ P.length) q : Nat) : Int)]) nl1)
      have k3 := TK.trans k2 (TK.new (o := HO.lst (natsV (bitsOf P) ++ [V.int ((List.foldl (fun f q => f ||| (bitsOf P).getD q 0) (2 ^ P.length) q : Nat) : Int)])) nlb0)
      have k4 := TK.trans k3 (TK.mutI (o := .ins T.C_Book f.dx (bkF pa2 lb)) hin7)
      refine k ⟨f.b, f.dx, pa2, lb⟩ _ ⟨Same.mut sC m1.nb.e, ⟨upd_same, ⟨_, k4 _ _ hpa2, (hxl.tk (TK.trans (Same.tk s24) k4)).snoc (k4 _ _ (s24 _ _ ha1))⟩, ?_⟩, m1.nb, ⟨Same.free sB nlb0⟩⟩
      refine (upd_ne (w2.ne hin6).symm).trans (upd_same.trans ?_)
      rw [natsV_snoc, bitsOf_snoc, bitsOf_len]
      rfl
/-! many_of -/
def sp_many_of (C : Addr) (K : PySem.W.Frag) : Sp := fun vs H Q _ => ∃ (l : Bk) (P : List (List Nat)), vs = [.ref l.b] ∧ BookAt C H l P ∧ Q (.int (P.length : Nat)) H
theorem sc_many_of : FnScope ["book"] ["book"] (defScope s_many_of) := ⟨rfl, rfl, rfl, by decide +kernel, rfl, by decide +kernel, by decide +kernel⟩
theorem ok_many_of (T : Top K mg) : FnOk P w K mg base CX0 1 T.f_many_of T.fd_many_of ["book"] (sp_many_of T.C_Book K) := by
  refine T.F_many_of.ok sc_many_of (fun vs H Q E h => ?_) (fun cdv A outer s H vs Q E hr h => ?_)
  · obtain ⟨l, P, rfl, _⟩ := h
    rfl
  · obtain ⟨l, P, rfl, hl, k⟩ := h
    refine ⟨_, (pss_one (ps_ret (pe_callB (r := rLenQ K) (id := "len") call_len_seq (by rfl) T.z_len (by decide +kernel) (pa_cons (pe_fld (pv 0) rfl) pa_nil)))), ?_⟩
    have cB := T.cl_Book
    have nB1 := T.n_Book_parents
    have nB2 := T.n_Book_bits
    have hli := hl.ins
    obtain ⟨xs, hx, hxl⟩ := id hl.par
    rw [← hxl.1] at k
    tm_at "w"
    exact k
/-! is_one -/
theorem bit_val (b p : Nat) : Builtin.bitAnd ((b : Int) / 2 ^ ((p : Int)).toNat) 1 = if b.testBit p then 1 else 0 := by
  rw [PyProof.Rows.bitAnd_m1, Int.toNat_natCast]
  have e : ((b : Int) / 2 ^ p) % 2 = ((b / 2 ^ p % 2 : Nat) : Int) := by
    rw [Int.natCast_emod, Int.natCast_ediv, Int.natCast_pow]
    rfl
  rw [e, Nat.testBit_eq_decide_div_mod_eq]
  have h : b / 2 ^ p % 2 < 2 := Nat.mod_lt _ (by decide)
  by_cases h1 : b / 2 ^ p % 2 = 1
  · rw [h1]
    rfl
  · have h0 : b / 2 ^ p % 2 = 0 := by omega
    rw [h0]
    rfl
theorem bit_one (b p : Nat) : decide (V.int (Builtin.bitAnd ((b : Int) / 2 ^ ((p : Int)).toNat) 1) = V.int 1) = b.testBit p := by
  rw [bit_val]
  cases b.testBit p
  · exact decide_eq_false (by intro e; cases e)
  · exact decide_eq_true rfl
def sp_is_one (C : Addr) (K : PySem.W.Frag) : Sp := fun vs H Q _ => ∃ (l : Bk) (P : List (List Nat)) (x p : Nat), vs = [.ref l.b, .int x, .int p] ∧ BookAt C H l P ∧ x < P.length ∧ Q (.bl (isA P x p)) H
theorem sc_is_one : FnScope ["book", "x", "p"] ["book", "x", "p"] (defScope s_is_one) := ⟨rfl, rfl, rfl, by decide +kernel, rfl, by decide +kernel, by decide +kernel⟩
theorem ok_is_one (T : Top K mg) : FnOk P w K mg base CX0 1 T.f_is_one T.fd_is_one ["book", "x", "p"] (sp_is_one T.C_Book K) := by
  refine T.F_is_one.ok sc_is_one (fun vs H Q E h => ?_) (fun cdv A outer s H vs Q E hr h => ?_)
  · obtain ⟨l, P, x, p, rfl, _⟩ := h
    rfl
  · obtain ⟨l, P, x, p, rfl, hl, hx, k⟩ := h
    refine ⟨_, (pss_one (ps_ret (pe_cmpR op_eq (pe_op op_and (pe_op op_shr (pe_ix (r := rIxL K) ix_list (pe_fld (pv 0) rfl) (pv 1) (fun _ _ => rfl)) (pv 2)) pe_int) pe_int (nomark _)))), ?_⟩
    have cB := T.cl_Book
    have nB1 := T.n_Book_parents
    have nB2 := T.n_Book_bits
    have hli := hl.ins
    have hb : (bitsOf P)[x]? = some ((bitsOf P).getD x 0) := by
      rw [List.getD_eq_getElem?_getD, List.getElem?_eq_getElem (by rw [bitsOf_len]; exact hx)]
      rfl
    have hb2 := natsV_at hb
    have hbits := hl.bits
    tm_at "w"
    have e : isA P x p = decide (V.int (Builtin.bitAnd ((((bitsOf P).getD x 0 : Nat) : Int) / 2 ^ ((p : Int)).toNat) 1) = V.int 1) := (bit_one _ _).symm
    rw [e] at k
    exact k
/-! check_kind_of -/
def sp_check_kind_of (K : PySem.W.Frag) : Sp := fun vs H Q _ => ∃ (i m : Int), vs = [.int i, .int m] ∧ 0 ≤ i ∧ i < m ∧ Q .non H
theorem sc_check_kind_of : FnScope ["thing", "many"] ["thing", "many"] (defScope s_check_kind_of) := ⟨rfl, rfl, rfl, by decide +kernel, rfl, by decide +kernel, by decide +kernel⟩
theorem ok_check_kind_of (T : Top K mg) : FnOk P w K mg base CX0 3 T.f_check_kind_of T.fd_check_kind_of ["thing", "many"] (sp_check_kind_of K) := by
  have G_is_within := ok_is_within (P := P) (w := w) (base := base) T
  refine T.F_check_kind_of.ok sc_check_kind_of (fun vs H Q E h => ?_) (fun cdv A outer s H vs Q E hr h => ?_)
  · obtain ⟨i, m, rfl, _⟩ := h
    rfl
  · obtain ⟨i, m, rfl, h0, h1, k⟩ := h
    refine ⟨_, (pss_one (ps_if (pt_not (pt_val (pe_call G_is_within hr (by rfl) T.g_is_within T.F_is_within.kp T.b_is_within .nil pass0 (pa_cons (pv 0) (pa_cons pe_int (pa_cons (pe_op op_sub (pv 1) pe_int) pa_nil)))))) (pss_one ps_never) pss_nil)), ?_⟩
    tm_at "w"
    refine ⟨_, _, _, rfl, .int _, ?_⟩
    have e : withinB (.int i) 0 (m - 1) = true := by
      show (decide (0 ≤ i) && decide (i ≤ m - 1)) = true
      rw [decide_eq_true h0, decide_eq_true (show i ≤ m - 1 by omega)]
      rfl
    rw [e]
    refine ⟨_, rfl, ?_⟩
    exact iteF k
/-! check_kind -/
def sp_check_kind (C : Addr) (K : PySem.W.Frag) : Sp := fun vs H Q _ => ∃ (l : Bk) (P : List (List Nat)) (x : Nat), vs = [.ref l.b, .int x] ∧ BookAt C H l P ∧ x < P.length ∧ Q .non H
theorem sc_check_kind : FnScope ["book", "thing"] ["book", "thing"] (defScope s_check_kind) := ⟨rfl, rfl, rfl, by decide +kernel, rfl, by decide +kernel, by decide +kernel⟩
theorem ok_check_kind (T : Top K mg) : FnOk P w K mg base CX0 4 T.f_check_kind T.fd_check_kind ["book", "thing"] (sp_check_kind T.C_Book K) := by
  have G_check_kind_of := ok_check_kind_of (P := P) (w := w) (base := base) T
  have G_many_of := ok_many_of (P := P) (w := w) (base := base) T
  refine T.F_check_kind.ok sc_check_kind (fun vs H Q E h => ?_) (fun cdv A outer s H vs Q E hr h => ?_)
  · obtain ⟨l, P, x, rfl, _⟩ := h
    rfl
  · obtain ⟨l, P, x, rfl, hl, hx, k⟩ := h
    refine ⟨_, (pss_one (ps_expr (pe_call G_check_kind_of hr (by rfl) T.g_check_kind_of T.F_check_kind_of.kp T.b_check_kind_of .nil pass0 (pa_cons (pv 1) (pa_cons (pe_call G_many_of (hr.mono (by decide)) (by rfl) T.g_many_of T.F_many_of.kp T.b_many_of .nil pass0 (pa_cons (pv 0) pa_nil)) pa_nil))))), ?_⟩
    have cB := T.cl_Book
    have nB1 := T.n_Book_parents
    have nB2 := T.n_Book_bits
    have hli := hl.ins
    tm_at "w"
    refine ⟨l, P, rfl, hl, ?_⟩
    refine ⟨_, _, rfl, by omega, by omega, ?_⟩
    tm_at "w"
    exact k
/-! loaded -/
def sp_loaded (C : Addr) (K : PySem.W.Frag) : Sp := fun vs H Q _ => ∃ (l : Bk) (a : Addr) (P : List (List Nat)) (q : List Nat), vs = [.ref l.b, .ref a] ∧ BookAt C H l P ∧ H a = some (.tup (natsV q)) ∧ OkL q P.length ∧ P.length ≤ 1000 ∧
  ∀ b H', Made C H H' b (P ++ [q]) → Q (.ref b.b) H'
theorem sc_loaded : FnScope ["book", "parents"] ["book", "parents"] (defScope s_loaded) := ⟨rfl, rfl, rfl, by decide +kernel, rfl, by decide +kernel, by decide +kernel⟩
theorem ok_loaded (T : Top K mg) : FnOk P w K mg base CX0 8 T.f_loaded T.fd_loaded ["book", "parents"] (sp_loaded T.C_Book K) := by
  have G_are_parents := ok_are_parents (P := P) (w := w) (base := base) T
  have G_grown := ok_grown (P := P) (w := w) (base := base) T
  have G_many_of := ok_many_of (P := P) (w := w) (base := base) T
  refine T.F_loaded.ok sc_loaded (fun vs H Q E h => ?_) (fun cdv A outer s H vs Q E hr h => ?_)
  · obtain ⟨l, a, P, q, rfl, _⟩ := h
    rfl
  · obtain ⟨l, a, P, q, rfl, hl, ha, hq, hn, k⟩ := h
    refine ⟨_, (pss_cons (ps_if (pt_not (pt_val (pe_call G_are_parents (hr.mono (by decide)) (by rfl) T.g_are_parents T.F_are_parents.kp T.b_are_parents .nil pass0 (pa_cons (pv 1) (pa_cons (pe_call G_many_of (hr.mono (by decide)) (by rfl) T.g_many_of T.F_many_of.kp T.b_many_of .nil pass0 (pa_cons (pv 0) pa_nil)) pa_nil))))) (pss_one ps_never) pss_nil)
      (pss_one (ps_ret (pe_call G_grown hr (by rfl) T.g_grown T.F_grown.kp T.b_grown .nil pass0 (pa_cons (pv 0) (pa_cons (pv 1) pa_nil)))))), ?_⟩
    have cB := T.cl_Book
    have nB1 := T.n_Book_parents
    have nB2 := T.n_Book_bits
    have hli := hl.ins
    tm_at "w"
    refine ⟨l, P, rfl, hl, ?_⟩
    refine ⟨_, _, true, _, rfl, ty_tup ha, tup_tup, .inr ⟨a, natsV q, rfl, ha, rfl, natsV_int q, ?_⟩⟩
    rw [hq.lot]
    refine ⟨_, rfl, ?_⟩
    refine iteF ?_
    tm_at "w"
    exact ⟨l, a, P, q, rfl, hl, ha, hq.lt, hn, k⟩
/-! are_clauses -/
def sp_are_clauses (C : Addr) (K : PySem.W.Frag) : Sp := fun vs H Q _ => ∃ (l : Bk) (P : List (List Nat)) (a : Addr) (Cs : List (Nat × Int)), vs = [.ref l.b, .ref a] ∧ BookAt C H l P ∧ ClsAt H a Cs ∧ Cs.length ≤ 40 ∧ (∀ c ∈ Cs, c.1 < P.length) ∧
  ∀ H', Same H H' → Q (.bl true) H'
theorem sc_are_clauses : FnScope ["book", "thing", "clause", "kind", "label"] ["book", "thing"] (defScope s_are_clauses) := ⟨rfl, rfl, rfl, by decide +kernel, rfl, by decide +kernel, by decide +kernel⟩
theorem ok_are_clauses (T : Top K mg) : FnOk P w K mg base CX0 3 T.f_are_clauses T.fd_are_clauses ["book", "thing"] (sp_are_clauses T.C_Book K) := by
  have G_is_integer := ok_is_integer (P := P) (w := w) (base := base) T
  have G_is_pair := ok_is_pair (P := P) (w := w) (base := base) T
  have G_is_within := ok_is_within (P := P) (w := w) (base := base) T
  have G_many_of := ok_many_of (P := P) (w := w) (base := base) T
  refine T.F_are_clauses.ok sc_are_clauses (fun vs H Q E h => ?_) (fun cdv A outer s H vs Q E hr h => ?_)
  · obtain ⟨l, P, a, Cs, rfl, _⟩ := h
    rfl
  · obtain ⟨l, P, a, Cs, rfl, hl, hC, h40, hk, k⟩ := h
    refine ⟨_, (pss_cons (ps_if (PW.pt (pw_or (pt_not (pt_val (pe_callB (r := rIsi K) (id := "isinstance") call_isi (by rfl) T.z_isinstance (by decide +kernel) (pa_cons (pv 1) (pa_cons (pe_bltn (v := .ty "tuple") (u := .type "tuple") (by rfl) T.z_tuple (by decide +kernel) rfl) pa_nil))))) (pw_or (pt_cmpR op_gt (pe_callB (r := rLenQ K) (id := "len") call_len_seq (by rfl) T.z_len (by decide +kernel) (pa_cons (pv 1) pa_nil)) (pe_glob (v := .int 40) (by rfl) T.c_MOST_CLAUSES.choose_spec ⟨_, rfl⟩) (nomark _)) (pw_or1 (pt_not (pt_val (pe_callB (r := rAll K) (id := "all") (cr_all rfl) (by rfl) T.z_all (by decide +kernel) (pa_cons (pe_lc (own := [("clause", 2)]) (g := gName 2) (tt := tYes) rfl sc_are_clauses.nd (pi_tup (pv 1)) (blkOk_by (own := [("clause", 2)]) (N := ["book", "thing", "clause", "kind", "label"]) (sc := defScope s_are_clauses) (by decide +kernel)) (fun _ _ _ _ _ => (pg_name (i := 2) sc_are_clauses.nd rfl (Or.inl rfl))) (fun _ _ _ _ _ => pts_nil) (fun _ _ _ _ _ => (pe_call G_is_pair (hr.mono (by decide)) (by rfl) T.g_is_pair T.F_is_pair.kp T.b_is_pair .nil pass0 (pa_cons (pv 2) pa_nil)))) pa_nil)))))))) (pss_one (ps_ret pe_bl)) pss_nil)
      (pss_one (ps_ret (pe_callB (r := rAll K) (id := "all") (cr_all rfl) (by rfl) T.z_all (by decide +kernel) (pa_cons (pe_lc (own := [("kind", 3), ("label", 4)]) (tt := tYes) rfl sc_are_clauses.nd (pi_tup (pv 1)) (blkOk_by (own := [("kind", 3), ("label", 4)]) (N := ["book", "thing", "clause", "kind", "label"]) (sc := defScope s_are_clauses) (by decide +kernel)) (fun _ _ _ _ _ => (pg_tupK (K := K) 2 rfl rfl (pgs_cons (pg_name (i := 3) sc_are_clauses.nd rfl (Or.inl rfl)) (pgs_cons (pg_name (i := 4) sc_are_clauses.nd rfl (Or.inl rfl)) pgs_nil)))) (fun _ _ _ _ _ => pts_nil) (fun _ _ _ _ _ => (pe_and (pe_call G_is_within hr (by rfl) T.g_is_within T.F_is_within.kp T.b_is_within .nil pass0 (pa_cons (pv 3) (pa_cons pe_int (pa_cons (pe_op op_sub (pe_call G_many_of (hr.mono (by decide)) (by rfl) T.g_many_of T.F_many_of.kp T.b_many_of .nil pass0 (pa_cons (pv 0) pa_nil)) pe_int) pa_nil)))) (pe_one (pe_call G_is_integer (hr.mono (by decide)) (by rfl) T.g_is_integer T.F_is_integer.kp T.b_is_integer .nil pass0 (pa_cons (pv 4) pa_nil)))))) pa_nil))))), ?_⟩
    obtain ⟨vs, ha, hcl⟩ := id hC
    have hvl := hcl.1
    have ty := ty_tup (K := K) ha
    have tt := tup_tup (K := K)
    tm_at "w"
    refine ⟨⟨_, SqT.of ha⟩, fun D nD => lc_tupF (fun _ => some (.bl true)) ha nD (by omega) ?_ ?_⟩
    · intro i x H1 N M hx s1 kN kM
      obtain ⟨b, c, rfl, hc, hb⟩ := hcl.here hx
      have hb1 := s1 _ _ hb
      tm_at "w"
      refine ⟨b, _, rfl, hb1, ?_⟩
      exact kN _ _ rfl (Same.refl H1)
    · intro H1 s1 hD
      rw [all_true] at hD
      have ha1 := s1 _ _ ha
      tm_at "w"
      refine ⟨_, _, rfl, SqL.of hD, ?_⟩
      rw [all_id]
      tm_at "w"
      refine ⟨⟨_, SqT.of ha1⟩, fun D2 nD2 => lc_tupF (fun _ => some (.bl true)) ha1 nD2 (by omega) ?_ ?_⟩
      · intro i x H2 N M hx s2 kN kM
        obtain ⟨b, c, rfl, hc, hb⟩ := hcl.here hx
        have hb2 := s2 _ _ (s1 _ _ hb)
        have hck := hk c (List.mem_of_getElem? hc)
        have hl2 := (hl.same s1).same s2
        tm_at "w"
        refine ⟨l, P, rfl, hl2, ?_⟩
        tm_at "w"
        refine ⟨_, _, _, rfl, .int _, ?_⟩
        have e : withinB (.int (c.1 : Int)) 0 ((P.length : Int) - 1) = true := by
          show (decide (0 ≤ (c.1 : Int)) && decide ((c.1 : Int) ≤ (P.length : Int) - 1)) = true
          rw [decide_eq_true (show 0 ≤ (c.1 : Int) by omega), decide_eq_true (show (c.1 : Int) ≤ (P.length : Int) - 1 by omega)]
          rfl
        rw [e]
        refine ⟨_, rfl, iteT ?_⟩
        tm_at "w"
        exact kN _ _ rfl (Same.refl H2)
      · intro H2 s2 hD2
        rw [all_true] at hD2
        tm_at "w"
        refine ⟨_, _, rfl, SqL.of hD2, ?_⟩
        rw [all_id]
        exact k _ (Same.trans s1 s2)
/-! check_clauses -/
def sp_check_clauses (C : Addr) (K : PySem.W.Frag) : Sp := fun vs H Q _ => ∃ (l : Bk) (P : List (List Nat)) (a : Addr) (Cs : List (Nat × Int)), vs = [.ref l.b, .ref a] ∧ BookAt C H l P ∧ ClsAt H a Cs ∧ Cs.length ≤ 40 ∧ (∀ c ∈ Cs, c.1 < P.length) ∧
  ∀ H', Same H H' → Q .non H'
theorem sc_check_clauses : FnScope ["book", "thing"] ["book", "thing"] (defScope s_check_clauses) := ⟨rfl, rfl, rfl, by decide +kernel, rfl, by decide +kernel, by decide +kernel⟩
theorem ok_check_clauses (T : Top K mg) : FnOk P w K mg base CX0 4 T.f_check_clauses T.fd_check_clauses ["book", "thing"] (sp_check_clauses T.C_Book K) := by
  have G_are_clauses := ok_are_clauses (P := P) (w := w) (base := base) T
  refine T.F_check_clauses.ok sc_check_clauses (fun vs H Q E h => ?_) (fun cdv A outer s H vs Q E hr h => ?_)
  · obtain ⟨l, P, a, Cs, rfl, _⟩ := h
    rfl
  · obtain ⟨l, P, a, Cs, rfl, hl, hC, h40, hk, k⟩ := h
    refine ⟨_, (pss_one (ps_if (pt_not (pt_val (pe_call G_are_clauses hr (by rfl) T.g_are_clauses T.F_are_clauses.kp T.b_are_clauses .nil pass0 (pa_cons (pv 0) (pa_cons (pv 1) pa_nil))))) (pss_one ps_never) pss_nil)), ?_⟩
    tm_at "w"
    refine ⟨l, P, a, Cs, rfl, hl, hC, h40, hk, fun H' s => ?_⟩
    refine ⟨_, rfl, iteF ?_⟩
    exact k _ s
/-! first_place -/
def sp_first_place (C : Addr) (K : PySem.W.Frag) : Sp := fun vs H Q _ => ∃ (l : Bk) (P : List (List Nat)) (a : Addr) (Cs : List (Nat × Int)) (x : Nat), vs = [.ref l.b, .ref a, .int x] ∧ BookAt C H l P ∧ ClsAt H a Cs ∧ x < P.length ∧
  ∀ H', Same H H' → Q (.int (firstB Cs (isA P x) : Nat)) H'
theorem sc_first_place : FnScope ["book", "clauses", "x", "place", "kind", "label"] ["book", "clauses", "x"] (defScope s_first_place) := ⟨rfl, rfl, rfl, by decide +kernel, rfl, by decide +kernel, by decide +kernel⟩
theorem ok_first_place (T : Top K mg) : FnOk P w K mg base CX0 2 T.f_first_place T.fd_first_place ["book", "clauses", "x"] (sp_first_place T.C_Book K) := by
  have G_is_one := ok_is_one (P := P) (w := w) (base := base) T
  refine T.F_first_place.ok sc_first_place (fun vs H Q E h => ?_) (fun cdv A outer s H vs Q E hr h => ?_)
  · obtain ⟨l, P, a, Cs, x, rfl, _⟩ := h
    rfl
  · obtain ⟨l, P, a, Cs, x, rfl, hl, hC, hx, k⟩ := h
    refine ⟨_, (pss_cons (ps_for PassesOwn.never rfl (pi_enumT (by rfl) T.z_enumerate (pa_cons (pv 1) pa_nil)) (pg_tup rfl (pgs_cons (pg_name (i := 3) sc_first_place.nd rfl (Or.inl rfl)) (pgs_cons (pg_tup rfl (pgs_cons (pg_name (i := 4) sc_first_place.nd rfl (Or.inl rfl)) (pgs_cons (pg_name (i := 5) sc_first_place.nd rfl (Or.inl rfl)) pgs_nil))) pgs_nil)))
      (pss_one (ps_if (pt_val (pe_call G_is_one hr (by rfl) T.g_is_one T.F_is_one.kp T.b_is_one .nil pass0 (pa_cons (pv 0) (pa_cons (pv 2) (pa_cons (pv 4) pa_nil))))) (pss_one (ps_ret (pv 3))) pss_nil)))
      (pss_one (ps_ret (pe_callB (r := rLenQ K) (id := "len") call_len_seq (by rfl) T.z_len (by decide +kernel) (pa_cons (pv 1) pa_nil))))), ?_⟩
    obtain ⟨vs, ha, hcl⟩ := id hC
    have hvl := hcl.1
    tm_at "w"
    refine ⟨_, _, rfl, SqT.of ha, for_enumT (K := K) (a := a) (xs := vs) (fun i σ H' => ∃ p q r, σ = [some (.ref l.b), some (.ref a), some (.int (x : Int)), p, q, r] ∧ Same H H' ∧ firstB Cs (isA P x) = i + firstB (Cs.drop i) (isA P x)) ?_ ?_ ?_ ?_⟩
    · exact ⟨none, none, none, rfl, Same.refl H, by rw [List.drop_zero, Nat.zero_add]⟩
    · rintro i σ H' ⟨_, _, _, rfl, s1, _⟩
      exact SqT.of (s1 _ _ ha)
    · rintro i y t σ H' hy ⟨p0, q0, r0, rfl, s1, he⟩ nt
      obtain ⟨b, c, rfl, hc, hb⟩ := hcl.here hy
      have s2 : Same H (upd H' t (.tup [V.int (i : Int), V.ref b])) := Same.new s1 nt
      have hb2 := s2 _ _ hb
      have hn := first_drop hc he
      refine ⟨_, _, rfl, SqT.of upd_same, rfl, _, _, rfl, _, _, rfl, _, _, rfl, SqT.of hb2, rfl, _, _, rfl, _, _, rfl, rfl, rfl, ?_⟩
      tm_at "w"
      refine ⟨l, P, x, c.1, rfl, hl.same s2, hx, ?_⟩
      refine ⟨_, rfl, ?_⟩
      refine iteB (fun e => ?_) (fun e => ?_)
      · tm_at "w"
        rw [e, if_pos rfl] at hn
        rw [hn] at k
        exact k _ s2
      · rw [e, if_neg (by decide)] at hn
        exact ⟨_, _, _, rfl, s2, hn⟩
    · rintro σ H' ⟨p0, q0, r0, rfl, s1, he⟩
      have ha1 := s1 _ _ ha
      tm_at "w"
      rw [hvl, List.drop_length] at he
      rw [hvl, show Cs.length = firstB Cs (isA P x) from he.symm]
      exact k _ s1
/-! label_at -/
def sp_label_at (K : PySem.W.Frag) : Sp := fun vs H Q _ => ∃ (a : Addr) (Cs : List (Nat × Int)) (p : Nat), vs = [.ref a, .int p] ∧ ClsAt H a Cs ∧ Q (optV (Cs[p]?.map (·.2))) H
theorem sc_label_at : FnScope ["clauses", "place"] ["clauses", "place"] (defScope s_label_at) := ⟨rfl, rfl, rfl, by decide +kernel, rfl, by decide +kernel, by decide +kernel⟩
theorem ok_label_at (T : Top K mg) : FnOk P w K mg base CX0 1 T.f_label_at T.fd_label_at ["clauses", "place"] (sp_label_at K) := by
  refine T.F_label_at.ok sc_label_at (fun vs H Q E h => ?_) (fun cdv A outer s H vs Q E hr h => ?_)
  · obtain ⟨a, Cs, p, rfl, _⟩ := h
    rfl
  · obtain ⟨a, Cs, p, rfl, hC, k⟩ := h
    refine ⟨_, (pss_one (ps_ret (pe_ifExp (pt_cmpR op_lt (pv 1) (pe_callB (r := rLenQ K) (id := "len") call_len_seq (by rfl) T.z_len (by decide +kernel) (pa_cons (pv 0) pa_nil)) (nomark _)) (pe_ix (r := rIxT K) ix_tup (pe_ix (r := rIxT K) ix_tup (pv 0) (pv 1) (fun _ _ => rfl)) pe_int (fun _ _ => rfl)) pe_non))), ?_⟩
    obtain ⟨vs, ha, hcl⟩ := id hC
    have hvl := hcl.1
    tm_at "w"
    refine iteD (fun z => ?_) (fun z => ?_)
    · have hp : p < Cs.length := by omega
      obtain ⟨b, e1, e2⟩ := hcl.2 p _ (List.getElem?_eq_getElem hp)
      rw [List.getElem?_eq_getElem hp] at k
      tm_at "w"
      exact k
    · rw [List.getElem?_eq_none (by omega)] at k
      tm_at "w"
      exact k
/-! label_of -/
def sp_label_of (C : Addr) (K : PySem.W.Frag) : Sp := fun vs H Q _ => ∃ (l : Bk) (P : List (List Nat)) (a : Addr) (Cs : List (Nat × Int)) (x : Nat), vs = [.ref l.b, .ref a, .int x] ∧ BookAt C H l P ∧ ClsAt H a Cs ∧ Cs.length ≤ 40 ∧ (∀ c ∈ Cs, c.1 < P.length) ∧ x < P.length ∧
  ∀ H', Same H H' → Q (optV (labB Cs (isA P x))) H'
theorem sc_label_of : FnScope ["book", "clauses", "x"] ["book", "clauses", "x"] (defScope s_label_of) := ⟨rfl, rfl, rfl, by decide +kernel, rfl, by decide +kernel, by decide +kernel⟩
theorem ok_label_of (T : Top K mg) : FnOk P w K mg base CX0 5 T.f_label_of T.fd_label_of ["book", "clauses", "x"] (sp_label_of T.C_Book K) := by
  have G_check_clauses := ok_check_clauses (P := P) (w := w) (base := base) T
  have G_check_kind := ok_check_kind (P := P) (w := w) (base := base) T
  have G_first_place := ok_first_place (P := P) (w := w) (base := base) T
  have G_label_at := ok_label_at (P := P) (w := w) (base := base) T
  refine T.F_label_of.ok sc_label_of (fun vs H Q E h => ?_) (fun cdv A outer s H vs Q E hr h => ?_)
  · obtain ⟨l, P, a, Cs, x, rfl, _⟩ := h
    rfl
  · obtain ⟨l, P, a, Cs, x, rfl, hl, hC, h40, hk, hx, k⟩ := h
    refine ⟨_, (pss_cons (ps_expr (pe_call G_check_clauses hr (by rfl) T.g_check_clauses T.F_check_clauses.kp T.b_check_clauses .nil pass0 (pa_cons (pv 0) (pa_cons (pv 1) pa_nil))))
      (pss_cons (ps_expr (pe_call G_check_kind hr (by rfl) T.g_check_kind T.F_check_kind.kp T.b_check_kind .nil pass0 (pa_cons (pv 0) (pa_cons (pv 2) pa_nil))))
      (pss_one (ps_ret (pe_call G_label_at (hr.mono (by decide)) (by rfl) T.g_label_at T.F_label_at.kp T.b_label_at .nil pass0 (pa_cons (pv 1) (pa_cons (pe_call G_first_place (hr.mono (by decide)) (by rfl) T.g_first_place T.F_first_place.kp T.b_first_place .nil pass0 (pa_cons (pv 0) (pa_cons (pv 1) (pa_cons (pv 2) pa_nil)))) pa_nil))))))), ?_⟩
    tm_at "w"
    refine ⟨l, P, a, Cs, rfl, hl, hC, h40, hk, fun H1 s1 => ?_⟩
    tm_at "w"
    refine ⟨l, P, x, rfl, hl.same s1, hx, ?_⟩
    tm_at "w"
    refine ⟨l, P, a, Cs, x, rfl, hl.same s1, hC.tk (Same.tk s1), hx, fun H2 s2 => ?_⟩
    tm_at "w"
    exact ⟨a, Cs, _, rfl, (hC.tk (Same.tk s1)).tk (Same.tk s2), k _ (Same.trans s1 s2)⟩
/-! never_met -/
def natsD (p : List Nat) : List PyData := p.map fun q : Nat => PyData.int (q : Int)
def rowsD (P : List (List Nat)) : List PyData := P.map fun p => PyData.tuple (natsD p)
theorem nats_lay : ∀ q : List Nat, PyData.canLayAll0 (natsD q) = true
  | [] => rfl
  | n :: r => by
    show (PyData.canLay0 (.int (n : Int)) && PyData.canLayAll0 (natsD r)) = true
    rw [nats_lay r]
    rfl
theorem rows_lay : ∀ P : List (List Nat), PyData.canLayAll0 (rowsD P) = true
  | [] => rfl
  | q :: r => by
    show (PyData.canLay0 (.tuple (natsD q)) && PyData.canLayAll0 (rowsD r)) = true
    rw [rows_lay r]
    show (PyData.canLayAll0 (natsD q) && true) = true
    rw [nats_lay]
    rfl
theorem nats_deep : ∀ q : List Nat, PyData.depthAll (natsD q) ≤ 1
  | [] => by simp [natsD, PyData.depthAll]
  | n :: r => by
    have ih := nats_deep r
    show PyData.depthAll (PyData.int (n : Int) :: natsD r) ≤ 1
    simp only [PyData.depthAll, PyData.depth]
    omega
theorem rows_deep : ∀ P : List (List Nat), PyData.depthAll (rowsD P) ≤ 2
  | [] => by simp [rowsD, PyData.depthAll]
  | q :: r => by
    have ih := rows_deep r
    have iq := nats_deep q
    show PyData.depthAll (PyData.tuple (natsD q) :: rowsD r) ≤ 2
    simp only [PyData.depthAll, PyData.depth]
    omega
theorem nats_shaped (q : List Nat) : SeqAt.shaped (.tuple (natsD q)) = true := by
  have iq := nats_deep q
  have h2 : PyData.depth (.tuple (natsD q)) ≤ 64 := by
    simp only [PyData.depth]
    omega
  exact Bool.and_eq_true_iff.mpr ⟨nats_lay q, decide_eq_true h2⟩
theorem rows_shaped (P : List (List Nat)) : SeqAt.shaped (.tuple (rowsD P)) = true := by
  have iq := rows_deep P
  have h2 : PyData.depth (.tuple (rowsD P)) ≤ 64 := by
    simp only [PyData.depth]
    omega
  exact Bool.and_eq_true_iff.mpr ⟨rows_lay P, decide_eq_true h2⟩
theorem rows_refl (P : List (List Nat)) : PyData.eqv (.tuple (rowsD P)) (.tuple (rowsD P)) = true := SeqAt.eqv_refl _ (rows_lay P)
theorem nats_refl (q : List Nat) : PyData.eqv (.tuple (natsD q)) (.tuple (natsD q)) = true := SeqAt.eqv_refl _ (nats_lay q)
theorem dp_nats {K : PySem.W.Frag} {H : Hp} : ∀ q : List Nat, DpAll K H (natsV q) (natsD q)
  | [] => .nil
  | n :: r => .cons (.int n) (dp_nats r)
theorem dp_tup {K : PySem.W.Frag} {H : Hp} {a : Addr} {q : List Nat} (h : H a = some (.tup (natsV q))) : Dp K H (.ref a) (.tuple (natsD q)) := .tup (SqT.of h) (dp_nats q)
theorem dp_rows {K : PySem.W.Frag} {H : Hp} : ∀ {vs : List V} {P : List (List Nat)}, ParL H vs P → DpAll K H vs (rowsD P)
  | [], [], _ => .nil
  | [], _ :: _, h => nomatch h.1
  | _ :: _, [], h => nomatch h.1
  | v :: vs, p :: P, h => by
    obtain ⟨a, e1, e2⟩ := h.2 0 p rfl
    have ev : v = .ref a := Option.some.inj e1
    subst ev
    exact .cons (dp_tup e2) (dp_rows ⟨by have := h.1; simpa using this, fun j q e => h.2 (j + 1) q (by simpa using e)⟩)
theorem dp_par {K : PySem.W.Frag} {H : Hp} {a : Addr} {P : List (List Nat)} (h : ParAt H a P) : Dp K H (.ref a) (.tuple (rowsD P)) := by
  obtain ⟨vs, e, l⟩ := h
  exact .tup (SqT.of e) (dp_rows l)
/-! ### sorted of data -/
section
open PySem.Spec PyProof.Rows
variable {X : Cx}
def dLe (x y : V × PyData) : Bool := PySem.W.dataLe false (fun b : V × PyData => b.2) x y
def rSortedD (K : PySem.W.Frag) : List V → Hp → VK → Prop := fun vs H Q => ∃ (a : Addr) (xs : List V) (ds : List PyData), vs = [.ref a] ∧ SqL K H a xs ∧ DpAll K H xs ds ∧ PySem.W.AllAlike ds ∧ PySem.W.Sortable ds ∧ (∀ d ∈ ds, d.depth ≤ 60) ∧
  ∀ p, H p = none → Q (.ref p) (upd H p (.lst (((xs.zip ds).mergeSort dLe).map (·.1))))
theorem dpAll_len {K : PySem.W.Frag} {H : Hp} : ∀ {xs : List V} {ds : List PyData}, DpAll K H xs ds → xs.length = ds.length
  | [], [], _ => rfl
  | _ :: _, _ :: _, .cons _ h => by rw [List.length_cons, List.length_cons, dpAll_len h]
theorem zip_snd {α β : Type} : ∀ {xs : List α} {ds : List β}, xs.length = ds.length → (xs.zip ds).map (·.2) = ds
  | [], [], _ => rfl
  | [], _ :: _, h => by cases h
  | _ :: _, [], h => by cases h
  | x :: xs, d :: ds, h => by
    show d :: (xs.zip ds).map (·.2) = d :: ds
    rw [zip_snd (by simpa using h)]
theorem each_vals : ∀ {xs : List V} {us : List Value} {ds : List PyData}, Vals xs us → xs.length = ds.length → PySem.W.EachIs (fun (u : Value) (b : V × PyData) => RelV b.1 u) us (xs.zip ds)
  | [], [], [], .nil, _ => .nil
  | _ :: _, _ :: _, _ :: _, .cons r t, h => .cons r (each_vals t (by simpa using h))
theorem each_reads {h : Heap} : ∀ (ds : List PyData) (xs : List V) (us : List Value) (as : List Addr), xs.length = ds.length → ReadsAll h us ds as → PySem.W.EachIs (fun (u : Value) (b : V × PyData) => ∃ as, Reads h u b.2 as) us (xs.zip ds)
  | [], xs, us, as, e, r => by
    obtain rfl : xs = [] := List.eq_nil_of_length_eq_zero e
    cases r
    exact .nil
  | d :: ds, xs, us, as, e, r => by
    cases xs with
    | nil => cases e
    | cons x xs =>
      cases r with
      | cons r t => exact .cons ⟨_, r⟩ (each_reads ds xs _ _ (by simpa using e) t)
theorem vals_each : ∀ {us : List Value} {bs : List (V × PyData)}, PySem.W.EachIs (fun (u : Value) (b : V × PyData) => RelV b.1 u) us bs → Vals (bs.map (·.1)) us
  | _, _, .nil => .nil
  | _, _, .cons r t => .cons r (vals_each t)
theorem cr_sortedD (hu : X.A.units + 64 < cLine) : CallR X (.builtin "sorted") (rSortedD X.K) := by
  intro pins s σ H vs us Q I r h
  obtain ⟨a, xs, ds, rfl, hs, hd, ha, hk, hdp, q⟩ := h
  obtain ⟨its, rv, hl, hz⟩ := I.list hs
  rw [Vals.ref1 r]
  have len := dpAll_len hd
  have e2 := zip_snd len
  obtain ⟨as, rd⟩ := Dp.readsAll I ds xs its hd rv
  have zl : (xs.zip ds).length = xs.length := by rw [List.length_zip, ← len, Nat.min_self]
  refine PySem.W.sorted_data (vs := its) (enc := fun b : V × PyData => b.2) hl.isList (each_vals rv len) (each_reads ds xs its as len rd) (by rw [e2]; exact ha) (by rw [e2]; exact hk) (by rw [zl]; exact hz) (fun b hb => ?_) fun out hlen ho => ?_
  · have := hdp b.2 (by rw [← e2]; exact List.mem_map.mpr ⟨b, hb, rfl⟩)
    omega
  · obtain ⟨ep, he'⟩ := PyProof.Rows.sortedAll_at s.heap its out.toArray
    have vo := vals_each ho
    have hlen2 : (((xs.zip ds).mergeSort dLe).map (·.1)).length ≤ sizeLine := by
      rw [List.length_map, List.length_mergeSort, zl]
      exact hz
    exact ⟨.ref _, upd H (s.heap.objs.size + 1) (.lst (((xs.zip ds).mergeSort dLe).map (·.1))), I.laid (t' := s.toks) (fun _ _ => PyProof.Rows.sortedAll_old) (Nat.le_succ _) ⟨hlen2, out, ep, vo, he'⟩, rfl, q _ (I.hok.fresh (Nat.le_succ _))⟩
end
/-! all lots of numbers below n, fewer first, then ascending -/
def lotsB : Nat → List (List Nat)
  | 0 => [[]]
  | n + 1 => lotsB n ++ (lotsB n).map (· ++ [n])
theorem lotsB_len : ∀ n, (lotsB n).length = 2 ^ n
  | 0 => rfl
  | n + 1 => by
    show (lotsB n ++ (lotsB n).map (· ++ [n])).length = 2 ^ (n + 1)
    rw [List.length_append, List.length_map, lotsB_len n, Nat.pow_succ]
    omega
theorem asc_split {n : Nat} {q : List Nat} (h : q.Pairwise (· < ·)) (hn : ∀ k ∈ q, k < n + 1) : (∀ k ∈ q, k < n) ∨ ∃ r, q = r ++ [n] ∧ r.Pairwise (· < ·) ∧ ∀ k ∈ r, k < n := by
  by_cases e : q = []
  · exact .inl fun k hk => by rw [e] at hk; cases hk
  · have z := (List.dropLast_concat_getLast e).symm
    rw [z] at h hn
    obtain ⟨h1, _, h3⟩ := List.pairwise_append.mp h
    have hl := hn _ (List.mem_append_right _ (List.mem_singleton.mpr rfl))
    by_cases g : q.getLast e = n
    · refine .inr ⟨q.dropLast, by rw [← g]; exact z, h1, fun k hk => ?_⟩
      have := h3 k hk _ (List.mem_singleton.mpr rfl)
      omega
    · refine .inl fun k hk => ?_
      rw [z] at hk
      rcases List.mem_append.mp hk with hk | hk
      · have := h3 k hk _ (List.mem_singleton.mpr rfl)
        omega
      · rw [List.mem_singleton.mp hk]
        omega
theorem lotsB_mem : ∀ n {q : List Nat}, q ∈ lotsB n ↔ q.Pairwise (· < ·) ∧ ∀ k ∈ q, k < n
  | 0, q => by
    constructor
    · intro h
      rw [List.mem_singleton.mp h]
      exact ⟨List.Pairwise.nil, fun k hk => by cases hk⟩
    · rintro ⟨_, h⟩
      cases q with
      | nil => exact List.mem_singleton.mpr rfl
      | cons k r => exact absurd (h k List.mem_cons_self) (Nat.not_lt_zero _)
  | n + 1, q => by
    show q ∈ lotsB n ++ (lotsB n).map (· ++ [n]) ↔ _
    rw [List.mem_append, List.mem_map]
    constructor
    · rintro (h | ⟨r, h, rfl⟩)
      · obtain ⟨h1, h2⟩ := (lotsB_mem n).mp h
        exact ⟨h1, fun k hk => Nat.lt_succ_of_lt (h2 k hk)⟩
      · obtain ⟨h1, h2⟩ := (lotsB_mem n).mp h
        refine ⟨List.pairwise_append.mpr ⟨h1, List.pairwise_singleton _ _, fun a ha b hb => ?_⟩, fun k hk => ?_⟩
        · rw [List.mem_singleton.mp hb]
          exact h2 a ha
        · rcases List.mem_append.mp hk with hk | hk
          · exact Nat.lt_succ_of_lt (h2 k hk)
          · rw [List.mem_singleton.mp hk]
            exact Nat.lt_succ_self n
    · rintro ⟨h1, h2⟩
      rcases asc_split h1 h2 with h | ⟨r, rfl, h3, h4⟩
      · exact .inl ((lotsB_mem n).mpr ⟨h1, h⟩)
      · exact .inr ⟨r, (lotsB_mem n).mpr ⟨h3, h4⟩, rfl⟩
def le2 (a b : List Nat) : Bool := decide (a.length < b.length ∨ (a.length = b.length ∧ a ≤ b))
theorem le2_trans (a b c : List Nat) (h1 : le2 a b = true) (h2 : le2 b c = true) : le2 a c = true := by
  have h1 := of_decide_eq_true h1
  have h2 := of_decide_eq_true h2
  refine decide_eq_true ?_
  rcases h1 with h1 | ⟨h1, h3⟩ <;> rcases h2 with h2 | ⟨h2, h4⟩
  · exact .inl (by omega)
  · exact .inl (by omega)
  · exact .inl (by omega)
  · exact .inr ⟨by omega, List.le_trans h3 h4⟩
theorem le2_total (a b : List Nat) : (le2 a b || le2 b a) = true := by
  rw [Bool.or_eq_true]
  by_cases h : a.length < b.length
  · exact .inl (decide_eq_true (.inl h))
  · by_cases h2 : b.length < a.length
    · exact .inr (decide_eq_true (.inl h2))
    · rcases List.le_total a b with h3 | h3
      · exact .inl (decide_eq_true (.inr ⟨by omega, h3⟩))
      · exact .inr (decide_eq_true (.inr ⟨by omega, h3⟩))
theorem le2_anti {a b : List Nat} (h1 : le2 a b = true) (h2 : le2 b a = true) : a = b := by
  have h1 := of_decide_eq_true h1
  have h2 := of_decide_eq_true h2
  rcases h1 with h1 | ⟨h1, h3⟩ <;> rcases h2 with h2 | ⟨h2, h4⟩
  · omega
  · omega
  · omega
  · exact List.le_antisymm h3 h4
def sortB (n : Nat) : List (List Nat) := (lotsB n).mergeSort le2
theorem sortB_mem {n : Nat} {q : List Nat} : q ∈ sortB n ↔ q.Pairwise (· < ·) ∧ ∀ k ∈ q, k < n := List.mem_mergeSort.trans (lotsB_mem n)
theorem sortB_sorted (n : Nat) : (sortB n).Pairwise fun a b => le2 a b = true := List.pairwise_mergeSort le2_trans le2_total _
theorem sortB_len (n : Nat) : (sortB n).length = 2 ^ n := by
  unfold sortB
  rw [List.length_mergeSort, lotsB_len]
theorem find_least {α : Type} {le : α → α → Bool} (anti : ∀ a b, le a b = true → le b a = true → a = b) {p : α → Bool} {a : α} : ∀ {l : List α}, (l.Pairwise fun a b => le a b = true) → a ∈ l → p a = true → (∀ b ∈ l, p b = true → le a b = true) → l.find? p = some a
  | [], _, h, _, _ => by cases h
  | b :: r, hs, h, hp, hl => by
    obtain ⟨h1, h2⟩ := List.pairwise_cons.mp hs
    rw [List.find?_cons]
    cases e : p b with
    | true =>
      rcases List.mem_cons.mp h with z | z
      · rw [z]
      · rw [anti a b (hl b List.mem_cons_self e) (h1 a z)]
    | false =>
      rcases List.mem_cons.mp h with z | z
      · rw [z, e] at hp
        cases hp
      · exact find_least anti h2 z hp fun c hc => hl c (List.mem_cons_of_mem _ hc)
/-! the order of the data -/
def lotD (q : List Nat) : PyData := .tuple [.int (q.length : Int), .tuple (natsD q)]
theorem lt_cast : ∀ a b : List Nat, (a.map fun z : Nat => (z : Int)) < (b.map fun z : Nat => (z : Int)) ↔ a < b
  | [], [] => by simp
  | [], y :: ys => by simp
  | x :: xs, [] => by simp
  | x :: xs, y :: ys => by
    rw [List.map_cons, List.map_cons, List.cons_lt_cons_iff, List.cons_lt_cons_iff, lt_cast xs ys]
    constructor
    · rintro (h | ⟨h, h2⟩)
      · exact .inl (by omega)
      · exact .inr ⟨by omega, h2⟩
    · rintro (h | ⟨h, h2⟩)
      · exact .inl (by omega)
      · exact .inr ⟨by omega, h2⟩
theorem natsD_ints (q : List Nat) : natsD q = (q.map fun z : Nat => (z : Int)).map PyData.int := by
  unfold natsD
  rw [List.map_map]
  rfl
theorem alike_nats (a b : List Nat) : PySem.W.alike (.tuple (natsD a)) (.tuple (natsD b)) = true := by
  rw [natsD_ints, natsD_ints]
  show PySem.W.alikeAll _ _ = true
  exact PySem.W.alike_ints _ _
theorem alike_lots (a b : List Nat) : PySem.W.alike (lotD a) (lotD b) = true := by
  show (true && (PySem.W.alike (.tuple (natsD a)) (.tuple (natsD b)) && true)) = true
  rw [alike_nats]
  rfl
theorem lt_nats (a b : List Nat) : PySem.W.dataLt (.tuple (natsD a)) (.tuple (natsD b)) = decide (a < b) := by
  rw [natsD_ints, natsD_ints, PySem.W.dataLt_tuple]
  refine (PySem.W.dataLt_ints _ _).trans (decide_eq_decide.mpr (lt_cast a b))
theorem eqv_nats : ∀ a b : List Nat, PyData.eqvAll (natsD a) (natsD b) = decide (a = b)
  | [], [] => rfl
  | [], _ :: _ => rfl
  | _ :: _, [] => rfl
  | x :: xs, y :: ys => by
    show (PyData.eqv (.int (x : Int)) (.int (y : Int)) && PyData.eqvAll (natsD xs) (natsD ys)) = _
    rw [eqv_nats xs ys]
    show (((x : Int) == (y : Int)) && _) = _
    rw [Bool.eq_iff_iff, Bool.and_eq_true, beq_iff_eq, decide_eq_true_eq, decide_eq_true_eq, List.cons.injEq, Int.ofNat_inj]
theorem le_lots (a b : List Nat) : (!PySem.W.dataLt (lotD b) (lotD a)) = le2 a b := by
  unfold lotD
  rw [PySem.W.dataLt_pair (by simp [PySem.W.alike]) (alike_nats b a), PySem.W.dataLt_int, lt_nats]
  show (!(if ((b.length : Int) == (a.length : Int)) = true then (if PyData.eqvAll (natsD b) (natsD a) = true then false else decide (b < a)) else decide ((b.length : Int) < (a.length : Int)))) = le2 a b
  rw [eqv_nats]
  unfold le2
  by_cases h : b.length = a.length
  · rw [if_pos (by rw [beq_iff_eq]; omega)]
    by_cases e : b = a
    · rw [if_pos (decide_eq_true e), e]
      exact (decide_eq_true (.inr ⟨rfl, List.le_refl a⟩)).symm
    · rw [if_neg (by rw [decide_eq_true_eq]; exact e)]
      by_cases l : b < a
      · rw [decide_eq_true l, decide_eq_false]
        · rfl
        · rintro (g | ⟨_, g⟩)
          · omega
          · exact List.not_lt.mpr g l
      · rw [decide_eq_false l, decide_eq_true]
        · rfl
        · exact .inr ⟨h.symm, List.not_lt.mp l⟩
  · rw [if_neg (by rw [beq_iff_eq]; omega)]
    by_cases l : b.length < a.length
    · rw [decide_eq_true (by omega), decide_eq_false]
      · rfl
      · rintro (g | ⟨g, _⟩) <;> omega
    · rw [decide_eq_false (by omega), decide_eq_true]
      · rfl
      · exact .inl (by omega)
/-! the least lot of which two lists of clauses tell unlike labels -/
def lotS (P : List (List Nat)) (q : List Nat) : Nat → Bool := fun k => q.any fun z => isA P z k
def prtB (C1 C2 : List (Nat × Int)) (S : Nat → Bool) : Bool := !decide (labB C1 S = labB C2 S)
def partB (P : List (List Nat)) (C1 C2 : List (Nat × Int)) : Option (List Nat) := (sortB P.length).find? fun q => prtB C1 C2 (lotS P q)
theorem prtB_comm (C1 C2 : List (Nat × Int)) (S : Nat → Bool) : prtB C1 C2 S = prtB C2 C1 S := by
  unfold prtB
  congr 1
  exact decide_eq_decide.mpr eq_comm
theorem partB_comm (P : List (List Nat)) (C1 C2 : List (Nat × Int)) : partB P C1 C2 = partB P C2 C1 := by
  unfold partB
  congr 1
  funext q
  exact prtB_comm _ _ _
theorem partB_self (P : List (List Nat)) (C1 : List (Nat × Int)) : partB P C1 C1 = none := by
  unfold partB
  rw [List.find?_eq_none]
  intro q _
  unfold prtB
  rw [decide_eq_true rfl]
  decide
theorem first_or (S T : Nat → Bool) : ∀ C : List (Nat × Int), firstB C (fun k => S k || T k) = min (firstB C S) (firstB C T)
  | [] => rfl
  | c :: r => by
    have ih := first_or S T r
    unfold firstB at ih ⊢
    rw [List.findIdx_cons, List.findIdx_cons, List.findIdx_cons, ih]
    show (bif (S c.1 || T c.1) then 0 else _) = _
    cases S c.1 <;> cases T c.1 <;> simp only [Bool.true_or, Bool.false_or, Bool.or_false, Bool.or_true, cond_true, cond_false] <;> omega
theorem first_none : ∀ C : List (Nat × Int), firstB C (fun _ => false) = C.length
  | [] => rfl
  | c :: r => by
    have ih := first_none r
    unfold firstB at ih ⊢
    rw [List.findIdx_cons, ih]
    rfl
theorem first_lot (P : List (List Nat)) (C : List (Nat × Int)) : ∀ q : List Nat, q ≠ [] → (∃ x ∈ q, firstB C (lotS P q) = firstB C (isA P x)) ∧ ∀ x ∈ q, firstB C (lotS P q) ≤ firstB C (isA P x)
  | [], h => absurd rfl h
  | [x], _ => by
    have e : lotS P [x] = isA P x := funext fun k => by
      show (isA P x k || false) = _
      rw [Bool.or_false]
    rw [e]
    exact ⟨⟨x, List.mem_singleton.mpr rfl, rfl⟩, fun y hy => by rw [List.mem_singleton.mp hy]; exact Nat.le_refl _⟩
  | x :: y :: r, _ => by
    obtain ⟨⟨z, hz, e⟩, h2⟩ := first_lot P C (y :: r) (by simp)
    have e2 : lotS P (x :: y :: r) = fun k => isA P x k || lotS P (y :: r) k := rfl
    rw [e2, first_or]
    refine ⟨?_, fun w hw => ?_⟩
    · by_cases h : firstB C (isA P x) ≤ firstB C (lotS P (y :: r))
      · exact ⟨x, List.mem_cons_self, by omega⟩
      · exact ⟨z, List.mem_cons_of_mem _ hz, by omega⟩
    · rcases List.mem_cons.mp hw with g | g
      · rw [g]
        omega
      · have := h2 w g
        omega
theorem lab_eq {C : List (Nat × Int)} {S T : Nat → Bool} (h : firstB C S = firstB C T) : labB C S = labB C T := by
  unfold labB
  rw [h]
theorem lotS_one (P : List (List Nat)) (x : Nat) : lotS P [x] = isA P x := funext fun k => by
  show (isA P x k || false) = _
  rw [Bool.or_false]
theorem lotS_two (P : List (List Nat)) (x y : Nat) : lotS P [x, y] = fun k => isA P x k || isA P y k := funext fun k => by
  show (isA P x k || (isA P y k || false)) = _
  rw [Bool.or_false]
/-- if no kind alone and no two tell unlike labels, no lot does -/
theorem part_few {P : List (List Nat)} {C1 C2 : List (Nat × Int)} (h1 : ∀ x, x < P.length → prtB C1 C2 (isA P x) = false) (h2 : ∀ x y, x < y → y < P.length → prtB C1 C2 (fun k => isA P x k || isA P y k) = false) {q : List Nat} (hq : ∀ k ∈ q, k < P.length) : prtB C1 C2 (lotS P q) = false := by
  have eq_of : ∀ {S : Nat → Bool}, prtB C1 C2 S = false → labB C1 S = labB C2 S := fun {S} h => by
    unfold prtB at h
    rw [Bool.not_eq_false'] at h
    exact of_decide_eq_true h
  have to : labB C1 (lotS P q) = labB C2 (lotS P q) → prtB C1 C2 (lotS P q) = false := fun h => by
    unfold prtB
    rw [decide_eq_true h]
    rfl
  by_cases e : q = []
  · refine to ?_
    have e2 : lotS P q = fun _ => false := by rw [e]; rfl
    unfold labB
    rw [e2, first_none, first_none, List.getElem?_eq_none (Nat.le_refl _), List.getElem?_eq_none (Nat.le_refl _)]
  · obtain ⟨⟨x, hx, ex⟩, lx⟩ := first_lot P C1 q e
    obtain ⟨⟨y, hy, ey⟩, ly⟩ := first_lot P C2 q e
    have key : ∀ S : Nat → Bool, labB C1 S = labB C2 S → firstB C1 S = firstB C1 (lotS P q) → firstB C2 S = firstB C2 (lotS P q) → labB C1 (lotS P q) = labB C2 (lotS P q) := fun S h g1 g2 => by
      rw [← lab_eq g1, ← lab_eq g2]
      exact h
    refine to ?_
    have a1 := lx y hy
    have a2 := ly x hx
    rcases Nat.lt_trichotomy x y with g | g | g
    · exact key _ (eq_of (h2 x y g (hq y hy))) (by rw [first_or]; omega) (by rw [first_or]; omega)
    · subst g
      exact key _ (eq_of (h1 x (hq x hx))) (by omega) (by omega)
    · exact key _ (eq_of (h2 y x g (hq x hx))) (by rw [first_or]; omega) (by rw [first_or]; omega)
theorem prt_nil (P : List (List Nat)) (C1 C2 : List (Nat × Int)) : prtB C1 C2 (lotS P []) = false := by
  have e2 : lotS P [] = fun _ => false := rfl
  unfold prtB labB
  rw [e2, first_none, first_none, List.getElem?_eq_none (Nat.le_refl _), List.getElem?_eq_none (Nat.le_refl _)]
  rfl
theorem part_one {P : List (List Nat)} {C1 C2 : List (Nat × Int)} {x : Nat} (hx : x < P.length) (h : prtB C1 C2 (isA P x) = true) (hl : ∀ y, y < x → prtB C1 C2 (isA P y) = false) : partB P C1 C2 = some [x] := by
  refine find_least (fun a b => le2_anti) (sortB_sorted _) (sortB_mem.mpr ⟨List.pairwise_singleton _ _, fun k hk => by rw [List.mem_singleton.mp hk]; exact hx⟩) (by rw [lotS_one]; exact h) fun b hb hp => ?_
  obtain ⟨b1, b2⟩ := sortB_mem.mp hb
  match b, hp with
  | [], hp => rw [prt_nil] at hp; cases hp
  | [y], hp =>
    rw [lotS_one] at hp
    refine decide_eq_true (.inr ⟨rfl, ?_⟩)
    by_cases g : y < x
    · rw [hl y g] at hp
      cases hp
    · rw [List.cons_le_cons_iff]
      by_cases e : x = y
      · exact .inr ⟨e, List.le_refl _⟩
      · exact .inl (by omega)
  | y :: z :: r, _ => exact decide_eq_true (.inl (by show 1 < r.length + 1 + 1; omega))
theorem part_two {P : List (List Nat)} {C1 C2 : List (Nat × Int)} {x y : Nat} (hxy : x < y) (hy : y < P.length) (h1 : ∀ z, z < P.length → prtB C1 C2 (isA P z) = false) (h : prtB C1 C2 (fun k => isA P x k || isA P y k) = true)
    (hl : ∀ a b, a < b → b < P.length → (a < x ∨ (a = x ∧ b < y)) → prtB C1 C2 (fun k => isA P a k || isA P b k) = false) : partB P C1 C2 = some [x, y] := by
  refine find_least (fun a b => le2_anti) (sortB_sorted _) (sortB_mem.mpr ⟨List.pairwise_cons.mpr ⟨fun a ha => by rw [List.mem_singleton.mp ha]; exact hxy, List.pairwise_singleton _ _⟩, fun k hk => ?_⟩) (by rw [lotS_two]; exact h) fun b hb hp => ?_
  · rcases List.mem_cons.mp hk with e | e
    · omega
    · rw [List.mem_singleton.mp e]
      exact hy
  obtain ⟨b1, b2⟩ := sortB_mem.mp hb
  match b, hp, b1, b2 with
  | [], hp, _, _ => rw [prt_nil] at hp; cases hp
  | [z], hp, _, b2 =>
    rw [lotS_one, h1 z (b2 z (List.mem_singleton.mpr rfl))] at hp
    cases hp
  | [a, c], hp, b1, b2 =>
    rw [lotS_two] at hp
    have ac := (List.pairwise_cons.mp b1).1 c (List.mem_singleton.mpr rfl)
    have cl := b2 c (List.mem_cons_of_mem _ (List.mem_singleton.mpr rfl))
    refine decide_eq_true (.inr ⟨rfl, ?_⟩)
    by_cases g : a < x ∨ (a = x ∧ c < y)
    · rw [hl a c ac cl g] at hp
      cases hp
    · rw [List.cons_le_cons_iff]
      by_cases e : x = a
      · refine .inr ⟨e, ?_⟩
        rw [List.cons_le_cons_iff]
        by_cases e2 : y = c
        · exact .inr ⟨e2, List.le_refl _⟩
        · exact .inl (by omega)
      · exact .inl (by omega)
  | a :: c :: d :: r, _, _, _ => exact decide_eq_true (.inl (by show 2 < r.length + 1 + 1 + 1; omega))
theorem part_none {P : List (List Nat)} {C1 C2 : List (Nat × Int)} (h1 : ∀ z, z < P.length → prtB C1 C2 (isA P z) = false) (h2 : ∀ a b, a < b → b < P.length → prtB C1 C2 (fun k => isA P a k || isA P b k) = false) : partB P C1 C2 = none := by
  unfold partB
  rw [List.find?_eq_none]
  intro q hq
  rw [part_few h1 h2 (sortB_mem.mp hq).2]
  decide
theorem find_first {α : Type} {le : α → α → Bool} (rfl' : ∀ a, le a a = true) {p : α → Bool} {a : α} : ∀ {l : List α}, (l.Pairwise fun a b => le a b = true) → l.find? p = some a → ∀ b ∈ l, p b = true → le a b = true
  | [], _, h, _, _, _ => by cases h
  | c :: r, hs, h, b, hb, hp => by
    obtain ⟨h1, h2⟩ := List.pairwise_cons.mp hs
    rw [List.find?_cons] at h
    cases e : p c with
    | true =>
      rw [e] at h
      obtain rfl := Option.some.inj h
      rcases List.mem_cons.mp hb with z | z
      · rw [z]
        exact rfl' _
      · exact h1 b z
    | false =>
      rw [e] at h
      rcases List.mem_cons.mp hb with z | z
      · rw [z, e] at hp
        cases hp
      · exact find_first rfl' h2 h b z hp
/-- the places that are never the first one met -/
def kdB (Cs : List (Nat × Int)) (i : Nat) : Nat := (Cs.getD i (0, 0)).1
theorem kdB_at {Cs : List (Nat × Int)} {i : Nat} {c : Nat × Int} (h : Cs[i]? = some c) : kdB Cs i = c.1 := by
  unfold kdB
  rw [List.getD_eq_getElem?_getD, h]
  rfl
def nevP (P : List (List Nat)) (Cs : List (Nat × Int)) (i : Nat) : Bool := decide (firstB Cs (isA P (kdB Cs i)) < i)
def nevB (P : List (List Nat)) (Cs : List (Nat × Int)) : List Nat := (List.range Cs.length).filter (nevP P Cs)
theorem first_lt {S : Nat → Bool} {j : Nat} : ∀ {Cs : List (Nat × Int)}, j ≤ Cs.length → (firstB Cs S < j ↔ ∃ i, i < j ∧ S (kdB Cs i) = true ∧ i < Cs.length) := by
  intro Cs hj
  constructor
  · intro h
    have hl : firstB Cs S < Cs.length := by omega
    refine ⟨firstB Cs S, h, ?_, hl⟩
    rw [kdB_at (List.getElem?_eq_getElem hl)]
    exact List.findIdx_getElem (p := fun c : Nat × Int => S c.1) (w := hl)
  · rintro ⟨i, h1, h2, h3⟩
    rw [kdB_at (List.getElem?_eq_getElem h3)] at h2
    refine Classical.byContradiction fun no => ?_
    have := List.not_of_lt_findIdx (p := fun c : Nat × Int => S c.1) (xs := Cs) (i := i) (by
      show i < firstB Cs S
      omega)
    rw [h2] at this
    cases this
theorem first_at {S : Nat → Bool} {Cs : List (Nat × Int)} (h : firstB Cs S < Cs.length) : S (kdB Cs (firstB Cs S)) = true := by
  rw [kdB_at (List.getElem?_eq_getElem h)]
  exact List.findIdx_getElem (p := fun c : Nat × Int => S c.1) (w := h)
theorem lab_find (S : Nat → Bool) : ∀ Cs : List (Nat × Int), labB Cs S = (Cs.find? fun c => S c.1).map (·.2)
  | [] => rfl
  | c :: r => by
    have ih := lab_find S r
    unfold labB firstB at ih ⊢
    rw [List.findIdx_cons, List.find?_cons]
    cases e : S c.1 with
    | true => rfl
    | false =>
      show (((c :: r)[List.findIdx (fun c => S c.1) r + 1]?).map (·.2)) = _
      rw [List.getElem?_cons_succ]
      exact ih
/-- a place is the first one met of some lot just if it is of its own kind -/
theorem met_iff {P : List (List Nat)} (hR : RtP P) {Cs : List (Nat × Int)} (hk : ∀ c ∈ Cs, c.1 < P.length) {i : Nat} (hi : i < Cs.length) : nevP P Cs i = false ↔ ∃ q ∈ sortB P.length, firstB Cs (lotS P q) = i := by
  have ci := List.getElem?_eq_getElem hi
  have kl : kdB Cs i < P.length := by
    rw [kdB_at ci]
    exact hk _ (List.getElem_mem hi)
  unfold nevP
  rw [decide_eq_false_iff_not]
  constructor
  · intro h
    refine ⟨[kdB Cs i], sortB_mem.mpr ⟨List.pairwise_singleton _ _, fun k hk => by rw [List.mem_singleton.mp hk]; exact kl⟩, ?_⟩
    rw [lotS_one]
    have : firstB Cs (isA P (kdB Cs i)) < i + 1 := (first_lt (by omega)).mpr ⟨i, by omega, isA_refl hR kl, hi⟩
    omega
  · rintro ⟨q, hq, h⟩ no
    obtain ⟨j, h1, h2, h3⟩ := (first_lt (by omega)).mp no
    have z := first_at (S := lotS P q) (Cs := Cs) (by omega)
    rw [h] at z
    obtain ⟨y, hy, e⟩ := List.any_eq_true.mp z
    have : firstB Cs (lotS P q) < i := (first_lt (by omega)).mpr ⟨j, h1, List.any_eq_true.mpr ⟨y, hy, isA_trans hR e h2⟩, h3⟩
    omega
theorem find_kept {α : Type} {k p : α → Bool} : ∀ {l : List α}, (∀ a, l.find? p = some a → k a = true) → (l.filter k).find? p = l.find? p
  | [], _ => rfl
  | a :: r, h => by
    rw [List.find?_cons] at h ⊢
    rw [List.filter_cons]
    cases e : p a with
    | true =>
      rw [e] at h
      rw [if_pos (h a rfl), List.find?_cons, e]
    | false =>
      rw [e] at h
      have ih := find_kept h
      split
      · rw [List.find?_cons, e]
        exact ih
      · exact ih
/-- the pairs that are met -/
def leftB (P : List (List Nat)) (Cs : List (Nat × Int)) : List (Nat × Int) := ((List.range Cs.length).filter fun i => !nevP P Cs i).map fun i => Cs.getD i (0, 0)
theorem range_get (Cs : List (Nat × Int)) : (List.range Cs.length).map (fun i => Cs.getD i (0, 0)) = Cs := by
  refine List.ext_getElem? fun j => ?_
  rw [List.getElem?_map]
  by_cases h : j < Cs.length
  · rw [List.getElem?_range h, List.getElem?_eq_getElem h]
    show some (Cs.getD j (0, 0)) = _
    rw [List.getD_eq_getElem?_getD, List.getElem?_eq_getElem h]
    rfl
  · rw [List.getElem?_eq_none (by rw [List.length_range]; omega), List.getElem?_eq_none (by omega)]
    rfl
theorem lab_left {P : List (List Nat)} (hR : RtP P) {Cs : List (Nat × Int)} (hk : ∀ c ∈ Cs, c.1 < P.length) {q : List Nat} (hq : q ∈ sortB P.length) : labB (leftB P Cs) (lotS P q) = labB Cs (lotS P q) := by
  rw [lab_find, lab_find]
  congr 1
  have e : (Cs.find? fun c => lotS P q c.1) = ((List.range Cs.length).find? fun i => lotS P q (kdB Cs i)).map fun i => Cs.getD i (0, 0) := by
    conv => lhs; rw [← range_get Cs]
    rw [List.find?_map]
    rfl
  rw [e]
  unfold leftB
  rw [List.find?_map]
  congr 1
  refine find_kept fun i hi => ?_
  have hi : (List.range Cs.length).find? (fun i => lotS P q (kdB Cs i)) = some i := hi
  have hm := List.mem_range.mp (List.mem_of_find?_eq_some hi)
  have hp : lotS P q (kdB Cs i) = true := List.find?_some (p := fun i => lotS P q (kdB Cs i)) hi
  rw [(met_iff hR hk hm).mpr ⟨q, hq, ?_⟩]
  · rfl
  · have a : ¬ firstB Cs (lotS P q) < i := fun g => by
      obtain ⟨j, h1, h2, h3⟩ := (first_lt (by omega)).mp g
      have := find_first (le := fun a b : Nat => decide (a ≤ b)) (fun a => decide_eq_true (Nat.le_refl a)) (p := fun i => lotS P q (kdB Cs i)) (List.pairwise_le_range.imp fun h => decide_eq_true h) hi j (List.mem_range.mpr h3) h2
      have := of_decide_eq_true this
      omega
    have b : firstB Cs (lotS P q) < i + 1 := (first_lt (by omega)).mpr ⟨i, by omega, hp, hm⟩
    omega
theorem part_left {P : List (List Nat)} (hR : RtP P) {Cs : List (Nat × Int)} (hk : ∀ c ∈ Cs, c.1 < P.length) : partB P Cs (leftB P Cs) = none := by
  unfold partB
  rw [List.find?_eq_none]
  intro q hq
  unfold prtB
  rw [lab_left hR hk hq, decide_eq_true rfl]
  decide
theorem left_mem {P : List (List Nat)} {Cs : List (Nat × Int)} : ∀ c ∈ leftB P Cs, c ∈ Cs := fun c hc => by
  obtain ⟨i, hi, rfl⟩ := List.mem_map.mp hc
  have il := List.mem_range.mp (List.mem_filter.mp hi).1
  rw [List.getD_eq_getElem?_getD, List.getElem?_eq_getElem il]
  exact List.getElem_mem il
theorem left_len (P : List (List Nat)) (Cs : List (Nat × Int)) : (leftB P Cs).length ≤ Cs.length := by
  unfold leftB
  rw [List.length_map]
  have := List.length_filter_le (fun i => !nevP P Cs i) (List.range Cs.length)
  rw [List.length_range] at this
  exact this
theorem nev_left (P : List (List Nat)) (Cs : List (Nat × Int)) : nevB P (leftB P Cs) = [] := by
  unfold nevB
  rw [List.filter_eq_nil_iff]
  intro i hi
  have il := List.mem_range.mp hi
  unfold nevP
  rw [decide_eq_true_eq]
  intro h
  obtain ⟨j, h1, h2, h3⟩ := (first_lt (by omega)).mp h
  have pw : ((List.range Cs.length).filter fun i => !nevP P Cs i).Pairwise (· < ·) := List.pairwise_lt_range.filter _
  have at' : ∀ z, z < (leftB P Cs).length → ∃ m, ((List.range Cs.length).filter fun i => !nevP P Cs i)[z]? = some m ∧ kdB (leftB P Cs) z = kdB Cs m ∧ m < Cs.length ∧ nevP P Cs m = false := fun z hz => by
    have hz' : z < ((List.range Cs.length).filter fun i => !nevP P Cs i).length := by
      unfold leftB at hz
      rw [List.length_map] at hz
      exact hz
    have e := List.getElem?_eq_getElem hz'
    obtain ⟨m1, m2⟩ := List.mem_filter.mp (List.getElem_mem hz')
    refine ⟨_, e, ?_, List.mem_range.mp m1, by simpa using m2⟩
    have e2 : (leftB P Cs)[z]? = some (Cs.getD (((List.range Cs.length).filter fun i => !nevP P Cs i)[z]) (0, 0)) := by
      unfold leftB
      rw [List.getElem?_map, e]
      rfl
    rw [kdB_at e2]
    rfl
  obtain ⟨m, a1, a2, a3, a4⟩ := at' i il
  obtain ⟨m', b1, b2, b3, b4⟩ := at' j h3
  rw [a2, b2] at h2
  have lt : m' < m := by
    obtain ⟨g1, e1⟩ := List.getElem?_eq_some_iff.mp a1
    obtain ⟨g2, e2⟩ := List.getElem?_eq_some_iff.mp b1
    have := List.pairwise_iff_getElem.mp pw j i g2 g1 h1
    rw [e1, e2] at this
    exact this
  unfold nevP at a4
  rw [decide_eq_false_iff_not] at a4
  exact a4 ((first_lt (by omega)).mpr ⟨m', lt, h2, b3⟩)
theorem lc_enumTF {K : PySem.W.Frag} {a : Addr} {xs : List V} {g : TG} {tt : TT} {te : TE} {vs : List Nat} {σ : St} {H1 : Hp} {D : Addr} {Qd : Hp → Prop} (f : Nat → Option V) (hx : H1 a = some (.tup xs)) (nD : H1 D = none) (hn : xs.length ≤ 100000)
    (hs : ∀ (i : Nat) (x : V) (Z : Addr) (H : Hp) (N : V → Hp → Prop) (M : Hp → Prop), xs[i]? = some x → Same H1 H → H Z = some (.tup [.int (i : Nat), x]) → (∀ v H4, f i = some v → Same H H4 → N v H4) → (∀ H4, f i = none → Same H H4 → M H4) → g (.ref Z) (wipe σ vs) H fun σ2 H2 => wipe σ2 vs = wipe σ vs ∧ tt σ2 H2 fun b H3 => if b = true then te σ2 H3 N else M H3)
    (hd : ∀ H, Same H1 H → H D = some (.lst ((List.range xs.length).filterMap f)) → Qd H) : ∃ W : Nat → Nat → Hp → Prop, (∃ m, W 0 m (upd H1 D (.lst []))) ∧ ∀ i m H, W i m H →
      ((IteT K a).stop i H ∧ Qd H) ∨ ((IteT K a).go i H ∧ ∃ Nx : Hp → Prop, (∀ H', Nx H' → ∃ m', m' < m ∧ W (i + 1) m' H') ∧ ∀ x H', (IteT K a).yld i H x H' → g x (wipe σ vs) H' fun σ2 H2 => wipe σ2 vs = wipe σ vs ∧ tt σ2 H2 fun b H3 =>
        if b = true then te σ2 H3 fun y H4 => ∃ acc, H4 D = some (.lst acc) ∧ acc.length < sizeLine ∧ Nx (upd H4 D (.lst (acc ++ [y]))) else Nx H3) := by
  refine ⟨fun i m H => m = xs.length - i ∧ i ≤ xs.length ∧ Same H1 H ∧ H D = some (.lst ((List.range i).filterMap f)), ⟨xs.length, rfl, Nat.zero_le _, Same.new (Same.refl H1) nD, upd_same⟩, ?_⟩
  rintro i m H ⟨rfl, hi, s, hD⟩
  have qx : SqT K H a xs := SqT.of (s _ _ hx)
  have hz := filterMap_range_len f i
  by_cases hlt : i < xs.length
  · have ex : xs[i]? = some xs[i] := List.getElem?_eq_getElem hlt
    refine .inr ⟨⟨xs, _, qx, ex⟩, fun H => i < xs.length ∧ Same H1 H ∧ H D = some (.lst ((List.range (i + 1)).filterMap f)), fun H' p' => ⟨xs.length - (i + 1), by omega, rfl, hlt, p'.2⟩, fun v H' y => ?_⟩
    obtain ⟨Z, x', rfl, hZ, rfl, f1⟩ := y
    have s1 : Same H (upd H Z (.tup [.int (i : Nat), x'])) := Same.new (Same.refl H) hZ
    refine hs i x' Z _ _ _ (f1 xs qx) (s.trans s1) upd_same (fun v H4 e s4 => ⟨_, s4 _ _ (s1 _ _ hD), lt_line (by omega), hlt, ?_, ?_⟩) (fun H4 e s4 => ⟨hlt, ?_, ?_⟩)
    · exact Same.mut ((s.trans s1).trans s4) nD
    · rw [filterMap_range_succ, e]
      exact upd_same
    · exact (s.trans s1).trans s4
    · rw [filterMap_range_succ, e, s4 _ _ (s1 _ _ hD)]
      simp
  · have e : i = xs.length := by omega
    subst e
    exact .inl ⟨⟨xs, qx, Nat.le_refl _⟩, hd H s hD⟩
def sp_never_met (C : Addr) (K : PySem.W.Frag) : Sp := fun vs H Q _ => ∃ (l : Bk) (P : List (List Nat)) (a : Addr) (Cs : List (Nat × Int)), vs = [.ref l.b, .ref a] ∧ BookAt C H l P ∧ ClsAt H a Cs ∧ Cs.length ≤ 40 ∧ (∀ c ∈ Cs, c.1 < P.length) ∧
  ∀ t H', Same H H' → H' t = some (.tup (natsV (nevB P Cs))) → Q (.ref t) H'
theorem sc_never_met : FnScope ["book", "clauses", "place", "clause"] ["book", "clauses"] (defScope s_never_met) := ⟨rfl, rfl, rfl, by decide +kernel, rfl, by decide +kernel, by decide +kernel⟩
theorem ok_never_met (T : Top K mg) : FnOk P w K mg base CX0 5 T.f_never_met T.fd_never_met ["book", "clauses"] (sp_never_met T.C_Book K) := by
  have G_check_clauses := ok_check_clauses (P := P) (w := w) (base := base) T
  have G_first_place := ok_first_place (P := P) (w := w) (base := base) T
  refine T.F_never_met.ok sc_never_met (fun vs H Q E h => ?_) (fun cdv A outer s H vs Q E hr h => ?_)
  · obtain ⟨l, P, a, Cs, rfl, _⟩ := h
    rfl
  · obtain ⟨l, P, a, Cs, rfl, hl, hC, h40, hk, k⟩ := h
    refine ⟨_, (pss_cons (ps_expr (pe_call G_check_clauses hr (by rfl) T.g_check_clauses T.F_check_clauses.kp T.b_check_clauses .nil pass0 (pa_cons (pv 0) (pa_cons (pv 1) pa_nil))))
      (pss_one (ps_ret (pe_callTy (r := rTupQ K) (T := "tuple") call_tuple_of (by rfl) T.z_tuple (by decide +kernel) (pa_cons (pe_lc (own := [("place", 2), ("clause", 3)]) rfl sc_never_met.nd (pi_enumT (by rfl) T.z_enumerate (pa_cons (pv 1) pa_nil)) (blkOk_by (own := [("place", 2), ("clause", 3)]) (N := ["book", "clauses", "place", "clause"]) (sc := defScope s_never_met) (by decide +kernel)) (fun _ _ _ _ _ => (pg_tupK (K := K) 2 rfl rfl (pgs_cons (pg_name (i := 2) sc_never_met.nd rfl (Or.inl rfl)) (pgs_cons (pg_name (i := 3) sc_never_met.nd rfl (Or.inl rfl)) pgs_nil)))) (fun _ _ _ _ _ => (pts_one (pt_cmpR op_lt (pe_call G_first_place (hr.mono (by decide)) (by rfl) T.g_first_place T.F_first_place.kp T.b_first_place .nil pass0 (pa_cons (pv 0) (pa_cons (pv 1) (pa_cons (pe_ix (r := rIxT K) ix_tup (pv 3) pe_int (fun _ _ => rfl)) pa_nil)))) (pv 2) (nomark _)))) (fun _ _ _ _ _ => (pv 2))) pa_nil))))), ?_⟩
    tm_at "w"
    refine ⟨l, P, a, Cs, rfl, hl, hC, h40, hk, fun H1 s1 => ?_⟩
    have hl1 := hl.same s1
    have hC1 := hC.tk (Same.tk s1)
    obtain ⟨vs, ha, hcl⟩ := id hC1
    have hvl := hcl.1
    tm_at "w"
    refine ⟨_, _, rfl, SqT.of ha, fun D nD => lc_enumTF (fun i => if nevP P Cs i = true then some (V.int (i : Int)) else none) ha nD (by omega) ?_ ?_⟩
    · intro i x Z H2 N M hx s2 hZ kN kM
      obtain ⟨b, c, rfl, hc, hb⟩ := hcl.here hx
      have hb2 := s2 _ _ hb
      tm_at "w"
      refine ⟨l, P, a, Cs, c.1, rfl, hl1.same s2, hC1.tk (Same.tk s2), hk _ (List.mem_of_getElem? hc), fun H3 s3 => ?_⟩
      have e : nevP P Cs i = decide (firstB Cs (isA P c.1) < i) := by
        unfold nevP
        rw [kdB_at hc]
      tm_at "w"
      refine iteD (fun z => ?_) (fun z => ?_)
      · tm_at "w"
        exact kN _ _ (by rw [e, decide_eq_true (by omega)]; rfl) s3
      · exact kM _ (by rw [e, decide_eq_false (by omega)]; rfl) s3
    · intro H2 s2 hD
      rw [hvl, filter_nats] at hD
      tm_at "w"
      intro t nt
      exact k t _ (Same.new (Same.trans s1 s2) nt) upd_same
/-! places_of -/
/-- the first places in two lists of clauses -/
def PlcR (P : List (List Nat)) (C1 C2 : List (Nat × Int)) (j : Nat) (v : V) (H : Hp) : Prop := ∃ t, v = .ref t ∧ H t = some (.tup [.int (firstB C1 (isA P j) : Nat), .int (firstB C2 (isA P j) : Nat)])
theorem PlcR.tk {P : List (List Nat)} {C1 C2 : List (Nat × Int)} {j : Nat} {v : V} {H H' : Hp} (h : PlcR P C1 C2 j v H) (k : TK H H') : PlcR P C1 C2 j v H' := by
  obtain ⟨t, e, h⟩ := h
  exact ⟨t, e, k _ _ h⟩
def sp_places_of (C : Addr) (K : PySem.W.Frag) : Sp := fun vs H Q _ => ∃ (l : Bk) (P : List (List Nat)) (a b : Addr) (C1 C2 : List (Nat × Int)), vs = [.ref l.b, .ref a, .ref b] ∧ BookAt C H l P ∧ ClsAt H a C1 ∧ ClsAt H b C2 ∧ P.length ≤ 1000 ∧
  ∀ D vs H', Same H H' → H' D = some (.lst vs) → vs.length = P.length → (∀ (j : Nat) v, vs[j]? = some v → PlcR P C1 C2 j v H') → Q (.ref D) H'
theorem sc_places_of : FnScope ["book", "one", "other", "x"] ["book", "one", "other"] (defScope s_places_of) := ⟨rfl, rfl, rfl, by decide +kernel, rfl, by decide +kernel, by decide +kernel⟩
theorem ok_places_of (T : Top K mg) : FnOk P w K mg base CX0 3 T.f_places_of T.fd_places_of ["book", "one", "other"] (sp_places_of T.C_Book K) := by
  have G_first_place := ok_first_place (P := P) (w := w) (base := base) T
  have G_many_of := ok_many_of (P := P) (w := w) (base := base) T
  refine T.F_places_of.ok sc_places_of (fun vs H Q E h => ?_) (fun cdv A outer s H vs Q E hr h => ?_)
  · obtain ⟨l, P, a, b, C1, C2, rfl, _⟩ := h
    rfl
  · obtain ⟨l, P, a, b, C1, C2, rfl, hl, h1, h2, hn, k⟩ := h
    refine ⟨_, (pss_one (ps_ret (pe_lc (own := [("x", 3)]) (g := gName 3) (tt := tYes) rfl sc_places_of.nd (pi_range1 rfl T.z_range (pa_cons (pe_call G_many_of (hr.mono (by decide)) (by rfl) T.g_many_of T.F_many_of.kp T.b_many_of .nil pass0 (pa_cons (pv 0) pa_nil)) pa_nil)) (blkOk_by (own := [("x", 3)]) (N := ["book", "one", "other", "x"]) (sc := defScope s_places_of) (by decide +kernel)) (fun _ _ _ _ _ => (pg_name (i := 3) sc_places_of.nd rfl (Or.inl rfl))) (fun _ _ _ _ _ => pts_nil) (fun _ _ _ _ _ => (pe_tup (pa_cons (pe_call G_first_place hr (by rfl) T.g_first_place T.F_first_place.kp T.b_first_place .nil pass0 (pa_cons (pv 0) (pa_cons (pv 1) (pa_cons (pv 3) pa_nil)))) (pa_cons (pe_call G_first_place hr (by rfl) T.g_first_place T.F_first_place.kp T.b_first_place .nil pass0 (pa_cons (pv 0) (pa_cons (pv 2) (pa_cons (pv 3) pa_nil)))) pa_nil))))))), ?_⟩
    tm_at "w"
    refine ⟨l, P, rfl, hl, ?_⟩
    tm_at "w"
    intro D nD
    refine lc_rangeR (PlcR P C1 C2) (fun _ _ _ _ h k => h.tk k) nD (by omega) ?_ ?_
    · intro x H1 N M hx s1 kN
      rw [Int.zero_add]
      tm_at "w"
      refine ⟨l, P, a, C1, x, rfl, hl.same s1, h1.tk (Same.tk s1), by omega, fun H2 s2 => ?_⟩
      have s12 := Same.trans s1 s2
      tm_at "w"
      refine ⟨l, P, b, C2, x, rfl, hl.same s12, h2.tk (Same.tk s12), by omega, fun H3 s3 => ?_⟩
      tm_at "w"
      intro t nt
      exact kN _ _ (Same.new (Same.trans s2 s3) nt) ⟨t, rfl, upd_same⟩
    · intro H1 acc s1 hD hlen hR
      exact k D acc H1 s1 hD (by omega) hR
/-! parting_of -/
theorem for_enumL {K : PySem.W.Frag} {a : Addr} {xs : List V} {g : TG} {tb : TS} {D : Ends} {σ : L2.St} {H : Hp} (Pv : Nat → L2.St → Hp → Prop) (h0 : Pv 0 σ H) (hq : ∀ i σ H, Pv i σ H → SqL K H a xs)
    (hs : ∀ (i : Nat) (x : V) (t : Addr) (σ : L2.St) (H : Hp), xs[i]? = some x → Pv i σ H → H t = none → g (.ref t) σ (upd H t (.tup [.int (i : Nat), x])) fun σ2 H2 => tb { D with nx := Pv (i + 1), ct := Pv (i + 1), bk := D.nx } σ2 H2)
    (hd : ∀ σ H, Pv xs.length σ H → D.nx σ H) : ∃ W : Nat → Nat → L2.St → Hp → Prop, (∃ m, W 0 m σ H) ∧ ∀ i m σ H, W i m σ H →
      ((Ite K a).stop i H ∧ D.nx σ H) ∨ ((Ite K a).go i H ∧ ∃ N : L2.St → Hp → Prop, (∀ σ' H', N σ' H' → ∃ m', m' < m ∧ W (i + 1) m' σ' H') ∧ ∀ v H', (Ite K a).yld i H v H' → g v σ H' fun σ2 H2 => tb { D with nx := N, ct := N, bk := D.nx } σ2 H2) := by
  refine ⟨fun i m σ H => m = xs.length - i ∧ i ≤ xs.length ∧ Pv i σ H, ⟨_, rfl, Nat.zero_le _, h0⟩, ?_⟩
  rintro i m σ H ⟨rfl, hi, p⟩
  have q := hq i σ H p
  by_cases lt : i < xs.length
  · refine .inr ⟨⟨xs, _, q, List.getElem?_eq_getElem lt⟩, Pv (i + 1), fun σ' H' p2 => ⟨_, by omega, rfl, lt, p2⟩, fun v H' y => ?_⟩
    obtain ⟨t, x, rfl, nt, rfl, f⟩ := y
    exact hs i x t σ H (f xs q) p nt
  · have e : i = xs.length := by omega
    subst e
    exact .inl ⟨⟨xs, q, Nat.le_refl _⟩, hd σ H p⟩
theorem lc_enumLF {K : PySem.W.Frag} {a : Addr} {xs : List V} {g : TG} {tt : TT} {te : TE} {vs : List Nat} {σ : St} {H1 : Hp} {D : Addr} {Qd : Hp → Prop} (f : Nat → Option V) (hx : H1 a = some (.lst xs)) (nD : H1 D = none) (hn : xs.length ≤ 100000)
    (hs : ∀ (i : Nat) (x : V) (Z : Addr) (H : Hp) (N : V → Hp → Prop) (M : Hp → Prop), xs[i]? = some x → Same H1 H → H Z = some (.tup [.int (i : Nat), x]) → (∀ v H4, f i = some v → Same H H4 → N v H4) → (∀ H4, f i = none → Same H H4 → M H4) → g (.ref Z) (wipe σ vs) H fun σ2 H2 => wipe σ2 vs = wipe σ vs ∧ tt σ2 H2 fun b H3 => if b = true then te σ2 H3 N else M H3)
    (hd : ∀ H, Same H1 H → H D = some (.lst ((List.range xs.length).filterMap f)) → Qd H) : ∃ W : Nat → Nat → Hp → Prop, (∃ m, W 0 m (upd H1 D (.lst []))) ∧ ∀ i m H, W i m H →
      ((Ite K a).stop i H ∧ Qd H) ∨ ((Ite K a).go i H ∧ ∃ Nx : Hp → Prop, (∀ H', Nx H' → ∃ m', m' < m ∧ W (i + 1) m' H') ∧ ∀ x H', (Ite K a).yld i H x H' → g x (wipe σ vs) H' fun σ2 H2 => wipe σ2 vs = wipe σ vs ∧ tt σ2 H2 fun b H3 =>
        if b = true then te σ2 H3 fun y H4 => ∃ acc, H4 D = some (.lst acc) ∧ acc.length < sizeLine ∧ Nx (upd H4 D (.lst (acc ++ [y]))) else Nx H3) := by
  refine ⟨fun i m H => m = xs.length - i ∧ i ≤ xs.length ∧ Same H1 H ∧ H D = some (.lst ((List.range i).filterMap f)), ⟨xs.length, rfl, Nat.zero_le _, Same.new (Same.refl H1) nD, upd_same⟩, ?_⟩
  rintro i m H ⟨rfl, hi, s, hD⟩
  have qx : SqL K H a xs := SqL.of (s _ _ hx)
  have hz := filterMap_range_len f i
  by_cases hlt : i < xs.length
  · have ex : xs[i]? = some xs[i] := List.getElem?_eq_getElem hlt
    refine .inr ⟨⟨xs, _, qx, ex⟩, fun H => i < xs.length ∧ Same H1 H ∧ H D = some (.lst ((List.range (i + 1)).filterMap f)), fun H' p' => ⟨xs.length - (i + 1), by omega, rfl, hlt, p'.2⟩, fun v H' y => ?_⟩
    obtain ⟨Z, x', rfl, hZ, rfl, f1⟩ := y
    have s1 : Same H (upd H Z (.tup [.int (i : Nat), x'])) := Same.new (Same.refl H) hZ
    refine hs i x' Z _ _ _ (f1 xs qx) (s.trans s1) upd_same (fun v H4 e s4 => ⟨_, s4 _ _ (s1 _ _ hD), lt_line (by omega), hlt, ?_, ?_⟩) (fun H4 e s4 => ⟨hlt, ?_, ?_⟩)
    · exact Same.mut ((s.trans s1).trans s4) nD
    · rw [filterMap_range_succ, e]
      exact upd_same
    · exact (s.trans s1).trans s4
    · rw [filterMap_range_succ, e, s4 _ _ (s1 _ _ hD)]
      simp
  · have e : i = xs.length := by omega
    subst e
    exact .inl ⟨⟨xs, qx, Nat.le_refl _⟩, hd H s hD⟩
theorem new_hide {H X : Hp} {t : Addr} {o : HO} (s : Same H (upd X t o)) : ∃ H9, upd X t o = H9 ∧ Same H H9 ∧ H9 t = some o := ⟨_, rfl, s, upd_same⟩
theorem min_if (a b : Nat) : (if (b : Int) < (a : Int) then (b : Int) else (a : Int)) = ((min a b : Nat) : Int) := by
  split <;> omega
def OptL (H : Hp) (v : V) : Option (List Nat) → Prop
  | none => v = .non
  | some q => ∃ t, v = .ref t ∧ H t = some (.tup (natsV q))
theorem OptL.tk {H H' : Hp} {v : V} {o : Option (List Nat)} (h : OptL H v o) (k : TK H H') : OptL H' v o := by
  cases o with
  | none => exact h
  | some q =>
    obtain ⟨t, e, h⟩ := h
    exact ⟨t, e, k _ _ h⟩
theorem dp_opt {K : PySem.W.Frag} {H : Hp} : ∀ o : Option Int, ∃ d, Dp K H (optV o) d ∧ SeqAt.shaped d = true ∧ d = (match o with | none => .none | some i => .int i)
  | none => ⟨.none, .non, rfl, rfl⟩
  | some i => ⟨.int i, .int i, rfl, rfl⟩
def optD : Option Int → PyData
  | none => .none
  | some i => .int i
theorem dp_optD {K : PySem.W.Frag} {H : Hp} : ∀ o : Option Int, Dp K H (optV o) (optD o)
  | none => .non
  | some i => .int i
theorem shaped_optD : ∀ o : Option Int, SeqAt.shaped (optD o) = true
  | none => by decide
  | some i => by
    show (PyData.canLay0 (.int i) && decide (PyData.depth (.int i) ≤ 64)) = true
    simp only [PyData.depth]
    rfl
theorem eqv_optD : ∀ a b : Option Int, PyData.eqv (optD a) (optD b) = decide (a = b)
  | none, none => rfl
  | none, some _ => rfl
  | some _, none => rfl
  | some x, some y => by
    show (x == y) = _
    rw [Bool.eq_iff_iff, beq_iff_eq, decide_eq_true_eq, Option.some.injEq]
def sp_parting_of (C : Addr) (K : PySem.W.Frag) : Sp := fun vs H Q _ => ∃ (l : Bk) (P : List (List Nat)) (a b : Addr) (C1 C2 : List (Nat × Int)), vs = [.ref l.b, .ref a, .ref b] ∧ BookAt C H l P ∧ ClsAt H a C1 ∧ ClsAt H b C2 ∧ P.length ≤ 1000 ∧
  ∀ v H', Same H H' → OptL H' v (partB P C1 C2) → Q v H'
theorem sc_parting_of : FnScope ["book", "one", "other", "places", "x", "here", "y", "there"] ["book", "one", "other"] (defScope s_parting_of) := ⟨rfl, rfl, rfl, by decide +kernel, rfl, by decide +kernel, by decide +kernel⟩
theorem ok_parting_of (T : Top K mg) : FnOk P w K mg base CX0 4 T.f_parting_of T.fd_parting_of ["book", "one", "other"] (sp_parting_of T.C_Book K) := by
  have G_label_at := ok_label_at (P := P) (w := w) (base := base) T
  have G_places_of := ok_places_of (P := P) (w := w) (base := base) T
  refine T.F_parting_of.ok sc_parting_of (fun vs H Q E h => ?_) (fun cdv A outer s H vs Q E hr h => ?_)
  · obtain ⟨l, P, a, b, C1, C2, rfl, _⟩ := h
    rfl
  · obtain ⟨l, P, a, b, C1, C2, rfl, hl, h1, h2, hn, k⟩ := h
    refine ⟨_, (pss_cons (ps_set (i := 3) sc_parting_of.nd rfl (Or.inl rfl) (pe_call G_places_of hr (by rfl) T.g_places_of T.F_places_of.kp T.b_places_of .nil pass0 (pa_cons (pv 0) (pa_cons (pv 1) (pa_cons (pv 2) pa_nil)))))
      (pss_cons (ps_for PassesOwn.never rfl (pi_enum (by rfl) T.z_enumerate (pa_cons (pv 3) pa_nil)) (pg_tup rfl (pgs_cons (pg_name (i := 4) sc_parting_of.nd rfl (Or.inl rfl)) (pgs_cons (pg_name (i := 5) sc_parting_of.nd rfl (Or.inl rfl)) pgs_nil)))
      (pss_one (ps_if (pt_cmpR (op_neD hr.units) (pe_call G_label_at (hr.mono (by decide)) (by rfl) T.g_label_at T.F_label_at.kp T.b_label_at .nil pass0 (pa_cons (pv 1) (pa_cons (pe_ix (r := rIxT K) ix_tup (pv 5) pe_int (fun _ _ => rfl)) pa_nil))) (pe_call G_label_at (hr.mono (by decide)) (by rfl) T.g_label_at T.F_label_at.kp T.b_label_at .nil pass0 (pa_cons (pv 2) (pa_cons (pe_ix (r := rIxT K) ix_tup (pv 5) pe_int (fun _ _ => rfl)) pa_nil))) (nomark _)) (pss_one (ps_ret (pe_tup (pa_cons (pv 4) pa_nil)))) pss_nil)))
      (pss_cons (ps_for PassesOwn.never rfl (pi_enum (by rfl) T.z_enumerate (pa_cons (pv 3) pa_nil)) (pg_tup rfl (pgs_cons (pg_name (i := 4) sc_parting_of.nd rfl (Or.inl rfl)) (pgs_cons (pg_name (i := 5) sc_parting_of.nd rfl (Or.inl rfl)) pgs_nil)))
      (pss_one (ps_for PassesOwn.never rfl (pi_range2 rfl T.z_range (pa_cons (pe_op op_add (pv 4) pe_int) (pa_cons (pe_callB (r := rLenQ K) (id := "len") call_len_seq (by rfl) T.z_len (by decide +kernel) (pa_cons (pv 3) pa_nil)) pa_nil))) (pg_name (i := 6) sc_parting_of.nd rfl (Or.inl rfl))
      (pss_cons (ps_set (i := 7) sc_parting_of.nd rfl (Or.inl rfl) (pe_ix (r := rIxL K) ix_list (pv 3) (pv 6) (fun _ _ => rfl)))
      (pss_one (ps_if (pt_cmpR (op_neD hr.units) (pe_call G_label_at (hr.mono (by decide)) (by rfl) T.g_label_at T.F_label_at.kp T.b_label_at .nil pass0 (pa_cons (pv 1) (pa_cons (pe_callB (id := "min") (call_min2 rfl) (by rfl) T.z_min (by decide +kernel) (pa_cons (pe_ix (r := rIxT K) ix_tup (pv 5) pe_int (fun _ _ => rfl)) (pa_cons (pe_ix (r := rIxT K) ix_tup (pv 7) pe_int (fun _ _ => rfl)) pa_nil))) pa_nil))) (pe_call G_label_at (hr.mono (by decide)) (by rfl) T.g_label_at T.F_label_at.kp T.b_label_at .nil pass0 (pa_cons (pv 2) (pa_cons (pe_callB (id := "min") (call_min2 rfl) (by rfl) T.z_min (by decide +kernel) (pa_cons (pe_ix (r := rIxT K) ix_tup (pv 5) pe_int (fun _ _ => rfl)) (pa_cons (pe_ix (r := rIxT K) ix_tup (pv 7) pe_int (fun _ _ => rfl)) pa_nil))) pa_nil))) (nomark _)) (pss_one (ps_ret (pe_tup (pa_cons (pv 4) (pa_cons (pv 6) pa_nil))))) pss_nil))))))
      (pss_one (ps_ret pe_non))))), ?_⟩
    tm_at "w"
    refine ⟨l, P, a, b, C1, C2, rfl, hl, h1, h2, hn, fun D vs H1 s1 hD hv hR => ?_⟩
    tm_at "w"
    refine ⟨_, _, rfl, SqL.of hD, for_enumL (K := K) (a := D) (xs := vs) (fun i σ H' => ∃ u4 u5 , σ = [some (.ref l.b), some (.ref a), some (.ref b), some (.ref D), u4, u5, none, none] ∧ Same H1 H' ∧ ∀ z, z < i → prtB C1 C2 (isA P z) = false) ⟨_, _, rfl, Same.refl _, fun z hz => absurd hz (Nat.not_lt_zero _)⟩ ?_ ?_ ?_⟩
    · rintro i σ H' ⟨_, _, rfl, s, _⟩
      exact SqL.of (s _ _ hD)
    · rintro x v t σ H2 hx ⟨u4, u5, rfl, s2, hno⟩ nt
      have xl := (List.getElem?_eq_some_iff.mp hx).1
      have s3 : Same H1 (upd H2 t (.tup [.int (x : Int), v])) := Same.new s2 nt
      obtain ⟨p, rfl, hp⟩ := (hR x v hx).tk (Same.tk s3)
      have s13 := Same.trans s1 s3
      tm_at "w"
      refine ⟨a, C1, _, rfl, h1.tk (Same.tk s13), ?_⟩
      tm_at "w"
      refine ⟨b, C2, _, rfl, h2.tk (Same.tk s13), ?_⟩
      tm_at "w"
      refine ⟨_, _, dp_optD _, dp_optD _, shaped_optD _, shaped_optD _, ?_⟩
      rw [eqv_optD]
      refine ⟨_, rfl, ?_⟩
      refine iteB (b := prtB C1 C2 (isA P x)) (fun e => ?_) (fun e => ?_)
      · tm_at "w"
        intro t2 nt2
        refine k (.ref t2) _ (Same.new s13 nt2) ?_
        rw [part_one (by omega) e hno]
        exact ⟨t2, rfl, upd_same⟩
      · refine ⟨_, _, rfl, s3, fun z hz => ?_⟩
        by_cases g : z = x
        · rw [g]
          exact e
        · exact hno z (by omega)
    · rintro σ H2 ⟨u4, u5, rfl, s2, hno⟩
      rw [hv] at hno
      have hD2 := s2 _ _ hD
      tm_at "w"
      refine ⟨_, _, rfl, SqL.of hD2, for_enumL (K := K) (a := D) (xs := vs) (fun i σ H' => ∃ u4 u5 u6 u7, σ = [some (.ref l.b), some (.ref a), some (.ref b), some (.ref D), u4, u5, u6, u7] ∧ Same H2 H' ∧ ∀ c d, c < d → d < P.length → c < i → prtB C1 C2 (fun k => isA P c k || isA P d k) = false) ⟨_, _, _, _, rfl, Same.refl _, fun c d _ _ h => absurd h (Nat.not_lt_zero _)⟩ ?_ ?_ ?_⟩
      · rintro i σ H' ⟨_, _, _, _, rfl, s, _⟩
        exact SqL.of (s _ _ hD2)
      · rintro x v t σ H3 hx ⟨w4, w5, w6, w7, rfl, s3, hn2⟩ nt
        have xl := (List.getElem?_eq_some_iff.mp hx).1
        obtain ⟨H4, e4, s4, ht⟩ := new_hide (Same.new (o := .tup [.int (x : Int), v]) s3 nt)
        rw [e4]
        have s14 := Same.trans s2 s4
        obtain ⟨p, rfl, hp⟩ := (hR x v hx).tk (Same.tk s14)
        have hD4 := s4 _ _ hD2
        have s04 := Same.trans s1 s14
        tm_at "w"
        refine ⟨_, _, rfl, ⟨by omega, by omega, by omega, by omega⟩, ?_⟩
        refine for_range (lo := (x : Int) + 1) (n := ((vs.length : Int) - ((x : Int) + 1)).toNat) (fun i σ H' => ∃ u6 u7, σ = [some (.ref l.b), some (.ref a), some (.ref b), some (.ref D), some (.int (x : Int)), some (.ref p), u6, u7] ∧ Same H4 H' ∧ ∀ d, x < d → d < P.length → d < x + 1 + i → prtB C1 C2 (fun k => isA P x k || isA P d k) = false) ⟨_, _, rfl, Same.refl _, fun d h1 _ h2 => by omega⟩ ?_ ?_
        · rintro i σ H5 hi ⟨u6, u7, rfl, s5, hn3⟩
          obtain ⟨y, hy⟩ : ∃ y : Nat, (x : Int) + 1 + (i : Int) = (y : Int) := ⟨x + 1 + i, by omega⟩
          rw [hy]
          have yl : y < vs.length := by omega
          have s05 := Same.trans s04 s5
          have hp5 := s5 _ _ hp
          have hD5 := s5 _ _ hD4
          obtain ⟨p2, e2, hp2⟩ := (hR y _ (List.getElem?_eq_getElem yl)).tk (Same.tk (Same.trans s14 s5))
          have ey := List.getElem?_eq_getElem yl
          rw [e2] at ey
          tm_at "w"
          refine ⟨_, _, rfl, ?_⟩
          rw [min_if, ← first_or]
          refine ⟨a, C1, _, rfl, h1.tk (Same.tk s05), ?_⟩
          tm_at "w"
          refine ⟨_, _, rfl, ?_⟩
          rw [min_if, ← first_or]
          refine ⟨b, C2, _, rfl, h2.tk (Same.tk s05), ?_⟩
          tm_at "w"
          refine ⟨_, _, dp_optD _, dp_optD _, shaped_optD _, shaped_optD _, ?_⟩
          rw [eqv_optD]
          refine ⟨_, rfl, ?_⟩
          refine iteB (b := prtB C1 C2 (fun k => isA P x k || isA P y k)) (fun e => ?_) (fun e => ?_)
          · tm_at "w"
            intro t2 nt2
            refine k (.ref t2) _ (Same.new s05 nt2) ?_
            rw [part_two (show x < y by omega) (by omega) hno e fun c d hcd hd h => ?_]
            · exact ⟨t2, rfl, upd_same⟩
            · rcases h with h | ⟨h, h'⟩
              · exact hn2 c d hcd hd h
              · rw [h]
                exact hn3 d (by omega) hd (by omega)
          · refine ⟨_, _, rfl, s5, fun d h1 h2 h3 => ?_⟩
            by_cases g : d = y
            · rw [g]
              exact e
            · exact hn3 d h1 h2 (by omega)
        · rintro σ H5 ⟨u6, u7, rfl, s5, hn3⟩
          refine ⟨_, _, _, _, rfl, Same.trans s4 s5, fun c d hcd hd hc => ?_⟩
          by_cases g : c = x
          · rw [g]
            exact hn3 d (by omega) hd (by omega)
          · exact hn2 c d hcd hd (by omega)
      · rintro σ H3 ⟨w4, w5, w6, w7, rfl, s3, hn2⟩
        tm_at "w"
        refine k .non _ (Same.trans s1 (Same.trans s2 s3)) ?_
        rw [part_none hno fun c d hcd hd => hn2 c d hcd hd (by omega)]
        rfl
/-! parting -/
def sp_parting (C : Addr) (K : PySem.W.Frag) : Sp := fun vs H Q _ => ∃ (l : Bk) (P : List (List Nat)) (a b : Addr) (C1 C2 : List (Nat × Int)), vs = [.ref l.b, .ref a, .ref b] ∧ BookAt C H l P ∧ ClsAt H a C1 ∧ ClsAt H b C2 ∧ P.length ≤ 1000 ∧ C1.length ≤ 40 ∧ C2.length ≤ 40 ∧ (∀ c ∈ C1, c.1 < P.length) ∧ (∀ c ∈ C2, c.1 < P.length) ∧
  ∀ v H', Same H H' → OptL H' v (partB P C1 C2) → Q v H'
theorem sc_parting : FnScope ["book", "one", "other"] ["book", "one", "other"] (defScope s_parting) := ⟨rfl, rfl, rfl, by decide +kernel, rfl, by decide +kernel, by decide +kernel⟩
theorem ok_parting (T : Top K mg) : FnOk P w K mg base CX0 5 T.f_parting T.fd_parting ["book", "one", "other"] (sp_parting T.C_Book K) := by
  have G_check_clauses := ok_check_clauses (P := P) (w := w) (base := base) T
  have G_parting_of := ok_parting_of (P := P) (w := w) (base := base) T
  refine T.F_parting.ok sc_parting (fun vs H Q E h => ?_) (fun cdv A outer s H vs Q E hr h => ?_)
  · obtain ⟨l, P, a, b, C1, C2, rfl, _⟩ := h
    rfl
  · obtain ⟨l, P, a, b, C1, C2, rfl, hl, h1, h2, hn, l1, l2, k1, k2, k⟩ := h
    refine ⟨_, (pss_cons (ps_expr (pe_call G_check_clauses hr (by rfl) T.g_check_clauses T.F_check_clauses.kp T.b_check_clauses .nil pass0 (pa_cons (pv 0) (pa_cons (pv 1) pa_nil))))
      (pss_cons (ps_expr (pe_call G_check_clauses hr (by rfl) T.g_check_clauses T.F_check_clauses.kp T.b_check_clauses .nil pass0 (pa_cons (pv 0) (pa_cons (pv 2) pa_nil))))
      (pss_one (ps_ret (pe_call G_parting_of hr (by rfl) T.g_parting_of T.F_parting_of.kp T.b_parting_of .nil pass0 (pa_cons (pv 0) (pa_cons (pv 1) (pa_cons (pv 2) pa_nil)))))))), ?_⟩
    tm_at "w"
    refine ⟨l, P, a, C1, rfl, hl, h1, l1, k1, fun H1 s1 => ?_⟩
    tm_at "w"
    refine ⟨l, P, b, C2, rfl, hl.same s1, h2.tk (Same.tk s1), l2, k2, fun H2 s2 => ?_⟩
    have s12 := Same.trans s1 s2
    tm_at "w"
    exact ⟨l, P, a, b, C1, C2, rfl, hl.same s12, h1.tk (Same.tk s12), h2.tk (Same.tk s12), hn, fun v H3 s3 hv => k v H3 (Same.trans s12 s3) hv⟩
/-! alike -/
def sp_alike (C : Addr) (K : PySem.W.Frag) : Sp := fun vs H Q _ => ∃ (l : Bk) (P : List (List Nat)) (a b : Addr) (C1 C2 : List (Nat × Int)), vs = [.ref l.b, .ref a, .ref b] ∧ BookAt C H l P ∧ ClsAt H a C1 ∧ ClsAt H b C2 ∧ P.length ≤ 1000 ∧ C1.length ≤ 40 ∧ C2.length ≤ 40 ∧ (∀ c ∈ C1, c.1 < P.length) ∧ (∀ c ∈ C2, c.1 < P.length) ∧
  ∀ H', Same H H' → Q (.bl (partB P C1 C2).isNone) H'
theorem sc_alike : FnScope ["book", "one", "other"] ["book", "one", "other"] (defScope s_alike) := ⟨rfl, rfl, rfl, by decide +kernel, rfl, by decide +kernel, by decide +kernel⟩
theorem ok_alike (T : Top K mg) : FnOk P w K mg base CX0 5 T.f_alike T.fd_alike ["book", "one", "other"] (sp_alike T.C_Book K) := by
  have G_check_clauses := ok_check_clauses (P := P) (w := w) (base := base) T
  have G_parting_of := ok_parting_of (P := P) (w := w) (base := base) T
  refine T.F_alike.ok sc_alike (fun vs H Q E h => ?_) (fun cdv A outer s H vs Q E hr h => ?_)
  · obtain ⟨l, P, a, b, C1, C2, rfl, _⟩ := h
    rfl
  · obtain ⟨l, P, a, b, C1, C2, rfl, hl, h1, h2, hn, l1, l2, k1, k2, k⟩ := h
    refine ⟨_, (pss_cons (ps_expr (pe_call G_check_clauses hr (by rfl) T.g_check_clauses T.F_check_clauses.kp T.b_check_clauses .nil pass0 (pa_cons (pv 0) (pa_cons (pv 1) pa_nil))))
      (pss_cons (ps_expr (pe_call G_check_clauses hr (by rfl) T.g_check_clauses T.F_check_clauses.kp T.b_check_clauses .nil pass0 (pa_cons (pv 0) (pa_cons (pv 2) pa_nil))))
      (pss_one (ps_ret (pe_cmpR op_isN (pe_call G_parting_of hr (by rfl) T.g_parting_of T.F_parting_of.kp T.b_parting_of .nil pass0 (pa_cons (pv 0) (pa_cons (pv 1) (pa_cons (pv 2) pa_nil)))) pe_non (nomark _)))))), ?_⟩
    tm_at "w"
    refine ⟨l, P, a, C1, rfl, hl, h1, l1, k1, fun H1 s1 => ?_⟩
    tm_at "w"
    refine ⟨l, P, b, C2, rfl, hl.same s1, h2.tk (Same.tk s1), l2, k2, fun H2 s2 => ?_⟩
    have s12 := Same.trans s1 s2
    tm_at "w"
    refine ⟨l, P, a, b, C1, C2, rfl, hl.same s12, h1.tk (Same.tk s12), h2.tk (Same.tk s12), hn, fun v H3 s3 hv => ?_⟩
    have k := k H3 (Same.trans s12 s3)
    cases e : partB P C1 C2 with
    | none =>
      rw [e] at hv k
      obtain rfl : v = .non := hv
      tm_at "w"
      exact k
    | some q =>
      rw [e] at hv k
      obtain ⟨t, rfl, ht⟩ := hv
      tm_at "w"
      exact k
/-! _law_hand -/
def sp__law_hand (K : PySem.W.Frag) : Sp := fun vs H Q _ => ∃ (a : Addr) (ns : List Int), vs = [.ref a] ∧ SqL K H a (ns.map V.int) ∧ ns.length ≤ 63 ∧ ∀ (τ : Tp) (H' : Hp), Same H H' → H τ.t = none → Tape τ H' → Q (.ref τ.t) H'
theorem sc__law_hand : FnScope ["_law_script", "_law_cells", "_law_cell"] ["_law_script"] (defScope s__law_hand) := ⟨rfl, rfl, rfl, by decide +kernel, rfl, by decide +kernel, by decide +kernel⟩
theorem ok__law_hand (T : Top K mg) : FnOk P w K mg base CX0 1 T.f__law_hand T.fd__law_hand ["_law_script"] (sp__law_hand K) := by
  refine T.F__law_hand.ok sc__law_hand (fun vs H Q E h => ?_) (fun cdv A outer s H vs Q E hr h => ?_)
  · obtain ⟨a, ns, rfl, _⟩ := h
    rfl
  · obtain ⟨a, ns, rfl, hS, h63, k⟩ := h
    refine ⟨_, (pss_cons (ps_setLc (i := 1) (own := [("_law_cell", 2)]) (g := gName 2) (tt := tYes) rfl sc__law_hand.nd rfl rfl (sw_true rfl rfl rfl (by decide +kernel)) (pi_list (pe_slice sl_list (pv 0) po_none (po_some pe_int))) (blkOk_by (own := [("_law_cell", 2)]) (N := ["_law_script", "_law_cells", "_law_cell"]) (sc := defScope s__law_hand) (by decide +kernel)) (fun _ _ _ _ _ => (pg_name (i := 2) sc__law_hand.nd rfl (Or.inl rfl))) (fun _ _ _ _ _ => pts_nil) (fun _ _ _ _ _ => (pe_callB (id := "abs") call_abs (by rfl) T.z_abs (by decide +kernel) (pa_cons (pe_callTy (T := "int") call_int1 (by rfl) T.z_int (by decide +kernel) (pa_cons (pv 2) pa_nil)) pa_nil))))
      (pss_one (ps_ret (pe_lst (pa_cons (pv 1) (pa_cons pe_int (pa_cons pe_int (pa_cons (pe_op op_add pe_int (pe_callB (r := rLenQ K) (id := "len") call_len_seq (by rfl) T.z_len (by decide +kernel) (pa_cons (pv 1) pa_nil))) (pa_cons pe_int pa_nil))))))))), ?_⟩
    tm_at "w"
    refine ⟨_, _, rfl, hS, fun p np => ?_⟩
    have e63 : cutV (ns.map V.int) none (some 63) = ns.map V.int := by
      unfold cutV
      rw [show HT.sIx (ns.map V.int).length 0 none = 0 from rfl, show (some 63 : Option Int) = some ((63 : Nat) : Int) from rfl, HT.sIx_nat, List.length_map, List.drop_zero]
      exact List.take_of_length_le (by rw [List.length_map]; omega)
    rw [e63]
    refine ⟨p, rfl, ⟨_, SqL.of upd_same⟩, fun D nD => lc_listR (fun _ v _ => IsI v) (fun _ _ _ _ h _ => h) upd_same nD (by rw [List.length_map]; omega) ?_ ?_⟩
    · intro i x H1 N M hx s1 kN
      obtain ⟨z, _, rfl, _⟩ := int_here hx
      tm_at "w"
      exact kN _ _ (Same.refl H1) ⟨_, rfl⟩
    · intro H1 acc s1 hD hlen hI
      obtain ⟨ms, rfl⟩ := ints_at hI
      tm_at "w"
      intro t nt
      have wt : Nw _ t := ⟨nt⟩
      have ntl : D ≠ t := ne_of_none hD nt
      have s2 : Same H (upd H1 t (.lst [.ref D, .int 0, .int 0, .int (1 + ((ms.map V.int).length : Int)), .int 0])) := Same.new (Same.trans (Same.new (Same.refl H) np) s1) nt
      exact k ⟨t, D, ms⟩ _ s2 (Same.free (Same.trans (Same.new (Same.refl H) np) s1) nt) ⟨(upd_ne ntl).trans hD, ntl, 0, 0, _, 0, upd_same, by decide⟩
/-! _law_draw -/
def sp__law_draw (K : PySem.W.Frag) : Sp := fun vs H Q _ => ∃ (τ : Tp) (m : Int), vs = [.ref τ.t, .int m] ∧ Tape τ H ∧ 0 < m ∧ m < 1073741824 ∧ ∀ (r : Int) (H' : Hp), Mv τ H H' → 0 ≤ r → r < m → Q (.int r) H'
theorem sc__law_draw : FnScope ["_law_hand_here", "_law_many", "_law_number", "_law_cell", "_law_digit"] ["_law_hand_here", "_law_many"] (defScope s__law_draw) := ⟨rfl, rfl, rfl, by decide +kernel, rfl, by decide +kernel, by decide +kernel⟩
theorem ok__law_draw (T : Top K mg) : FnOk P w K mg base CX0 1 T.f__law_draw T.fd__law_draw ["_law_hand_here", "_law_many"] (sp__law_draw K) := by
  refine T.F__law_draw.ok sc__law_draw (fun vs H Q E h => ?_) (fun cdv A outer s H vs Q E hr h => ?_)
  · obtain ⟨τ, m, rfl, _⟩ := h
    rfl
  · obtain ⟨τ, m, rfl, m0, hm, hm2, k⟩ := h
    refine ⟨_, (C8.pss_cut (ps_if (PW.pt (pw_and (pt_cmpR op_eq (pe_ix (r := rIxL K) ix_list (pv 0) pe_int (fun _ _ => rfl)) pe_int (nomark _)) (pw_and1 (pt_cmpR op_lt (pe_ix (r := rIxL K) ix_list (pv 0) pe_int (fun _ _ => rfl)) (pe_callB (r := rLenQ K) (id := "len") call_len_seq (by rfl) T.z_len (by decide +kernel) (pa_cons (pe_ix (r := rIxL K) ix_list (pv 0) pe_int (fun _ _ => rfl)) pa_nil)) (nomark _))))) (pss_cons (ps_set (i := 3) sc__law_draw.nd rfl (Or.inl rfl) (pe_ix (r := rIxL K) ix_list (pe_ix (r := rIxL K) ix_list (pv 0) pe_int (fun _ _ => rfl)) (pe_ix (r := rIxL K) ix_list (pv 0) pe_int (fun _ _ => rfl)) (fun _ _ => rfl)))
      (pss_cons (ps_asg (pe_op op_add (pe_ix (r := rIxL K) ix_list (pv 0) pe_int (fun _ _ => rfl)) pe_int) (pg_sub (pv 0) pe_int set_list))
      (pss_cons (ps_asg (pe_op op_modN (pe_callTy (T := "int") call_int1 (by rfl) T.z_int (by decide +kernel) (pa_cons (pe_op op_add (pe_op op_add (pe_op op_mul (pe_ix (r := rIxL K) ix_list (pv 0) pe_int (fun _ _ => rfl)) pe_int) (pv 3)) pe_int) pa_nil)) pe_int) (pg_sub (pv 0) pe_int set_list))
      (pss_one (ps_if (pt_cmpR op_ge (pv 3) (pe_op op_pow pe_int pe_int) (nomark _)) (pss_one (ps_asg (pv 3) (pg_sub (pv 0) pe_int set_list))) pss_nil))))) pss_nil)
      (pss_cons (ps_if (pt_cmpR op_gt (pe_ix (r := rIxL K) ix_list (pv 0) pe_int (fun _ _ => rfl)) pe_int (nomark _)) (pss_cons (ps_set (i := 4) sc__law_draw.nd rfl (Or.inl rfl) (pe_op op_modN (pe_callTy (T := "int") call_int1 (by rfl) T.z_int (by decide +kernel) (pa_cons (pe_ix (r := rIxL K) ix_list (pv 0) pe_int (fun _ _ => rfl)) pa_nil)) (pv 1)))
      (pss_cons (ps_asg (pe_op op_fdivN (pe_ix (r := rIxL K) ix_list (pv 0) pe_int (fun _ _ => rfl)) (pv 1)) (pg_sub (pv 0) pe_int set_list))
      (pss_one (ps_ret (pv 4))))) pss_nil)
      (pss_cons (ps_asg (pe_op op_add (pe_ix (r := rIxL K) ix_list (pv 0) pe_int (fun _ _ => rfl)) pe_int) (pg_sub (pv 0) pe_int set_list))
      (pss_cons (ps_set (i := 2) sc__law_draw.nd rfl (Or.inl rfl) (pe_op op_modN (pe_callTy (T := "int") call_int1 (by rfl) T.z_int (by decide +kernel) (pa_cons (pe_op op_mul (pe_callTy (T := "int") call_int1 (by rfl) T.z_int (by decide +kernel) (pa_cons (pe_op op_add (pe_ix (r := rIxL K) ix_list (pv 0) pe_int (fun _ _ => rfl)) (pe_op op_mul pe_int (pe_ix (r := rIxL K) ix_list (pv 0) pe_int (fun _ _ => rfl)))) pa_nil)) pe_int) pa_nil)) pe_int))
      (pss_cons (ps_set (i := 2) sc__law_draw.nd rfl (Or.inl rfl) (pe_op op_modN (pe_callTy (T := "int") call_int1 (by rfl) T.z_int (by decide +kernel) (pa_cons (pe_op op_mul (pv 2) (pe_op op_add (pe_op op_fdivN (pv 2) pe_int) pe_int)) pa_nil)) pe_int))
      (pss_cons (ps_set (i := 2) sc__law_draw.nd rfl (Or.inl rfl) (pe_op op_modN (pe_callTy (T := "int") call_int1 (by rfl) T.z_int (by decide +kernel) (pa_cons (pe_op op_mul (pv 2) (pe_op op_add (pe_op op_fdivN (pv 2) pe_int) pe_int)) pa_nil)) pe_int))
      (pss_one (ps_ret (pe_op op_modN (pe_callTy (T := "int") call_int1 (by rfl) T.z_int (by decide +kernel) (pa_cons (pe_op op_fdivN (pv 2) pe_int) pa_nil)) (pv 1)))))))))), ?_⟩
    obtain ⟨hl, nlt, i, c, s, n, ht, hi⟩ := id m0
    tm_at "w"
    refine ⟨fun σ H' => ∃ (x : Option V), σ = [some (.ref τ.t), some (.int m), none, x, none] ∧ Mv τ H H', ?_, ?_⟩
    · tm_at "w"
      refine iteI (fun hc => ?_) (fun hc => ?_)
      · tm_at "w"
        refine iteD (fun hc => ?_) (fun hc => ?_)
        · tm_at "w"
          obtain ⟨v, hv⟩ := at_ints hi hc
          refine ⟨_, _, _, _, rfl, rfl, by tm_at "sq", hv, ?_⟩
          tm_at "w"
          refine iteD (fun hd => ?_) (fun hd => ?_)
          · tm_at "w"
            exact ((m0.mv.put rfl (by omega)).put rfl (by omega)).put rfl (by omega)
          · exact ⟨_, rfl, (m0.mv.put rfl (by omega)).put rfl (by omega)⟩
        · exact ⟨none, rfl, m0.mv⟩
      · exact ⟨none, rfl, m0.mv⟩
    · rintro σ H' ⟨x, rfl, m1⟩
      obtain ⟨hl, nlt, i, c, s, n, ht, hi⟩ := m1.now
      tm_at "w"
      refine iteD (fun hc => ?_) (fun hc => ?_)
      · tm_at "w"
        exact k _ _ (m1.put rfl hi) (fmod_in hm).1 (fmod_in hm).2
      · tm_at "w"
        exact k _ _ (m1.put rfl hi) (fmod_in hm).1 (fmod_in hm).2
/-! _law_is -/
/-- two things that are alike through and through, at most so deep -/
inductive Alk (H : Hp) : Nat → V → V → Prop
  | int (n : Nat) (i : Int) : Alk H n (.int i) (.int i)
  | bl (n : Nat) (b : Bool) : Alk H n (.bl b) (.bl b)
  | non (n : Nat) : Alk H n .non .non
  | tup (n : Nat) (a b : Addr) (xs ys : List V) : H a = some (.tup xs) → H b = some (.tup ys) → xs.length = ys.length → xs.length ≤ 100000 → (∀ (i : Nat) x y, xs[i]? = some x → ys[i]? = some y → Alk H n x y) → Alk H (n + 1) (.ref a) (.ref b)
  | lst (n : Nat) (a b : Addr) (xs ys : List V) : H a = some (.lst xs) → H b = some (.lst ys) → xs.length = ys.length → xs.length ≤ 100000 → (∀ (i : Nat) x y, xs[i]? = some x → ys[i]? = some y → Alk H n x y) → Alk H (n + 1) (.ref a) (.ref b)
theorem Alk.same {H H' : Hp} {n : Nat} {x y : V} (h : Alk H n x y) (s : Same H H') : Alk H' n x y := by
  induction h with
  | int n i => exact .int n i
  | bl n b => exact .bl n b
  | non n => exact .non n
  | tup n a b xs ys ha hb hl hz _ ih => exact .tup n a b xs ys (s _ _ ha) (s _ _ hb) hl hz ih
  | lst n a b xs ys ha hb hl hz _ ih => exact .lst n a b xs ys (s _ _ ha) (s _ _ hb) hl hz ih
theorem Alk.up {H : Hp} {n : Nat} {x y : V} (h : Alk H n x y) : Alk H (n + 1) x y := by
  induction h with
  | int n i => exact .int _ i
  | bl n b => exact .bl _ b
  | non n => exact .non _
  | tup n a b xs ys ha hb hl hz _ ih => exact .tup _ a b xs ys ha hb hl hz ih
  | lst n a b xs ys ha hb hl hz _ ih => exact .lst _ a b xs ys ha hb hl hz ih
theorem Alk.nats {H : Hp} {a b : Addr} {q : List Nat} (ha : H a = some (.tup (natsV q))) (hb : H b = some (.tup (natsV q))) (hn : q.length ≤ 100000) : Alk H 1 (.ref a) (.ref b) :=
  .tup 0 a b _ _ ha hb rfl (by rw [natsV_len]; exact hn) fun i x y ex ey => by
    rw [ex] at ey
    rw [← Option.some.inj ey]
    obtain ⟨n, _, rfl, _⟩ := natsV_here ex
    exact .int 0 _
theorem Alk.rows {H : Hp} {a b : Addr} {P : List (List Nat)} (ha : ParAt H a P) (hb : ParAt H b P) (hn : P.length ≤ 1000) (hm : ∀ q ∈ P, q.length ≤ 1000) : Alk H 2 (.ref a) (.ref b) := by
  obtain ⟨xs, ha, la⟩ := ha
  obtain ⟨ys, hb, lb⟩ := hb
  refine .tup 1 a b _ _ ha hb (la.1.trans lb.1.symm) (by rw [la.1]; omega) fun i x y ex ey => ?_
  obtain ⟨u, p, rfl, e1, e2⟩ := la.here ex
  obtain ⟨v, q, rfl, e3, e4⟩ := lb.here ey
  rw [e1] at e3
  rw [← Option.some.inj e3] at e4
  have := hm p (List.mem_of_getElem? e1)
  exact Alk.nats e2 e4 (by omega)
theorem kit2 {K : PySem.W.Frag} {t : Value} {a b : Bool} (h1 : PySem.W.kitOne K t (.type "tuple") = some a) (h2 : PySem.W.kitOne K t (.type "list") = some b) : PySem.W.kitAny K t [.type "tuple", .type "list"] = some (a || b) := by
  refine kitAny_cons h1 (fun e => ?_) (fun e => by rw [e]; rfl)
  rw [e, Bool.false_or]
  refine kitAny_cons h2 (fun e2 => by rw [e2]; rfl) (fun e2 => e2)
theorem int_lst {K : PySem.W.Frag} : PySem.W.kitOne K (.type "int") (.type "list") = some false := kit_ty (by decide +kernel)
theorem bool_lst {K : PySem.W.Frag} : PySem.W.kitOne K (.type "bool") (.type "list") = some false := kit_ty (by decide +kernel)
theorem bool_tup {K : PySem.W.Frag} : PySem.W.kitOne K (.type "bool") (.type "tuple") = some false := kit_ty (by decide +kernel)
theorem tup_lst {K : PySem.W.Frag} : PySem.W.kitOne K (.type "tuple") (.type "list") = some false := kit_ty (by decide +kernel)
theorem lst_lst {K : PySem.W.Frag} : PySem.W.kitOne K (.type "list") (.type "list") = some true := kit_ty (by decide +kernel)
theorem lst_tup {K : PySem.W.Frag} : PySem.W.kitOne K (.type "list") (.type "tuple") = some false := kit_ty (by decide +kernel)
theorem none_tup {K : PySem.W.Frag} : PySem.W.kitOne K (.type "NoneType") (.type "tuple") = some false := kit_ty (by decide +kernel)
theorem none_lst {K : PySem.W.Frag} : PySem.W.kitOne K (.type "NoneType") (.type "list") = some false := kit_ty (by decide +kernel)
theorem none_bool {K : PySem.W.Frag} : PySem.W.kitOne K (.type "NoneType") (.type "bool") = some false := kit_ty (by decide +kernel)
theorem ty_non {K : PySem.W.Frag} {H : Hp} : TyX K H .non (.type "NoneType") := .base .non
theorem ty_lst {K : PySem.W.Frag} {H : Hp} {a : Addr} {xs : List V} (h : H a = some (.lst xs)) : TyX K H (.ref a) (.type "list") := .base (.lst h)
def spI (K : PySem.W.Frag) : Nat → Sp
  | 0 => fun _ _ _ _ => False
  | n + 1 => fun vs H Q _ => ∃ (x y : V), vs = [x, y] ∧ Alk H n x y ∧ ∀ H', Same H H' → Q (.bl true) H'
theorem sc__law_is : FnScope ["_law_told", "_law_due", "_law_one", "_law_two"] ["_law_told", "_law_due"] (defScope s__law_is) := ⟨rfl, rfl, rfl, by decide +kernel, rfl, by decide +kernel, by decide +kernel⟩
theorem okI0 (T : Top K mg) : FnOk P w K mg base CX0 1 T.f__law_is T.fd__law_is ["_law_told", "_law_due"] (spI K 0) := by
  refine T.F__law_is.ok sc__law_is (fun vs H Q E h => h.elim) (fun cdv A outer s H vs Q E hr h => h.elim)
theorem okI (T : Top K mg) {lv n : Nat} (G__law_is : FnOk P w K mg base CX0 lv T.f__law_is T.fd__law_is ["_law_told", "_law_due"] (spI K n)) : FnOk P w K mg base CX0 (lv + 1) T.f__law_is T.fd__law_is ["_law_told", "_law_due"] (spI K (n + 1)) := by
  refine T.F__law_is.ok sc__law_is (fun vs H Q E h => ?_) (fun cdv A outer s H vs Q E hr h => ?_)
  · obtain ⟨x, y, rfl, _⟩ := h
    rfl
  · obtain ⟨x, y, rfl, hA, k⟩ := h
    refine ⟨_, (pss_cons (ps_if (pt_val (pe_callB (id := "isinstance") call_isiT (by rfl) T.z_isinstance (by decide +kernel) (pa_cons (pv 1) (pa_cons (pe_tup (pa_cons (pe_bltn (v := .ty "tuple") (u := .type "tuple") (by rfl) T.z_tuple (by decide +kernel) rfl) (pa_cons (pe_bltn (v := .ty "list") (u := .type "list") (by rfl) T.z_list (by decide +kernel) rfl) pa_nil))) pa_nil)))) (pss_cons (ps_if (PW.pt (pw_or (pt_cmpR op_ne (pe_callB (r := rIsi K) (id := "isinstance") call_isi (by rfl) T.z_isinstance (by decide +kernel) (pa_cons (pv 0) (pa_cons (pe_bltn (v := .ty "tuple") (u := .type "tuple") (by rfl) T.z_tuple (by decide +kernel) rfl) pa_nil))) (pe_callB (r := rIsi K) (id := "isinstance") call_isi (by rfl) T.z_isinstance (by decide +kernel) (pa_cons (pv 1) (pa_cons (pe_bltn (v := .ty "tuple") (u := .type "tuple") (by rfl) T.z_tuple (by decide +kernel) rfl) pa_nil))) (nomark _)) (pw_or1 (pt_not (pt_val (pe_callB (id := "isinstance") call_isiT (by rfl) T.z_isinstance (by decide +kernel) (pa_cons (pv 0) (pa_cons (pe_tup (pa_cons (pe_bltn (v := .ty "tuple") (u := .type "tuple") (by rfl) T.z_tuple (by decide +kernel) rfl) (pa_cons (pe_bltn (v := .ty "list") (u := .type "list") (by rfl) T.z_list (by decide +kernel) rfl) pa_nil))) pa_nil)))))))) (pss_one (ps_ret pe_bl)) pss_nil)
      (pss_one (ps_ret (pe_and (pe_cmpR op_eq (pe_callB (r := rLenQ K) (id := "len") call_len_seq (by rfl) T.z_len (by decide +kernel) (pa_cons (pv 0) pa_nil)) (pe_callB (r := rLenQ K) (id := "len") call_len_seq (by rfl) T.z_len (by decide +kernel) (pa_cons (pv 1) pa_nil)) (nomark _)) (pe_one (pe_callB (r := rAll K) (id := "all") (cr_all rfl) (by rfl) T.z_all (by decide +kernel) (pa_cons (pe_lc (own := [("_law_one", 2), ("_law_two", 3)]) (tt := tYes) rfl sc__law_is.nd (RZ.pi_zipA (by rfl) T.z_zip (pa_cons (pv 0) (pa_cons (pv 1) pa_nil))) (blkOk_by (own := [("_law_one", 2), ("_law_two", 3)]) (N := ["_law_told", "_law_due", "_law_one", "_law_two"]) (sc := defScope s__law_is) (by decide +kernel)) (fun _ _ _ _ _ => (pg_tupK (K := K) 2 rfl rfl (pgs_cons (pg_name (i := 2) sc__law_is.nd rfl (Or.inl rfl)) (pgs_cons (pg_name (i := 3) sc__law_is.nd rfl (Or.inl rfl)) pgs_nil)))) (fun _ _ _ _ _ => pts_nil) (fun _ _ _ _ _ => (pe_call G__law_is hr (by rfl) T.g__law_is T.F__law_is.kp T.b__law_is .nil pass0 (pa_cons (pv 2) (pa_cons (pv 3) pa_nil))))) pa_nil))))))) pss_nil)
      (pss_one (ps_ret (pe_and (pe_cmpR op_eq (pe_callB (r := rIsi K) (id := "isinstance") call_isi (by rfl) T.z_isinstance (by decide +kernel) (pa_cons (pv 0) (pa_cons (pe_bltn (v := .ty "bool") (u := .type "bool") (by rfl) T.z_bool (by decide +kernel) rfl) pa_nil))) (pe_callB (r := rIsi K) (id := "isinstance") call_isi (by rfl) T.z_isinstance (by decide +kernel) (pa_cons (pv 1) (pa_cons (pe_bltn (v := .ty "bool") (u := .type "bool") (by rfl) T.z_bool (by decide +kernel) rfl) pa_nil))) (nomark _)) (pe_one (pe_cmpR op_eq (pv 0) (pv 1) (nomark _))))))), ?_⟩
    cases hA with
    | int n i =>
      tm_at "w"
      intro p np
      refine ⟨_, _, _, _, _, _, rfl, upd_same, .cons (.ty _) (.cons (.ty _) .nil), ty_int i, kit2 int_tup int_lst, ?_⟩
      tm_at "w"
      refine ⟨_, _, _, _, _, rfl, ClsV.ty _, ty_int i, int_bool, ?_⟩
      tm_at "w"
      refine ⟨_, _, _, _, _, rfl, ClsV.ty _, ty_int i, int_bool, ?_⟩
      tm_at "w"
      rw [show decide (V.int i = V.int i) = true from decide_eq_true rfl]
      exact k _ (Same.new (Same.refl H) np)
    | bl n b =>
      tm_at "w"
      intro p np
      refine ⟨_, _, _, _, _, _, rfl, upd_same, .cons (.ty _) (.cons (.ty _) .nil), ty_bl b, kit2 bool_tup bool_lst, ?_⟩
      tm_at "w"
      refine ⟨_, _, _, _, _, rfl, ClsV.ty _, ty_bl b, bool_bool, ?_⟩
      tm_at "w"
      refine ⟨_, _, _, _, _, rfl, ClsV.ty _, ty_bl b, bool_bool, ?_⟩
      tm_at "w"
      rw [show decide (V.bl b = V.bl b) = true from decide_eq_true rfl]
      exact k _ (Same.new (Same.refl H) np)
    | non n =>
      tm_at "w"
      intro p np
      refine ⟨_, _, _, _, _, _, rfl, upd_same, .cons (.ty _) (.cons (.ty _) .nil), ty_non, kit2 none_tup none_lst, ?_⟩
      tm_at "w"
      refine ⟨_, _, _, _, _, rfl, ClsV.ty _, ty_non, none_bool, ?_⟩
      tm_at "w"
      refine ⟨_, _, _, _, _, rfl, ClsV.ty _, ty_non, none_bool, ?_⟩
      tm_at "w"
      rw [show decide (V.non = V.non) = true from decide_eq_true rfl]
      exact k _ (Same.new (Same.refl H) np)
    | tup n a b xs ys ha hb hl hz hi =>
      tm_at "w"
      intro p np
      have s1 : Same H (upd H p (.tup [.ty "tuple", .ty "list"])) := Same.new (Same.refl H) np
      refine ⟨_, _, _, _, _, _, rfl, upd_same, .cons (.ty _) (.cons (.ty _) .nil), ty_tup (s1 _ _ hb), kit2 tup_tup tup_lst, ?_⟩
      tm_at "w"
      refine ⟨_, _, _, _, _, rfl, ClsV.ty _, ty_tup (s1 _ _ ha), tup_tup, ?_⟩
      tm_at "w"
      refine ⟨_, _, _, _, _, rfl, ClsV.ty _, ty_tup (s1 _ _ hb), tup_tup, ?_⟩
      tm_at "w"
      intro p2 np2
      have s2 : Same H (upd (upd H p (.tup [.ty "tuple", .ty "list"])) p2 (.tup [.ty "tuple", .ty "list"])) := Same.new s1 np2
      have ha2 := s2 _ _ ha
      have hb2 := s2 _ _ hb
      refine ⟨_, _, _, _, _, _, rfl, upd_same, .cons (.ty _) (.cons (.ty _) .nil), ty_tup ha2, kit2 tup_tup tup_lst, ?_⟩
      tm_at "w"
      refine iteET (decide_eq_true (by rw [hl])) ?_
      tm_at "w"
      refine ⟨_, _, _, _, rfl, .inr ⟨SqT.of ha2, SqT.of hb2, fun D nD => lc_zipTF (fun _ => some (.bl true)) ha2 hb2 hl nD hz ?_ ?_⟩⟩
      · intro i x y Z H3 N M hx hy s3 hZ kN kM
        tm_at "w"
        exact ⟨x, y, rfl, (hi i x y hx hy).same (Same.trans s2 s3), fun H4 s4 => kN _ _ rfl s4⟩
      · intro H3 s3 hD
        rw [all_true] at hD
        tm_at "w"
        refine ⟨_, _, rfl, SqL.of hD, ?_⟩
        rw [all_id]
        exact k _ (Same.trans s2 s3)
    | lst n a b xs ys ha hb hl hz hi =>
      tm_at "w"
      intro p np
      have s1 : Same H (upd H p (.tup [.ty "tuple", .ty "list"])) := Same.new (Same.refl H) np
      refine ⟨_, _, _, _, _, _, rfl, upd_same, .cons (.ty _) (.cons (.ty _) .nil), ty_lst (s1 _ _ hb), kit2 lst_tup lst_lst, ?_⟩
      tm_at "w"
      refine ⟨_, _, _, _, _, rfl, ClsV.ty _, ty_lst (s1 _ _ ha), lst_tup, ?_⟩
      tm_at "w"
      refine ⟨_, _, _, _, _, rfl, ClsV.ty _, ty_lst (s1 _ _ hb), lst_tup, ?_⟩
      tm_at "w"
      intro p2 np2
      have s2 : Same H (upd (upd H p (.tup [.ty "tuple", .ty "list"])) p2 (.tup [.ty "tuple", .ty "list"])) := Same.new s1 np2
      have ha2 := s2 _ _ ha
      have hb2 := s2 _ _ hb
      refine ⟨_, _, _, _, _, _, rfl, upd_same, .cons (.ty _) (.cons (.ty _) .nil), ty_lst ha2, kit2 lst_tup lst_lst, ?_⟩
      tm_at "w"
      refine iteET (decide_eq_true (by rw [hl])) ?_
      tm_at "w"
      refine ⟨_, _, _, _, rfl, .inl ⟨SqL.of ha2, SqL.of hb2, fun D nD => lc_zipLF (fun _ => some (.bl true)) ha2 hb2 hl nD hz ?_ ?_⟩⟩
      · intro i x y Z H3 N M hx hy s3 hZ kN kM
        tm_at "w"
        exact ⟨x, y, rfl, (hi i x y hx hy).same (Same.trans s2 s3), fun H4 s4 => kN _ _ rfl s4⟩
      · intro H3 s3 hD
        rw [all_true] at hD
        tm_at "w"
        refine ⟨_, _, rfl, SqL.of hD, ?_⟩
        rw [all_id]
        exact k _ (Same.trans s2 s3)
def sp__law_is (K : PySem.W.Frag) : Sp := spI K 3
theorem ok__law_is (T : Top K mg) : FnOk P w K mg base CX0 4 T.f__law_is T.fd__law_is ["_law_told", "_law_due"] (sp__law_is K) := okI T (okI T (okI T (okI0 T)))
/-! _law_flag -/
def sp__law_flag (K : PySem.W.Frag) : Sp := fun vs H Q _ => ∃ (b : Bool), vs = [.bl b, .bl b] ∧ Q (.bl true) H
theorem sc__law_flag : FnScope ["_law_told", "_law_due"] ["_law_told", "_law_due"] (defScope s__law_flag) := ⟨rfl, rfl, rfl, by decide +kernel, rfl, by decide +kernel, by decide +kernel⟩
theorem ok__law_flag (T : Top K mg) : FnOk P w K mg base CX0 1 T.f__law_flag T.fd__law_flag ["_law_told", "_law_due"] (sp__law_flag K) := by
  refine T.F__law_flag.ok sc__law_flag (fun vs H Q E h => ?_) (fun cdv A outer s H vs Q E hr h => ?_)
  · obtain ⟨b, rfl, _⟩ := h
    rfl
  · obtain ⟨b, rfl, k⟩ := h
    refine ⟨_, (pss_one (ps_ret (pe_and (pe_callB (r := rIsi K) (id := "isinstance") call_isi (by rfl) T.z_isinstance (by decide +kernel) (pa_cons (pv 0) (pa_cons (pe_bltn (v := .ty "bool") (u := .type "bool") (by rfl) T.z_bool (by decide +kernel) rfl) pa_nil))) (pe_one (pe_cmpR (op_eqD hr.units) (pv 0) (pv 1) (nomark _)))))), ?_⟩
    have ty := ty_bl (K := K) (H := H) b
    have bb := bool_bool (K := K)
    tm_at "w"
    refine ⟨.bool b, .bool b, .bl b, .bl b, by cases b <;> decide, by cases b <;> decide, ?_⟩
    have e : PyData.eqv (.bool b) (.bool b) = true := by cases b <;> rfl
    rw [e]
    exact k
/-! _law_parents -/
theorem snoc_at {R : Nat → V → Prop} {acc : List V} {x : V} {i : Nat} (hl : acc.length = i) (h : ∀ (j : Nat) v, acc[j]? = some v → R j v) (hx : R i x) : ∀ (j : Nat) v, (acc ++ [x])[j]? = some v → R j v := fun j v e => by
  by_cases hj : j < acc.length
  · rw [List.getElem?_append_left hj] at e
    exact h j v e
  · rw [List.getElem?_append_right (by omega)] at e
    have q := (List.getElem?_eq_some_iff.mp e).1
    rw [List.length_singleton] at q
    have ej : j = i := by omega
    rw [ej, hl, Nat.sub_self] at e
    rw [ej, ← Option.some.inj e]
    exact hx
theorem nats_all {i : Nat} : ∀ {acc : List V}, (∀ v ∈ acc, ∃ z : Int, v = .int z ∧ 0 ≤ z ∧ z < i) → ∃ q : List Nat, q.length = acc.length ∧ (∀ x ∈ q, x < i) ∧ acc = natsV q
  | [], _ => ⟨[], rfl, (fun x hx => by cases hx), rfl⟩
  | v :: r, h => by
    obtain ⟨q, h1, h2, h3⟩ := nats_all fun u hu => h u (List.mem_cons_of_mem _ hu)
    obtain ⟨z, e, z0, z1⟩ := h v List.mem_cons_self
    refine ⟨z.toNat :: q, by rw [List.length_cons, List.length_cons, h1], fun x hx => ?_, ?_⟩
    · rcases List.mem_cons.mp hx with e | e
      · omega
      · exact h2 x e
    · rw [e, h3]
      show V.int z :: natsV q = V.int (z.toNat : Int) :: natsV q
      rw [show (z.toNat : Int) = z by omega]
def sp__law_parents (K : PySem.W.Frag) : Sp := fun vs H Q _ => ∃ (τ : Tp) (n m : Nat), vs = [.ref τ.t, .int n, .int m] ∧ Tape τ H ∧ n ≤ 400 ∧ m ≤ 6 ∧
  ∀ a P H', Mv τ H H' → ParAt H' a P → OkP P → P.length = n → Q (.ref a) H'
theorem sc__law_parents : FnScope ["_law_hand_here", "_law_many", "_law_most", "_law_found", "_law_kind", "_law_some", "_law_turn"] ["_law_hand_here", "_law_many", "_law_most"] (defScope s__law_parents) := ⟨rfl, rfl, rfl, by decide +kernel, rfl, by decide +kernel, by decide +kernel⟩
theorem ok__law_parents (T : Top K mg) : FnOk P w K mg base CX0 2 T.f__law_parents T.fd__law_parents ["_law_hand_here", "_law_many", "_law_most"] (sp__law_parents K) := by
  have G__law_draw := ok__law_draw (P := P) (w := w) (base := base) T
  refine T.F__law_parents.ok sc__law_parents (fun vs H Q E h => ?_) (fun cdv A outer s H vs Q E hr h => ?_)
  · obtain ⟨τ, n, m, rfl, _⟩ := h
    rfl
  · obtain ⟨τ, n, m, rfl, m0, hn, hm, kk⟩ := h
    refine ⟨_, (pss_cons (ps_set (i := 3) sc__law_parents.nd rfl (Or.inl rfl) (pe_lst pa_nil))
      (pss_cons (ps_for PassesOwn.never rfl (pi_range1 rfl T.z_range (pa_cons (pv 1) pa_nil)) (pg_name (i := 4) sc__law_parents.nd rfl (Or.inr rfl))
      (pss_cons (ps_set (i := 5) sc__law_parents.nd rfl (Or.inl rfl) (pe_ifExp (pt_cmpR op_gt (pv 4) pe_int (nomark _)) (pe_lc (own := [("_law_turn", 6)]) (g := gName 6) (tt := tYes) rfl sc__law_parents.nd (pi_range1 rfl T.z_range (pa_cons (pe_call G__law_draw hr (by rfl) T.g__law_draw T.F__law_draw.kp T.b__law_draw .nil pass0 (pa_cons (pv 0) (pa_cons (pe_op op_add (pv 2) pe_int) pa_nil))) pa_nil)) (blkOk_by (own := [("_law_turn", 6)]) (N := ["_law_hand_here", "_law_many", "_law_most", "_law_found", "_law_kind", "_law_some", "_law_turn"]) (sc := defScope s__law_parents) (by decide +kernel)) (fun _ _ _ _ _ => (pg_name (i := 6) sc__law_parents.nd rfl (Or.inl rfl))) (fun _ _ _ _ _ => pts_nil) (fun _ _ _ _ _ => (pe_call G__law_draw hr (by rfl) T.g__law_draw T.F__law_draw.kp T.b__law_draw .nil pass0 (pa_cons (pv 0) (pa_cons (pv 4) pa_nil))))) (pe_lst pa_nil)))
      (pss_one (ps_expr (pe_bm PySem.F.plainAttrs_list PySem.F.slot_list_append PySem.F.type_list_append mt_append (pv 3) (pa_cons (pe_callTy (r := rTupQ K) (T := "tuple") call_tuple_of (by rfl) T.z_tuple (by decide +kernel) (pa_cons (pe_callB (id := "sorted") (cr_sortedSet rfl) (by rfl) T.z_sorted (by decide +kernel) (pa_cons (pe_callTy (T := "set") (cr_setL rfl) (by rfl) T.z_set (by decide +kernel) (pa_cons (pv 5) pa_nil)) pa_nil)) pa_nil)) pa_nil))))))
      (pss_one (ps_ret (pe_callTy (r := rTupQ K) (T := "tuple") call_tuple_of (by rfl) T.z_tuple (by decide +kernel) (pa_cons (pv 3) pa_nil)))))), ?_⟩
    tm_at "w"
    intro F nF
    have nFt := m0.mv.neN nF
    tm_at "w"
    refine for_range (lo := 0) (n := (n : Int).toNat) (fun i σ H' => ∃ x y z, σ = [some (.ref τ.t), some (.int (n : Int)), some (.int (m : Int)), some (.ref F), x, y, z] ∧ Mv τ H H' ∧ ∃ acc, H' F = some (.lst acc) ∧ acc.length = i ∧ ∀ (j : Nat) v, acc[j]? = some v → RowR j v H') ?_ ?_ ?_
    · exact ⟨none, none, none, rfl, m0.mv.new nF, [], upd_same, rfl, fun j v e => by simp at e⟩
    · rintro i σ H1 hi ⟨x0, y0, z0, rfl, m1, acc, hF1, hacc, hR1⟩
      rw [Int.zero_add]
      tm_at "w"
      refine iteD (fun z => ?_) (fun z => ?_)
      tm_at "w"
      refine ⟨τ, _, rfl, m1.now, by omega, by omega, fun r H2 m2 h0 h1 => ?_⟩
      obtain ⟨r, rfl⟩ : ∃ n : Nat, r = n := ⟨r.toNat, by omega⟩
      tm_at "w"
      intro D nD
      refine lc_rangeM (τ := τ) (fun _ v _ => ∃ z : Int, v = .int z ∧ 0 ≤ z ∧ z < i) (fun _ _ _ _ h _ => h) m2.now nD (by omega) ?_ ?_
      · intro j H3 N M hj m3 kN
        tm_at "w"
        exact ⟨τ, _, rfl, m3.now, by omega, by omega, fun r3 H4 m4 h3 h4 => kN _ _ m4 ⟨r3, rfl, h3, by omega⟩⟩
      intro H3 acc2 m3 hD hlen hR
      rw [Int.toNat_natCast] at hlen
      obtain ⟨q, hql, hqn, rfl⟩ : ∃ q : List Nat, q.length ≤ 6 ∧ (∀ x ∈ q, x < i) ∧ acc2 = natsV q := by
        obtain ⟨q, e1, e2, e3⟩ := nats_all (i := i) (acc := acc2) fun v hv => by
          obtain ⟨j, hj, e⟩ := List.mem_iff_getElem.mp hv
          exact hR j v (by rw [List.getElem?_eq_getElem hj, e])
        exact ⟨q, by omega, e2, e3⟩
      have m13 := m2.trans m3
      rotate_left
      tm_at "w"
      intro D nD
      obtain ⟨q, hql, hqn, eq⟩ : ∃ q : List Nat, q.length ≤ 6 ∧ (∀ x ∈ q, x < i) ∧ ([] : List V) = natsV q := ⟨[], by decide, (fun x hx => by cases hx), rfl⟩
      have hD : upd H1 D (.lst []) D = some (.lst (natsV q)) := by rw [upd_same, eq]
      have m13 := m1.now.mv.new (o := .lst []) nD
      all_goals
        tm_at "w"
        refine ⟨_, q.map fun z : Nat => (z : Int), rfl, SqL.of (by rw [List.map_map]; exact hD), by rw [List.length_map]; omega, fun S c hc _ nS => ?_⟩
        rw [List.length_map] at hc
        refine ⟨S, _, _, rfl, upd_same, by omega, fun ns p hs hmem hlen np => ?_⟩
        obtain ⟨ks, rfl, hks, hkp⟩ := nats_of hs (n := i) fun x hx => by
          have := of_decide_eq_true ((hmem x).mp hx)
          obtain ⟨z, hz, e⟩ := List.mem_map.mp this
          exact ⟨z, hqn z hz, e.symm⟩
        rw [List.length_map] at hlen
        have m15 := ((m1.trans m13).new nS).new (p := p) (o := .lst ((ks.map fun z : Nat => (z : Int)).map V.int)) np
        have m35 := (m13.new nS).new (p := p) (o := .lst ((ks.map fun z : Nat => (z : Int)).map V.int)) np
        tm_at "w"
        intro t nt
        have m16 := m15.new (o := .tup ((ks.map fun z : Nat => (z : Int)).map V.int)) nt
        have m36 := m35.new (o := .tup ((ks.map fun z : Nat => (z : Int)).map V.int)) nt
        have hF6 := m36.keep _ _ nFt hF1
        tm_at "w"
        refine ⟨_, _, _, rfl, m16.mut nF, acc ++ [.ref t], upd_same, len_app hacc, snoc_at hacc (fun j v e => (hR1 j v e).tk (TK.trans m36.tk (TK.mut hF6))) ⟨t, ks, rfl, ?_, ⟨hkp, hks, by omega⟩⟩⟩
        rw [upd_ne (fun e => by rw [e] at nt; rw [m35.keep _ _ nFt hF1] at nt; cases nt), upd_same, List.map_map]
        rfl
    · rintro σ H1 ⟨x0, y0, z0, rfl, m1, acc, hF1, hacc, hR1⟩
      obtain ⟨P, hP, ok, hPl⟩ := rows_of hn (by omega) hR1
      tm_at "w"
      intro t nt
      exact kk t P _ (m1.new nt) ⟨acc, upd_same, hP.tk (TK.new nt)⟩ ok hPl
/-! _law_sheet -/
/-! ### sorted of a set of whole numbers, any number of members -/
section
open PySem.Spec PyProof.Rows
variable {P : Program} {w : World} {A : Around} {s : Shared} {E : Value → Shared → Prop} {a : Addr}
theorem sorted_setA {S : Int → Bool} {n : Nat} {Q : Value → Shared → Prop} (R : SetR w s.heap a S n) (hh : A.handled = none) (hbig : n ≤ 100000)
    (hQ : ∀ s' p (out : Array Value) (c : Nat) (ns : List Int), (∀ b o, s.heap.get? b = some o → s'.heap.get? b = some o) → s'.gens = s.gens → s'.os = s.os → s.heap.objs.size ≤ p →
      s'.heap.get? p = some (seqObj "list" out c) → IntsAre out.toList ns → ns.Pairwise (· < ·) → (∀ k, k ∈ ns ↔ S k = true) → ns.length = n → Q (.ref p) s') :
    wpAny (model P w) A (call (.builtin "sorted") [.ref a]) Q E s := by
  obtain ⟨o, es, ep, t, ho, hex, hd, g, nd, hm, hb, hf, hn, hr, hl⟩ := R
  refine Calls.call_function_entry kind_sorted plain_sorted entry_sorted (args_sorted1 _) ?_
  unfold Builtin.«sorted»
  refine wpAny_bind (m := checkCount "sorted" 1 1 _) (wpAny_pure ?_)
  refine wpAny_bind (collect_set (A := A.in1) hh ⟨o, ho, hex.1, hd⟩ hf hb hr hl fun s1 vs k1 hz g1 o1 pm => ?_)
  have hvl : vs.length = n := by rw [pm.length_eq, List.length_map, Array.length_toList]; exact hn
  have hI : IntsAre vs (vs.map Builtin.Re.reRawOf) := L2.ints_of vs fun v hv => by
    obtain ⟨e, he, q⟩ := List.mem_map.mp (pm.mem_iff.mp hv)
    obtain ⟨k, tk, h1, _⟩ := g e he
    exact ⟨k, tk, by rw [← q]; exact h1⟩
  have pk : (vs.map Builtin.Re.reRawOf).Perm (es.toList.map keyOf) := by
    have q := pm.map Builtin.Re.reRawOf
    rw [List.map_map] at q
    exact q
  have hL : vs.length ≤ sizeLine := by rw [hvl]; exact Nat.le_trans hbig (by decide)
  refine wpAny_bind (wpAny_newList ?_ hL)
  have hoL : (s1.heap.push (seqObj "list" vs.toArray 0)).get? s1.heap.objs.size = some (seqObj "list" vs.toArray 0) := Heap.get?_push_size _ rfl
  refine wpAny_bind (wpAny_holding (wpAny_call_entry slot_list_sort ⟨_, hoL, rfl⟩ entry_list_sort (SrtO.list_sort_ord SrtO.swo_int hoL hL (fun h2 => SrtO.ints_sortable hI h2) fun out h1 h2 => ⟨_, rfl, ?_⟩) (args_list_sort _)))
  obtain ⟨a1, a2, a3⟩ := SrtO.ints_out hI h1 h2
  obtain ⟨c, hc⟩ := sortedHeap_at (vs := vs) (out := out.toArray) hoL
  have pn : (out.map SrtO.iv).Perm (es.toList.map keyOf) := a2.trans pk
  refine wpAny_pure ⟨_, rfl, hQ _ s1.heap.objs.size out.toArray c (out.map SrtO.iv) (fun b u e => ?_) g1 o1 hz hc a1 (lt_of_le_nodup _ a3 (pn.nodup_iff.mpr nd)) (fun k => by rw [pn.mem_iff, ← hm k]) ?_⟩
  · have q := k1 b u e
    have hlt := Heap.lt_size q
    show (sortedHeap (s1.heap.push (seqObj "list" vs.toArray 0)) s1.heap.objs.size vs out.toArray).get? b = some u
    rw [sortedHeap_old (Nat.ne_of_lt hlt) (by rw [size_push']; exact Nat.lt_succ_of_lt hlt)]
    exact Heap.get?_push_of_some _ q
  · rw [pn.length_eq, List.length_map, Array.length_toList]; exact hn
variable {X : Cx}
def rSortedSetA (w : World) : List V → Hp → VK → Prop := fun vs H Q => ∃ (a : Addr) (S : Int → Bool) (n : Nat), vs = [V.ref a] ∧ H a = some (SetO w a S n) ∧ n ≤ 100000 ∧
  ∀ (ns : List Int) (p : Addr), ns.Pairwise (· < ·) → (∀ k : Int, k ∈ ns ↔ S k = true) → ns.length = n → H p = none → Q (.ref p) (upd H p (.lst (ns.map V.int)))
theorem cr_sortedSetA (hc : X.calm = true) : CallR X (.builtin "sorted") (rSortedSetA X.w) := by
  intro pins s σ H vs us Q I r h
  obtain ⟨a, S, n, rfl, ha, hbig, q⟩ := h
  have R := setO_get I ha
  rw [Vals.ref1 r]
  refine sorted_setA R (I.ok.hd hc) hbig fun s' p out c ns k g o hp hg hi hs hm hl => ?_
  have hlen : (ns.map V.int).length ≤ sizeLine := by rw [List.length_map, hl]; exact Nat.le_trans hbig (by decide)
  have hn : H p = none := I.hok.fresh hp
  have J : Inv X pins σ (upd H p (.lst (ns.map V.int))) { s with heap := s'.heap, gens := s'.gens, drawn := s'.drawn, toks := s'.toks } :=
    I.call (ch := []) (Un.laid k hp hn) (I.hok.laid k hp ⟨hlen, out.toList, c, vals_of_ints hi, hg⟩) (by rw [g]; exact I.bare) (fun _ z => nomatch z)
  have e : s' = { s with heap := s'.heap, gens := s'.gens, drawn := s'.drawn, toks := s'.toks } := by
    cases s'
    cases s
    cases o
    rfl
  rw [e]
  exact ⟨.ref p, _, J, rfl, q ns p hs hm hl hn⟩
end
theorem int_nodup_le {ks : List Int} {m : Nat} (hn : ks.Nodup) (h : ∀ k ∈ ks, 0 ≤ k ∧ k < (m : Int)) : ks.length ≤ m := by
  have l : (ks.map Int.toNat).length ≤ m := nodup_le m (by
    unfold List.Nodup
    rw [List.pairwise_map]
    refine List.Pairwise.imp_of_mem (fun {a b} ha hb z e => z ?_) hn
    have := h a ha
    have := h b hb
    omega) fun k hk => by
    obtain ⟨z, hz, rfl⟩ := List.mem_map.mp hk
    have := h z hz
    omega
  rw [List.length_map] at l
  exact l
/-- for each kind the tuple of all kinds that it is -/
def ShL (H : Hp) (vs : List V) (P : List (List Nat)) (l : Addr) : Prop := ∀ (j : Nat) v, vs[j]? = some v → ∃ b q, v = .ref b ∧ H b = some (.tup (natsV q)) ∧ (∀ k, k ∈ q ↔ isA P j k = true) ∧ q.length ≤ P.length ∧ b ≠ l
def ShAt (H : Hp) (l : Addr) (P : List (List Nat)) : Prop := ∃ vs, H l = some (.lst vs) ∧ vs.length = P.length ∧ ShL H vs P l
theorem ShL.tk {H H' : Hp} {vs : List V} {P : List (List Nat)} {l : Addr} (h : ShL H vs P l) (k : TK H H') : ShL H' vs P l := fun j v e => by
  obtain ⟨b, q, e1, e2, e3⟩ := h j v e
  exact ⟨b, q, e1, k _ _ e2, e3⟩
theorem ShAt.same {H H' : Hp} {l : Addr} {P : List (List Nat)} (h : ShAt H l P) (s : Same H H') : ShAt H' l P := by
  obtain ⟨vs, h1, h2, h3⟩ := h
  exact ⟨vs, s _ _ h1, h2, h3.tk (Same.tk s)⟩
theorem ShAt.mv {H H' : Hp} {l : Addr} {P : List (List Nat)} {τ : Tp} (h : ShAt H l P) (m : Mv τ H H') (n : l ≠ τ.t) : ShAt H' l P := by
  obtain ⟨vs, h1, h2, h3⟩ := h
  exact ⟨vs, m.keep _ _ n h1, h2, h3.tk m.tk⟩
theorem ShAt.at {H : Hp} {l : Addr} {P : List (List Nat)} (h : ShAt H l P) {x : Nat} (hx : x < P.length) : ∃ vs b q, H l = some (.lst vs) ∧ vs[x]? = some (.ref b) ∧ H b = some (.tup (natsV q)) ∧ (∀ k, k ∈ q ↔ isA P x k = true) ∧ q.length ≤ P.length := by
  obtain ⟨vs, h1, h2, h3⟩ := h
  obtain ⟨b, q, e1, e2, e3, e4, _⟩ := h3 x _ (List.getElem?_eq_getElem (by omega))
  exact ⟨vs, b, q, h1, by rw [List.getElem?_eq_getElem (by omega), e1], e2, e3, e4⟩
def sp__law_sheet (K : PySem.W.Frag) : Sp := fun vs H Q _ => ∃ (a : Addr) (P : List (List Nat)), vs = [.ref a] ∧ ParAt H a P ∧ OkP P ∧ P.length ≤ 400 ∧ ∀ l H', Same H H' → Nw H l → ShAt H' l P → Q (.ref l) H'
theorem sc__law_sheet : FnScope ["_law_parents_here", "_law_found", "_law_kind", "_law_item", "_law_here", "_law_parent"] ["_law_parents_here"] (defScope s__law_sheet) := ⟨rfl, rfl, rfl, by decide +kernel, rfl, by decide +kernel, by decide +kernel⟩
theorem ok__law_sheet (T : Top K mg) : FnOk P w K mg base CX0 1 T.f__law_sheet T.fd__law_sheet ["_law_parents_here"] (sp__law_sheet K) := by
  refine T.F__law_sheet.ok sc__law_sheet (fun vs H Q E h => ?_) (fun cdv A outer s H vs Q E hr h => ?_)
  · obtain ⟨a, P, rfl, _⟩ := h
    rfl
  · obtain ⟨a, P, rfl, hP, ok, h63, k⟩ := h
    refine ⟨_, (pss_cons (ps_set (i := 1) sc__law_sheet.nd rfl (Or.inl rfl) (pe_lst pa_nil))
      (pss_cons (ps_for PassesOwn.never rfl (pi_enumT (by rfl) T.z_enumerate (pa_cons (pv 0) pa_nil)) (pg_tup rfl (pgs_cons (pg_name (i := 2) sc__law_sheet.nd rfl (Or.inl rfl)) (pgs_cons (pg_name (i := 3) sc__law_sheet.nd rfl (Or.inl rfl)) pgs_nil)))
      (pss_cons (ps_set (i := 4) sc__law_sheet.nd rfl (Or.inl rfl) (pe_lst (pa_cons (pv 2) pa_nil)))
      (pss_cons (ps_for PassesOwn.never rfl (pi_tup (pv 3)) (pg_name (i := 5) sc__law_sheet.nd rfl (Or.inl rfl))
      (pss_one (ps_expr (pe_bm PySem.F.plainAttrs_list PySem.F.slot_list_extend PySem.F.type_list_extend mt_extend (pv 4) (pa_cons (pe_callTy (r := rListQ K) (T := "list") call_list_of (by rfl) T.z_list (by decide +kernel) (pa_cons (pe_ix (r := rIxL K) ix_list (pv 1) (pv 5) (fun _ _ => rfl)) pa_nil)) pa_nil)))))
      (pss_one (ps_expr (pe_bm PySem.F.plainAttrs_list PySem.F.slot_list_append PySem.F.type_list_append mt_append (pv 1) (pa_cons (pe_callTy (r := rTupQ K) (T := "tuple") call_tuple_of (by rfl) T.z_tuple (by decide +kernel) (pa_cons (pe_callB (id := "sorted") (cr_sortedSetA rfl) (by rfl) T.z_sorted (by decide +kernel) (pa_cons (pe_callTy (T := "set") (cr_setL rfl) (by rfl) T.z_set (by decide +kernel) (pa_cons (pv 4) pa_nil)) pa_nil)) pa_nil)) pa_nil)))))))
      (pss_one (ps_ret (pv 1))))), ?_⟩
    have hR := ok.rt
    obtain ⟨vsP, hpa, hlen, hit⟩ := id hP
    tm_at "w"
    intro F nF
    have s0 : Same H (upd H F (.lst [])) := Same.new (Same.refl H) nF
    have hpa1 := s0 _ _ hpa
    tm_at "w"
    refine ⟨_, _, rfl, SqT.of hpa1, for_enumT (K := K) (a := a) (xs := vsP) (fun i σ H' => ∃ x y z w, σ = [some (.ref a), some (.ref F), x, y, z, w] ∧ Same H H' ∧ ∃ vs, H' F = some (.lst vs) ∧ vs.length = i ∧ ShL H' vs P F) ?_ ?_ ?_ ?_⟩
    · exact ⟨_, _, _, _, rfl, s0, [], upd_same, rfl, fun j v e => by simp at e⟩
    · rintro i σ H' ⟨_, _, _, _, rfl, s1, _⟩
      exact SqT.of (s1 _ _ hpa)
    · rintro i x t σ H' hx ⟨x0, y0, z0, w0, rfl, s1, vs, hl1, hvl, hfl⟩ nt
      obtain ⟨ai, p, rfl, hp, hai⟩ := ParL.here ⟨hlen, hit⟩ hx
      have il := (List.getElem?_eq_some_iff.mp hp).1
      have p6 := (ok.ok i p hp).few
      have s2 : Same H' (upd H' t (.tup [V.int (i : Int), V.ref ai])) := Same.new (Same.refl H') nt
      have hai2 := s2 _ _ (s1 _ _ hai)
      tm_at "w"
      intro L nL
      have nL0 : H' L = none := Same.free s2 nL
      have s3 : Same H' (upd (upd H' t (.tup [V.int (i : Int), V.ref ai])) L (.lst [V.int (i : Int)])) := Same.new s2 nL
      have hai3 := s3 _ _ (s1 _ _ hai)
      tm_at "w"
      refine ⟨⟨_, SqT.of hai3⟩, for_tup (K := K) (a := ai) (xs := natsV p) (fun j σ H2 => ∃ u, σ = [some (.ref a), some (.ref F), some (.int (i : Int)), some (.ref ai), some (.ref L), u] ∧ Same H' H2 ∧ ∃ S, H2 L = some (.lst (natsV S)) ∧ (∀ k, k ∈ S ↔ k = i ∨ ∃ z ∈ p.take j, isA P z k = true) ∧ S.length ≤ 1 + j * 400) ?_ ?_ ?_ ?_⟩
      · exact ⟨w0, rfl, s3, [i], upd_same, (fun k => ⟨(fun h => .inl (List.mem_singleton.mp h)), (fun h => by
          rcases h with h | ⟨z, hz, _⟩
          · exact List.mem_singleton.mpr h
          · simp at hz)⟩), by show 1 ≤ 1 + 0 * 400; decide⟩
      · rintro j σ H2 _ ⟨_, rfl, s4, _⟩
        exact SqT.of (s4 _ _ (s1 _ _ hai))
      · rintro j v σ H2 hv ⟨u0, rfl, s4, S, hL, hS, hSl⟩
        obtain ⟨q, hq, rfl, jl⟩ := natsV_here hv
        have ql := hR i p hp q (List.mem_of_getElem? hq)
        obtain ⟨aq, w, e1, e2, e3, e4, _⟩ := hfl q _ (List.getElem?_eq_getElem (by omega))
        have hl4 := s4 _ _ hl1
        have hq4 := s4 _ _ e2
        have hvq : vs[q]? = some (.ref aq) := by rw [List.getElem?_eq_getElem (by omega), e1]
        tm_at "w"
        intro M nM
        have hL5 : upd H2 M (.lst (natsV w)) L = some (.lst (natsV S)) := (upd_ne (ne_of_none hL nM)).trans hL
        have s5 := Same.new (o := .lst (natsV w)) s4 nM
        tm_at "w"
        refine ⟨_, _, _, _, rfl, rfl, hL5, upd_same, by rw [natsV_len, natsV_len]; have := lt_line (n := 90000) (by decide); omega, ?_⟩
        refine ⟨_, rfl, Same.mut s5 nL0, S ++ w, by rw [upd_same]; unfold natsV; rw [List.map_append], fun k => ?_, by rw [List.length_append]; omega⟩
        rw [List.mem_append, hS, e3, List.take_add_one, hq]
        constructor
        · rintro ((e | ⟨y, hy, e⟩) | e)
          · exact .inl e
          · exact .inr ⟨y, List.mem_append_left _ hy, e⟩
          · exact .inr ⟨q, List.mem_append_right _ (List.mem_singleton.mpr rfl), e⟩
        · rintro (e | ⟨y, hy, e⟩)
          · exact .inl (.inl e)
          · rcases List.mem_append.mp hy with hy | hy
            · exact .inl (.inr ⟨y, hy, e⟩)
            · rw [show y = q from List.mem_singleton.mp hy] at e
              exact .inr e
      · rintro σ H2 ⟨u0, rfl, s4, S, hL, hS, hSl⟩
        rw [natsV_len, List.take_length] at hS
        rw [natsV_len] at hSl
        have hl4 := s4 _ _ hl1
        tm_at "w"
        refine ⟨_, S.map fun z : Nat => (z : Int), rfl, SqL.of (by rw [List.map_map]; exact hL), by rw [List.length_map]; omega, fun Z c hc hks nZ => ?_⟩
        have hSi : ∀ k, k ∈ S ↔ isA P i k = true := fun k => by
          rw [hS, isA_rec hR hp, Bool.or_eq_true, decide_eq_true_eq, List.any_eq_true]
          exact ⟨fun h => h.imp Eq.symm id, fun h => h.imp Eq.symm id⟩
        have hSn : ∀ k ∈ S, k < P.length := fun k hk => by
          have := isA_le hR ((hSi k).mp hk)
          omega
        have hcn : c ≤ P.length := by
          obtain ⟨ks, h1, h2, h3⟩ := hks
          rw [← h2]
          refine int_nodup_le h1 fun k hk => ?_
          obtain ⟨z, hz, e⟩ := List.mem_map.mp ((h3 k).mp hk)
          have := hSn z hz
          omega
        refine ⟨Z, _, _, rfl, upd_same, by omega, fun ns p2 hs hmem hlen2 np => ?_⟩
        obtain ⟨ks, rfl, hks2, hkp⟩ := nats_of hs (n := P.length) fun x hx => by
          have := of_decide_eq_true ((hmem x).mp hx)
          obtain ⟨z, hz, e⟩ := List.mem_map.mp this
          exact ⟨z, hSn z hz, e.symm⟩
        rw [List.length_map] at hlen2
        have s6 := (Same.new (o := .lst ((ks.map fun z : Nat => (z : Int)).map V.int)) (Same.new s4 nZ) np)
        tm_at "w"
        intro u nu
        have s7 := Same.new (o := .tup ((ks.map fun z : Nat => (z : Int)).map V.int)) s6 nu
        have hl7 := s7 _ _ hl1
        have nuF : u ≠ F := fun e => by rw [e, s6 _ _ hl1] at nu; cases nu
        tm_at "w"
        refine ⟨_, _, _, _, rfl, Same.mut (Same.trans s1 s7) nF, vs ++ [.ref u], upd_same, len_app hvl, snoc_at hvl (hfl.tk (TK.trans (Same.tk s7) (TK.mut hl7))) ⟨u, ks, rfl, ?_, fun k => ?_, by omega, nuF⟩⟩
        · rw [upd_ne nuF, upd_same, List.map_map]
          rfl
        · rw [← hSi]
          constructor
          · intro h
            have := of_decide_eq_true ((hmem (k : Int)).mp (List.mem_map.mpr ⟨k, h, rfl⟩))
            obtain ⟨z, hz, e⟩ := List.mem_map.mp this
            rw [show k = z by omega]
            exact hz
          · intro h
            have := (hmem (k : Int)).mpr (decide_eq_true (List.mem_map.mpr ⟨k, h, rfl⟩))
            obtain ⟨z, hz, e⟩ := List.mem_map.mp this
            rw [show k = z by omega]
            exact hz
    · rintro σ H' ⟨x0, y0, z0, w0, rfl, s1, vs, hl1, hvl, hfl⟩
      tm_at "w"
      exact k F _ s1 ⟨nF⟩ ⟨vs, hl1, by omega, hfl⟩
/-! _law_clauses -/
/-- a pair of a kind and a label -/
def PairR (n : Nat) (v : V) (H : Hp) : Prop := ∃ (b : Addr) (c : Nat × Int), v = .ref b ∧ H b = some (.tup [.int (c.1 : Int), .int c.2]) ∧ c.1 < n
theorem PairR.tk {n : Nat} {v : V} {H H' : Hp} (h : PairR n v H) (k : TK H H') : PairR n v H' := by
  obtain ⟨b, c, e, x, o⟩ := h
  exact ⟨b, c, e, k _ _ x, o⟩
theorem pairs_of {H : Hp} {n : Nat} : ∀ {acc : List V}, (∀ v ∈ acc, PairR n v H) → ∃ Cs, ClsL H acc Cs ∧ (∀ c ∈ Cs, c.1 < n) ∧ Cs.length = acc.length
  | [], _ => ⟨[], ⟨rfl, fun j c e => by simp at e⟩, (fun c hc => by cases hc), rfl⟩
  | v :: r, h => by
    obtain ⟨Cs, h1, h2, h3⟩ := pairs_of fun u hu => h u (List.mem_cons_of_mem _ hu)
    obtain ⟨b, c, rfl, e2, e3⟩ := h v List.mem_cons_self
    refine ⟨c :: Cs, ⟨by rw [List.length_cons, List.length_cons, h1.1], fun j d hd => ?_⟩, fun d hd => ?_, by rw [List.length_cons, List.length_cons, h3]⟩
    · cases j with
      | zero => exact ⟨b, rfl, by rw [← Option.some.inj hd]; exact e2⟩
      | succ j => exact h1.2 j d hd
    · rcases List.mem_cons.mp hd with e | e
      · rw [e]; exact e3
      · exact h2 d e
def sp__law_clauses (K : PySem.W.Frag) : Sp := fun vs H Q _ => ∃ (τ : Tp) (n m : Nat), vs = [.ref τ.t, .int n, .int m] ∧ Tape τ H ∧ n ≤ 1000 ∧ m ≤ 1000 ∧
  ∀ a Cs H', Mv τ H H' → ClsAt H' a Cs → (∀ c ∈ Cs, c.1 < n) → (0 < n → Cs.length = m) → Cs.length ≤ m → Q (.ref a) H'
theorem sc__law_clauses : FnScope ["_law_hand_here", "_law_many", "_law_size", "_law_turn"] ["_law_hand_here", "_law_many", "_law_size"] (defScope s__law_clauses) := ⟨rfl, rfl, rfl, by decide +kernel, rfl, by decide +kernel, by decide +kernel⟩
theorem ok__law_clauses (T : Top K mg) : FnOk P w K mg base CX0 2 T.f__law_clauses T.fd__law_clauses ["_law_hand_here", "_law_many", "_law_size"] (sp__law_clauses K) := by
  have G__law_draw := ok__law_draw (P := P) (w := w) (base := base) T
  refine T.F__law_clauses.ok sc__law_clauses (fun vs H Q E h => ?_) (fun cdv A outer s H vs Q E hr h => ?_)
  · obtain ⟨τ, n, m, rfl, _⟩ := h
    rfl
  · obtain ⟨τ, n, m, rfl, m0, hn, hm, k⟩ := h
    refine ⟨_, (pss_cons (ps_if (pt_cmpR op_eq (pv 1) pe_int (nomark _)) (pss_one (ps_ret (pe_tup pa_nil))) pss_nil)
      (pss_one (ps_ret (pe_callTy (r := rTupQ K) (T := "tuple") call_tuple_of (by rfl) T.z_tuple (by decide +kernel) (pa_cons (pe_lc (own := [("_law_turn", 3)]) (g := gName 3) (tt := tYes) rfl sc__law_clauses.nd (pi_range1 rfl T.z_range (pa_cons (pv 2) pa_nil)) (blkOk_by (own := [("_law_turn", 3)]) (N := ["_law_hand_here", "_law_many", "_law_size", "_law_turn"]) (sc := defScope s__law_clauses) (by decide +kernel)) (fun _ _ _ _ _ => (pg_name (i := 3) sc__law_clauses.nd rfl (Or.inl rfl))) (fun _ _ _ _ _ => pts_nil) (fun _ _ _ _ _ => (pe_tup (pa_cons (pe_call G__law_draw hr (by rfl) T.g__law_draw T.F__law_draw.kp T.b__law_draw .nil pass0 (pa_cons (pv 0) (pa_cons (pv 1) pa_nil))) (pa_cons (pe_op op_sub (pe_call G__law_draw hr (by rfl) T.g__law_draw T.F__law_draw.kp T.b__law_draw .nil pass0 (pa_cons (pv 0) (pa_cons pe_int pa_nil))) pe_int) pa_nil))))) pa_nil))))), ?_⟩
    tm_at "w"
    refine iteI (fun z => ?_) (fun z => ?_)
    · tm_at "w"
      intro t nt
      exact k t [] _ (m0.mv.new nt) ⟨[], upd_same, rfl, fun j c e => by simp at e⟩ (fun c hc => by cases hc) (fun q => by omega) (Nat.zero_le _)
    · tm_at "w"
      intro D nD
      refine lc_rangeM (τ := τ) (fun _ v H => PairR n v H) (fun _ _ _ _ => PairR.tk) m0 nD (by omega) ?_ ?_
      · intro i H1 N M hi m1 kN
        tm_at "w"
        refine ⟨τ, _, rfl, m1.now, by omega, by omega, fun r H2 m2 h0 h1 => ?_⟩
        obtain ⟨r, rfl⟩ : ∃ n : Nat, r = n := ⟨r.toNat, by omega⟩
        tm_at "w"
        refine ⟨τ, _, rfl, m2.now, by decide, by decide, fun r2 H3 m3 h2 h3 => ?_⟩
        tm_at "w"
        intro t nt
        exact kN _ _ ((m2.trans m3).new nt) ⟨t, (r, r2 - 1), rfl, upd_same, by show r < n; omega⟩
      · intro H1 acc m1 hD hlen hR
        rw [Int.toNat_natCast] at hlen
        obtain ⟨Cs, h1, h2, h3⟩ := pairs_of fun v hv => by
          obtain ⟨j, hj, e⟩ := List.mem_iff_getElem.mp hv
          exact hR j v (by rw [List.getElem?_eq_getElem hj, e])
        tm_at "w"
        intro t nt
        exact k t Cs _ (m1.new nt) ⟨acc, upd_same, h1.tk (TK.new nt)⟩ h2 (fun _ => by omega) (by omega)
/-! _law_places -/
theorem inV_nats (k : Nat) (q : List Nat) : inV (.int (k : Int)) (natsV q) = decide (k ∈ q) := by
  have e : natsV q = (q.map fun z : Nat => (z : Int)).map V.int := by unfold natsV; rw [List.map_map]; rfl
  rw [e, inV_int]
  refine decide_eq_decide.mpr ⟨fun h => ?_, fun h => List.mem_map.mpr ⟨k, h, rfl⟩⟩
  obtain ⟨z, hz, ez⟩ := List.mem_map.mp h
  rw [show k = z by omega]
  exact hz
theorem flat_nats (q : List Nat) : (natsV q).all flatV = true := List.all_eq_true.mpr fun v hv => by
  unfold natsV at hv
  obtain ⟨n, _, rfl⟩ := List.mem_map.mp hv
  rfl
def frsB (P : List (List Nat)) (Cs : List (Nat × Int)) : List Nat := (List.range P.length).map fun x => firstB Cs (isA P x)
theorem frsB_at {P : List (List Nat)} {Cs : List (Nat × Int)} {x : Nat} (h : x < P.length) : (frsB P Cs)[x]? = some (firstB Cs (isA P x)) := by
  unfold frsB
  rw [List.getElem?_map, List.getElem?_range h]
  rfl
theorem frs_nil {S : Nat → Bool} {Cs : List (Nat × Int)} (h : ((List.range Cs.length).filter fun i => S (kdB Cs i)) = []) : firstB Cs S = Cs.length := by
  have a : ¬ firstB Cs S < Cs.length := fun g => by
    have z := first_at g
    have : firstB Cs S ∈ (List.range Cs.length).filter fun i => S (kdB Cs i) := List.mem_filter.mpr ⟨List.mem_range.mpr g, z⟩
    rw [h] at this
    cases this
  have : firstB Cs S ≤ Cs.length := List.findIdx_le_length
  omega
theorem frs_cons {S : Nat → Bool} {Cs : List (Nat × Int)} {f : Nat} {r : List Nat} (h : ((List.range Cs.length).filter fun i => S (kdB Cs i)) = f :: r) : firstB Cs S = f ∧ f < Cs.length := by
  have hf : f ∈ (List.range Cs.length).filter fun i => S (kdB Cs i) := by rw [h]; exact List.mem_cons_self
  obtain ⟨h1, h2⟩ := List.mem_filter.mp hf
  have fl := List.mem_range.mp h1
  have a : firstB Cs S < f + 1 := (first_lt (by omega)).mpr ⟨f, by omega, h2, fl⟩
  have b : ¬ firstB Cs S < f := fun g => by
    obtain ⟨i, g1, g2, g3⟩ := (first_lt (by omega)).mp g
    have hm : i ∈ (List.range Cs.length).filter fun i => S (kdB Cs i) := List.mem_filter.mpr ⟨List.mem_range.mpr g3, g2⟩
    have pw : ((List.range Cs.length).filter fun i => S (kdB Cs i)).Pairwise (· < ·) := List.pairwise_lt_range.filter _
    rw [h] at hm pw
    have q := (List.pairwise_cons.mp pw).1
    rcases List.mem_cons.mp hm with z | z
    · omega
    · have := q i z
      omega
  omega
def sp__law_places (K : PySem.W.Frag) : Sp := fun vs H Q _ => ∃ (a l : Addr) (P : List (List Nat)) (Cs : List (Nat × Int)), vs = [.ref a, .ref l] ∧ ClsAt H a Cs ∧ ShAt H l P ∧ P.length ≤ 1000 ∧ Cs.length ≤ 1000 ∧ ∀ r H', Same H H' → H' r = some (.lst (natsV (frsB P Cs))) → Q (.ref r) H'
theorem sc__law_places : FnScope ["_law_clauses_here", "_law_sheet_here", "_law_found", "_law_here", "_law_met", "_law_at"] ["_law_clauses_here", "_law_sheet_here"] (defScope s__law_places) := ⟨rfl, rfl, rfl, by decide +kernel, rfl, by decide +kernel, by decide +kernel⟩
theorem ok__law_places (T : Top K mg) : FnOk P w K mg base CX0 1 T.f__law_places T.fd__law_places ["_law_clauses_here", "_law_sheet_here"] (sp__law_places K) := by
  refine T.F__law_places.ok sc__law_places (fun vs H Q E h => ?_) (fun cdv A outer s H vs Q E hr h => ?_)
  · obtain ⟨a, l, P, Cs, rfl, _⟩ := h
    rfl
  · obtain ⟨a, l, P, Cs, rfl, hC, hsh, hn, hc, k⟩ := h
    refine ⟨_, (pss_cons (ps_set (i := 2) sc__law_places.nd rfl (Or.inl rfl) (pe_lst pa_nil))
      (pss_cons (ps_for PassesOwn.never rfl (pi_list (pv 1)) (pg_name (i := 3) sc__law_places.nd rfl (Or.inr rfl))
      (pss_cons (ps_setLc (i := 4) (own := [("_law_at", 5)]) (g := gName 5) rfl sc__law_places.nd rfl rfl (sw_true rfl rfl rfl (by decide +kernel)) (pi_range1 rfl T.z_range (pa_cons (pe_callB (r := rLenQ K) (id := "len") call_len_seq (by rfl) T.z_len (by decide +kernel) (pa_cons (pv 0) pa_nil)) pa_nil)) (blkOk_by (own := [("_law_at", 5)]) (N := ["_law_clauses_here", "_law_sheet_here", "_law_found", "_law_here", "_law_met", "_law_at"]) (sc := defScope s__law_places) (by decide +kernel)) (fun _ _ _ _ _ => (pg_name (i := 5) sc__law_places.nd rfl (Or.inl rfl))) (fun _ _ _ _ _ => (pts_one (pt_cmpR (r := rIn K false) op_in_seq (pe_ix (r := rIxT K) ix_tup (pe_ix (r := rIxT K) ix_tup (pv 0) (pv 5) (fun _ _ => rfl)) pe_int (fun _ _ => rfl)) (pv 3) (by rfl)))) (fun _ _ _ _ _ => (pv 5)))
      (pss_one (ps_expr (pe_bm PySem.F.plainAttrs_list PySem.F.slot_list_append PySem.F.type_list_append mt_append (pv 2) (pa_cons (pe_ifExp (pt_cmpR op_gt (pe_callB (r := rLenQ K) (id := "len") call_len_seq (by rfl) T.z_len (by decide +kernel) (pa_cons (pv 4) pa_nil)) pe_int (nomark _)) (pe_ix (r := rIxL K) ix_list (pv 4) pe_int (fun _ _ => rfl)) (pe_callB (r := rLenQ K) (id := "len") call_len_seq (by rfl) T.z_len (by decide +kernel) (pa_cons (pv 0) pa_nil))) pa_nil))))))
      (pss_one (ps_ret (pv 2))))), ?_⟩
    obtain ⟨svs, hsv, hsl, hsr⟩ := id hsh
    tm_at "w"
    intro F nF
    obtain ⟨H1, e1, s1, hF⟩ := new_hide (Same.new (o := .lst []) (Same.refl H) nF)
    rw [e1]
    have hsv1 := s1 _ _ hsv
    tm_at "w"
    refine ⟨⟨_, SqL.of hsv1⟩, for_list (K := K) (a := l) (xs := svs) (fun i σ H' => ∃ u3 u4 , σ = [some (.ref a), some (.ref l), some (.ref F), u3, u4, none] ∧ Same H H' ∧ H' F = some (.lst (natsV ((List.range i).map fun x => firstB Cs (isA P x))))) ⟨_, _, rfl, s1, hF⟩ ?_ ?_ ?_⟩
    · rintro i σ H' _ ⟨_, _, rfl, s, _⟩
      exact SqL.of (s _ _ hsv)
    · rintro i x σ H2 hx ⟨u3, u4, rfl, s2, hF2⟩
      have il := (List.getElem?_eq_some_iff.mp hx).1
      obtain ⟨b, q, rfl, hb, hq, hql, _⟩ := hsr i x hx
      have hb2 := s2 _ _ hb
      have hC2 := hC.tk (Same.tk s2)
      obtain ⟨cs, hcs, hcl⟩ := id hC2
      have hl2 := hcl.1
      tm_at "w"
      rw [hl2]
      intro D nD
      refine lc_rangeF (fun j => if isA P i (kdB Cs j) = true then some (V.int (j : Int)) else none) nD (by omega) ?_ ?_
      · intro j H3 N M hj s3 kN kM
        rw [Int.zero_add]
        have jl : j < Cs.length := by omega
        obtain ⟨b1, e1, g1⟩ := hcl.2 j _ (List.getElem?_eq_getElem jl)
        have k1 := kdB_at (List.getElem?_eq_getElem jl)
        rw [← k1] at g1
        have g13 := s3 _ _ g1
        have hb3 := s3 _ _ hb2
        have hcs3 := s3 _ _ hcs
        tm_at "w"
        refine ⟨flat_nats _, ?_⟩
        refine ⟨_, rfl, ?_⟩
        show if (if false = true then !inV (V.int ((kdB Cs j : Nat) : Int)) (natsV q) else inV (V.int ((kdB Cs j : Nat) : Int)) (natsV q)) = true then _ else _
        have em : inV (V.int ((kdB Cs j : Nat) : Int)) (natsV q) = isA P i (kdB Cs j) := by
          rw [inV_nats, Bool.eq_iff_iff, decide_eq_true_eq]
          exact hq _
        rw [em]
        cases e : isA P i (kdB Cs j) with
        | true =>
          refine iteET (by rfl) ?_
          tm_at "w"
          exact kN _ _ (by rw [e]; rfl) (Same.refl H3)
        | false =>
          refine iteEF (by rfl) ?_
          exact kM _ (by rw [e]; rfl) (Same.refl H3)
      · intro H3 s3 hD
        rw [Int.toNat_natCast] at hD
        have hD : H3 D = some (.lst (natsV ((List.range Cs.length).filter fun j => isA P i (kdB Cs j)))) := by
          rw [hD]
          exact congrArg (fun z => some (HO.lst z)) (filter_nats (fun j => isA P i (kdB Cs j)) _)
        have hF3 := s3 _ _ hF2
        have hcs3 := s3 _ _ hcs
        have er : (List.range (i + 1)).map (fun x => firstB Cs (isA P x)) = (List.range i).map (fun x => firstB Cs (isA P x)) ++ [firstB Cs (isA P i)] := by
          rw [List.range_succ, List.map_append]
          rfl
        have s23 := Same.trans s2 s3
        tm_at "w"
        rw [natsV_len]
        cases ef : (List.range Cs.length).filter fun j => isA P i (kdB Cs j) with
        | nil =>
          have e0 := frs_nil ef
          refine iteDN (by show ¬ ((0 : Nat) : Int) > 0; decide) ?_
          tm_at "w"
          refine ⟨_, _, _, rfl, rfl, hF3, lt_line (by rw [natsV_len, List.length_map, List.length_range]; omega), ?_⟩
          refine ⟨_, _, rfl, Same.mut s23 (Same.free (Same.refl H) nF), ?_⟩
          rw [upd_same, er, e0, hl2, natsV_snoc]
        | cons f r =>
          obtain ⟨e0, fl⟩ := frs_cons ef
          rw [ef] at hD
          refine iteDY (by rw [List.length_cons]; omega) ?_
          have z0 : (natsV (f :: r))[0]? = some (V.int (f : Int)) := rfl
          tm_at "w"
          refine ⟨_, _, _, rfl, rfl, hF3, lt_line (by rw [natsV_len, List.length_map, List.length_range]; omega), ?_⟩
          refine ⟨_, _, rfl, Same.mut s23 (Same.free (Same.refl H) nF), ?_⟩
          rw [upd_same, er, e0, natsV_snoc]
    · rintro σ H2 ⟨u3, u4, rfl, s2, hF2⟩
      rw [hsl] at hF2
      tm_at "w"
      exact k F H2 s2 hF2
/-! _law_parting -/
def labsL (Cs : List (Nat × Int)) : List V := Cs.map (fun c => V.int c.2) ++ [V.non]
theorem labsL_at {Cs : List (Nat × Int)} {f : Nat} (h : f ≤ Cs.length) : (labsL Cs)[f]? = some (optV (Cs[f]?.map (·.2))) := by
  unfold labsL
  by_cases g : f < Cs.length
  · rw [List.getElem?_append_left (by rw [List.length_map]; exact g), List.getElem?_map, List.getElem?_eq_getElem g]
    rfl
  · have e : f = Cs.length := by omega
    rw [List.getElem?_append_right (by rw [List.length_map]; omega), List.length_map, e, Nat.sub_self, List.getElem?_eq_none (Nat.le_refl _)]
    rfl
def sp__law_parting (K : PySem.W.Frag) : Sp := fun vs H Q _ => ∃ (a b l : Addr) (P : List (List Nat)) (C1 C2 : List (Nat × Int)), vs = [.ref a, .ref b, .ref l] ∧ ClsAt H a C1 ∧ ClsAt H b C2 ∧ ShAt H l P ∧ P.length ≤ 1000 ∧ C1.length ≤ 1000 ∧ C2.length ≤ 1000 ∧ ∀ v H', Same H H' → OptL H' v (partB P C1 C2) → Q v H'
theorem sc__law_parting : FnScope ["_law_one", "_law_other", "_law_sheet_here", "_law_mine", "_law_yours", "_law_labels", "_law_x", "_law_y", "_law_kind", "_law_label"] ["_law_one", "_law_other", "_law_sheet_here"] (defScope s__law_parting) := ⟨rfl, rfl, rfl, by decide +kernel, rfl, by decide +kernel, by decide +kernel⟩
theorem ok__law_parting (T : Top K mg) : FnOk P w K mg base CX0 2 T.f__law_parting T.fd__law_parting ["_law_one", "_law_other", "_law_sheet_here"] (sp__law_parting K) := by
  have G__law_places := ok__law_places (P := P) (w := w) (base := base) T
  refine T.F__law_parting.ok sc__law_parting (fun vs H Q E h => ?_) (fun cdv A outer s H vs Q E hr h => ?_)
  · obtain ⟨a, b, l, P, C1, C2, rfl, _⟩ := h
    rfl
  · obtain ⟨a, b, l, P, C1, C2, rfl, h1, h2, hsh, hn, l1, l2, k⟩ := h
    refine ⟨_, (pss_cons (ps_set (i := 3) sc__law_parting.nd rfl (Or.inl rfl) (pe_call G__law_places hr (by rfl) T.g__law_places T.F__law_places.kp T.b__law_places .nil pass0 (pa_cons (pv 0) (pa_cons (pv 2) pa_nil))))
      (pss_cons (ps_set (i := 4) sc__law_parting.nd rfl (Or.inl rfl) (pe_call G__law_places hr (by rfl) T.g__law_places T.F__law_places.kp T.b__law_places .nil pass0 (pa_cons (pv 1) (pa_cons (pv 2) pa_nil))))
      (pss_cons (ps_set (i := 5) sc__law_parting.nd rfl (Or.inl rfl) (pe_lst (pa_cons (pe_op op_cat (pe_lc (own := [("_law_kind", 8), ("_law_label", 9)]) (tt := tYes) rfl sc__law_parting.nd (pi_tup (pv 0)) (blkOk_by (own := [("_law_kind", 8), ("_law_label", 9)]) (N := ["_law_one", "_law_other", "_law_sheet_here", "_law_mine", "_law_yours", "_law_labels", "_law_x", "_law_y", "_law_kind", "_law_label"]) (sc := defScope s__law_parting) (by decide +kernel)) (fun _ _ _ _ _ => (pg_tupK (K := K) 2 rfl rfl (pgs_cons (pg_name (i := 8) sc__law_parting.nd rfl (Or.inl rfl)) (pgs_cons (pg_name (i := 9) sc__law_parting.nd rfl (Or.inl rfl)) pgs_nil)))) (fun _ _ _ _ _ => pts_nil) (fun _ _ _ _ _ => (pv 9))) (pe_lst (pa_cons pe_non pa_nil))) (pa_cons (pe_op op_cat (pe_lc (own := [("_law_kind", 8), ("_law_label", 9)]) (tt := tYes) rfl sc__law_parting.nd (pi_tup (pv 1)) (blkOk_by (own := [("_law_kind", 8), ("_law_label", 9)]) (N := ["_law_one", "_law_other", "_law_sheet_here", "_law_mine", "_law_yours", "_law_labels", "_law_x", "_law_y", "_law_kind", "_law_label"]) (sc := defScope s__law_parting) (by decide +kernel)) (fun _ _ _ _ _ => (pg_tupK (K := K) 2 rfl rfl (pgs_cons (pg_name (i := 8) sc__law_parting.nd rfl (Or.inl rfl)) (pgs_cons (pg_name (i := 9) sc__law_parting.nd rfl (Or.inl rfl)) pgs_nil)))) (fun _ _ _ _ _ => pts_nil) (fun _ _ _ _ _ => (pv 9))) (pe_lst (pa_cons pe_non pa_nil))) pa_nil))))
      (pss_cons (ps_for PassesOwn.never rfl (pi_range1 rfl T.z_range (pa_cons (pe_callB (r := rLenQ K) (id := "len") call_len_seq (by rfl) T.z_len (by decide +kernel) (pa_cons (pv 2) pa_nil)) pa_nil)) (pg_name (i := 6) sc__law_parting.nd rfl (Or.inl rfl))
      (pss_one (ps_if (pt_cmpR (op_neD hr.units) (pe_ix (r := rIxL K) ix_list (pe_ix (r := rIxL K) ix_list (pv 5) pe_int (fun _ _ => rfl)) (pe_ix (r := rIxL K) ix_list (pv 3) (pv 6) (fun _ _ => rfl)) (fun _ _ => rfl)) (pe_ix (r := rIxL K) ix_list (pe_ix (r := rIxL K) ix_list (pv 5) pe_int (fun _ _ => rfl)) (pe_ix (r := rIxL K) ix_list (pv 4) (pv 6) (fun _ _ => rfl)) (fun _ _ => rfl)) (nomark _)) (pss_one (ps_ret (pe_tup (pa_cons (pv 6) pa_nil)))) pss_nil)))
      (pss_cons (ps_for PassesOwn.never rfl (pi_range1 rfl T.z_range (pa_cons (pe_callB (r := rLenQ K) (id := "len") call_len_seq (by rfl) T.z_len (by decide +kernel) (pa_cons (pv 2) pa_nil)) pa_nil)) (pg_name (i := 6) sc__law_parting.nd rfl (Or.inl rfl))
      (pss_one (ps_for PassesOwn.never rfl (pi_range2 rfl T.z_range (pa_cons (pe_op op_add (pv 6) pe_int) (pa_cons (pe_callB (r := rLenQ K) (id := "len") call_len_seq (by rfl) T.z_len (by decide +kernel) (pa_cons (pv 2) pa_nil)) pa_nil))) (pg_name (i := 7) sc__law_parting.nd rfl (Or.inl rfl))
      (pss_one (ps_if (pt_cmpR (op_neD hr.units) (pe_ix (r := rIxL K) ix_list (pe_ix (r := rIxL K) ix_list (pv 5) pe_int (fun _ _ => rfl)) (pe_callB (id := "min") (call_min2 rfl) (by rfl) T.z_min (by decide +kernel) (pa_cons (pe_ix (r := rIxL K) ix_list (pv 3) (pv 6) (fun _ _ => rfl)) (pa_cons (pe_ix (r := rIxL K) ix_list (pv 3) (pv 7) (fun _ _ => rfl)) pa_nil))) (fun _ _ => rfl)) (pe_ix (r := rIxL K) ix_list (pe_ix (r := rIxL K) ix_list (pv 5) pe_int (fun _ _ => rfl)) (pe_callB (id := "min") (call_min2 rfl) (by rfl) T.z_min (by decide +kernel) (pa_cons (pe_ix (r := rIxL K) ix_list (pv 4) (pv 6) (fun _ _ => rfl)) (pa_cons (pe_ix (r := rIxL K) ix_list (pv 4) (pv 7) (fun _ _ => rfl)) pa_nil))) (fun _ _ => rfl)) (nomark _)) (pss_one (ps_ret (pe_tup (pa_cons (pv 6) (pa_cons (pv 7) pa_nil))))) pss_nil)))))
      (pss_one (ps_ret pe_non))))))), ?_⟩
    tm_at "w"
    refine ⟨a, l, P, C1, rfl, h1, hsh, hn, l1, fun r1 H1 s1 hr1 => ?_⟩
    tm_at "w"
    refine ⟨b, l, P, C2, rfl, h2.tk (Same.tk s1), hsh.same s1, hn, l2, fun r2 H2 s2 hr2 => ?_⟩
    have s12 := Same.trans s1 s2
    have hr12 := s2 _ _ hr1
    obtain ⟨c1, hc1, hcl1⟩ := h1.tk (Same.tk s12)
    obtain ⟨c2, hc2, hcl2⟩ := h2.tk (Same.tk s12)
    tm_at "w"
    refine ⟨⟨_, SqT.of hc1⟩, fun D nD => lc_tupF (fun i => C1[i]?.map fun c => V.int c.2) hc1 nD (by rw [hcl1.1]; omega) ?_ ?_⟩
    · intro i x H3 N M hx s3 kN kM
      obtain ⟨p, c, rfl, hc, hp⟩ := hcl1.here hx
      have hp3 := s3 _ _ hp
      tm_at "w"
      exact kN _ _ (by rw [hc]; rfl) (Same.refl H3)
    · intro H3 s3 hD
      rw [hcl1.1, range_items] at hD
      tm_at "w"
      intro n1 nn1
      obtain ⟨H4, e4, s4, hn1⟩ := new_hide (Same.new (o := .lst [.non]) (Same.refl H3) nn1)
      rw [e4]
      have hD4 := s4 _ _ hD
      tm_at "w"
      refine ⟨_, _, _, _, rfl, rfl, hD4, hn1, Nat.le_trans (show _ ≤ 2000 by rw [List.length_map, List.length_singleton]; omega) (by decide), fun L1 nL1 => ?_⟩
      obtain ⟨H5, e5, s5, hL1⟩ := new_hide (Same.new (o := .lst (labsL C1)) (Same.refl H4) nL1)
      show _ 
      rw [show (List.map (fun c => V.int c.2) C1 ++ [V.non]) = labsL C1 from rfl, e5]
      have s25 := Same.trans s3 (Same.trans s4 s5)
      have hc25 := s25 _ _ hc2
      have hcl25 := hcl2.tk (Same.tk s25)
      tm_at "w"
      refine ⟨⟨_, SqT.of hc25⟩, fun D2 nD2 => lc_tupF (fun i => C2[i]?.map fun c => V.int c.2) hc25 nD2 (by rw [hcl2.1]; omega) ?_ ?_⟩
      · intro i x H6 N M hx s6 kN kM
        obtain ⟨p, c, rfl, hc, hp⟩ := hcl25.here hx
        have hp3 := s6 _ _ hp
        tm_at "w"
        exact kN _ _ (by rw [hc]; rfl) (Same.refl H6)
      · intro H6 s6 hD6
        rw [hcl2.1, range_items] at hD6
        tm_at "w"
        intro n2 nn2
        obtain ⟨H7, e7, s7, hn2⟩ := new_hide (Same.new (o := .lst [.non]) (Same.refl H6) nn2)
        rw [e7]
        have hD7 := s7 _ _ hD6
        tm_at "w"
        refine ⟨_, _, _, _, rfl, rfl, hD7, hn2, Nat.le_trans (show _ ≤ 2000 by rw [List.length_map, List.length_singleton]; omega) (by decide), fun L2 nL2 => ?_⟩
        obtain ⟨H8, e8, s8, hL2⟩ := new_hide (Same.new (o := .lst (labsL C2)) (Same.refl H7) nL2)
        rw [show (List.map (fun c => V.int c.2) C2 ++ [V.non]) = labsL C2 from rfl, e8]
        tm_at "w"
        intro LL nLL
        obtain ⟨H9, e9, s9, hLL⟩ := new_hide (Same.new (o := .lst [.ref L1, .ref L2]) (Same.refl H8) nLL)
        rw [e9]
        have hL29 := s9 _ _ hL2
        have hL19 := s9 _ _ (s8 _ _ (s7 _ _ (s6 _ _ hL1)))
        have s29 := Same.trans s25 (Same.trans s6 (Same.trans s7 (Same.trans s8 s9)))
        have s09 := Same.trans s12 s29
        have hr19 := s29 _ _ hr12
        have hr29 := s29 _ _ hr2
        obtain ⟨svs, hsv, hsl, _⟩ := hsh.same s09
        tm_at "w"
        refine for_range (lo := 0) (n := (svs.length : Int).toNat) (fun i σ H' => ∃ u6, σ = [some (.ref a), some (.ref b), some (.ref l), some (.ref r1), some (.ref r2), some (.ref LL), u6, none, none, none] ∧ H' = H9 ∧ ∀ z, z < i → prtB C1 C2 (isA P z) = false) ⟨_, rfl, rfl, fun z hz => absurd hz (Nat.not_lt_zero _)⟩ ?_ ?_
        · rintro x σ H10 hx ⟨u6, rfl, rfl, hno⟩
          rw [Int.zero_add]
          have xl : x < P.length := by omega
          have f1 := natsV_at (frsB_at (Cs := C1) xl)
          have f2 := natsV_at (frsB_at (Cs := C2) xl)
          have g1 := labsL_at (Cs := C1) (f := firstB C1 (isA P x)) List.findIdx_le_length
          have g2 := labsL_at (Cs := C2) (f := firstB C2 (isA P x)) List.findIdx_le_length
          have z0 : ([V.ref L1, V.ref L2] : List V)[0]? = some (.ref L1) := rfl
          have z1 : ([V.ref L1, V.ref L2] : List V)[1]? = some (.ref L2) := rfl
          tm_at "w"
          refine ⟨_, _, dp_optD _, dp_optD _, shaped_optD _, shaped_optD _, ?_⟩
          rw [eqv_optD]
          refine ⟨_, rfl, ?_⟩
          refine iteB (b := prtB C1 C2 (isA P x)) (fun e => ?_) (fun e => ?_)
          · tm_at "w"
            intro t2 nt2
            refine k (.ref t2) _ (Same.new s09 nt2) ?_
            rw [part_one xl e hno]
            exact ⟨t2, rfl, upd_same⟩
          · refine ⟨_, rfl, rfl, fun z hz => ?_⟩
            by_cases g : z = x
            · rw [g]
              exact e
            · exact hno z (by omega)
        · rintro σ H10 ⟨u6, rfl, rfl, hno⟩
          rw [hsl] at hno
          have hno : ∀ z, z < P.length → prtB C1 C2 (isA P z) = false := fun z hz => hno z (by omega)
          tm_at "w"
          refine for_range (lo := 0) (n := (svs.length : Int).toNat) (fun i σ H' => ∃ u6 u7, σ = [some (.ref a), some (.ref b), some (.ref l), some (.ref r1), some (.ref r2), some (.ref LL), u6, u7, none, none] ∧ H' = H10 ∧ ∀ c d, c < d → d < P.length → c < i → prtB C1 C2 (fun k => isA P c k || isA P d k) = false) ⟨_, _, rfl, rfl, fun c d _ _ h => absurd h (Nat.not_lt_zero _)⟩ ?_ ?_
          · rintro x σ H11 hx ⟨u6, u7, rfl, rfl, hn2⟩
            rw [Int.zero_add]
            have xl : x < P.length := by omega
            tm_at "w"
            refine ⟨_, _, rfl, ⟨by omega, by omega, by omega, by omega⟩, ?_⟩
            refine for_range (lo := (x : Int) + 1) (n := ((svs.length : Int) - ((x : Int) + 1)).toNat) (fun i σ H' => ∃ u7, σ = [some (.ref a), some (.ref b), some (.ref l), some (.ref r1), some (.ref r2), some (.ref LL), some (.int (x : Int)), u7, none, none] ∧ H' = H11 ∧ ∀ d, x < d → d < P.length → d < x + 1 + i → prtB C1 C2 (fun k => isA P x k || isA P d k) = false) ⟨_, rfl, rfl, fun d h1 _ h2 => by omega⟩ ?_ ?_
            · rintro i σ H12 hi ⟨u7, rfl, rfl, hn3⟩
              obtain ⟨y, hy⟩ : ∃ y : Nat, (x : Int) + 1 + (i : Int) = (y : Int) := ⟨x + 1 + i, by omega⟩
              rw [hy]
              have yl : y < P.length := by omega
              have f1 := natsV_at (frsB_at (Cs := C1) xl)
              have f2 := natsV_at (frsB_at (Cs := C2) xl)
              have f3 := natsV_at (frsB_at (Cs := C1) yl)
              have f4 := natsV_at (frsB_at (Cs := C2) yl)
              have a1 : firstB C1 (isA P x) ≤ C1.length := List.findIdx_le_length
              have a2 : firstB C2 (isA P x) ≤ C2.length := List.findIdx_le_length
              have g1 := labsL_at (Cs := C1) (f := min (firstB C1 (isA P x)) (firstB C1 (isA P y))) (by omega)
              have g2 := labsL_at (Cs := C2) (f := min (firstB C2 (isA P x)) (firstB C2 (isA P y))) (by omega)
              have z0 : ([V.ref L1, V.ref L2] : List V)[0]? = some (.ref L1) := rfl
              have z1 : ([V.ref L1, V.ref L2] : List V)[1]? = some (.ref L2) := rfl
              tm_at "w"
              refine ⟨_, _, rfl, ?_⟩
              rw [min_if]
              tm_at "w"
              refine ⟨_, _, rfl, ?_⟩
              rw [min_if]
              tm_at "w"
              refine ⟨_, _, dp_optD _, dp_optD _, shaped_optD _, shaped_optD _, ?_⟩
              rw [eqv_optD, ← first_or, ← first_or]
              refine ⟨_, rfl, ?_⟩
              refine iteB (b := prtB C1 C2 (fun k => isA P x k || isA P y k)) (fun e => ?_) (fun e => ?_)
              · tm_at "w"
                intro t2 nt2
                refine k (.ref t2) _ (Same.new s09 nt2) ?_
                rw [part_two (show x < y by omega) yl hno e fun c d hcd hd h => ?_]
                · exact ⟨t2, rfl, upd_same⟩
                · rcases h with h | ⟨h, h'⟩
                  · exact hn2 c d hcd hd h
                  · rw [h]
                    exact hn3 d (by omega) hd (by omega)
              · refine ⟨_, rfl, rfl, fun d h1 h2 h3 => ?_⟩
                by_cases g : d = y
                · rw [g]
                  exact e
                · exact hn3 d h1 h2 (by omega)
            · rintro σ H12 ⟨u7, rfl, rfl, hn3⟩
              refine ⟨_, _, rfl, rfl, fun c d hcd hd hc => ?_⟩
              by_cases g : c = x
              · rw [g]
                exact hn3 d (by omega) hd (by omega)
              · exact hn2 c d hcd hd (by omega)
          · rintro σ H11 ⟨u6, u7, rfl, rfl, hn2⟩
            tm_at "w"
            refine k .non _ s09 ?_
            rw [part_none hno fun c d hcd hd => hn2 c d hcd hd (by omega)]
            rfl
/-! law -/
theorem isA_more {P : List (List Nat)} (hR : RtP P) {q : List Nat} (hq : ∀ z ∈ q, z < P.length) {k : Nat} (hk : k < P.length) : isA (P ++ [q]) P.length k = q.any fun z => isA P z k := by
  have h2 : RtP (P ++ [q]) := hR.snoc hq
  rw [isA_rec h2 (show (P ++ [q])[P.length]? = some q by rw [List.getElem?_append_right (Nat.le_refl _), Nat.sub_self]; rfl), decide_eq_false (show ¬ P.length = k by omega), Bool.false_or]
  have key : ∀ z ∈ q, isA (P ++ [q]) z k = isA P z k := fun z hz => by
    have := isA_take (P := P ++ [q]) (hq z hz) k
    rw [List.take_append_of_le_length (Nat.le_refl _), List.take_length] at this
    exact this.symm
  rw [Bool.eq_iff_iff, List.any_eq_true, List.any_eq_true]
  constructor
  · rintro ⟨z, hz, e⟩
    exact ⟨z, hz, by rw [← key z hz]; exact e⟩
  · rintro ⟨z, hz, e⟩
    exact ⟨z, hz, by rw [key z hz]; exact e⟩
theorem ClsL.drop {H : Hp} {vs : List V} {Cs : List (Nat × Int)} (h : ClsL H vs Cs) (m : Nat) : ClsL H (vs.drop m) (Cs.drop m) := by
  refine ⟨by rw [List.length_drop, List.length_drop, h.1], fun j q hq => ?_⟩
  rw [List.getElem?_drop] at hq ⊢
  exact h.2 _ q hq
theorem ClsL.app {H : Hp} {vs us : List V} {Cs Ds : List (Nat × Int)} (h : ClsL H vs Cs) (g : ClsL H us Ds) : ClsL H (vs ++ us) (Cs ++ Ds) := by
  refine ⟨by rw [List.length_append, List.length_append, h.1, g.1], fun j q hq => ?_⟩
  by_cases hj : j < Cs.length
  · rw [List.getElem?_append_left hj] at hq
    rw [List.getElem?_append_left (by rw [h.1]; exact hj)]
    exact h.2 j q hq
  · rw [List.getElem?_append_right (by omega)] at hq
    rw [List.getElem?_append_right (by rw [h.1]; omega), h.1]
    exact g.2 _ q hq
/-- a part of a tuple of clauses -/
theorem slice_cls {K : PySem.W.Frag} {H : Hp} {a : Addr} {Cs : List (Nat × Int)} {lo hi : Option Int} {Q : VK} (hC : ClsAt H a Cs)
    (k : ∀ p D H', Same H H' → ClsAt H' p D → D.Sublist Cs → Q (.ref p) H') : rSlA K (.ref a) lo hi H Q := by
  obtain ⟨xs, hx, hl⟩ := id hC
  refine ⟨a, xs, rfl, SqT.of hx, fun _ => k a Cs H (Same.refl H) hC (List.Sublist.refl _), fun _ p np => ?_⟩
  have s := Same.new (o := .tup (cutV xs lo hi)) (Same.refl H) np
  refine k p _ _ s ⟨_, upd_same, ((hl.tk (Same.tk s)).drop _).take _⟩ ((List.take_sublist _ _).trans (List.drop_sublist _ _))
theorem cat_cls {K : PySem.W.Frag} {H : Hp} {a b : Addr} {Cs Ds : List (Nat × Int)} {Q : VK} (hC : ClsAt H a Cs) (hD : ClsAt H b Ds) (hl : Cs.length + Ds.length ≤ 1000)
    (k : ∀ p H', Same H H' → ClsAt H' p (Cs ++ Ds) → Q (.ref p) H') : rCatA K (.ref a) (.ref b) H Q := by
  obtain ⟨xs, hx, lx⟩ := id hC
  obtain ⟨ys, hy, ly⟩ := id hD
  refine cat_any hx hy (Nat.le_trans (show _ ≤ 1000 by rw [lx.1, ly.1]; exact hl) (by decide)) fun p H' s hp => ?_
  exact k p H' s ⟨_, hp, (lx.tk (Same.tk s)).app (ly.tk (Same.tk s))⟩
theorem one_cls {H : Hp} {p b : Addr} {c : Nat × Int} (h : H p = some (.tup [.ref b])) (g : H b = some (.tup [.int (c.1 : Int), .int c.2])) : ClsAt H p [c] := ⟨_, h, rfl, fun j d e => by
  cases j with
  | zero => exact ⟨b, rfl, by rw [← Option.some.inj e]; exact g⟩
  | succ j => simp at e⟩
theorem take_cls {K : PySem.W.Frag} {H : Hp} {a : Addr} {Cs : List (Nat × Int)} {m : Nat} {Q : VK} (hC : ClsAt H a Cs)
    (k : ∀ p H', Same H H' → ClsAt H' p (Cs.take m) → Q (.ref p) H') : rSlA K (.ref a) none (some (m : Int)) H Q := by
  obtain ⟨xs, hx, hl⟩ := id hC
  have e0 : HT.sIx xs.length 0 none = 0 := rfl
  have e1 : HT.sIx xs.length xs.length (some (m : Int)) = min m xs.length := HT.sIx_nat ..
  refine ⟨a, xs, rfl, SqT.of hx, fun e => ?_, fun _ p np => ?_⟩
  · rw [e1] at e
    refine k a H (Same.refl H) ?_
    rw [List.take_of_length_le (by have := hl.1; omega)]
    exact hC
  · have s := Same.new (o := .tup (cutV xs none (some (m : Int)))) (Same.refl H) np
    refine k p _ s ⟨_, upd_same, ?_⟩
    have e : cutV xs none (some (m : Int)) = xs.take m := by
      unfold cutV
      rw [e0, e1, List.drop_zero, Nat.sub_zero]
      by_cases g : m ≤ xs.length
      · rw [Nat.min_eq_left g]
      · rw [Nat.min_eq_right (by omega), List.take_length, List.take_of_length_le (by omega)]
    rw [e] at s ⊢
    exact (hl.tk (Same.tk s)).take m
theorem drop_cls {K : PySem.W.Frag} {H : Hp} {a : Addr} {Cs : List (Nat × Int)} {m : Nat} {Q : VK} (hC : ClsAt H a Cs)
    (k : ∀ p H', Same H H' → ClsAt H' p (Cs.drop m) → Q (.ref p) H') : rSlA K (.ref a) (some (m : Int)) none H Q := by
  obtain ⟨xs, hx, hl⟩ := id hC
  have e0 : HT.sIx xs.length xs.length none = xs.length := rfl
  have e1 : HT.sIx xs.length 0 (some (m : Int)) = min m xs.length := HT.sIx_nat ..
  refine ⟨a, xs, rfl, SqT.of hx, fun e => ?_, fun _ p np => ?_⟩
  · rw [e1] at e
    refine k a H (Same.refl H) ?_
    by_cases g : xs = []
    · have : Cs = [] := List.eq_nil_of_length_eq_zero (by rw [← hl.1, g]; rfl)
      rw [this, List.drop_nil, ← this]
      exact hC
    · have := List.length_pos_iff.mpr g
      have z : m = 0 := by omega
      rw [z, List.drop_zero]
      exact hC
  · have s := Same.new (o := .tup (cutV xs (some (m : Int)) none)) (Same.refl H) np
    refine k p _ s ⟨_, upd_same, ?_⟩
    have e : cutV xs (some (m : Int)) none = xs.drop m := by
      unfold cutV
      rw [e0, e1]
      by_cases g : m ≤ xs.length
      · rw [Nat.min_eq_left g, List.take_of_length_le (by rw [List.length_drop]; omega)]
      · rw [Nat.min_eq_right (by omega), Nat.sub_self, List.take_zero, List.drop_eq_nil_of_le (by omega)]
    rw [e] at s ⊢
    exact (hl.tk (Same.tk s)).drop m
/-- the items that a filter lets, each with something of its own -/
theorem lc_rangeFR {lo : Int} {n : Nat} {g : TG} {tt : TT} {te : TE} {vs : List Nat} {σ : St} {H1 : Hp} {D : Addr} {Qd : Hp → Prop} (f : Nat → Bool) (R : Nat → V → Hp → Prop) (st : ∀ i v H H', R i v H → TK H H' → R i v H') (nD : H1 D = none) (hn : n ≤ 100000)
    (hs : ∀ (i : Nat) (H : Hp) (N : V → Hp → Prop) (M : Hp → Prop), i < n → Same H1 H → (f i = true → ∀ v H4, Same H H4 → R i v H4 → N v H4) → (f i = false → ∀ H4, Same H H4 → M H4) → g (.int (lo + (i : Int))) (wipe σ vs) H fun σ2 H2 => wipe σ2 vs = wipe σ vs ∧ tt σ2 H2 fun b H3 => if b = true then te σ2 H3 N else M H3)
    (hd : ∀ H acc, Same H1 H → H D = some (.lst acc) → acc.length = ((List.range n).filter f).length → (∀ (j : Nat) v, acc[j]? = some v → ∃ p, ((List.range n).filter f)[j]? = some p ∧ R p v H) → Qd H) : ∃ W : Nat → Nat → Hp → Prop, (∃ m, W 0 m (upd H1 D (.lst []))) ∧ ∀ i m H, W i m H →
      ((Itr lo n).stop i H ∧ Qd H) ∨ ((Itr lo n).go i H ∧ ∃ Nx : Hp → Prop, (∀ H', Nx H' → ∃ m', m' < m ∧ W (i + 1) m' H') ∧ ∀ x H', (Itr lo n).yld i H x H' → g x (wipe σ vs) H' fun σ2 H2 => wipe σ2 vs = wipe σ vs ∧ tt σ2 H2 fun b H3 =>
        if b = true then te σ2 H3 fun y H4 => ∃ acc, H4 D = some (.lst acc) ∧ acc.length < sizeLine ∧ Nx (upd H4 D (.lst (acc ++ [y]))) else Nx H3) := by
  refine lc_range (lo := lo) (n := n) (fun i H => Same H1 H ∧ ∃ acc, H D = some (.lst acc) ∧ acc.length = ((List.range i).filter f).length ∧ ∀ (j : Nat) v, acc[j]? = some v → ∃ p, ((List.range i).filter f)[j]? = some p ∧ R p v H) ⟨Same.new (Same.refl H1) nD, [], upd_same, rfl, fun j v e => by simp at e⟩ (fun i H hi p => ?_) (fun H p => ?_)
  · obtain ⟨m, acc, hD, hlen, hR⟩ := p
    have il : i < n := hi
    have fl : ((List.range i).filter f).length ≤ i := by
      have := List.length_filter_le f (List.range i)
      rw [List.length_range] at this
      exact this
    have e1 : (List.range (i + 1)).filter f = (List.range i).filter f ++ (if f i = true then [i] else []) := by
      rw [List.range_succ, List.filter_append]
      congr 1
      cases hf : f i <;> simp [hf]
    refine hs i H _ _ hi m (fun hf v H4 m4 r => ⟨acc, m4 _ _ hD, lt_line (by omega), Same.mut (Same.trans m m4) nD, acc ++ [v], upd_same, ?_, fun j u e => ?_⟩) (fun hf H4 m4 => ⟨Same.trans m m4, acc, m4 _ _ hD, ?_, fun j u e => ?_⟩)
    · rw [e1, if_pos hf, List.length_append, List.length_append, hlen]
      rfl
    · have k1 : TK H4 (upd H4 D (.lst (acc ++ [v]))) := TK.mut (m4 _ _ hD)
      rw [e1, if_pos hf]
      by_cases hj : j < acc.length
      · rw [List.getElem?_append_left hj] at e
        obtain ⟨p, h1, h2⟩ := hR j u e
        exact ⟨p, by rw [List.getElem?_append_left (by omega)]; exact h1, st _ _ _ _ (st _ _ _ _ h2 (Same.tk m4)) k1⟩
      · rw [List.getElem?_append_right (by omega)] at e
        have q := (List.getElem?_eq_some_iff.mp e).1
        rw [List.length_singleton] at q
        have hj2 : j = acc.length := by omega
        rw [hj2, Nat.sub_self] at e
        have e2 : v = u := Option.some.inj e
        rw [← e2, hj2]
        exact ⟨i, by rw [List.getElem?_append_right (by omega), hlen, Nat.sub_self]; rfl, st _ _ _ _ r k1⟩
    · rw [e1, hf, if_neg (by decide), List.append_nil]
      exact hlen
    · rw [e1, hf, if_neg (by decide), List.append_nil]
      obtain ⟨p, h1, h2⟩ := hR j u e
      exact ⟨p, h1, st _ _ _ _ h2 (Same.tk m4)⟩
  · obtain ⟨m, acc, hD, hlen, hR⟩ := p
    exact hd H acc m hD hlen hR
theorem lc_enumTR {K : PySem.W.Frag} {a : Addr} {xs : List V} {g : TG} {tt : TT} {te : TE} {vs : List Nat} {σ : St} {H1 : Hp} {D : Addr} {Qd : Hp → Prop} (R : Nat → V → Hp → Prop) (st : ∀ i v H H', R i v H → TK H H' → R i v H') (hx : H1 a = some (.tup xs)) (nD : H1 D = none) (hn : xs.length ≤ 100000)
    (hs : ∀ (i : Nat) (x : V) (Z : Addr) (H : Hp) (N : V → Hp → Prop) (M : Hp → Prop), xs[i]? = some x → Same H1 H → H Z = some (.tup [.int (i : Nat), x]) → (∀ v H4, Same H H4 → R i v H4 → N v H4) → g (.ref Z) (wipe σ vs) H fun σ2 H2 => wipe σ2 vs = wipe σ vs ∧ tt σ2 H2 fun b H3 => if b = true then te σ2 H3 N else M H3)
    (hd : ∀ H acc, Same H1 H → H D = some (.lst acc) → acc.length = xs.length → (∀ (j : Nat) v, acc[j]? = some v → R j v H) → Qd H) : ∃ W : Nat → Nat → Hp → Prop, (∃ m, W 0 m (upd H1 D (.lst []))) ∧ ∀ i m H, W i m H →
      ((IteT K a).stop i H ∧ Qd H) ∨ ((IteT K a).go i H ∧ ∃ Nx : Hp → Prop, (∀ H', Nx H' → ∃ m', m' < m ∧ W (i + 1) m' H') ∧ ∀ x H', (IteT K a).yld i H x H' → g x (wipe σ vs) H' fun σ2 H2 => wipe σ2 vs = wipe σ vs ∧ tt σ2 H2 fun b H3 =>
        if b = true then te σ2 H3 fun y H4 => ∃ acc, H4 D = some (.lst acc) ∧ acc.length < sizeLine ∧ Nx (upd H4 D (.lst (acc ++ [y]))) else Nx H3) := by
  refine ⟨fun i m H => m = xs.length - i ∧ i ≤ xs.length ∧ Same H1 H ∧ ∃ acc, H D = some (.lst acc) ∧ acc.length = i ∧ ∀ (j : Nat) v, acc[j]? = some v → R j v H, ⟨xs.length, rfl, Nat.zero_le _, Same.new (Same.refl H1) nD, [], upd_same, rfl, fun j v e => by simp at e⟩, ?_⟩
  rintro i m H ⟨rfl, hi, s, acc, hD, hlen, hR⟩
  have qx : SqT K H a xs := SqT.of (s _ _ hx)
  by_cases hlt : i < xs.length
  · have ex : xs[i]? = some xs[i] := List.getElem?_eq_getElem hlt
    refine .inr ⟨⟨xs, _, qx, ex⟩, fun H => i < xs.length ∧ Same H1 H ∧ ∃ acc, H D = some (.lst acc) ∧ acc.length = i + 1 ∧ ∀ (j : Nat) v, acc[j]? = some v → R j v H, fun H' p' => ⟨xs.length - (i + 1), by omega, rfl, hlt, p'.2⟩, fun v H' y => ?_⟩
    obtain ⟨Z, x', rfl, hZ, rfl, f1⟩ := y
    have s1 : Same H (upd H Z (.tup [.int (i : Nat), x'])) := Same.new (Same.refl H) hZ
    refine hs i x' Z _ _ _ (f1 xs qx) (s.trans s1) upd_same (fun v H4 s4 r => ⟨acc, s4 _ _ (s1 _ _ hD), lt_line (by omega), hlt, Same.mut ((s.trans s1).trans s4) nD, acc ++ [v], upd_same, by rw [List.length_append, hlen]; rfl, fun j u e => ?_⟩)
    have k1 : TK H4 (upd H4 D (.lst (acc ++ [v]))) := TK.mut (s4 _ _ (s1 _ _ hD))
    by_cases hj : j < acc.length
    · rw [List.getElem?_append_left hj] at e
      exact st _ _ _ _ (st _ _ _ _ (hR j u e) (Same.tk (s1.trans s4))) k1
    · rw [List.getElem?_append_right (by omega)] at e
      have hj2 : j = i := by
        have q := (List.getElem?_eq_some_iff.mp e).1
        rw [List.length_singleton] at q
        omega
      rw [hj2, hlen, Nat.sub_self] at e
      have e2 : v = u := Option.some.inj e
      rw [← e2, hj2]
      exact st _ _ _ _ r k1
  · have e : i = xs.length := by omega
    subst e
    exact .inl ⟨⟨xs, qx, Nat.le_refl _⟩, hd H acc s hD hlen hR⟩
theorem Alk.opt {H : Hp} (n : Nat) : ∀ o : Option Int, Alk H n (optV o) (optV o)
  | none => .non n
  | some i => .int n i
theorem Alk.one {H : Hp} {a b : Addr} {x y : V} {n : Nat} (ha : H a = some (.lst [x])) (hb : H b = some (.lst [y])) (h : Alk H n x y) : Alk H (n + 1) (.ref a) (.ref b) :=
  .lst n a b _ _ ha hb rfl (by show 1 ≤ 100000; decide) fun i u v eu ev => by
    cases i with
    | zero => rw [← Option.some.inj eu, ← Option.some.inj ev]; exact h
    | succ i => simp at eu
theorem part_len {P : List (List Nat)} {C1 C2 : List (Nat × Int)} {q : List Nat} (h : partB P C1 C2 = some q) : 1 ≤ q.length ∧ q.length ≤ 2 := by
  have hp : prtB C1 C2 (lotS P q) = true := List.find?_some (p := fun q => prtB C1 C2 (lotS P q)) h
  have hm := List.mem_of_find?_eq_some h
  obtain ⟨m1, m2⟩ := sortB_mem.mp hm
  have q0 : q ≠ [] := fun e => by
    rw [e, prt_nil] at hp
    cases hp
  refine ⟨List.length_pos_iff.mpr q0, Classical.byContradiction fun no => ?_⟩
  have le : ∀ b ∈ sortB P.length, prtB C1 C2 (lotS P b) = true → le2 q b = true := find_first (le := le2) (fun a => decide_eq_true (.inr ⟨rfl, List.le_refl a⟩)) (sortB_sorted _) h
  have far : ∀ b : List Nat, b.length ≤ 2 → b.Pairwise (· < ·) → (∀ k ∈ b, k < P.length) → prtB C1 C2 (lotS P b) = false := fun b hb h1 h2 => by
    cases e : prtB C1 C2 (lotS P b) with
    | false => rfl
    | true =>
      have := of_decide_eq_true (le b (sortB_mem.mpr ⟨h1, h2⟩) e)
      omega
  have z := part_few (P := P) (C1 := C1) (C2 := C2) (fun x hx => by
    rw [← lotS_one]
    exact far [x] (by show 1 ≤ 2; decide) (List.pairwise_singleton _ _) fun k hk => by rw [List.mem_singleton.mp hk]; exact hx) (fun x y hxy hy => by
    rw [← lotS_two]
    exact far [x, y] (Nat.le_refl 2) (List.pairwise_cons.mpr ⟨fun a ha => by rw [List.mem_singleton.mp ha]; exact hxy, List.pairwise_singleton _ _⟩) fun k hk => by
      rcases List.mem_cons.mp hk with e | e
      · omega
      · rw [List.mem_singleton.mp e]
        exact hy) m2
  rw [z] at hp
  cases hp
theorem OptL.alk {H : Hp} {v w : V} {o : Option (List Nat)} (h : OptL H v o) (g : OptL H w o) (hl : ∀ q, o = some q → q.length ≤ 100000) : Alk H 1 v w := by
  cases o with
  | none =>
    obtain rfl : v = .non := h
    obtain rfl : w = .non := g
    exact .non 1
  | some q =>
    obtain ⟨t, rfl, ht⟩ := h
    obtain ⟨u, rfl, hu⟩ := g
    exact Alk.nats ht hu (hl q rfl)
def optQ : Option (List Nat) → PyData
  | none => .none
  | some q => .tuple (natsD q)
theorem OptL.dp {K : PySem.W.Frag} {H : Hp} {v : V} {o : Option (List Nat)} (h : OptL H v o) : Dp K H v (optQ o) := by
  cases o with
  | none =>
    obtain rfl : v = .non := h
    exact .non
  | some q =>
    obtain ⟨t, rfl, ht⟩ := h
    exact dp_tup ht
theorem shaped_optQ : ∀ o : Option (List Nat), SeqAt.shaped (optQ o) = true
  | none => shaped_optD none
  | some q => nats_shaped q
theorem refl_optQ : ∀ o : Option (List Nat), PyData.eqv (optQ o) (optQ o) = true
  | none => rfl
  | some q => nats_refl q
theorem two_cls {H : Hp} {p b1 b2 : Addr} {c d : Nat × Int} (h : H p = some (.tup [.ref b1, .ref b2])) (g1 : H b1 = some (.tup [.int (c.1 : Int), .int c.2])) (g2 : H b2 = some (.tup [.int (d.1 : Int), .int d.2])) : ClsAt H p [c, d] := ⟨_, h, rfl, fun j x e => by
  match j, e with
  | 0, e => exact ⟨b1, rfl, by rw [← Option.some.inj e]; exact g1⟩
  | 1, e => exact ⟨b2, rfl, by rw [← Option.some.inj e]; exact g2⟩⟩
def sp_law (K : PySem.W.Frag) : Sp := fun vs H Q _ => ∃ (a : Addr) (ns : List Int), vs = [.ref a] ∧ SqL K H a (ns.map V.int) ∧ ns.length ≤ 63 ∧ ∀ H', Q (.bl true) H'
theorem sc_law : FnScope ["_law_script", "_law_hand_here", "_law_many", "_law_parents_here", "_law_sheet_here", "_law_book", "_law_one", "_law_away", "_law_other", "_law_due", "_law_told", "_law_later", "_law_at", "_law_kind", "_law_item"] ["_law_script"] (defScope s_law) := ⟨rfl, rfl, rfl, by decide +kernel, rfl, by decide +kernel, by decide +kernel⟩
theorem ok_law (T : Top K mg) : FnOk P w K mg base CX0 9 T.f_law T.fd_law ["_law_script"] (sp_law K) := by
  have G_Book___init__ := ok_Book___init__ (P := P) (w := w) (base := base) T
  have G__law_clauses := ok__law_clauses (P := P) (w := w) (base := base) T
  have G__law_draw := ok__law_draw (P := P) (w := w) (base := base) T
  have G__law_flag := ok__law_flag (P := P) (w := w) (base := base) T
  have G__law_hand := ok__law_hand (P := P) (w := w) (base := base) T
  have G__law_is := ok__law_is (P := P) (w := w) (base := base) T
  have G__law_parents := ok__law_parents (P := P) (w := w) (base := base) T
  have G__law_parting := ok__law_parting (P := P) (w := w) (base := base) T
  have G__law_sheet := ok__law_sheet (P := P) (w := w) (base := base) T
  have G_alike := ok_alike (P := P) (w := w) (base := base) T
  have G_label_of := ok_label_of (P := P) (w := w) (base := base) T
  have G_loaded := ok_loaded (P := P) (w := w) (base := base) T
  have G_never_met := ok_never_met (P := P) (w := w) (base := base) T
  have G_parting := ok_parting (P := P) (w := w) (base := base) T
  refine T.F_law.ok sc_law (fun vs H Q E h => ?_) (fun cdv A outer s H vs Q E hr h => ?_)
  · obtain ⟨a, ns, rfl, _⟩ := h
    rfl
  · obtain ⟨a, ns, rfl, hS, hlen, k⟩ := h
    refine ⟨_, (pss_cons (ps_set (i := 1) sc_law.nd rfl (Or.inl rfl) (pe_call G__law_hand (hr.mono (by decide)) (by rfl) T.g__law_hand T.F__law_hand.kp T.b__law_hand .nil pass0 (pa_cons (pv 0) pa_nil)))
      (pss_cons (ps_set (i := 2) sc_law.nd rfl (Or.inr rfl) (pe_op op_add pe_int (pe_call G__law_draw (hr.mono (by decide)) (by rfl) T.g__law_draw T.F__law_draw.kp T.b__law_draw .nil pass0 (pa_cons (pv 1) (pa_cons pe_int pa_nil)))))
      (C8.pss_cut (ps_if (pt_cmpR op_eq (pe_call G__law_draw (hr.mono (by decide)) (by rfl) T.g__law_draw T.F__law_draw.kp T.b__law_draw .nil pass0 (pa_cons (pv 1) (pa_cons pe_int pa_nil))) pe_int (nomark _)) (pss_one (ps_set (i := 2) sc_law.nd rfl (Or.inr rfl) (pe_op op_add pe_int (pe_call G__law_draw (hr.mono (by decide)) (by rfl) T.g__law_draw T.F__law_draw.kp T.b__law_draw .nil pass0 (pa_cons (pv 1) (pa_cons pe_int pa_nil)))))) pss_nil)
      (pss_cons (ps_set (i := 3) sc_law.nd rfl (Or.inl rfl) (pe_call G__law_parents (hr.mono (by decide)) (by rfl) T.g__law_parents T.F__law_parents.kp T.b__law_parents .nil pass0 (pa_cons (pv 1) (pa_cons (pv 2) (pa_cons pe_int pa_nil)))))
      (C8.pss_cut (ps_if (pt_cmpR op_eq (pe_call G__law_draw (hr.mono (by decide)) (by rfl) T.g__law_draw T.F__law_draw.kp T.b__law_draw .nil pass0 (pa_cons (pv 1) (pa_cons pe_int pa_nil))) pe_int (nomark _)) (pss_one (ps_set (i := 3) sc_law.nd rfl (Or.inl rfl) (pe_callTy (r := rTupQ K) (T := "tuple") call_tuple_of (by rfl) T.z_tuple (by decide +kernel) (pa_cons (pe_lc (own := [("_law_kind", 13), ("_law_item", 14)]) (tt := tYes) rfl sc_law.nd (pi_enumT (by rfl) T.z_enumerate (pa_cons (pv 3) pa_nil)) (blkOk_by (own := [("_law_kind", 13), ("_law_item", 14)]) (N := ["_law_script", "_law_hand_here", "_law_many", "_law_parents_here", "_law_sheet_here", "_law_book", "_law_one", "_law_away", "_law_other", "_law_due", "_law_told", "_law_later", "_law_at", "_law_kind", "_law_item"]) (sc := defScope s_law) (by decide +kernel)) (fun _ _ _ _ _ => (pg_tupK (K := K) 2 rfl rfl (pgs_cons (pg_name (i := 13) sc_law.nd rfl (Or.inl rfl)) (pgs_cons (pg_name (i := 14) sc_law.nd rfl (Or.inl rfl)) pgs_nil)))) (fun _ _ _ _ _ => pts_nil) (fun _ _ _ _ _ => (pe_ifExp (pt_cmpR op_lt (pv 13) (pe_op op_sub (pv 2) pe_int) (nomark _)) (pe_slice (r := rSlA K) sl_tupA (pv 14) po_none (po_some pe_int)) (pv 14)))) pa_nil)))) pss_nil)
      (pss_cons (ps_set (i := 4) sc_law.nd rfl (Or.inl rfl) (pe_call G__law_sheet (hr.mono (by decide)) (by rfl) T.g__law_sheet T.F__law_sheet.kp T.b__law_sheet .nil pass0 (pa_cons (pv 3) pa_nil)))
      (pss_cons (ps_set (i := 5) sc_law.nd rfl (Or.inl rfl) (pe_make T.M_Book G_Book___init__ (hr.mono (by decide)) (by rfl) T.g_Book T.b_Book___init__ .nil pass0 (pa_cons (pv 3) pa_nil)))
      (pss_cons (ps_set (i := 6) sc_law.nd rfl (Or.inr rfl) (pe_call G__law_clauses (hr.mono (by decide)) (by rfl) T.g__law_clauses T.F__law_clauses.kp T.b__law_clauses .nil pass0 (pa_cons (pv 1) (pa_cons (pv 2) (pa_cons (pe_call G__law_draw (hr.mono (by decide)) (by rfl) T.g__law_draw T.F__law_draw.kp T.b__law_draw .nil pass0 (pa_cons (pv 1) (pa_cons pe_int pa_nil))) pa_nil)))))
      (pss_cons (ps_set (i := 7) sc_law.nd rfl (Or.inr rfl) (pe_call G_never_met (hr.mono (by decide)) (by rfl) T.g_never_met T.F_never_met.kp T.b_never_met .nil pass0 (pa_cons (pv 5) (pa_cons (pv 6) pa_nil))))
      (pss_cons (ps_set (i := 8) sc_law.nd rfl (Or.inl rfl) (pe_callTy (r := rTupQ K) (T := "tuple") call_tuple_of (by rfl) T.z_tuple (by decide +kernel) (pa_cons (pe_lc (own := [("_law_at", 12)]) (g := gName 12) rfl sc_law.nd (pi_range1 rfl T.z_range (pa_cons (pe_callB (r := rLenQ K) (id := "len") call_len_seq (by rfl) T.z_len (by decide +kernel) (pa_cons (pv 6) pa_nil)) pa_nil)) (blkOk_by (own := [("_law_at", 12)]) (N := ["_law_script", "_law_hand_here", "_law_many", "_law_parents_here", "_law_sheet_here", "_law_book", "_law_one", "_law_away", "_law_other", "_law_due", "_law_told", "_law_later", "_law_at", "_law_kind", "_law_item"]) (sc := defScope s_law) (by decide +kernel)) (fun _ _ _ _ _ => (pg_name (i := 12) sc_law.nd rfl (Or.inl rfl))) (fun _ _ _ _ _ => (pts_one (pt_cmpR (r := rIn K true) op_notIn_seq (pv 12) (pv 7) (by rfl)))) (fun _ _ _ _ _ => (pe_ix (r := rIxT K) ix_tup (pv 6) (pv 12) (fun _ _ => rfl)))) pa_nil)))
      (C8.pss_cut (ps_if (PW.pt (pw_and (pt_cmpR op_gt (pe_callB (r := rLenQ K) (id := "len") call_len_seq (by rfl) T.z_len (by decide +kernel) (pa_cons (pv 8) pa_nil)) pe_int (nomark _)) (pw_and1 (pt_cmpR op_eq (pe_call G__law_draw (hr.mono (by decide)) (by rfl) T.g__law_draw T.F__law_draw.kp T.b__law_draw .nil pass0 (pa_cons (pv 1) (pa_cons pe_int pa_nil))) pe_int (nomark _))))) (pss_cons (ps_set (i := 12) sc_law.nd rfl (Or.inl rfl) (pe_call G__law_draw (hr.mono (by decide)) (by rfl) T.g__law_draw T.F__law_draw.kp T.b__law_draw .nil pass0 (pa_cons (pv 1) (pa_cons (pe_op op_sub (pe_callB (r := rLenQ K) (id := "len") call_len_seq (by rfl) T.z_len (by decide +kernel) (pa_cons (pv 8) pa_nil)) pe_int) pa_nil))))
      (pss_one (ps_set (i := 8) sc_law.nd rfl (Or.inl rfl) (pe_op op_catA (pe_op op_catA (pe_slice sl_tupA (pv 8) po_none (po_some (pv 12))) (pe_tup (pa_cons (pe_ix (r := rIxT K) ix_tup (pv 8) (pe_op op_add (pv 12) pe_int) (fun _ _ => rfl)) (pa_cons (pe_ix (r := rIxT K) ix_tup (pv 8) (pv 12) (fun _ _ => rfl)) pa_nil)))) (pe_slice sl_tupA (pv 8) (po_some (pe_op op_add (pv 12) pe_int)) po_none))))) (pss_one (ps_if (PW.pt (pw_and (pt_cmpR op_gt (pe_callB (r := rLenQ K) (id := "len") call_len_seq (by rfl) T.z_len (by decide +kernel) (pa_cons (pv 8) pa_nil)) pe_int (nomark _)) (pw_and1 (pt_cmpR op_eq (pe_call G__law_draw (hr.mono (by decide)) (by rfl) T.g__law_draw T.F__law_draw.kp T.b__law_draw .nil pass0 (pa_cons (pv 1) (pa_cons pe_int pa_nil))) pe_int (nomark _))))) (pss_cons (ps_set (i := 12) sc_law.nd rfl (Or.inl rfl) (pe_call G__law_draw (hr.mono (by decide)) (by rfl) T.g__law_draw T.F__law_draw.kp T.b__law_draw .nil pass0 (pa_cons (pv 1) (pa_cons (pe_callB (r := rLenQ K) (id := "len") call_len_seq (by rfl) T.z_len (by decide +kernel) (pa_cons (pv 8) pa_nil)) pa_nil))))
      (pss_one (ps_set (i := 8) sc_law.nd rfl (Or.inl rfl) (pe_op op_catA (pe_op op_catA (pe_slice sl_tupA (pv 8) po_none (po_some (pv 12))) (pe_tup (pa_cons (pe_tup (pa_cons (pe_ix (r := rIxT K) ix_tup (pe_ix (r := rIxT K) ix_tup (pv 8) (pv 12) (fun _ _ => rfl)) pe_int (fun _ _ => rfl)) (pa_cons (pe_op op_add (pe_ix (r := rIxT K) ix_tup (pe_ix (r := rIxT K) ix_tup (pv 8) (pv 12) (fun _ _ => rfl)) pe_int (fun _ _ => rfl)) pe_int) pa_nil))) pa_nil))) (pe_slice sl_tupA (pv 8) (po_some (pe_op op_add (pv 12) pe_int)) po_none))))) pss_nil)))
      (pss_cons (ps_set (i := 9) sc_law.nd rfl (Or.inl rfl) (pe_call G__law_parting (hr.mono (by decide)) (by rfl) T.g__law_parting T.F__law_parting.kp T.b__law_parting .nil pass0 (pa_cons (pv 6) (pa_cons (pv 8) (pa_cons (pv 4) pa_nil)))))
      (pss_cons (ps_set (i := 10) sc_law.nd rfl (Or.inl rfl) (pe_call G_parting (hr.mono (by decide)) (by rfl) T.g_parting T.F_parting.kp T.b_parting .nil pass0 (pa_cons (pv 5) (pa_cons (pv 6) (pa_cons (pv 8) pa_nil)))))
      (pss_cons (ps_if (PW.pt (pw_or (pt_not (pt_val (pe_call G__law_is (hr.mono (by decide)) (by rfl) T.g__law_is T.F__law_is.kp T.b__law_is .nil pass0 (pa_cons (pe_lst (pa_cons (pv 10) pa_nil)) (pa_cons (pe_lst (pa_cons (pv 9) pa_nil)) pa_nil))))) (pw_or1 (pt_not (pt_val (pe_call G__law_flag (hr.mono (by decide)) (by rfl) T.g__law_flag T.F__law_flag.kp T.b__law_flag .nil pass0 (pa_cons (pe_call G_alike (hr.mono (by decide)) (by rfl) T.g_alike T.F_alike.kp T.b_alike .nil pass0 (pa_cons (pv 5) (pa_cons (pv 6) (pa_cons (pv 8) pa_nil)))) (pa_cons (pe_cmpR op_isN (pv 9) pe_non (nomark _)) pa_nil)))))))) (pss_one (ps_ret pe_bl)) pss_nil)
      (pss_cons (ps_if (pt_cmpR op_isN (pv 9) pe_non (nomark _)) (pss_one (ps_ret pe_bl)) pss_nil)
      (pss_cons (ps_set (i := 11) sc_law.nd rfl (Or.inl rfl) (pe_call G_loaded hr (by rfl) T.g_loaded T.F_loaded.kp T.b_loaded .nil pass0 (pa_cons (pv 5) (pa_cons (pv 9) pa_nil))))
      (pss_one (ps_ret (pe_cmpR (op_neD hr.units) (pe_call G_label_of (hr.mono (by decide)) (by rfl) T.g_label_of T.F_label_of.kp T.b_label_of .nil pass0 (pa_cons (pv 11) (pa_cons (pv 6) (pa_cons (pv 2) pa_nil)))) (pe_call G_label_of (hr.mono (by decide)) (by rfl) T.g_label_of T.F_label_of.kp T.b_label_of .nil pass0 (pa_cons (pv 11) (pa_cons (pv 8) (pa_cons (pv 2) pa_nil)))) (nomark _)))))))))))))))))))), ?_⟩
    have cB := T.cl_Book
    have nB1 := T.n_Book_parents
    have nB2 := T.n_Book_bits
    tm_at "w"
    refine ⟨a, ns, rfl, hS, hlen, fun τ H1 s1 _ m1 => ?_⟩
    tm_at "w"
    refine ⟨τ, _, rfl, m1, by decide, by decide, fun r H2 m2 h0 h1 => ?_⟩
    obtain ⟨n0, hn0⟩ : ∃ n : Nat, 30 + r = (n : Int) := ⟨(30 + r).toNat, by omega⟩
    refine ⟨_, _, rfl, rfl, ?_⟩
    show gName 2 (V.int (30 + r)) _ _ _
    rw [hn0]
    refine ⟨fun σ H' => ∃ (n : Nat), σ = [some (.ref a), some (.ref τ.t), some (.int (n : Int)), none, none, none, none, none, none, none, none, none, none, none, none] ∧ Tape τ H' ∧ 30 ≤ n ∧ n ≤ 400, ?_, ?_⟩
    · tm_at "w"
      refine ⟨τ, _, rfl, m2.now, by decide, by decide, fun r3 H3 m3 _ _ => ?_⟩
      tm_at "w"
      refine iteI (fun _ => ?_) (fun _ => ?_)
      · tm_at "w"
        refine ⟨τ, _, rfl, m3.now, by decide, by decide, fun r4 H4 m4 g0 g1 => ?_⟩
        obtain ⟨n4, hn4⟩ : ∃ n : Nat, 300 + r4 = (n : Int) := ⟨(300 + r4).toNat, by omega⟩
        tm_at "w"
        exact ⟨n4, by rw [← hn4]; rfl, m4.now, by omega, by omega⟩
      · exact ⟨n0, rfl, m3.now, by omega, by omega⟩
    rintro σ H3 ⟨n, rfl, m3, nlo, nhi⟩
    tm_at "w"
    refine ⟨τ, n, 3, rfl, m3, by omega, by decide, fun pa0 P0 H4 m4 hP0 ok0 hPl0 => ?_⟩
    tm_at "w"
    refine ⟨fun σ H' => ∃ (pa : Addr) (P : List (List Nat)) (u13 u14 : Option V), σ = [some (.ref a), some (.ref τ.t), some (.int (n : Int)), some (.ref pa), none, none, none, none, none, none, none, none, none, u13, u14] ∧ Tape τ H' ∧ ParAt H' pa P ∧ OkP P ∧ P.length = n, ?_, ?_⟩
    · tm_at "w"
      refine ⟨τ, _, rfl, m4.now, by decide, by decide, fun r5 H5 m5 _ _ => ?_⟩
      have hP5 := hP0.tk m5.tk
      obtain ⟨ps, hps, hpl⟩ := id hP5
      tm_at "w"
      refine iteI (fun _ => ?_) (fun _ => ?_)
      · tm_at "w"
        have pl := hpl.1
        refine ⟨_, _, rfl, SqT.of hps, fun D nD => lc_enumTR (fun i v H => RowR i v H) (fun _ _ _ _ h k => h.tk k) hps nD (by omega) ?_ ?_⟩
        · intro i x Z H6 N M hx s6 hZ kN
          obtain ⟨ai, q, rfl, hq, hai⟩ := hpl.here hx
          have okq := ok0.ok i q hq
          have hai6 := s6 _ _ hai
          tm_at "w"
          refine iteD (fun z => ?_) (fun z => ?_)
          · unfold tNoPart
            tm_at "w"
            cases q with
            | nil => exact ⟨ai, [], rfl, SqT.of hai6, fun _ => kN _ _ (Same.refl _) ⟨ai, [], rfl, hai6, okq⟩, fun ne => absurd ⟨rfl, rfl⟩ ne⟩
            | cons x r =>
              refine slice_any (m := 1) hai6 (by rw [natsV_len, List.length_cons]; omega) fun p H7 s7 hp => ?_
              exact kN _ _ s7 ⟨p, [x], rfl, hp, List.pairwise_singleton _ _, fun y hy => okq.lt y (by rw [List.mem_singleton.mp hy]; exact List.mem_cons_self), by show 1 ≤ 6; decide⟩
          · tm_at "w"
            exact kN _ _ (Same.refl _) ⟨ai, q, rfl, hai6, okq⟩
        · intro H6 acc s6 hD hlen hR
          obtain ⟨P, hP, ok, hPl⟩ := rows_of (n := n) (by omega) (by omega) hR
          tm_at "w"
          intro t nt
          have s7 := Same.new (o := .tup acc) (Same.refl H6) nt
          exact ⟨t, P, _, _, rfl, (m5.now.same s6).same s7, ⟨acc, upd_same, hP.tk (Same.tk s7)⟩, ok, hPl⟩
      · exact ⟨pa0, P0, _, _, rfl, m5.now, hP5, ok0, hPl0⟩
    rintro σ H5 ⟨pa, P, u13, u14, rfl, t5, hP, ok, hPl⟩
    tm_at "w"
    refine ⟨pa, P, rfl, hP, ok, by omega, fun sl H6 s6 nsl hsh => ?_⟩
    have t6 := t5.same s6
    have nslt : sl ≠ τ.t := t5.mv.neN nsl.e
    tm_at "w"
    refine mk_book (hP.tk (Same.tk s6)) ok fun b H7 mk _ => ?_
    have t7 := t6.same mk.same
    have nlb : b.lb ≠ τ.t := t6.mv.neN mk.nl.e
    have hb7 := mk.here
    have hsh7 := hsh.same mk.same
    tm_at "w"
    refine ⟨τ, _, rfl, t7, by decide, by decide, fun m H8 m8 h8 h8' => ?_⟩
    obtain ⟨m, rfl⟩ : ∃ n : Nat, m = n := ⟨m.toNat, by omega⟩
    tm_at "w"
    refine ⟨τ, n, m, rfl, m8.now, by omega, by omega, fun ca Cs H9 m9 hC hk _ hCl => ?_⟩
    have m79 := m8.trans m9
    have hb9 := hb7.mv m79 nlb
    have hsh9 := hsh7.mv m79 nslt
    have t9 := m9.now
    rw [← hPl] at hk
    tm_at "w"
    refine ⟨b, P, ca, Cs, rfl, hb9, hC, by omega, hk, fun u H10 s10 hu => ?_⟩
    have hC10 := hC.tk (Same.tk s10)
    have hb10 := hb9.same s10
    have hsh10 := hsh9.same s10
    have t10 := t9.same s10
    obtain ⟨cs10, hc10, hcl10⟩ := id hC10
    have hcl0 := hcl10.1
    tm_at "w"
    rw [hcl0]
    intro D3 nD3
    refine lc_rangeFR (fun j => !nevP P Cs j) (fun j v H => ∃ b, v = .ref b ∧ H b = some (.tup [.int (((Cs.getD j (0, 0)).1 : Nat) : Int), .int (Cs.getD j (0, 0)).2])) (fun i v H H' h k => by
      obtain ⟨b, h1, h2⟩ := h
      exact ⟨b, h1, k _ _ h2⟩) nD3 (by omega) ?_ ?_
    · intro j H17 N M hj s17 kN kM
      rw [Int.zero_add]
      have jl : j < Cs.length := by omega
      have hu17 := s17 _ _ hu
      have hc17 := s17 _ _ hc10
      obtain ⟨b2, e2, g2⟩ := hcl10.2 j _ (List.getElem?_eq_getElem jl)
      have g2 := s17 _ _ g2
      have em : decide (j ∈ nevB P Cs) = nevP P Cs j := by
        rw [Bool.eq_iff_iff, decide_eq_true_eq]
        unfold nevB
        rw [List.mem_filter, List.mem_range]
        exact ⟨fun h => h.2, fun h => ⟨jl, h⟩⟩
      have eg : Cs.getD j (0, 0) = Cs[j] := by rw [List.getD_eq_getElem?_getD, List.getElem?_eq_getElem jl]; rfl
      tm_at "w"
      refine ⟨flat_nats _, ?_⟩
      refine ⟨_, rfl, ?_⟩
      rw [inV_nats, em]
      cases e : nevP P Cs j with
      | true =>
        refine iteEF (by rfl) ?_
        exact kM (by rw [e]; rfl) _ (Same.refl H17)
      | false =>
        refine iteET (by rfl) ?_
        tm_at "w"
        exact kN (by rw [e]; rfl) _ _ (Same.refl H17) ⟨b2, rfl, by rw [eg]; exact g2⟩
    · intro H17 acc s17 hD3 hlen3 hR3
      rw [Int.toNat_natCast] at hlen3 hR3
      have hcl : ClsL H17 acc (leftB P Cs) := by
        unfold leftB
        refine ⟨by rw [List.length_map]; exact hlen3, fun j c e => ?_⟩
        rw [List.getElem?_map] at e
        have jl : j < acc.length := by
          by_cases g : j < ((List.range Cs.length).filter fun i => !nevP P Cs i).length
          · omega
          · rw [List.getElem?_eq_none (by omega)] at e
            cases e
        obtain ⟨p, h1, b, h2, h3⟩ := hR3 j _ (List.getElem?_eq_getElem jl)
        rw [h1] at e
        have e : Cs.getD p (0, 0) = c := Option.some.inj e
        rw [e] at h3
        exact ⟨b, by rw [List.getElem?_eq_getElem jl, h2], h3⟩
      have ll := left_len P Cs
      have lk : ∀ c ∈ leftB P Cs, c.1 < P.length := fun c hc => hk c (left_mem c hc)
      tm_at "w"
      intro t3 nt3
      obtain ⟨H18, e18, s18, ht3⟩ := new_hide (Same.new (o := .tup acc) (Same.refl H17) nt3)
      rw [e18]
      have hL18 : ClsAt H18 t3 (leftB P Cs) := ⟨acc, ht3, hcl.tk (Same.tk s18)⟩
      have s1018 := Same.trans s17 s18
      have t18 := t10.same s1018
      have m9 := t9.mv.same (Same.trans s10 s1018)
      refine ⟨fun σ H' => ∃ (ta : Addr) (C2 : List (Nat × Int)) (u12 : Option V), σ = [some (.ref a), some (.ref τ.t), some (.int (n : Int)), some (.ref pa), some (.ref sl), some (.ref b.b), some (.ref ca), some (.ref u), some (.ref ta), none, none, none, u12, u13, u14] ∧ Mv τ H10 H' ∧ ClsAt H' ta C2 ∧ (∀ c ∈ C2, c.1 < P.length) ∧ C2.length ≤ 40, ?_, ?_⟩
      · have m0 : Mv τ H10 H18 := t10.mv.same s1018
        obtain ⟨cs, hcs, hcl⟩ := id hL18
        have hcn := hcl.1
        tm_at "w"
        refine iteD (fun z => ?_) (fun z => ?_)
        tm_at "w"
        refine ⟨τ, _, rfl, t18, by decide, by decide, fun r19 H20 m19 _ _ => ?_⟩
        tm_at "w"
        refine iteI (fun _ => ?_) (fun _ => ?_)
        · have hcs20 := m19.tk _ _ hcs
          have hcl20 := hcl.tk m19.tk
          tm_at "w"
          refine ⟨τ, _, rfl, m19.now, by omega, Int.lt_of_le_of_lt (show _ ≤ (40 : Int) by omega) (by decide), fun d H21 m21 d0 d1 => ?_⟩
          obtain ⟨d, rfl⟩ : ∃ n : Nat, d = n := ⟨d.toNat, by omega⟩
          have dl : d + 1 < (leftB P Cs).length := by omega
          have m11 := (m0.trans m19).trans m21
          have hL21 := (hL18.tk m19.tk).tk m21.tk
          unfold tNoPart
          tm_at "w"
          refine take_cls (m := d) hL21 fun q1 H22 s22 hD1 => ?_
          have sub1 := List.take_sublist d (leftB P Cs)
          have ld1 : ((leftB P Cs).take d).length = d := by rw [List.length_take]; omega
          have hL22 := hL21.tk (Same.tk s22)
          obtain ⟨cs2, hcs2, hcl2⟩ := id hL22
          obtain ⟨b0, e0, g0⟩ := hcl2.2 d _ (List.getElem?_eq_getElem (by omega))
          obtain ⟨b1, e1, g1⟩ := hcl2.2 (d + 1) _ (List.getElem?_eq_getElem dl)
          tm_at "w"
          intro q2 nq2
          obtain ⟨H23, e23, s23, hq2⟩ := new_hide (Same.new (o := .tup [.ref b1, .ref b0]) (Same.refl H22) nq2)
          rw [e23]
          refine cat_cls (hD1.tk (Same.tk s23)) (two_cls hq2 (s23 _ _ g1) (s23 _ _ g0)) (by have := sub1.length_le; show _ + 2 ≤ 1000; omega) fun q3 H24 s24 hq3 => ?_
          have s2224 := Same.trans s23 s24
          tm_at "w"
          refine drop_cls (m := d + 2) (hL22.tk (Same.tk s2224)) fun q4 H25 s25 hD2 => ?_
          have sub2 := List.drop_sublist (d + 2) (leftB P Cs)
          have ld2 : ((leftB P Cs).drop (d + 2)).length = (leftB P Cs).length - (d + 2) := List.length_drop
          have l1 := sub1.length_le
          have l2 := sub2.length_le
          refine cat_cls (hq3.tk (Same.tk s25)) hD2 (by rw [List.length_append]; show _ + 2 + _ ≤ 1000; omega) fun q5 H26 s26 hq5 => ?_
          have k0 := lk _ (List.getElem_mem (show d < (leftB P Cs).length by omega))
          have k1 := lk _ (List.getElem_mem dl)
          refine ⟨q5, _, _, rfl, m11.same (Same.trans s22 (Same.trans s2224 (Same.trans s25 s26))), hq5, fun c hc => ?_, by rw [List.length_append, List.length_append]; show _ + 2 + _ ≤ 40; omega⟩
          rcases List.mem_append.mp hc with h | h
          · rcases List.mem_append.mp h with h | h
            · exact lk c (sub1.subset h)
            · rcases List.mem_cons.mp h with h | h
              · rw [h]
                exact k1
              · rw [List.mem_singleton.mp h]
                exact k0
          · exact lk c (sub2.subset h)
        have m20 := m0.trans m19
        have hL20 := hL18.tk m19.tk
        clear m19
        rotate_left
        have m20 := m0
        have hL20 := hL18
        clear s18 m0 m9
        generalize H18 = H20 at *
        rotate_left
        all_goals
          clear hcl hcs z
          obtain ⟨cs0, hcs0, hcl0⟩ := id hL20
          have hcn0 := hcl0.1
          tm_at "w"
          refine iteD (fun z => ?_) (fun z => ?_)
          · tm_at "w"
            refine ⟨τ, _, rfl, m20.now, by decide, by decide, fun r22 H22 m22 _ _ => ?_⟩
            have hcs2 := m22.tk _ _ hcs0
            tm_at "w"
            refine iteI (fun _ => ?_) (fun _ => ?_)
            · tm_at "w"
              refine ⟨τ, _, rfl, m22.now, by omega, Int.lt_of_le_of_lt (show _ ≤ (40 : Int) by omega) (by decide), fun d H23 m23 d0 d1 => ?_⟩
              obtain ⟨d, rfl⟩ : ∃ n : Nat, d = n := ⟨d.toNat, by omega⟩
              have dl : d < (leftB P Cs).length := by omega
              have m13 := (m20.trans m22).trans m23
              have hL23 := (hL20.tk m22.tk).tk m23.tk
              unfold tNoPart
              tm_at "w"
              refine take_cls (m := d) hL23 fun q1 H24 s24 hD1 => ?_
              have sub1 := List.take_sublist d (leftB P Cs)
              have ld1 : ((leftB P Cs).take d).length = d := by rw [List.length_take]; omega
              have hL24 := hL23.tk (Same.tk s24)
              obtain ⟨cs2, hcs2, hcl2⟩ := id hL24
              obtain ⟨b0, e0, g0⟩ := hcl2.2 d _ (List.getElem?_eq_getElem dl)
              tm_at "w"
              intro q2 nq2
              tm_at "w"
              intro q3 nq3
              have s25 : Same H24 (upd (upd H24 q2 (.tup [.int ((leftB P Cs)[d].1 : Int), .int ((leftB P Cs)[d].2 + 1)])) q3 (.tup [.ref q2])) := Same.new (Same.new (Same.refl H24) nq2) nq3
              have hq2 := (Same.new (o := .tup [.ref q2]) (Same.refl _) nq3) _ _ (upd_same (H := H24) (a := q2) (o := .tup [.int ((leftB P Cs)[d].1 : Int), .int ((leftB P Cs)[d].2 + 1)]))
              obtain ⟨H25, e25, s25, hq3⟩ := new_hide s25
              rw [e25] at hq2 ⊢
              refine cat_cls (hD1.tk (Same.tk s25)) (one_cls (c := ((leftB P Cs)[d].1, (leftB P Cs)[d].2 + 1)) hq3 hq2) (by have := sub1.length_le; show _ + 1 ≤ 1000; omega) fun q4 H26 s26 hq4 => ?_
              have s2426 := Same.trans s25 s26
              tm_at "w"
              refine drop_cls (m := d + 1) (hL24.tk (Same.tk s2426)) fun q5 H27 s27 hD2 => ?_
              have sub2 := List.drop_sublist (d + 1) (leftB P Cs)
              have ld2 : ((leftB P Cs).drop (d + 1)).length = (leftB P Cs).length - (d + 1) := List.length_drop
              have l1 := sub1.length_le
              have l2 := sub2.length_le
              refine cat_cls (hq4.tk (Same.tk s27)) hD2 (by rw [List.length_append]; show _ + 1 + _ ≤ 1000; omega) fun q6 H28 s28 hq6 => ?_
              have k0 := lk _ (List.getElem_mem dl)
              refine ⟨q6, _, _, rfl, m13.same (Same.trans s24 (Same.trans s2426 (Same.trans s27 s28))), hq6, fun c hc => ?_, ?_⟩
              · rcases List.mem_append.mp hc with h | h
                · rcases List.mem_append.mp h with h | h
                  · exact lk c (sub1.subset h)
                  · rw [List.mem_singleton.mp h]
                    exact k0
                · exact lk c (sub2.subset h)
              · rw [List.length_append, List.length_append]
                show _ + 1 + _ ≤ 40
                omega
            · exact ⟨t3, leftB P Cs, _, rfl, m20.trans m22, hL20.tk m22.tk, lk, by omega⟩
          · exact ⟨t3, leftB P Cs, _, rfl, m20, hL20, lk, by omega⟩
      rintro σ H19 ⟨ta, C2, u12, rfl, m19, hC2, hk2, hl2⟩
      have hC19 := hC10.tk m19.tk
      have hb19 := hb10.mv m19 nlb
      have hsh19 := hsh10.mv m19 nslt
      have t19 := m19.now
      clear m19
      tm_at "w"
      refine ⟨ca, ta, sl, P, Cs, C2, rfl, hC19, hC2, hsh19, by omega, by omega, by omega, fun dv H20 s20 hdv => ?_⟩
      have hC20 := hC19.tk (Same.tk s20)
      have hC220 := hC2.tk (Same.tk s20)
      have hb20 := hb19.same s20
      tm_at "w"
      refine ⟨b, P, ca, ta, Cs, C2, rfl, hb20, hC20, hC220, by omega, by omega, hl2, hk, hk2, fun v H21 s21 hv => ?_⟩
      tm_at "w"
      intro p1 np1
      have s22 := Same.new (o := .lst [v]) (Same.refl H21) np1
      have hp1 := upd_same (H := H21) (a := p1) (o := .lst [v])
      tm_at "w"
      intro p2 np2
      obtain ⟨H23, e23, s23, hp2⟩ := new_hide (Same.new (o := .lst [dv]) s22 np2)
      have hp13 : H23 p1 = some (.lst [v]) := by
        rw [← e23]
        exact (upd_ne (ne_of_none hp1 np2)).trans hp1
      rw [e23]
      have s2023 := Same.trans s21 s23
      refine ⟨.ref p1, .ref p2, rfl, Alk.one hp13 hp2 ((hv.tk (Same.tk s23)).alk (hdv.tk (Same.tk s2023)) fun q e => by have := part_len e; omega), fun H24 s24 => ?_⟩
      have s2024 := Same.trans s2023 s24
      have hb24 := hb20.same s2024
      have hC24 := hC20.tk (Same.tk s2024)
      have hC224 := hC220.tk (Same.tk s2024)
      cases ep : partB P Cs C2 with
      | none =>
        rw [ep] at hdv
        obtain rfl : dv = .non := hdv
        tm_at "w"
        refine ⟨b, P, ca, ta, Cs, C2, rfl, hb24, hC24, hC224, by omega, by omega, hl2, hk, hk2, fun H25 s25 => ?_⟩
        rw [ep]
        tm_at "w"
        exact k _
      | some q =>
        have pl := part_len ep
        rw [ep] at hdv
        obtain ⟨t, rfl, ht⟩ := hdv
        have ht24 := s2024 _ _ ht
        have hp : prtB Cs C2 (lotS P q) = true := List.find?_some (p := fun q => prtB Cs C2 (lotS P q)) ep
        obtain ⟨q1, q2⟩ := sortB_mem.mp (List.mem_of_find?_eq_some ep)
        tm_at "w"
        refine ⟨b, P, ca, ta, Cs, C2, rfl, hb24, hC24, hC224, by omega, by omega, hl2, hk, hk2, fun H25 s25 => ?_⟩
        rw [ep]
        have ht25 := s25 _ _ ht24
        tm_at "w"
        refine ⟨b, t, P, q, rfl, hb24.same s25, ht25, ⟨q1, q2, by omega⟩, by omega, fun b2 H26 mk2 => ?_⟩
        have s2426 := Same.trans s25 mk2.same
        have up : ∀ {C : List (Nat × Int)}, (∀ c ∈ C, c.1 < P.length) → ∀ c ∈ C, c.1 < (P ++ [q]).length := fun {C} h c hc => by
          have := h c hc
          rw [List.length_append, List.length_singleton]
          omega
        have same : ∀ {C : List (Nat × Int)}, (∀ c ∈ C, c.1 < P.length) → labB C (isA (P ++ [q]) n) = labB C (lotS P q) := fun {C} h => labB_congr fun c hc => by
          rw [← hPl, isA_more ok.rt q2 (h c hc)]
          rfl
        tm_at "w"
        refine ⟨b2, P ++ [q], ca, Cs, n, rfl, mk2.here, hC24.tk (Same.tk s2426), by omega, up hk, by rw [List.length_append, List.length_singleton]; omega, fun H27 s27 => ?_⟩
        rw [same hk]
        tm_at "w"
        refine ⟨b2, P ++ [q], ta, C2, n, rfl, mk2.here.same s27, hC224.tk (Same.tk (Same.trans s2426 s27)), by omega, up hk2, by rw [List.length_append, List.length_singleton]; omega, fun H28 s28 => ?_⟩
        rw [same hk2]
        refine ⟨_, _, dp_optD _, dp_optD _, shaped_optD _, shaped_optD _, ?_⟩
        rw [eqv_optD]
        have e : (!decide (labB Cs (lotS P q) = labB C2 (lotS P q))) = true := hp
        rw [e]
        exact k _
end
theorem all_mk {l : PySem.W.OpenLaw} {w : World} {K : PySem.W.Frag} {h : Heap} {mg : Str → Option Value} {fa : Addr} (X : K.In h) (G : h.Ns mainGlobals mg) (hfa : mg "law" = some (.ref fa))
    {t_MOST_CLAUSES : Tok}
    {t_MOST_PARENTS : Tok}
    {t_MOST_KINDS : Tok}
    {C_Book : Addr}
    {od0 an0 : Option Addr} {sl0 : Array (Option Value)} {oc0 kV0 dc0 pm0 cd0 ct0 : Value} {f0 : Addr}
    {od1 an1 : Option Addr} {sl1 : Array (Option Value)} {oc1 kV1 dc1 pm1 cd1 ct1 : Value} {f1 : Addr}
    {od2 an2 : Option Addr} {sl2 : Array (Option Value)} {oc2 kV2 dc2 pm2 cd2 ct2 : Value} {f2 : Addr}
    {od3 an3 : Option Addr} {sl3 : Array (Option Value)} {oc3 kV3 dc3 pm3 cd3 ct3 : Value} {f3 : Addr}
    {od4 an4 : Option Addr} {sl4 : Array (Option Value)} {oc4 kV4 dc4 pm4 cd4 ct4 : Value} {f4 : Addr}
    {od5 an5 : Option Addr} {sl5 : Array (Option Value)} {oc5 kV5 dc5 pm5 cd5 ct5 : Value} {f5 : Addr}
    {od6 an6 : Option Addr} {sl6 : Array (Option Value)} {oc6 kV6 dc6 pm6 cd6 ct6 : Value} {f6 : Addr}
    {od7 an7 : Option Addr} {sl7 : Array (Option Value)} {oc7 kV7 dc7 pm7 cd7 ct7 : Value} {f7 : Addr}
    {od8 an8 : Option Addr} {sl8 : Array (Option Value)} {oc8 kV8 dc8 pm8 cd8 ct8 : Value} {f8 : Addr}
    {od9 an9 : Option Addr} {sl9 : Array (Option Value)} {oc9 kV9 dc9 pm9 cd9 ct9 : Value} {f9 : Addr}
    {od10 an10 : Option Addr} {sl10 : Array (Option Value)} {oc10 kV10 dc10 pm10 cd10 ct10 : Value} {f10 : Addr}
    {od11 an11 : Option Addr} {sl11 : Array (Option Value)} {oc11 kV11 dc11 pm11 cd11 ct11 : Value} {f11 : Addr}
    {od12 an12 : Option Addr} {sl12 : Array (Option Value)} {oc12 kV12 dc12 pm12 cd12 ct12 : Value} {f12 : Addr}
    {od13 an13 : Option Addr} {sl13 : Array (Option Value)} {oc13 kV13 dc13 pm13 cd13 ct13 : Value} {f13 : Addr}
    {od14 an14 : Option Addr} {sl14 : Array (Option Value)} {oc14 kV14 dc14 pm14 cd14 ct14 : Value} {f14 : Addr}
    {od15 an15 : Option Addr} {sl15 : Array (Option Value)} {oc15 kV15 dc15 pm15 cd15 ct15 : Value} {f15 : Addr}
    {od16 an16 : Option Addr} {sl16 : Array (Option Value)} {oc16 kV16 dc16 pm16 cd16 ct16 : Value} {f16 : Addr}
    {od17 an17 : Option Addr} {sl17 : Array (Option Value)} {oc17 kV17 dc17 pm17 cd17 ct17 : Value} {f17 : Addr}
    {od18 an18 : Option Addr} {sl18 : Array (Option Value)} {oc18 kV18 dc18 pm18 cd18 ct18 : Value} {f18 : Addr}
    {od19 an19 : Option Addr} {sl19 : Array (Option Value)} {oc19 kV19 dc19 pm19 cd19 ct19 : Value} {f19 : Addr}
    {od20 an20 : Option Addr} {sl20 : Array (Option Value)} {oc20 kV20 dc20 pm20 cd20 ct20 : Value} {f20 : Addr}
    {od21 an21 : Option Addr} {sl21 : Array (Option Value)} {oc21 kV21 dc21 pm21 cd21 ct21 : Value} {f21 : Addr}
    {od22 an22 : Option Addr} {sl22 : Array (Option Value)} {oc22 kV22 dc22 pm22 cd22 ct22 : Value} {f22 : Addr}
    {od23 an23 : Option Addr} {sl23 : Array (Option Value)} {oc23 kV23 dc23 pm23 cd23 ct23 : Value} {f23 : Addr}
    {od24 an24 : Option Addr} {sl24 : Array (Option Value)} {oc24 kV24 dc24 pm24 cd24 ct24 : Value} {f24 : Addr}
    {od25 an25 : Option Addr} {sl25 : Array (Option Value)} {oc25 kV25 dc25 pm25 cd25 ct25 : Value} {f25 : Addr}
    {od26 an26 : Option Addr} {sl26 : Array (Option Value)} {oc26 kV26 dc26 pm26 cd26 ct26 : Value} {f26 : Addr}
    {od27 an27 : Option Addr} {sl27 : Array (Option Value)} {oc27 kV27 dc27 pm27 cd27 ct27 : Value} {f27 : Addr}
    {od28 an28 : Option Addr} {sl28 : Array (Option Value)} {oc28 kV28 dc28 pm28 cd28 ct28 : Value} {f28 : Addr}
    {od29 an29 : Option Addr} {sl29 : Array (Option Value)} {oc29 kV29 dc29 pm29 cd29 ct29 : Value} {f29 : Addr}
    {od30 an30 : Option Addr} {sl30 : Array (Option Value)} {oc30 kV30 dc30 pm30 cd30 ct30 : Value} {f30 : Addr}
    {od31 an31 : Option Addr} {sl31 : Array (Option Value)} {oc31 kV31 dc31 pm31 cd31 ct31 : Value} {f31 : Addr}
    {od32 an32 : Option Addr} {sl32 : Array (Option Value)} {oc32 kV32 dc32 pm32 cd32 ct32 : Value} {f32 : Addr}
    (gc_Book : PySem.W.nsIn K mainGlobals "Book" = some (some (.ref C_Book))) (pg_Book : PySem.W.plainGet K C_Book Str.empty = true) (hd_Book : PySem.W.hasDictIn K C_Book = true) (po_Book : PySem.W.plainOver K C_Book = true) (sa_Book : PySem.W.findIn K (.ref C_Book) "__setattr__" = some (some (.builtin "object.__setattr__"))) (mk_Book : PySem.W.makesIn K C_Book = true) (kc_Book : PySem.W.keepIn K (.ref C_Book) = true) (ta_Book : PySem.W.findIn K (.ref C_Book) "__class__" = some (some (.builtin "object.__class__"))) (tn_Book : PySem.W.specialIn K (.builtin "object.__class__") "__get__" = some (some (.builtin "getset_descriptor.__get__"))) (tt_Book : PySem.W.takesIn K (.builtin "object.__class__") = some true) (tm_Book : PySem.W.mroIn K C_Book (.type "object") = some true)
    (n_Book_parents : PySem.W.findIn K (.ref C_Book) "parents" = some none)
    (n_Book_bits : PySem.W.findIn K (.ref C_Book) "bits" = some none)
    (k_MOST_KINDS : PySem.W.nsIn K mainGlobals "MOST_KINDS" = some (some (.int 400 t_MOST_KINDS)))
    (k_MOST_PARENTS : PySem.W.nsIn K mainGlobals "MOST_PARENTS" = some (some (.int 6 t_MOST_PARENTS)))
    (k_MOST_CLAUSES : PySem.W.nsIn K mainGlobals "MOST_CLAUSES" = some (some (.int 40 t_MOST_CLAUSES)))
    (a0 : PySem.W.nsIn K mainGlobals "is_integer" = some (some (.ref f0)))
    (l0 : K.lookup f0 = some ⟨oc0, od0, .func (PySem.W.fnOf "is_integer" "is_integer" (defArgs s_is_integer) (defBody s_is_integer) (defScope s_is_integer) .none kV0 dc0 pm0 an0 cd0 ct0), sl0⟩) (c0 : PySem.W.codeIn K cd0 "is_integer" = true) (k0 : PySem.W.keepIn K (.ref f0) = true)
    (a1 : PySem.W.nsIn K mainGlobals "is_within" = some (some (.ref f1)))
    (l1 : K.lookup f1 = some ⟨oc1, od1, .func (PySem.W.fnOf "is_within" "is_within" (defArgs s_is_within) (defBody s_is_within) (defScope s_is_within) .none kV1 dc1 pm1 an1 cd1 ct1), sl1⟩) (c1 : PySem.W.codeIn K cd1 "is_within" = true) (k1 : PySem.W.keepIn K (.ref f1) = true)
    (a2 : PySem.W.nsIn K mainGlobals "is_pair" = some (some (.ref f2)))
    (l2 : K.lookup f2 = some ⟨oc2, od2, .func (PySem.W.fnOf "is_pair" "is_pair" (defArgs s_is_pair) (defBody s_is_pair) (defScope s_is_pair) .none kV2 dc2 pm2 an2 cd2 ct2), sl2⟩) (c2 : PySem.W.codeIn K cd2 "is_pair" = true) (k2 : PySem.W.keepIn K (.ref f2) = true)
    (a3 : PySem.W.nsIn K mainGlobals "is_lot" = some (some (.ref f3)))
    (l3 : K.lookup f3 = some ⟨oc3, od3, .func (PySem.W.fnOf "is_lot" "is_lot" (defArgs s_is_lot) (defBody s_is_lot) (defScope s_is_lot) .none kV3 dc3 pm3 an3 cd3 ct3), sl3⟩) (c3 : PySem.W.codeIn K cd3 "is_lot" = true) (k3 : PySem.W.keepIn K (.ref f3) = true)
    (a4 : PySem.W.nsIn K mainGlobals "are_parents" = some (some (.ref f4)))
    (l4 : K.lookup f4 = some ⟨oc4, od4, .func (PySem.W.fnOf "are_parents" "are_parents" (defArgs s_are_parents) (defBody s_are_parents) (defScope s_are_parents) .none kV4 dc4 pm4 an4 cd4 ct4), sl4⟩) (c4 : PySem.W.codeIn K cd4 "are_parents" = true) (k4 : PySem.W.keepIn K (.ref f4) = true)
    (a5 : PySem.W.findIn K (.ref C_Book) "fill" = some (some (.ref f5))) (i5 : PySem.W.isFn K (.ref f5) = true)
    (l5 : K.lookup f5 = some ⟨oc5, od5, .func (PySem.W.fnOf "fill" "Book.fill" (defArgs s_Book_fill) (defBody s_Book_fill) (defScope s_Book_fill) .none kV5 dc5 pm5 an5 cd5 ct5), sl5⟩) (c5 : PySem.W.codeIn K cd5 "Book.fill" = true) (k5 : PySem.W.keepIn K (.ref f5) = true)
    (a6 : PySem.W.findIn K (.ref C_Book) "__init__" = some (some (.ref f6))) (i6 : PySem.W.isFn K (.ref f6) = true)
    (l6 : K.lookup f6 = some ⟨oc6, od6, .func (PySem.W.fnOf "__init__" "Book.__init__" (defArgs s_Book___init__) (defBody s_Book___init__) (defScope s_Book___init__) .none kV6 dc6 pm6 an6 cd6 ct6), sl6⟩) (c6 : PySem.W.codeIn K cd6 "Book.__init__" = true) (k6 : PySem.W.keepIn K (.ref f6) = true)
    (a7 : PySem.W.nsIn K mainGlobals "grown" = some (some (.ref f7)))
    (l7 : K.lookup f7 = some ⟨oc7, od7, .func (PySem.W.fnOf "grown" "grown" (defArgs s_grown) (defBody s_grown) (defScope s_grown) .none kV7 dc7 pm7 an7 cd7 ct7), sl7⟩) (c7 : PySem.W.codeIn K cd7 "grown" = true) (k7 : PySem.W.keepIn K (.ref f7) = true)
    (a8 : PySem.W.nsIn K mainGlobals "many_of" = some (some (.ref f8)))
    (l8 : K.lookup f8 = some ⟨oc8, od8, .func (PySem.W.fnOf "many_of" "many_of" (defArgs s_many_of) (defBody s_many_of) (defScope s_many_of) .none kV8 dc8 pm8 an8 cd8 ct8), sl8⟩) (c8 : PySem.W.codeIn K cd8 "many_of" = true) (k8 : PySem.W.keepIn K (.ref f8) = true)
    (a9 : PySem.W.nsIn K mainGlobals "is_one" = some (some (.ref f9)))
    (l9 : K.lookup f9 = some ⟨oc9, od9, .func (PySem.W.fnOf "is_one" "is_one" (defArgs s_is_one) (defBody s_is_one) (defScope s_is_one) .none kV9 dc9 pm9 an9 cd9 ct9), sl9⟩) (c9 : PySem.W.codeIn K cd9 "is_one" = true) (k9 : PySem.W.keepIn K (.ref f9) = true)
    (a10 : PySem.W.nsIn K mainGlobals "check_kind_of" = some (some (.ref f10)))
    (l10 : K.lookup f10 = some ⟨oc10, od10, .func (PySem.W.fnOf "check_kind_of" "check_kind_of" (defArgs s_check_kind_of) (defBody s_check_kind_of) (defScope s_check_kind_of) .none kV10 dc10 pm10 an10 cd10 ct10), sl10⟩) (c10 : PySem.W.codeIn K cd10 "check_kind_of" = true) (k10 : PySem.W.keepIn K (.ref f10) = true)
    (a11 : PySem.W.nsIn K mainGlobals "check_kind" = some (some (.ref f11)))
    (l11 : K.lookup f11 = some ⟨oc11, od11, .func (PySem.W.fnOf "check_kind" "check_kind" (defArgs s_check_kind) (defBody s_check_kind) (defScope s_check_kind) .none kV11 dc11 pm11 an11 cd11 ct11), sl11⟩) (c11 : PySem.W.codeIn K cd11 "check_kind" = true) (k11 : PySem.W.keepIn K (.ref f11) = true)
    (a12 : PySem.W.nsIn K mainGlobals "loaded" = some (some (.ref f12)))
    (l12 : K.lookup f12 = some ⟨oc12, od12, .func (PySem.W.fnOf "loaded" "loaded" (defArgs s_loaded) (defBody s_loaded) (defScope s_loaded) .none kV12 dc12 pm12 an12 cd12 ct12), sl12⟩) (c12 : PySem.W.codeIn K cd12 "loaded" = true) (k12 : PySem.W.keepIn K (.ref f12) = true)
    (a13 : PySem.W.nsIn K mainGlobals "are_clauses" = some (some (.ref f13)))
    (l13 : K.lookup f13 = some ⟨oc13, od13, .func (PySem.W.fnOf "are_clauses" "are_clauses" (defArgs s_are_clauses) (defBody s_are_clauses) (defScope s_are_clauses) .none kV13 dc13 pm13 an13 cd13 ct13), sl13⟩) (c13 : PySem.W.codeIn K cd13 "are_clauses" = true) (k13 : PySem.W.keepIn K (.ref f13) = true)
    (a14 : PySem.W.nsIn K mainGlobals "check_clauses" = some (some (.ref f14)))
    (l14 : K.lookup f14 = some ⟨oc14, od14, .func (PySem.W.fnOf "check_clauses" "check_clauses" (defArgs s_check_clauses) (defBody s_check_clauses) (defScope s_check_clauses) .none kV14 dc14 pm14 an14 cd14 ct14), sl14⟩) (c14 : PySem.W.codeIn K cd14 "check_clauses" = true) (k14 : PySem.W.keepIn K (.ref f14) = true)
    (a15 : PySem.W.nsIn K mainGlobals "first_place" = some (some (.ref f15)))
    (l15 : K.lookup f15 = some ⟨oc15, od15, .func (PySem.W.fnOf "first_place" "first_place" (defArgs s_first_place) (defBody s_first_place) (defScope s_first_place) .none kV15 dc15 pm15 an15 cd15 ct15), sl15⟩) (c15 : PySem.W.codeIn K cd15 "first_place" = true) (k15 : PySem.W.keepIn K (.ref f15) = true)
    (a16 : PySem.W.nsIn K mainGlobals "label_at" = some (some (.ref f16)))
    (l16 : K.lookup f16 = some ⟨oc16, od16, .func (PySem.W.fnOf "label_at" "label_at" (defArgs s_label_at) (defBody s_label_at) (defScope s_label_at) .none kV16 dc16 pm16 an16 cd16 ct16), sl16⟩) (c16 : PySem.W.codeIn K cd16 "label_at" = true) (k16 : PySem.W.keepIn K (.ref f16) = true)
    (a17 : PySem.W.nsIn K mainGlobals "label_of" = some (some (.ref f17)))
    (l17 : K.lookup f17 = some ⟨oc17, od17, .func (PySem.W.fnOf "label_of" "label_of" (defArgs s_label_of) (defBody s_label_of) (defScope s_label_of) .none kV17 dc17 pm17 an17 cd17 ct17), sl17⟩) (c17 : PySem.W.codeIn K cd17 "label_of" = true) (k17 : PySem.W.keepIn K (.ref f17) = true)
    (a18 : PySem.W.nsIn K mainGlobals "never_met" = some (some (.ref f18)))
    (l18 : K.lookup f18 = some ⟨oc18, od18, .func (PySem.W.fnOf "never_met" "never_met" (defArgs s_never_met) (defBody s_never_met) (defScope s_never_met) .none kV18 dc18 pm18 an18 cd18 ct18), sl18⟩) (c18 : PySem.W.codeIn K cd18 "never_met" = true) (k18 : PySem.W.keepIn K (.ref f18) = true)
    (a19 : PySem.W.nsIn K mainGlobals "places_of" = some (some (.ref f19)))
    (l19 : K.lookup f19 = some ⟨oc19, od19, .func (PySem.W.fnOf "places_of" "places_of" (defArgs s_places_of) (defBody s_places_of) (defScope s_places_of) .none kV19 dc19 pm19 an19 cd19 ct19), sl19⟩) (c19 : PySem.W.codeIn K cd19 "places_of" = true) (k19 : PySem.W.keepIn K (.ref f19) = true)
    (a20 : PySem.W.nsIn K mainGlobals "parting_of" = some (some (.ref f20)))
    (l20 : K.lookup f20 = some ⟨oc20, od20, .func (PySem.W.fnOf "parting_of" "parting_of" (defArgs s_parting_of) (defBody s_parting_of) (defScope s_parting_of) .none kV20 dc20 pm20 an20 cd20 ct20), sl20⟩) (c20 : PySem.W.codeIn K cd20 "parting_of" = true) (k20 : PySem.W.keepIn K (.ref f20) = true)
    (a21 : PySem.W.nsIn K mainGlobals "parting" = some (some (.ref f21)))
    (l21 : K.lookup f21 = some ⟨oc21, od21, .func (PySem.W.fnOf "parting" "parting" (defArgs s_parting) (defBody s_parting) (defScope s_parting) .none kV21 dc21 pm21 an21 cd21 ct21), sl21⟩) (c21 : PySem.W.codeIn K cd21 "parting" = true) (k21 : PySem.W.keepIn K (.ref f21) = true)
    (a22 : PySem.W.nsIn K mainGlobals "alike" = some (some (.ref f22)))
    (l22 : K.lookup f22 = some ⟨oc22, od22, .func (PySem.W.fnOf "alike" "alike" (defArgs s_alike) (defBody s_alike) (defScope s_alike) .none kV22 dc22 pm22 an22 cd22 ct22), sl22⟩) (c22 : PySem.W.codeIn K cd22 "alike" = true) (k22 : PySem.W.keepIn K (.ref f22) = true)
    (a23 : PySem.W.nsIn K mainGlobals "_law_hand" = some (some (.ref f23)))
    (l23 : K.lookup f23 = some ⟨oc23, od23, .func (PySem.W.fnOf "_law_hand" "_law_hand" (defArgs s__law_hand) (defBody s__law_hand) (defScope s__law_hand) .none kV23 dc23 pm23 an23 cd23 ct23), sl23⟩) (c23 : PySem.W.codeIn K cd23 "_law_hand" = true) (k23 : PySem.W.keepIn K (.ref f23) = true)
    (a24 : PySem.W.nsIn K mainGlobals "_law_draw" = some (some (.ref f24)))
    (l24 : K.lookup f24 = some ⟨oc24, od24, .func (PySem.W.fnOf "_law_draw" "_law_draw" (defArgs s__law_draw) (defBody s__law_draw) (defScope s__law_draw) .none kV24 dc24 pm24 an24 cd24 ct24), sl24⟩) (c24 : PySem.W.codeIn K cd24 "_law_draw" = true) (k24 : PySem.W.keepIn K (.ref f24) = true)
    (a25 : PySem.W.nsIn K mainGlobals "_law_is" = some (some (.ref f25)))
    (l25 : K.lookup f25 = some ⟨oc25, od25, .func (PySem.W.fnOf "_law_is" "_law_is" (defArgs s__law_is) (defBody s__law_is) (defScope s__law_is) .none kV25 dc25 pm25 an25 cd25 ct25), sl25⟩) (c25 : PySem.W.codeIn K cd25 "_law_is" = true) (k25 : PySem.W.keepIn K (.ref f25) = true)
    (a26 : PySem.W.nsIn K mainGlobals "_law_flag" = some (some (.ref f26)))
    (l26 : K.lookup f26 = some ⟨oc26, od26, .func (PySem.W.fnOf "_law_flag" "_law_flag" (defArgs s__law_flag) (defBody s__law_flag) (defScope s__law_flag) .none kV26 dc26 pm26 an26 cd26 ct26), sl26⟩) (c26 : PySem.W.codeIn K cd26 "_law_flag" = true) (k26 : PySem.W.keepIn K (.ref f26) = true)
    (a27 : PySem.W.nsIn K mainGlobals "_law_parents" = some (some (.ref f27)))
    (l27 : K.lookup f27 = some ⟨oc27, od27, .func (PySem.W.fnOf "_law_parents" "_law_parents" (defArgs s__law_parents) (defBody s__law_parents) (defScope s__law_parents) .none kV27 dc27 pm27 an27 cd27 ct27), sl27⟩) (c27 : PySem.W.codeIn K cd27 "_law_parents" = true) (k27 : PySem.W.keepIn K (.ref f27) = true)
    (a28 : PySem.W.nsIn K mainGlobals "_law_sheet" = some (some (.ref f28)))
    (l28 : K.lookup f28 = some ⟨oc28, od28, .func (PySem.W.fnOf "_law_sheet" "_law_sheet" (defArgs s__law_sheet) (defBody s__law_sheet) (defScope s__law_sheet) .none kV28 dc28 pm28 an28 cd28 ct28), sl28⟩) (c28 : PySem.W.codeIn K cd28 "_law_sheet" = true) (k28 : PySem.W.keepIn K (.ref f28) = true)
    (a29 : PySem.W.nsIn K mainGlobals "_law_clauses" = some (some (.ref f29)))
    (l29 : K.lookup f29 = some ⟨oc29, od29, .func (PySem.W.fnOf "_law_clauses" "_law_clauses" (defArgs s__law_clauses) (defBody s__law_clauses) (defScope s__law_clauses) .none kV29 dc29 pm29 an29 cd29 ct29), sl29⟩) (c29 : PySem.W.codeIn K cd29 "_law_clauses" = true) (k29 : PySem.W.keepIn K (.ref f29) = true)
    (a30 : PySem.W.nsIn K mainGlobals "_law_places" = some (some (.ref f30)))
    (l30 : K.lookup f30 = some ⟨oc30, od30, .func (PySem.W.fnOf "_law_places" "_law_places" (defArgs s__law_places) (defBody s__law_places) (defScope s__law_places) .none kV30 dc30 pm30 an30 cd30 ct30), sl30⟩) (c30 : PySem.W.codeIn K cd30 "_law_places" = true) (k30 : PySem.W.keepIn K (.ref f30) = true)
    (a31 : PySem.W.nsIn K mainGlobals "_law_parting" = some (some (.ref f31)))
    (l31 : K.lookup f31 = some ⟨oc31, od31, .func (PySem.W.fnOf "_law_parting" "_law_parting" (defArgs s__law_parting) (defBody s__law_parting) (defScope s__law_parting) .none kV31 dc31 pm31 an31 cd31 ct31), sl31⟩) (c31 : PySem.W.codeIn K cd31 "_law_parting" = true) (k31 : PySem.W.keepIn K (.ref f31) = true)
    (a32 : PySem.W.nsIn K mainGlobals "law" = some (some (.ref f32)))
    (l32 : K.lookup f32 = some ⟨oc32, od32, .func (PySem.W.fnOf "law" "law" (defArgs s_law) (defBody s_law) (defScope s_law) .none kV32 dc32 pm32 an32 cd32 ct32), sl32⟩) (c32 : PySem.W.codeIn K cd32 "law" = true) (k32 : PySem.W.keepIn K (.ref f32) = true)
    (z_abs : PySem.W.nsIn K mainGlobals "abs" = some none)
    (z_all : PySem.W.nsIn K mainGlobals "all" = some none)
    (z_bool : PySem.W.nsIn K mainGlobals "bool" = some none)
    (z_enumerate : PySem.W.nsIn K mainGlobals "enumerate" = some none)
    (z_int : PySem.W.nsIn K mainGlobals "int" = some none)
    (z_isinstance : PySem.W.nsIn K mainGlobals "isinstance" = some none)
    (z_len : PySem.W.nsIn K mainGlobals "len" = some none)
    (z_list : PySem.W.nsIn K mainGlobals "list" = some none)
    (z_min : PySem.W.nsIn K mainGlobals "min" = some none)
    (z_range : PySem.W.nsIn K mainGlobals "range" = some none)
    (z_set : PySem.W.nsIn K mainGlobals "set" = some none)
    (z_sorted : PySem.W.nsIn K mainGlobals "sorted" = some none)
    (z_tuple : PySem.W.nsIn K mainGlobals "tuple" = some none)
    (z_zip : PySem.W.nsIn K mainGlobals "zip" = some none) :
    ∃ fd : FuncData, (∀ (s : Shared) (v : Value), BindsTo s fd ⟨[v], []⟩ [("_law_script", v)]) ∧ ∀ base : Heap, K.In base → base.Ns mainGlobals mg → FnOk l.prog w K mg base CX0 9 fa fd ["_law_script"] (sp_law K) := by
  have e := hfa.symm.trans (PySem.W.mg_of X G a32)
  cases e
  exact ⟨_, fun s v => .of_eq rfl, fun base _ _ => ok_law {
    C_Book := C_Book, g_Book := PySem.W.mg_of X G gc_Book, cl_Book := ⟨pg_Book, hd_Book, po_Book, sa_Book⟩, ty_Book := ⟨ta_Book, tn_Book, tt_Book, tm_Book⟩,
    n_Book_parents := n_Book_parents,
    n_Book_bits := n_Book_bits,
    c_MOST_KINDS := ⟨_, PySem.W.mg_of X G k_MOST_KINDS⟩,
    c_MOST_PARENTS := ⟨_, PySem.W.mg_of X G k_MOST_PARENTS⟩,
    c_MOST_CLAUSES := ⟨_, PySem.W.mg_of X G k_MOST_CLAUSES⟩,
    f_is_integer := f0, fd_is_integer := _, F_is_integer := (fun_mk (st := s_is_integer) l0 c0 k0), b_is_integer := (fun_mk (st := s_is_integer) l0 c0 k0).binds (ps := ["thing"]) (fun _ _ _ _ _ _ us hl => match us, hl with | [_], _ => rfl), g_is_integer := PySem.W.mg_of X G a0,
    f_is_within := f1, fd_is_within := _, F_is_within := (fun_mk (st := s_is_within) l1 c1 k1), b_is_within := (fun_mk (st := s_is_within) l1 c1 k1).binds (ps := ["thing", "least", "most"]) (fun _ _ _ _ _ _ us hl => match us, hl with | [_, _, _], _ => rfl), g_is_within := PySem.W.mg_of X G a1,
    f_is_pair := f2, fd_is_pair := _, F_is_pair := (fun_mk (st := s_is_pair) l2 c2 k2), b_is_pair := (fun_mk (st := s_is_pair) l2 c2 k2).binds (ps := ["thing"]) (fun _ _ _ _ _ _ us hl => match us, hl with | [_], _ => rfl), g_is_pair := PySem.W.mg_of X G a2,
    f_is_lot := f3, fd_is_lot := _, F_is_lot := (fun_mk (st := s_is_lot) l3 c3 k3), b_is_lot := (fun_mk (st := s_is_lot) l3 c3 k3).binds (ps := ["thing", "many"]) (fun _ _ _ _ _ _ us hl => match us, hl with | [_, _], _ => rfl), g_is_lot := PySem.W.mg_of X G a3,
    f_are_parents := f4, fd_are_parents := _, F_are_parents := (fun_mk (st := s_are_parents) l4 c4 k4), b_are_parents := (fun_mk (st := s_are_parents) l4 c4 k4).binds (ps := ["thing", "number"]) (fun _ _ _ _ _ _ us hl => match us, hl with | [_, _], _ => rfl), g_are_parents := PySem.W.mg_of X G a4,
    f_Book_fill := f5, fd_Book_fill := _, F_Book_fill := (fun_mk (st := s_Book_fill) l5 c5 k5), b_Book_fill := (fun_mk (st := s_Book_fill) l5 c5 k5).binds (ps := ["self", "parents"]) (fun _ _ _ _ _ _ us hl => match us, hl with | [_, _], _ => rfl), m_Book_fill := ⟨a5, i5, k5⟩,
    f_Book___init__ := f6, fd_Book___init__ := _, F_Book___init__ := (fun_mk (st := s_Book___init__) l6 c6 k6), b_Book___init__ := (fun_mk (st := s_Book___init__) l6 c6 k6).binds (ps := ["self", "parents"]) (fun _ _ _ _ _ _ us hl => match us, hl with | [_, _], _ => rfl), m_Book___init__ := ⟨a6, i6, k6⟩, M_Book := ⟨mk_Book, a6, i6, kc_Book⟩,
    f_grown := f7, fd_grown := _, F_grown := (fun_mk (st := s_grown) l7 c7 k7), b_grown := (fun_mk (st := s_grown) l7 c7 k7).binds (ps := ["book", "parents"]) (fun _ _ _ _ _ _ us hl => match us, hl with | [_, _], _ => rfl), g_grown := PySem.W.mg_of X G a7,
    f_many_of := f8, fd_many_of := _, F_many_of := (fun_mk (st := s_many_of) l8 c8 k8), b_many_of := (fun_mk (st := s_many_of) l8 c8 k8).binds (ps := ["book"]) (fun _ _ _ _ _ _ us hl => match us, hl with | [_], _ => rfl), g_many_of := PySem.W.mg_of X G a8,
    f_is_one := f9, fd_is_one := _, F_is_one := (fun_mk (st := s_is_one) l9 c9 k9), b_is_one := (fun_mk (st := s_is_one) l9 c9 k9).binds (ps := ["book", "x", "p"]) (fun _ _ _ _ _ _ us hl => match us, hl with | [_, _, _], _ => rfl), g_is_one := PySem.W.mg_of X G a9,
    f_check_kind_of := f10, fd_check_kind_of := _, F_check_kind_of := (fun_mk (st := s_check_kind_of) l10 c10 k10), b_check_kind_of := (fun_mk (st := s_check_kind_of) l10 c10 k10).binds (ps := ["thing", "many"]) (fun _ _ _ _ _ _ us hl => match us, hl with | [_, _], _ => rfl), g_check_kind_of := PySem.W.mg_of X G a10,
    f_check_kind := f11, fd_check_kind := _, F_check_kind := (fun_mk (st := s_check_kind) l11 c11 k11), b_check_kind := (fun_mk (st := s_check_kind) l11 c11 k11).binds (ps := ["book", "thing"]) (fun _ _ _ _ _ _ us hl => match us, hl with | [_, _], _ => rfl), g_check_kind := PySem.W.mg_of X G a11,
    f_loaded := f12, fd_loaded := _, F_loaded := (fun_mk (st := s_loaded) l12 c12 k12), b_loaded := (fun_mk (st := s_loaded) l12 c12 k12).binds (ps := ["book", "parents"]) (fun _ _ _ _ _ _ us hl => match us, hl with | [_, _], _ => rfl), g_loaded := PySem.W.mg_of X G a12,
    f_are_clauses := f13, fd_are_clauses := _, F_are_clauses := (fun_mk (st := s_are_clauses) l13 c13 k13), b_are_clauses := (fun_mk (st := s_are_clauses) l13 c13 k13).binds (ps := ["book", "thing"]) (fun _ _ _ _ _ _ us hl => match us, hl with | [_, _], _ => rfl), g_are_clauses := PySem.W.mg_of X G a13,
    f_check_clauses := f14, fd_check_clauses := _, F_check_clauses := (fun_mk (st := s_check_clauses) l14 c14 k14), b_check_clauses := (fun_mk (st := s_check_clauses) l14 c14 k14).binds (ps := ["book", "thing"]) (fun _ _ _ _ _ _ us hl => match us, hl with | [_, _], _ => rfl), g_check_clauses := PySem.W.mg_of X G a14,
    f_first_place := f15, fd_first_place := _, F_first_place := (fun_mk (st := s_first_place) l15 c15 k15), b_first_place := (fun_mk (st := s_first_place) l15 c15 k15).binds (ps := ["book", "clauses", "x"]) (fun _ _ _ _ _ _ us hl => match us, hl with | [_, _, _], _ => rfl), g_first_place := PySem.W.mg_of X G a15,
    f_label_at := f16, fd_label_at := _, F_label_at := (fun_mk (st := s_label_at) l16 c16 k16), b_label_at := (fun_mk (st := s_label_at) l16 c16 k16).binds (ps := ["clauses", "place"]) (fun _ _ _ _ _ _ us hl => match us, hl with | [_, _], _ => rfl), g_label_at := PySem.W.mg_of X G a16,
    f_label_of := f17, fd_label_of := _, F_label_of := (fun_mk (st := s_label_of) l17 c17 k17), b_label_of := (fun_mk (st := s_label_of) l17 c17 k17).binds (ps := ["book", "clauses", "x"]) (fun _ _ _ _ _ _ us hl => match us, hl with | [_, _, _], _ => rfl), g_label_of := PySem.W.mg_of X G a17,
    f_never_met := f18, fd_never_met := _, F_never_met := (fun_mk (st := s_never_met) l18 c18 k18), b_never_met := (fun_mk (st := s_never_met) l18 c18 k18).binds (ps := ["book", "clauses"]) (fun _ _ _ _ _ _ us hl => match us, hl with | [_, _], _ => rfl), g_never_met := PySem.W.mg_of X G a18,
    f_places_of := f19, fd_places_of := _, F_places_of := (fun_mk (st := s_places_of) l19 c19 k19), b_places_of := (fun_mk (st := s_places_of) l19 c19 k19).binds (ps := ["book", "one", "other"]) (fun _ _ _ _ _ _ us hl => match us, hl with | [_, _, _], _ => rfl), g_places_of := PySem.W.mg_of X G a19,
    f_parting_of := f20, fd_parting_of := _, F_parting_of := (fun_mk (st := s_parting_of) l20 c20 k20), b_parting_of := (fun_mk (st := s_parting_of) l20 c20 k20).binds (ps := ["book", "one", "other"]) (fun _ _ _ _ _ _ us hl => match us, hl with | [_, _, _], _ => rfl), g_parting_of := PySem.W.mg_of X G a20,
    f_parting := f21, fd_parting := _, F_parting := (fun_mk (st := s_parting) l21 c21 k21), b_parting := (fun_mk (st := s_parting) l21 c21 k21).binds (ps := ["book", "one", "other"]) (fun _ _ _ _ _ _ us hl => match us, hl with | [_, _, _], _ => rfl), g_parting := PySem.W.mg_of X G a21,
    f_alike := f22, fd_alike := _, F_alike := (fun_mk (st := s_alike) l22 c22 k22), b_alike := (fun_mk (st := s_alike) l22 c22 k22).binds (ps := ["book", "one", "other"]) (fun _ _ _ _ _ _ us hl => match us, hl with | [_, _, _], _ => rfl), g_alike := PySem.W.mg_of X G a22,
    f__law_hand := f23, fd__law_hand := _, F__law_hand := (fun_mk (st := s__law_hand) l23 c23 k23), b__law_hand := (fun_mk (st := s__law_hand) l23 c23 k23).binds (ps := ["_law_script"]) (fun _ _ _ _ _ _ us hl => match us, hl with | [_], _ => rfl), g__law_hand := PySem.W.mg_of X G a23,
    f__law_draw := f24, fd__law_draw := _, F__law_draw := (fun_mk (st := s__law_draw) l24 c24 k24), b__law_draw := (fun_mk (st := s__law_draw) l24 c24 k24).binds (ps := ["_law_hand_here", "_law_many"]) (fun _ _ _ _ _ _ us hl => match us, hl with | [_, _], _ => rfl), g__law_draw := PySem.W.mg_of X G a24,
    f__law_is := f25, fd__law_is := _, F__law_is := (fun_mk (st := s__law_is) l25 c25 k25), b__law_is := (fun_mk (st := s__law_is) l25 c25 k25).binds (ps := ["_law_told", "_law_due"]) (fun _ _ _ _ _ _ us hl => match us, hl with | [_, _], _ => rfl), g__law_is := PySem.W.mg_of X G a25,
    f__law_flag := f26, fd__law_flag := _, F__law_flag := (fun_mk (st := s__law_flag) l26 c26 k26), b__law_flag := (fun_mk (st := s__law_flag) l26 c26 k26).binds (ps := ["_law_told", "_law_due"]) (fun _ _ _ _ _ _ us hl => match us, hl with | [_, _], _ => rfl), g__law_flag := PySem.W.mg_of X G a26,
    f__law_parents := f27, fd__law_parents := _, F__law_parents := (fun_mk (st := s__law_parents) l27 c27 k27), b__law_parents := (fun_mk (st := s__law_parents) l27 c27 k27).binds (ps := ["_law_hand_here", "_law_many", "_law_most"]) (fun _ _ _ _ _ _ us hl => match us, hl with | [_, _, _], _ => rfl), g__law_parents := PySem.W.mg_of X G a27,
    f__law_sheet := f28, fd__law_sheet := _, F__law_sheet := (fun_mk (st := s__law_sheet) l28 c28 k28), b__law_sheet := (fun_mk (st := s__law_sheet) l28 c28 k28).binds (ps := ["_law_parents_here"]) (fun _ _ _ _ _ _ us hl => match us, hl with | [_], _ => rfl), g__law_sheet := PySem.W.mg_of X G a28,
    f__law_clauses := f29, fd__law_clauses := _, F__law_clauses := (fun_mk (st := s__law_clauses) l29 c29 k29), b__law_clauses := (fun_mk (st := s__law_clauses) l29 c29 k29).binds (ps := ["_law_hand_here", "_law_many", "_law_size"]) (fun _ _ _ _ _ _ us hl => match us, hl with | [_, _, _], _ => rfl), g__law_clauses := PySem.W.mg_of X G a29,
    f__law_places := f30, fd__law_places := _, F__law_places := (fun_mk (st := s__law_places) l30 c30 k30), b__law_places := (fun_mk (st := s__law_places) l30 c30 k30).binds (ps := ["_law_clauses_here", "_law_sheet_here"]) (fun _ _ _ _ _ _ us hl => match us, hl with | [_, _], _ => rfl), g__law_places := PySem.W.mg_of X G a30,
    f__law_parting := f31, fd__law_parting := _, F__law_parting := (fun_mk (st := s__law_parting) l31 c31 k31), b__law_parting := (fun_mk (st := s__law_parting) l31 c31 k31).binds (ps := ["_law_one", "_law_other", "_law_sheet_here"]) (fun _ _ _ _ _ _ us hl => match us, hl with | [_, _, _], _ => rfl), g__law_parting := PySem.W.mg_of X G a31,
    f_law := _, fd_law := _, F_law := (fun_mk (st := s_law) l32 c32 k32), b_law := (fun_mk (st := s_law) l32 c32 k32).binds (ps := ["_law_script"]) (fun _ _ _ _ _ _ us hl => match us, hl with | [_], _ => rfl), g_law := PySem.W.mg_of X G a32,
    z_abs := PySem.W.mg_none_of X G z_abs,
    z_all := PySem.W.mg_none_of X G z_all,
    z_bool := PySem.W.mg_none_of X G z_bool,
    z_enumerate := PySem.W.mg_none_of X G z_enumerate,
    z_int := PySem.W.mg_none_of X G z_int,
    z_isinstance := PySem.W.mg_none_of X G z_isinstance,
    z_len := PySem.W.mg_none_of X G z_len,
    z_list := PySem.W.mg_none_of X G z_list,
    z_min := PySem.W.mg_none_of X G z_min,
    z_range := PySem.W.mg_none_of X G z_range,
    z_set := PySem.W.mg_none_of X G z_set,
    z_sorted := PySem.W.mg_none_of X G z_sorted,
    z_tuple := PySem.W.mg_none_of X G z_tuple,
    z_zip := PySem.W.mg_none_of X G z_zip }⟩
end Lk
open PySem PySem.W PyProof.Rows
set_option maxHeartbeats 0 in
theorem PySem.Challenge.cw_latekinds_k55_whole_clauses_of_great_boo_holds : PySem.Challenge.rw_latekinds_k55_whole_clauses_of_great_boo.Holds := by
  w_on; o_law; k_head; (case hw => w_witness2)
  k_fill
  refine L2.walk_of (l := PySem.Challenge.rw_latekinds_k55_whole_clauses_of_great_boo) (n := 63) (k := 9) (x := "_law_script") (CX := fun _ => L2.CX0) (sp := fun w => Lk.sp_law _) rfl (by decide) rfl ⟨rfl, by decide, by decide⟩ (fun w h Y => PySem.W.kIn_of Y) ?F (fun _ _ a ns hl _ hS => ⟨a, ns, rfl, hS, hl, fun _ => rfl⟩) (fun _ _ _ _ _ h => h)
  case F =>
    intro w mg fa h KX G hmg
    refine' Lk.all_mk KX G hmg ?gc_Book ?pg_Book ?hd_Book ?po_Book ?sa_Book ?mk_Book ?kc_Book ?ta_Book ?tn_Book ?tt_Book ?tm_Book ?n_Book_parents ?n_Book_bits ?k_MOST_KINDS ?k_MOST_PARENTS ?k_MOST_CLAUSES ?a0 ?l0 ?c0 ?k0 ?a1 ?l1 ?c1 ?k1 ?a2 ?l2 ?c2 ?k2 ?a3 ?l3 ?c3 ?k3 ?a4 ?l4 ?c4 ?k4 ?a5 ?i5 ?l5 ?c5 ?k5 ?a6 ?i6 ?l6 ?c6 ?k6 ?a7 ?l7 ?c7 ?k7 ?a8 ?l8 ?c8 ?k8 ?a9 ?l9 ?c9 ?k9 ?a10 ?l10 ?c10 ?k10 ?a11 ?l11 ?c11 ?k11 ?a12 ?l12 ?c12 ?k12 ?a13 ?l13 ?c13 ?k13 ?a14 ?l14 ?c14 ?k14 ?a15 ?l15 ?c15 ?k15 ?a16 ?l16 ?c16 ?k16 ?a17 ?l17 ?c17 ?k17 ?a18 ?l18 ?c18 ?k18 ?a19 ?l19 ?c19 ?k19 ?a20 ?l20 ?c20 ?k20 ?a21 ?l21 ?c21 ?k21 ?a22 ?l22 ?c22 ?k22 ?a23 ?l23 ?c23 ?k23 ?a24 ?l24 ?c24 ?k24 ?a25 ?l25 ?c25 ?k25 ?a26 ?l26 ?c26 ?k26 ?a27 ?l27 ?c27 ?k27 ?a28 ?l28 ?c28 ?k28 ?a29 ?l29 ?c29 ?k29 ?a30 ?l30 ?c30 ?k30 ?a31 ?l31 ?c31 ?k31 ?a32 ?l32 ?c32 ?k32 ?z_abs ?z_all ?z_bool ?z_enumerate ?z_int ?z_isinstance ?z_len ?z_list ?z_min ?z_range ?z_set ?z_sorted ?z_tuple ?z_zip
    (case gc_Book => k_is)
    (case pg_Book => k_is)
    (case hd_Book => k_is)
    (case po_Book => k_is)
    (case sa_Book => k_is)
    (case mk_Book => k_is)
    (case kc_Book => k_is)
    (case ta_Book => k_is)
    (case tn_Book => k_is)
    (case tt_Book => k_is)
    (case tm_Book => k_is)
    (case n_Book_parents => k_is)
    (case n_Book_bits => k_is)
    (case a0 => k_is)
    (case l0 => k_is)
    (case c0 => k_is)
    (case k0 => k_is)
    (case a1 => k_is)
    (case l1 => k_is)
    (case c1 => k_is)
    (case k1 => k_is)
    (case a2 => k_is)
    (case l2 => k_is)
    (case c2 => k_is)
    (case k2 => k_is)
    (case a3 => k_is)
    (case l3 => k_is)
    (case c3 => k_is)
    (case k3 => k_is)
    (case a4 => k_is)
    (case l4 => k_is)
    (case c4 => k_is)
    (case k4 => k_is)
    (case a5 => k_is)
    (case i5 => k_is)
    (case l5 => k_is)
    (case c5 => k_is)
    (case k5 => k_is)
    (case a6 => k_is)
    (case i6 => k_is)
    (case l6 => k_is)
    (case c6 => k_is)
    (case k6 => k_is)
    (case a7 => k_is)
    (case l7 => k_is)
    (case c7 => k_is)
    (case k7 => k_is)
    (case a8 => k_is)
    (case l8 => k_is)
    (case c8 => k_is)
    (case k8 => k_is)
    (case a9 => k_is)
    (case l9 => k_is)
    (case c9 => k_is)
    (case k9 => k_is)
    (case a10 => k_is)
    (case l10 => k_is)
    (case c10 => k_is)
    (case k10 => k_is)
    (case a11 => k_is)
    (case l11 => k_is)
    (case c11 => k_is)
    (case k11 => k_is)
    (case a12 => k_is)
    (case l12 => k_is)
    (case c12 => k_is)
    (case k12 => k_is)
    (case a13 => k_is)
    (case l13 => k_is)
    (case c13 => k_is)
    (case k13 => k_is)
    (case a14 => k_is)
    (case l14 => k_is)
    (case c14 => k_is)
    (case k14 => k_is)
    (case a15 => k_is)
    (case l15 => k_is)
    (case c15 => k_is)
    (case k15 => k_is)
    (case a16 => k_is)
    (case l16 => k_is)
    (case c16 => k_is)
    (case k16 => k_is)
    (case a17 => k_is)
    (case l17 => k_is)
    (case c17 => k_is)
    (case k17 => k_is)
    (case a18 => k_is)
    (case l18 => k_is)
    (case c18 => k_is)
    (case k18 => k_is)
    (case a19 => k_is)
    (case l19 => k_is)
    (case c19 => k_is)
    (case k19 => k_is)
    (case a20 => k_is)
    (case l20 => k_is)
    (case c20 => k_is)
    (case k20 => k_is)
    (case a21 => k_is)
    (case l21 => k_is)
    (case c21 => k_is)
    (case k21 => k_is)
    (case a22 => k_is)
    (case l22 => k_is)
    (case c22 => k_is)
    (case k22 => k_is)
    (case a23 => k_is)
    (case l23 => k_is)
    (case c23 => k_is)
    (case k23 => k_is)
    (case a24 => k_is)
    (case l24 => k_is)
    (case c24 => k_is)
    (case k24 => k_is)
    (case a25 => k_is)
    (case l25 => k_is)
    (case c25 => k_is)
    (case k25 => k_is)
    (case a26 => k_is)
    (case l26 => k_is)
    (case c26 => k_is)
    (case k26 => k_is)
    (case a27 => k_is)
    (case l27 => k_is)
    (case c27 => k_is)
    (case k27 => k_is)
    (case a28 => k_is)
    (case l28 => k_is)
    (case c28 => k_is)
    (case k28 => k_is)
    (case a29 => k_is)
    (case l29 => k_is)
    (case c29 => k_is)
    (case k29 => k_is)
    (case a30 => k_is)
    (case l30 => k_is)
    (case c30 => k_is)
    (case k30 => k_is)
    (case a31 => k_is)
    (case l31 => k_is)
    (case c31 => k_is)
    (case k31 => k_is)
    (case a32 => k_is)
    (case l32 => k_is)
    (case c32 => k_is)
    (case k32 => k_is)
    (case k_MOST_KINDS => k_is)
    (case k_MOST_PARENTS => k_is)
    (case k_MOST_CLAUSES => k_is)
    (case z_abs => k_is)
    (case z_all => k_is)
    (case z_bool => k_is)
    (case z_enumerate => k_is)
    (case z_int => k_is)
    (case z_isinstance => k_is)
    (case z_len => k_is)
    (case z_list => k_is)
    (case z_min => k_is)
    (case z_range => k_is)
    (case z_set => k_is)
    (case z_sorted => k_is)
    (case z_tuple => k_is)
    (case z_zip => k_is)
#print axioms PySem.Challenge.cw_latekinds_k55_whole_clauses_of_great_boo_holds
