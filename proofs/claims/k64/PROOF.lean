import PyProof.Rows.All
import Wide.All
import OpenK.AllK
import Wide.FinOn
import HandS.ForMost
import HandS.IsInst
import HandS.Rev
import HandS.Wide
import HandS.SortInts
import HandS.TupAny
import HandS.Codes
import HandS.Style
import HandS.SetFor
import HandS.Strs
import HandS.Zip
import HandS.Conv
import HandS.OwnEq
import HandS.TupMul
import HandS.Text
import HandS.WideBits
import KE.BitLaws
import KE.KDictList
import KE.GoesEnum
import HandS.RevTup
import HandS.ForExc
import HandS.ExcInit
import HandS.Nested
import HandS.ExcIs
import HandS.ExcField
import KE.KExcSuper
import KE.RegKSuper
import KE.RegKTryMore
import KE.RegKIsAll
import KE.Datum
import PySem.Challenge.RW_latekinds_k64_loads
set_option Elab.async false
set_option linter.all false
set_option maxRecDepth 100000
set_option maxHeartbeats 4000000
namespace Lk
open PySem L2
def top (i : Nat) : Stmt := PySem.Challenge.pw_latekinds_k64_loads.main.body.getD i (.Pass ⟨0, 0, 0, 0⟩)
abbrev s_BadKind___init__ : Stmt := inClass (top 5) 0
abbrev s_TooMany___init__ : Stmt := inClass (top 6) 0
abbrev s_is_integer : Stmt := top 9
abbrev s_is_within : Stmt := top 10
abbrev s_is_lot : Stmt := top 11
abbrev s_check_most : Stmt := top 13
abbrev s_are_parents : Stmt := top 17
abbrev s_Book_fill : Stmt := inClass (top 18) 1
abbrev s_Book___init__ : Stmt := inClass (top 18) 0
abbrev s_Book___eq__ : Stmt := inClass (top 18) 2
abbrev s_book_of : Stmt := top 19
abbrev s_grown : Stmt := top 20
abbrev s_is_one : Stmt := top 21
abbrev s_Groups___init__ : Stmt := inClass (top 23) 0
abbrev s_Groups_fitting : Stmt := inClass (top 23) 1
abbrev s_Groups_taken : Stmt := inClass (top 23) 2
abbrev s_Groups_put : Stmt := inClass (top 23) 3
abbrev s_entries_of : Stmt := top 24
abbrev s__law_flow : Stmt := top 31
abbrev s__law_draw : Stmt := top 32
abbrev s__law_parents : Stmt := top 33
abbrev s_groups_from : Stmt := top 26
abbrev s_first_step : Stmt := top 27
abbrev s_next_step : Stmt := top 28
abbrev s_Runtime___init__ : Stmt := inClass (top 29) 0
abbrev s_Runtime_many : Stmt := inClass (top 29) 7
abbrev s_Runtime_load : Stmt := inClass (top 29) 1
abbrev s_Runtime_book : Stmt := inClass (top 29) 4
abbrev s_Runtime_back : Stmt := inClass (top 29) 6
abbrev s__law_spoilt : Stmt := top 34
abbrev s__law_load : Stmt := top 35
abbrev s__law_is : Stmt := top 36
abbrev s__law_loads : Stmt := top 37
abbrev s__law_stands : Stmt := top 38
abbrev s__law_full : Stmt := top 39
abbrev s_law : Stmt := top 40
/-! ### what is kept -/
theorem Same.at {H H' : Hp} {a : Addr} {o : HO} (e : Same H H') (h : H a = some o) : H' a = some o := e a o h
theorem Same.new {H H' : Hp} {p : Addr} {o : HO} (e : Same H H') (h : H' p = none) : Same H (upd H' p o) := fun b u z => by
  have z2 := e b u z
  rw [upd_ne (ne_of_none z2 h)]
  exact z2
theorem Same.mut {H H' : Hp} {p : Addr} {o : HO} (e : Same H H') (h : H p = none) : Same H (upd H' p o) := fun b u z => by
  rw [upd_ne (ne_of_none z h)]
  exact e b u z
theorem upd_at {H : Hp} {p a : Addr} {o u : HO} (n : a ≠ p) (h : H a = some u) : upd H p o a = some u := by
  rw [upd_ne n]
  exact h
theorem upd_at' {H : Hp} {p a : Addr} {o u : HO} (h : H a = some u) (n : a ≠ p) : upd H p o a = some u := upd_at n h
/-- the readings of len, list(..), tuple(..) by name -/
def rLenQ (K : PySem.W.Frag) : List V → Hp → VK → Prop := fun xs H Q => ∃ p ys, xs = [.ref p] ∧ (SqL K H p ys ∨ SqT K H p ys) ∧ Q (.int ys.length) H
def rListQ (K : PySem.W.Frag) : List V → Hp → VK → Prop := fun xs H Q => ∃ p ys, xs = [.ref p] ∧ (SqL K H p ys ∨ SqT K H p ys) ∧ ∀ l, H l = none → Q (.ref l) (upd H l (.lst ys))
def rTupQ (K : PySem.W.Frag) : List V → Hp → VK → Prop := fun xs H Q => ∃ p ys, xs = [.ref p] ∧ ((SqL K H p ys ∧ ∀ l, H l = none → Q (.ref l) (upd H l (.tup ys))) ∨ (SqT K H p ys ∧ Q (.ref p) H))
/-- new in H -/
structure Nw (H : Hp) (p : Addr) : Prop where
  e : H p = none
theorem Nw.ne {H : Hp} {a p : Addr} {o : HO} (w : Nw H p) (h : H a = some o) : a ≠ p := ne_of_none h w.e
/-- a tape: its address, its list's, the list -/
structure Tp where
  t : Addr
  l : Addr
  ns : List Int
structure Tape (τ : Tp) (H : Hp) : Prop where
  list : H τ.l = some (.lst (τ.ns.map V.int))
  ne : τ.l ≠ τ.t
  here : ∃ i c s n : Int, H τ.t = some (.lst [.ref τ.l, .int i, .int c, .int s, .int n]) ∧ 0 ≤ i
/-- all but the tape is kept, the tape is a tape -/
structure Mv (τ : Tp) (H0 H : Hp) : Prop where
  was : Tape τ H0
  keep : ∀ a o, a ≠ τ.t → H0 a = some o → H a = some o
  now : Tape τ H
structure Mz (τ : Tp) (H0 H : Hp) : Prop where
  mv : Mv τ H0 H
section
variable {τ : Tp} {H0 H H1 H2 : Hp} {p a : Addr} {o : HO}
theorem Tape.mv (h : Tape τ H) : Mv τ H H := ⟨h, fun _ _ _ e => e, h⟩
theorem Tape.mz (h : Tape τ H) : Mz τ H H := ⟨h.mv⟩
theorem Mv.self (m : Mv τ H0 H) : Mv τ H H := m.now.mv
theorem Mv.trans (m : Mv τ H0 H1) (k : Mv τ H1 H2) : Mv τ H0 H2 := ⟨m.was, fun a o n e => k.keep a o n (m.keep a o n e), k.now⟩
theorem Mz.trans (m : Mz τ H0 H1) (k : Mv τ H1 H2) : Mz τ H0 H2 := ⟨m.mv.trans k⟩
theorem Tape.new (h : Tape τ H) (n : H p = none) : Tape τ (upd H p o) := by
  obtain ⟨h1, h2, i, c, s, k, h3, h4⟩ := h
  exact ⟨upd_at (ne_of_none h1 n) h1, h2, i, c, s, k, upd_at (ne_of_none h3 n) h3, h4⟩
theorem Mv.new (m : Mv τ H0 H) (n : H p = none) : Mv τ H0 (upd H p o) := ⟨m.was, fun a u e z => upd_at (ne_of_none (m.keep a u e z) n) (m.keep a u e z), m.now.new n⟩
theorem Mz.new (m : Mz τ H0 H) (n : H p = none) : Mz τ H0 (upd H p o) := ⟨m.mv.new n⟩
theorem Mv.neF (m : Mv τ H0 H) (n : H0 p = none) : p ≠ τ.t := fun e => by
  obtain ⟨_, _, _, _, h, _⟩ := m.was.here
  rw [e, h] at n
  cases n
theorem Mv.neN (m : Mv τ H0 H) (n : H p = none) : p ≠ τ.t := fun e => by
  obtain ⟨_, _, _, _, h, _⟩ := m.now.here
  rw [e, h] at n
  cases n
theorem Mv.mut (m : Mv τ H0 H) (n : H0 p = none) : Mv τ H0 (upd H p o) := by
  obtain ⟨i, c, s, k, h3, h4⟩ := m.now.here
  have n1 : τ.l ≠ p := ne_of_none m.was.list n
  exact ⟨m.was, fun a u e z => upd_at (ne_of_none z n) (m.keep a u e z), upd_at n1 m.now.list, m.now.ne, i, c, s, k, upd_at (m.neF n).symm h3, h4⟩
theorem Mz.mut (m : Mz τ H0 H) (n : H0 p = none) : Mz τ H0 (upd H p o) := ⟨m.mv.mut n⟩
theorem Mv.free (m : Mv τ H0 H) (n : H p = none) : H0 p = none := by
  cases e : H0 p with
  | none => rfl
  | some o =>
    by_cases z : p = τ.t
    · obtain ⟨_, _, _, _, h, _⟩ := m.now.here
      rw [z, h] at n
      cases n
    · rw [m.keep p o z e] at n
      cases n
theorem Mz.free (m : Mz τ H0 H) (n : H p = none) : H0 p = none := m.mv.free n
theorem Mv.at (m : Mv τ H0 H) (n : a ≠ τ.t) (h : H0 a = some o) : H a = some o := m.keep a o n h
theorem Mv.at' (m : Mv τ H0 H) (h : H0 a = some o) (n : a ≠ τ.t) : H a = some o := m.keep a o n h
theorem Mz.at (m : Mz τ H0 H) (n : a ≠ τ.t) (h : H0 a = some o) : H a = some o := m.mv.keep a o n h
theorem Mv.neT {xs : List V} (m : Mv τ H0 H) (h : H a = some (.tup xs)) : a ≠ τ.t := fun e => by
  obtain ⟨_, _, _, _, z, _⟩ := m.now.here
  rw [e, z] at h
  cases h
theorem Mv.neT0 {xs : List V} (m : Mv τ H0 H) (h : H0 a = some (.tup xs)) : a ≠ τ.t := m.was.mv.neT h
theorem Mv.atT {xs : List V} (m : Mv τ H0 H) (h : H0 a = some (.tup xs)) : H a = some (.tup xs) := m.keep a _ (m.neT0 h) h
theorem Tape.same (h : Tape τ H) (s : Same H H1) : Tape τ H1 := by
  obtain ⟨h1, h2, i, c, s', k, h3, h4⟩ := h
  exact ⟨s _ _ h1, h2, i, c, s', k, s _ _ h3, h4⟩
theorem Mv.same (m : Mv τ H0 H) (s : Same H H1) : Mv τ H0 H1 := by
  obtain ⟨h1, h2, i, c, s', k, h3, h4⟩ := m.now
  exact ⟨m.was, fun a o e z => s a o (m.keep a o e z), s _ _ h1, h2, i, c, s', k, s _ _ h3, h4⟩
theorem Mz.same (m : Mz τ H0 H) (s : Same H H1) : Mz τ H0 H1 := ⟨m.mv.same s⟩
end
theorem iteD {c A B : Prop} [Decidable c] (h1 : c → A) (h2 : ¬ c → B) : if decide c = true then A else B := by
  by_cases h : c
  · rw [decide_eq_true h]
    exact iteT (h1 h)
  · rw [decide_eq_false h]
    exact iteF (h2 h)
theorem iteDY {c A B : Prop} [Decidable c] (h : c) (h1 : A) : if decide c = true then A else B := by
  rw [decide_eq_true h]
  exact iteT h1
theorem iteDN {c A B : Prop} [Decidable c] (h : ¬ c) (h1 : B) : if decide c = true then A else B := by
  rw [decide_eq_false h]
  exact iteF h1
theorem iteET {b : Bool} {A B : Prop} (h : b = true) (k : A) : if b = true then A else B := by
  rw [h]
  exact iteT k
theorem iteEF {b : Bool} {A B : Prop} (h : b = false) (k : B) : if b = true then A else B := by
  rw [h]
  exact iteF k
theorem iteB {b : Bool} {A B : Prop} (h1 : b = true → A) (h2 : b = false → B) : if b = true then A else B := by
  cases b with
  | true => exact iteT (h1 rfl)
  | false => exact iteF (h2 rfl)
theorem fmod_in {x m : Int} (h : 0 < m) : 0 ≤ x.fmod m ∧ x.fmod m < m := by
  rw [Int.fmod_eq_emod_of_nonneg x (Int.le_of_lt h)]
  exact ⟨Int.emod_nonneg x (by omega), Int.emod_lt_of_pos x h⟩
theorem Mv.put {τ : Tp} {H0 H : Hp} (m : Mv τ H0 H) {xs : List V} {i c s n : Int} (e : xs = [.ref τ.l, .int i, .int c, .int s, .int n]) (h : 0 ≤ i) : Mv τ H0 (upd H τ.t (.lst xs)) := by
  subst e
  exact ⟨m.was, fun a o k z => upd_at k (m.keep a o k z), upd_at m.now.ne m.now.list, m.now.ne, i, c, s, n, upd_same, h⟩
theorem le_lineB {n : Nat} (h : Nat.ble n 100000 = true) : n ≤ sizeLine := Nat.le_trans (Nat.le_of_ble_eq_true h) (by decide)
theorem fmod64 {x m : Int} (h : 0 < m) (h2 : m ≤ 2 ^ 64) : -(2 ^ 64) < x.fmod m ∧ x.fmod m < 2 ^ 64 := by
  have q := fmod_in (x := x) h
  omega
theorem at_ints {ns : List Int} {i : Int} (h0 : 0 ≤ i) (h : i < ((ns.map V.int).length : Int)) : ∃ v : Int, atI (ns.map V.int) i = some (.int v) := by
  rw [List.length_map] at h
  have hj : i.toNat < ns.length := by omega
  refine ⟨ns[i.toNat], at_of (j := i.toNat) (by omega) ?_⟩
  rw [List.getElem?_map, List.getElem?_eq_getElem hj]
  rfl
theorem dec_int {a b : Int} : decide (V.int a = V.int b) = decide (a = b) := by
  by_cases h : a = b
  · rw [decide_eq_true h, h, decide_eq_true rfl]
  · rw [decide_eq_false h, decide_eq_false fun e => h (V.int.inj e)]
theorem dec_nat {a b : Nat} : decide (V.int (a : Int) = V.int (b : Int)) = decide (a = b) := by
  rw [dec_int]
  exact decide_eq_decide.mpr Int.ofNat_inj
theorem iteI {a b : Int} {A B : Prop} (h1 : a = b → A) (h2 : ¬ a = b → B) : if decide (V.int a = V.int b) = true then A else B := by
  rw [dec_int]
  exact iteD h1 h2
/-! ### kinds of things -/
def isIntB : V → Bool
  | .int _ => true
  | _ => false
def withinB (v : V) (lo hi : Int) : Bool := match v with
  | .int i => decide (lo ≤ i) && decide (i ≤ hi)
  | _ => false
structure IntK (K : PySem.W.Frag) (H : Hp) (v : V) : Prop where
  ex : ∃ (t : Value) (bi bb : Bool), TyX K H v t ∧ PySem.W.kitOne K t (.type "int") = some bi ∧ PySem.W.kitOne K t (.type "bool") = some bb ∧ (bi && !bb) = isIntB v
section
variable {K : PySem.W.Frag} {H : Hp}
theorem IntK.int (i : Int) : IntK K H (.int i) := ⟨_, true, false, .base (.int i), kit_ty (by decide +kernel), kit_ty (by decide +kernel), rfl⟩
theorem IntK.bl (b : Bool) : IntK K H (.bl b) := ⟨_, true, true, .base (.bl b), kit_ty (by decide +kernel), kit_ty (by decide +kernel), rfl⟩
theorem IntK.non : IntK K H .non := ⟨_, false, false, .base .non, kit_ty (by decide +kernel), kit_ty (by decide +kernel), rfl⟩
theorem IntK.str (s : Str) : IntK K H (.str s) := ⟨_, false, false, .base (.str s), kit_ty (by decide +kernel), kit_ty (by decide +kernel), rfl⟩
theorem IntK.tup {a : Addr} {xs : List V} (h : H a = some (.tup xs)) : IntK K H (.ref a) := ⟨_, false, false, .base (.tup h), kit_ty (by decide +kernel), kit_ty (by decide +kernel), rfl⟩
theorem IntK.lst {a : Addr} {xs : List V} (h : H a = some (.lst xs)) : IntK K H (.ref a) := ⟨_, false, false, .base (.lst h), kit_ty (by decide +kernel), kit_ty (by decide +kernel), rfl⟩
theorem IntK.dK {a : Addr} {xs : List (Key × V)} (h : H a = some (.dK xs)) : IntK K H (.ref a) := ⟨_, false, false, .base (.dK h), kit_ty (by decide +kernel), kit_ty (by decide +kernel), rfl⟩
theorem ty_tup {a : Addr} {xs : List V} (h : H a = some (.tup xs)) : TyX K H (.ref a) (.type "tuple") := .base (.tup h)
theorem ty_int (i : Int) : TyX K H (.int i) (.type "int") := .base (.int i)
theorem ty_bl (b : Bool) : TyX K H (.bl b) (.type "bool") := .base (.bl b)
theorem tup_tup : PySem.W.kitOne K (.type "tuple") (.type "tuple") = some true := kit_ty (by decide +kernel)
theorem int_tup : PySem.W.kitOne K (.type "int") (.type "tuple") = some false := kit_ty (by decide +kernel)
theorem int_int : PySem.W.kitOne K (.type "int") (.type "int") = some true := kit_ty (by decide +kernel)
theorem int_bool : PySem.W.kitOne K (.type "int") (.type "bool") = some false := kit_ty (by decide +kernel)
theorem bool_bool : PySem.W.kitOne K (.type "bool") (.type "bool") = some true := kit_ty (by decide +kernel)
end
/-- tuples stay -/
def TK (H H' : Hp) : Prop := ∀ a xs, H a = some (.tup xs) → H' a = some (.tup xs)
theorem Same.tk {H H' : Hp} (s : Same H H') : TK H H' := fun a _ h => s a _ h
theorem Mv.tk {τ : Tp} {H H' : Hp} (m : Mv τ H H') : TK H H' := fun a _ h => m.keep a _ (m.neT0 h) h
theorem TK.trans {H H1 H2 : Hp} (a : TK H H1) (b : TK H1 H2) : TK H H2 := fun x xs h => b x xs (a x xs h)
theorem TK.mut {H : Hp} {p : Addr} {o : HO} {ys : List V} (h : H p = some (.lst ys)) : TK H (upd H p o) := fun a xs e => upd_at (ne_of e h (by intro z; cases z)) e
theorem TK.new {H : Hp} {p : Addr} {o : HO} (h : H p = none) : TK H (upd H p o) := fun a xs e => upd_at (ne_of_none e h) e
/-! ### len(set(a tuple of whole numbers)); list(reversed(a list)) -/
section
open PySem.Spec PyProof.Rows
variable {X : Cx}
def tLenSetU (K : PySem.W.Frag) (ta : TE) : TE := fun σ H Q => ta σ H fun x H1 => ∃ (l : Addr) (ns : List Int), x = .ref l ∧ SqT K H1 l (ns.map V.int) ∧ ns.length ≤ 4000 ∧ ∀ ks : List Int, ks.Nodup → (∀ k, k ∈ ks ↔ k ∈ ns) → Q (.int (ks.length : Nat)) H1
theorem pe_lenSetU {a : Expr} {ta : TE} {p p2 q pos : Pos} (hg : Gl X "len") (hm : X.mg "len" = none) (hg2 : Gl X "set") (hm2 : X.mg "set" = none) (ha : PE X a ta) (calm : X.calm = true := by rfl)
    (na : starEach [a] X.env = (false, eval a X.env) :: starEach [] X.env := by rfl) : PE X (.Call (.Name "len" p) [.Call (.Name "set" p2) [a] [] q] [] pos) (tLenSetU X.K ta) := by
  constructor
  intro pins s σ H Q I h
  refine Call_ (ld_blt I hg hm boot_len (PyProof.Rows.callWith_builtin1 (PyProof.Rows.args_cons ?_ rfl) rfl rfl))
  refine Call_ (ld_blt I hg2 hm2 PyProof.Rows.boot_set (PyProof.Rows.callWith_type1 (PyProof.Rows.args_cons (thn (ha.run pins s σ H _ I h) fun v s1 ⟨x, H1, I1, r1, q1⟩ => PyProof.Rows.args_nil ?_) na) na rfl))
  obtain ⟨l, ns, ex, hq, hl, done⟩ := q1
  subst ex
  obtain rfl : v = Value.ref l := r1
  obtain ⟨its, rv, pt, hz⟩ := I1.tuple hq
  have hi : PyProof.Rows.IntsAre its.toArray.toList ns := by simpa using ints_of_vals rv
  refine call_set_tupI ns (I1.ok.hd calm) (show s1.heap.IsTuple l its.toArray from pt) hi (by unfold scanBound; omega) fun h' tk c R1 hcn kp => PyProof.Rows.args_nil ?_
  obtain ⟨o, es, ep, t, ho, hex, hdt, g, nd, mem, hb, hf, hn, hr, hl2⟩ := R1
  have I2 : Inv X pins σ H1 { s1 with heap := h', toks := tk } := I1.kept kp
  have le : (es.toList.map keyOf).length = es.size := by rw [List.length_map, Array.length_toList]
  refine call_len_set ho hex hdt hf (by omega) ⟨.int es.size, H1, I2.tok _, ⟨_, rfl⟩, ?_⟩
  rw [← le]
  exact done _ nd fun k => by rw [← mem k, decide_eq_true_eq]
end
/-! ### set(a list of whole numbers) -/
section
open PySem.Spec PyProof.Rows PySem.Calls
variable {P : Program} {w : World} {A : Around} {E : Value → Shared → Prop} {s : Shared}
set_option maxHeartbeats 4000000 in
theorem call_set_listR {l : Addr} {items : Array Value} (ns : List Int) {Q : Value → Shared → Prop} (hh : A.handled = none) (hl : s.heap.IsList l items) (hit : IntsAre items.toList ns) (hb : ns.length + 1 < scanBound)
    (h : ∀ (h' : Heap) (tk c : Nat), SetR w h' s.heap.objs.size (fun j => decide (j ∈ ns)) c → c ≤ ns.length → (∀ b o, s.heap.get? b = some o → h'.get? b = some o) → Q (.ref s.heap.objs.size) { s with heap := h', toks := tk }) :
    wpAny (model P w) A (call (.type "set") [.ref l]) Q E s := by
  have hisz : items.size = ns.length := by
    have q := IntsAre.length hit
    rw [Array.length_toList] at q
    exact q
  obtain ⟨c, tl, hmro⟩ := F.called_set.mro
  have hmade := F.called_set.made
  have hsub := F.called_set.sub
  refine wpAny_call (codeAny_of_tree ?_)
  show wpAny _ _ (callAny (.type "set") _) _ _ _
  refine wpAny_pure ⟨Code.quiet_builtin _ (by decide +kernel), codeAny_builtin F.entry_type_call ?_⟩
  rw [Around.under_plain (weight_type_call_type "set" [.ref l] []) rfl]
  have h1 := F.called_set.notType
  have h2 := F.called_set.canCreate
  have hct := F.typeCall_set_1 (.ref l)
  repeat (any_goals (first | assumption | wp_step))
  refine codeAny_mono (code_set_led1 (.ref l) (E := E) (Q₁ := fun obj s₁ => obj = .ref s.heap.objs.size ∧ s₁ = { s with heap := s.heap.push { cls := .type "set", dict := none, data := .set #[] 0 (.fresh 0 0 (!w.params.followText "set-order")) } }) ⟨rfl, rfl⟩) fun r s₁ hr => ?_
  cases r with
  | error e => exact hr
  | ok fl =>
    cases fl with
    | ret obj =>
      obtain ⟨rfl, rfl⟩ := hr
      have hS : (s.heap.push { cls := .type "set", dict := none, data := .set #[] 0 (.fresh 0 0 (!w.params.followText "set-order")) }).get? s.heap.objs.size = some { cls := .type "set", dict := none, data := .set #[] 0 (.fresh 0 0 (!w.params.followText "set-order")) } := Heap.get?_push_size _ rfl
      have hT : Shared.TypeIs { s with heap := s.heap.push { cls := .type "set", dict := none, data := .set #[] 0 (.fresh 0 0 (!w.params.followText "set-order")) } } (.ref s.heap.objs.size) "set" := ⟨_, hS, rfl⟩
      have hli := F.called_set.init.lookup
      have hbi := F.called_set.init.bind (.ref s.heap.objs.size)
      repeat (any_goals (first | assumption | wp_step))
      refine codeAny_mono (codeAny_call_builtin (R := wants (fun r s₂ => r = .none ∧ ∃ h' tk c, s₂ = { s with heap := h', toks := tk } ∧ SetR w h' s.heap.objs.size (fun j => decide (j ∈ ns)) c ∧ c ≤ ns.length ∧
          (∀ b o, s.heap.get? b = some o → h'.get? b = some o)) E) F.called_set.init.plain F.entry_set_init (check_set_init_1 hT ?_)) fun r₂ s₂ hr₂ => ?_
      · obtain ⟨ol, hol, hcl, nl, hdl⟩ := hl
        obtain ⟨ocls, odict, odata, oslots⟩ := ol
        simp only at hcl hdl
        subst hcl; subst hdl
        have hol' : (s.heap.push { cls := .type "set", dict := none, data := .set #[] 0 (.fresh 0 0 (!w.params.followText "set-order")) }).get? l = some { cls := .type "list", dict := odict, data := .seq items nl, slots := oslots } := Heap.get?_push_of_some _ hol
        have hsls := F.sub_list_set
        have hslf := F.sub_list_frozenset
        have hne : (Value.type "list" == Value.type "dict") = false := by decide
        have hl1 : (s.heap.push { cls := .type "set", dict := none, data := .set #[] 0 (.fresh 0 0 (!w.params.followText "set-order")) }).IsList l items := ⟨_, hol', rfl, nl, rfl⟩
        unfold Builtin.«set.__init__» noKeywords Builtin.Frozenset.updateFrom
        generalize hPI : pyIter = PI
        wp_walk
        subst hPI
        refine wpAny_pyIter_list hl1 ?_
        refine wpAny_bind (wpAny_runValue ?_)
        have hlS : l < s.heap.objs.size := Heap.lt_size hol
        have hh3 : A.in1.in1.in1.handled = none := by simp [hh]
        have hz1 : (s.heap.push { cls := .type "set", dict := none, data := .set #[] 0 (.fresh 0 0 (!w.params.followText "set-order")) }).objs.size = s.heap.objs.size + 1 := Heap.size_push ..
        have hneI : l ≠ (s.heap.push { cls := .type "set", dict := none, data := .set #[] 0 (.fresh 0 0 (!w.params.followText "set-order")) }).objs.size := by
          rw [Heap.size_push]; exact Nat.ne_of_lt (Nat.lt_succ_of_lt hlS)
        have hSf : s.heap.objs.size ∉ [(s.heap.push { cls := .type "set", dict := none, data := .set #[] 0 (.fresh 0 0 (!w.params.followText "set-order")) }).objs.size, l] := by
          rw [Heap.size_push]; simp only [List.mem_cons, List.mem_singleton, List.not_mem_nil, or_false, not_or]
          exact ⟨Nat.ne_of_lt (Nat.lt_succ_self _), Nat.ne_of_gt hlS⟩
        have hval : ∀ (i : Nat) (v : Value), items[i]? = some v → ∃ k t, ns[i]? = some k ∧ v = .int k t := fun i v hv => by
          have hi : i < ns.length := by rw [← hisz]; exact (Array.getElem?_eq_some_iff.mp hv).1
          obtain ⟨t, e⟩ := PyProof.Rows.IntsAre.int_at hit i v (by rw [Array.getElem?_toList]; exact hv)
          refine ⟨ns[i], t, List.getElem?_eq_getElem hi, ?_⟩
          rw [e, List.getD_eq_getElem?_getD, List.getElem?_eq_getElem hi] <;> rfl
        refine set_update_ints ((Walks.list hh3 _ l hneI items).toS) s.heap.objs.size
          hSf ns hisz hb hval (items.size - 0) 0 _ (by omega) (Nat.zero_le _)
          ⟨⟨_, Heap.get?_push_size _ rfl, rfl, rfl⟩, (hl1.push _)⟩ ?hS0 ?hR
        case hS0 =>
          have hget : ((s.heap.push { cls := .type "set", dict := none, data := .set #[] 0 (.fresh 0 0 (!w.params.followText "set-order")) }).push { cls := .type "list_iterator", data := .fields #[.ref l, .int 0 0] }).get? s.heap.objs.size
              = some { cls := .type "set", dict := none, data := .set #[] 0 (.fresh 0 0 (!w.params.followText "set-order")) } := Heap.get?_push_of_some _ hS
          exact ⟨0, Nat.le_refl 0, setR_new_at hget⟩
        case hR =>
          intro s' c' hm hc' hS'
          obtain ⟨h', g2, d', tk', os'⟩ := s'
          have eg : g2 = s.gens := hm.gens
          have ed : d' = s.drawn := hm.drawn
          have eo : os' = s.os := hm.os
          subst eg; subst ed; subst eo
          show wpAny _ _ _ _ _ _
          refine wpAny_pure ?_
          show wpAny _ _ (ret Value.none) _ _ _
          rw [hisz] at hc'
          refine wpAny_pure ⟨rfl, h', tk', c', rfl, hS', hc', fun b o e => ?_⟩
          have hb0 : b < s.heap.objs.size := Heap.lt_size e
          have hb1 : b ≠ s.heap.objs.size := Nat.ne_of_lt hb0
          have hb2 : b ≠ (s.heap.push { cls := .type "set", dict := none, data := .set #[] 0 (.fresh 0 0 (!w.params.followText "set-order")) }).objs.size := by
            rw [Heap.size_push]; exact Nat.ne_of_lt (Nat.lt_succ_of_lt hb0)
          exact hm.heap b o (by simp only [List.mem_cons, List.mem_singleton, List.not_mem_nil, or_false, not_or]; exact ⟨hb1, hb2⟩) (Heap.get?_push_of_some _ (Heap.get?_push_of_some _ e))
      · cases r₂ with
        | error e => exact hr₂
        | ok fl₂ =>
          cases fl₂ with
          | ret r =>
            obtain ⟨rfl, h', tk, c', rfl, hS', hc', hk'⟩ := hr₂
            repeat (any_goals (first | assumption | wp_step))
            exact h _ _ _ hS' hc' hk'
          | _ => exact hr₂.elim
    | _ => exact hr.elim
variable {X : Cx}
def rSetL (w : World) (K : PySem.W.Frag) : List V → Hp → VK → Prop := fun xs H Q => ∃ (a : Addr) (ns : List Int), xs = [.ref a] ∧ SqL K H a (ns.map V.int) ∧ ns.length ≤ 4000 ∧ ∀ (p : Addr) (c : Nat), c ≤ ns.length → (∃ ks : List Int, ks.Nodup ∧ ks.length = c ∧ ∀ k, k ∈ ks ↔ k ∈ ns) → H p = none → Q (.ref p) (upd H p (SetO w p (fun j => decide (j ∈ ns)) c))
theorem cr_setL (hc : X.calm = true) : CallR X (.type "set") (rSetL X.w X.K) := by
  intro pins s σ H xs us Q I r h
  obtain ⟨a, ns, rfl, hq, hl, q⟩ := h
  rw [Vals.ref1 r]
  obtain ⟨its, rv, pl, hz⟩ := I.list hq
  refine call_set_listR ns (I.ok.hd hc) pl.isList (by simpa using ints_of_vals rv) (by unfold scanBound; omega) fun h' tk c R hc' k => ?_
  have nw : H s.heap.objs.size = none := I.hok.fresh (Nat.le_refl _)
  have kk : ∃ ks : List Int, ks.Nodup ∧ ks.length = c ∧ ∀ k, k ∈ ks ↔ k ∈ ns := by
    obtain ⟨o, es, ep, t, ho, hex, hd, g, nd, mem, hb, hf, hn, hr, hl2⟩ := R
    exact ⟨es.toList.map keyOf, nd, by rw [List.length_map, Array.length_toList]; exact hn, fun k => by rw [← mem k, decide_eq_true_eq]⟩
  exact ⟨.ref _, _, I.laid (t' := tk) k (Nat.le_refl _) (setO_new R), rfl, q _ c hc' kk nw⟩
end
/-! ### enumerate(a tuple) -/
section
open PySem.Spec PyProof.Rows PySem.Calls
set_option maxHeartbeats 4000000 in
theorem meets_enum1 {v : Value} {o : Obj} {HH : Heap → Prop} (B : Begins v o HH) :
    Meets (Builtin.«enumerate.__new__» ⟨[.type "enumerate", v], []⟩) (fun _ R s => HH s.heap ∧
      R (.ok (.ret (.ref (s.heap.push o).objs.size))) { s with heap := (s.heap.push o).push { cls := .type "enumerate", data := .fields #[.none, .bool false, .ref s.heap.objs.size, rawInt 0, .none, .none] } }) :=
  .of_wp fun prog w A R s both => by
    obtain ⟨hp, g, d, tk, os⟩ := s
    obtain ⟨h1, h⟩ := both
    have hsub := sub_enumerate
    have it1 : ∀ {A' : Around} {E : Value → Shared → Prop} {Q : Value → Shared → Prop}, Q (.ref hp.objs.size) ⟨hp.push o, g, d, tk, os⟩ → wpAny (model prog w) A' (pyIter v) Q E ⟨hp, g, d, tk, os⟩ := fun q => B.iter prog w _ _ ⟨hp, g, d, tk, os⟩ _ h1 q
    wp_walk using it1
    refine wpAny_stack_any fun st => wpAny_pure ?_
    split
    · rename_i c _ _ _ _ _
      cases (c == Value.type "enumerate") <;> (wp_walk using it1; exact ⟨_, rfl, h⟩)
    · wp_walk using it1
      exact ⟨_, rfl, h⟩
section
variable {prog : Program} {w : World} {A : Around} {E : Value → Shared → Prop} {s : Shared}
theorem call_enum1 {v : Value} {o : Obj} {HH : Heap → Prop} {Q : Value → Shared → Prop} (B : Begins v o HH) (h1 : HH s.heap)
    (fin : ∀ h', IsEnum h' (s.heap.objs.size + 1) s.heap.objs.size 0 .none → h'.get? s.heap.objs.size = some o → h'.objs.size = s.heap.objs.size + 2 → (∀ b u, s.heap.get? b = some u → h'.get? b = some u) → Q (.ref (s.heap.objs.size + 1)) { s with heap := h' }) :
    wpAny (model prog w) A (call (.type "enumerate") [v]) Q E s := by
  refine callType_new F.called_enumerate (by decide) (F.typeCall_enumerate_1 _) (F.newCall_enumerate_1 _) (fun obj => F.args_object_init_2 obj _) F.entry_enumerate_new (meets_enum1 B) ⟨h1, ?_⟩
  have hz : (s.heap.push o).objs.size = s.heap.objs.size + 1 := Heap.size_push ..
  show _ ∧ _
  rw [hz]
  have he : ((s.heap.push o).push { cls := .type "enumerate", data := .fields #[.none, .bool false, .ref s.heap.objs.size, rawInt 0, .none, .none] }).get? (s.heap.objs.size + 1) = some { cls := .type "enumerate", data := .fields #[.none, .bool false, .ref s.heap.objs.size, rawInt 0, .none, .none] } := by
    rw [← hz]
    exact Heap.get?_push_size (s.heap.push o) rfl
  exact ⟨⟨_, he, rfl⟩, fin _ he (Heap.get?_push_of_some _ (Heap.get?_push_size _ B.free)) (by rw [Heap.size_push, hz]) fun b u x => Heap.get?_push_of_some _ (Heap.get?_push_of_some _ x)⟩
end
/-- a tuple's iterator behind its end -/
theorem draws_end {prog : Program} {w : World} {A : Around} (calm : A.handled = none) (it t : Addr) (items : Array Value) (i : Nat) (hi : items[i]? = none) :
    Draws prog w A it [it, t] i (fun _ _ => True) (fun j h => j = i ∧ h.IsTupleIter it t j ∧ h.IsTuple t items) where
  live := fun _ _ st => let ⟨o, ho, _⟩ := st.2.1; ⟨o, ho⟩
  frame := fun _ _ _ st hk => ⟨st.1, st.2.1.at fun o e => hk it (by simp) o e, st.2.2.at fun o e => hk t (by simp) o e⟩
  item := fun j s Q E hj st _ => absurd st.1 (Nat.ne_of_lt hj)
  done := fun s Q E st hE => wpAny_nextOf_tuple_end calm st.2.1 st.2.2 hi hE
/-- the tuple at a, each item in a new pair -/
def IteT (K : PySem.W.Frag) (a : Addr) : It :=
  ⟨fun i H => ∃ (xs : List V) (x : V), SqT K H a xs ∧ xs[i]? = some x, fun i H v H' => ∃ T x, v = .ref T ∧ H T = none ∧ H' = upd H T (.tup [.int (i : Nat), x]) ∧ ∀ xs, SqT K H a xs → xs[i]? = some x, fun i H => ∃ xs : List V, SqT K H a xs ∧ xs.length ≤ i⟩
theorem turn_enumT {P : Program} {w : World} {K : PySem.W.Frag} {elts : List Expr} {kk : Nat} {tpos : Pos} (a e it : Addr) :
    Turn P w K (.Tuple elts kk tpos) (IteT K a) [e, it] e (fun i h => (∃ old, IsEnum h e it ((i : Nat) : Int) old) ∧ h.IsTupleIter it a i ∧ e ≠ it ∧ e ≠ a ∧ it ≠ a) where
  mem := by simp
  obj := fun i h st b hb => by
    obtain ⟨⟨old, he⟩, ⟨o, ho, hc, hd⟩, _⟩ := st
    rcases List.mem_cons.mp hb with z | z
    · subst z
      exact ⟨_, he, fun v q => nomatch q⟩
    · have z2 := List.mem_singleton.mp z
      subst z2
      exact ⟨o, ho, fun v q => by rw [hd] at q; cases q⟩
  keep := fun i h h' st k => let ⟨⟨old, he⟩, hi, hne⟩ := st; ⟨⟨old, k e (by simp) _ he⟩, hi.at fun o q => k it (by simp) o q, hne⟩
  item := by
    intro X hP hw hK calm i pins s σ H E I hf st hg
    subst hP hw hK
    obtain ⟨⟨old, he⟩, hit, n1, n2, n3⟩ := st
    obtain ⟨xs, x, hq, hx⟩ := hg
    obtain ⟨its, rv, p, hz⟩ := I.tuple hq
    obtain ⟨u, hu, ru⟩ := rv.get hx
    have hel : e < s.heap.objs.size := Heap.lt_size he
    have hil : it < s.heap.objs.size := by obtain ⟨_, q, _⟩ := hit; exact Heap.lt_size q
    have ilt : i < its.toArray.size := by rw [List.size_toArray]; exact (List.getElem?_eq_some_iff.mp hu).1
    have D := Draws.tuple (prog := X.prog) (w := X.w) (A := X.A.in1) (by simpa using I.ok.hd calm) it a (Ne.symm n3) its.toArray
    refine wpAny_pyNext_enum_itemD D he ⟨hit, p⟩ ilt n1 (by simp [n1, n2]) fun y h' tk hy ho hst hT hsz hk => ?_
    have ey : y = u := by
      have q : its[i]? = some y := by simpa using hy
      rw [hu] at q
      exact (Option.some.inj q).symm
    subst ey
    refine ⟨_, rfl, wpAny_letOwnedTupleGo_enum (s := { s with heap := h', toks := tk + 1 }) ho fun h2 he2 sb => ?_⟩
    have nT : h2.get? s.heap.objs.size = some { cls := .type "tuple", data := .seq #[.int i tk, y] } := (sb.2 _ (Nat.ne_of_gt hel)).trans hT
    have mk : ObjOk X.prog X.w (upd H s.heap.objs.size (.tup [.int (i : Nat), x])) h2 s.heap.objs.size (.tup [.int (i : Nat), x]) :=
      ⟨by show 2 ≤ sizeLine; decide, [.int i tk, y], .cons ⟨_, rfl⟩ (.cons ru .nil), ⟨_, nT, rfl, _, rfl⟩⟩
    have I1 : Inv X pins σ (upd H s.heap.objs.size (.tup [.int (i : Nat), x])) { s with heap := h2, toks := tk + 1 } :=
      I.turnedNew (ch := [e, it]) (fun b ob hb q => (sb.2 b (fun z => hb (by simp [z]))).trans (hk b ob (fun z => hb (by simp [z])) (fun z => hb (by simp [z])) q)) hf (Nat.le_refl _) mk
    refine ⟨.ref s.heap.objs.size, _, I1, rfl, ⟨_, x, rfl, I.hok.fresh (Nat.le_refl _), rfl, fun ys hy2 => by rw [I.tuple_inj hy2 hq]; exact hx⟩, ⟨⟨y, ?_⟩, hst.1.at fun o q => (sb.2 it (Ne.symm n1)).trans q, n1, n2, n3⟩, fun b hb => ?_⟩
    · rw [show ((i + 1 : Nat) : Int) = (i : Int) + 1 by omega]
      exact he2
    · have lt : b < s.heap.objs.size := by
        rcases List.mem_cons.mp hb with z | z
        · rw [z]; exact hel
        · rw [List.mem_singleton.mp z]; exact hil
      rw [upd_ne (Nat.ne_of_lt lt)]
      exact (hf b hb).1
  done := by
    intro X hP hw hK calm i pins s σ H E I hf st hg
    subst hP hw hK
    obtain ⟨⟨old, he⟩, hit, n1, n2, n3⟩ := st
    obtain ⟨xs, hq, hx⟩ := hg
    obtain ⟨its, rv, p, hz⟩ := I.tuple hq
    obtain ⟨f0, f1, f2, f3, f4, f5⟩ := hf it (by simp)
    have hl := rv.length
    have over : its.toArray[i]? = none := by simp; omega
    exact wpAny_pyNext_enum_endD (draws_end (by simpa using I.ok.hd calm) it a its.toArray i over) he ⟨rfl, hit, p⟩ fun h' eb => ⟨rfl, I.turned (t' := s.toks) (fun b o hb q => eb b o hb q) f0 f1 f3 f4 f5⟩
  self := fun A i s Q E st h => let ⟨⟨_, he⟩, _⟩ := st; wpAny_pyIter_enum he h
def iEnumT (K : PySem.W.Frag) (ta : TA) : TI := fun σ H R => ta σ H fun vs H1 => ∃ a xs, vs = [.ref a] ∧ SqT K H1 a xs ∧ R (IteT K a) H1
theorem pi_enumT {X : Cx} {e : Expr} {ta : TA} {p pos tpos : Pos} {elts : List Expr} {kk : Nat} (hg : Gl X "enumerate") (hm : X.mg "enumerate" = none) (ha : PA X [e] ta) (hs : starEach [e] X.env = [(false, eval e X.env)] := by rfl) :
    PI X (.Tuple elts kk tpos) (.Call (.Name "enumerate" p) [e] [] pos) (iEnumT X.K ta) := by
  constructor
  intro pins s σ H R I h
  refine Call_ (ld_blt I hg hm boot_enumerate (PyProof.Rows.callWith_type1 (thn (ha.run pos pins s σ H _ I h) fun us s1 ⟨vs, H1, I1, r1, q1⟩ => ?_) hs rfl))
  obtain ⟨a, xs, ex, hq, q⟩ := q1
  subst ex
  cases r1 with
  | cons r rr =>
    cases rr
    cases r
    obtain ⟨its, rv, tp, hz⟩ := I1.tuple hq
    have al : a < s1.heap.objs.size := by obtain ⟨_, q, _⟩ := tp; exact Heap.lt_size q
    refine call_enum1 (begins_tuple a its.toArray) (show s1.heap.IsTuple a its.toArray from tp) fun h' he hit hsz hk => wpAny_pyIter_enum he ?_
    have I2 : Inv X pins σ H1 { s1 with heap := h' } := I1.kept (t' := s1.toks) hk
    refine ⟨s1.heap.objs.size + 1, [s1.heap.objs.size + 1, s1.heap.objs.size], _, _, H1, rfl, I2, turn_enumT a (s1.heap.objs.size + 1) s1.heap.objs.size, ⟨⟨.none, he⟩, ⟨_, hit, rfl, rfl⟩, Nat.succ_ne_self _, Nat.ne_of_gt (Nat.lt_succ_of_lt al), Nat.ne_of_gt al⟩, fun b hb => ?_, q⟩
    have le : s1.heap.objs.size ≤ b := by
      rcases List.mem_cons.mp hb with z | z
      · rw [z]; exact Nat.le_add_right _ _
      · rw [List.mem_singleton.mp z]; exact Nat.le_refl _
    exact I1.fpOk le (I1.hok.fresh le)
theorem for_enumT {K : PySem.W.Frag} {a : Addr} {xs : List V} {g : TG} {tb : TS} {D : Ends} {σ : L2.St} {H : Hp} (Pv : Nat → L2.St → Hp → Prop) (h0 : Pv 0 σ H) (hq : ∀ i σ H, Pv i σ H → SqT K H a xs)
    (hs : ∀ (i : Nat) (x : V) (t : Addr) (σ : L2.St) (H : Hp), xs[i]? = some x → Pv i σ H → H t = none → g (.ref t) σ (upd H t (.tup [.int (i : Nat), x])) fun σ2 H2 => tb { D with nx := Pv (i + 1), ct := Pv (i + 1), bk := D.nx } σ2 H2)
    (hd : ∀ σ H, Pv xs.length σ H → D.nx σ H) : ∃ W : Nat → Nat → L2.St → Hp → Prop, (∃ m, W 0 m σ H) ∧ ∀ i m σ H, W i m σ H →
      ((IteT K a).stop i H ∧ D.nx σ H) ∨ ((IteT K a).go i H ∧ ∃ N : L2.St → Hp → Prop, (∀ σ' H', N σ' H' → ∃ m', m' < m ∧ W (i + 1) m' σ' H') ∧ ∀ v H', (IteT K a).yld i H v H' → g v σ H' fun σ2 H2 => tb { D with nx := N, ct := N, bk := D.nx } σ2 H2) := by
  refine ⟨fun i m σ H => m = xs.length - i ∧ i ≤ xs.length ∧ Pv i σ H, ⟨_, rfl, Nat.zero_le _, h0⟩, ?_⟩
  rintro i m σ H ⟨rfl, hi, p⟩
  have q := hq i σ H p
  by_cases lt : i < xs.length
  · refine .inr ⟨⟨xs, _, q, List.getElem?_eq_getElem lt⟩, Pv (i + 1), fun σ' H' p2 => ⟨_, by omega, rfl, lt, p2⟩, fun v H' y => ?_⟩
    obtain ⟨t, x, rfl, nt, rfl, f⟩ := y
    exact hs i x t σ H (f xs q) p nt
  · have e : i = xs.length := by omega
    subst e
    exact .inl ⟨⟨xs, q, Nat.le_refl _⟩, hd σ H p⟩
end
/-! ### x |= e -/
theorem ip_or {X : Cx} : PIp X .BitOr (ipI fun i j => Builtin.bitOr i j) := by
  intro pins s σ H x y v u Q I r1 r2 h
  exact iop_or pins s σ H x y v u Q I r1 r2 h
/-! ### comprehensions -/
theorem filterMap_range_succ {α : Type} (f : Nat → Option α) (n : Nat) : (List.range (n + 1)).filterMap f = (List.range n).filterMap f ++ (f n).toList := by
  rw [List.range_succ, List.filterMap_append]
  cases e : f n with
  | none => simp [e]
  | some v => simp [e]
theorem filterMap_range_len {α : Type} (f : Nat → Option α) (n : Nat) : ((List.range n).filterMap f).length ≤ n := by
  have h := List.length_filterMap_le f (List.range n)
  rw [List.length_range] at h
  exact h
theorem lt_line {n : Nat} (h : n ≤ 100000) : n < sizeLine := Nat.lt_of_le_of_lt h (by decide)
theorem lc_rangeF {lo : Int} {n : Nat} {g : TG} {tt : TT} {te : TE} {vs : List Nat} {σ : St} {H1 : Hp} {D : Addr} {Qd : Hp → Prop} (f : Nat → Option V) (nD : H1 D = none) (hn : n ≤ 100000)
    (hs : ∀ (i : Nat) (H : Hp) (N : V → Hp → Prop) (M : Hp → Prop), i < n → Same H1 H → (∀ v H4, f i = some v → Same H H4 → N v H4) → (∀ H4, f i = none → Same H H4 → M H4) → g (.int (lo + (i : Int))) (wipe σ vs) H fun σ2 H2 => wipe σ2 vs = wipe σ vs ∧ tt σ2 H2 fun b H3 => if b = true then te σ2 H3 N else M H3)
    (hd : ∀ H, Same H1 H → H D = some (.lst ((List.range n).filterMap f)) → Qd H) : ∃ W : Nat → Nat → Hp → Prop, (∃ m, W 0 m (upd H1 D (.lst []))) ∧ ∀ i m H, W i m H →
      ((Itr lo n).stop i H ∧ Qd H) ∨ ((Itr lo n).go i H ∧ ∃ Nx : Hp → Prop, (∀ H', Nx H' → ∃ m', m' < m ∧ W (i + 1) m' H') ∧ ∀ x H', (Itr lo n).yld i H x H' → g x (wipe σ vs) H' fun σ2 H2 => wipe σ2 vs = wipe σ vs ∧ tt σ2 H2 fun b H3 =>
        if b = true then te σ2 H3 fun y H4 => ∃ acc, H4 D = some (.lst acc) ∧ acc.length < sizeLine ∧ Nx (upd H4 D (.lst (acc ++ [y]))) else Nx H3) := by
  refine lc_range (lo := lo) (n := n) (fun i H => Same H1 H ∧ H D = some (.lst ((List.range i).filterMap f))) ⟨Same.new (Same.refl H1) nD, upd_same⟩ (fun i H hi p => ?_) (fun H p => hd H p.1 p.2)
  have il : i < n := hi
  have hz := filterMap_range_len f i
  refine hs i H _ _ hi p.1 (fun v H4 e s => ⟨_, s _ _ p.2, lt_line (by omega), ?_, ?_⟩) (fun H4 e s => ⟨?_, ?_⟩)
  · exact Same.mut (Same.trans p.1 s) nD
  · rw [filterMap_range_succ, e]
    exact upd_same
  · exact Same.trans p.1 s
  · rw [filterMap_range_succ, e, s _ _ p.2]
    simp
theorem lc_rangeM {lo : Int} {n : Nat} {g : TG} {tt : TT} {te : TE} {vs : List Nat} {σ : St} {H1 : Hp} {D : Addr} {Qd : Hp → Prop} {τ : Tp} (R : Nat → V → Hp → Prop) (st : ∀ i v H H', R i v H → TK H H' → R i v H') (t : Tape τ H1) (nD : H1 D = none) (hn : n ≤ 100000)
    (hs : ∀ (i : Nat) (H : Hp) (N : V → Hp → Prop) (M : Hp → Prop), i < n → Mv τ H1 H → (∀ v H4, Mv τ H H4 → R i v H4 → N v H4) → g (.int (lo + (i : Int))) (wipe σ vs) H fun σ2 H2 => wipe σ2 vs = wipe σ vs ∧ tt σ2 H2 fun b H3 => if b = true then te σ2 H3 N else M H3)
    (hd : ∀ H acc, Mv τ H1 H → H D = some (.lst acc) → acc.length = n → (∀ (j : Nat) v, acc[j]? = some v → R j v H) → Qd H) : ∃ W : Nat → Nat → Hp → Prop, (∃ m, W 0 m (upd H1 D (.lst []))) ∧ ∀ i m H, W i m H →
      ((Itr lo n).stop i H ∧ Qd H) ∨ ((Itr lo n).go i H ∧ ∃ Nx : Hp → Prop, (∀ H', Nx H' → ∃ m', m' < m ∧ W (i + 1) m' H') ∧ ∀ x H', (Itr lo n).yld i H x H' → g x (wipe σ vs) H' fun σ2 H2 => wipe σ2 vs = wipe σ vs ∧ tt σ2 H2 fun b H3 =>
        if b = true then te σ2 H3 fun y H4 => ∃ acc, H4 D = some (.lst acc) ∧ acc.length < sizeLine ∧ Nx (upd H4 D (.lst (acc ++ [y]))) else Nx H3) := by
  refine lc_range (lo := lo) (n := n) (fun i H => Mv τ H1 H ∧ ∃ acc, H D = some (.lst acc) ∧ acc.length = i ∧ ∀ (j : Nat) v, acc[j]? = some v → R j v H) ⟨(t.mv).new nD, [], upd_same, rfl, fun j v e => by simp at e⟩ (fun i H hi p => ?_) (fun H p => ?_)
  · obtain ⟨m, acc, hD, hlen, hR⟩ := p
    have il : i < n := hi
    refine hs i H _ _ hi m (fun v H4 m4 r => ⟨acc, m4.keep _ _ (t.mv.neF nD) hD, lt_line (by omega), (m.trans m4).mut nD, acc ++ [v], upd_same, by rw [List.length_append, hlen]; rfl, fun j u e => ?_⟩)
    have k1 : TK H4 (upd H4 D (.lst (acc ++ [v]))) := TK.mut (m4.keep _ _ (t.mv.neF nD) hD)
    by_cases hj : j < acc.length
    · rw [List.getElem?_append_left hj] at e
      exact st _ _ _ _ (st _ _ _ _ (hR j u e) m4.tk) k1
    · rw [List.getElem?_append_right (by omega)] at e
      have hj2 : j = i := by
        have q := (List.getElem?_eq_some_iff.mp e).1
        rw [List.length_singleton] at q
        omega
      rw [hj2, hlen, Nat.sub_self] at e
      have e2 : v = u := Option.some.inj e
      rw [← e2, hj2]
      exact st _ _ _ _ r k1
  · obtain ⟨m, acc, hD, hlen, hR⟩ := p
    exact hd H acc m hD hlen hR
theorem lc_listF {K : PySem.W.Frag} {a : Addr} {xs : List V} {g : TG} {tt : TT} {te : TE} {vs : List Nat} {σ : St} {H1 : Hp} {D : Addr} {Qd : Hp → Prop} (f : Nat → Option V) (hx : H1 a = some (.lst xs)) (nD : H1 D = none) (hn : xs.length ≤ 100000)
    (hs : ∀ (i : Nat) (x : V) (H : Hp) (N : V → Hp → Prop) (M : Hp → Prop), xs[i]? = some x → Same H1 H → (∀ v H4, f i = some v → Same H H4 → N v H4) → (∀ H4, f i = none → Same H H4 → M H4) → g x (wipe σ vs) H fun σ2 H2 => wipe σ2 vs = wipe σ vs ∧ tt σ2 H2 fun b H3 => if b = true then te σ2 H3 N else M H3)
    (hd : ∀ H, Same H1 H → H D = some (.lst ((List.range xs.length).filterMap f)) → Qd H) : ∃ W : Nat → Nat → Hp → Prop, (∃ m, W 0 m (upd H1 D (.lst []))) ∧ ∀ i m H, W i m H →
      ((Itl K a).stop i H ∧ Qd H) ∨ ((Itl K a).go i H ∧ ∃ Nx : Hp → Prop, (∀ H', Nx H' → ∃ m', m' < m ∧ W (i + 1) m' H') ∧ ∀ x H', (Itl K a).yld i H x H' → g x (wipe σ vs) H' fun σ2 H2 => wipe σ2 vs = wipe σ vs ∧ tt σ2 H2 fun b H3 =>
        if b = true then te σ2 H3 fun y H4 => ∃ acc, H4 D = some (.lst acc) ∧ acc.length < sizeLine ∧ Nx (upd H4 D (.lst (acc ++ [y]))) else Nx H3) := by
  refine lc_list (K := K) (a := a) (xs := xs) (fun i H => Same H1 H ∧ H D = some (.lst ((List.range i).filterMap f))) ⟨Same.new (Same.refl H1) nD, upd_same⟩ (fun i H _ p => SqL.of (p.1 _ _ hx)) (fun i x H hi p => ?_) (fun H p => hd H p.1 p.2)
  have il : i < xs.length := (List.getElem?_eq_some_iff.mp hi).1
  have hz := filterMap_range_len f i
  refine hs i x H _ _ hi p.1 (fun v H4 e s => ⟨_, s _ _ p.2, lt_line (by omega), ?_, ?_⟩) (fun H4 e s => ⟨?_, ?_⟩)
  · exact Same.mut (Same.trans p.1 s) nD
  · rw [filterMap_range_succ, e]
    exact upd_same
  · exact Same.trans p.1 s
  · rw [filterMap_range_succ, e, s _ _ p.2]
    simp
theorem lc_listM {K : PySem.W.Frag} {a : Addr} {xs : List V} {g : TG} {tt : TT} {te : TE} {vs : List Nat} {σ : St} {H1 : Hp} {D : Addr} {Qd : Hp → Prop} {τ : Tp} (R : Nat → V → Hp → Prop) (st : ∀ i v H H', R i v H → TK H H' → R i v H') (hx : H1 a = some (.lst xs)) (ne_a : a ≠ τ.t) (t : Tape τ H1) (nD : H1 D = none) (hn : xs.length ≤ 100000)
    (hs : ∀ (i : Nat) (x : V) (H : Hp) (N : V → Hp → Prop) (M : Hp → Prop), xs[i]? = some x → Mv τ H1 H → (∀ v H4, Mv τ H H4 → R i v H4 → N v H4) → g x (wipe σ vs) H fun σ2 H2 => wipe σ2 vs = wipe σ vs ∧ tt σ2 H2 fun b H3 => if b = true then te σ2 H3 N else M H3)
    (hd : ∀ H acc, Mv τ H1 H → H D = some (.lst acc) → acc.length = xs.length → (∀ (j : Nat) v, acc[j]? = some v → R j v H) → Qd H) : ∃ W : Nat → Nat → Hp → Prop, (∃ m, W 0 m (upd H1 D (.lst []))) ∧ ∀ i m H, W i m H →
      ((Itl K a).stop i H ∧ Qd H) ∨ ((Itl K a).go i H ∧ ∃ Nx : Hp → Prop, (∀ H', Nx H' → ∃ m', m' < m ∧ W (i + 1) m' H') ∧ ∀ x H', (Itl K a).yld i H x H' → g x (wipe σ vs) H' fun σ2 H2 => wipe σ2 vs = wipe σ vs ∧ tt σ2 H2 fun b H3 =>
        if b = true then te σ2 H3 fun y H4 => ∃ acc, H4 D = some (.lst acc) ∧ acc.length < sizeLine ∧ Nx (upd H4 D (.lst (acc ++ [y]))) else Nx H3) := by
  refine lc_list (K := K) (a := a) (xs := xs) (fun i H => Mv τ H1 H ∧ ∃ acc, H D = some (.lst acc) ∧ acc.length = i ∧ ∀ (j : Nat) v, acc[j]? = some v → R j v H) ⟨(t.mv).new nD, [], upd_same, rfl, fun j v e => by simp at e⟩ (fun i H _ p => SqL.of (p.1.keep _ _ ne_a hx)) (fun i x H hi p => ?_) (fun H p => ?_)
  · obtain ⟨m, acc, hD, hlen, hR⟩ := p
    have il : i < xs.length := (List.getElem?_eq_some_iff.mp hi).1
    refine hs i x H _ _ hi m (fun v H4 m4 r => ⟨acc, m4.keep _ _ (t.mv.neF nD) hD, lt_line (by omega), (m.trans m4).mut nD, acc ++ [v], upd_same, by rw [List.length_append, hlen]; rfl, fun j u e => ?_⟩)
    have k1 : TK H4 (upd H4 D (.lst (acc ++ [v]))) := TK.mut (m4.keep _ _ (t.mv.neF nD) hD)
    by_cases hj : j < acc.length
    · rw [List.getElem?_append_left hj] at e
      exact st _ _ _ _ (st _ _ _ _ (hR j u e) m4.tk) k1
    · rw [List.getElem?_append_right (by omega)] at e
      have hj2 : j = i := by
        have q := (List.getElem?_eq_some_iff.mp e).1
        rw [List.length_singleton] at q
        omega
      rw [hj2, hlen, Nat.sub_self] at e
      have e2 : v = u := Option.some.inj e
      rw [← e2, hj2]
      exact st _ _ _ _ r k1
  · obtain ⟨m, acc, hD, hlen, hR⟩ := p
    exact hd H acc m hD hlen hR
theorem lc_tupF {K : PySem.W.Frag} {a : Addr} {xs : List V} {g : TG} {tt : TT} {te : TE} {vs : List Nat} {σ : St} {H1 : Hp} {D : Addr} {Qd : Hp → Prop} (f : Nat → Option V) (hx : H1 a = some (.tup xs)) (nD : H1 D = none) (hn : xs.length ≤ 100000)
    (hs : ∀ (i : Nat) (x : V) (H : Hp) (N : V → Hp → Prop) (M : Hp → Prop), xs[i]? = some x → Same H1 H → (∀ v H4, f i = some v → Same H H4 → N v H4) → (∀ H4, f i = none → Same H H4 → M H4) → g x (wipe σ vs) H fun σ2 H2 => wipe σ2 vs = wipe σ vs ∧ tt σ2 H2 fun b H3 => if b = true then te σ2 H3 N else M H3)
    (hd : ∀ H, Same H1 H → H D = some (.lst ((List.range xs.length).filterMap f)) → Qd H) : ∃ W : Nat → Nat → Hp → Prop, (∃ m, W 0 m (upd H1 D (.lst []))) ∧ ∀ i m H, W i m H →
      ((Itt K a).stop i H ∧ Qd H) ∨ ((Itt K a).go i H ∧ ∃ Nx : Hp → Prop, (∀ H', Nx H' → ∃ m', m' < m ∧ W (i + 1) m' H') ∧ ∀ x H', (Itt K a).yld i H x H' → g x (wipe σ vs) H' fun σ2 H2 => wipe σ2 vs = wipe σ vs ∧ tt σ2 H2 fun b H3 =>
        if b = true then te σ2 H3 fun y H4 => ∃ acc, H4 D = some (.lst acc) ∧ acc.length < sizeLine ∧ Nx (upd H4 D (.lst (acc ++ [y]))) else Nx H3) := by
  refine lc_tup (K := K) (a := a) (xs := xs) (fun i H => Same H1 H ∧ H D = some (.lst ((List.range i).filterMap f))) ⟨Same.new (Same.refl H1) nD, upd_same⟩ (fun i H _ p => SqT.of (p.1 _ _ hx)) (fun i x H hi p => ?_) (fun H p => hd H p.1 p.2)
  have il : i < xs.length := (List.getElem?_eq_some_iff.mp hi).1
  have hz := filterMap_range_len f i
  refine hs i x H _ _ hi p.1 (fun v H4 e s => ⟨_, s _ _ p.2, lt_line (by omega), ?_, ?_⟩) (fun H4 e s => ⟨?_, ?_⟩)
  · exact Same.mut (Same.trans p.1 s) nD
  · rw [filterMap_range_succ, e]
    exact upd_same
  · exact Same.trans p.1 s
  · rw [filterMap_range_succ, e, s _ _ p.2]
    simp
theorem lc_tupM {K : PySem.W.Frag} {a : Addr} {xs : List V} {g : TG} {tt : TT} {te : TE} {vs : List Nat} {σ : St} {H1 : Hp} {D : Addr} {Qd : Hp → Prop} {τ : Tp} (R : Nat → V → Hp → Prop) (st : ∀ i v H H', R i v H → TK H H' → R i v H') (hx : H1 a = some (.tup xs)) (ne_a : a ≠ τ.t) (t : Tape τ H1) (nD : H1 D = none) (hn : xs.length ≤ 100000)
    (hs : ∀ (i : Nat) (x : V) (H : Hp) (N : V → Hp → Prop) (M : Hp → Prop), xs[i]? = some x → Mv τ H1 H → (∀ v H4, Mv τ H H4 → R i v H4 → N v H4) → g x (wipe σ vs) H fun σ2 H2 => wipe σ2 vs = wipe σ vs ∧ tt σ2 H2 fun b H3 => if b = true then te σ2 H3 N else M H3)
    (hd : ∀ H acc, Mv τ H1 H → H D = some (.lst acc) → acc.length = xs.length → (∀ (j : Nat) v, acc[j]? = some v → R j v H) → Qd H) : ∃ W : Nat → Nat → Hp → Prop, (∃ m, W 0 m (upd H1 D (.lst []))) ∧ ∀ i m H, W i m H →
      ((Itt K a).stop i H ∧ Qd H) ∨ ((Itt K a).go i H ∧ ∃ Nx : Hp → Prop, (∀ H', Nx H' → ∃ m', m' < m ∧ W (i + 1) m' H') ∧ ∀ x H', (Itt K a).yld i H x H' → g x (wipe σ vs) H' fun σ2 H2 => wipe σ2 vs = wipe σ vs ∧ tt σ2 H2 fun b H3 =>
        if b = true then te σ2 H3 fun y H4 => ∃ acc, H4 D = some (.lst acc) ∧ acc.length < sizeLine ∧ Nx (upd H4 D (.lst (acc ++ [y]))) else Nx H3) := by
  refine lc_tup (K := K) (a := a) (xs := xs) (fun i H => Mv τ H1 H ∧ ∃ acc, H D = some (.lst acc) ∧ acc.length = i ∧ ∀ (j : Nat) v, acc[j]? = some v → R j v H) ⟨(t.mv).new nD, [], upd_same, rfl, fun j v e => by simp at e⟩ (fun i H _ p => SqT.of (p.1.keep _ _ ne_a hx)) (fun i x H hi p => ?_) (fun H p => ?_)
  · obtain ⟨m, acc, hD, hlen, hR⟩ := p
    have il : i < xs.length := (List.getElem?_eq_some_iff.mp hi).1
    refine hs i x H _ _ hi m (fun v H4 m4 r => ⟨acc, m4.keep _ _ (t.mv.neF nD) hD, lt_line (by omega), (m.trans m4).mut nD, acc ++ [v], upd_same, by rw [List.length_append, hlen]; rfl, fun j u e => ?_⟩)
    have k1 : TK H4 (upd H4 D (.lst (acc ++ [v]))) := TK.mut (m4.keep _ _ (t.mv.neF nD) hD)
    by_cases hj : j < acc.length
    · rw [List.getElem?_append_left hj] at e
      exact st _ _ _ _ (st _ _ _ _ (hR j u e) m4.tk) k1
    · rw [List.getElem?_append_right (by omega)] at e
      have hj2 : j = i := by
        have q := (List.getElem?_eq_some_iff.mp e).1
        rw [List.length_singleton] at q
        omega
      rw [hj2, hlen, Nat.sub_self] at e
      have e2 : v = u := Option.some.inj e
      rw [← e2, hj2]
      exact st _ _ _ _ r k1
  · obtain ⟨m, acc, hD, hlen, hR⟩ := p
    exact hd H acc m hD hlen hR
/-! ### comprehensions over zip -/
theorem lc_zipLF {K : PySem.W.Frag} {a b : Addr} {xs ys : List V} {g : TG} {tt : TT} {te : TE} {vs : List Nat} {σ : St} {H1 : Hp} {D : Addr} {Qd : Hp → Prop} (f : Nat → Option V) (hx : H1 a = some (.lst xs)) (hy : H1 b = some (.lst ys)) (hl : xs.length = ys.length) (nD : H1 D = none) (hn : xs.length ≤ 100000)
    (hs : ∀ (i : Nat) (x y : V) (Z : Addr) (H : Hp) (N : V → Hp → Prop) (M : Hp → Prop), xs[i]? = some x → ys[i]? = some y → Same H1 H → H Z = some (.tup [x, y]) → (∀ v H4, f i = some v → Same H H4 → N v H4) → (∀ H4, f i = none → Same H H4 → M H4) → g (.ref Z) (wipe σ vs) H fun σ2 H2 => wipe σ2 vs = wipe σ vs ∧ tt σ2 H2 fun b H3 => if b = true then te σ2 H3 N else M H3)
    (hd : ∀ H, Same H1 H → H D = some (.lst ((List.range xs.length).filterMap f)) → Qd H) : ∃ W : Nat → Nat → Hp → Prop, (∃ m, W 0 m (upd H1 D (.lst []))) ∧ ∀ i m H, W i m H →
      ((Itz K a b).stop i H ∧ Qd H) ∨ ((Itz K a b).go i H ∧ ∃ Nx : Hp → Prop, (∀ H', Nx H' → ∃ m', m' < m ∧ W (i + 1) m' H') ∧ ∀ x H', (Itz K a b).yld i H x H' → g x (wipe σ vs) H' fun σ2 H2 => wipe σ2 vs = wipe σ vs ∧ tt σ2 H2 fun b H3 =>
        if b = true then te σ2 H3 fun y H4 => ∃ acc, H4 D = some (.lst acc) ∧ acc.length < sizeLine ∧ Nx (upd H4 D (.lst (acc ++ [y]))) else Nx H3) := by
  refine ⟨fun i m H => m = xs.length - i ∧ i ≤ xs.length ∧ Same H1 H ∧ H D = some (.lst ((List.range i).filterMap f)), ⟨xs.length, rfl, Nat.zero_le _, Same.new (Same.refl H1) nD, upd_same⟩, ?_⟩
  rintro i m H ⟨rfl, hi, s, hD⟩
  have qx : SqL K H a xs := SqL.of (s _ _ hx)
  have qy : SqL K H b ys := SqL.of (s _ _ hy)
  have hz := filterMap_range_len f i
  by_cases hlt : i < xs.length
  · have ex : xs[i]? = some xs[i] := List.getElem?_eq_getElem hlt
    have hlt2 : i < ys.length := by omega
    have ey : ys[i]? = some ys[i] := List.getElem?_eq_getElem hlt2
    refine .inr ⟨⟨xs, ys, _, _, qx, qy, ex, ey⟩, fun H => i < xs.length ∧ Same H1 H ∧ H D = some (.lst ((List.range (i + 1)).filterMap f)), fun H' p' => ⟨xs.length - (i + 1), by omega, rfl, hlt, p'.2⟩, fun v H' y => ?_⟩
    obtain ⟨Z, x', y', rfl, hZ, rfl, f1, f2⟩ := y
    have s1 : Same H (upd H Z (.tup [x', y'])) := Same.new (Same.refl H) hZ
    refine hs i x' y' Z _ _ _ (f1 xs qx) (f2 ys qy) (s.trans s1) upd_same (fun v H4 e s4 => ⟨_, s4 _ _ (s1 _ _ hD), lt_line (by omega), hlt, ?_, ?_⟩) (fun H4 e s4 => ⟨hlt, ?_, ?_⟩)
    · exact Same.mut ((s.trans s1).trans s4) nD
    · rw [filterMap_range_succ, e]
      exact upd_same
    · exact (s.trans s1).trans s4
    · rw [filterMap_range_succ, e, s4 _ _ (s1 _ _ hD)]
      simp
  · have e : i = xs.length := by omega
    subst e
    exact .inl ⟨⟨xs, ys, qx, qy, Or.inl (Nat.le_refl _)⟩, hd H s hD⟩
theorem lc_zipTF {K : PySem.W.Frag} {a b : Addr} {xs ys : List V} {g : TG} {tt : TT} {te : TE} {vs : List Nat} {σ : St} {H1 : Hp} {D : Addr} {Qd : Hp → Prop} (f : Nat → Option V) (hx : H1 a = some (.tup xs)) (hy : H1 b = some (.tup ys)) (hl : xs.length = ys.length) (nD : H1 D = none) (hn : xs.length ≤ 100000)
    (hs : ∀ (i : Nat) (x y : V) (Z : Addr) (H : Hp) (N : V → Hp → Prop) (M : Hp → Prop), xs[i]? = some x → ys[i]? = some y → Same H1 H → H Z = some (.tup [x, y]) → (∀ v H4, f i = some v → Same H H4 → N v H4) → (∀ H4, f i = none → Same H H4 → M H4) → g (.ref Z) (wipe σ vs) H fun σ2 H2 => wipe σ2 vs = wipe σ vs ∧ tt σ2 H2 fun b H3 => if b = true then te σ2 H3 N else M H3)
    (hd : ∀ H, Same H1 H → H D = some (.lst ((List.range xs.length).filterMap f)) → Qd H) : ∃ W : Nat → Nat → Hp → Prop, (∃ m, W 0 m (upd H1 D (.lst []))) ∧ ∀ i m H, W i m H →
      ((RZ.ItzT K a b).stop i H ∧ Qd H) ∨ ((RZ.ItzT K a b).go i H ∧ ∃ Nx : Hp → Prop, (∀ H', Nx H' → ∃ m', m' < m ∧ W (i + 1) m' H') ∧ ∀ x H', (RZ.ItzT K a b).yld i H x H' → g x (wipe σ vs) H' fun σ2 H2 => wipe σ2 vs = wipe σ vs ∧ tt σ2 H2 fun b H3 =>
        if b = true then te σ2 H3 fun y H4 => ∃ acc, H4 D = some (.lst acc) ∧ acc.length < sizeLine ∧ Nx (upd H4 D (.lst (acc ++ [y]))) else Nx H3) := by
  refine ⟨fun i m H => m = xs.length - i ∧ i ≤ xs.length ∧ Same H1 H ∧ H D = some (.lst ((List.range i).filterMap f)), ⟨xs.length, rfl, Nat.zero_le _, Same.new (Same.refl H1) nD, upd_same⟩, ?_⟩
  rintro i m H ⟨rfl, hi, s, hD⟩
  have qx : SqT K H a xs := SqT.of (s _ _ hx)
  have qy : SqT K H b ys := SqT.of (s _ _ hy)
  have hz := filterMap_range_len f i
  by_cases hlt : i < xs.length
  · have ex : xs[i]? = some xs[i] := List.getElem?_eq_getElem hlt
    have hlt2 : i < ys.length := by omega
    have ey : ys[i]? = some ys[i] := List.getElem?_eq_getElem hlt2
    refine .inr ⟨⟨xs, ys, _, _, qx, qy, ex, ey⟩, fun H => i < xs.length ∧ Same H1 H ∧ H D = some (.lst ((List.range (i + 1)).filterMap f)), fun H' p' => ⟨xs.length - (i + 1), by omega, rfl, hlt, p'.2⟩, fun v H' y => ?_⟩
    obtain ⟨Z, x', y', rfl, hZ, rfl, f1, f2⟩ := y
    have s1 : Same H (upd H Z (.tup [x', y'])) := Same.new (Same.refl H) hZ
    refine hs i x' y' Z _ _ _ (f1 xs qx) (f2 ys qy) (s.trans s1) upd_same (fun v H4 e s4 => ⟨_, s4 _ _ (s1 _ _ hD), lt_line (by omega), hlt, ?_, ?_⟩) (fun H4 e s4 => ⟨hlt, ?_, ?_⟩)
    · exact Same.mut ((s.trans s1).trans s4) nD
    · rw [filterMap_range_succ, e]
      exact upd_same
    · exact (s.trans s1).trans s4
    · rw [filterMap_range_succ, e, s4 _ _ (s1 _ _ hD)]
      simp
  · have e : i = xs.length := by omega
    subst e
    exact .inl ⟨⟨xs, ys, qx, qy, Or.inl (Nat.le_refl _)⟩, hd H s hD⟩
/-! comprehensions whose items are new things -/
theorem lc_rangeR {lo : Int} {n : Nat} {g : TG} {tt : TT} {te : TE} {vs : List Nat} {σ : St} {H1 : Hp} {D : Addr} {Qd : Hp → Prop} (R : Nat → V → Hp → Prop) (st : ∀ i v H H', R i v H → TK H H' → R i v H') (nD : H1 D = none) (hn : n ≤ 100000)
    (hs : ∀ (i : Nat) (H : Hp) (N : V → Hp → Prop) (M : Hp → Prop), i < n → Same H1 H → (∀ v H4, Same H H4 → R i v H4 → N v H4) → g (.int (lo + (i : Int))) (wipe σ vs) H fun σ2 H2 => wipe σ2 vs = wipe σ vs ∧ tt σ2 H2 fun b H3 => if b = true then te σ2 H3 N else M H3)
    (hd : ∀ H acc, Same H1 H → H D = some (.lst acc) → acc.length = n → (∀ (j : Nat) v, acc[j]? = some v → R j v H) → Qd H) : ∃ W : Nat → Nat → Hp → Prop, (∃ m, W 0 m (upd H1 D (.lst []))) ∧ ∀ i m H, W i m H →
      ((Itr lo n).stop i H ∧ Qd H) ∨ ((Itr lo n).go i H ∧ ∃ Nx : Hp → Prop, (∀ H', Nx H' → ∃ m', m' < m ∧ W (i + 1) m' H') ∧ ∀ x H', (Itr lo n).yld i H x H' → g x (wipe σ vs) H' fun σ2 H2 => wipe σ2 vs = wipe σ vs ∧ tt σ2 H2 fun b H3 =>
        if b = true then te σ2 H3 fun y H4 => ∃ acc, H4 D = some (.lst acc) ∧ acc.length < sizeLine ∧ Nx (upd H4 D (.lst (acc ++ [y]))) else Nx H3) := by
  refine lc_range (lo := lo) (n := n) (fun i H => Same H1 H ∧ ∃ acc, H D = some (.lst acc) ∧ acc.length = i ∧ ∀ (j : Nat) v, acc[j]? = some v → R j v H) ⟨Same.new (Same.refl H1) nD, [], upd_same, rfl, fun j v e => by simp at e⟩ (fun i H hi p => ?_) (fun H p => ?_)
  · obtain ⟨m, acc, hD, hlen, hR⟩ := p
    have il : i < n := hi
    refine hs i H _ _ hi m (fun v H4 m4 r => ⟨acc, m4 _ _ hD, lt_line (by omega), Same.mut (Same.trans m m4) nD, acc ++ [v], upd_same, by rw [List.length_append, hlen]; rfl, fun j u e => ?_⟩)
    have k1 : TK H4 (upd H4 D (.lst (acc ++ [v]))) := TK.mut (m4 _ _ hD)
    by_cases hj : j < acc.length
    · rw [List.getElem?_append_left hj] at e
      exact st _ _ _ _ (st _ _ _ _ (hR j u e) (Same.tk m4)) k1
    · rw [List.getElem?_append_right (by omega)] at e
      have hj2 : j = i := by
        have q := (List.getElem?_eq_some_iff.mp e).1
        rw [List.length_singleton] at q
        omega
      rw [hj2, hlen, Nat.sub_self] at e
      have e2 : v = u := Option.some.inj e
      rw [← e2, hj2]
      exact st _ _ _ _ r k1
  · obtain ⟨m, acc, hD, hlen, hR⟩ := p
    exact hd H acc m hD hlen hR
theorem lc_listR {K : PySem.W.Frag} {a : Addr} {xs : List V} {g : TG} {tt : TT} {te : TE} {vs : List Nat} {σ : St} {H1 : Hp} {D : Addr} {Qd : Hp → Prop} (R : Nat → V → Hp → Prop) (st : ∀ i v H H', R i v H → TK H H' → R i v H') (hx : H1 a = some (.lst xs)) (nD : H1 D = none) (hn : xs.length ≤ 100000)
    (hs : ∀ (i : Nat) (x : V) (H : Hp) (N : V → Hp → Prop) (M : Hp → Prop), xs[i]? = some x → Same H1 H → (∀ v H4, Same H H4 → R i v H4 → N v H4) → g x (wipe σ vs) H fun σ2 H2 => wipe σ2 vs = wipe σ vs ∧ tt σ2 H2 fun b H3 => if b = true then te σ2 H3 N else M H3)
    (hd : ∀ H acc, Same H1 H → H D = some (.lst acc) → acc.length = xs.length → (∀ (j : Nat) v, acc[j]? = some v → R j v H) → Qd H) : ∃ W : Nat → Nat → Hp → Prop, (∃ m, W 0 m (upd H1 D (.lst []))) ∧ ∀ i m H, W i m H →
      ((Itl K a).stop i H ∧ Qd H) ∨ ((Itl K a).go i H ∧ ∃ Nx : Hp → Prop, (∀ H', Nx H' → ∃ m', m' < m ∧ W (i + 1) m' H') ∧ ∀ x H', (Itl K a).yld i H x H' → g x (wipe σ vs) H' fun σ2 H2 => wipe σ2 vs = wipe σ vs ∧ tt σ2 H2 fun b H3 =>
        if b = true then te σ2 H3 fun y H4 => ∃ acc, H4 D = some (.lst acc) ∧ acc.length < sizeLine ∧ Nx (upd H4 D (.lst (acc ++ [y]))) else Nx H3) := by
  refine lc_list (K := K) (a := a) (xs := xs) (fun i H => Same H1 H ∧ ∃ acc, H D = some (.lst acc) ∧ acc.length = i ∧ ∀ (j : Nat) v, acc[j]? = some v → R j v H) ⟨Same.new (Same.refl H1) nD, [], upd_same, rfl, fun j v e => by simp at e⟩ (fun i H _ p => SqL.of (p.1 _ _ hx)) (fun i x H hi p => ?_) (fun H p => ?_)
  · obtain ⟨m, acc, hD, hlen, hR⟩ := p
    have il : i < xs.length := (List.getElem?_eq_some_iff.mp hi).1
    refine hs i x H _ _ hi m (fun v H4 m4 r => ⟨acc, m4 _ _ hD, lt_line (by omega), Same.mut (Same.trans m m4) nD, acc ++ [v], upd_same, by rw [List.length_append, hlen]; rfl, fun j u e => ?_⟩)
    have k1 : TK H4 (upd H4 D (.lst (acc ++ [v]))) := TK.mut (m4 _ _ hD)
    by_cases hj : j < acc.length
    · rw [List.getElem?_append_left hj] at e
      exact st _ _ _ _ (st _ _ _ _ (hR j u e) (Same.tk m4)) k1
    · rw [List.getElem?_append_right (by omega)] at e
      have hj2 : j = i := by
        have q := (List.getElem?_eq_some_iff.mp e).1
        rw [List.length_singleton] at q
        omega
      rw [hj2, hlen, Nat.sub_self] at e
      have e2 : v = u := Option.some.inj e
      rw [← e2, hj2]
      exact st _ _ _ _ r k1
  · obtain ⟨m, acc, hD, hlen, hR⟩ := p
    exact hd H acc m hD hlen hR
theorem lc_tupR {K : PySem.W.Frag} {a : Addr} {xs : List V} {g : TG} {tt : TT} {te : TE} {vs : List Nat} {σ : St} {H1 : Hp} {D : Addr} {Qd : Hp → Prop} (R : Nat → V → Hp → Prop) (st : ∀ i v H H', R i v H → TK H H' → R i v H') (hx : H1 a = some (.tup xs)) (nD : H1 D = none) (hn : xs.length ≤ 100000)
    (hs : ∀ (i : Nat) (x : V) (H : Hp) (N : V → Hp → Prop) (M : Hp → Prop), xs[i]? = some x → Same H1 H → (∀ v H4, Same H H4 → R i v H4 → N v H4) → g x (wipe σ vs) H fun σ2 H2 => wipe σ2 vs = wipe σ vs ∧ tt σ2 H2 fun b H3 => if b = true then te σ2 H3 N else M H3)
    (hd : ∀ H acc, Same H1 H → H D = some (.lst acc) → acc.length = xs.length → (∀ (j : Nat) v, acc[j]? = some v → R j v H) → Qd H) : ∃ W : Nat → Nat → Hp → Prop, (∃ m, W 0 m (upd H1 D (.lst []))) ∧ ∀ i m H, W i m H →
      ((Itt K a).stop i H ∧ Qd H) ∨ ((Itt K a).go i H ∧ ∃ Nx : Hp → Prop, (∀ H', Nx H' → ∃ m', m' < m ∧ W (i + 1) m' H') ∧ ∀ x H', (Itt K a).yld i H x H' → g x (wipe σ vs) H' fun σ2 H2 => wipe σ2 vs = wipe σ vs ∧ tt σ2 H2 fun b H3 =>
        if b = true then te σ2 H3 fun y H4 => ∃ acc, H4 D = some (.lst acc) ∧ acc.length < sizeLine ∧ Nx (upd H4 D (.lst (acc ++ [y]))) else Nx H3) := by
  refine lc_tup (K := K) (a := a) (xs := xs) (fun i H => Same H1 H ∧ ∃ acc, H D = some (.lst acc) ∧ acc.length = i ∧ ∀ (j : Nat) v, acc[j]? = some v → R j v H) ⟨Same.new (Same.refl H1) nD, [], upd_same, rfl, fun j v e => by simp at e⟩ (fun i H _ p => SqT.of (p.1 _ _ hx)) (fun i x H hi p => ?_) (fun H p => ?_)
  · obtain ⟨m, acc, hD, hlen, hR⟩ := p
    have il : i < xs.length := (List.getElem?_eq_some_iff.mp hi).1
    refine hs i x H _ _ hi m (fun v H4 m4 r => ⟨acc, m4 _ _ hD, lt_line (by omega), Same.mut (Same.trans m m4) nD, acc ++ [v], upd_same, by rw [List.length_append, hlen]; rfl, fun j u e => ?_⟩)
    have k1 : TK H4 (upd H4 D (.lst (acc ++ [v]))) := TK.mut (m4 _ _ hD)
    by_cases hj : j < acc.length
    · rw [List.getElem?_append_left hj] at e
      exact st _ _ _ _ (st _ _ _ _ (hR j u e) (Same.tk m4)) k1
    · rw [List.getElem?_append_right (by omega)] at e
      have hj2 : j = i := by
        have q := (List.getElem?_eq_some_iff.mp e).1
        rw [List.length_singleton] at q
        omega
      rw [hj2, hlen, Nat.sub_self] at e
      have e2 : v = u := Option.some.inj e
      rw [← e2, hj2]
      exact st _ _ _ _ r k1
  · obtain ⟨m, acc, hD, hlen, hR⟩ := p
    exact hd H acc m hD hlen hR
/-! comprehensions within comprehensions -/
theorem blk_in {X : Cx} {s : Shared} {H : Hp} {sc0 sc1 scope : Scope} {cl : List (Str × Addr)} {C : Addr} {env : Env} {fp : List Addr} {N : List Str} {own : List (Str × Nat)} (hN : X.N = N) (hs : env.scope = sc1) (h : blkC N (relS sc0 sc1) scope own = true) :
    BlkOk (X.blk s H sc0 (compEnvC sc0 cl C env) fp).N (X.blk s H sc0 (compEnvC sc0 cl C env) fp).env.scope scope own := by
  subst hN hs
  exact blkOk_by h
theorem pi_tupK {X : Cx} {K : PySem.W.Frag} {tg l : Expr} {tl : TE} (hK : X.K = K) (h : PE X l tl) : PI X tg l (iTup K tl) := by
  subst hK
  exact pi_tup h
theorem pi_listK {X : Cx} {K : PySem.W.Frag} {tg l : Expr} {tl : TE} (hK : X.K = K) (h : PE X l tl) : PI X tg l (iList K tl) := by
  subst hK
  exact pi_list h
theorem pe_fldK {X : Cx} {K : PySem.W.Frag} {e : Expr} {f : Str} {pos : Pos} {ta : TE} (hK : X.K = K) (h : PE X e ta) (hb : attributeBase e f X.env (eval e X.env) = eval e X.env) : PE X (.Attribute e f pos) (tFld K ta f) := by
  subst hK
  exact pe_fld h hb
theorem pg_tupK {X : Cx} {K : PySem.W.Frag} {es : List Expr} {k : Nat} {pos : Pos} {t : TGs} (n : Nat) (hc : X.calm = true) (hK : X.K = K) (h : PGs X es t)
    (hn : (assignEach es X.env).length = n := by rfl) (hst : (assignEach es X.env).findIdx? (·.1) = none := by rfl) : PG X (.Tuple es k pos) (gTup K n t) := by
  subst hK
  exact pg_tup hc h hn hst
/-! ### words -/
theorem tYes_go {σ : L2.St} {H : Hp} {Q : Bool → Hp → Prop} (h : Q true H) : tYes σ H Q := h
local macro_rules | `(tactic| tm_at "fld") => `(tactic| fail "fld")
local macro_rules | `(tactic| tm_at "hp") => `(tactic| first
  | assumption
  | (with_reducible exact upd_same)
  | exact Same.at (by assumption) (by tm_at "hp")
  | exact Mv.atT (by assumption) (by tm_at "hp")
  | exact Mv.at' (by assumption) (by tm_at "hp") (by tm_at "ne")
  | ((rw [upd_ne ?n]) <;> first | (tm_at "hp") | (tm_at "ne") | fail "upd")
  | fail "hp")
local macro_rules | `(tactic| tm_at "ne") => `(tactic| first
  | assumption
  | exact Ne.symm (by assumption)
  | exact Nw.ne (by assumption) (by tm_at "hp")
  | exact Ne.symm (Nw.ne (by assumption) (by tm_at "hp"))
  | fail "ne")
local macro_rules | `(tactic| tm_at "sq") => `(tactic| first
  | assumption
  | exact SqL.of (by tm_at "hp")
  | exact Same.seq (by assumption) (by tm_at "sq")
  | fail "sq")
local macro_rules | `(tactic| tm_at "sqt") => `(tactic| first
  | assumption
  | exact SqT.of (by tm_at "hp")
  | fail "sqt")
local macro_rules | `(tactic| tm_at "len") => `(tactic| first
  | omega
  | ((simp only [List.length_map, List.length_append, List.length_singleton, List.length_cons, List.length_nil, List.length_replicate, List.length_range]); omega)
  | fail "len")
local macro_rules | `(tactic| tm_at "sd") => `(tactic| first
  | decide
  | omega
  | exact ⟨by decide, by decide⟩
  | exact ⟨by omega, by omega⟩
  | exact Or.inr ⟨by decide, by decide⟩
  | exact Or.inl ⟨by omega, by omega⟩
  | exact Or.inl ⟨by decide, by decide⟩
  | exact Or.inr ⟨by omega, by omega⟩
  | exact Or.inl (fmod64 (by decide) (by decide))
  | exact ⟨by decide, by decide, by decide⟩
  | fail "sd")
local macro_rules | `(tactic| tm_at "w") => `(tactic| repeat (first
  | (with_reducible refine iteDY (by omega) ?_)
  | (with_reducible refine iteDN (by omega) ?_)
  | (refine ⟨_, rfl, ?_⟩)
  | (refine ⟨_, _, rfl, rfl, ?_⟩)
  | (refine ⟨_, _, _, _, rfl, rfl, by tm_at "sq", by rfl, ?_⟩)
  | (refine ⟨_, _, _, _, rfl, rfl, by tm_at "hp", by rfl, ?_⟩)
  | (refine ⟨_, _, _, _, rfl, rfl, by tm_at "sqt", by rfl, ?_⟩)
  | (refine ⟨_, _, _, _, rfl, rfl, by tm_at "sqt", atI_nat (by assumption), ?_⟩)
  | (refine ⟨_, _, _, _, rfl, rfl, by tm_at "sq", atI_nat (by assumption), ?_⟩)
  | (refine ⟨_, _, rfl, by tm_at "sqt", rfl, _, _, rfl, _, _, rfl, rfl, ?_⟩)
  | (refine ⟨_, _, rfl, by tm_at "sqt", rfl, _, _, rfl, _, _, rfl, _, _, rfl, rfl, ?_⟩)
  | (refine ⟨_, _, _, _, _, rfl, ClsV.ty _, by assumption, by assumption, ?_⟩)
  | (refine And.intro (rfl : scal _ _ = true) ?_)
  | (with_reducible refine iteET (by rfl) ?_)
  | (with_reducible refine iteEF (by rfl) ?_)
  | (refine And.intro (IntK.int _) ?_)
  | (with_reducible refine tYes_go ?_)
  | (refine And.intro (by (with_reducible refine le_lineB ?_); rfl) ?_)
  | (refine ⟨_, _, rfl, Or.inl ⟨SqL.of (by tm_at "hp"), ?_⟩⟩)
  | (refine And.intro (Or.inl ⟨rfl, _, SqL.of (by tm_at "hp")⟩) ?_)
  | (refine ⟨_, _, _, rfl, rfl, by tm_at "hp", lt_line (by tm_at "len"), ?_⟩)
  | (refine And.intro rfl ?_)
  | (refine Or.inl ⟨_, rfl, ?_⟩)
  | (refine ⟨_, _, rfl, Or.inl (by tm_at "sq"), ?_⟩)
  | (refine ⟨_, _, rfl, Or.inr (by tm_at "sqt"), ?_⟩)
  | (refine And.intro (by tm_at "sd") ?_)
  | (tm_at "fld")
  | fail "w"))
/-! ### lists of whole numbers -/
/-- an item of a list is a whole number -/
def IsI (v : V) : Prop := ∃ i : Int, v = .int i
theorem ints_of {xs : List V} (h : ∀ v ∈ xs, IsI v) : ∃ ns : List Int, xs = ns.map V.int := by
  induction xs with
  | nil => exact ⟨[], rfl⟩
  | cons x r ih =>
    obtain ⟨ns, e⟩ := ih fun v hv => h v (List.mem_cons_of_mem _ hv)
    obtain ⟨i, ei⟩ := h x List.mem_cons_self
    exact ⟨i :: ns, by rw [ei, e]; rfl⟩
theorem ints_at {xs : List V} (h : ∀ (j : Nat) v, xs[j]? = some v → IsI v) : ∃ ns : List Int, xs = ns.map V.int := ints_of fun v hv => by
  obtain ⟨j, hj, e⟩ := List.mem_iff_getElem.mp hv
  exact h j v (by rw [List.getElem?_eq_getElem hj, e])
theorem mem_app {P : V → Prop} {xs : List V} {y : V} (h : ∀ v ∈ xs, P v) (hy : P y) : ∀ v ∈ xs ++ [y], P v := fun v hv => by
  rcases List.mem_append.mp hv with hv | hv
  · exact h v hv
  · rw [List.mem_singleton.mp hv]
    exact hy
theorem len_app {xs : List V} {y : V} {n : Nat} (h : xs.length = n) : (xs ++ [y]).length = n + 1 := by
  rw [List.length_append, h]
  rfl
/-- the item at a place of a list of whole numbers -/
theorem int_here {ns : List Int} {i : Nat} {x : V} (h : (ns.map V.int)[i]? = some x) : ∃ z, ns[i]? = some z ∧ x = .int z ∧ i < ns.length := by
  rw [List.getElem?_map] at h
  cases e : ns[i]? with
  | none => rw [e] at h; cases h
  | some z => rw [e] at h; exact ⟨z, rfl, (Option.some.inj h).symm, (List.getElem?_eq_some_iff.mp e).1⟩
theorem map_snoc (ks : List Int) (k : Int) : ks.map V.int ++ [V.int k] = (ks ++ [k]).map V.int := by rw [List.map_append]; rfl
theorem inV_int (k : Int) (ks : List Int) : inV (.int k) (ks.map V.int) = decide (k ∈ ks) := by
  unfold inV
  rw [List.any_map]
  by_cases h : k ∈ ks
  · rw [decide_eq_true h]
    exact List.any_eq_true.mpr ⟨k, h, beq_self_eq_true k⟩
  · rw [decide_eq_false h]
    refine List.any_eq_false.mpr fun y hy z => h ?_
    have e : y = k := eq_of_beq (show (y == k) = true from z)
    rw [← e]
    exact hy
theorem flat_ints (ks : List Int) : (ks.map V.int).all flatV = true := List.all_eq_true.mpr fun v hv => by
  obtain ⟨i, _, rfl⟩ := List.mem_map.mp hv
  rfl
theorem len_of_same {a b : List Int} (ha : a.Nodup) (hb : b.Nodup) (h : ∀ k, k ∈ a ↔ k ∈ b) : a.length = b.length := ((List.perm_ext_iff_of_nodup ha hb).mpr h).length_eq
theorem dp_ints {K : PySem.W.Frag} {H : Hp} : ∀ ns : List Int, DpAll K H (ns.map V.int) (ns.map PyData.int)
  | [] => .nil
  | n :: r => .cons (.int n) (dp_ints r)
theorem range_items {α : Type} (S : List α) (f : α → V) : (List.range S.length).filterMap (fun i => S[i]?.map f) = S.map f := by
  have key : ∀ n, n ≤ S.length → (List.range n).filterMap (fun i => S[i]?.map f) = (S.take n).map f := by
    intro n
    induction n with
    | zero => intro _; rfl
    | succ n ih =>
      intro h
      rw [filterMap_range_succ, ih (by omega), List.take_add_one, List.map_append]
      rw [List.getElem?_eq_getElem (show n < S.length by omega)]
      rfl
  rw [key _ (Nat.le_refl _), List.take_length]
theorem lay_ints : ∀ ns : List Int, PyData.canLayAll0 (ns.map PyData.int) = true
  | [] => rfl
  | n :: r => by
    show (PyData.canLay0 (.int n) && PyData.canLayAll0 (r.map PyData.int)) = true
    rw [lay_ints r]
    rfl
theorem deep_ints : ∀ ns : List Int, PyData.depthAll (ns.map PyData.int) ≤ 1
  | [] => by simp [PyData.depthAll]
  | n :: r => by
    have ih := deep_ints r
    simp only [List.map_cons, PyData.depthAll, PyData.depth]
    omega
theorem shaped_ints (ns : List Int) : SeqAt.shaped (.tuple (ns.map PyData.int)) = true := by
  have h := deep_ints ns
  have h2 : PyData.depth (.tuple (ns.map PyData.int)) ≤ 64 := by
    simp only [PyData.depth]
    omega
  exact Bool.and_eq_true_iff.mpr ⟨lay_ints ns, decide_eq_true h2⟩
theorem same_ints (ns : List Int) : PyData.eqv (.tuple (ns.map PyData.int)) (.tuple (ns.map PyData.int)) = true := SeqAt.eqv_refl _ (lay_ints ns)
theorem at_map {r : List Int} {i : Int} (h0 : 0 ≤ i) (h : i < (r.length : Int)) : atI (r.map V.int) i = some (.int (r.getD i.toNat 0)) := by
  have hj : i.toNat < r.length := by omega
  refine at_of (j := i.toNat) (by omega) ?_
  rw [List.getElem?_map, List.getElem?_eq_getElem hj, List.getD_eq_getElem?_getD, List.getElem?_eq_getElem hj]
  rfl
/-! ### bits of what each kind is -/
def upBits (acc : List Nat) (n : Nat) (p : List Nat) : Nat := p.foldl (fun f q => f ||| acc.getD q 0) (2 ^ n)
theorem fold_bits (acc : List Nat) (j : Nat) : ∀ (p : List Nat) (f : Nat), (p.foldl (fun f q => f ||| acc.getD q 0) f).testBit j = (f.testBit j || p.any fun q => (acc.getD q 0).testBit j)
  | [], f => by simp
  | q :: r, f => by
    have ih := fold_bits acc j r (f ||| acc.getD q 0)
    rw [List.foldl_cons, ih, Nat.testBit_or, List.any_cons, Bool.or_assoc]
theorem upBits_at (acc : List Nat) (n : Nat) (p : List Nat) (j : Nat) : (upBits acc n p).testBit j = (decide (n = j) || p.any fun q => (acc.getD q 0).testBit j) := by
  unfold upBits
  rw [fold_bits, Nat.testBit_two_pow]
/-! ### books -/
structure InsT (K : PySem.W.Frag) (C : Addr) : Prop where
  ha : PySem.W.findIn K (.ref C) "__class__" = some (some (.builtin "object.__class__"))
  hn : PySem.W.specialIn K (.builtin "object.__class__") "__get__" = some (some (.builtin "getset_descriptor.__get__"))
  htk : PySem.W.takesIn K (.builtin "object.__class__") = some true
  hm : PySem.W.mroIn K C (.type "object") = some true
theorem pb_ne : ¬ (("parents" : Str) = "bits") := by decide +kernel
theorem bp_ne : ¬ (("bits" : Str) = "parents") := by decide +kernel
def bkF (pa lb : Addr) : List (Str × V) := putF "bits" (.ref lb) (putF "parents" (.ref pa) [])
theorem bkF_eq (pa lb : Addr) : bkF pa lb = ([("parents", V.ref pa), ("bits", V.ref lb)] : List (Str × V)) := by
  show (if ("parents" : Str) = "bits" then [(("parents" : Str), V.ref lb)] else (("parents" : Str), V.ref pa) :: putF "bits" (V.ref lb) []) = ([("parents", V.ref pa), ("bits", V.ref lb)] : List (Str × V))
  rw [if_neg pb_ne]
  all_goals rfl
theorem bkF_parents (pa lb : Addr) : (bkF pa lb).lookup ("parents" : Str) = some (.ref pa) := by
  unfold bkF
  rw [lookup_putF, if_neg pb_ne, lookup_putF, if_pos rfl]
theorem bkF_bits (pa lb : Addr) : (bkF pa lb).lookup ("bits" : Str) = some (.ref lb) := by
  unfold bkF
  rw [lookup_putF, if_pos rfl]
theorem bkF_no (pa lb : Addr) {m : Str} (h1 : ¬ m = "bits") (h2 : ¬ m = "parents") : (bkF pa lb).lookup m = none := by
  unfold bkF
  rw [lookup_putF, if_neg h1, lookup_putF, if_neg h2]
  all_goals rfl
theorem bkF_putP (pa lb p : Addr) : putF "parents" (.ref p) (bkF pa lb) = bkF p lb := by
  rw [bkF_eq, bkF_eq]
  show (if ("parents" : Str) = "parents" then (("parents" : Str), V.ref p) :: [(("bits" : Str), V.ref lb)] else _) = ([("parents", V.ref p), ("bits", V.ref lb)] : List (Str × V))
  rw [if_pos rfl]
theorem bkF_putB (pa lb l : Addr) : putF "bits" (.ref l) (bkF pa lb) = bkF pa l := by
  rw [bkF_eq, bkF_eq]
  show (if ("parents" : Str) = "bits" then _ else (("parents" : Str), V.ref pa) :: (if ("bits" : Str) = "bits" then [(("bits" : Str), V.ref l)] else _)) = ([("parents", V.ref pa), ("bits", V.ref l)] : List (Str × V))
  rw [if_neg pb_ne, if_pos rfl]
/-- the fields of a book that is being made: none, or an elder filling's -/
def BkFs (fs : List (Str × V)) : Prop := fs = [] ∨ ∃ pa lb, fs = bkF pa lb
theorem BkFs.put {fs : List (Str × V)} (h : BkFs fs) (p l : Addr) : putF "bits" (.ref l) (putF "parents" (.ref p) fs) = bkF p l := by
  rcases h with rfl | ⟨a, b, rfl⟩
  · rfl
  · rw [bkF_putP, bkF_putB]
theorem BkFs.len {fs : List (Str × V)} (h : BkFs fs) : fs.length < 500 := by
  rcases h with rfl | ⟨a, b, rfl⟩
  · decide
  · rw [bkF_eq]
    show 2 < 500
    decide
theorem BkFs.len1 {fs : List (Str × V)} (h : BkFs fs) (p : Addr) : (putF "parents" (.ref p) fs).length < 1000 := by
  have q := length_putF "parents" (.ref p) fs
  have r := h.len
  omega
theorem BkFs.fill {fs : List (Str × V)} (h : BkFs fs) : fs.lookup ("fill" : Str) = none := by
  rcases h with rfl | ⟨a, b, rfl⟩
  · rfl
  · exact bkF_no _ _ (by decide +kernel) (by decide +kernel)
def natsV (p : List Nat) : List V := p.map fun q : Nat => V.int (q : Int)
/-- parents: a tuple of tuples of numbers -/
def ParL (H : Hp) (vs : List V) (P : List (List Nat)) : Prop := vs.length = P.length ∧ ∀ (j : Nat) p, P[j]? = some p → ∃ a, vs[j]? = some (.ref a) ∧ H a = some (.tup (natsV p))
def ParAt (H : Hp) (pa : Addr) (P : List (List Nat)) : Prop := ∃ vs, H pa = some (.tup vs) ∧ ParL H vs P
theorem ParL.tk {H H' : Hp} {vs : List V} {P : List (List Nat)} (h : ParL H vs P) (k : TK H H') : ParL H' vs P := ⟨h.1, fun j p e => by
  obtain ⟨a, e1, e2⟩ := h.2 j p e
  exact ⟨a, e1, k _ _ e2⟩⟩
theorem ParAt.tk {H H' : Hp} {pa : Addr} {P : List (List Nat)} (h : ParAt H pa P) (k : TK H H') : ParAt H' pa P := by
  obtain ⟨vs, e, l⟩ := h
  exact ⟨vs, k _ _ e, l.tk k⟩
/-- each parent stands ahead -/
def RtP (P : List (List Nat)) : Prop := ∀ (j : Nat) p, P[j]? = some p → ∀ q ∈ p, q < j
/-- the bits of all kinds -/
def bitsOf (P : List (List Nat)) : List Nat := P.foldl (fun acc p => acc ++ [upBits acc acc.length p]) []
def isA (P : List (List Nat)) (x p : Nat) : Bool := ((bitsOf P).getD x 0).testBit p
theorem bitsOf_snoc (P : List (List Nat)) (p : List Nat) : bitsOf (P ++ [p]) = bitsOf P ++ [upBits (bitsOf P) (bitsOf P).length p] := by
  unfold bitsOf
  rw [List.foldl_append]
  rfl
theorem bitsOf_len (P : List (List Nat)) : (bitsOf P).length = P.length := by
  have key : ∀ (r : List (List Nat)) (acc : List Nat), (r.foldl (fun acc p => acc ++ [upBits acc acc.length p]) acc).length = acc.length + r.length := by
    intro r
    induction r with
    | nil => intro acc; simp
    | cons x r ih =>
      intro acc
      rw [List.foldl_cons, ih, List.length_append]
      simp only [List.length_cons, List.length_nil]
      omega
  rw [show bitsOf P = P.foldl (fun acc p => acc ++ [upBits acc acc.length p]) [] from rfl, key]
  simp
/-- a book: its address, its dict, its parents' tuple, its bits' list -/
structure Bk where
  b : Addr
  dx : Addr
  pa : Addr
  lb : Addr
structure BookAt (C : Addr) (H : Hp) (k : Bk) (P : List (List Nat)) : Prop where
  ins : H k.b = some (.ins C k.dx (bkF k.pa k.lb))
  par : ParAt H k.pa P
  bits : H k.lb = some (.lst (natsV (bitsOf P)))
theorem BookAt.same {C : Addr} {H H' : Hp} {k : Bk} {P : List (List Nat)} (h : BookAt C H k P) (s : Same H H') : BookAt C H' k P := ⟨s _ _ h.ins, h.par.tk (Same.tk s), s _ _ h.bits⟩
/-- all but b is kept -/
def But (b : Addr) (H H' : Hp) : Prop := ∀ a o, a ≠ b → H a = some o → H' a = some o
/-- the parents of a kind with a number are right -/
structure OkL (q : List Nat) (m : Nat) : Prop where
  asc : q.Pairwise (· < ·)
  lt : ∀ x ∈ q, x < m
  few : q.length ≤ 6
structure OkP (P : List (List Nat)) : Prop where
  ok : ∀ (j : Nat) q, P[j]? = some q → OkL q j
  few : P.length ≤ 400
theorem OkP.rt {P : List (List Nat)} (h : OkP P) : RtP P := fun j p e q hq => (h.ok j p e).lt q hq
theorem OkP.nil : OkP [] := ⟨fun j q e => by simp at e, by decide⟩
theorem OkP.take {P : List (List Nat)} (h : OkP P) (m : Nat) : OkP (P.take m) := by
  refine ⟨fun j q e => ?_, ?_⟩
  · rw [List.getElem?_take] at e
    split at e
    · exact h.ok j q e
    · cases e
  · have := h.few
    rw [List.length_take]
    omega
theorem natsV_len (q : List Nat) : (natsV q).length = q.length := by unfold natsV; rw [List.length_map]
theorem natsV_int {K : PySem.W.Frag} {H : Hp} (q : List Nat) : ∀ x ∈ natsV q, IntK K H x := fun x hx => by
  unfold natsV at hx
  obtain ⟨n, _, rfl⟩ := List.mem_map.mp hx
  exact IntK.int _
theorem natsV_at {q : List Nat} {i : Nat} {n : Nat} (h : q[i]? = some n) : (natsV q)[i]? = some (.int (n : Int)) := by
  unfold natsV
  rw [List.getElem?_map, h]
  rfl
theorem natsV_here {q : List Nat} {i : Nat} {x : V} (h : (natsV q)[i]? = some x) : ∃ n : Nat, q[i]? = some n ∧ x = .int (n : Int) ∧ i < q.length := by
  unfold natsV at h
  rw [List.getElem?_map] at h
  cases e : q[i]? with
  | none => rw [e] at h; cases h
  | some z => rw [e] at h; exact ⟨z, rfl, (Option.some.inj h).symm, (List.getElem?_eq_some_iff.mp e).1⟩
theorem natsV_snoc (q : List Nat) (n : Nat) : natsV q ++ [V.int (n : Int)] = natsV (q ++ [n]) := by unfold natsV; rw [List.map_append]; rfl
theorem ParL.here {H : Hp} {vs : List V} {P : List (List Nat)} (h : ParL H vs P) {j : Nat} {x : V} (e : vs[j]? = some x) : ∃ a p, x = .ref a ∧ P[j]? = some p ∧ H a = some (.tup (natsV p)) := by
  have hj := (List.getElem?_eq_some_iff.mp e).1
  rw [h.1] at hj
  obtain ⟨a, e1, e2⟩ := h.2 j _ (List.getElem?_eq_getElem hj)
  rw [e] at e1
  exact ⟨a, _, Option.some.inj e1, List.getElem?_eq_getElem hj, e2⟩
theorem ParL.nil {H : Hp} : ParL H [] [] := ⟨rfl, fun j p e => by simp at e⟩
theorem ParL.snoc {H : Hp} {vs : List V} {P : List (List Nat)} (h : ParL H vs P) {a : Addr} {p : List Nat} (e : H a = some (.tup (natsV p))) : ParL H (vs ++ [.ref a]) (P ++ [p]) := by
  refine ⟨by rw [List.length_append, List.length_append, h.1]; rfl, fun j q hq => ?_⟩
  by_cases hj : j < P.length
  · rw [List.getElem?_append_left hj] at hq
    rw [List.getElem?_append_left (by rw [h.1]; exact hj)]
    exact h.2 j q hq
  · rw [List.getElem?_append_right (by omega)] at hq
    have l := (List.getElem?_eq_some_iff.mp hq).1
    rw [List.length_singleton] at l
    have ej : j - P.length = 0 := by omega
    rw [ej] at hq
    have er : p = q := Option.some.inj hq
    rw [List.getElem?_append_right (by rw [h.1]; omega), h.1, ej, ← er]
    exact ⟨a, rfl, e⟩
theorem ParL.take {H : Hp} {vs : List V} {P : List (List Nat)} (h : ParL H vs P) (m : Nat) : ParL H (vs.take m) (P.take m) := by
  refine ⟨by rw [List.length_take, List.length_take, h.1], fun j q hq => ?_⟩
  rw [List.getElem?_take] at hq
  split at hq
  · rename_i hm
    rw [List.getElem?_take_of_lt hm]
    exact h.2 j q hq
  · cases hq
theorem But.same {b : Addr} {H H1 H2 : Hp} (s : Same H H1) (k : But b H1 H2) : But b H H2 := fun a o n e => k a o n (s a o e)
theorem But.new {b : Addr} {H H1 H2 : Hp} (s : Same H H1) (n : H b = none) (k : But b H1 H2) : Same H H2 := fun a o e => k a o (ne_of_none e n) (s a o e)
/-- a book that was made between H and H' -/
structure Made (C : Addr) (H H' : Hp) (k : Bk) (P : List (List Nat)) : Prop where
  same : Same H H'
  here : BookAt C H' k P
  nb : Nw H k.b
  nl : Nw H k.lb
theorem Made.later {C : Addr} {H H1 H2 : Hp} {k : Bk} {P : List (List Nat)} (m : Made C H H1 k P) (s : Same H1 H2) : Made C H H2 k P := ⟨m.same.trans s, m.here.same s, m.nb, m.nl⟩
theorem Made.early {C : Addr} {H H1 H2 : Hp} {k : Bk} {P : List (List Nat)} (s : Same H H1) (m : Made C H1 H2 k P) : Made C H H2 k P := ⟨s.trans m.same, m.here, ⟨s.free m.nb.e⟩, ⟨s.free m.nl.e⟩⟩
theorem BookAt.mv {C : Addr} {H H' : Hp} {k : Bk} {P : List (List Nat)} {τ : Tp} (h : BookAt C H k P) (m : Mv τ H H') (n : k.lb ≠ τ.t) : BookAt C H' k P :=
  ⟨m.keep _ _ (fun e => by obtain ⟨_, _, _, _, z, _⟩ := m.was.here; rw [← e, h.ins] at z; cases z) h.ins, h.par.tk m.tk, m.keep _ _ n h.bits⟩
/-! ### who is what: the plain law -/
theorem bitsOf_take : ∀ (P : List (List Nat)) (m : Nat), bitsOf (P.take m) = (bitsOf P).take m := by
  have key : ∀ (n : Nat) (P : List (List Nat)), P.length = n → ∀ m, bitsOf (P.take m) = (bitsOf P).take m := by
    intro n
    induction n with
    | zero =>
      intro P h m
      have e : P = [] := List.length_eq_zero_iff.mp h
      subst e
      simp [bitsOf]
    | succ n ih =>
      intro P h m
      have hne : P ≠ [] := by intro e; rw [e] at h; cases h
      have e : P = P.dropLast ++ [P.getLast hne] := (List.dropLast_concat_getLast hne).symm
      have hl : P.dropLast.length = n := by rw [List.length_dropLast, h]; rfl
      by_cases hm : m ≤ n
      · rw [e, List.take_append_of_le_length (by omega), ih _ hl, bitsOf_snoc, List.take_append_of_le_length (by rw [bitsOf_len]; omega)]
      · rw [List.take_of_length_le (by omega), List.take_of_length_le (by rw [bitsOf_len]; omega)]
  exact fun P => key P.length P rfl
theorem bitsOf_at (P : List (List Nat)) (j : Nat) (p : List Nat) (h : P[j]? = some p) : (bitsOf P)[j]? = some (upBits ((bitsOf P).take j) j p) := by
  have hj := (List.getElem?_eq_some_iff.mp h).1
  have e : P.take (j + 1) = P.take j ++ [p] := by rw [List.take_add_one, h]; rfl
  have e2 : (bitsOf P).take (j + 1) = (bitsOf P).take j ++ [upBits ((bitsOf P).take j) j p] := by
    have hl : ((bitsOf P).take j).length = j := by rw [List.length_take, bitsOf_len]; omega
    rw [← bitsOf_take, e, bitsOf_snoc, bitsOf_take, hl]
  have e3 : ((bitsOf P).take (j + 1))[j]? = (bitsOf P)[j]? := List.getElem?_take_of_lt (Nat.lt_succ_self j)
  have hl : ((bitsOf P).take j).length = j := by rw [List.length_take, bitsOf_len]; omega
  rw [← e3, e2, List.getElem?_append_right (by omega), hl, Nat.sub_self]
  rfl
theorem upBits_take {acc : List Nat} {j : Nat} {p : List Nat} (h : ∀ q ∈ p, q < j) : upBits (acc.take j) j p = upBits acc j p := by
  unfold upBits
  have key : ∀ (p : List Nat) (f : Nat), (∀ q ∈ p, q < j) → p.foldl (fun f q => f ||| (acc.take j).getD q 0) f = p.foldl (fun f q => f ||| acc.getD q 0) f := by
    intro p
    induction p with
    | nil => intro f _; rfl
    | cons q r ih =>
      intro f hq
      have e : (acc.take j).getD q 0 = acc.getD q 0 := by
        rw [List.getD_eq_getElem?_getD, List.getD_eq_getElem?_getD, List.getElem?_take_of_lt (hq q List.mem_cons_self)]
      rw [List.foldl_cons, List.foldl_cons, e, ih _ fun z hz => hq z (List.mem_cons_of_mem _ hz)]
  exact key p _ h
theorem isA_rec {P : List (List Nat)} (hR : RtP P) {x : Nat} {p : List Nat} (h : P[x]? = some p) (j : Nat) : isA P x j = (decide (x = j) || p.any fun q => isA P q j) := by
  have e : (bitsOf P).getD x 0 = upBits (bitsOf P) x p := by
    rw [List.getD_eq_getElem?_getD, bitsOf_at P x p h, upBits_take (hR x p h)]
    rfl
  unfold isA
  rw [e, upBits_at]
theorem isA_out {P : List (List Nat)} {x : Nat} (h : P.length ≤ x) (j : Nat) : isA P x j = false := by
  unfold isA
  rw [List.getD_eq_getElem?_getD, List.getElem?_eq_none (by rw [bitsOf_len]; exact h)]
  exact Nat.zero_testBit j
theorem isA_lt {P : List (List Nat)} {x j : Nat} (h : isA P x j = true) : x < P.length := by
  by_cases hx : x < P.length
  · exact hx
  · rw [isA_out (by omega)] at h
    cases h
theorem isA_le {P : List (List Nat)} (hR : RtP P) : ∀ {x j : Nat}, isA P x j = true → j ≤ x := by
  intro x
  induction x using Nat.strongRecOn with
  | ind x ih =>
    intro j h
    have hx := isA_lt h
    rw [isA_rec hR (List.getElem?_eq_getElem hx), Bool.or_eq_true, decide_eq_true_eq, List.any_eq_true] at h
    rcases h with h | ⟨q, hq, h⟩
    · omega
    · have l := hR x _ (List.getElem?_eq_getElem hx) q hq
      have := ih q l h
      omega
theorem isA_refl {P : List (List Nat)} (hR : RtP P) {x : Nat} (hx : x < P.length) : isA P x x = true := by
  rw [isA_rec hR (List.getElem?_eq_getElem hx), decide_eq_true rfl]
  rfl
theorem isA_trans {P : List (List Nat)} (hR : RtP P) : ∀ {x y z : Nat}, isA P x y = true → isA P y z = true → isA P x z = true := by
  intro x
  induction x using Nat.strongRecOn with
  | ind x ih =>
    intro y z h h2
    have hx := isA_lt h
    rw [isA_rec hR (List.getElem?_eq_getElem hx), Bool.or_eq_true, decide_eq_true_eq, List.any_eq_true] at h
    rcases h with h | ⟨q, hq, h⟩
    · rw [h]
      exact h2
    · have l := hR x _ (List.getElem?_eq_getElem hx) q hq
      rw [isA_rec hR (List.getElem?_eq_getElem hx), Bool.or_eq_true, List.any_eq_true]
      exact .inr ⟨q, hq, ih q l h h2⟩
theorem isA_take {P : List (List Nat)} {m x : Nat} (h : x < m) (j : Nat) : isA (P.take m) x j = isA P x j := by
  unfold isA
  rw [bitsOf_take, List.getD_eq_getElem?_getD, List.getD_eq_getElem?_getD, List.getElem?_take_of_lt h]
theorem RtP.take {P : List (List Nat)} (h : RtP P) (m : Nat) : RtP (P.take m) := fun j p e q hq => by
  rw [List.getElem?_take] at e
  split at e
  · exact h j p e q hq
  · cases e
theorem RtP.snoc {P : List (List Nat)} (h : RtP P) {p : List Nat} (hp : ∀ q ∈ p, q < P.length) : RtP (P ++ [p]) := fun j r e q hq => by
  by_cases hj : j < P.length
  · rw [List.getElem?_append_left hj] at e
    exact h j r e q hq
  · rw [List.getElem?_append_right (by omega)] at e
    have l := (List.getElem?_eq_some_iff.mp e).1
    rw [List.length_singleton] at l
    have ej : j - P.length = 0 := by omega
    rw [ej] at e
    have er : p = r := Option.some.inj e
    rw [← er] at hq
    have := hp q hq
    omega
/-- forebears, heirs; the lowest of a lot; plain parents -/
def foreB (P : List (List Nat)) (x : Nat) : List Nat := (List.range x).filter fun p => isA P x p
def heirB (P : List (List Nat)) (p : Nat) : List Nat := (List.range P.length).filter fun x => decide (p < x) && isA P x p
def lowB (P : List (List Nat)) (L : List Nat) : List Nat := L.filter fun p => !(L.any fun x => !decide (x = p) && isA P x p)
def plainB (P : List (List Nat)) : List (List Nat) := (List.range P.length).map fun x => lowB P (foreB P x)
theorem plainB_len (P : List (List Nat)) : (plainB P).length = P.length := by
  unfold plainB
  rw [List.length_map, List.length_range]
theorem plainB_at {P : List (List Nat)} {x : Nat} (h : x < P.length) : (plainB P)[x]? = some (lowB P (foreB P x)) := by
  unfold plainB
  rw [List.getElem?_map, List.getElem?_range h]
  rfl
theorem mem_foreB {P : List (List Nat)} {x p : Nat} : p ∈ foreB P x ↔ p < x ∧ isA P x p = true := by
  unfold foreB
  rw [List.mem_filter, List.mem_range]
theorem plainB_rt (P : List (List Nat)) : RtP (plainB P) := fun j p e q hq => by
  have hj := (List.getElem?_eq_some_iff.mp e).1
  rw [plainB_len] at hj
  rw [plainB_at hj] at e
  rw [← Option.some.inj e] at hq
  exact (mem_foreB.mp (List.mem_filter.mp hq).1).1
theorem low_above {P : List (List Nat)} (hR : RtP P) {x p : Nat} (hp : p < x) (h : isA P x p = true) : ∃ q ∈ lowB P (foreB P x), isA P q p = true := by
  have key : ∀ n q, x - q = n → q < x → isA P x q = true → isA P q p = true → ∃ q ∈ lowB P (foreB P x), isA P q p = true := by
    intro n
    induction n using Nat.strongRecOn with
    | ind n ih =>
      intro q hn hq hxq hqp
      by_cases hl : q ∈ lowB P (foreB P x)
      · exact ⟨q, hl, hqp⟩
      · have hf : q ∈ foreB P x := mem_foreB.mpr ⟨hq, hxq⟩
        have ha : ((foreB P x).any fun y => !decide (y = q) && isA P y q) = true := by
          cases e : ((foreB P x).any fun y => !decide (y = q) && isA P y q) with
          | true => rfl
          | false => exact absurd (List.mem_filter.mpr ⟨hf, by simp [e]⟩) hl
        obtain ⟨y, hy, hz⟩ := List.any_eq_true.mp ha
        rw [Bool.and_eq_true, Bool.not_eq_true', decide_eq_false_iff_not] at hz
        have l := isA_le hR hz.2
        obtain ⟨y1, y2⟩ := mem_foreB.mp hy
        exact ih (x - y) (by omega) y rfl y1 y2 (isA_trans hR hz.2 hqp)
  exact key _ p rfl hp h (isA_refl hR (by have := isA_lt h; omega))
theorem isA_plain {P : List (List Nat)} (hR : RtP P) : ∀ (x j : Nat), isA (plainB P) x j = isA P x j := by
  intro x
  induction x using Nat.strongRecOn with
  | ind x ih =>
    intro j
    by_cases hx : x < P.length
    · have l : ∀ q ∈ lowB P (foreB P x), q < x ∧ isA P x q = true := fun q hq => mem_foreB.mp (List.mem_filter.mp hq).1
      rw [isA_rec (plainB_rt P) (plainB_at hx)]
      rw [Bool.eq_iff_iff, Bool.or_eq_true, decide_eq_true_eq, List.any_eq_true]
      constructor
      · rintro (h | ⟨q, hq, h⟩)
        · rw [← h]
          exact isA_refl hR hx
        · rw [ih q (l q hq).1] at h
          exact isA_trans hR (l q hq).2 h
      · intro h
        by_cases e : x = j
        · exact .inl e
        · have := isA_le hR h
          obtain ⟨q, hq, hz⟩ := low_above hR (by omega) h
          exact .inr ⟨q, hq, by rw [ih q (l q hq).1]; exact hz⟩
    · rw [isA_out (P := P) (by omega), isA_out (P := plainB P) (by rw [plainB_len]; omega)]
theorem foreB_plain {P : List (List Nat)} (hR : RtP P) (x : Nat) : foreB (plainB P) x = foreB P x := by
  unfold foreB
  congr 1
  funext j
  rw [isA_plain hR]
theorem lowB_plain {P : List (List Nat)} (hR : RtP P) (L : List Nat) : lowB (plainB P) L = lowB P L := by
  unfold lowB
  congr 1
  funext p
  congr 2
  funext x
  rw [isA_plain hR]
theorem plainB_plainB {P : List (List Nat)} (hR : RtP P) : plainB (plainB P) = plainB P := by
  show (List.range (plainB P).length).map (fun x => lowB (plainB P) (foreB (plainB P) x)) = (List.range P.length).map fun x => lowB P (foreB P x)
  rw [plainB_len]
  congr 1
  funext x
  rw [foreB_plain hR, lowB_plain hR]
/-- 300 in a row, 300 beside one another -/
def chainP (n : Nat) : List (List Nat) := [] :: (List.range n).map fun k => [k]
def wideP (n : Nat) : List (List Nat) := List.replicate n []
theorem chainP_len (n : Nat) : (chainP n).length = n + 1 := by simp [chainP]
theorem chainP_at {n j : Nat} (h : j < n) : (chainP n)[j + 1]? = some [j] := by
  unfold chainP
  rw [List.getElem?_cons_succ, List.getElem?_map, List.getElem?_range h]
  rfl
theorem chainP_rt (n : Nat) : RtP (chainP n) := fun j p e q hq => by
  cases j with
  | zero => rw [show (chainP n)[0]? = some [] from rfl] at e; rw [← Option.some.inj e] at hq; cases hq
  | succ j =>
    have hj := (List.getElem?_eq_some_iff.mp e).1
    rw [chainP_len] at hj
    rw [chainP_at (by omega)] at e
    rw [← Option.some.inj e, List.mem_singleton] at hq
    omega
theorem isA_chain {n : Nat} : ∀ {x : Nat}, x ≤ n → ∀ j, isA (chainP n) x j = decide (j ≤ x)
  | 0, _, j => by
    rw [isA_rec (chainP_rt n) (show (chainP n)[0]? = some [] from rfl)]
    simp only [List.any_nil, Bool.or_false]
    exact decide_eq_decide.mpr (by omega)
  | x + 1, h, j => by
    rw [isA_rec (chainP_rt n) (chainP_at (by omega)), List.any_cons, List.any_nil, Bool.or_false, isA_chain (by omega) j, ← Bool.decide_or]
    exact decide_eq_decide.mpr (by omega)
theorem wideP_rt (n : Nat) : RtP (wideP n) := fun j p e q hq => by
  have := List.mem_of_getElem? e
  rw [List.eq_of_mem_replicate this] at hq
  cases hq
theorem isA_wide {n x : Nat} (h : x < n) (j : Nat) : isA (wideP n) x j = decide (x = j) := by
  rw [isA_rec (wideP_rt n) (p := []) (by unfold wideP; rw [List.getElem?_replicate, if_pos h])]
  simp
/-- the items of a list are tuples of numbers -/
def RN (f : Nat → List Nat) (i : Nat) (v : V) (H : Hp) : Prop := ∃ a, v = .ref a ∧ H a = some (.tup (natsV (f i)))
theorem RN.tk (f : Nat → List Nat) (i : Nat) (v : V) (H H' : Hp) (h : RN f i v H) (k : TK H H') : RN f i v H' := by
  obtain ⟨a, e, x⟩ := h
  exact ⟨a, e, k _ _ x⟩
theorem parL_of {H : Hp} {acc : List V} {n : Nat} {f : Nat → List Nat} (hl : acc.length = n) (h : ∀ (j : Nat) v, acc[j]? = some v → RN f j v H) : ParL H acc ((List.range n).map f) := by
  refine ⟨by rw [hl, List.length_map, List.length_range], fun j p e => ?_⟩
  have hj := (List.getElem?_eq_some_iff.mp e).1
  rw [List.length_map, List.length_range] at hj
  rw [List.getElem?_map, List.getElem?_range hj] at e
  have ep : f j = p := Option.some.inj e
  obtain ⟨a, e1, e2⟩ := h j _ (List.getElem?_eq_getElem (by omega))
  rw [ep] at e2
  exact ⟨a, by rw [List.getElem?_eq_getElem (by omega), e1], e2⟩
/-- the parents of the kind i -/
def RowR (i : Nat) (v : V) (H : Hp) : Prop := ∃ a q, v = .ref a ∧ H a = some (.tup (natsV q)) ∧ OkL q i
theorem RowR.tk {i : Nat} {v : V} {H H' : Hp} (h : RowR i v H) (k : TK H H') : RowR i v H' := by
  obtain ⟨a, q, e, x, o⟩ := h
  exact ⟨a, q, e, k _ _ x, o⟩
theorem rows_of {H : Hp} {acc : List V} {n : Nat} (hn : n ≤ 400) (hl : acc.length = n) (h : ∀ (j : Nat) v, acc[j]? = some v → RowR j v H) : ∃ P, ParL H acc P ∧ OkP P ∧ P.length = n := by
  obtain ⟨f, hf⟩ := Classical.axiomOfChoice (r := fun (j : Nat) (q : List Nat) => j < n → ∃ a, acc[j]? = some (.ref a) ∧ H a = some (.tup (natsV q)) ∧ OkL q j) (fun j => by
    by_cases hj : j < n
    · obtain ⟨a, q, e, x, o⟩ := h j _ (List.getElem?_eq_getElem (by omega))
      exact ⟨q, fun _ => ⟨a, by rw [List.getElem?_eq_getElem (by omega), e], x, o⟩⟩
    · exact ⟨[], fun z => absurd z hj⟩)
  refine ⟨(List.range n).map f, parL_of hl fun j v e => ?_, ⟨fun j q e => ?_, ?_⟩, ?_⟩
  · have hj := (List.getElem?_eq_some_iff.mp e).1
    obtain ⟨a, e1, e2, _⟩ := hf j (by omega)
    rw [e] at e1
    exact ⟨a, Option.some.inj e1, e2⟩
  · have hj := (List.getElem?_eq_some_iff.mp e).1
    rw [List.length_map, List.length_range] at hj
    rw [List.getElem?_map, List.getElem?_range hj] at e
    obtain ⟨_, _, _, o⟩ := hf j hj
    rw [← Option.some.inj e]
    exact o
  · rw [List.length_map, List.length_range]
    exact hn
  · rw [List.length_map, List.length_range]
theorem nats_of {n : Nat} : ∀ {ns : List Int}, ns.Pairwise (· < ·) → (∀ x ∈ ns, ∃ z : Nat, z < n ∧ x = (z : Int)) → ∃ ks : List Nat, ns = ks.map (fun z : Nat => (z : Int)) ∧ (∀ k ∈ ks, k < n) ∧ ks.Pairwise (· < ·)
  | [], _, _ => ⟨[], rfl, (fun k hk => by cases hk), List.Pairwise.nil⟩
  | x :: r, hp, h => by
    obtain ⟨h1, h2⟩ := List.pairwise_cons.mp hp
    obtain ⟨ks, e, hk, hkp⟩ := nats_of h2 fun y hy => h y (List.mem_cons_of_mem _ hy)
    obtain ⟨z, hz, ez⟩ := h x List.mem_cons_self
    refine ⟨z :: ks, by rw [e, ez]; rfl, fun k hk2 => ?_, List.pairwise_cons.mpr ⟨fun k hk2 => ?_, hkp⟩⟩
    · rcases List.mem_cons.mp hk2 with e2 | e2
      · rw [e2]; exact hz
      · exact hk k e2
    · have := h1 (k : Int) (by rw [e]; exact List.mem_map.mpr ⟨k, hk2, rfl⟩)
      omega
theorem nodup_le : ∀ (m : Nat) {ks : List Nat}, ks.Nodup → (∀ k ∈ ks, k < m) → ks.length ≤ m
  | 0, [], _, _ => Nat.le_refl _
  | 0, k :: r, _, h => absurd (h k List.mem_cons_self) (Nat.not_lt_zero _)
  | m + 1, ks, hn, h => by
    by_cases z : m ∈ ks
    · have l := List.length_erase_of_mem z
      have ih := nodup_le m (hn.erase m) fun k hk => by
        have q := (List.Nodup.mem_erase_iff hn).mp hk
        have := h k q.2
        omega
      have := List.length_pos_of_mem z
      omega
    · have ih := nodup_le m hn fun k hk => by
        have := h k hk
        have : k ≠ m := fun e => z (e ▸ hk)
        omega
      omega
/-! ### clauses -/
def optV : Option Int → V
  | none => .non
  | some i => .int i
def ClsL (H : Hp) (vs : List V) (Cs : List (Nat × Int)) : Prop := vs.length = Cs.length ∧ ∀ (j : Nat) c, Cs[j]? = some c → ∃ a, vs[j]? = some (.ref a) ∧ H a = some (.tup [.int (c.1 : Int), .int c.2])
def ClsAt (H : Hp) (a : Addr) (Cs : List (Nat × Int)) : Prop := ∃ vs, H a = some (.tup vs) ∧ ClsL H vs Cs
theorem ClsL.tk {H H' : Hp} {vs : List V} {Cs : List (Nat × Int)} (h : ClsL H vs Cs) (k : TK H H') : ClsL H' vs Cs := ⟨h.1, fun j p e => by
  obtain ⟨a, e1, e2⟩ := h.2 j p e
  exact ⟨a, e1, k _ _ e2⟩⟩
theorem ClsAt.tk {H H' : Hp} {a : Addr} {Cs : List (Nat × Int)} (h : ClsAt H a Cs) (k : TK H H') : ClsAt H' a Cs := by
  obtain ⟨vs, e, l⟩ := h
  exact ⟨vs, k _ _ e, l.tk k⟩
theorem ClsL.here {H : Hp} {vs : List V} {Cs : List (Nat × Int)} (h : ClsL H vs Cs) {j : Nat} {x : V} (e : vs[j]? = some x) : ∃ a c, x = .ref a ∧ Cs[j]? = some c ∧ H a = some (.tup [.int (c.1 : Int), .int c.2]) := by
  have hj := (List.getElem?_eq_some_iff.mp e).1
  rw [h.1] at hj
  obtain ⟨a, e1, e2⟩ := h.2 j _ (List.getElem?_eq_getElem hj)
  rw [e] at e1
  exact ⟨a, _, Option.some.inj e1, List.getElem?_eq_getElem hj, e2⟩
theorem ClsL.take {H : Hp} {vs : List V} {Cs : List (Nat × Int)} (h : ClsL H vs Cs) (m : Nat) : ClsL H (vs.take m) (Cs.take m) := by
  refine ⟨by rw [List.length_take, List.length_take, h.1], fun j q hq => ?_⟩
  rw [List.getElem?_take] at hq
  split at hq
  · rename_i hm
    rw [List.getElem?_take_of_lt hm]
    exact h.2 j q hq
  · cases hq
theorem ClsL.snoc {H : Hp} {vs : List V} {Cs : List (Nat × Int)} (h : ClsL H vs Cs) {a : Addr} {c : Nat × Int} (e : H a = some (.tup [.int (c.1 : Int), .int c.2])) : ClsL H (vs ++ [.ref a]) (Cs ++ [c]) := by
  refine ⟨by rw [List.length_append, List.length_append, h.1]; rfl, fun j q hq => ?_⟩
  by_cases hj : j < Cs.length
  · rw [List.getElem?_append_left hj] at hq
    rw [List.getElem?_append_left (by rw [h.1]; exact hj)]
    exact h.2 j q hq
  · rw [List.getElem?_append_right (by omega)] at hq
    have l := (List.getElem?_eq_some_iff.mp hq).1
    rw [List.length_singleton] at l
    have ej : j - Cs.length = 0 := by omega
    rw [ej] at hq
    have er : c = q := Option.some.inj hq
    rw [List.getElem?_append_right (by rw [h.1]; omega), h.1, ej, ← er]
    exact ⟨a, rfl, e⟩
/-- the first place that is met; the label there -/
def firstB (Cs : List (Nat × Int)) (S : Nat → Bool) : Nat := Cs.findIdx fun c => S c.1
def labB (Cs : List (Nat × Int)) (S : Nat → Bool) : Option Int := (Cs[firstB Cs S]?).map (·.2)
theorem labB_congr {Cs : List (Nat × Int)} {S T : Nat → Bool} (h : ∀ c ∈ Cs, S c.1 = T c.1) : labB Cs S = labB Cs T := by
  have key : ∀ Cs : List (Nat × Int), (∀ c ∈ Cs, S c.1 = T c.1) → firstB Cs S = firstB Cs T := by
    intro Cs
    induction Cs with
    | nil => intro _; rfl
    | cons c r ih =>
      intro h
      have ih := ih fun d hd => h d (List.mem_cons_of_mem _ hd)
      unfold firstB at ih ⊢
      rw [List.findIdx_cons, List.findIdx_cons, h c List.mem_cons_self, ih]
  unfold labB
  rw [key Cs h]
theorem first_drop {Cs : List (Nat × Int)} {S : Nat → Bool} {i : Nat} {c : Nat × Int} (hc : Cs[i]? = some c) (h : firstB Cs S = i + firstB (Cs.drop i) S) : firstB Cs S = if S c.1 then i else (i + 1) + firstB (Cs.drop (i + 1)) S := by
  have il := (List.getElem?_eq_some_iff.mp hc).1
  have hd : Cs.drop i = c :: Cs.drop (i + 1) := by
    rw [List.drop_eq_getElem_cons il]
    rw [List.getElem?_eq_getElem il] at hc
    rw [Option.some.inj hc]
  rw [h, hd]
  unfold firstB
  rw [List.findIdx_cons]
  cases S c.1 with
  | true => rfl
  | false => show i + ((Cs.drop (i + 1)).findIdx (fun c => S c.1) + 1) = _; simp only [Bool.false_eq_true, if_false]; omega
theorem all_true (n : Nat) : (List.range n).filterMap (fun _ => some (V.bl true)) = (List.replicate n true).map V.bl := by
  rw [show (fun _ : Nat => some (V.bl true)) = some ∘ (fun _ : Nat => V.bl true) from rfl, List.filterMap_eq_map, List.map_replicate]
  exact List.eq_replicate_iff.mpr ⟨by rw [List.length_map, List.length_range], fun b hb => by
    obtain ⟨x, _, e⟩ := List.mem_map.mp hb
    exact e.symm⟩
theorem all_id (n : Nat) : (List.replicate n true).all id = true := List.all_eq_true.mpr fun x hx => (List.eq_of_mem_replicate hx)
theorem filter_natsV (p : Nat → Bool) (f : Nat → Nat) (n : Nat) : (List.range n).filterMap (fun i => if p i = true then some (V.int ((f i : Nat) : Int)) else none) = natsV (((List.range n).filter p).map f) := by
  unfold natsV
  induction n with
  | zero => rfl
  | succ n ih =>
    rw [filterMap_range_succ, ih, List.range_succ, List.filter_append, List.map_append, List.map_append]
    congr 1
    rw [List.filter_cons]
    cases p n <;> rfl
theorem filter_nats (p : Nat → Bool) (n : Nat) : (List.range n).filterMap (fun i => if p i = true then some (V.int (i : Int)) else none) = natsV ((List.range n).filter p) := by
  have h := filter_natsV p id n
  rw [List.map_id] at h
  exact h
theorem slice_any {K : PySem.W.Frag} {H : Hp} {a : Addr} {xs : List V} {m : Nat} {Q : VK} (hx : H a = some (.tup xs)) (hm : m ≤ xs.length)
    (k : ∀ p H', Same H H' → H' p = some (.tup (xs.take m)) → Q (.ref p) H') : rSlA K (.ref a) none (some (m : Int)) H Q := by
  have e0 : HT.sIx xs.length 0 none = 0 := rfl
  have e1 : HT.sIx xs.length xs.length (some (m : Int)) = m := by
    rw [HT.sIx_nat]
    omega
  refine ⟨a, xs, rfl, SqT.of hx, fun e => ?_, fun _ p np => ?_⟩
  · rw [e1] at e
    exact k a H (Same.refl H) (by rw [hx, e.2, List.take_length])
  · refine k p _ (Same.new (Same.refl H) np) ?_
    rw [upd_same]
    unfold cutV
    rw [e0, e1]
    rfl
theorem ixn_nat {n j : Nat} (hj : j < n) : ixN n (j : Int) = some j := by
  unfold ixN
  rw [if_pos (by omega), if_pos (by omega)]
  simp
/-! ### words for books -/
local macro_rules | `(tactic| tm_at "fld") => `(tactic| refine ⟨_, _, _, _, _, rfl, by tm_at "hp", by assumption, by assumption, by first | exact bkF_bits _ _ | exact bkF_parents _ _ | fail "fld", ?_⟩)
/-! ### schemes -/
abbrev Tr := Int × Int × List Int
def Trip (H : Hp) (v : V) (e : Tr) : Prop := ∃ (p q : Addr), v = .ref p ∧ H p = some (.tup [.int e.1, .int e.2.1, .ref q]) ∧ H q = some (.tup (e.2.2.map V.int))
def SchAt (H : Hp) (a : Addr) (S : List Tr) : Prop := ∃ vs : List V, H a = some (.tup vs) ∧ vs.length = S.length ∧ ∀ (i : Nat) (e : Tr), S[i]? = some e → ∃ v, vs[i]? = some v ∧ Trip H v e
theorem Trip.tk {H H' : Hp} {v : V} {e : Tr} (h : Trip H v e) (k : TK H H') : Trip H' v e := by
  obtain ⟨p, q, e1, e2, e3⟩ := h
  exact ⟨p, q, e1, k _ _ e2, k _ _ e3⟩
theorem SchAt.tk {H H' : Hp} {a : Addr} {S : List Tr} (h : SchAt H a S) (k : TK H H') : SchAt H' a S := by
  obtain ⟨vs, h1, h2, h3⟩ := h
  refine ⟨vs, k _ _ h1, h2, fun i e he => ?_⟩
  obtain ⟨v, hv, ht⟩ := h3 i e he
  exact ⟨v, hv, ht.tk k⟩
theorem SchAt.at {H : Hp} {a : Addr} {S : List Tr} (h : SchAt H a S) {i : Nat} {e : Tr} (he : S[i]? = some e) : ∃ vs p q, H a = some (.tup vs) ∧ vs.length = S.length ∧ vs[i]? = some (.ref p) ∧ H p = some (.tup [.int e.1, .int e.2.1, .ref q]) ∧ H q = some (.tup (e.2.2.map V.int)) := by
  obtain ⟨vs, h1, h2, h3⟩ := h
  obtain ⟨v, hv, p, q, e1, e2, e3⟩ := h3 i e he
  exact ⟨vs, p, q, h1, h2, by rw [hv, e1], e2, e3⟩
def saysB (ex ep : Tr) : Bool := decide (ep.1 < (ex.2.2.length : Int)) && decide (ep.2.1 ≤ ex.2.2.getD ep.1.toNat 0)
def Good (e : Tr) : Prop := 0 ≤ e.1 ∧ e.2.2.length ≤ 1000
def GoodT (v : V) (H : Hp) : Prop := ∃ e, Good e ∧ Trip H v e
theorem GoodT.tk {v : V} {H H' : Hp} (h : GoodT v H) (k : TK H H') : GoodT v H' := by
  obtain ⟨e, g, t⟩ := h
  exact ⟨e, g, t.tk k⟩
theorem sch_of {H : Hp} {a : Addr} : ∀ {vs : List V}, (∀ v ∈ vs, GoodT v H) → ∃ S : List Tr, S.length = vs.length ∧ (∀ e ∈ S, Good e) ∧ ∀ (i : Nat) (e : Tr), S[i]? = some e → ∃ v, vs[i]? = some v ∧ Trip H v e
  | [], _ => ⟨[], rfl, (fun e h => by cases h), (fun i e h => by simp at h)⟩
  | v :: r, h => by
    obtain ⟨S, h1, h2, h3⟩ := sch_of (a := a) (vs := r) fun u hu => h u (List.mem_cons_of_mem _ hu)
    obtain ⟨e, g, t⟩ := h v List.mem_cons_self
    refine ⟨e :: S, by rw [List.length_cons, List.length_cons, h1], fun x hx => ?_, fun i x hx => ?_⟩
    · rcases List.mem_cons.mp hx with rfl | hx
      · exact g
      · exact h2 x hx
    · cases i with
      | zero =>
        have q : e = x := Option.some.inj hx
        exact ⟨v, rfl, q ▸ t⟩
      | succ i => exact h3 i x hx
/-- a list of triples' addresses -/
structure ScL (H : Hp) (vs : List V) (S : List Tr) : Prop where
  len : vs.length = S.length
  item : ∀ (i : Nat) (e : Tr), S[i]? = some e → ∃ v, vs[i]? = some v ∧ Trip H v e
theorem ScL.nil {H : Hp} : ScL H [] [] := ⟨rfl, fun i e h => by simp at h⟩
theorem ScL.tk {H H' : Hp} {vs : List V} {S : List Tr} (h : ScL H vs S) (k : TK H H') : ScL H' vs S := ⟨h.len, fun i e he => by
  obtain ⟨v, hv, ht⟩ := h.item i e he
  exact ⟨v, hv, ht.tk k⟩⟩
theorem ScL.snoc {H : Hp} {vs : List V} {S : List Tr} {v : V} {e : Tr} (h : ScL H vs S) (t : Trip H v e) : ScL H (vs ++ [v]) (S ++ [e]) := by
  refine ⟨by rw [List.length_append, List.length_append, h.len]; rfl, fun i x hx => ?_⟩
  by_cases hi : i < S.length
  · rw [List.getElem?_append_left hi] at hx
    obtain ⟨u, hu, ht⟩ := h.item i x hx
    exact ⟨u, by rw [List.getElem?_append_left (by rw [h.len]; exact hi)]; exact hu, ht⟩
  · rw [List.getElem?_append_right (by omega)] at hx
    have q := (List.getElem?_eq_some_iff.mp hx).1
    rw [List.length_singleton] at q
    have e0 : i - S.length = 0 := by omega
    rw [e0] at hx
    have ex : e = x := Option.some.inj hx
    refine ⟨v, ?_, ex ▸ t⟩
    rw [List.getElem?_append_right (by rw [h.len]; omega), h.len, e0]
    rfl
theorem ScL.sch {H : Hp} {a : Addr} {vs : List V} {S : List Tr} (h : ScL H vs S) (ha : H a = some (.tup vs)) : SchAt H a S := ⟨vs, ha, h.len, h.item⟩
theorem ScL.rev {H : Hp} {vs : List V} {S : List Tr} (h : ScL H vs S) : ScL H vs.reverse S.reverse := by
  refine ⟨by rw [List.length_reverse, List.length_reverse, h.len], fun i e he => ?_⟩
  have il : i < S.length := by
    have q := (List.getElem?_eq_some_iff.mp he).1
    rw [List.length_reverse] at q
    exact q
  rw [List.getElem?_reverse il] at he
  obtain ⟨v, hv, ht⟩ := h.item _ _ he
  exact ⟨v, by rw [List.getElem?_reverse (by rw [h.len]; exact il), h.len]; exact hv, ht⟩
section
open PySem.Spec PyProof.Rows
/-! ### super().__init__(text) in an own error over an own error over ValueError -/
section
variable {prog : Program} {w : World} {A : Around} {E : Value → Shared → Prop} {hp : Heap} {g : Array GenState} {d : Drawn} {t : Nat} {os : OsState}
variable {nm qn : Str} {C N : Addr} {bs bm sub : List Value} {hdct ab : Bool} {sn : List Str} {col : Option Bool} {dd : Option Addr} {k0 k1 k2 k3 k5 : Option Value}
theorem bound_init {u e t0 : Addr} {vals : List Value} {Q : Value → Shared → Prop} (kC : hp.get? C = some (excClassObj nm qn C N bs bm hdct sn sub ab col dd k0 k1 k2 k3 k5 "ValueError.__new__"))
    (ke : hp.get? e = some (PySem.HandSPX.excO C t0)) (ku : hp.get? u = some (PySem.W.kxs_mw "ValueError.__init__" e)) (few : vals.length ≤ sizeLine)
    (fin : ∀ h2 t2, (∀ b o, b ≠ e → hp.get? b = some o → h2.get? b = some o) → h2.get? e = some (PySem.HandSPX.excO C t2) → Q .none ⟨h2, g, d, t, os⟩) : wpAny (model prog w) A (call (.ref u) vals) Q E ⟨hp, g, d, t, os⟩ := by
  apply wpAny_call
  apply codeAny_of_tree
  change wpAny (model prog w) A.in1 (callAny (.ref u) ⟨vals, []⟩) _ _ _
  unfold callAny
  simp only
  apply wpAny_bind
  refine wpAny_load ku ?_
  have b1 : (Value.type "method-wrapper" == Value.type "method" || Value.type "method-wrapper" == Value.type "builtin_function_or_method" || Value.type "method-wrapper" == Value.type "method-wrapper") = true := by decide
  simp only [PySem.W.kxs_mw, b1, if_true]
  apply PySem.W.KFB.if_so (by decide)
  apply wpAny_bind
  refine PySem.W.check_bound_init F.excBase_ValueError.toExcCallFacts kC ke rfl ?_
  refine wpAny_pure ?_
  refine And.intro (plainId_quiet F.excBase_ValueError.init.plain _) (codeAny_builtin F.excBase_ValueError.initEntry ?_)
  rw [Around.under_plainId F.excBase_ValueError.init.plain _]
  wp_walk
  apply fin (t2 := hp.objs.size)
  · intro b o nb hb
    rw [Heap.get?_update_other _ _ (fun z => nb z.symm)]
    exact Heap.get?_push_of_some _ hb
  · rw [Heap.get?_update_self _ (Heap.get?_push_of_some _ ke) rfl]
    rfl
end
/-- what the written part says of a class and of its own __init__ that calls the one above -/
structure SupC (K : PySem.W.Frag) (mg : Str → Option Value) (prog : Program) (C f cc cda : Addr) (F : NdefX.NF) : Prop where
  ex : OexC K C
  opq : PySem.W.nsIn K cStatics "thirdparty.any" = some none
  sup : PySem.W.ks_superIn K C C "__init__" = some (some (.builtin "ValueError.__init__"))
  subV : PySem.W.subIn K (.ref C) (.type "ValueError") = some true
  mro : PySem.W.mroIn K C (.ref C) = some true
  cell : ∃ cl cld csl, K.lookup cc = some ⟨cl, cld, .cell (some (.ref C)), csl⟩
  code : ∃ ccl cdd vs ccs file tf, K.lookup cda = some ⟨ccl, cdd, .fields vs, ccs⟩ ∧ vs[2]? = some (.str file tf) ∧ ((prog.main.file : Str) == file) = true
  fn : ∃ oc od dV kV doc pm an ctv osl, K.lookup f = some ⟨oc, od, .func (PySem.W.fnX F.name F.qual F.params F.body F.scope F.cl dV kV doc pm an (.ref F.c) ctv), osl⟩
  top : (prog.main.scope.names.lookup ("super" : Str)).isSome = false
  nosup : mg "super" = none
  cl : F.cl = [(("__class__" : Str), cc)]
  c : F.c = cda
  kind : F.scope.kind = .function
  ks : F.scope.names.lookup ("super" : Str) = some .globalImplicit
  kc : F.scope.names.lookup ("__class__" : Str) = some .free
  kself : F.scope.names.lookup ("self" : Str) = some .local
  first : ∃ ar : Arg, (F.params.posonlyargs ++ F.params.args).head? = some ar ∧ ar.arg = ("self" : Str)
section
variable {X : Cx} {C f cc cda L a : Addr} {F : NdefX.NF} {σ : L2.St} {H : Hp} {s : Shared} {Q : Value → Shared → Prop} {E : Value → Shared → Prop} {p0 p1 p2 p3 p4 : Pos} {j : Nat} {msg : Str} {body : List Stmt}
theorem sup_eval (T : SupC X.K X.mg X.prog C f cc cda F) (hE : X.env = NdefX.envF F f L) (I : Inv X [] σ H s) (hN : X.N[0]? = some ("self" : Str)) (hσ : σ[0]? = some (some (.ref a))) (ha : H a = some (exo a C none)) (hb : bootBuiltins "super" = some (.type "super")) {pl : Sem Bool}
    (he : eval (.Call (.Attribute (.Call (.Name "super" p0) [] [] p1) "__init__" p2) [.Constant (.str msg) j p3] [] p4) X.env = (do
      let ov ← attributeBase (.Call (.Name "super" p0) [] [] p1) "__init__" X.env (eval (.Call (.Name "super" p0) [] [] p1) X.env)
      standAt p2.atName
      let (f, first) ← holding [ov] (getMethod ov "__init__" pl)
      callWith p4 f first (backTo p4 (starEach [.Constant (.str msg) j p3] X.env)) []))
    (h : ∀ s', Inv X [] σ H s' → Q .none s') :
    _root_.PySem.wpAt (model X.prog X.w) X.A (.func body X.env) (eval (.Call (.Attribute (.Call (.Name "super" p0) [] [] p1) "__init__" p2) [.Constant (.str msg) j p3] [] p4) X.env) Q X.xe s := by
  have KX := I.kIn
  obtain ⟨cl, cld, csl, lcell⟩ := T.cell
  obtain ⟨ccl, cdd, vs, ccs, file, tf, lcode, hvs, hfile⟩ := T.code
  obtain ⟨oc, od, dV, kV, doc, pm, an, ctv, osl, lfn⟩ := T.fn
  obtain ⟨ar, har, hself⟩ := T.first
  obtain ⟨nm, q, N, bs, bm, sn, sub, ab, col, dd, k0, k1, k2, k3, k5, hC, hbm⟩ := T.ex.cls
  obtain ⟨t1, ho⟩ := exo_at I.hok ha
  have hks : X.env.kindOf "super" = some .globalImplicit := by rw [hE]; exact T.ks
  have hkc : X.env.kindOf "__class__" = some .free := by rw [hE]; exact T.kc
  have hksf : X.env.kindOf "self" = some .local := by rw [hE]; exact T.kself
  have hkd : X.env.scope.kind = .function := I.ok.kind
  have hfu : X.env.func = some f := by rw [hE]
  have hco : X.env.code = .ref cda := by rw [hE, ← T.c]
  have hcl : X.env.cells.lookup ("__class__" : Str) = some cc := by rw [hE]; show F.cl.lookup ("__class__" : Str) = _; rw [T.cl]; rfl
  have hcls : PySem.W.clsIn X.K C = some { name := nm, bases := bs, mro := .ref C :: bm, ns := N, qualname := q, hasDict := true, slotNames := sn, subclasses := sub, abstract := ab, collection := col, hasDel := false } := by unfold PySem.W.clsIn; rw [hC] <;> rfl
  refine PySem.ks_wpAt_MethodCall ?_ he
  refine PySem.ks_wpAt_super_base hks hkc (by decide +kernel) hfu (KX _ _ lfn) rfl har hco (KX _ _ lcode) rfl hvs hfile T.top ?_
  obtain ⟨mb, g1, g2⟩ := I.mod.blt
  refine PySem.W.ks_loadName_global hkd hks (Calls.loadGlobal_builtin (by rw [I.ok.glob]; exact I.mod.glob.keeps I.bk) T.nosup (by rw [I.ok.blt]; exact g1.keeps I.bk) ((g2 "super" (by decide)).trans hb) ⟨rfl, ?_⟩)
  refine wpAny_loadName_free hkd hkc hcl ⟨_, KX _ _ lcell, rfl⟩ ?_
  obtain ⟨m, hns, hloc⟩ := I.loc
  obtain ⟨u, ru, hl⟩ := hloc 0 "self" (.ref a) hN hσ (.inl (by rw [hE]; exact T.kself))
  have hm : m "self" = some (.ref a) := by
    rcases hl with ⟨_, hl⟩ | ⟨hl, _⟩
    · cases ru
      exact hl
    · rw [hksf] at hl
      rcases hl with hl | hl <;> cases hl
  rw [hself]
  refine wpAny_loadName_local hkd hksf hns hm ?_
  have KC := KX _ _ hC
  have ia : PySem.W.InstAt s.heap a { cls := .ref C, dict := none, data := .fields #[.ref t1, .none, .none, .none, .bool false, .none] } C none := ⟨ho, rfl, rfl, trivial⟩
  have ne : a ≠ C := PySem.W.ks_ne KX ia hcls
  have hI : PySem.W.Looks (model X.prog X.w) s.heap (isInstance (.ref a) (.type "ValueError")) true := ia.type.andThen (PySem.W.looks_subIn KX T.subV)
  obtain ⟨hp, g, d, t, os⟩ := s
  refine ks_wpAny_isType_cls KC rfl ⟨rfl, ?_⟩
  refine ks_wpAny_call_super KC rfl ho rfl (fun c e => nomatch e) (PySem.W.looks_mroIn KX T.mro) (fun h1 eso kk => ?_)
  have I1 : Inv X [] σ H ⟨h1, g, d, t, os⟩ := I.kept (t' := t) kk
  have KX1 := I1.kIn
  have ia1 : PySem.W.InstAt h1 a { cls := .ref C, dict := none, data := .fields #[.ref t1, .none, .none, .none, .bool false, .none] } C none := ⟨kk _ _ ho, rfl, rfl, trivial⟩
  have hf : PySem.W.alongIn X.K "__init__" (((Value.ref C :: bm).dropWhile (· != .ref C)).drop 1) = some (some (.builtin "ValueError.__init__")) := by
    have := T.sup
    unfold PySem.W.ks_superIn at this
    rw [hcls] at this
    exact this
  refine PySem.W.kxs_getMethod PySem.W.kxs_ValueError eso (PySem.W.looks_opaque KX1 T.opq) (l₀ := .ref C :: bm) (fun A Q E s k q => wpAny_bind ((PySem.W.looks_clsIn KX1 hcls) A _ E s k (wpAny_pure q))) rfl KX1 hf (ia1.type.andThen (PySem.W.looks_subIn KX1 T.subV)) ne (by decide +kernel) ?_
  have hu0 : (h1.push (PySem.W.kxs_mw "ValueError.__init__" a)).get? h1.objs.size = some (PySem.W.kxs_mw "ValueError.__init__" a) := Heap.get?_push_at rfl rfl
  have I2 : Inv X [] σ H ⟨h1.push (PySem.W.kxs_mw "ValueError.__init__" a), g, d, t + 1, os⟩ := I1.kept (t' := t + 1) fun b o e => Heap.get?_push_of_some _ e
  have fp : FpOk X [] H h1.objs.size := I1.fpOk (Nat.le_refl _) (I1.hok.fresh (Nat.le_refl _))
  have I3 := I2.pinned (fp := [h1.objs.size]) (fun b hb => by rw [List.mem_singleton.mp hb]; exact fp) (fun b hb => by rw [List.mem_singleton.mp hb]; exact ⟨_, hu0, fun v z => nomatch z⟩)
  have pin : (h1.objs.size, PySem.W.kxs_mw "ValueError.__init__" a) ∈ ([] ++ pinsAt [h1.objs.size] (h1.push (PySem.W.kxs_mw "ValueError.__init__" a)) : List (Addr × Obj)) := by
    rw [List.nil_append]
    exact mem_pinsAt (List.mem_singleton.mpr rfl) hu0
  have ap : PA X [.Constant (.str msg) j p3] (tCons (tC (.str msg)) tNil) := pa_cons pe_str pa_nil
  show wpAny (model X.prog X.w) X.A (callWith p4 (.ref h1.objs.size) [] (backTo p4 (starEach [.Constant (.str msg) j p3] X.env)) []) Q X.xe _
  refine PySem.W.kxs_callWith (i := "ValueError.__init__") (x := a) (by rfl) ?_
  show wpAny (model X.prog X.w) X.A (evalArgs (.ref h1.objs.size) true ((false, eval (.Constant (.str msg) j p3) X.env) :: []) []) _ X.xe _
  refine PySem.Calls.evalArgs_plain (wpAny_mono (ap.run p4 _ _ σ H (fun vs H1 => vs = [V.str msg] ∧ H1 = H) I3 ⟨rfl, rfl⟩) (fun us s4 hh => ?_) fun _ _ z => z)
  obtain ⟨vs4, H4, I4, r4, ev, eH⟩ := hh
  subst eH
  have hu4 := (I4.pin _ (List.mem_append_right _ pin)).1
  refine ⟨hu4, ?_⟩
  have I5 : Inv X [] σ H4 s4 := I4.unpinned (pl := pinsAt [h1.objs.size] (h1.push (PySem.W.kxs_mw "ValueError.__init__" a)))
  obtain ⟨t5, ho5⟩ := exo_at I5.hok ha
  obtain ⟨h5, g5, d5, tk5, os5⟩ := s4
  have few : us.length ≤ sizeLine := by
    rw [← r4.length, ev]
    show 1 ≤ sizeLine
    rw [sizeLine_eq]
    omega
  refine bound_init (I5.kIn _ _ hC) ho5 hu4 few fun h6 t6 k6 e6 => ?_
  have J := I5.write (t' := tk5) (x := a) (e := a) (o := exo a C none) (by rw [ha]; exact True.intro) (.inl rfl) k6 ⟨_, e6⟩ (exo_ok e6)
  have eu : upd H4 a (exo a C none) = H4 := by
    funext b
    by_cases hb : b = a
    · rw [hb, upd_same, ha]
    · rw [upd_ne hb]
  rw [eu] at J
  exact h _ J
end
/-- an own __init__ whose first line is super().__init__(text), as a def -/
theorem sup_fn {CX : CXT} {P : Program} {w : World} {K : PySem.W.Frag} {mg : Str → Option Value} {base : Heap} {C f cc cda : Addr} {F : NdefX.NF} {N ps : List Str} {rest : List Stmt} {k : Nat} {sp : Sp} {oc : Value} {od an : Option Addr} {dV kV doc pm ctv : Value} {osl : Array (Option Value)}
    {p0 p1 p2 p3 p4 p5 : Pos} {j : Nat} {msg : Str} {pl : Sem Bool}
    (lk : K.lookup f = some ⟨oc, od, .func (PySem.W.fnX F.name F.qual F.params F.body F.scope F.cl dV kV doc pm an (.ref F.c) ctv), osl⟩) (hcd : PySem.W.codeIn K (.ref F.c) F.qual = true)
    (T : SupC K mg P C f cc cda F) (S : NdefX.NScope N ps [("__class__" : Str)] F.scope) (hN : N[0]? = some ("self" : Str)) (len : ∀ vs H Q E, sp vs H Q E → vs.length = ps.length)
    (hF : F.body = .Expr (.Call (.Attribute (.Call (.Name "super" p0) [] [] p1) "__init__" p2) [.Constant (.str msg) j p3] [] p4) p5 :: rest)
    (he : ∀ L, eval (.Call (.Attribute (.Call (.Name "super" p0) [] [] p1) "__init__" p2) [.Constant (.str msg) j p3] [] p4) (NdefX.envF F f L) = (do
      let ov ← attributeBase (.Call (.Name "super" p0) [] [] p1) "__init__" (NdefX.envF F f L) (eval (.Call (.Name "super" p0) [] [] p1) (NdefX.envF F f L))
      standAt p2.atName
      let (f', first) ← holding [ov] (getMethod ov "__init__" pl)
      callWith p4 f' first (backTo p4 (starEach [.Constant (.str msg) j p3] (NdefX.envF F f L))) []))
    (hi : ∀ L, interactive (NdefX.envF F f L) = false) (hs : ∀ L, swapsWith (.Call (.Attribute (.Call (.Name "super" p0) [] [] p1) "__init__" p2) [.Constant (.str msg) j p3] [] p4) none p5.line (NdefX.envF F f L) = pure false)
    (hb : bootBuiltins "super" = some (.type "super"))
    (hbody : ∀ (A : Around) (outer : List Env) (s : Shared) (H : Hp) (vs : List V) (Q : VK) (E : XK), Room k (A.deeper (NdefX.envF F f s.heap.objs.size)) → sp vs H Q E →
      ∃ a, vs[0]? = some (.ref a) ∧ H a = some (exo a C none) ∧ ∃ t, PSs (NdefX.ncx CX P w K mg base N F f A outer s H E) rest t ∧ t { nx := fun _ H' => Q .non H', rt := Q } (NdefX.startF N vs [none]) H) :
    FnOk P w K mg base CX (k + 1) f (PySem.W.fnX F.name F.qual F.params F.body F.scope F.cl dV kV doc pm an (.ref F.c) ctv) ps sp := by
  refine ⟨len, fun A outer s H args us vs Q E hr e0 hbd r hsp => ?_⟩
  have hl := len _ _ _ _ hsp
  have KX : K.In s.heap := e0.mod.kin.keeps fun b o e => (e0.bs b o e).1
  have lim : s.heap.NoLimit := e0.mod.nolimit.keeps fun b o e => (e0.bs b o e).1
  obtain ⟨cl, cld, csl, lcell⟩ := T.cell
  have bcell := e0.bs _ _ (e0.mod.kin _ _ lcell)
  have cells : NdefX.CellsAt F.cl [("__class__" : Str)] [none] s.heap H := by
    have look : ∀ y c, F.cl.lookup y = some c → y = ("__class__" : Str) ∧ c = cc := fun y c e => by
      rw [T.cl] at e
      by_cases hy : y = ("__class__" : Str)
      · subst hy
        have : some cc = some c := e
        exact ⟨rfl, (Option.some.inj this).symm⟩
      · have : (y == ("__class__" : Str)) = false := by simpa using hy
        simp [List.lookup, this] at e
    refine ⟨rfl, fun y c e => ?_, fun x y c h1 h2 => (look x c h1).1.trans (look y c h2).1.symm, fun i y hy => ?_⟩
    · obtain ⟨_, rfl⟩ := look y c e
      exact ⟨bcell.2, _, _, bcell.1, rfl⟩
    · have hy' : y = ("__class__" : Str) := by
        cases i with
        | zero => exact (Option.some.inj hy).symm
        | succ i => simp at hy
      subst hy'
      refine ⟨cc, by rw [T.cl]; rfl, fun v hv => ?_⟩
      cases i with
      | zero => cases hv
      | succ i => simp at hv
  refine PySem.ks_codeAny_call_defAt (fd := PySem.W.fnX F.name F.qual F.params F.body F.scope F.cl dV kV doc pm an (.ref F.c) ctv) (body := F.body) (binds := ps.zip us) hr.depth (KX _ _ lk) rfl lim (PySem.W.codeRec_of KX hcd) rfl hbd S.nocell (fun ⟨n, _⟩ hy => S.par n (List.of_mem_zip hy).1) (fun h₁ hns kp => ?_) S.co S.gen S.kind
  have I : Inv (NdefX.ncx CX P w K mg base N F f A outer s H E) [] (NdefX.startF N vs [none]) H { s with heap := h₁, toks := s.toks + (ps.zip us).length } := NdefX.inv_startN S hr.hd e0 hl r cells hns kp
  obtain ⟨a, hv0, ha, t, ht, hq⟩ := hbody A outer s H vs Q E (hr.deeper _) hsp
  show _root_.PySem.wpAt (model P w) (A.deeper (NdefX.envF F f s.heap.objs.size)) (.func F.body (NdefX.envF F f s.heap.objs.size)) (execs F.body (NdefX.envF F f s.heap.objs.size)) _ _ _
  have hσ : (NdefX.startF N vs [none])[0]? = some (some (.ref a)) := by
    unfold NdefX.startF
    rw [List.getElem?_append_left (by rw [List.length_map]; exact (List.getElem?_eq_some_iff.mp hv0).1), List.getElem?_map, hv0]
    rfl
  rw [show execs F.body (NdefX.envF F f s.heap.objs.size) = execs (.Expr (.Call (.Attribute (.Call (.Name "super" p0) [] [] p1) "__init__" p2) [.Constant (.str msg) j p3] [] p4) p5 :: rest) (NdefX.envF F f s.heap.objs.size) by rw [hF]]
  refine PySem.ks_wpAt_execs_cons (PySem.ks_wpAt_Expr_any (sup_eval (X := NdefX.ncx CX P w K mg base N F f A outer s H E) (F := F) T rfl I hN hσ ha hb (he _) fun s' J => ?_) (hi _) (hs _))
  refine _root_.PySem.wpAt_of_wpAny ?_
  refine wpAny_mono (ht.run [] s' _ H _ J hq) (fun fl s'' hs => ?_) fun e s'' hs => hs
  have fin : ∀ {σ' : L2.St} {H' : Hp} {v : V} {u : Value}, Inv (NdefX.ncx CX P w K mg base N F f A outer s H E) [] σ' H' s'' → L2.RelV v u → Q v H' → CE outer P w H s Q u s'' :=
    fun {σ' H' v u} J rv q => ⟨v, H', J.os, J.bare, J.base, J.hok, rv, q⟩
  cases fl with
  | ret u =>
    obtain ⟨v, σ', H', J, rv, q⟩ := hs
    exact fin J rv q
  | next =>
    obtain ⟨σ', H', J, q⟩ := hs
    exact fin (v := V.non) (u := Value.none) J rfl q
  | brk =>
    obtain ⟨_, _, _, q⟩ := hs
    exact False.elim q
  | cont =>
    obtain ⟨_, _, _, q⟩ := hs
    exact False.elim q
/-! ### the errors made -/
/-- an error without a field is let go of: the heap is as it was -/
theorem let_go {X : Cx} {pins : List (Addr × Obj)} {σ : L2.St} {H : Hp} {Q : XK} {hp hp2 h2 : Heap} {g1 g2 : Array GenState} {d1 d2 : Drawn} {t1 t2 : Nat} {os1 os2 : OsState} {a C : Addr} (T : Raises X (.ref C)) (I : Inv X pins σ H ⟨hp, g1, d1, t1, os1⟩)
    (ha : hp.objs.size ≤ a) (k : ∀ b o, hp.get? b = some o → hp2.get? b = some o) (un : Un (frs X.stack) [] (upd H a (exo a C none)) (upd H a (exo a C none)) hp2 h2) (hok : HOk X.prog X.w (upd H a (exo a C none)) h2) (ho : os2 = os1) (hb : AllBare g2)
    (q : Q (.ref C) none H) : MkP X pins σ Q (.ref a) ⟨h2, g2, d2, t2, os2⟩ := by
  obtain ⟨t0, hoe⟩ := exo_at hok upd_same
  have hn : H a = none := I.hok.fresh ha
  obtain ⟨G, in1, in2⟩ := restrict h2 fun b => decide (b ≠ a)
  have there : ∀ b, b ≠ a → G.get? b = h2.get? b := fun b nb => in1 b (decide_eq_true nb)
  have gone : G.get? a = none := in2 a (by simp)
  have old : ∀ {b : Addr} {o : Obj}, hp.get? b = some o → b ≠ a := fun {b o} z => Nat.ne_of_lt (Nat.lt_of_lt_of_le (Heap.lt_size z) ha)
  have up : ∀ {b : Addr}, b ≠ a → upd H a (exo a C none) b = H b := fun {b} nb => upd_ne nb
  have U : Un (frs X.stack) [] H H hp G := {
    keep := fun b o z n hf hx => by
      rw [there b (old z)]
      exact un.keep b o (k b o z) (by rw [up (old z)]; exact n) hf hx
    slot := fun b o z n hf hx => by
      rw [there b (old z)]
      exact un.slot b o (k b o z) (by rw [up (old z)]; exact n) hf hx
    free := fun b o z n hx => n
    there := fun b o z hx => by
      rw [there b (old z)]
      exact un.there b o (k b o z) hx
    tups := fun b xs z => z
    frzs := fun b o u z => z
    tbls := fun b ps z => ⟨#[], by rw [z]; simp⟩ }
  have hok3 : HOk X.prog X.w H G := fun b o z => by
    have nb : b ≠ a := ne_of_none z hn
    refine (hok b o (by rw [up nb]; exact z)).stay (fun c v hc y => ?_) (fun c hc => ?_) (fun c xs hc => ?_)
    · have nc : c ≠ a := by
        rcases hc with hc | hc
        · rw [hc]
          exact nb
        · exact fun e => by
            rw [e, upd_same] at hc
            exact exo_own (Option.some.inj hc)
      rw [there c nc]
      exact y
    · have nc : c ≠ a := fun e => by
        rw [e, upd_same] at hc
        exact exo_own (Option.some.inj hc)
      rw [up nc] at hc
      exact hc
    · have nc : c ≠ a := fun e => by
        rw [e, upd_same] at hc
        exact exo_tup (Option.some.inj hc)
      rw [up nc] at hc
      exact hc
  have J : Inv X pins σ H ⟨G, g2, d2, t2, os2⟩ := I.call' (ch := []) ho U hok3 hb (fun b z => absurd z (by simp))
  refine ⟨a, _, _, ⟨G, g2, d2, t2, os2⟩, H, .ref C, none, rfl, J, fun b o z => ?_, gone, hoe, ⟨rfl, rfl⟩, rfl, rfl, hn, rfl, hb, T, q⟩
  by_cases hba : b = a
  · rw [hba, gone] at z
    cases z
  · exact (there b hba).symm.trans z
section
variable {X : Cx} {CX : CXT} {x : Str} {C fI : Addr} {k : Nat} {fd : FuncData} {ps : List Str} {p pos : Pos}
/-- what an __init__ of such an error promises -/
def sp_err (C : Addr) : Sp := fun vs H Q _ => ∃ a, vs = [.ref a] ∧ H a = some (exo a C none) ∧ Q .non H
def sp_errF (C : Addr) (fld : Str) : Sp := fun vs H Q _ => ∃ a v, vs = [.ref a, v] ∧ H a = some (exo a C none) ∧ ∀ dx, H dx = none → dx ≠ a → Q .non (upd (upd H dx (exd dx [(fld, v)])) a (exo a C (some dx)))
/-- X() -/
theorem pmk_n (T : OexC X.K C) (iC : PySem.W.findIn X.K (.ref C) "__init__" = some (some (.ref fI))) (tI : PySem.W.typeIn X.K (.ref fI) = some (.type "function"))
    (F1 : FnOk X.prog X.w X.K X.mg X.base CX k fI fd ps (sp_err C)) (hr : Room (k + 1) X.A) (hb : Binds X.K fd ps []) (hx : Passes CX X (fun _ _ _ => False)) (hg : Gl X x) (hm : X.mg x = some (.ref C))
    (hdb : (x == ("__debug__" : Str)) = false := by decide) : PMk X (.Call (.Name x p) [] [] pos) (fun _ H Q => Q (.ref C) none H) := by
  intro pins s σ H Q I h
  obtain ⟨nm, q, N, bs, bm, sn, sub, ab, col, dd, k0, k1, k2, k3, k5, hC, hbm⟩ := T.cls
  refine wpAny_Call_Name_kw (ld_glob I hg hm ?_ hdb)
  refine PySem.W.callWith_K0 I.kIn T.kC ?_
  show wpAny _ _ (call (.ref C) []) _ _ _
  obtain ⟨hp, g, dr, tk, os⟩ := s
  have up1 : hp.objs.size ≤ hp.objs.size + 1 := Nat.le_succ _
  have kk : ∀ b o, hp.get? b = some o → ((hp.push (PySem.W.kdv_tup [])).push (PySem.HandSPX.excO C hp.objs.size)).get? b = some o := fun b o e => Heap.get?_push_of_some _ (Heap.get?_push_of_some _ e)
  have here : ((hp.push (PySem.W.kdv_tup [])).push (PySem.HandSPX.excO C hp.objs.size)).get? (hp.objs.size + 1) = some (PySem.HandSPX.excO C hp.objs.size) := by heap_get
  have I2 : Inv X pins σ (upd H (hp.objs.size + 1) (exo (hp.objs.size + 1) C none)) ⟨(hp.push (PySem.W.kdv_tup [])).push (PySem.HandSPX.excO C hp.objs.size), g, dr, tk, os⟩ :=
    I.laid (t' := tk) (a := hp.objs.size + 1) (o := exo (hp.objs.size + 1) C none) (h' := (hp.push (PySem.W.kdv_tup [])).push (PySem.HandSPX.excO C hp.objs.size)) kk up1 (exo_ok here)
  have want : sp_err C [V.ref (hp.objs.size + 1)] (upd H (hp.objs.size + 1) (exo (hp.objs.size + 1) C none)) (fun v H2 => v = .non ∧ H2 = upd H (hp.objs.size + 1) (exo (hp.objs.size + 1) C none)) (fun _ _ _ => False) := ⟨_, rfl, upd_same, rfl, rfl⟩
  have r2 : Vals [V.ref (hp.objs.size + 1)] [Value.ref (hp.objs.size + 1)] := .cons rfl .nil
  have hl : ([Value.ref (hp.objs.size + 1)] ++ []).length = ps.length := (F1.len _ _ _ _ want).symm ▸ rfl
  refine wpAny_call (PySem.HandSPX.call_own F.excBase_ValueError (fun Y => PySem.HandSPX.refsVE_contains Y bm hbm) (I.kIn _ _ hC) (PySem.W.looks_findIn I.kIn iC) (fun self => PySem.W.bind_fn I.kIn self tI) (Nat.zero_le _)
    (codeAny_mono (F1.run _ X.stack _ _ ⟨[Value.ref (hp.objs.size + 1)], []⟩ [Value.ref (hp.objs.size + 1)] _ _ (fun _ _ _ => False) (hr.make C [] []) (I2.env0.make C [] []) (hb _ [Value.ref (hp.objs.size + 1)] I2.kIn hl) r2 want) fun r s' hq => ?_))
  cases r with
  | error er => exact hx pins σ _ _ er s' I2 hq
  | ok fl =>
    cases fl with
    | ret u =>
      obtain ⟨v, H2, os2, bare2, un2, hok2, rv, ev, eH⟩ := hq
      subst ev eH
      obtain ⟨h2, g2, d2, t2, os'⟩ := s'
      exact ⟨rv, let_go (raises_own T.exC T.tyC) I up1 kk un2 hok2 os2 bare2 h⟩
    | next => exact False.elim hq
    | brk => exact False.elim hq
    | cont => exact False.elim hq
/-- X(e): what is left to be shown behind e (by pmk_oex) -/
theorem errF_go {fld : Str} {v : V} {H1 : Hp} {Q : XK} (h : ∀ d, H1 d = none → Q (.ref C) (some d) (upd H1 d (.xd [(fld, v)]))) : ([v] : List V).length ≤ 1000 ∧ ∀ a, H1 a = none → sp_errF C fld (V.ref a :: ([v] ++ [])) (upd H1 a (exo a C none))
    (fun v H2 => v = .non ∧ ∃ (d : Addr) (fs : List (Str × V)), H2 a = some (exo a C (some d)) ∧ H2 d = some (exd d fs) ∧ H1 d = none ∧ Q (.ref C) (some d) (upd (del H2 a) d (.xd fs))) (fun _ _ _ => False) := by
  refine ⟨by show 1 ≤ 1000; decide, fun a na => ⟨a, v, rfl, upd_same, fun dx nd ne => ⟨rfl, dx, [(fld, v)], upd_same, ?_, ?_, ?_⟩⟩⟩
  · rw [upd_ne ne, upd_same]
  · rw [upd_ne ne] at nd
    exact nd
  · rw [upd_ne ne] at nd
    have e : upd (del (upd (upd (upd H1 a (exo a C none)) dx (exd dx [(fld, v)])) a (exo a C (some dx))) a) dx (.xd [(fld, v)]) = upd H1 dx (.xd [(fld, v)]) := by
      funext b
      by_cases h1 : b = dx
      · rw [h1, upd_same, upd_same]
      · rw [upd_ne h1, upd_ne h1]
        by_cases h2 : b = a
        · rw [h2, del_same, na]
        · rw [del_ne h2, upd_ne h2, upd_ne h1, upd_ne h2]
    rw [e]
    exact h dx nd
end
/-! ### an error class, its facts -/
def NFo (qual : Str) (st : Stmt) (cc cda : Addr) : NdefX.NF := ⟨"__init__", qual, defArgs st, defBody st, defScope st, [(("__class__" : Str), cc)], cda⟩
structure ErrC (P : Program) (K : PySem.W.Frag) (mg : Str → Option Value) (nm qual : Str) (st : Stmt) (ps : List Str) (C f : Addr) (fd : FuncData) : Prop where
  g : mg nm = some (.ref C)
  all : ∃ (cc cda : Addr) (oc : Value) (od : Option Addr) (dV kV doc pm : Value) (an : Option Addr) (ctv : Value) (osl : Array (Option Value)), fd = PySem.W.fnX "__init__" qual (defArgs st) (defBody st) (defScope st) [(("__class__" : Str), cc)] dV kV doc pm an (.ref cda) ctv ∧
    K.lookup f = some ⟨oc, od, .func fd, osl⟩ ∧ PySem.W.codeIn K (.ref cda) qual = true ∧ SupC K mg P C f cc cda (NFo qual st cc cda)
  ex : OexC K C
  ic : PySem.W.findIn K (.ref C) "__init__" = some (some (.ref f))
  ti : PySem.W.typeIn K (.ref f) = some (.type "function")
  bi : Binds K fd ps []
  xc : ExcC K C
theorem err_mk {P : Program} {K : PySem.W.Frag} {mg : Str → Option Value} {nm qual : Str} {st : Stmt} {ps : List Str} {C f cc cda N : Addr} {n0 q0 : Str} {bs bm sub : List Value} {sn : List Str} {ab : Bool} {col : Option Bool} {dd : Option Addr} {k0 k1 k2 k3 k5 : Option Value}
    {cl : Value} {cld : Option Addr} {csl : Array (Option Value)} {ccl : Value} {cdd : Option Addr} {vs : Array Value} {ccs : Array (Option Value)} {file : Str} {tf : Tok} {oc : Value} {od : Option Addr} {dV kV doc pm : Value} {an : Option Addr} {ctv : Value} {osl : Array (Option Value)}
    (g : mg nm = some (.ref C)) (lc : K.lookup C = some (excClassObj n0 q0 C N bs bm true sn sub ab col dd k0 k1 k2 k3 k5 "ValueError.__new__")) (rv : PySem.HandSPX.refsVE bm = true) (sa : PySem.W.findIn K (.ref C) "__setattr__" = some (some (.builtin "object.__setattr__")))
    (ex : PySem.W.subIn K (.ref C) (.type "BaseException") = some true) (ty : PySem.W.typeIn K (.ref C) = some (.type "type")) (kp : PySem.W.keepIn K (.ref C) = true) (op : PySem.W.nsIn K cStatics "thirdparty.any" = some none)
    (su : PySem.W.ks_superIn K C C "__init__" = some (some (.builtin "ValueError.__init__"))) (sv : PySem.W.subIn K (.ref C) (.type "ValueError") = some true) (mr : PySem.W.mroIn K C (.ref C) = some true)
    (ce : K.lookup cc = some ⟨cl, cld, .cell (some (.ref C)), csl⟩) (co : K.lookup cda = some ⟨ccl, cdd, .fields vs, ccs⟩) (vf : vs[2]? = some (.str file tf)) (ff : ((P.main.file : Str) == file) = true)
    (lf : K.lookup f = some ⟨oc, od, .func (PySem.W.fnX "__init__" qual (defArgs st) (defBody st) (defScope st) [(("__class__" : Str), cc)] dV kV doc pm an (.ref cda) ctv), osl⟩) (cd : PySem.W.codeIn K (.ref cda) qual = true)
    (a : PySem.W.findIn K (.ref C) "__init__" = some (some (.ref f))) (t : PySem.W.typeIn K (.ref f) = some (.type "function")) (tp : (P.main.scope.names.lookup ("super" : Str)).isSome = false) (ns : mg "super" = none)
    (kd : (defScope st).kind = .function) (ks : (defScope st).names.lookup ("super" : Str) = some .globalImplicit) (kc : (defScope st).names.lookup ("__class__" : Str) = some .free) (ksf : (defScope st).names.lookup ("self" : Str) = some .local)
    (fst : ∃ ar : Arg, ((defArgs st).posonlyargs ++ (defArgs st).args).head? = some ar ∧ ar.arg = ("self" : Str))
    (bi : ∀ (us : List Value), us.length = ps.length → bindArgs (PySem.W.fnX "__init__" qual (defArgs st) (defBody st) (defScope st) [(("__class__" : Str), cc)] dV kV doc pm an (.ref cda) ctv) ⟨us, []⟩ = pure (ps.zip us))
    (ga : PySem.W.findIn K (.ref C) "__getattribute__" = some (some (.builtin "BaseException.__getattribute__"))) (gk : PySem.W.findIn K (.ref C) "__getattr__" = some none) (hd : PySem.W.hasDictIn K C = true) (ha : PySem.W.findIn K (.ref C) "__class__" = some (some (.builtin "object.__class__")))
    (hn : PySem.W.specialIn K (.builtin "object.__class__") "__get__" = some (some (.builtin "getset_descriptor.__get__"))) (ht : PySem.W.takesIn K (.builtin "object.__class__") = some true) (hm : PySem.W.mroIn K C (.type "object") = some true) :
    ErrC P K mg nm qual st ps C f (PySem.W.fnX "__init__" qual (defArgs st) (defBody st) (defScope st) [(("__class__" : Str), cc)] dV kV doc pm an (.ref cda) ctv) := by
  have oex : OexC K C := ⟨⟨_, _, _, _, _, _, _, _, _, _, _, _, _, _, _, lc, rv⟩, sa, ex, ty, kp⟩
  exact ⟨g, ⟨cc, cda, oc, od, dV, kV, doc, pm, an, ctv, osl, rfl, lf, cd, ⟨oex, op, su, sv, mr, ⟨_, _, _, ce⟩, ⟨_, _, _, _, _, _, co, vf, ff⟩, ⟨_, _, _, _, _, _, _, _, _, lf⟩, tp, ns, rfl, rfl, kd, ks, kc, ksf, fst⟩⟩, oex, a, t, .all bi, ⟨ga, gk, ex, hd, ha, hn, ht, hm⟩⟩
/-- isinstance(e, c) in a suite, e of a class without fields -/
def rIsG (K : PySem.W.Frag) (a : Addr) (cls : Value) (d : Option Addr) : List V → Hp → VK → Prop := fun xs H Q => ∃ D, cls = .ref D ∧ d = none ∧ ExcC K D ∧ rIsE K D a xs H Q
theorem call_isG {X : Cx} {a : Addr} {oe : Obj} {cls : Value} {d : Option Addr} {pn : List (Addr × Obj)} (hz : Zc cls d oe) (hf : ∃ vs, oe.data = .fields vs) : CallR (X.suite a ((a, oe) :: pn)) (.builtin "isinstance") (rIsG X.K a cls d) := by
  rintro pins s σ H xs us Q I r ⟨D, rfl, rfl, C, h⟩
  exact call_isE C hz hf pins s σ H xs us Q I r h
end
/-! ### several except clauses, some with a name -/
section
open PySem.Spec PyProof.Rows
/-- what the clauses wish of an exception: its class, the slot of its name if it has one, the suite -/
def wCl (K : PySem.W.Frag) (Wout : WX) (D : Ends) : List (Value × Option Nat × (Addr → Value → Option Addr → TS)) → WX
  | [] => Wout
  | (c, none, ts) :: r => fun cls d σ H => ∃ b, PySem.W.exmOne K cls c = some b ∧ (b = true → ∀ a, H a = none → ts a cls d D σ H) ∧ (b = false → wCl K Wout D r cls d σ H)
  | (c, some i, ts) :: r => fun cls d σ H => ∃ b, PySem.W.exmOne K cls c = some b ∧
      (b = true → ∀ a, H a = none → ts a cls d { nx := fun σ' H' => D.nx (σ'.set i none) H', rt := D.rt, bk := fun σ' H' => D.bk (σ'.set i none) H', ct := fun σ' H' => D.ct (σ'.set i none) H' } (σ.set i (some (.ref a))) H) ∧ (b = false → wCl K Wout D r cls d σ H)
/-- a suite, whatever exception it is given -/
def SuOk (X : Cx) (st : List Stmt) (ts : Addr → Value → Option Addr → TS) : Prop := ∀ (a : Addr) (oe : Obj) (cls : Value) (d : Option Addr) (pn : List (Addr × Obj)), Zc cls d oe → (∃ vs, oe.data = .fields vs) → PSs (X.suite a ((a, oe) :: pn)) st (ts a cls d)
inductive ClOk (X : Cx) : List ExceptHandler → List (Value × Option Nat × (Addr → Value → Option Addr → TS)) → Prop
  | nil : ClOk X [] []
  | bare {x : Str} {c : Value} {ts : Addr → Value → Option Addr → TS} {b : Stmt} {suite : List Stmt} {np pos' : Pos} {hds : List ExceptHandler} {l : List (Value × Option Nat × (Addr → Value → Option Addr → TS))} (hc : Names X x c) (hsu : SuOk X (b :: suite) ts) (r : ClOk X hds l) :
      ClOk X (.ExceptHandler (some (.Name x np)) none (b :: suite) pos' :: hds) ((c, none, ts) :: l)
  | «as» {x n : Str} {c : Value} {i : Nat} {ts : Addr → Value → Option Addr → TS} {b : Stmt} {suite : List Stmt} {np pos' : Pos} {hds : List ExceptHandler} {l : List (Value × Option Nat × (Addr → Value → Option Addr → TS))} (hN : X.N.Nodup) (hi : X.N[i]? = some n) (hln : X.env.kindOf n = some .local)
      (hc : Names X x c) (hsu : SuOk X (b :: suite) ts) (r : ClOk X hds l) : ClOk X (.ExceptHandler (some (.Name x np)) (some n) (b :: suite) pos' :: hds) ((c, some i, ts) :: l)
section
variable {X : Cx} {body : List Stmt} {h₀ : ExceptHandler} {hds : List ExceptHandler} {l : List (Value × Option Nat × (Addr → Value → Option Addr → TS))} {pos : Pos} {tb : WX → TS} {Wout : WX}
/-- the clauses of a landed exception, one after the other -/
theorem cl_go {a : Addr} {B : Heap} {sI s' : Shared} {pins : List (Addr × Obj)} {σ : L2.St} {H : Hp} {cls : Value} {d : Option Addr} {h3 : Heap} {D : Ends} (ok : X.Ok) (hs : X.stack = X.env :: X.outer) (hf : X.env.frame = some X.env.locals) (tk : Takes X Wout)
    (J : Inv X pins σ H sI) (nb : ∀ b o, sI.heap.get? b = some o → b ∉ frs X.stack → B.get? b = some o) (up : sI.heap.UpToSlots s'.heap) (na : H a = none) (os : s'.os = sI.os) (ag : AllBare s'.gens)
    (fl : HandSPX.FlyingZ B (X.env :: X.outer) a (Zc cls d) h3) (up3 : s'.heap.UpToSlots h3) : ∀ {hds : List ExceptHandler} {l : List (Value × Option Nat × (Addr → Value → Option Addr → TS))}, ClOk X hds l → wCl X.K Wout D l cls d σ H →
      wpAny (model X.prog X.w) X.A (handleBy (.ref a) X.env hds) (SP X pins D) X.xe { s' with heap := h3 } := by
  have J3 : Inv X pins σ H { s' with heap := h3 } := J.landed nb fl.1 (up.trans up3) os ag
  obtain ⟨oe3, vs3, he3, hz3, hd3⟩ := fl.there
  have nfr : a ∉ frs (X.env :: X.outer) := fun hm => by
    obtain ⟨_, o', e', hnf⟩ := fl.2.2.1.mem hm
    rw [he3] at e'
    cases e'
    exact hnf _ hd3
  have nL : a ≠ X.env.locals := fun z => nfr (List.mem_filterMap.mpr ⟨X.env, List.mem_cons_self, by rw [hf, z]⟩)
  have nF : a ∉ X.fs := fun hm => by
    obtain ⟨e, he, q⟩ := List.mem_filterMap.mp hm
    exact nfr (List.mem_filterMap.mpr ⟨e, List.mem_cons_of_mem _ he, q⟩)
  have S3 := J3.suite he3 hd3 na nL nF
  have LT : PySem.W.Looks (model X.prog X.w) h3 (typeOf (.ref a)) cls := fun A Q E s k q => wpAny_typeOf_ref (k _ _ he3) (by rw [hz3.1]; exact q)
  have test : ∀ {x : Str} {c : Value} {np : Pos} {Q : Value → Shared → Prop} {E : Value → Shared → Prop}, Names X x c → Q c { s' with heap := h3 } → wpAny (model X.prog X.w) (X.A.mark (some (.ref a))) (eval (.Name x np) X.env) Q E { s' with heap := h3 } := fun {x c np Q E} hc q => by
    obtain ⟨hg, hdbg, hm | ⟨hm, hv, hnn⟩⟩ := hc
    · exact ld_glob (X := X.suite a ((a, oe3) :: (X.pn ++ pins))) S3 hg hm q hdbg
    · exact ld_blt (X := X.suite a ((a, oe3) :: (X.pn ++ pins))) S3 hg hm hv q hnn hdbg
  intro hds l hk
  induction hk with
  | nil =>
    intro w
    refine wpAny_handleBy_nil ?_
    obtain ⟨_, _, _, oe, vs, T, oT, ts', he, hz, hd, h1, hr⟩ := id fl
    unfold PySem.passOn
    refine wpAny_bind (wpAny_field he hd h1 ?_)
    rw [if_neg (show ¬ ((Value.ref T == Value.none) = true) from by simp)]
    have fin : wpAny (model X.prog X.w) X.A (setFlight (.ref a) X.env.frame) (fun _ s4 => wpAny (model X.prog X.w) X.A (throw (.ref a) : Sem Flow) (SP X pins D) X.xe s4) X.xe { s' with heap := h3 } := by
      rw [hf]
      exact HandSPX.setFlight_upZ fl fun h4 hh4 up4 => wpAny_throw (tk _ _ ⟨a, B, sI, pins, σ, H, cls, d, rfl, J, nb, (up.trans up3).trans up4, .inr (.inr (by rw [hs]; exact hh4)), na, os, ag, w⟩)
    first
      | exact wpAny_bind (wpAny_pure (wpAny_bind fin))
      | exact wpAny_bind fin
  | bare hc hsu r ih =>
    rintro ⟨b, hb1, hyes, hno⟩
    refine wpAny_handleBy_cons (codeAny_handlers_test (test hc ((PySem.W.exm_one (M := model X.prog X.w) J3.kIn LT hb1).here ?_))) (by intro q; cases q)
    cases b with
    | false => exact ih (hno rfl)
    | true =>
      refine codeAny_handlers_suite (HandSPX.lands_againZ fl fun h4 fl4 up4 => ?_)
      obtain ⟨oe4, vs4, he4, hz4, hd4⟩ := fl4.there
      have S4 := (J.landed (s' := { s' with heap := h4 }) nb fl4.1 ((up.trans up3).trans up4) os ag).suite he4 hd4 na nL nF
      refine wpAny_mono ((hsu a oe4 cls d (X.pn ++ pins) hz4 ⟨_, hd4⟩).run [] _ _ H _ S4 (hyes rfl a na)) (fun f s6 hsp => ?_) (fun _ _ z => False.elim z)
      cases f with
      | ret u =>
        obtain ⟨v6, σ6, H6, S6, r6, q6⟩ := hsp
        exact ⟨_, _, _, S6.unsuite ok, r6, q6⟩
      | _ =>
        obtain ⟨σ6, H6, S6, q6⟩ := hsp
        exact ⟨_, _, S6.unsuite ok, q6⟩
  | «as» hN hi hln hc hsu r ih =>
    rintro ⟨b, hb1, hyes, hno⟩
    refine wpAny_handleBy_cons (codeAny_handlers_test (test hc ((PySem.W.exm_one (M := model X.prog X.w) J3.kIn LT hb1).here ?_))) (by intro q; cases q)
    cases b with
    | false => exact ih (hno rfl)
    | true =>
      refine codeAny_handlers_suite_as (HandSPX.lands_againZ fl fun h4 fl4 up4 => ?_)
      obtain ⟨oe4, vs4, he4, hz4, hd4⟩ := fl4.there
      have S4 := (J.landed (s' := { s' with heap := h4 }) nb fl4.1 ((up.trans up3).trans up4) os ag).suite he4 hd4 na nL nF
      refine store_ok (X := X.suite a ((a, oe4) :: (X.pn ++ pins))) (v := .ref a) S4 hN hi (.inl hln) rfl (fun s5 S5 => ?_) (.inr hln)
      refine wpAny_mono ((hsu a oe4 cls d (X.pn ++ pins) hz4 ⟨_, hd4⟩).run [] s5 _ H _ S5 (hyes rfl a na)) (fun f s6 hsp => ?_) (fun _ _ z => False.elim z)
      cases f with
      | ret u =>
        obtain ⟨v6, σ6, H6, S6, r6, q6⟩ := hsp
        exact gone_ok (S6.unsuite ok) hN hi hln fun s7 J7 => ⟨_, _, _, J7, r6, q6⟩
      | _ =>
        obtain ⟨σ6, H6, S6, q6⟩ := hsp
        exact gone_ok (S6.unsuite ok) hN hi hln fun s7 J7 => ⟨_, _, J7, q6⟩
/-- try: body; except X as n: ..; except Y: .. -/
theorem ps_tries (hs : X.stack = X.env :: X.outer) (hf : X.env.frame = some X.env.locals) (tk : Takes X Wout)
    (hb : ∀ (W : WX) (pn : List (Addr × Obj)) (xe : Value → Shared → Prop), Takes (X.tr pn xe) W → PassesOwn (model X.prog X.w) X.A X.env xe → PSs (X.tr pn xe) body (tb W))
    (hh : ClOk X (h₀ :: hds) l) : PS X (.Try body (h₀ :: hds) [] [] pos) (fun D σ H => tb (wCl X.K Wout D l) D σ H) := by
  refine ⟨fun pins s σ H D I h => ?_⟩
  have ok := I.ok
  have hfr : X.A.frames = some (X.env :: X.outer) := by rw [ok.frames, hs]
  refine wpAny_Try_except (wpAny_mono ((hb (wCl X.K Wout D l) (X.pn ++ pins) (fun e s₁ => wpAny (model X.prog X.w) X.A (noteFrame e X.env) (fun _ s₂ => wpAny (model X.prog X.w) X.A (setFlight e none) (fun _ s₃ =>
    wpAny (model X.prog X.w) X.A (handleBy e X.env (h₀ :: hds)) (SP X pins D) X.xe s₃) X.xe s₂) X.xe s₁) (fun u s' xx => ?_) PassesOwn.looking).run [] s σ H D (I.toTry _) h) (fun f s1 hsp => ?_) (fun e s1 he => he))
  · obtain ⟨a, B, sI, pins', σ', H', cls, d, rfl, J', nb, up, sky, na, os, ag, w⟩ := xx
    show wpAny (model X.prog X.w) X.A (noteFrame (.ref a) X.env) _ _ _
    exact Sky.land Zc.steady hfr hf (by rw [← hs]; exact sky) fun h3 fl3 up3 => cl_go ok hs hf tk (J'.ofTry ok) nb up na os ag fl3 up3 hh w
  · cases f with
    | ret u =>
      obtain ⟨v, σ', H', J', r, q⟩ := hsp
      exact ⟨v, σ', H', J'.ofTry ok, r, q⟩
    | next =>
      obtain ⟨σ', H', J', q⟩ := hsp
      exact wpAny_execs_nil ⟨σ', H', J'.ofTry ok, q⟩
    | _ =>
      obtain ⟨σ', H', J', q⟩ := hsp
      exact ⟨σ', H', J'.ofTry ok, q⟩
end
end
/-! ### list(reversed(a tuple)) -/
section
open PySem PySem.Spec PyProof.Rows RT
theorem nolen_rt : typeLookup (.type "reversed") "__len__" = pure none := by rw [typeLookup_type, builtinLookup_eq_fast]; kernel_rfl
theorem hint_rt : typeLookup (.type "reversed") "__length_hint__" = pure (some (.builtin "reversed.__length_hint__")) := by rw [typeLookup_type, builtinLookup_eq_fast]; kernel_rfl
theorem slot_rt_hint : Slot "reversed" "__length_hint__" "reversed.__length_hint__" :=
  .of (owner := "reversed") (n := "__length_hint__") hint_rt (by decide +kernel) (by decide +kernel) (by decide +kernel)
    (by first | exact .inl (by decide +kernel) | exact .inr (by decide +kernel)) (by rw [isSubtype_type]; kernel_rfl)
theorem entry_rt_hint : entryFor table "reversed.__length_hint__" = some Builtin.«reversed.__length_hint__» := entryFor_of_tree (by kernel_rfl)
theorem args_rt_hint (a : Value) : argsOk "reversed.__length_hint__" ⟨[a], []⟩ := by
  unfold argsOk
  rw [signature?_of (id := "reversed.__length_hint__") (n := "__length_hint__".toList.reverse) (o := "reversed".toList.reverse) (by kernel_rfl) owner_rt]
  kernel_rfl
section
variable {prog : Program} {w : World} {A : Around} {E : Value → Shared → Prop} {s : Shared}
theorem wp_if_no {α : Type} {M : Model} {c : Bool} {a b : Sem α} {Q : α → Shared → Prop} (h : c = false) (k : wpAny M A b Q E s) : wpAny M A (if c = true then a else b) Q E s := by
  subst h
  exact k
theorem wp_if_yes {α : Type} {M : Model} {c : Bool} {a b : Sem α} {Q : α → Shared → Prop} (h : c = true) (k : wpAny M A a Q E s) : wpAny M A (if c = true then a else b) Q E s := by
  subst h
  exact k
theorem wp_if_noP {α : Type} {M : Model} {c : Prop} [Decidable c] {a b : Sem α} {Q : α → Shared → Prop} (h : ¬ c) (k : wpAny M A b Q E s) : wpAny M A (if c then a else b) Q E s := by
  rw [if_neg h]
  exact k
/-- how many are still to come -/
theorem hint_call {it t : Addr} {items : Array Value} {Q : Value → Shared → Prop} (hit : IsRt s.heap it t ((items.size : Int) - 1)) (ht : IsTup s.heap t items) (hz : items.size ≤ 1000)
    (h : ∀ tk tk', Q (.int (items.size : Int) tk) { s with toks := tk' }) : wpAny (model prog w) A (call (.builtin "reversed.__length_hint__") [.ref it]) Q E s := by
  obtain ⟨o, ho, hc, hd⟩ := id hit
  have l63 := line63
  refine wpAny_call_entry slot_rt_hint hit.typeIs entry_rt_hint ?_ (args_rt_hint _)
  unfold Builtin.«reversed.__length_hint__»
  refine wpAny_bind (wpAny_of_eq (a := (Value.ref it)) rfl ?_)
  refine wpAny_bind (wpAny_field ho hd (x := .ref t) rfl ?_)
  rw [if_neg (show ¬ ((Value.ref t == Value.none) = true) from by simp)]
  refine wpAny_bind (len_tuple ht (by rw [sizeLine_eq] at *; omega) ?_)
  refine wpAny_bind (wpAny_of_eq (a := some ((items.size : Nat) : Int)) rfl ?_)
  refine wpAny_bind (wpAny_field (s := { s with toks := s.toks + 1 + 1 }) ho hd (x := rawInt ((items.size : Int) - 1)) rfl ?_)
  show wpAny _ _ (if (items.size : Int) < (items.size : Int) - 1 + 1 then _ else _) _ _ _
  rw [if_neg (by omega), show (items.size : Int) - 1 + 1 = (items.size : Int) by omega]
  exact wpAny_bind (wpAny_mkInt (wpAny_pure ⟨_, rfl, h _ _⟩))
theorem walks_rt (hh : A.handled = none) {it t : Addr} (hne : t ≠ it) {items : Array Value} (hz : items.size ≤ sizeLine) :
    Walks prog w A it [it, t] [it] items.size (fun i v => items[items.size - 1 - i]? = some v) (fun i h => i ≤ items.size ∧ IsRt h it t ((items.size : Int) - 1 - (i : Nat)) ∧ IsTup h t items) where
  sub := fun b hb => by rw [List.mem_singleton.mp hb]; exact List.mem_cons_self
  frame := fun i h h' ⟨h1, h2, o, ho, r⟩ k => ⟨h1, h2.at fun o e => k it List.mem_cons_self o e, o, k t (List.mem_cons_of_mem _ List.mem_cons_self) o ho, r⟩
  item := fun i s Q E hi ⟨_, hit, ht⟩ hQ => by
    have e1 : (items.size : Int) - 1 - ((i : Nat) : Int) = ((items.size - 1 - i : Nat) : Int) := by omega
    rw [e1] at hit
    have hx : items[items.size - 1 - i]? = some items[items.size - 1 - i] := Array.getElem?_eq_getElem (by omega)
    refine next_rt_item hit ht hx hz fun h' st' sb => hQ _ h' (s.toks + 1) hx ⟨by omega, ?_, ?_⟩ fun b o hb e => (sb.2 b (fun z => hb (by rw [z]; exact List.mem_singleton.mpr rfl))).trans e
    · rw [show (items.size : Int) - 1 - ((i + 1 : Nat) : Int) = ((items.size - 1 - i : Nat) : Int) - 1 by omega]
      exact st'
    · obtain ⟨o, ho, r⟩ := ht
      exact ⟨o, (sb.2 t hne).trans ho, r⟩
  done := fun s Q E ⟨_, hit, _⟩ hQ => by
    rw [show (items.size : Int) - 1 - ((items.size : Nat) : Int) = -1 by omega] at hit
    exact next_rt_end hh hit fun h' eb => hQ h' s.toks fun b o hb e => eb b o (fun z => hb (by rw [z]; exact List.mem_singleton.mpr rfl)) e
  self := fun i s Q E ⟨_, hit, _⟩ h => iter_rt hit h
theorem list_init_rt {R : Result → Shared → Prop} (hh : A.handled = none) {it t S : Addr} {items : Array Value} (hit : IsRt s.heap it t ((items.size : Int) - 1)) (ht : IsTup s.heap t items) (hne : t ≠ it) (hz : items.size ≤ 1000)
    (hSi : S ≠ it) (hSt : S ≠ t) (hS : s.heap.get? S = some { cls := .type "list", data := .seq #[] })
    (hR : ∀ h' tk acc' c', (∀ b o, b ≠ S → b ≠ it → s.heap.get? b = some o → h'.get? b = some o) → h'.get? S = some { cls := .type "list", dict := none, data := .seq acc' c', slots := #[] } →
      ItemsOf (fun i v => items[items.size - 1 - i]? = some v) acc' items.size → R (.ok (.ret .none)) { s with heap := h', toks := tk }) :
    wpAny (model prog w) A.in1 (Builtin.«list.__init__» ⟨[.ref S, .ref it], []⟩)
      (fun fin s' => match fin with | .done f => R (.ok f) s' | .again c' => c'.quiet = true ∧ codeAny (model prog w) A c' R s') (fun e s' => R (.error e) s') s := by
  have W := (walks_rt (prog := prog) (w := w) (A := A.in1) (items := items) hh hne (by rw [sizeLine_eq]; omega)).toS
  have hSf : S ∉ [it, t] := by simp only [List.mem_cons, List.not_mem_nil, or_false, not_or]; exact ⟨hSi, hSt⟩
  show wpAny _ _ (do let old ← Builtin.List.listItems (.ref S); Builtin.List.listUpdate (.ref S) (fun _ => #[]); letGo old.toList.reverse; Builtin.List.listExtendWith (.ref S) (.ref it) .none) _ _ s
  refine wpAny_bind ?_
  unfold Builtin.List.listItems
  refine wpAny_bind (wpAny_seqItems hS rfl (wpAny_pure ?_))
  show wpAny _ _ (updateSeq S (fun _ => #[]) >>= fun _ => letGo (#[] : Array Value).toList.reverse >>= fun _ => Builtin.List.listExtendWith (.ref S) (.ref it) .none) _ _ s
  refine wpAny_bind (wpAny_updateSeq hS rfl ?_)
  have hS₂ := Heap.get?_update_self (Obj.mapSeq (fun _ => (#[] : Array Value))) hS rfl
  have oth : ∀ b o, b ≠ S → s.heap.get? b = some o → (s.heap.update S (Obj.mapSeq (fun _ => (#[] : Array Value)))).get? b = some o := fun b o hb e => (Heap.get?_update_other _ _ (Ne.symm hb)).trans e
  refine wpAny_bind (wpAny_letGo ?_)
  have hit1 : IsRt (s.heap.update S (Obj.mapSeq (fun _ => (#[] : Array Value)))) it t ((items.size : Int) - 1) := hit.at fun o e => oth it o hSi.symm e
  have ht1 : IsTup (s.heap.update S (Obj.mapSeq (fun _ => (#[] : Array Value)))) t items := by
    obtain ⟨o, ho, r⟩ := ht
    exact ⟨o, oth t o hSt.symm ho, r⟩
  have hT : ({ s with heap := s.heap.update S (Obj.mapSeq (fun _ => (#[] : Array Value))) } : Shared).TypeIs (.ref it) "reversed" := IsRt.typeIs (s := { s with heap := s.heap.update S (Obj.mapSeq (fun _ => (#[] : Array Value))) }) hit1
  have h1 : Builtin.List.listSameRef (.ref S) (.ref it) = false := by simp [Builtin.List.listSameRef, hSi]
  unfold Builtin.List.listExtendWith
  refine wpAny_bind (wpAny_typeOf hT ?_)
  rw [if_neg (by rw [h1]; decide)]
  refine wpAny_bind (iter_rt (s := { s with heap := s.heap.update S (Obj.mapSeq (fun _ => (#[] : Array Value))) }) hit1 ?_)
  refine wpAny_bind (wpAny_holding ?_)
  unfold Builtin.List.listLengthHint
  refine wpAny_bind (wpAny_specialOf hT nolen_rt ?_)
  show wpAny _ _ (specialOf (Value.ref it) (Str.ofString "__length_hint__") >>= _) _ _ _
  refine wpAny_bind (wpAny_specialOf hT hint_rt ?_)
  generalize hid : ("reversed.__length_hint__" : String) = id0
  wp_delta
  rw [show splitId id0 = some ("reversed", "__length_hint__") from by subst hid; decide +kernel]
  subst hid
  refine wpAny_bind (wpAny_isInstance (b := true) hT (by rw [isSubtype_type]; kernel_rfl) ?_)
  refine wp_if_no (by decide +kernel) (wp_if_no (by decide +kernel) ?_)
  refine wpAny_bind (wpAny_rule ?_)
  refine wpAny_bind (wpAny_of_eq (slot_rt_hint.bind _) ?_)
  refine wpAny_bind (wpAny_attempt (hint_call (s := { s with heap := s.heap.update S (Obj.mapSeq (fun _ => (#[] : Array Value))) }) hit1 ht1 hz fun tk tk' => ?_))
  have lfi : (!Builtin.List.listFitsIndex ((items.size : Nat) : Int)) = false := by
    have l1 : decide (-(2 ^ 63 : Int) ≤ ((items.size : Nat) : Int)) = true := decide_eq_true (by omega)
    have l2 : decide (((items.size : Nat) : Int) < 2 ^ 63) = true := decide_eq_true (by omega)
    unfold Builtin.List.listFitsIndex
    rw [l1, l2]
    rfl
  have ltl : Builtin.List.listTooLong (((items.size : Nat) : Int)).toNat = false := decide_eq_false (by rw [sizeLine_eq]; omega)
  dsimp only
  have asI : asInt? (Value.int ((items.size : Nat) : Int) tk) = pure (some ((items.size : Nat) : Int)) := by
    generalize ((items.size : Nat) : Int) = m
    rfl
  rw [asI]
  generalize hm : ((items.size : Nat) : Int) = m at lfi ltl ⊢
  apply wpAny_bind
  apply wpAny_pure
  dsimp only
  refine wp_if_no lfi ?_
  refine wp_if_noP (by omega) ?_
  refine wp_if_no ltl ?_
  refine wpAny_pure ?_
  have e0 : ((items.size : Nat) : Int) - 1 - ((0 : Nat) : Int) = (items.size : Int) - 1 := by omega
  have go : ∀ (h4 : Heap) (ob : Obj) (c4 : Nat), h4.get? S = some ob → ob = { cls := .type "list", data := .seq #[] c4 } → (∀ b o, b ≠ S → s.heap.get? b = some o → h4.get? b = some o) →
      wpAny (model prog w) A.in1 (again (.builtin "list.extend.loop" ⟨[.ref S, .ref it, .none], []⟩)) (fun fin s' => match fin with | .done f => R (.ok f) s' | .again c' => c'.quiet = true ∧ codeAny (model prog w) A c' R s') (fun e s' => R (.error e) s') { s with heap := h4, toks := tk' } := by
    intro h4 ob c4 hS4 eob k4
    rw [eob] at hS4
    have hit4 : IsRt h4 it t ((items.size : Int) - 1) := hit.at fun o e => k4 it o hSi.symm e
    have ht4 : IsTup h4 t items := by
      obtain ⟨o, ho, r⟩ := ht
      exact ⟨o, k4 t o hSt.symm ho, r⟩
    refine wpAny_pure ⟨plainId_quiet F.plain_extend_loop _, codeAny_extend_loopS W (by rw [sizeLine_eq]; omega) _ hSf _ items.size 0 _ _ _ rfl (Nat.zero_le _) ⟨Nat.zero_le _, by rw [e0]; exact hit4, ht4⟩ hS4 (ItemsOf.nil _) fun s' acc' c' hm hS' hacc => ?_⟩
    rw [Moved.eq_with hm]
    refine hR s'.heap s'.toks acc' c' (fun b o hb hb2 e => hm.heap b o (fun hmem => ?_) (k4 b o hb e)) hS' hacc
    rcases List.mem_cons.mp hmem with e' | hmem
    · exact hb e'
    · exact hb2 (List.mem_singleton.mp hmem)
  by_cases hm0 : m = 0
  · refine wp_if_no (by rw [hm0]; decide +kernel) ?_
    exact go _ _ _ hS₂ rfl oth
  · refine wp_if_yes (by rw [show (m != 0) = true from by simpa using hm0, Bool.true_or]) ?_
    refine wpAny_bind (wpAny_rule ?_)
    refine wpAny_bind ?_
    show wpAny _ A.in1 (updateSeq S (·.push .none) >>= fun _ => updateSeq S (·.pop)) _ _ _
    refine wpAny_bind (wpAny_updateSeq hS₂ rfl ?_)
    have hS3 := Heap.get?_update_self (Obj.mapSeq (·.push Value.none)) hS₂ rfl
    refine wpAny_updateSeq (hz := by seq_fits) hS3 rfl ?_
    have hS4 := Heap.get?_update_self (Obj.mapSeq (·.pop)) hS3 rfl
    exact go _ _ _ hS4 rfl fun b o hb e => (Heap.get?_update_other _ _ (Ne.symm hb)).trans ((Heap.get?_update_other _ _ (Ne.symm hb)).trans (oth b o hb e))
theorem call_list_rt {it t : Addr} {items : Array Value} {Q : Value → Shared → Prop} (hh : A.handled = none) (hit : IsRt s.heap it t ((items.size : Int) - 1)) (ht : IsTup s.heap t items) (hne : t ≠ it) (hz : items.size ≤ 1000)
    (hQ : ∀ h' tk acc' c', (∀ b o, b ≠ it → s.heap.get? b = some o → h'.get? b = some o) → h'.get? s.heap.objs.size = some { cls := .type "list", dict := none, data := .seq acc' c', slots := #[] } →
      ItemsOf (fun i v => items[items.size - 1 - i]? = some v) acc' items.size → Q (.ref s.heap.objs.size) { s with heap := h', toks := tk }) : wpAny (model prog w) A (call (.type "list") [.ref it]) Q E s := by
  refine callType_codes (Q₁ := fun obj s₁ => obj = .ref s.heap.objs.size ∧ s₁ = { s with heap := s.heap.push { cls := .type "list", data := .seq #[] } }) F.called_list (F.typeCall_list_1 _) F.entry_list_init
    (code_list_new _ ⟨rfl, rfl⟩) fun obj s₁ h₁ => ?_
  obtain ⟨rfl, rfl⟩ := h₁
  obtain ⟨oi, hoi, ri⟩ := id hit
  obtain ⟨ot, hot, rt⟩ := id ht
  have hS : (s.heap.push { cls := .type "list", data := .seq #[] }).get? s.heap.objs.size = some { cls := .type "list", data := .seq #[] } := Heap.get?_push_size _ rfl
  refine ⟨⟨_, hS, rfl⟩, F.args_list_init_2 _ _, list_init_rt (A := A.in1) (s := { s with heap := s.heap.push { cls := .type "list", data := .seq #[] } }) hh ⟨oi, Heap.get?_push_of_some _ hoi, ri⟩ ⟨ot, Heap.get?_push_of_some _ hot, rt⟩ hne hz
    (Nat.ne_of_gt (Heap.lt_size hoi)) (Nat.ne_of_gt (Heap.lt_size hot)) hS fun h' tk acc' c' hk hS' hacc => ?_⟩
  exact ⟨rfl, hQ h' tk acc' c' (fun b o nb e => hk b o (Nat.ne_of_lt (Heap.lt_size e)) nb (Heap.get?_push_of_some _ e)) hS' hacc⟩
end
/-- list(reversed(x)), x a tuple: a new list -/
def tLstRevT (K : PySem.W.Frag) (te : TE) : TE := fun σ H Q => te σ H fun v H1 => ∃ (a : Addr) (xs : List V), v = .ref a ∧ SqT K H1 a xs ∧ xs.length ≤ 1000 ∧ ∀ q, H1 q = none → Q (.ref q) (upd H1 q (.lst xs.reverse))
theorem pe_lstRevT {X : Cx} {e : Expr} {te : TE} {p p2 pos pos2 : Pos} (hc : X.calm = true) (hg : Gl X "list") (hm : X.mg "list" = none) (hg2 : Gl X "reversed") (hm2 : X.mg "reversed" = none) (he : PE X e te)
    (hs : starEach [e] X.env = (false, eval e X.env) :: starEach [] X.env := by rfl)
    (hs2 : starEach [.Call (.Name "reversed" p2) [e] [] pos2] X.env = (false, eval (.Call (.Name "reversed" p2) [e] [] pos2) X.env) :: starEach [] X.env := by rfl) :
    PE X (.Call (.Name "list" p) [.Call (.Name "reversed" p2) [e] [] pos2] [] pos) (tLstRevT X.K te) := by
  refine ⟨fun pins s σ H Q I h => ?_⟩
  refine Call_ (ld_blt I hg hm boot_list (PyProof.Rows.callWith_type1 (args_cons (Call_ (ld_blt I hg2 hm2 PyProof.Rows.boot_reversed (PyProof.Rows.callWith_type1 (args_cons (thn (he.run pins s σ H _ I h) fun u s1 ⟨v, H1, I1, r1, q1⟩ => args_nil ?_) hs) hs rfl))) hs2) hs2 rfl))
  obtain ⟨a, xs, ev, hq, hsm, q⟩ := q1
  subst ev
  obtain rfl : u = Value.ref a := r1
  obtain ⟨its, rv, p', hz⟩ := I1.tuple hq
  have hn : its.toArray.size ≤ sizeLine := by rw [List.size_toArray, ← rv.length]; exact hz
  have hl := rv.length
  have l63 := line63
  refine call_reversed_tup p' (fun A E Q k => len_tuple p' (by simp only [List.size_toArray] <;> omega) k) (args_nil ?_)
  have k0 : ∀ b o, s1.heap.get? b = some o → (s1.heap.push (rtObj a ((its.toArray.size : Int) - 1))).get? b = some o := fun b o e => Heap.get?_push_of_some _ e
  obtain ⟨ol, hol, rl⟩ := id p'
  have hne : a ≠ s1.heap.objs.size := Nat.ne_of_lt (Heap.lt_size hol)
  refine call_list_rt (s := { s1 with heap := s1.heap.push (rtObj a ((its.toArray.size : Int) - 1)), toks := s1.toks + 1 + 1 }) (I1.ok.hd hc) ⟨_, Heap.get?_push_size _ rfl, rfl, rfl⟩ ⟨ol, k0 _ _ hol, rl⟩ hne (by rw [List.size_toArray, ← hl]; exact hsm) fun h' tk acc c' hk e' hi => ?_
  have up : s1.heap.objs.size ≤ (s1.heap.push (rtObj a ((its.toArray.size : Int) - 1))).objs.size := by
    show s1.heap.objs.size ≤ (s1.heap.objs.push _).size
    rw [Array.size_push]
    exact Nat.le_succ _
  have k1 : ∀ b u, s1.heap.get? b = some u → h'.get? b = some u := fun b u e => hk b u (Nat.ne_of_lt (Heap.lt_size e)) (k0 b u e)
  refine ⟨.ref (s1.heap.push (rtObj a ((its.toArray.size : Int) - 1))).objs.size, upd H1 (s1.heap.push (rtObj a ((its.toArray.size : Int) - 1))).objs.size (.lst xs.reverse), I1.laid (t' := tk) k1 up (show ObjOk X.prog X.w _ _ _ (.lst xs.reverse) from ⟨?_, acc.toList, c', vals_rev rv hi, ?_⟩), rfl, q _ (I1.hok.fresh up)⟩
  · rw [List.length_reverse]
    exact hz
  · rw [Array.toArray_toList]
    exact e'
end
/-! ### things of any kind -/
structure KitC (K : PySem.W.Frag) (C : Addr) : Prop where
  cl : Cls K C
  ty : InsT K C
  i : PySem.W.kitOne K (.ref C) (.type "int") = some false
  b : PySem.W.kitOne K (.ref C) (.type "bool") = some false
  t : PySem.W.kitOne K (.ref C) (.type "tuple") = some false
  l : PySem.W.kitOne K (.ref C) (.type "list") = some false
/-- a thing that is looked at so deep; its address is not z -/
inductive Th (C z : Addr) (H : Hp) : Nat → V → Prop
  | int (n : Nat) (i : Int) : Th C z H n (.int i)
  | bl (n : Nat) (b : Bool) : Th C z H n (.bl b)
  | non (n : Nat) : Th C z H n .non
  | str (n : Nat) (x : Str) : Th C z H n (.str x)
  | lst (n : Nat) (a : Addr) (xs : List V) : a ≠ z → H a = some (.lst xs) → Th C z H n (.ref a)
  | dK (n : Nat) (a : Addr) (xs : List (Key × V)) : a ≠ z → H a = some (.dK xs) → Th C z H n (.ref a)
  | ins (n : Nat) (a dx : Addr) (fs : List (Str × V)) : a ≠ z → H a = some (.ins C dx fs) → Th C z H n (.ref a)
  | tup0 (a : Addr) (xs : List V) : a ≠ z → H a = some (.tup xs) → Th C z H 0 (.ref a)
  | tup (n : Nat) (a : Addr) (xs : List V) : a ≠ z → H a = some (.tup xs) → xs.length ≤ 1000 → (∀ x ∈ xs, Th C z H n x) → Th C z H (n + 1) (.ref a)
section
variable {C z : Addr} {H H' : Hp} {K : PySem.W.Frag}
theorem Th.keep {n : Nat} {v : V} (h : Th C z H n v) (k : ∀ a o, a ≠ z → H a = some o → H' a = some o) : Th C z H' n v := by
  induction h with
  | int n i => exact .int n i
  | bl n b => exact .bl n b
  | non n => exact .non n
  | str n x => exact .str n x
  | lst n a xs h1 h2 => exact .lst n a xs h1 (k _ _ h1 h2)
  | dK n a xs h1 h2 => exact .dK n a xs h1 (k _ _ h1 h2)
  | ins n a dx fs h1 h2 => exact .ins n a dx fs h1 (k _ _ h1 h2)
  | tup0 a xs h1 h2 => exact .tup0 a xs h1 (k _ _ h1 h2)
  | tup n a xs h1 h2 h3 _ ih => exact .tup n a xs h1 (k _ _ h1 h2) h3 ih
theorem Th.same {n : Nat} {v : V} (h : Th C z H n v) (s : Same H H') : Th C z H' n v := h.keep fun a o _ e => s a o e
theorem Th.mv {τ : Tp} {n : Nat} {v : V} (h : Th C τ.t H n v) (m : Mv τ H H') : Th C τ.t H' n v := h.keep m.keep
theorem Th.down {n : Nat} {v : V} (h : Th C z H (n + 1) v) : Th C z H n v := by
  generalize e : n + 1 = m at h
  induction h generalizing n with
  | int _ i => exact .int n i
  | bl _ b => exact .bl n b
  | non _ => exact .non n
  | str _ x => exact .str n x
  | lst _ a xs h1 h2 => exact .lst n a xs h1 h2
  | dK _ a xs h1 h2 => exact .dK n a xs h1 h2
  | ins _ a dx fs h1 h2 => exact .ins n a dx fs h1 h2
  | tup0 a xs h1 h2 => cases e
  | tup m a xs h1 h2 h3 h4 ih =>
    obtain rfl : n = m := by omega
    cases n with
    | zero => exact .tup0 a xs h1 h2
    | succ n => exact .tup n a xs h1 h2 h3 fun x hx => ih x hx rfl
theorem Th.intK (kc : KitC K C) {n : Nat} {v : V} (h : Th C z H n v) : IntK K H v := by
  cases h with
  | int _ i => exact .int i
  | bl _ b => exact .bl b
  | non _ => exact .non
  | str _ x => exact .str x
  | lst _ a xs h1 h2 => exact .lst h2
  | dK _ a xs h1 h2 => exact .dK h2
  | ins _ a dx fs h1 h2 => exact ⟨_, false, false, .base (.ins h2 kc.cl kc.ty.ha kc.ty.hn kc.ty.htk kc.ty.hm), kc.i, kc.b, rfl⟩
  | tup0 a xs h1 h2 => exact .tup h2
  | tup m a xs h1 h2 h3 h4 => exact .tup h2
theorem Th.ty (kc : KitC K C) {n : Nat} {v : V} (h : Th C z H (n + 1) v) : ∃ (t : Value) (bt : Bool), TyX K H v t ∧ PySem.W.kitOne K t (.type "tuple") = some bt ∧
    ((bt = false ∧ ∀ a xs, v = .ref a → H a ≠ some (.tup xs)) ∨ ∃ a xs, v = .ref a ∧ H a = some (.tup xs) ∧ bt = true ∧ xs.length ≤ 1000 ∧ ∀ x ∈ xs, Th C z H n x) := by
  cases h with
  | int _ i => exact ⟨_, false, .base (.int i), kit_ty (by decide +kernel), .inl ⟨rfl, fun a xs e => by cases e⟩⟩
  | bl _ b => exact ⟨_, false, .base (.bl b), kit_ty (by decide +kernel), .inl ⟨rfl, fun a xs e => by cases e⟩⟩
  | non _ => exact ⟨_, false, .base .non, kit_ty (by decide +kernel), .inl ⟨rfl, fun a xs e => by cases e⟩⟩
  | str _ x => exact ⟨_, false, .base (.str x), kit_ty (by decide +kernel), .inl ⟨rfl, fun a xs e => by cases e⟩⟩
  | lst _ a xs h1 h2 => exact ⟨_, false, .base (.lst h2), kit_ty (by decide +kernel), .inl ⟨rfl, fun a xs e => by cases e; rw [h2]; intro z; cases z⟩⟩
  | dK _ a xs h1 h2 => exact ⟨_, false, .base (.dK h2), kit_ty (by decide +kernel), .inl ⟨rfl, fun a xs e => by cases e; rw [h2]; intro z; cases z⟩⟩
  | ins _ a dx fs h1 h2 => exact ⟨_, false, .base (.ins h2 kc.cl kc.ty.ha kc.ty.hn kc.ty.htk kc.ty.hm), kc.t, .inl ⟨rfl, fun a xs e => by cases e; rw [h2]; intro z; cases z⟩⟩
  | tup m a xs h1 h2 h3 h4 => exact ⟨_, true, .base (.tup h2), kit_ty (by decide +kernel), .inr ⟨a, xs, rfl, h2, rfl, h3, h4⟩⟩
end
/-! ### list.count(a flag), a call of an item of a list of defs -/
section
open PySem.Spec PyProof.Rows
variable {X : Cx}
def rCntB (K : PySem.W.Frag) : V → List V → Hp → VK → Prop := fun x xs H Q => ∃ (p : Addr) (bs : List Bool) (b : Bool), x = .ref p ∧ xs = [.bl b] ∧ SqL K H p (bs.map V.bl) ∧ bs.length ≤ 1000 ∧ Q (.int (bs.count b : Nat)) H
theorem dp_bools {K : PySem.W.Frag} {H : Hp} : ∀ bs : List Bool, DpAll K H (bs.map V.bl) (bs.map PyData.bool)
  | [] => .nil
  | b :: r => .cons (.bl b) (dp_bools r)
theorem mt_cntB (hu : X.A.units + 64 < cLine) : MtR X "list.count" (rCntB X.K) := by
  intro pins s σ H x xs v us Q I rx rxs h
  obtain ⟨p, bs, b, rfl, rfl, hs, hl, q⟩ := h
  cases rx
  obtain ⟨u, rfl, ru⟩ := rxs.one
  obtain ⟨its, rv, hl, hz⟩ := I.list hs
  obtain ⟨as, ra⟩ := Dp.readsAll I (bs.map PyData.bool) _ its (dp_bools bs) rv
  obtain ⟨cs, rb⟩ := Dp.reads I (.bool b) (.bl b) u (.bl b) ru
  refine PySem.W.count_list_datum (xs := bs) (x := b) hl.isList ⟨as, ra⟩ ⟨cs, rb⟩ (by show X.A.units + 1 + 0 < cLine; omega) ⟨.int (bs.count b : Nat), H, I.tok _, ⟨s.toks, ?_⟩, q⟩
  have e : (bs.countP fun y => decide (y = b)) = bs.count b := by
    unfold List.count
    congr 1
  rw [e]
theorem pe_bmK {K : PySem.W.Frag} {o e : Expr} {es : List Expr} {to : TE} {t : TA} {name : Str} {apos cpos : Pos} {T id : String} {r : V → List V → Hp → VK → Prop} (hK : X.K = K) (pa : PlainAttrs T) (slot : Slot T name id) (hty : typeOf (.builtin id) = pure (.type "method_descriptor")) (hm : MtR X id r) (ho : PE X o to) (ha : PA X (e :: es) t)
    (hbase : attributeBase o name X.env (eval o X.env) = eval o X.env := by rfl)
    (hfew : ((backTo cpos (starEach (e :: es) X.env)).all (fun x => !x.1) && (backToKw cpos (keywordEach [] X.env)).all (fun x => x.1.isSome)
      && decide ((e :: es).length + ([] : List Keyword).length + (if ([] : List Keyword).isEmpty then 0 else 1) < 30)) = true := by rfl)
    (hline : (apos.endLine == cpos.line) = true := by rfl) (hs : starEach (e :: es) X.env = (false, eval e X.env) :: starEach es X.env := by rfl) (hplain : (backTo cpos (starEach es X.env)).any (·.1) = false := by rfl) :
    PE X (.Call (.Attribute o name apos) (e :: es) [] cpos) (tBM K T r to t) := by
  subst hK
  exact pe_bm pa slot hty hm ho ha hbase hfew hline hs hplain
def tCallE (S : Addr → Sp → Prop) (E : L2.St → XK) (tf : TE) (t : TA) : TE := fun σ H Q => tf σ H fun y H1 => ∃ f sp, y = .ref f ∧ S f sp ∧ t σ H1 fun vs H2 => sp vs H2 Q (E σ)
theorem pe_callE {CX : CXT} {S : Addr → Sp → Prop} {E : L2.St → XK} {tf : TE} {t : TA} {fe e : Expr} {es : List Expr} {pos : Pos}
    (A : ∀ f sp, S f sp → ∃ (k : Nat) (fd : FuncData) (ps : List Str), FnOk X.prog X.w X.K X.mg X.base CX k f fd ps sp ∧ Room k X.A ∧ PySem.W.keepIn X.K (.ref f) = true ∧ Binds X.K fd ps []) (hx : ∀ σ, PassesAt CX X σ (E σ)) (hf : PE X fe tf) (ha : PA X (e :: es) t)
    (ht : eval (.Call fe (e :: es) [] pos) X.env = (do callWith pos (← eval fe X.env) [] (backTo pos (starEach (e :: es) X.env)) (backToKw pos (keywordEach [] X.env))) := by rfl)
    (he : starEach (e :: es) X.env = (false, eval e X.env) :: starEach es X.env := by rfl) (hpl : (backTo pos (starEach es X.env)).any (·.1) = false := by rfl) : PE X (.Call fe (e :: es) [] pos) (tCallE S E tf t) := by
  refine ⟨fun pins s σ H Q I h => ?_⟩
  refine Call_ (thn (hf.run pins s σ H _ I h) fun u s1 ⟨y, H1, I1, ry, f, sp, ey, hS, q⟩ => ?_) ht
  subst ey
  obtain rfl : u = Value.ref f := ry
  obtain ⟨k, fd, ps, F, hr, hk, hb⟩ := A f sp hS
  refine PySem.W.callWith_K (h₀ := X.base) I1.ok.mod.kin hk (thn (ha.run pos pins s1 σ H1 _ I1 q) fun us s2 ⟨vs, H2, I2, r, q2⟩ => ⟨I2.kIn, ?_⟩) he hpl
  exact run_fnS F hr hb (hx σ) I2 r q2
end
/-! ### the flow of drawn numbers: a list that is eaten, three numbers -/
structure Fw where
  t : Addr
  l : Addr
structure Flow (φ : Fw) (H : Hp) : Prop where
  ne : φ.l ≠ φ.t
  list : ∃ ns : List Int, H φ.l = some (.lst (ns.map V.int)) ∧ ns.length ≤ 63
  here : ∃ a b c : Int, H φ.t = some (.lst [.ref φ.l, .int a, .int b, .int c]) ∧ 0 ≤ a
/-- no part of the flow -/
structure Off (φ : Fw) (a : Addr) : Prop where
  t : a ≠ φ.t
  l : a ≠ φ.l
structure Fv (φ : Fw) (H0 H : Hp) : Prop where
  was : Flow φ H0
  keep : ∀ a o, Off φ a → H0 a = some o → H a = some o
  now : Flow φ H
section
variable {φ : Fw} {H0 H H1 H2 : Hp} {p a : Addr} {o : HO}
theorem Flow.fv (h : Flow φ H) : Fv φ H H := ⟨h, fun _ _ _ e => e, h⟩
theorem Fv.trans (m : Fv φ H0 H1) (k : Fv φ H1 H2) : Fv φ H0 H2 := ⟨m.was, fun a o n e => k.keep a o n (m.keep a o n e), k.now⟩
theorem Flow.off (h : Flow φ H) (n : H p = none) : Off φ p := by
  obtain ⟨_, ⟨ns, h1, _⟩, a, b, c, h2, _⟩ := h
  exact ⟨fun e => (by rw [e, h2] at n; cases n), fun e => by rw [e, h1] at n; cases n⟩
theorem Flow.offT {xs : List V} (h : Flow φ H) (n : H p = some (.tup xs)) : Off φ p := by
  obtain ⟨_, ⟨ns, h1, _⟩, a, b, c, h2, _⟩ := h
  exact ⟨fun e => (by rw [e, h2] at n; cases n), fun e => by rw [e, h1] at n; cases n⟩
theorem Flow.offI {C dx : Addr} {fs : List (Str × V)} (h : Flow φ H) (n : H p = some (.ins C dx fs)) : Off φ p := by
  obtain ⟨_, ⟨ns, h1, _⟩, a, b, c, h2, _⟩ := h
  exact ⟨fun e => (by rw [e, h2] at n; cases n), fun e => by rw [e, h1] at n; cases n⟩
theorem Flow.same (h : Flow φ H) (s : Same H H1) : Flow φ H1 := by
  obtain ⟨h0, ⟨ns, h1, h2⟩, a, b, c, h3, h4⟩ := h
  exact ⟨h0, ⟨ns, s _ _ h1, h2⟩, a, b, c, s _ _ h3, h4⟩
theorem Flow.mut (h : Flow φ H) (n : Off φ p) : Flow φ (upd H p o) := by
  obtain ⟨h0, ⟨ns, h1, h2⟩, a, b, c, h3, h4⟩ := h
  exact ⟨h0, ⟨ns, upd_at n.l.symm h1, h2⟩, a, b, c, upd_at n.t.symm h3, h4⟩
/-- a change elsewhere -/
theorem Flow.but {b : Addr} (h : Flow φ H) (n : Off φ b) (k : ∀ a o, a ≠ b → H a = some o → H1 a = some o) : Flow φ H1 := by
  obtain ⟨h0, ⟨ns, h1, h2⟩, x, y, z, h3, h4⟩ := h
  exact ⟨h0, ⟨ns, k _ _ n.l.symm h1, h2⟩, x, y, z, k _ _ n.t.symm h3, h4⟩
theorem Fv.same (m : Fv φ H0 H) (s : Same H H1) : Fv φ H0 H1 := ⟨m.was, fun a o e z => s a o (m.keep a o e z), m.now.same s⟩
theorem Fv.new (m : Fv φ H0 H) (n : H p = none) : Fv φ H0 (upd H p o) := m.same (Same.new (Same.refl H) n)
theorem Fv.mut (m : Fv φ H0 H) (n : H0 p = none) : Fv φ H0 (upd H p o) := ⟨m.was, fun a u e z => upd_at (ne_of_none z n) (m.keep a u e z), m.now.mut (m.was.off n)⟩
theorem Fv.free (m : Fv φ H0 H) (n : H p = none) : H0 p = none := by
  cases e : H0 p with
  | none => rfl
  | some o =>
    rw [m.keep p o (m.now.off n) e] at n
    cases n
theorem Fv.atT {xs : List V} (m : Fv φ H0 H) (h : H0 a = some (.tup xs)) : H a = some (.tup xs) := m.keep a _ (m.was.offT h) h
theorem Fv.atI {C dx : Addr} {fs : List (Str × V)} (m : Fv φ H0 H) (h : H0 a = some (.ins C dx fs)) : H a = some (.ins C dx fs) := m.keep a _ (m.was.offI h) h
theorem Fv.tk (m : Fv φ H0 H) : TK H0 H := fun _ _ h => m.atT h
theorem Fv.put (m : Fv φ H0 H) {xs : List V} {i c s : Int} (e : xs = [.ref φ.l, .int i, .int c, .int s]) (h : 0 ≤ i) : Fv φ H0 (upd H φ.t (.lst xs)) := by
  subst e
  obtain ⟨h0, ⟨ns, h1, h2⟩, x, y, z, h3, h4⟩ := m.now
  exact ⟨m.was, fun a o k z => upd_at k.t (m.keep a o k z), h0, ⟨ns, upd_at h0 h1, h2⟩, i, c, s, upd_same, h⟩
theorem Fv.eat (m : Fv φ H0 H) {ns : List Int} (h : ns.length ≤ 63) : Fv φ H0 (upd H φ.l (.lst (ns.map V.int))) := by
  obtain ⟨h0, _, x, y, z, h3, h4⟩ := m.now
  exact ⟨m.was, fun a o k z => upd_at k.l (m.keep a o k z), h0, ⟨ns, upd_same, h⟩, x, y, z, upd_at h0.symm h3, h4⟩
end
theorem lc_rangeW {lo : Int} {n : Nat} {g : TG} {tt : TT} {te : TE} {vs : List Nat} {σ : St} {H1 : Hp} {D : Addr} {Qd : Hp → Prop} : True := trivial
/-! ### o.m(e, ..) whose exceptions are seen in the suite around it -/
section
open PySem.Spec PyProof.Rows
variable {X : Cx} {CX : CXT} {k : Nat} {f C : Addr} {fd : FuncData} {ps : List Str} {sp : Sp} {E : L2.St → XK} {m : Str} {pos apos : Pos} {e o : Expr} {es : List Expr} {ta : TE} {t : TA}
def tMethS (C : Addr) (m : Str) (sp : Sp) (E : L2.St → XK) (ta : TE) (t : TA) : TE := fun σ H Q => ta σ H fun x H1 => ∃ a dx fs, x = .ref a ∧ H1 a = some (.ins C dx fs) ∧ fs.lookup m = none ∧ t σ H1 fun vs H2 => sp (x :: vs) H2 Q (E σ)
theorem pe_methX {pl : Sem Bool} (he : PE X o ta) (c : Cls X.K C) (hm : Meth X.K C m f) (F : FnOk X.prog X.w X.K X.mg X.base CX k f fd ps sp) (hr : Room k X.A) (hb : Binds X.K fd ps []) (hx : ∀ σ, PassesAt CX X σ (E σ)) (ha : PA X (e :: es) t)
    (hst : starEach (e :: es) X.env = (false, eval e X.env) :: starEach es X.env := by rfl) (hpl : (backTo pos (starEach es X.env)).any (·.1) = false := by rfl)
    (ht : eval (.Call (.Attribute o m apos) (e :: es) [] pos) X.env = (do
      let ov ← eval o X.env
      standAt apos.atName
      let (f, first) ← holding [ov] (getMethod ov m pl)
      callWith pos f first (backTo pos (starEach (e :: es) X.env)) (backToKw pos (keywordEach [] X.env))) := by rfl) :
    PE X (.Call (.Attribute o m apos) (e :: es) [] pos) (tMethS C m sp E ta t) :=
  ⟨fun pins s σ H Q I h => PySem.W.methodCall_KW (pl := pl) (thn (he.run pins s σ H _ I h) fun u s1 ⟨x, H1, I1, rx, a, dx, fs, ex, ea, l, q⟩ => by
    subst ex
    obtain rfl : u = Value.ref a := rx
    refine getmeth_ok I1 ea c hm l (PySem.W.callWith_K (first := [.ref a]) (h₀ := X.base) I.ok.mod.kin hm.kp (thn (ha.run pos pins s1 σ H1 _ I1 q) fun us s2 ⟨vs, H2, I2, r, q2⟩ => ⟨I2.kIn, ?_⟩) hst hpl)
    exact run_fnS (us := .ref a :: us) (vs := .ref a :: vs) F hr hb (hx σ) I2 (.cons rfl r) q2) ht⟩
end
structure Top (P : Program) (K : PySem.W.Frag) (mg : Str → Option Value) where
  C_KindError : Addr
  g_KindError : mg "KindError" = some (.ref C_KindError)
  C_BadKind : Addr
  f_BadKind___init__ : Addr
  fd_BadKind___init__ : FuncData
  er_BadKind : ErrC P K mg "BadKind" "BadKind.__init__" s_BadKind___init__ ["self"] C_BadKind f_BadKind___init__ fd_BadKind___init__
  C_TooMany : Addr
  f_TooMany___init__ : Addr
  fd_TooMany___init__ : FuncData
  er_TooMany : ErrC P K mg "TooMany" "TooMany.__init__" s_TooMany___init__ ["self", "most"] C_TooMany f_TooMany___init__ fd_TooMany___init__
  na_TooMany : PySem.W.findIn K (.ref C_TooMany) "most" = some none
  xm_BadKind_BadKind : PySem.W.exmOne K (.ref C_BadKind) (.ref C_BadKind) = some true
  xm_TooMany_TooMany : PySem.W.exmOne K (.ref C_TooMany) (.ref C_TooMany) = some true
  xm_TooMany_BadKind : PySem.W.exmOne K (.ref C_TooMany) (.ref C_BadKind) = some false
  kt_BadKind_KindError : PySem.W.kitOne K (.ref C_BadKind) (.ref C_KindError) = some true
  kt_BadKind_TooMany : PySem.W.kitOne K (.ref C_BadKind) (.ref C_TooMany) = some false
  C_Book : Addr
  g_Book : mg "Book" = some (.ref C_Book)
  cl_Book : Cls K C_Book
  ty_Book : InsT K C_Book
  n_Book_parents : NoAttr K C_Book "parents"
  n_Book_bits : NoAttr K C_Book "bits"
  C_Groups : Addr
  g_Groups : mg "Groups" = some (.ref C_Groups)
  cl_Groups : Cls K C_Groups
  ty_Groups : InsT K C_Groups
  n_Groups_lots : NoAttr K C_Groups "lots"
  n_Groups_held : NoAttr K C_Groups "held"
  C_Runtime : Addr
  g_Runtime : mg "Runtime" = some (.ref C_Runtime)
  cl_Runtime : Cls K C_Runtime
  ty_Runtime : InsT K C_Runtime
  n_Runtime_steps : NoAttr K C_Runtime "steps"
  kt_Book_int : PySem.W.kitOne K (.ref C_Book) (.type "int") = some false
  kt_Book_bool : PySem.W.kitOne K (.ref C_Book) (.type "bool") = some false
  kt_Book_tuple : PySem.W.kitOne K (.ref C_Book) (.type "tuple") = some false
  kt_Book_list : PySem.W.kitOne K (.ref C_Book) (.type "list") = some false
  c_MOST_KINDS : ∃ t, mg "MOST_KINDS" = some (.int 400 t)
  c_MOST_PARENTS : ∃ t, mg "MOST_PARENTS" = some (.int 6 t)
  f_is_integer : Addr
  fd_is_integer : FuncData
  F_is_integer : Fun K "is_integer" "is_integer" s_is_integer f_is_integer fd_is_integer
  b_is_integer : Binds K fd_is_integer ["thing"] []
  g_is_integer : mg "is_integer" = some (.ref f_is_integer)
  f_is_within : Addr
  fd_is_within : FuncData
  F_is_within : Fun K "is_within" "is_within" s_is_within f_is_within fd_is_within
  b_is_within : Binds K fd_is_within ["thing", "least", "most"] []
  g_is_within : mg "is_within" = some (.ref f_is_within)
  f_is_lot : Addr
  fd_is_lot : FuncData
  F_is_lot : Fun K "is_lot" "is_lot" s_is_lot f_is_lot fd_is_lot
  b_is_lot : Binds K fd_is_lot ["thing", "many"] []
  g_is_lot : mg "is_lot" = some (.ref f_is_lot)
  f_check_most : Addr
  fd_check_most : FuncData
  F_check_most : Fun K "check_most" "check_most" s_check_most f_check_most fd_check_most
  b_check_most : Binds K fd_check_most ["number", "most"] []
  g_check_most : mg "check_most" = some (.ref f_check_most)
  f_are_parents : Addr
  fd_are_parents : FuncData
  F_are_parents : Fun K "are_parents" "are_parents" s_are_parents f_are_parents fd_are_parents
  b_are_parents : Binds K fd_are_parents ["thing", "number"] []
  g_are_parents : mg "are_parents" = some (.ref f_are_parents)
  f_Book_fill : Addr
  fd_Book_fill : FuncData
  F_Book_fill : Fun K "fill" "Book.fill" s_Book_fill f_Book_fill fd_Book_fill
  b_Book_fill : Binds K fd_Book_fill ["self", "parents"] []
  m_Book_fill : Meth K C_Book "fill" f_Book_fill
  f_Book___init__ : Addr
  fd_Book___init__ : FuncData
  F_Book___init__ : Fun K "__init__" "Book.__init__" s_Book___init__ f_Book___init__ fd_Book___init__
  b_Book___init__ : Binds K fd_Book___init__ ["self", "parents"] []
  m_Book___init__ : Meth K C_Book "__init__" f_Book___init__
  M_Book : Mk K C_Book f_Book___init__
  f_Book___eq__ : Addr
  fd_Book___eq__ : FuncData
  F_Book___eq__ : Fun K "__eq__" "Book.__eq__" s_Book___eq__ f_Book___eq__ fd_Book___eq__
  b_Book___eq__ : Binds K fd_Book___eq__ ["self", "other"] []
  m_Book___eq__ : Meth K C_Book "__eq__" f_Book___eq__
  f_book_of : Addr
  fd_book_of : FuncData
  F_book_of : Fun K "book_of" "book_of" s_book_of f_book_of fd_book_of
  b_book_of : Binds K fd_book_of ["parents"] []
  g_book_of : mg "book_of" = some (.ref f_book_of)
  f_grown : Addr
  fd_grown : FuncData
  F_grown : Fun K "grown" "grown" s_grown f_grown fd_grown
  b_grown : Binds K fd_grown ["book", "parents"] []
  g_grown : mg "grown" = some (.ref f_grown)
  f_is_one : Addr
  fd_is_one : FuncData
  F_is_one : Fun K "is_one" "is_one" s_is_one f_is_one fd_is_one
  b_is_one : Binds K fd_is_one ["book", "x", "p"] []
  g_is_one : mg "is_one" = some (.ref f_is_one)
  f_Groups___init__ : Addr
  fd_Groups___init__ : FuncData
  F_Groups___init__ : Fun K "__init__" "Groups.__init__" s_Groups___init__ f_Groups___init__ fd_Groups___init__
  b_Groups___init__ : Binds K fd_Groups___init__ ["self"] []
  m_Groups___init__ : Meth K C_Groups "__init__" f_Groups___init__
  M_Groups : Mk K C_Groups f_Groups___init__
  f_Groups_fitting : Addr
  fd_Groups_fitting : FuncData
  F_Groups_fitting : Fun K "fitting" "Groups.fitting" s_Groups_fitting f_Groups_fitting fd_Groups_fitting
  b_Groups_fitting : Binds K fd_Groups_fitting ["self", "book", "lot", "x"] []
  m_Groups_fitting : Meth K C_Groups "fitting" f_Groups_fitting
  f_Groups_taken : Addr
  fd_Groups_taken : FuncData
  F_Groups_taken : Fun K "taken" "Groups.taken" s_Groups_taken f_Groups_taken fd_Groups_taken
  b_Groups_taken : Binds K fd_Groups_taken ["self", "book", "x"] []
  m_Groups_taken : Meth K C_Groups "taken" f_Groups_taken
  f_Groups_put : Addr
  fd_Groups_put : FuncData
  F_Groups_put : Fun K "put" "Groups.put" s_Groups_put f_Groups_put fd_Groups_put
  b_Groups_put : Binds K fd_Groups_put ["self", "book", "x"] []
  m_Groups_put : Meth K C_Groups "put" f_Groups_put
  f_entries_of : Addr
  fd_entries_of : FuncData
  F_entries_of : Fun K "entries_of" "entries_of" s_entries_of f_entries_of fd_entries_of
  b_entries_of : Binds K fd_entries_of ["book", "held", "x"] []
  g_entries_of : mg "entries_of" = some (.ref f_entries_of)
  f__law_flow : Addr
  fd__law_flow : FuncData
  F__law_flow : Fun K "_law_flow" "_law_flow" s__law_flow f__law_flow fd__law_flow
  b__law_flow : Binds K fd__law_flow ["_law_script"] []
  g__law_flow : mg "_law_flow" = some (.ref f__law_flow)
  f__law_draw : Addr
  fd__law_draw : FuncData
  F__law_draw : Fun K "_law_draw" "_law_draw" s__law_draw f__law_draw fd__law_draw
  b__law_draw : Binds K fd__law_draw ["_law_flow_here", "_law_many"] []
  g__law_draw : mg "_law_draw" = some (.ref f__law_draw)
  f__law_parents : Addr
  fd__law_parents : FuncData
  F__law_parents : Fun K "_law_parents" "_law_parents" s__law_parents f__law_parents fd__law_parents
  b__law_parents : Binds K fd__law_parents ["_law_flow_here", "_law_many", "_law_shape"] []
  g__law_parents : mg "_law_parents" = some (.ref f__law_parents)
  f_groups_from : Addr
  fd_groups_from : FuncData
  F_groups_from : Fun K "groups_from" "groups_from" s_groups_from f_groups_from fd_groups_from
  b_groups_from : Binds K fd_groups_from ["lots", "held"] []
  g_groups_from : mg "groups_from" = some (.ref f_groups_from)
  f_first_step : Addr
  fd_first_step : FuncData
  F_first_step : Fun K "first_step" "first_step" s_first_step f_first_step fd_first_step
  b_first_step : Binds K fd_first_step [] []
  g_first_step : mg "first_step" = some (.ref f_first_step)
  f_next_step : Addr
  fd_next_step : FuncData
  F_next_step : Fun K "next_step" "next_step" s_next_step f_next_step fd_next_step
  b_next_step : Binds K fd_next_step ["step", "parents"] []
  g_next_step : mg "next_step" = some (.ref f_next_step)
  f_Runtime___init__ : Addr
  fd_Runtime___init__ : FuncData
  F_Runtime___init__ : Fun K "__init__" "Runtime.__init__" s_Runtime___init__ f_Runtime___init__ fd_Runtime___init__
  b_Runtime___init__ : Binds K fd_Runtime___init__ ["self"] []
  m_Runtime___init__ : Meth K C_Runtime "__init__" f_Runtime___init__
  M_Runtime : Mk K C_Runtime f_Runtime___init__
  f_Runtime_many : Addr
  fd_Runtime_many : FuncData
  F_Runtime_many : Fun K "many" "Runtime.many" s_Runtime_many f_Runtime_many fd_Runtime_many
  b_Runtime_many : Binds K fd_Runtime_many ["self"] []
  m_Runtime_many : Meth K C_Runtime "many" f_Runtime_many
  f_Runtime_load : Addr
  fd_Runtime_load : FuncData
  F_Runtime_load : Fun K "load" "Runtime.load" s_Runtime_load f_Runtime_load fd_Runtime_load
  b_Runtime_load : Binds K fd_Runtime_load ["self", "parents"] []
  m_Runtime_load : Meth K C_Runtime "load" f_Runtime_load
  f_Runtime_book : Addr
  fd_Runtime_book : FuncData
  F_Runtime_book : Fun K "book" "Runtime.book" s_Runtime_book f_Runtime_book fd_Runtime_book
  b_Runtime_book : Binds K fd_Runtime_book ["self"] []
  m_Runtime_book : Meth K C_Runtime "book" f_Runtime_book
  f_Runtime_back : Addr
  fd_Runtime_back : FuncData
  F_Runtime_back : Fun K "back" "Runtime.back" s_Runtime_back f_Runtime_back fd_Runtime_back
  b_Runtime_back : Binds K fd_Runtime_back ["self"] []
  m_Runtime_back : Meth K C_Runtime "back" f_Runtime_back
  f__law_spoilt : Addr
  fd__law_spoilt : FuncData
  F__law_spoilt : Fun K "_law_spoilt" "_law_spoilt" s__law_spoilt f__law_spoilt fd__law_spoilt
  b__law_spoilt : Binds K fd__law_spoilt ["_law_flow_here", "_law_parents_here", "_law_many"] []
  g__law_spoilt : mg "_law_spoilt" = some (.ref f__law_spoilt)
  f__law_load : Addr
  fd__law_load : FuncData
  F__law_load : Fun K "_law_load" "_law_load" s__law_load f__law_load fd__law_load
  b__law_load : Binds K fd__law_load ["_law_runtime", "_law_parents_here"] []
  g__law_load : mg "_law_load" = some (.ref f__law_load)
  f__law_is : Addr
  fd__law_is : FuncData
  F__law_is : Fun K "_law_is" "_law_is" s__law_is f__law_is fd__law_is
  b__law_is : Binds K fd__law_is ["_law_thing", "_law_due"] []
  g__law_is : mg "_law_is" = some (.ref f__law_is)
  f__law_loads : Addr
  fd__law_loads : FuncData
  F__law_loads : Fun K "_law_loads" "_law_loads" s__law_loads f__law_loads fd__law_loads
  b__law_loads : Binds K fd__law_loads ["_law_runtime", "_law_parents_here", "_law_due"] []
  g__law_loads : mg "_law_loads" = some (.ref f__law_loads)
  f__law_stands : Addr
  fd__law_stands : FuncData
  F__law_stands : Fun K "_law_stands" "_law_stands" s__law_stands f__law_stands fd__law_stands
  b__law_stands : Binds K fd__law_stands ["_law_runtime", "_law_rows"] []
  g__law_stands : mg "_law_stands" = some (.ref f__law_stands)
  f__law_full : Addr
  fd__law_full : FuncData
  F__law_full : Fun K "_law_full" "_law_full" s__law_full f__law_full fd__law_full
  b__law_full : Binds K fd__law_full ["_law_runtime", "_law_flow_here"] []
  g__law_full : mg "_law_full" = some (.ref f__law_full)
  f_law : Addr
  fd_law : FuncData
  F_law : Fun K "law" "law" s_law f_law fd_law
  b_law : Binds K fd_law ["_law_script"] []
  g_law : mg "law" = some (.ref f_law)
  z_abs : mg "abs" = none
  z_bool : mg "bool" = none
  z_enumerate : mg "enumerate" = none
  z_int : mg "int" = none
  z_isinstance : mg "isinstance" = none
  z_len : mg "len" = none
  z_list : mg "list" = none
  z_max : mg "max" = none
  z_min : mg "min" = none
  z_range : mg "range" = none
  z_reversed : mg "reversed" = none
  z_sorted : mg "sorted" = none
  z_tuple : mg "tuple" = none
section
variable {P : Program} {w : World} {K : PySem.W.Frag} {mg : Str → Option Value} {base : Heap}
theorem ok_BadKind___init__ (T : Top P K mg) : FnOk P w K mg base CX0 1 T.f_BadKind___init__ T.fd_BadKind___init__ ["self"] (sp_err T.C_BadKind) := by
  obtain ⟨cc, cda, oc, od, dV, kV, doc, pm, an, ctv, osl, efd, lk, hcd, sup⟩ := T.er_BadKind.all
  rw [efd] at lk ⊢
  exact sup_fn (k := 0) (N := ["self", "__class__"]) (F := NFo "BadKind.__init__" s_BadKind___init__ cc cda) lk hcd sup (NdefX.nscope_by (sc := defScope s_BadKind___init__) (by decide +kernel)) rfl (fun vs H Q E h => by obtain ⟨a, rfl, _⟩ := h; rfl) rfl (fun L => rfl) (fun L => rfl) (fun L => rfl) (by kernel_rfl) (fun A outer s H vs Q E hr h => by
    obtain ⟨a, rfl, ha, k⟩ := h
    exact ⟨a, rfl, ha, _, pss_nil, k⟩)
theorem ok_TooMany___init__ (T : Top P K mg) : FnOk P w K mg base CX0 1 T.f_TooMany___init__ T.fd_TooMany___init__ ["self", "most"] (sp_errF T.C_TooMany "most") := by
  obtain ⟨cc, cda, oc, od, dV, kV, doc, pm, an, ctv, osl, efd, lk, hcd, sup⟩ := T.er_TooMany.all
  rw [efd] at lk ⊢
  exact sup_fn (k := 0) (N := ["self", "most", "__class__"]) (F := NFo "TooMany.__init__" s_TooMany___init__ cc cda) lk hcd sup (NdefX.nscope_by (sc := defScope s_TooMany___init__) (by decide +kernel)) rfl (fun vs H Q E h => by obtain ⟨a, v, rfl, _⟩ := h; rfl) rfl (fun L => rfl) (fun L => rfl) (fun L => rfl) (by kernel_rfl) (fun A outer s H vs Q E hr h => by
    obtain ⟨a, v, rfl, ha, k⟩ := h
    refine ⟨a, rfl, ha, _, pss_one (ps_ost (pv 0) (pv 1)), ?_⟩
    exact ⟨_, rfl, _, rfl, a, T.C_TooMany, rfl, T.er_TooMany.ex, T.na_TooMany, .inl ⟨ha, fun dx n1 n2 => k dx n1 n2⟩⟩)
/-! is_integer -/
def sp_is_integer (K : PySem.W.Frag) : Sp := fun vs H Q _ => ∃ v, vs = [v] ∧ IntK K H v ∧ Q (.bl (isIntB v)) H
theorem sc_is_integer : FnScope ["thing"] ["thing"] (defScope s_is_integer) := ⟨rfl, rfl, rfl, by decide +kernel, rfl, by decide +kernel, by decide +kernel⟩
theorem ok_is_integer (T : Top P K mg) : FnOk P w K mg base CX0 1 T.f_is_integer T.fd_is_integer ["thing"] (sp_is_integer K) := by
  refine T.F_is_integer.ok sc_is_integer (fun vs H Q E h => ?_) (fun cdv A outer s H vs Q E hr h => ?_)
  · obtain ⟨v, rfl, _⟩ := h
    rfl
  · obtain ⟨v, rfl, ⟨t, bi, bb, ht, hi, hb, e⟩, k⟩ := h
    refine ⟨_, (pss_one (ps_ret (pe_and (pe_callB (r := rIsi K) (id := "isinstance") call_isi (by rfl) T.z_isinstance (by decide +kernel) (pa_cons (pv 0) (pa_cons (pe_bltn (v := .ty "int") (u := .type "int") (by rfl) T.z_int (by decide +kernel) rfl) pa_nil))) (pe_one (pe_not (pe_callB (r := rIsi K) (id := "isinstance") call_isi (by rfl) T.z_isinstance (by decide +kernel) (pa_cons (pv 0) (pa_cons (pe_bltn (v := .ty "bool") (u := .type "bool") (by rfl) T.z_bool (by decide +kernel) rfl) pa_nil)))))))), ?_⟩
    tm_at "w"
    cases bi with
    | false =>
      rw [← e] at k
      tm_at "w"
      exact k
    | true =>
      rw [← e] at k
      tm_at "w"
      exact k
/-! is_within -/
def sp_is_within (K : PySem.W.Frag) : Sp := fun vs H Q _ => ∃ (v : V) (lo hi : Int), vs = [v, .int lo, .int hi] ∧ IntK K H v ∧ Q (.bl (withinB v lo hi)) H
theorem sc_is_within : FnScope ["thing", "least", "most"] ["thing", "least", "most"] (defScope s_is_within) := ⟨rfl, rfl, rfl, by decide +kernel, rfl, by decide +kernel, by decide +kernel⟩
theorem ok_is_within (T : Top P K mg) : FnOk P w K mg base CX0 2 T.f_is_within T.fd_is_within ["thing", "least", "most"] (sp_is_within K) := by
  have G_is_integer := ok_is_integer (P := P) (w := w) (base := base) T
  refine T.F_is_within.ok sc_is_within (fun vs H Q E h => ?_) (fun cdv A outer s H vs Q E hr h => ?_)
  · obtain ⟨v, lo, hi, rfl, _⟩ := h
    rfl
  · obtain ⟨v, lo, hi, rfl, hk, k⟩ := h
    refine ⟨_, (pss_one (ps_ret (pe_and (pe_call G_is_integer hr (by rfl) T.g_is_integer T.F_is_integer.kp T.b_is_integer .nil pass0 (pa_cons (pv 0) pa_nil)) (pe_one (pe_chain op_le op_le (pv 1) (pv 0) (pv 2)))))), ?_⟩
    refine ⟨v, rfl, v, rfl, hk, _, rfl, ?_⟩
    cases v with
    | int i =>
      refine iteT ?_
      tm_at "w"
      refine iteD (fun h1 => ?_) (fun h1 => ?_)
      · tm_at "w"
        have e : withinB (.int i) lo hi = decide (i ≤ hi) := by
          show (decide (lo ≤ i) && decide (i ≤ hi)) = _
          rw [decide_eq_true h1, Bool.true_and]
        rw [e] at k
        exact k
      · have e : withinB (.int i) lo hi = false := by
          show (decide (lo ≤ i) && decide (i ≤ hi)) = _
          rw [decide_eq_false h1, Bool.false_and]
        rw [e] at k
        exact k
    | _ =>
      refine iteF ?_
      exact k
/-! is_lot -/
/-- an ascending run of whole numbers above last, below m -/
def lotFrom (m : Int) : Int → List V → Bool
  | _, [] => true
  | last, x :: r => withinB x (last + 1) (m - 1) && lotFrom m (match x with | .int i => i | _ => 0) r
def sp_is_lot (K : PySem.W.Frag) : Sp := fun vs H Q _ => ∃ (v : V) (t : Value) (bt : Bool) (m : Int), vs = [v, .int m] ∧ TyX K H v t ∧ PySem.W.kitOne K t (.type "tuple") = some bt ∧
  ((bt = false ∧ Q (.bl false) H) ∨ ∃ (a : Addr) (xs : List V), v = .ref a ∧ H a = some (.tup xs) ∧ bt = true ∧ (∀ x ∈ xs, IntK K H x) ∧ Q (.bl (lotFrom m (-1) xs)) H)
theorem sc_is_lot : FnScope ["thing", "many", "last", "item"] ["thing", "many"] (defScope s_is_lot) := ⟨rfl, rfl, rfl, by decide +kernel, rfl, by decide +kernel, by decide +kernel⟩
theorem ok_is_lot (T : Top P K mg) : FnOk P w K mg base CX0 3 T.f_is_lot T.fd_is_lot ["thing", "many"] (sp_is_lot K) := by
  have G_is_within := ok_is_within (P := P) (w := w) (base := base) T
  refine T.F_is_lot.ok sc_is_lot (fun vs H Q E h => ?_) (fun cdv A outer s H vs Q E hr h => ?_)
  · obtain ⟨v, t, bt, m, rfl, _⟩ := h
    rfl
  · obtain ⟨v, t, bt, m, rfl, ht, hb, hh⟩ := h
    refine ⟨_, (pss_cons (ps_if (pt_not (pt_val (pe_callB (r := rIsi K) (id := "isinstance") call_isi (by rfl) T.z_isinstance (by decide +kernel) (pa_cons (pv 0) (pa_cons (pe_bltn (v := .ty "tuple") (u := .type "tuple") (by rfl) T.z_tuple (by decide +kernel) rfl) pa_nil))))) (pss_one (ps_ret pe_bl)) pss_nil)
      (pss_cons (ps_set (i := 2) sc_is_lot.nd rfl (Or.inl rfl) (pe_un un_neg pe_int))
      (pss_cons (ps_for PassesOwn.never rfl (pi_tup (pv 0)) (pg_name (i := 3) sc_is_lot.nd rfl (Or.inl rfl))
      (pss_cons (ps_if (pt_not (pt_val (pe_call G_is_within hr (by rfl) T.g_is_within T.F_is_within.kp T.b_is_within .nil pass0 (pa_cons (pv 3) (pa_cons (pe_op op_add (pv 2) pe_int) (pa_cons (pe_op op_sub (pv 1) pe_int) pa_nil)))))) (pss_one (ps_ret pe_bl)) pss_nil)
      (pss_one (ps_set (i := 2) sc_is_lot.nd rfl (Or.inl rfl) (pv 3)))))
      (pss_one (ps_ret pe_bl))))), ?_⟩
    tm_at "w"
    rcases hh with ⟨rfl, k⟩ | ⟨a, xs, rfl, ha, rfl, hi, k⟩
    · tm_at "w"
      exact k
    · tm_at "w"
      refine ⟨⟨_, SqT.of ha⟩, for_tup (K := K) (a := a) (xs := xs) (fun i σ H' => ∃ (last : Int) (x : Option V), σ = [some (.ref a), some (.int m), some (.int last), x] ∧ H' = H ∧ lotFrom m last (xs.drop i) = lotFrom m (-1) xs) ?_ ?_ ?_ ?_⟩
      · exact ⟨-1, none, rfl, rfl, rfl⟩
      · rintro i σ H' _ ⟨_, _, _, rfl, _⟩
        exact SqT.of ha
      · rintro i x σ H' hx ⟨last, y, rfl, rfl, e⟩
        have il := (List.getElem?_eq_some_iff.mp hx).1
        have hd : xs.drop i = x :: xs.drop (i + 1) := by
          rw [List.drop_eq_getElem_cons il]
          rw [List.getElem?_eq_getElem il] at hx
          rw [Option.some.inj hx]
        rw [hd] at e
        tm_at "w"
        refine ⟨_, _, _, rfl, hi x (List.mem_of_getElem? hx), ?_⟩
        tm_at "w"
        refine iteB (fun h => ?_) (fun h => ?_)
        · have h2 : withinB x (last + 1) (m - 1) = false := by simpa using h
          have e2 : lotFrom m (-1) xs = false := by
            rw [← e]
            show (withinB x (last + 1) (m - 1) && _) = false
            rw [h2]
            rfl
          rw [e2] at k
          tm_at "w"
          exact k
        · have h2 : withinB x (last + 1) (m - 1) = true := by simpa using h
          cases x with
          | int z =>
            tm_at "w"
            rw [← e]
            show _ = (withinB (.int z) (last + 1) (m - 1) && lotFrom m z (xs.drop (i + 1)))
            rw [h2, Bool.true_and]
          | _ => cases h2
      · rintro σ H' ⟨last, y, rfl, rfl, e⟩
        rw [List.drop_length] at e
        rw [← e] at k
        tm_at "w"
        exact k
/-! check_most -/
def sp_check_most (C_TooMany : Addr) (K : PySem.W.Frag) : Sp := fun vs H Q E => ∃ (n m : Int), vs = [.int n, .int m] ∧ (n ≤ m → Q .non H) ∧ (m < n → ∀ d, H d = none → E (.ref C_TooMany) (some d) (upd H d (.xd [("most", .int m)])))
theorem sc_check_most : FnScope ["number", "most"] ["number", "most"] (defScope s_check_most) := ⟨rfl, rfl, rfl, by decide +kernel, rfl, by decide +kernel, by decide +kernel⟩
theorem ok_check_most (T : Top P K mg) : FnOk P w K mg base (L2.CX P w) 3 T.f_check_most T.fd_check_most ["number", "most"] (sp_check_most T.C_TooMany K) := by
  have G_TooMany___init__ := ok_TooMany___init__ (P := P) (w := w) (base := base) T
  refine T.F_check_most.okX sc_check_most (fun vs H Q E h => ?_) (fun cdv A outer s H vs Q E hr h => ?_)
  · obtain ⟨n, m, rfl, _⟩ := h
    rfl
  · obtain ⟨n, m, rfl, k, ke⟩ := h
    refine ⟨_, (pss_one (ps_if (pt_cmpR op_gt (pv 0) (pv 1) (nomark _)) (pss_one (ps_raise rfl (takes_of rfl rfl rfl rfl) (pmk_oex T.er_TooMany.ex T.er_TooMany.ic T.er_TooMany.ti G_TooMany___init__ (hr.mono (by decide)) T.er_TooMany.bi .nil pass0 (by rfl) T.er_TooMany.g (pa_cons (pv 1) pa_nil)))) pss_nil)), ?_⟩
    tm_at "w"
    refine iteD (fun z => ?_) (fun z => ?_)
    · tm_at "w"
      exact errF_go fun d nd => ke z d nd
    · exact k (by omega)
/-! are_parents -/
def sp_are_parents (K : PySem.W.Frag) : Sp := fun vs H Q _ => ∃ (v : V) (t : Value) (bt : Bool) (m : Int), vs = [v, .int m] ∧ TyX K H v t ∧ PySem.W.kitOne K t (.type "tuple") = some bt ∧
  ((bt = false ∧ Q (.bl false) H) ∨ ∃ (a : Addr) (xs : List V), v = .ref a ∧ H a = some (.tup xs) ∧ bt = true ∧ (∀ x ∈ xs, IntK K H x) ∧ Q (.bl (lotFrom m (-1) xs && decide (xs.length ≤ 6))) H)
theorem sc_are_parents : FnScope ["thing", "number"] ["thing", "number"] (defScope s_are_parents) := ⟨rfl, rfl, rfl, by decide +kernel, rfl, by decide +kernel, by decide +kernel⟩
theorem ok_are_parents (T : Top P K mg) : FnOk P w K mg base CX0 4 T.f_are_parents T.fd_are_parents ["thing", "number"] (sp_are_parents K) := by
  have G_is_lot := ok_is_lot (P := P) (w := w) (base := base) T
  refine T.F_are_parents.ok sc_are_parents (fun vs H Q E h => ?_) (fun cdv A outer s H vs Q E hr h => ?_)
  · obtain ⟨v, t, bt, m, rfl, _⟩ := h
    rfl
  · obtain ⟨v, t, bt, m, rfl, ht, hb, hh⟩ := h
    refine ⟨_, (pss_one (ps_ret (pe_and (pe_call G_is_lot hr (by rfl) T.g_is_lot T.F_is_lot.kp T.b_is_lot .nil pass0 (pa_cons (pv 0) (pa_cons (pv 1) pa_nil))) (pe_one (pe_cmpR op_le (pe_callB (r := rLenQ K) (id := "len") call_len_seq (by rfl) T.z_len (by decide +kernel) (pa_cons (pv 0) pa_nil)) (pe_glob (v := .int 6) (by rfl) T.c_MOST_PARENTS.choose_spec ⟨_, rfl⟩) (nomark _)))))), ?_⟩
    tm_at "w"
    rcases hh with ⟨rfl, k⟩ | ⟨a, xs, rfl, ha, rfl, hi, k⟩
    · exact ⟨v, t, false, m, rfl, ht, hb, .inl ⟨rfl, false, rfl, iteF k⟩⟩
    · refine ⟨_, t, true, m, rfl, ht, hb, .inr ⟨a, xs, rfl, ha, rfl, hi, _, rfl, ?_⟩⟩
      refine iteB (fun h => ?_) (fun h => ?_)
      · tm_at "w"
        rw [h, Bool.true_and] at k
        have e : decide ((xs.length : Int) ≤ 6) = decide (xs.length ≤ 6) := decide_eq_decide.mpr (by omega)
        rw [← e] at k
        exact k
      · rw [h] at k
        exact k
/-! Book.fill -/
theorem bitOr_nat (a b : Nat) : Builtin.bitOr (a : Int) (b : Int) = ((a ||| b : Nat) : Int) := by
  rw [Bits.bitOr_pp (by omega) (by omega), Int.toNat_natCast, Int.toNat_natCast]
def sp_Book_fill (C : Addr) (K : PySem.W.Frag) : Sp := fun vs H Q _ => ∃ (b dx pa : Addr) (fs : List (Str × V)) (P : List (List Nat)), vs = [.ref b, .ref pa] ∧ H b = some (.ins C dx fs) ∧ BkFs fs ∧ ParAt H pa P ∧ RtP P ∧ P.length ≤ 1000 ∧
  ∀ lb H', But b H H' → H lb = none → BookAt C H' ⟨b, dx, pa, lb⟩ P → Q .non H'
theorem sc_Book_fill : FnScope ["self", "parents", "number", "item", "found", "parent"] ["self", "parents"] (defScope s_Book_fill) := ⟨rfl, rfl, rfl, by decide +kernel, rfl, by decide +kernel, by decide +kernel⟩
theorem ok_Book_fill (T : Top P K mg) : FnOk P w K mg base CX0 1 T.f_Book_fill T.fd_Book_fill ["self", "parents"] (sp_Book_fill T.C_Book K) := by
  refine T.F_Book_fill.ok sc_Book_fill (fun vs H Q E h => ?_) (fun cdv A outer s H vs Q E hr h => ?_)
  · obtain ⟨b, dx, pa, fs, P, rfl, _⟩ := h
    rfl
  · obtain ⟨b, dx, pa, fs, P, rfl, hb, hf, hP, hR, hn, k⟩ := h
    refine ⟨_, (pss_cons (ps_fld (pv 0) (pv 1) rfl)
      (pss_cons (ps_fld (pv 0) (pe_lst pa_nil) rfl)
      (pss_one (ps_for PassesOwn.never rfl (pi_enumT (by rfl) T.z_enumerate (pa_cons (pv 1) pa_nil)) (pg_tup rfl (pgs_cons (pg_name (i := 2) sc_Book_fill.nd rfl (Or.inl rfl)) (pgs_cons (pg_name (i := 3) sc_Book_fill.nd rfl (Or.inl rfl)) pgs_nil)))
      (pss_cons (ps_set (i := 4) sc_Book_fill.nd rfl (Or.inl rfl) (pe_op op_shl pe_int (pv 2)))
      (pss_cons (ps_for PassesOwn.never rfl (pi_tup (pv 3)) (pg_name (i := 5) sc_Book_fill.nd rfl (Or.inl rfl))
      (pss_one (ps_aug (i := 4) sc_Book_fill.nd rfl (Or.inl rfl) (pe_ix (r := rIxL K) ix_list (pe_fld (pv 0) rfl) (pv 5) (fun _ _ => rfl)) ip_or)))
      (pss_one (ps_expr (pe_bm PySem.F.plainAttrs_list PySem.F.slot_list_append PySem.F.type_list_append mt_append (pe_fld (pv 0) rfl) (pa_cons (pv 4) pa_nil)))))))))), ?_⟩
    have cB := T.cl_Book
    have nB1 := T.n_Book_parents
    have nB2 := T.n_Book_bits
    have hlp := BkFs.len1 hf pa
    have wb : ∀ l, H l = none → b ≠ l := fun l e => ne_of_none hb e
    obtain ⟨vsP, hpa, hlen, hit⟩ := id hP
    have nap : ∀ a xs, H a = some (.tup xs) → a ≠ b := fun a xs e z => by rw [z, hb] at e; cases e
    refine ⟨_, rfl, _, rfl, b, T.C_Book, dx, fs, rfl, hb, T.cl_Book, T.n_Book_parents, Nat.lt_trans (m := 500) hf.len (by decide), ?_⟩
    tm_at "w"
    intro lb nlb0
    have nlb : H lb = none := by
      by_cases z : lb = b
      · rw [z, upd_same] at nlb0
        cases nlb0
      · rw [upd_ne z] at nlb0
        exact nlb0
    have nbl : b ≠ lb := wb lb nlb
    refine ⟨_, rfl, b, T.C_Book, dx, _, rfl, (upd_ne nbl).trans upd_same, T.cl_Book, T.n_Book_bits, hlp, ?_⟩
    rw [hf.put pa lb]
    refine ⟨_, rfl, _, _, rfl, SqT.of (xs := vsP) ((upd_ne (nap _ _ hpa)).trans ((upd_ne (ne_of_none hpa nlb)).trans ((upd_ne (nap _ _ hpa)).trans hpa))), for_enumT (K := K) (a := pa) (xs := vsP) (fun i σ H' => ∃ x y z w, σ = [some (.ref b), some (.ref pa), x, y, z, w] ∧ But b H H' ∧ H' b = some (.ins T.C_Book dx (bkF pa lb)) ∧ H' lb = some (.lst (natsV (bitsOf (P.take i))))) ?_ ?_ ?_ ?_⟩
    · refine ⟨none, none, none, none, rfl, fun a o n e => ?_, upd_same, ?_⟩
      · exact (upd_ne n).trans ((upd_ne (ne_of_none e nlb)).trans ((upd_ne n).trans e))
      · exact (upd_ne nbl.symm).trans upd_same
    · rintro i σ H' ⟨_, _, _, _, rfl, bt, _⟩
      exact SqT.of (bt _ _ (nap _ _ hpa) hpa)
    · rintro i x t σ H' hx ⟨x0, y0, z0, w0, rfl, bt, h1, h2⟩ nt
      obtain ⟨ai, p, rfl, hp, hai⟩ := ParL.here ⟨hlen, hit⟩ hx
      have il := (List.getElem?_eq_some_iff.mp hp).1
      have wt : Nw H' t := ⟨nt⟩
      have hai' : H' ai = some (.tup (natsV p)) := bt _ _ (nap _ _ hai) hai
      tm_at "w"
      have hai2 : upd H' t (.tup [V.int (i : Int), V.ref ai]) ai = some (.tup (natsV p)) := by tm_at "hp"
      have hb2 : upd H' t (.tup [V.int (i : Int), V.ref ai]) b = some (.ins T.C_Book dx (bkF pa lb)) := by tm_at "hp"
      have hl2 : upd H' t (.tup [V.int (i : Int), V.ref ai]) lb = some (.lst (natsV (bitsOf (P.take i)))) := by tm_at "hp"
      have hbl : (bitsOf (P.take i)).length = i := by rw [bitsOf_len, List.length_take]; omega
      refine ⟨⟨_, SqT.of hai2⟩, for_tup (K := K) (a := ai) (xs := natsV p) (fun j σ H2 => ∃ z, σ = [some (.ref b), some (.ref pa), some (.int (i : Int)), some (.ref ai), some (.int (((p.take j).foldl (fun f q => f ||| (bitsOf (P.take i)).getD q 0) (2 ^ i) : Nat) : Int)), z] ∧ H2 = upd H' t (.tup [V.int (i : Int), V.ref ai])) ?_ ?_ ?_ ?_⟩
      · refine ⟨w0, ?_, rfl⟩
        show _ = [some (.ref b), some (.ref pa), some (.int (i : Int)), some (.ref ai), some (.int ((2 ^ i : Nat) : Int)), w0]
        have e : (1 : Int) * 2 ^ ((i : Int)).toNat = ((2 ^ i : Nat) : Int) := by rw [Int.one_mul, Int.toNat_natCast, Int.natCast_pow]; rfl
        rw [← e]
        rfl
      · rintro j σ H2 _ ⟨_, rfl, rfl⟩
        exact SqT.of hai2
      · rintro j y σ H2 hy ⟨z, rfl, rfl⟩
        obtain ⟨q, hq, rfl, _⟩ := natsV_here hy
        have ql : q < i := hR i p hp q (List.mem_of_getElem? hq)
        have hq2 : (natsV (bitsOf (P.take i)))[q]? = some (.int (((bitsOf (P.take i)).getD q 0 : Nat) : Int)) := by
          refine natsV_at ?_
          rw [List.getD_eq_getElem?_getD, List.getElem?_eq_getElem (by omega)]
          rfl
        tm_at "w"
        refine ⟨some (.int (q : Int)), ?_, rfl⟩
        show ([some (.ref b), some (.ref pa), some (.int (i : Int)), some (.ref ai), some (.int (Builtin.bitOr _ _)), some (.int (q : Int))] : L2.St) = _
        rw [bitOr_nat, List.take_add_one, hq, List.foldl_append]
        rfl
      · rintro σ H2 ⟨z, rfl, rfl⟩
        rw [natsV_len, List.take_length]
        tm_at "w"
        refine ⟨_, _, _, rfl, rfl, hl2, lt_line (by rw [natsV_len, hbl]; omega), ?_⟩
        have nlt : lb ≠ t := ne_of_none h2 nt
        refine ⟨_, _, _, _, rfl, fun a o n e => ?_, (upd_ne nbl).trans hb2, ?_⟩
        · have e2 := bt a o n e
          exact (upd_ne (ne_of_none e nlb)).trans ((upd_ne (ne_of_none e2 nt)).trans e2)
        · rw [upd_same, natsV_snoc, List.take_add_one, hp]
          show _ = some (HO.lst (natsV (bitsOf (P.take i ++ [p]))))
          rw [bitsOf_snoc, hbl]
          rfl
    · rintro σ H' ⟨x0, y0, z0, w0, rfl, bt, h1, h2⟩
      rw [hlen, List.take_length] at h2
      exact k lb H' bt nlb ⟨h1, ⟨vsP, bt _ _ (nap _ _ hpa) hpa, hlen, fun j p e => by
        obtain ⟨a, e1, e2⟩ := hit j p e
        exact ⟨a, e1, bt _ _ (nap _ _ e2) e2⟩⟩, h2⟩
/-! Book.__init__ -/
theorem lot_from {m : Int} : ∀ {q : List Nat} {last : Int}, q.Pairwise (· < ·) → (∀ x ∈ q, last < (x : Int) ∧ (x : Int) < m) → lotFrom m last (natsV q) = true
  | [], _, _, _ => rfl
  | x :: r, last, hp, hm => by
    obtain ⟨h1, h2⟩ := List.pairwise_cons.mp hp
    have hx := hm x List.mem_cons_self
    have ih := lot_from (m := m) (q := r) (last := (x : Int)) h2 fun y hy => ⟨by have := h1 y hy; omega, (hm y (List.mem_cons_of_mem _ hy)).2⟩
    show (withinB (.int (x : Int)) (last + 1) (m - 1) && lotFrom m (x : Int) (natsV r)) = true
    rw [ih]
    show ((decide (last + 1 ≤ (x : Int)) && decide ((x : Int) ≤ m - 1)) && true) = true
    rw [decide_eq_true (show last + 1 ≤ (x : Int) by omega), decide_eq_true (show (x : Int) ≤ m - 1 by omega)]
    rfl
theorem OkL.lot {q : List Nat} {m : Nat} (h : OkL q m) : (lotFrom (m : Int) (-1) (natsV q) && decide ((natsV q).length ≤ 6)) = true := by
  rw [lot_from h.asc fun x hx => ⟨by omega, by have := h.lt x hx; omega⟩, natsV_len, decide_eq_true h.few]
  rfl
def sp_Book___init__ (C : Addr) (K : PySem.W.Frag) : Sp := fun vs H Q _ => ∃ (b dx pa : Addr) (P : List (List Nat)), vs = [.ref b, .ref pa] ∧ H b = some (.ins C dx []) ∧ ParAt H pa P ∧ OkP P ∧
  ∀ lb H', But b H H' → H lb = none → BookAt C H' ⟨b, dx, pa, lb⟩ P → Q .non H'
theorem sc_Book___init__ : FnScope ["self", "parents", "number", "item"] ["self", "parents"] (defScope s_Book___init__) := ⟨rfl, rfl, rfl, by decide +kernel, rfl, by decide +kernel, by decide +kernel⟩
theorem ok_Book___init__ (T : Top P K mg) : FnOk P w K mg base CX0 5 T.f_Book___init__ T.fd_Book___init__ ["self", "parents"] (sp_Book___init__ T.C_Book K) := by
  have G_Book_fill := ok_Book_fill (P := P) (w := w) (base := base) T
  have G_are_parents := ok_are_parents (P := P) (w := w) (base := base) T
  refine T.F_Book___init__.ok sc_Book___init__ (fun vs H Q E h => ?_) (fun cdv A outer s H vs Q E hr h => ?_)
  · obtain ⟨b, dx, pa, P, rfl, _⟩ := h
    rfl
  · obtain ⟨b, dx, pa, P, rfl, hb, hP, ok, k⟩ := h
    refine ⟨_, (pss_cons (ps_if (PW.pt (pw_or (pt_not (pt_val (pe_callB (r := rIsi K) (id := "isinstance") call_isi (by rfl) T.z_isinstance (by decide +kernel) (pa_cons (pv 1) (pa_cons (pe_bltn (v := .ty "tuple") (u := .type "tuple") (by rfl) T.z_tuple (by decide +kernel) rfl) pa_nil))))) (pw_or1 (pt_cmpR op_gt (pe_callB (r := rLenQ K) (id := "len") call_len_seq (by rfl) T.z_len (by decide +kernel) (pa_cons (pv 1) pa_nil)) (pe_glob (v := .int 400) (by rfl) T.c_MOST_KINDS.choose_spec ⟨_, rfl⟩) (nomark _))))) (pss_one ps_never) pss_nil)
      (pss_cons (ps_for PassesOwn.never rfl (pi_enumT (by rfl) T.z_enumerate (pa_cons (pv 1) pa_nil)) (pg_tup rfl (pgs_cons (pg_name (i := 2) sc_Book___init__.nd rfl (Or.inl rfl)) (pgs_cons (pg_name (i := 3) sc_Book___init__.nd rfl (Or.inl rfl)) pgs_nil)))
      (pss_one (ps_if (pt_not (pt_val (pe_call G_are_parents hr (by rfl) T.g_are_parents T.F_are_parents.kp T.b_are_parents .nil pass0 (pa_cons (pv 3) (pa_cons (pv 2) pa_nil))))) (pss_one ps_never) pss_nil)))
      (pss_one (ps_expr (pe_meth (pv 0) T.cl_Book T.m_Book_fill G_Book_fill (hr.mono (by decide)) T.b_Book_fill .nil pass0 (pa_cons (pv 1) pa_nil)))))), ?_⟩
    have cB := T.cl_Book
    have nB1 := T.n_Book_parents
    have nB2 := T.n_Book_bits
    obtain ⟨vsP, hpa, hlen, hit⟩ := id hP
    have few := ok.few
    have ty := ty_tup (K := K) hpa
    have tt := tup_tup (K := K)
    tm_at "w"
    refine ⟨_, _, rfl, SqT.of hpa, for_enumT (K := K) (a := pa) (xs := vsP) (fun i σ H' => ∃ x y, σ = [some (.ref b), some (.ref pa), x, y] ∧ Same H H') ?_ ?_ ?_ ?_⟩
    · exact ⟨none, none, rfl, Same.refl H⟩
    · rintro i σ H' ⟨_, _, rfl, s1⟩
      exact SqT.of (s1 _ _ hpa)
    · rintro i x t σ H' hx ⟨x0, y0, rfl, s1⟩ nt
      obtain ⟨ai, p, rfl, hp, hai⟩ := ParL.here ⟨hlen, hit⟩ hx
      have s2 : Same H (upd H' t (.tup [V.int (i : Int), V.ref ai])) := Same.new s1 nt
      have hai2 := s2 _ _ hai
      tm_at "w"
      refine ⟨_, _, true, _, rfl, ty_tup hai2, tup_tup, .inr ⟨ai, natsV p, rfl, hai2, rfl, natsV_int p, ?_⟩⟩
      rw [(ok.ok i p hp).lot]
      refine ⟨_, rfl, iteF ?_⟩
      exact ⟨_, _, rfl, s2⟩
    · rintro σ H' ⟨x0, y0, rfl, s1⟩
      tm_at "w"
      refine ⟨b, dx, [], rfl, s1 _ _ hb, rfl, ?_⟩
      tm_at "w"
      refine ⟨b, dx, pa, [], P, rfl, s1 _ _ hb, .inl rfl, hP.tk (Same.tk s1), ok.rt, by omega, fun lb H2 bt nl at' => ?_⟩
      tm_at "w"
      exact k lb H2 (But.same s1 bt) (Same.free s1 nl) at'
/-- the book that is made of parents -/
theorem mk_book {C : Addr} {K : PySem.W.Frag} {H : Hp} {pa : Addr} {P : List (List Nat)} {Q : Addr → Hp → Prop} {E : XK} (hP : ParAt H pa P) (ok : OkP P)
    (k : ∀ b H', Made C H H' b P → b.pa = pa → Q b.b H') : ∀ x dx, H x = none → H dx = none → dx ≠ x → sp_Book___init__ C K [.ref x, .ref pa] (upd (upd H dx (.own x)) x (.ins C dx [])) (fun v H2 => v = .non ∧ Q x H2) E := by
  intro x dx hx hd ne
  have s1 : Same H (upd (upd H dx (.own x)) x (.ins C dx [])) := Same.mut (Same.new (Same.refl H) hd) hx
  refine ⟨x, dx, pa, P, rfl, upd_same, hP.tk (Same.tk s1), ok, fun lb H' bt nl at' => ⟨rfl, ?_⟩⟩
  exact k ⟨x, dx, pa, lb⟩ H' ⟨But.new s1 hx bt, at', ⟨hx⟩, ⟨Same.free s1 nl⟩⟩ rfl
/-! Book.__eq__ -/
theorem own_ty {K : PySem.W.Frag} {H : Hp} {a C dx : Addr} {fs : List (Str × V)} (cl : Cls K C) (t : InsT K C) (e : H a = some (.ins C dx fs)) : TyX K H (.ref a) (.ref C) := .base (.ins e cl t.ha t.hn t.htk t.hm)
theorem own_kit {K : PySem.W.Frag} {C : Addr} : PySem.W.kitOne K (.ref C) (.ref C) = some true := by
  unfold PySem.W.kitOne
  rw [if_pos (by simp)]
/-- two books of the same parents -/
def REq (C : Addr) (a b : Addr) (H : Hp) : Prop := ∃ (k l : Bk) (P : List (List Nat)), k.b = a ∧ l.b = b ∧ BookAt C H k P ∧ BookAt C H l P
theorem REq.mon {C : Addr} (a b : Addr) (H H' : Hp) (x : Ext H H') (r : REq C a b H) : REq C a b H' := by
  obtain ⟨k, l, P, e1, e2, h1, h2⟩ := r
  exact ⟨k, l, P, e1, e2, h1.same x, h2.same x⟩
def natsD (p : List Nat) : List PyData := p.map fun q : Nat => PyData.int (q : Int)
def rowsD (P : List (List Nat)) : List PyData := P.map fun p => PyData.tuple (natsD p)
theorem nats_lay : ∀ q : List Nat, PyData.canLayAll0 (natsD q) = true
  | [] => rfl
  | n :: r => by
    show (PyData.canLay0 (.int (n : Int)) && PyData.canLayAll0 (natsD r)) = true
    rw [nats_lay r]
    rfl
theorem rows_lay : ∀ P : List (List Nat), PyData.canLayAll0 (rowsD P) = true
  | [] => rfl
  | q :: r => by
    show (PyData.canLay0 (.tuple (natsD q)) && PyData.canLayAll0 (rowsD r)) = true
    rw [rows_lay r]
    show (PyData.canLayAll0 (natsD q) && true) = true
    rw [nats_lay]
    rfl
theorem nats_deep : ∀ q : List Nat, PyData.depthAll (natsD q) ≤ 1
  | [] => by simp [natsD, PyData.depthAll]
  | n :: r => by
    have ih := nats_deep r
    show PyData.depthAll (PyData.int (n : Int) :: natsD r) ≤ 1
    simp only [PyData.depthAll, PyData.depth]
    omega
theorem rows_deep : ∀ P : List (List Nat), PyData.depthAll (rowsD P) ≤ 2
  | [] => by simp [rowsD, PyData.depthAll]
  | q :: r => by
    have ih := rows_deep r
    have iq := nats_deep q
    show PyData.depthAll (PyData.tuple (natsD q) :: rowsD r) ≤ 2
    simp only [PyData.depthAll, PyData.depth]
    omega
theorem nats_shaped (q : List Nat) : SeqAt.shaped (.tuple (natsD q)) = true := by
  have iq := nats_deep q
  have h2 : PyData.depth (.tuple (natsD q)) ≤ 64 := by
    simp only [PyData.depth]
    omega
  exact Bool.and_eq_true_iff.mpr ⟨nats_lay q, decide_eq_true h2⟩
theorem rows_shaped (P : List (List Nat)) : SeqAt.shaped (.tuple (rowsD P)) = true := by
  have iq := rows_deep P
  have h2 : PyData.depth (.tuple (rowsD P)) ≤ 64 := by
    simp only [PyData.depth]
    omega
  exact Bool.and_eq_true_iff.mpr ⟨rows_lay P, decide_eq_true h2⟩
theorem rows_refl (P : List (List Nat)) : PyData.eqv (.tuple (rowsD P)) (.tuple (rowsD P)) = true := SeqAt.eqv_refl _ (rows_lay P)
theorem nats_refl (q : List Nat) : PyData.eqv (.tuple (natsD q)) (.tuple (natsD q)) = true := SeqAt.eqv_refl _ (nats_lay q)
theorem dp_nats {K : PySem.W.Frag} {H : Hp} : ∀ q : List Nat, DpAll K H (natsV q) (natsD q)
  | [] => .nil
  | n :: r => .cons (.int n) (dp_nats r)
theorem dp_tup {K : PySem.W.Frag} {H : Hp} {a : Addr} {q : List Nat} (h : H a = some (.tup (natsV q))) : Dp K H (.ref a) (.tuple (natsD q)) := .tup (SqT.of h) (dp_nats q)
theorem dp_rows {K : PySem.W.Frag} {H : Hp} : ∀ {vs : List V} {P : List (List Nat)}, ParL H vs P → DpAll K H vs (rowsD P)
  | [], [], _ => .nil
  | [], _ :: _, h => nomatch h.1
  | _ :: _, [], h => nomatch h.1
  | v :: vs, p :: P, h => by
    obtain ⟨a, e1, e2⟩ := h.2 0 p rfl
    have ev : v = .ref a := Option.some.inj e1
    subst ev
    exact .cons (dp_tup e2) (dp_rows ⟨by have := h.1; simpa using this, fun j q e => h.2 (j + 1) q (by simpa using e)⟩)
theorem dp_par {K : PySem.W.Frag} {H : Hp} {a : Addr} {P : List (List Nat)} (h : ParAt H a P) : Dp K H (.ref a) (.tuple (rowsD P)) := by
  obtain ⟨vs, e, l⟩ := h
  exact .tup (SqT.of e) (dp_rows l)
def sp_Book___eq__ (C : Addr) (K : PySem.W.Frag) : Sp := spEq (REq C)
theorem sc_Book___eq__ : FnScope ["self", "other"] ["self", "other"] (defScope s_Book___eq__) := ⟨rfl, rfl, rfl, by decide +kernel, rfl, by decide +kernel, by decide +kernel⟩
theorem ok_Book___eq__ (T : Top P K mg) : FnOk P w K mg base CX0 1 T.f_Book___eq__ T.fd_Book___eq__ ["self", "other"] (sp_Book___eq__ T.C_Book K) := by
  refine T.F_Book___eq__.ok sc_Book___eq__ (fun vs H Q E h => ?_) (fun cdv A outer s H vs Q E hr h => ?_)
  · obtain ⟨a, b, rfl, _⟩ := h
    rfl
  · obtain ⟨a, b, rfl, ⟨k, l, P, rfl, rfl, h1, h2⟩, kk⟩ := h
    refine ⟨_, (pss_one (ps_ret (pe_and (pe_callB (r := rIsi K) (id := "isinstance") call_isi (by rfl) T.z_isinstance (by decide +kernel) (pa_cons (pv 1) (pa_cons (pe_glob (v := .ref T.C_Book) (by rfl) T.g_Book rfl) pa_nil))) (pe_one (pe_cmpR (op_eqD hr.units) (pe_fld (pv 0) rfl) (pe_fld (pv 1) rfl) (nomark _)))))), ?_⟩
    have cB := T.cl_Book
    have nB1 := T.n_Book_parents
    have nB2 := T.n_Book_bits
    have ty := own_ty (K := K) T.cl_Book T.ty_Book h2.ins
    have h1i := h1.ins
    have h2i := h2.ins
    tm_at "w"
    refine ⟨_, _, _, _, _, rfl, ClsV.own _, ty, own_kit, ?_⟩
    tm_at "w"
    refine ⟨_, _, dp_par h1.par, dp_par h2.par, rows_shaped P, rows_shaped P, ?_⟩
    rw [rows_refl]
    exact kk H (Same.refl H)
/-! book_of -/
def sp_book_of (C : Addr) (K : PySem.W.Frag) : Sp := fun vs H Q _ => ∃ (a : Addr) (xs : List V) (P : List (List Nat)), vs = [.ref a] ∧ (H a = some (.lst xs) ∨ H a = some (.tup xs)) ∧ ParL H xs P ∧ RtP P ∧ P.length ≤ 1000 ∧
  ∀ b H', Made C H H' b P → Q (.ref b.b) H'
theorem sc_book_of : FnScope ["parents", "found"] ["parents"] (defScope s_book_of) := ⟨rfl, rfl, rfl, by decide +kernel, rfl, by decide +kernel, by decide +kernel⟩
theorem ok_book_of (T : Top P K mg) : FnOk P w K mg base CX0 7 T.f_book_of T.fd_book_of ["parents"] (sp_book_of T.C_Book K) := by
  have G_Book___init__ := ok_Book___init__ (P := P) (w := w) (base := base) T
  have G_Book_fill := ok_Book_fill (P := P) (w := w) (base := base) T
  refine T.F_book_of.ok sc_book_of (fun vs H Q E h => ?_) (fun cdv A outer s H vs Q E hr h => ?_)
  · obtain ⟨a, xs, P, rfl, _⟩ := h
    rfl
  · obtain ⟨a, xs, P, rfl, ha, hP, hR, hn, k⟩ := h
    refine ⟨_, (pss_cons (ps_set (i := 1) sc_book_of.nd rfl (Or.inl rfl) (pe_make T.M_Book G_Book___init__ hr (by rfl) T.g_Book T.b_Book___init__ .nil pass0 (pa_cons (pe_tup pa_nil) pa_nil)))
      (pss_cons (ps_expr (pe_meth (pv 1) T.cl_Book T.m_Book_fill G_Book_fill (hr.mono (by decide)) T.b_Book_fill .nil pass0 (pa_cons (pe_callTy (r := rTupQ K) (T := "tuple") call_tuple_of (by rfl) T.z_tuple (by decide +kernel) (pa_cons (pv 0) pa_nil)) pa_nil)))
      (pss_one (ps_ret (pv 1))))), ?_⟩
    have cB := T.cl_Book
    have nB1 := T.n_Book_parents
    have nB2 := T.n_Book_bits
    tm_at "w"
    intro e ne
    have s1 : Same H (upd H e (.tup [])) := Same.new (Same.refl H) ne
    tm_at "w"
    refine mk_book (pa := e) (P := []) ⟨[], upd_same, ParL.nil⟩ OkP.nil fun f H1 mk epa => ?_
    tm_at "w"
    have m1 := mk.early s1
    have s2 := m1.same
    have hins := mk.here.ins
    have fin : ∀ (t : Addr) (H2 : Hp), Same H1 H2 → ∀ lb H3, But f.b H2 H3 → H2 lb = none → BookAt T.C_Book H3 ⟨f.b, f.dx, t, lb⟩ P → Q (.ref f.b) H3 := fun t H2 s3 lb H3 bt nl at' =>
      k ⟨f.b, f.dx, t, lb⟩ H3 ⟨But.new (Same.trans s2 s3) m1.nb.e bt, at', m1.nb, ⟨Same.free (Same.trans s2 s3) nl⟩⟩
    refine ⟨f.b, f.dx, _, rfl, hins, bkF_no _ _ (by decide +kernel) (by decide +kernel), ?_⟩
    rcases ha with ha | ha
    · refine ⟨_, rfl, a, xs, rfl, .inl ⟨SqL.of (s2 _ _ ha), fun t nt => ?_⟩⟩
      have s3 : Same H1 (upd H1 t (.tup xs)) := Same.new (Same.refl H1) nt
      refine ⟨f.b, f.dx, t, _, P, rfl, s3 _ _ hins, .inr ⟨_, _, rfl⟩, ⟨xs, upd_same, hP.tk (Same.tk (Same.trans s2 s3))⟩, hR, hn, fun lb H3 bt nl at' => ?_⟩
      tm_at "w"
      exact fin t _ s3 lb H3 bt nl at'
    · refine ⟨_, rfl, a, xs, rfl, .inr ⟨SqT.of (s2 _ _ ha), ?_⟩⟩
      refine ⟨f.b, f.dx, a, _, P, rfl, hins, .inr ⟨_, _, rfl⟩, ⟨xs, s2 _ _ ha, hP.tk (Same.tk s2)⟩, hR, hn, fun lb H3 bt nl at' => ?_⟩
      tm_at "w"
      exact fin a _ (Same.refl H1) lb H3 bt nl at'
/-! grown -/
theorem TK.mutI {H : Hp} {p : Addr} {o : HO} {C dx : Addr} {fs : List (Str × V)} (h : H p = some (.ins C dx fs)) : TK H (upd H p o) := fun a xs e => upd_at (ne_of e h (by intro z; cases z)) e
theorem cat_any {K : PySem.W.Frag} {H : Hp} {a b : Addr} {xs ys : List V} {Q : VK} (hx : H a = some (.tup xs)) (hy : H b = some (.tup ys)) (hl : xs.length + ys.length ≤ sizeLine)
    (k : ∀ p H', Same H H' → H' p = some (.tup (xs ++ ys)) → Q (.ref p) H') : rCatA K (.ref a) (.ref b) H Q := by
  refine ⟨a, b, xs, ys, rfl, rfl, SqT.of hx, SqT.of hy, hl, fun e => ?_, fun _ e => ?_, fun _ _ p np => ?_⟩
  · exact k b H (Same.refl H) (by rw [hy, e]; rfl)
  · exact k a H (Same.refl H) (by rw [hx, e, List.append_nil])
  · exact k p _ (Same.new (Same.refl H) np) upd_same
def sp_grown (C : Addr) (K : PySem.W.Frag) : Sp := fun vs H Q _ => ∃ (l : Bk) (a : Addr) (P : List (List Nat)) (q : List Nat), vs = [.ref l.b, .ref a] ∧ BookAt C H l P ∧ H a = some (.tup (natsV q)) ∧ (∀ x ∈ q, x < P.length) ∧ P.length ≤ 1000 ∧
  ∀ b H', Made C H H' b (P ++ [q]) → Q (.ref b.b) H'
theorem sc_grown : FnScope ["book", "parents", "found", "bits", "parent"] ["book", "parents"] (defScope s_grown) := ⟨rfl, rfl, rfl, by decide +kernel, rfl, by decide +kernel, by decide +kernel⟩
theorem ok_grown (T : Top P K mg) : FnOk P w K mg base CX0 7 T.f_grown T.fd_grown ["book", "parents"] (sp_grown T.C_Book K) := by
  have G_Book___init__ := ok_Book___init__ (P := P) (w := w) (base := base) T
  refine T.F_grown.ok sc_grown (fun vs H Q E h => ?_) (fun cdv A outer s H vs Q E hr h => ?_)
  · obtain ⟨l, a, P, q, rfl, _⟩ := h
    rfl
  · obtain ⟨l, a, P, q, rfl, hl, ha, hq, hn, k⟩ := h
    refine ⟨_, (pss_cons (ps_set (i := 2) sc_grown.nd rfl (Or.inl rfl) (pe_make T.M_Book G_Book___init__ hr (by rfl) T.g_Book T.b_Book___init__ .nil pass0 (pa_cons (pe_tup pa_nil) pa_nil)))
      (pss_cons (ps_set (i := 3) sc_grown.nd rfl (Or.inl rfl) (pe_op op_shl pe_int (pe_callB (r := rLenQ K) (id := "len") call_len_seq (by rfl) T.z_len (by decide +kernel) (pa_cons (pe_fld (pv 0) rfl) pa_nil))))
      (pss_cons (ps_for PassesOwn.never rfl (pi_tup (pv 1)) (pg_name (i := 4) sc_grown.nd rfl (Or.inl rfl))
      (pss_one (ps_aug (i := 3) sc_grown.nd rfl (Or.inl rfl) (pe_ix (r := rIxL K) ix_list (pe_fld (pv 0) rfl) (pv 4) (fun _ _ => rfl)) ip_or)))
      (pss_cons (ps_fld (pv 2) (pe_op op_catA (pe_fld (pv 0) rfl) (pe_tup (pa_cons (pv 1) pa_nil))) rfl)
      (pss_cons (ps_fld (pv 2) (pe_op op_cat (pe_fld (pv 0) rfl) (pe_lst (pa_cons (pv 3) pa_nil))) rfl)
      (pss_one (ps_ret (pv 2)))))))), ?_⟩
    have cB := T.cl_Book
    have nB1 := T.n_Book_parents
    have nB2 := T.n_Book_bits
    tm_at "w"
    intro e ne
    have s1 : Same H (upd H e (.tup [])) := Same.new (Same.refl H) ne
    tm_at "w"
    refine mk_book (pa := e) (P := []) ⟨[], upd_same, ParL.nil⟩ OkP.nil fun f H1 mk epa => ?_
    have m1 := mk.early s1
    have s2 := m1.same
    have hins := mk.here.ins
    have hl1 := hl.same s2
    have hli := hl1.ins
    have hlb := hl1.bits
    obtain ⟨xs, hx, hxl⟩ := id hl1.par
    have ha1 := s2 _ _ ha
    have hxn := hxl.1
    have hfb : f.b ≠ l.b := fun e => by
      have z := m1.nb.e
      rw [e, hl.ins] at z
      cases z
    tm_at "w"
    refine ⟨⟨_, SqT.of ha1⟩, for_tup (K := K) (a := a) (xs := natsV q) (fun j σ H2 => ∃ z, σ = [some (.ref l.b), some (.ref a), some (.ref f.b), some (.int (((q.take j).foldl (fun f q => f ||| (bitsOf P).getD q 0) (2 ^ P.length) : Nat) : Int)), z] ∧ H2 = H1) ?_ ?_ ?_ ?_⟩
    · refine ⟨none, ?_, rfl⟩
      have e : (1 : Int) * 2 ^ ((xs.length : Int)).toNat = ((2 ^ P.length : Nat) : Int) := by rw [Int.one_mul, Int.toNat_natCast, hxn, Int.natCast_pow]; rfl
      show _ = ([some (.ref l.b), some (.ref a), some (.ref f.b), some (.int ((2 ^ P.length : Nat) : Int)), none] : L2.St)
      rw [← e]
      rfl
    · rintro j σ H2 _ ⟨_, rfl, rfl⟩
      exact SqT.of ha1
    · rintro j y σ H2 hy ⟨z, rfl, rfl⟩
      obtain ⟨x, hx2, rfl, _⟩ := natsV_here hy
      have xl := hq x (List.mem_of_getElem? hx2)
      have hq2 : (natsV (bitsOf P))[x]? = some (.int (((bitsOf P).getD x 0 : Nat) : Int)) := by
        refine natsV_at ?_
        rw [List.getD_eq_getElem?_getD, List.getElem?_eq_getElem (by rw [bitsOf_len]; omega)]
        rfl
      tm_at "w"
      refine ⟨some (.int (x : Int)), ?_, rfl⟩
      show ([some (.ref l.b), some (.ref a), some (.ref f.b), some (.int (Builtin.bitOr _ _)), some (.int (x : Int))] : L2.St) = _
      rw [bitOr_nat, List.take_add_one, hx2, List.foldl_append]
      rfl
    · rintro σ H2 ⟨z, rfl, rfl⟩
      rw [natsV_len, List.take_length]
      tm_at "w"
      intro p1 np1
      have s3 : Same H2 (upd H2 p1 (.tup [.ref a])) := Same.new (Same.refl H2) np1
      refine cat_any (s3 _ _ hx) upd_same (by rw [hxn]; show _ + 1 ≤ sizeLine; have := lt_line (n := P.length + 1) (by omega); omega) fun pa2 H4 s4 hpa2 => ?_
      have s24 := Same.trans s3 s4
      have hins4 := s24 _ _ hins
      refine ⟨_, rfl, _, _, _, _, rfl, hins4, cB, nB1, by rw [bkF_eq]; show 2 < 1000; decide, ?_⟩
      rw [bkF_putP]
      have hli4 : upd H4 f.b (.ins T.C_Book f.dx (bkF pa2 f.lb)) l.b = some (HO.ins T.C_Book l.dx (bkF l.pa l.lb)) := (upd_ne hfb.symm).trans (s24 _ _ hli)
      tm_at "w"
      intro l1 nl1
      have w1 : Nw _ l1 := ⟨nl1⟩
      have hlb4 : upd H4 f.b (.ins T.C_Book f.dx (bkF pa2 f.lb)) l.lb = some (.lst (natsV (bitsOf P))) := (upd_ne (m1.nb.ne hl.bits)).trans (s24 _ _ hlb)
      have hin5 : upd H4 f.b (.ins T.C_Book f.dx (bkF pa2 f.lb)) f.b = some (.ins T.C_Book f.dx (bkF pa2 f.lb)) := upd_same
      refine ⟨_, _, _, _, rfl, rfl, (upd_ne (w1.ne hlb4)).trans hlb4, upd_same, by rw [natsV_len, bitsOf_len]; show _ + 1 ≤ sizeLine; have := lt_line (n := P.length + 1) (by omega); omega, fun lb nlb0 => ?_⟩
      have w2 : Nw _ lb := ⟨nlb0⟩
      have hin6 := (upd_ne (o := HO.lst [V.int ((List.foldl (fun f q => f ||| (bitsOf P).getD q 0) (2 ^ P.length) q : Nat) : Int)]) (w1.ne hin5)).trans hin5
      have hin7 := (upd_ne (o := HO.lst (natsV (bitsOf P) ++ [V.int ((List.foldl (fun f q => f ||| (bitsOf P).getD q 0) (2 ^ P.length) q : Nat) : Int)])) (w2.ne hin6)).trans hin6
      refine ⟨_, rfl, _, _, _, _, rfl, hin7, cB, nB2, by rw [bkF_eq]; show 2 < 1000; decide, ?_⟩
      rw [bkF_putB]
      tm_at "w"
      have sA : Same H (upd H4 f.b (.ins T.C_Book f.dx (bkF pa2 f.lb))) := Same.mut (Same.trans s2 s24) m1.nb.e
      have sB := Same.new (o := HO.lst [V.int ((List.foldl (fun f q => f ||| (bitsOf P).getD q 0) (2 ^ P.length) q : Nat) : Int)]) sA nl1
      have sC := Same.new (o := HO.lst (natsV (bitsOf P) ++ [V.int ((List.foldl (fun f q => f ||| (bitsOf P).getD q 0) (2 ^ P.length) q : Nat) : Int)])) sB nlb0
      have k1 : TK H4 (upd H4 f.b (.ins T.C_Book f.dx (bkF pa2 f.lb))) := TK.mutI hins4
      have k2 := TK.trans k1 (TK.new (o := HO.lst [V.int ((List.foldl (fun f q => f ||| (bitsOf P).getD q 0) (2 ^ P.length) q : Nat) : Int)]) nl1)
      have k3 := TK.trans k2 (TK.new (o := HO.lst (natsV (bitsOf P) ++ [V.int ((List.foldl (fun f q => f ||| (bitsOf P).getD q 0) (2 ^ P.length) q : Nat) : Int)])) nlb0)
      have k4 := TK.trans k3 (TK.mutI (o := .ins T.C_Book f.dx (bkF pa2 lb)) hin7)
      refine k ⟨f.b, f.dx, pa2, lb⟩ _ ⟨Same.mut sC m1.nb.e, ⟨upd_same, ⟨_, k4 _ _ hpa2, (hxl.tk (TK.trans (Same.tk s24) k4)).snoc (k4 _ _ (s24 _ _ ha1))⟩, ?_⟩, m1.nb, ⟨Same.free sB nlb0⟩⟩
      refine (upd_ne (w2.ne hin6).symm).trans (upd_same.trans ?_)
      rw [natsV_snoc, bitsOf_snoc, bitsOf_len]
      rfl
/-! is_one -/
theorem bit_val (b p : Nat) : Builtin.bitAnd ((b : Int) / 2 ^ ((p : Int)).toNat) 1 = if b.testBit p then 1 else 0 := by
  rw [PyProof.Rows.bitAnd_m1, Int.toNat_natCast]
  have e : ((b : Int) / 2 ^ p) % 2 = ((b / 2 ^ p % 2 : Nat) : Int) := by
    rw [Int.natCast_emod, Int.natCast_ediv, Int.natCast_pow]
    rfl
  rw [e, Nat.testBit_eq_decide_div_mod_eq]
  have h : b / 2 ^ p % 2 < 2 := Nat.mod_lt _ (by decide)
  by_cases h1 : b / 2 ^ p % 2 = 1
  · rw [h1]
    rfl
  · have h0 : b / 2 ^ p % 2 = 0 := by omega
    rw [h0]
    rfl
theorem bit_one (b p : Nat) : decide (V.int (Builtin.bitAnd ((b : Int) / 2 ^ ((p : Int)).toNat) 1) = V.int 1) = b.testBit p := by
  rw [bit_val]
  cases b.testBit p
  · exact decide_eq_false (by intro e; cases e)
  · exact decide_eq_true rfl
def sp_is_one (C : Addr) (K : PySem.W.Frag) : Sp := fun vs H Q _ => ∃ (l : Bk) (P : List (List Nat)) (x p : Nat), vs = [.ref l.b, .int x, .int p] ∧ BookAt C H l P ∧ x < P.length ∧ Q (.bl (isA P x p)) H
theorem sc_is_one : FnScope ["book", "x", "p"] ["book", "x", "p"] (defScope s_is_one) := ⟨rfl, rfl, rfl, by decide +kernel, rfl, by decide +kernel, by decide +kernel⟩
theorem ok_is_one (T : Top P K mg) : FnOk P w K mg base CX0 1 T.f_is_one T.fd_is_one ["book", "x", "p"] (sp_is_one T.C_Book K) := by
  refine T.F_is_one.ok sc_is_one (fun vs H Q E h => ?_) (fun cdv A outer s H vs Q E hr h => ?_)
  · obtain ⟨l, P, x, p, rfl, _⟩ := h
    rfl
  · obtain ⟨l, P, x, p, rfl, hl, hx, k⟩ := h
    refine ⟨_, (pss_one (ps_ret (pe_cmpR op_eq (pe_op op_and (pe_op op_shr (pe_ix (r := rIxL K) ix_list (pe_fld (pv 0) rfl) (pv 1) (fun _ _ => rfl)) (pv 2)) pe_int) pe_int (nomark _)))), ?_⟩
    have cB := T.cl_Book
    have nB1 := T.n_Book_parents
    have nB2 := T.n_Book_bits
    have hli := hl.ins
    have hb : (bitsOf P)[x]? = some ((bitsOf P).getD x 0) := by
      rw [List.getD_eq_getElem?_getD, List.getElem?_eq_getElem (by rw [bitsOf_len]; exact hx)]
      rfl
    have hb2 := natsV_at hb
    have hbits := hl.bits
    tm_at "w"
    have e : isA P x p = decide (V.int (Builtin.bitAnd ((((bitsOf P).getD x 0 : Nat) : Int) / 2 ^ ((p : Int)).toNat) 1) = V.int 1) := (bit_one _ _).symm
    rw [e] at k
    exact k
/-! Groups.__init__ -/
/-! ### loops over enumerate(a list) -/
theorem for_enumL {K : PySem.W.Frag} {a : Addr} {xs : List V} {g : TG} {tb : TS} {D : Ends} {σ : L2.St} {H : Hp} (Pv : Nat → L2.St → Hp → Prop) (h0 : Pv 0 σ H) (hq : ∀ i σ H, Pv i σ H → SqL K H a xs)
    (hs : ∀ (i : Nat) (x : V) (t : Addr) (σ : L2.St) (H : Hp), xs[i]? = some x → Pv i σ H → H t = none → g (.ref t) σ (upd H t (.tup [.int (i : Nat), x])) fun σ2 H2 => tb { D with nx := Pv (i + 1), ct := Pv (i + 1), bk := D.nx } σ2 H2)
    (hd : ∀ σ H, Pv xs.length σ H → D.nx σ H) : ∃ W : Nat → Nat → L2.St → Hp → Prop, (∃ m, W 0 m σ H) ∧ ∀ i m σ H, W i m σ H →
      ((Ite K a).stop i H ∧ D.nx σ H) ∨ ((Ite K a).go i H ∧ ∃ N : L2.St → Hp → Prop, (∀ σ' H', N σ' H' → ∃ m', m' < m ∧ W (i + 1) m' σ' H') ∧ ∀ v H', (Ite K a).yld i H v H' → g v σ H' fun σ2 H2 => tb { D with nx := N, ct := N, bk := D.nx } σ2 H2) := by
  refine ⟨fun i m σ H => m = xs.length - i ∧ i ≤ xs.length ∧ Pv i σ H, ⟨_, rfl, Nat.zero_le _, h0⟩, ?_⟩
  rintro i m σ H ⟨rfl, hi, p⟩
  have q := hq i σ H p
  by_cases lt : i < xs.length
  · refine .inr ⟨⟨xs, _, q, List.getElem?_eq_getElem lt⟩, Pv (i + 1), fun σ' H' p2 => ⟨_, by omega, rfl, lt, p2⟩, fun v H' y => ?_⟩
    obtain ⟨t, x, rfl, nt, rfl, f⟩ := y
    exact hs i x t σ H (f xs q) p nt
  · have e : i = xs.length := by omega
    subst e
    exact .inl ⟨⟨xs, q, Nat.le_refl _⟩, hd σ H p⟩
theorem lc_enumLF {K : PySem.W.Frag} {a : Addr} {xs : List V} {g : TG} {tt : TT} {te : TE} {vs : List Nat} {σ : St} {H1 : Hp} {D : Addr} {Qd : Hp → Prop} (f : Nat → Option V) (hx : H1 a = some (.lst xs)) (nD : H1 D = none) (hn : xs.length ≤ 100000)
    (hs : ∀ (i : Nat) (x : V) (Z : Addr) (H : Hp) (N : V → Hp → Prop) (M : Hp → Prop), xs[i]? = some x → Same H1 H → H Z = some (.tup [.int (i : Nat), x]) → (∀ v H4, f i = some v → Same H H4 → N v H4) → (∀ H4, f i = none → Same H H4 → M H4) → g (.ref Z) (wipe σ vs) H fun σ2 H2 => wipe σ2 vs = wipe σ vs ∧ tt σ2 H2 fun b H3 => if b = true then te σ2 H3 N else M H3)
    (hd : ∀ H, Same H1 H → H D = some (.lst ((List.range xs.length).filterMap f)) → Qd H) : ∃ W : Nat → Nat → Hp → Prop, (∃ m, W 0 m (upd H1 D (.lst []))) ∧ ∀ i m H, W i m H →
      ((Ite K a).stop i H ∧ Qd H) ∨ ((Ite K a).go i H ∧ ∃ Nx : Hp → Prop, (∀ H', Nx H' → ∃ m', m' < m ∧ W (i + 1) m' H') ∧ ∀ x H', (Ite K a).yld i H x H' → g x (wipe σ vs) H' fun σ2 H2 => wipe σ2 vs = wipe σ vs ∧ tt σ2 H2 fun b H3 =>
        if b = true then te σ2 H3 fun y H4 => ∃ acc, H4 D = some (.lst acc) ∧ acc.length < sizeLine ∧ Nx (upd H4 D (.lst (acc ++ [y]))) else Nx H3) := by
  refine ⟨fun i m H => m = xs.length - i ∧ i ≤ xs.length ∧ Same H1 H ∧ H D = some (.lst ((List.range i).filterMap f)), ⟨xs.length, rfl, Nat.zero_le _, Same.new (Same.refl H1) nD, upd_same⟩, ?_⟩
  rintro i m H ⟨rfl, hi, s, hD⟩
  have qx : SqL K H a xs := SqL.of (s _ _ hx)
  have hz := filterMap_range_len f i
  by_cases hlt : i < xs.length
  · have ex : xs[i]? = some xs[i] := List.getElem?_eq_getElem hlt
    refine .inr ⟨⟨xs, _, qx, ex⟩, fun H => i < xs.length ∧ Same H1 H ∧ H D = some (.lst ((List.range (i + 1)).filterMap f)), fun H' p' => ⟨xs.length - (i + 1), by omega, rfl, hlt, p'.2⟩, fun v H' y => ?_⟩
    obtain ⟨Z, x', rfl, hZ, rfl, f1⟩ := y
    have s1 : Same H (upd H Z (.tup [.int (i : Nat), x'])) := Same.new (Same.refl H) hZ
    refine hs i x' Z _ _ _ (f1 xs qx) (s.trans s1) upd_same (fun v H4 e s4 => ⟨_, s4 _ _ (s1 _ _ hD), lt_line (by omega), hlt, ?_, ?_⟩) (fun H4 e s4 => ⟨hlt, ?_, ?_⟩)
    · exact Same.mut ((s.trans s1).trans s4) nD
    · rw [filterMap_range_succ, e]
      exact upd_same
    · exact (s.trans s1).trans s4
    · rw [filterMap_range_succ, e, s4 _ _ (s1 _ _ hD)]
      simp
  · have e : i = xs.length := by omega
    subst e
    exact .inl ⟨⟨xs, qx, Nat.le_refl _⟩, hd H s hD⟩
/-! ### two lists of lists of numbers that change: groups (false), held (true) -/
def upS (S : Bool → List (List Nat)) (b : Bool) (l : List (List Nat)) : Bool → List (List Nat) := fun b' => if b' = b then l else S b'
theorem upS_at (S : Bool → List (List Nat)) (b : Bool) (l : List (List Nat)) : upS S b l b = l := if_pos rfl
theorem upS_ne (S : Bool → List (List Nat)) {b b' : Bool} (h : b' ≠ b) (l : List (List Nat)) : upS S b l b' = S b' := if_neg h
structure GF (H0 H : Hp) (R : Bool → Addr) (S : Bool → List (List Nat)) (F : Bool → Nat → Addr) : Prop where
  lists : ∀ b, H (R b) = some (.lst ((List.range (S b).length).map fun j => V.ref (F b j)))
  rows : ∀ b (j : Nat) q, (S b)[j]? = some q → H (F b j) = some (.lst (natsV q))
  inj : ∀ b (j : Nat) b' (j' : Nat), j < (S b).length → j' < (S b').length → F b j = F b' j' → b = b' ∧ j = j'
  apart : ∀ b (j : Nat) b', j < (S b).length → F b j ≠ R b'
  two : R false ≠ R true
  newR : ∀ b, H0 (R b) = none
  newF : ∀ b (j : Nat), j < (S b).length → H0 (F b j) = none
structure G (H0 H : Hp) (R : Bool → Addr) (S : Bool → List (List Nat)) : Prop where
  same : Same H0 H
  ex : ∃ F, GF H0 H R S F
section
variable {H0 H H' : Hp} {R : Bool → Addr} {S : Bool → List (List Nat)}
theorem GF.ne {F : Bool → Nat → Addr} (g : GF H0 H R S F) {b b' : Bool} (h : b ≠ b') : R b ≠ R b' := by
  cases b <;> cases b'
  · exact absurd rfl h
  · exact g.two
  · exact g.two.symm
  · exact absurd rfl h
theorem GF.row {F : Bool → Nat → Addr} (g : GF H0 H R S F) {b : Bool} {j : Nat} (h : j < (S b).length) : ∃ q, (S b)[j]? = some q ∧ H (F b j) = some (.lst (natsV q)) := ⟨_, List.getElem?_eq_getElem h, g.rows b j _ (List.getElem?_eq_getElem h)⟩
theorem G.later (g : G H0 H R S) (s : Same H H') : G H0 H' R S := by
  obtain ⟨F, f⟩ := g.ex
  exact ⟨Same.trans g.same s, F, fun b => s _ _ (f.lists b), fun b j q e => s _ _ (f.rows b j q e), f.inj, f.apart, f.two, f.newR, f.newF⟩
theorem G.at (g : G H0 H R S) (b : Bool) : ∃ xs, H (R b) = some (.lst xs) ∧ xs.length = (S b).length ∧ ∀ (j : Nat) q, (S b)[j]? = some q → ∃ a, xs[j]? = some (.ref a) ∧ H a = some (.lst (natsV q)) := by
  obtain ⟨F, f⟩ := g.ex
  refine ⟨_, f.lists b, by rw [List.length_map, List.length_range], fun j q e => ⟨F b j, ?_, f.rows b j q e⟩⟩
  have hj := (List.getElem?_eq_some_iff.mp e).1
  rw [List.getElem?_map, List.getElem?_range hj]
  rfl
theorem G.init {l h : Addr} (nl : H0 l = none) (nh : H0 h = none) (n : l ≠ h) (s : Same H0 H) (hl : H l = some (.lst [])) (hh : H h = some (.lst [])) : G H0 H (fun b => if b = true then h else l) (fun _ => []) := by
  refine ⟨s, fun _ _ => l, fun b => ?_, fun b j q e => by simp at e, fun b j b' j' e => absurd e (Nat.not_lt_zero _), fun b j b' e => absurd e (Nat.not_lt_zero _), ?_, fun b => ?_, fun b j e => absurd e (Nat.not_lt_zero _)⟩
  · cases b
    · exact hl
    · exact hh
  · exact n
  · cases b
    · exact nl
    · exact nh
theorem range_snoc {F : Nat → Addr} {e : Addr} (n : Nat) : ((List.range n).map fun j => V.ref (F j)) ++ [V.ref e] = (List.range (n + 1)).map fun j => V.ref (if j = n then e else F j) := by
  rw [List.range_succ, List.map_append]
  congr 1
  · refine List.map_congr_left fun j hj => ?_
    rw [List.mem_range] at hj
    rw [if_neg (by omega)]
  · show [V.ref e] = [V.ref (if n = n then e else F n)]
    rw [if_pos rfl]
theorem G.grow (g : G H0 H R S) (b : Bool) {e : Addr} {xs : List V} (ne : H e = none) (hx : H (R b) = some (.lst xs)) : G H0 (upd (upd H e (.lst [])) (R b) (.lst (xs ++ [.ref e]))) R (upS S b (S b ++ [[]])) := by
  obtain ⟨F, f⟩ := g.ex
  have ex : xs = (List.range (S b).length).map fun j => V.ref (F b j) := by
    have := f.lists b
    rw [hx] at this
    injection this with this
    injection this
  have nF : ∀ b' (j : Nat), j < (S b').length → F b' j ≠ e := fun b' j hj => by
    obtain ⟨q, _, h⟩ := f.row hj
    exact ne_of_none h ne
  have nR : ∀ b', R b' ≠ e := fun b' => ne_of_none (f.lists b') ne
  have s1 : Same H0 (upd H e (.lst [])) := Same.new g.same ne
  have len : ∀ b', b' ≠ b → (upS S b (S b ++ [[]]) b').length = (S b').length := fun b' h => by rw [upS_ne S h]
  have lenb : (upS S b (S b ++ [[]]) b).length = (S b).length + 1 := by rw [upS_at, List.length_append]; rfl
  refine ⟨Same.mut s1 (f.newR b), fun b' j => if b' = b ∧ j = (S b).length then e else F b' j, ?_, ?_, ?_, ?_, f.two, f.newR, ?_⟩
  · intro b'
    by_cases h : b' = b
    · subst h
      rw [upd_same, lenb, ex, range_snoc]
      congr 2
      refine List.map_congr_left fun j _ => ?_
      simp
    · rw [upd_ne (f.ne h), upd_ne (nR b'), len b' h, f.lists b']
      congr 2
      refine List.map_congr_left fun j _ => ?_
      rw [if_neg (fun z => h z.1)]
  · intro b' j q hq
    by_cases h : b' = b
    · subst h
      rw [upS_at] at hq
      by_cases hj : j < (S b').length
      · rw [List.getElem?_append_left hj] at hq
        rw [if_neg (fun z => by omega), upd_ne (f.apart b' j b' hj), upd_ne (nF b' j hj)]
        exact f.rows b' j q hq
      · rw [List.getElem?_append_right (by omega)] at hq
        have l := (List.getElem?_eq_some_iff.mp hq).1
        rw [List.length_singleton] at l
        have ej : j = (S b').length := by omega
        rw [ej, Nat.sub_self] at hq
        rw [if_pos ⟨rfl, ej⟩, upd_ne (nR b').symm, upd_same, ← Option.some.inj hq]
        rfl
    · rw [upS_ne S h] at hq
      have hj := (List.getElem?_eq_some_iff.mp hq).1
      rw [if_neg (fun z => h z.1), upd_ne (f.apart b' j b hj), upd_ne (nF b' j hj)]
      exact f.rows b' j q hq
  · intro b1 j1 b2 j2 h1 h2 e12
    have key : ∀ b' j, j < (upS S b (S b ++ [[]]) b').length → ¬ (b' = b ∧ j = (S b).length) → j < (S b').length := fun b' j hj hn => by
      by_cases h : b' = b
      · subst h
        rw [lenb] at hj
        have : j ≠ (S b').length := fun z => hn ⟨rfl, z⟩
        omega
      · rw [len b' h] at hj
        exact hj
    by_cases c1 : b1 = b ∧ j1 = (S b).length
    · by_cases c2 : b2 = b ∧ j2 = (S b).length
      · exact ⟨c1.1.trans c2.1.symm, c1.2.trans c2.2.symm⟩
      · rw [if_pos c1, if_neg c2] at e12
        exact absurd e12.symm (nF b2 j2 (key b2 j2 h2 c2))
    · by_cases c2 : b2 = b ∧ j2 = (S b).length
      · rw [if_neg c1, if_pos c2] at e12
        exact absurd e12 (nF b1 j1 (key b1 j1 h1 c1))
      · rw [if_neg c1, if_neg c2] at e12
        exact f.inj b1 j1 b2 j2 (key b1 j1 h1 c1) (key b2 j2 h2 c2) e12
  · intro b' j b2 hj
    by_cases c : b' = b ∧ j = (S b).length
    · rw [if_pos c]
      exact (nR b2).symm
    · rw [if_neg c]
      refine f.apart b' j b2 ?_
      by_cases h : b' = b
      · subst h
        rw [lenb] at hj
        have : j ≠ (S b').length := fun z => c ⟨rfl, z⟩
        omega
      · rw [len b' h] at hj
        exact hj
  · intro b' j hj
    by_cases c : b' = b ∧ j = (S b).length
    · rw [if_pos c]
      exact Same.free g.same ne
    · rw [if_neg c]
      refine f.newF b' j ?_
      by_cases h : b' = b
      · subst h
        rw [lenb] at hj
        have : j ≠ (S b').length := fun z => c ⟨rfl, z⟩
        omega
      · rw [len b' h] at hj
        exact hj
theorem G.push (g : G H0 H R S) (b : Bool) {j : Nat} {q q' : List Nat} {a : Addr} {xs : List V} (hq : (S b)[j]? = some q) (hx : H (R b) = some (.lst xs)) (ha : xs[j]? = some (.ref a)) : G H0 (upd H a (.lst (natsV q'))) R (upS S b ((S b).set j q')) := by
  obtain ⟨F, f⟩ := g.ex
  have hj := (List.getElem?_eq_some_iff.mp hq).1
  have ea : a = F b j := by
    have := f.lists b
    rw [hx] at this
    injection this with this
    injection this with this
    rw [this, List.getElem?_map, List.getElem?_range hj] at ha
    injection ha with ha
    injection ha with ha
    exact ha.symm
  subst ea
  have len : ∀ b', (upS S b ((S b).set j q') b').length = (S b').length := fun b' => by
    by_cases h : b' = b
    · subst h
      rw [upS_at, List.length_set]
    · rw [upS_ne S h]
  refine ⟨Same.mut g.same (f.newF b j hj), F, fun b' => ?_, fun b' i r hr => ?_, fun b1 j1 b2 j2 h1 h2 => ?_, fun b1 j1 b2 h1 => ?_, f.two, f.newR, fun b1 j1 h1 => ?_⟩
  · rw [upd_ne (f.apart b j b' hj).symm, len, f.lists b']
  · by_cases h : b' = b ∧ i = j
    · obtain ⟨rfl, rfl⟩ := h
      rw [upS_at, List.getElem?_set, if_pos rfl, if_pos hj] at hr
      rw [upd_same, Option.some.inj hr]
    · have hi : i < (S b').length := by
        have := (List.getElem?_eq_some_iff.mp hr).1
        rw [len] at this
        exact this
      have hr2 : (S b')[i]? = some r := by
        by_cases hb : b' = b
        · subst hb
          rw [upS_at, List.getElem?_set, if_neg (fun z => h ⟨rfl, z.symm⟩)] at hr
          exact hr
        · rw [upS_ne S hb] at hr
          exact hr
      rw [upd_ne (fun z => h (f.inj b' i b j hi hj z))]
      exact f.rows b' i r hr2
  · rw [len] at h1 h2
    exact f.inj b1 j1 b2 j2 h1 h2
  · rw [len] at h1
    exact f.apart b1 j1 b2 h1
  · rw [len] at h1
    exact f.newF b1 j1 h1
/-- another new list in the place of a row -/
theorem GF.swap {F : Bool → Nat → Addr} (f : GF H0 H R S F) (b : Bool) {j : Nat} {q : List Nat} {c : Addr} (hj : j < (S b).length) (hc : H c = some (.lst (natsV q))) (nF : ∀ b' (i : Nat), i < (S b').length → F b' i ≠ c) (nR : ∀ b', R b' ≠ c) (n0 : H0 c = none) :
    GF H0 (upd H (R b) (.lst (((List.range (S b).length).map fun i => V.ref (F b i)).set j (.ref c)))) R (upS S b ((S b).set j q)) (fun b' i => if b' = b ∧ i = j then c else F b' i) := by
  have len : ∀ b', (upS S b ((S b).set j q) b').length = (S b').length := fun b' => by
    by_cases h : b' = b
    · subst h
      rw [upS_at, List.length_set]
    · rw [upS_ne S h]
  refine ⟨fun b' => ?_, fun b' i r hr => ?_, fun b1 j1 b2 j2 h1 h2 e => ?_, fun b1 j1 b2 h1 => ?_, f.two, f.newR, fun b1 j1 h1 => ?_⟩
  · by_cases h : b' = b
    · subst h
      rw [upd_same, len]
      congr 2
      refine List.ext_getElem? fun i => ?_
      rw [List.getElem?_set, List.getElem?_map, List.getElem?_map, List.length_map, List.length_range]
      by_cases hi : i < (S b').length
      · rw [List.getElem?_range hi]
        by_cases e : j = i
        · rw [if_pos e, if_pos hj]
          show _ = some (V.ref (if b' = b' ∧ i = j then c else F b' i))
          rw [if_pos ⟨rfl, e.symm⟩]
        · rw [if_neg e]
          show some (V.ref (F b' i)) = some (V.ref (if b' = b' ∧ i = j then c else F b' i))
          rw [if_neg (fun z => e z.2.symm)]
      · rw [if_neg (by omega), List.getElem?_eq_none (by rw [List.length_range]; omega)]
        rfl
    · rw [upd_ne (f.ne h), len, f.lists b']
      congr 2
      refine List.map_congr_left fun i _ => ?_
      rw [if_neg (fun z => h z.1)]
  · have hi : i < (S b').length := by
      have := (List.getElem?_eq_some_iff.mp hr).1
      rw [len] at this
      exact this
    by_cases h : b' = b ∧ i = j
    · obtain ⟨rfl, rfl⟩ := h
      rw [upS_at, List.getElem?_set, if_pos rfl, if_pos hj] at hr
      rw [if_pos ⟨rfl, rfl⟩, upd_ne (nR b').symm, hc, Option.some.inj hr]
    · have hr2 : (S b')[i]? = some r := by
        by_cases hb : b' = b
        · subst hb
          rw [upS_at, List.getElem?_set, if_neg (fun z => h ⟨rfl, z.symm⟩)] at hr
          exact hr
        · rw [upS_ne S hb] at hr
          exact hr
      rw [if_neg h, upd_ne (f.apart b' i b hi)]
      exact f.rows b' i r hr2
  · rw [len] at h1 h2
    by_cases c1 : b1 = b ∧ j1 = j
    · by_cases c2 : b2 = b ∧ j2 = j
      · exact ⟨c1.1.trans c2.1.symm, c1.2.trans c2.2.symm⟩
      · rw [if_pos c1, if_neg c2] at e
        exact absurd e.symm (nF b2 j2 h2)
    · by_cases c2 : b2 = b ∧ j2 = j
      · rw [if_neg c1, if_pos c2] at e
        exact absurd e (nF b1 j1 h1)
      · rw [if_neg c1, if_neg c2] at e
        exact f.inj b1 j1 b2 j2 h1 h2 e
  · rw [len] at h1
    by_cases c1 : b1 = b ∧ j1 = j
    · rw [if_pos c1]
      exact (nR b2).symm
    · rw [if_neg c1]
      exact f.apart b1 j1 b2 h1
  · rw [len] at h1
    by_cases c1 : b1 = b ∧ j1 = j
    · rw [if_pos c1]
      exact n0
    · rw [if_neg c1]
      exact f.newF b1 j1 h1
theorem G.one (g : G H0 H R S) (s : Same H H') (b : Bool) {j : Nat} {q : List Nat} {c : Addr} {xs : List V} (n : H c = none) (hj : j < (S b).length) (hc : H' c = some (.lst (natsV q))) (hx : H' (R b) = some (.lst xs)) :
    G H0 (upd H' (R b) (.lst (xs.set j (.ref c)))) R (upS S b ((S b).set j q)) := by
  obtain ⟨F, f⟩ := g.ex
  obtain ⟨F', f'⟩ : ∃ F', F' = F ∧ GF H0 H' R S F' := ⟨F, rfl, fun b => s _ _ (f.lists b), fun b j q e => s _ _ (f.rows b j q e), f.inj, f.apart, f.two, f.newR, f.newF⟩
  obtain ⟨rfl, f'⟩ := f'
  have ex : xs = (List.range (S b).length).map fun j => V.ref (F' b j) := by
    have := f'.lists b
    rw [hx] at this
    injection this with this
    injection this
  subst ex
  refine ⟨Same.mut (Same.trans g.same s) (f.newR b), _, f'.swap b hj hc (fun b' i hi => ?_) (fun b' => ne_of_none (f.lists b') n) (Same.free g.same n)⟩
  obtain ⟨r, _, h⟩ := f.row hi
  exact ne_of_none h n
theorem G.both (g : G H0 H R S) (s : Same H H') (b : Bool) {j k : Nat} {q r : List Nat} {c d : Addr} {xs : List V} (nc : H c = none) (nd : H d = none) (ncd : c ≠ d) (hj : j < (S b).length) (hk : k < (S b).length) (hjk : j ≠ k) (hc : H' c = some (.lst (natsV q))) (hd : H' d = some (.lst (natsV r))) (hx : H' (R b) = some (.lst xs)) :
    G H0 (upd (upd H' (R b) (.lst (xs.set j (.ref c)))) (R b) (.lst ((xs.set j (.ref c)).set k (.ref d)))) R (upS S b (((S b).set j q).set k r)) := by
  obtain ⟨F, f⟩ := g.ex
  obtain ⟨F', f'⟩ : ∃ F', F' = F ∧ GF H0 H' R S F' := ⟨F, rfl, fun b => s _ _ (f.lists b), fun b j q e => s _ _ (f.rows b j q e), f.inj, f.apart, f.two, f.newR, f.newF⟩
  obtain ⟨rfl, f'⟩ := f'
  have ex : xs = (List.range (S b).length).map fun j => V.ref (F' b j) := by
    have := f'.lists b
    rw [hx] at this
    injection this with this
    injection this
  subst ex
  have nRc : ∀ b', R b' ≠ c := fun b' => ne_of_none (f.lists b') nc
  have nRd : ∀ b', R b' ≠ d := fun b' => ne_of_none (f.lists b') nd
  have nF : ∀ {c}, H c = none → ∀ b' (i : Nat), i < (S b').length → F' b' i ≠ c := fun n b' i hi => by
    obtain ⟨r, _, h⟩ := f.row hi
    exact ne_of_none h n
  have f1 := f'.swap b hj hc (nF nc) nRc (Same.free g.same nc)
  have len : ∀ b', (upS S b ((S b).set j q) b').length = (S b').length := fun b' => by
    by_cases h : b' = b
    · subst h
      rw [upS_at, List.length_set]
    · rw [upS_ne S h]
  have f2 := f1.swap b (j := k) (q := r) (c := d) (by rw [len]; exact hk) ((upd_ne (nRd b).symm).trans hd) (fun b' i hi => by
    rw [len] at hi
    by_cases h : b' = b ∧ i = j
    · rw [if_pos h]
      exact ncd
    · rw [if_neg h]
      exact nF nd b' i hi) nRd (Same.free g.same nd)
  have e1 := f1.lists b
  rw [upd_same] at e1
  injection e1 with e1
  injection e1 with e1
  rw [← e1, upS_at] at f2
  have e2 : upS (upS S b ((S b).set j q)) b (((S b).set j q).set k r) = upS S b (((S b).set j q).set k r) := by
    funext b'
    by_cases h : b' = b
    · subst h
      rw [upS_at, upS_at]
    · rw [upS_ne _ h, upS_ne _ h, upS_ne _ h]
  rw [e2] at f2
  exact ⟨Same.mut (Same.mut (Same.trans g.same s) (f.newR b)) (f.newR b), _, f2⟩
end
/-! ### the told rule, in plain -/
def lastD (D : List (List Nat)) (s : Nat) : Nat := (D.getD s []).getLastD 0
theorem getD_some {l : List (List Nat)} {i : Nat} {v : List Nat} (h : l[i]? = some v) : l.getD i [] = v := by
  rw [List.getD_eq_getElem?_getD, h]
  rfl
def fitB (P : List (List Nat)) (D : List (List Nat)) (x : Nat) (lot : List Nat) : List Nat := lot.filter fun s => isA P x (lastD D s)
def takenB (P : List (List Nat)) (D : List (List Nat)) (x : Nat) : Nat → List (List Nat) → Nat × Option Nat
  | n, [] => (n, none)
  | n, lot :: r => match (fitB P D x lot).min? with
    | some s => (n, some s)
    | none => if lot.length ≤ n then (n, none) else takenB P D x (n + 1) r
structure OkG (m : Nat) (L D : List (List Nat)) : Prop where
  slots : ∀ lot ∈ L, ∀ s ∈ lot, s < D.length
  few : ∀ (j : Nat) lot, L[j]? = some lot → lot.length ≤ j + 1
  full : ∀ d ∈ D, d ≠ []
  kinds : ∀ d ∈ D, ∀ k ∈ d, k < m
  wl : L.length ≤ m
  wd : D.length ≤ m
  rows : ∀ d ∈ D, d.length ≤ m
theorem min_mem {l : List Nat} {s : Nat} (h : l.min? = some s) : s ∈ l := (List.min?_eq_some_iff.mp h).1
theorem taken_at (P D : List (List Nat)) (x : Nat) : ∀ (L : List (List Nat)) (n : Nat), n ≤ (takenB P D x n L).1 ∧ (takenB P D x n L).1 ≤ n + L.length ∧
    (∀ s, (takenB P D x n L).2 = some s → ∃ lot, L[(takenB P D x n L).1 - n]? = some lot ∧ s ∈ lot) ∧
    ((takenB P D x n L).2 = none → (takenB P D x n L).1 < n + L.length → ∃ lot, L[(takenB P D x n L).1 - n]? = some lot ∧ lot.length ≤ (takenB P D x n L).1)
  | [], n => by
    refine ⟨Nat.le_refl _, Nat.le_refl _, fun s h => ?_, fun _ h => ?_⟩
    · cases h
    · exact absurd h (Nat.lt_irrefl _)
  | lot :: r, n => by
    cases e : (fitB P D x lot).min? with
    | some s =>
      have et : takenB P D x n (lot :: r) = (n, some s) := by unfold takenB; rw [e]
      rw [et]
      refine ⟨Nat.le_refl _, Nat.le_add_right _ _, fun s' h => ?_, fun h => ?_⟩
      · refine ⟨lot, by rw [Nat.sub_self]; rfl, ?_⟩
        rw [← Option.some.inj h]
        exact (List.mem_filter.mp (min_mem e)).1
      · cases h
    | none =>
      by_cases z : lot.length ≤ n
      · have et : takenB P D x n (lot :: r) = (n, none) := by unfold takenB; rw [e]; exact if_pos z
        rw [et]
        refine ⟨Nat.le_refl _, Nat.le_add_right _ _, fun s' h => ?_, fun _ _ => ?_⟩
        · cases h
        · exact ⟨lot, by rw [Nat.sub_self]; rfl, z⟩
      · have et : takenB P D x n (lot :: r) = takenB P D x (n + 1) r := by
          show (match (fitB P D x lot).min? with | some s => (n, some s) | none => if lot.length ≤ n then (n, none) else takenB P D x (n + 1) r) = _
          rw [e]
          exact if_neg z
        rw [et]
        obtain ⟨h1, h2, h3, h4⟩ := taken_at P D x r (n + 1)
        have sh : ∀ m, n + 1 ≤ m → (lot :: r)[m - n]? = r[m - (n + 1)]? := fun m hm => by
          rw [show m - n = (m - (n + 1)) + 1 by omega]
          rfl
        refine ⟨by omega, by rw [List.length_cons]; omega, fun s h => ?_, fun h hl => ?_⟩
        · rw [sh _ h1]
          exact h3 s h
        · rw [sh _ h1]
          rw [List.length_cons] at hl
          exact h4 h (by omega)
/-- one kind more: groups, kinds of the slots, the slot -/
def putN (P L D : List (List Nat)) (x : Nat) : Nat := (takenB P D x 0 L).1
def putSlot (P L D : List (List Nat)) (x : Nat) : Nat := ((takenB P D x 0 L).2).getD D.length
def putL1 (P L D : List (List Nat)) (x : Nat) : List (List Nat) := if putN P L D x = L.length then L ++ [[]] else L
def putD (P L D : List (List Nat)) (x : Nat) : List (List Nat) :=
  let D1 := if (takenB P D x 0 L).2 = none then D ++ [[]] else D
  D1.set (putSlot P L D x) (D1.getD (putSlot P L D x) [] ++ [x])
def putL (P L D : List (List Nat)) (x : Nat) : List (List Nat) :=
  let n := putN P L D x
  let L1 := putL1 P L D x
  let s := putSlot P L D x
  if n = 0 then L1.set 0 [s] else (L1.set n (L1.getD (n - 1) [] ++ [s])).set (n - 1) ((L1.getD n []).filter fun o => !decide (o = s))
theorem putN_le (P L D : List (List Nat)) (x : Nat) : putN P L D x ≤ L.length := by
  have := (taken_at P D x L 0).2.1
  unfold putN
  omega
theorem putL1_len (P L D : List (List Nat)) (x : Nat) : putN P L D x < (putL1 P L D x).length := by
  have := putN_le P L D x
  unfold putL1
  split
  · rw [List.length_append]
    show _ < L.length + 1
    omega
  · omega
theorem set_mem {l : List (List Nat)} {i : Nat} {v y : List Nat} (h : y ∈ l.set i v) : y ∈ l ∨ y = v := List.mem_or_eq_of_mem_set h
theorem getD_mem {l : List (List Nat)} {i : Nat} (h : i < l.length) : l.getD i [] ∈ l := by
  rw [List.getD_eq_getElem?_getD, List.getElem?_eq_getElem h]
  exact List.getElem_mem h
theorem slot_lt {m : Nat} {P L D : List (List Nat)} {x : Nat} (o : OkG m L D) : (takenB P D x 0 L).2 = none ∧ putSlot P L D x = D.length ∨ (∃ s lot, (takenB P D x 0 L).2 = some s ∧ putSlot P L D x = s ∧ s < D.length ∧ L[putN P L D x]? = some lot ∧ s ∈ lot) := by
  cases e : (takenB P D x 0 L).2 with
  | none => exact .inl ⟨rfl, by unfold putSlot; rw [e]; rfl⟩
  | some s =>
    obtain ⟨lot, h1, h2⟩ := (taken_at P D x L 0).2.2.1 s e
    rw [Nat.sub_zero] at h1
    exact .inr ⟨s, lot, rfl, by unfold putSlot; rw [e]; rfl, o.slots lot (List.mem_of_getElem? h1) s h2, h1, h2⟩
theorem putD_len {m : Nat} {P L D : List (List Nat)} {x : Nat} (o : OkG m L D) : D.length ≤ (putD P L D x).length ∧ putSlot P L D x < (putD P L D x).length := by
  unfold putD
  rcases slot_lt (P := P) (x := x) o with ⟨e, h⟩ | ⟨s, lot, e, h, hs, _⟩
  · rw [if_pos e, List.length_set, List.length_append]
    show D.length ≤ D.length + 1 ∧ _ < D.length + 1
    omega
  · rw [if_neg (by rw [e]; intro z; cases z), List.length_set]
    omega
theorem OkG.put {P L D : List (List Nat)} {x : Nat} (o : OkG x L D) : OkG (x + 1) (putL P L D x) (putD P L D x) := by
  obtain ⟨dl, sl⟩ := putD_len (P := P) (x := x) o
  have L1s : ∀ lot ∈ putL1 P L D x, ∀ s ∈ lot, s < D.length := fun lot h s hs => by
    unfold putL1 at h
    split at h
    · rcases List.mem_append.mp h with h | h
      · exact o.slots lot h s hs
      · rw [List.mem_singleton.mp h] at hs
        cases hs
    · exact o.slots lot h s hs
  have L1f : ∀ (j : Nat) lot, (putL1 P L D x)[j]? = some lot → lot.length ≤ j + 1 := fun j lot h => by
    unfold putL1 at h
    split at h
    · by_cases hj : j < L.length
      · rw [List.getElem?_append_left hj] at h
        exact o.few j lot h
      · rw [List.getElem?_append_right (by omega)] at h
        have := List.mem_of_getElem? h
        rw [List.mem_singleton.mp this]
        exact Nat.zero_le _
    · exact o.few j lot h
  have nl := putL1_len P L D x
  have getf : ∀ j, j < (putL1 P L D x).length → ((putL1 P L D x).getD j []).length ≤ j + 1 := fun j hj => by
    rw [getD_some (List.getElem?_eq_getElem hj)]
    exact L1f j _ (List.getElem?_eq_getElem hj)
  have gets : ∀ j, j < (putL1 P L D x).length → ∀ s ∈ (putL1 P L D x).getD j [], s < D.length := fun j hj s hs => L1s _ (getD_mem hj) s hs
  have left : (((putL1 P L D x).getD (putN P L D x) []).filter (fun o => !decide (o = putSlot P L D x))).length ≤ putN P L D x := by
    rcases slot_lt (P := P) (x := x) o with ⟨e, h⟩ | ⟨s, lot, e, h, hs, h1, h2⟩
    · refine Nat.le_trans (List.length_filter_le _ _) ?_
      by_cases z : putN P L D x = L.length
      · unfold putL1
        rw [if_pos z, z, List.getD_eq_getElem?_getD, List.getElem?_append_right (Nat.le_refl _), Nat.sub_self]
        exact Nat.zero_le _
      · obtain ⟨lot, h3, h4⟩ := (taken_at P D x L 0).2.2.2 e (by have := putN_le P L D x; unfold putN at z this; omega)
        rw [Nat.sub_zero] at h3
        unfold putL1
        rw [if_neg z, getD_some (show L[putN P L D x]? = some lot from h3)]
        exact h4
    · have el : (putL1 P L D x).getD (putN P L D x) [] = lot := by
        have hl := (List.getElem?_eq_some_iff.mp h1).1
        unfold putL1
        rw [if_neg (by omega)]
        exact getD_some h1
      rw [el, h]
      have f1 := o.few _ lot h1
      have : (lot.filter fun o => !decide (o = s)).length < lot.length := by
        refine List.length_filter_lt_length_iff_exists.mpr ⟨s, h2, ?_⟩
        simp
      omega
  refine ⟨?_, ?_, ?_, ?_, ?_, ?_, ?_⟩
  · intro lot h s hs
    unfold putL at h
    simp only at h
    split at h
    · rcases set_mem h with h | h
      · have := L1s lot h s hs
        omega
      · rw [h] at hs
        rw [List.mem_singleton.mp hs]
        exact sl
    · rename_i hn
      rcases set_mem h with h | h
      · rcases set_mem h with h | h
        · have := L1s lot h s hs
          omega
        · rw [h] at hs
          rcases List.mem_append.mp hs with hs | hs
          · have := gets (putN P L D x - 1) (by omega) s hs
            omega
          · rw [List.mem_singleton.mp hs]
            exact sl
      · rw [h] at hs
        have := gets (putN P L D x) nl s (List.mem_filter.mp hs).1
        omega
  · intro j lot h
    unfold putL at h
    simp only at h
    split at h
    · rename_i hn
      rw [List.getElem?_set] at h
      split at h
      · split at h
        · rw [← Option.some.inj h]
          show 1 ≤ j + 1
          omega
        · cases h
      · exact L1f j lot h
    · rename_i hn
      rw [List.getElem?_set] at h
      split at h
      · rename_i e
        split at h
        · rw [← Option.some.inj h]
          omega
        · cases h
      · rw [List.getElem?_set] at h
        split at h
        · rename_i e
          rw [← Option.some.inj h, List.length_append, List.length_singleton]
          have := getf (putN P L D x - 1) (by omega)
          omega
        · exact L1f j lot h
  · intro d h
    unfold putD at h
    simp only at h
    rcases slot_lt (P := P) (x := x) o with ⟨e, hs⟩ | ⟨s, lot, e, hs, hlt, _⟩
    · rw [if_pos e] at h
      rcases List.mem_iff_getElem?.mp h with ⟨i, hi⟩
      rw [List.getElem?_set] at hi
      split at hi
      · split at hi
        · rw [← Option.some.inj hi]
          simp
        · cases hi
      · rename_i ne
        by_cases hl : i < D.length
        · rw [List.getElem?_append_left hl] at hi
          exact o.full d (List.mem_of_getElem? hi)
        · rw [List.getElem?_append_right (by omega)] at hi
          have l := (List.getElem?_eq_some_iff.mp hi).1
          rw [List.length_singleton] at l
          omega
    · rw [if_neg (by rw [e]; intro z; cases z)] at h
      rcases set_mem h with h | h
      · exact o.full d h
      · rw [h]
        simp
  · intro d h k hk
    unfold putD at h
    simp only at h
    have key : ∀ D1 : List (List Nat), (∀ d ∈ D1, ∀ k ∈ d, k < x) → d ∈ D1.set (putSlot P L D x) (D1.getD (putSlot P L D x) [] ++ [x]) → k < x + 1 := fun D1 h1 h => by
      rcases set_mem h with h | h
      · have := h1 d h k hk
        omega
      · rw [h] at hk
        rcases List.mem_append.mp hk with hk | hk
        · by_cases hl : putSlot P L D x < D1.length
          · have := h1 _ (getD_mem hl) k hk
            omega
          · rw [List.getD_eq_getElem?_getD, List.getElem?_eq_none (by omega)] at hk
            cases hk
        · rw [List.mem_singleton.mp hk]
          omega
    split at h
    · refine key _ (fun d hd => ?_) h
      rcases List.mem_append.mp hd with hd | hd
      · exact o.kinds d hd
      · rw [List.mem_singleton.mp hd]
        intro k hk
        cases hk
    · exact key _ o.kinds h
  · have l1 : (putL1 P L D x).length ≤ L.length + 1 := by
      unfold putL1
      split
      · rw [List.length_append]
        exact Nat.le_refl _
      · omega
    have := o.wl
    unfold putL
    simp only
    split
    · rw [List.length_set]
      omega
    · rw [List.length_set, List.length_set]
      omega
  · have := o.wd
    unfold putD
    simp only
    rw [List.length_set]
    split
    · rw [List.length_append]
      show D.length + 1 ≤ x + 1
      omega
    · omega
  · intro d h
    unfold putD at h
    simp only at h
    have key : ∀ D1 : List (List Nat), (∀ d ∈ D1, d.length ≤ x) → d ∈ D1.set (putSlot P L D x) (D1.getD (putSlot P L D x) [] ++ [x]) → d.length ≤ x + 1 := fun D1 h1 h => by
      rcases set_mem h with h | h
      · have := h1 d h
        omega
      · rw [h, List.length_append, List.length_singleton]
        by_cases hl : putSlot P L D x < D1.length
        · have := h1 _ (getD_mem hl)
          omega
        · rw [List.getD_eq_getElem?_getD, List.getElem?_eq_none (by omega)]
          exact Nat.succ_le_succ (Nat.zero_le _)
    split at h
    · refine key _ (fun d hd => ?_) h
      rcases List.mem_append.mp hd with hd | hd
      · exact o.rows d hd
      · rw [List.mem_singleton.mp hd]
        exact Nat.zero_le _
    · exact key _ o.rows h
theorem putL1_few {m : Nat} {P L D : List (List Nat)} {x : Nat} (o : OkG m L D) : ∀ lot ∈ putL1 P L D x, lot.length ≤ m + 1 := fun lot h => by
  have key : ∀ lot ∈ L, lot.length ≤ m + 1 := fun lot h => by
    obtain ⟨j, hj⟩ := List.mem_iff_getElem?.mp h
    have := o.few j lot hj
    have := (List.getElem?_eq_some_iff.mp hj).1
    have := o.wl
    omega
  unfold putL1 at h
  split at h
  · rcases List.mem_append.mp h with h | h
    · exact key lot h
    · rw [List.mem_singleton.mp h]
      exact Nat.zero_le _
  · exact key lot h
theorem putD1_rows {m : Nat} {P L D : List (List Nat)} {x : Nat} (o : OkG m L D) : ∀ d ∈ (if (takenB P D x 0 L).2 = none then D ++ [[]] else D), d.length ≤ m := fun d h => by
  split at h
  · rcases List.mem_append.mp h with h | h
    · exact o.rows d h
    · rw [List.mem_singleton.mp h]
      exact Nat.zero_le _
  · exact o.rows d h
def putD1 (P L D : List (List Nat)) (x : Nat) : List (List Nat) := if (takenB P D x 0 L).2 = none then D ++ [[]] else D
def putL2 (P L D : List (List Nat)) (x : Nat) : List (List Nat) := if (takenB P D x 0 L).2 = none then (putL1 P L D x).set (putN P L D x) ((putL1 P L D x).getD (putN P L D x) [] ++ [putSlot P L D x]) else putL1 P L D x
theorem putL2_len (P L D : List (List Nat)) (x : Nat) : (putL2 P L D x).length = (putL1 P L D x).length := by
  unfold putL2
  split
  · rw [List.length_set]
  · rfl
theorem putD_eq (P L D : List (List Nat)) (x : Nat) : (putD1 P L D x).set (putSlot P L D x) ((putD1 P L D x).getD (putSlot P L D x) [] ++ [x]) = putD P L D x := rfl
theorem slot_lt1 {m : Nat} {P L D : List (List Nat)} {x : Nat} (o : OkG m L D) : putSlot P L D x < (putD1 P L D x).length := by
  unfold putD1
  rcases slot_lt (P := P) (x := x) o with ⟨e, h⟩ | ⟨s, lot, e, h, hs, _⟩
  · rw [if_pos e, List.length_append]
    show _ < D.length + 1
    omega
  · rw [if_neg (by rw [e]; intro z; cases z)]
    omega
theorem set_same {l : List (List Nat)} {i : Nat} {v : List Nat} (h : l[i]? = some v) : l.set i v = l := by
  refine List.ext_getElem? fun j => ?_
  rw [List.getElem?_set]
  split
  · rename_i e
    rw [← e, h, if_pos (List.getElem?_eq_some_iff.mp h).1]
  · rfl
theorem put0 {m : Nat} {P L D : List (List Nat)} {x : Nat} (o : OkG m L D) (hn : putN P L D x = 0) : putL2 P L D x = putL P L D x := by
  have nl := putL1_len P L D x
  unfold putL
  simp only
  rw [if_pos hn]
  rcases slot_lt (P := P) (x := x) o with ⟨e, h⟩ | ⟨s, lot, e, h, hs, h1, h2⟩
  · unfold putL2
    rw [if_pos e, hn]
    have z : (putL1 P L D x).getD 0 [] = [] := by
      unfold putL1
      by_cases c : putN P L D x = L.length
      · rw [if_pos c]
        have : L = [] := List.length_eq_zero_iff.mp (by omega)
        rw [this]
        rfl
      · rw [if_neg c]
        have le := putN_le P L D x
        obtain ⟨lot, h3, h4⟩ := (taken_at P D x L 0).2.2.2 e (by unfold putN at c le; omega)
        rw [Nat.sub_zero] at h3
        have hn' : (takenB P D x 0 L).1 = 0 := hn
        rw [hn'] at h3 h4
        rw [getD_some h3]
        exact List.length_eq_zero_iff.mp (by omega)
    rw [z]
    rfl
  · unfold putL2
    rw [if_neg (by rw [e]; intro z; cases z), h]
    have hl := (List.getElem?_eq_some_iff.mp h1).1
    rw [hn] at h1
    have el : lot = [s] := by
      have := o.few 0 lot h1
      cases lot with
      | nil => cases h2
      | cons a r =>
        cases r with
        | nil => rw [List.mem_singleton.mp h2]
        | cons b r => simp at this
    have e1 : (putL1 P L D x)[0]? = some [s] := by
      unfold putL1
      rw [if_neg (by omega), h1, el]
    exact (set_same e1).symm
theorem putP {m : Nat} {P L D : List (List Nat)} {x : Nat} (o : OkG m L D) (hn : putN P L D x ≠ 0) : ((putL2 P L D x).set (putN P L D x) ((putL2 P L D x).getD (putN P L D x - 1) [] ++ [putSlot P L D x])).set (putN P L D x - 1) (((putL2 P L D x).getD (putN P L D x) []).filter fun o => !decide (o = putSlot P L D x)) = putL P L D x := by
  have nl := putL1_len P L D x
  unfold putL
  simp only
  rw [if_neg hn]
  unfold putL2
  split
  · have e1 : ((putL1 P L D x).set (putN P L D x) ((putL1 P L D x).getD (putN P L D x) [] ++ [putSlot P L D x])).getD (putN P L D x - 1) [] = (putL1 P L D x).getD (putN P L D x - 1) [] := by
      rw [List.getD_eq_getElem?_getD, List.getElem?_set, if_neg (by omega), ← List.getD_eq_getElem?_getD]
    have e2 : ((putL1 P L D x).set (putN P L D x) ((putL1 P L D x).getD (putN P L D x) [] ++ [putSlot P L D x])).getD (putN P L D x) [] = (putL1 P L D x).getD (putN P L D x) [] ++ [putSlot P L D x] := by
      rw [List.getD_eq_getElem?_getD, List.getElem?_set, if_pos rfl, if_pos nl]
      rfl
    rw [e1, e2, List.set_set, List.filter_append]
    have e3 : [putSlot P L D x].filter (fun o => !decide (o = putSlot P L D x)) = [] := by simp
    rw [e3, List.append_nil]
  · rfl
theorem putL2_few {m : Nat} {P L D : List (List Nat)} {x : Nat} (o : OkG m L D) : ∀ lot ∈ putL2 P L D x, lot.length ≤ m + 2 := fun lot h => by
  unfold putL2 at h
  split at h
  · rcases set_mem h with h | h
    · have := putL1_few o lot h
      omega
    · rw [h, List.length_append, List.length_singleton]
      have := putL1_few o _ (getD_mem (putL1_len P L D x))
      omega
  · have := putL1_few o lot h
    omega
def grF (l h : Addr) : List (Str × V) := putF "held" (.ref h) (putF "lots" (.ref l) [])
theorem hl_ne : ¬ (("held" : Str) = "lots") := by decide +kernel
theorem lh_ne : ¬ (("lots" : Str) = "held") := by decide +kernel
theorem grF_lots (l h : Addr) : (grF l h).lookup ("lots" : Str) = some (.ref l) := by
  unfold grF
  rw [lookup_putF, if_neg lh_ne, lookup_putF, if_pos rfl]
theorem grF_held (l h : Addr) : (grF l h).lookup ("held" : Str) = some (.ref h) := by
  unfold grF
  rw [lookup_putF, if_pos rfl]
theorem grF_no (l h : Addr) {m : Str} (h1 : ¬ m = "held") (h2 : ¬ m = "lots") : (grF l h).lookup m = none := by
  unfold grF
  rw [lookup_putF, if_neg h1, lookup_putF, if_neg h2]
  all_goals rfl
def RR (l h : Addr) : Bool → Addr := fun b => if b = true then h else l
local macro_rules | `(tactic| tm_at "fld") => `(tactic| refine ⟨_, _, _, _, _, rfl, by tm_at "hp", by assumption, by assumption, by first | exact grF_lots _ _ | exact grF_held _ _ | exact bkF_bits _ _ | exact bkF_parents _ _ | fail "fld", ?_⟩)
def sp_Groups___init__ (CG : Addr) (K : PySem.W.Frag) : Sp := fun vs H Q _ => ∃ (g dx : Addr), vs = [.ref g] ∧ H g = some (.ins CG dx []) ∧ ∀ l h H', But g H H' → H l = none → H h = none → l ≠ h → H' g = some (.ins CG dx (grF l h)) → H' l = some (.lst []) → H' h = some (.lst []) → Q .non H'
theorem sc_Groups___init__ : FnScope ["self"] ["self"] (defScope s_Groups___init__) := ⟨rfl, rfl, rfl, by decide +kernel, rfl, by decide +kernel, by decide +kernel⟩
theorem ok_Groups___init__ (T : Top P K mg) : FnOk P w K mg base CX0 1 T.f_Groups___init__ T.fd_Groups___init__ ["self"] (sp_Groups___init__ T.C_Groups K) := by
  refine T.F_Groups___init__.ok sc_Groups___init__ (fun vs H Q E h => ?_) (fun cdv A outer s H vs Q E hr h => ?_)
  · obtain ⟨g, dx, rfl, _⟩ := h
    rfl
  · obtain ⟨g, dx, rfl, hg, k⟩ := h
    refine ⟨_, (pss_cons (ps_fld (pv 0) (pe_lst pa_nil) rfl)
      (pss_one (ps_fld (pv 0) (pe_lst pa_nil) rfl))), ?_⟩
    have cB := T.cl_Groups
    have nB1 := T.n_Groups_lots
    have nB2 := T.n_Groups_held
    tm_at "w"
    intro l nl
    refine ⟨_, rfl, g, T.C_Groups, dx, [], rfl, (upd_ne (ne_of_none hg nl)).trans hg, cB, nB1, by decide, ?_⟩
    tm_at "w"
    intro h nh0
    have hgh : g ≠ h := ne_of_none upd_same nh0
    have hlg : l ≠ g := (ne_of_none hg nl).symm
    have hlh : l ≠ h := ne_of_none ((upd_ne hlg).trans upd_same) nh0
    have nh : H h = none := by
      rw [upd_ne hgh.symm, upd_ne hlh.symm] at nh0
      exact nh0
    refine ⟨_, rfl, g, T.C_Groups, dx, _, rfl, (upd_ne hgh).trans upd_same, cB, nB2, by show 1 < 1000; decide, ?_⟩
    tm_at "w"
    refine k l h _ (fun a o n e => ?_) nl nh hlh upd_same ?_ ?_
    · exact (upd_ne n).trans ((upd_ne (ne_of_none e nh)).trans ((upd_ne n).trans ((upd_ne (ne_of_none e nl)).trans e)))
    · exact (upd_ne hlg).trans ((upd_ne hlh).trans ((upd_ne hlg).trans upd_same))
    · exact (upd_ne hgh.symm).trans upd_same
/-! Groups.fitting -/
def optN : Option Nat → V
  | none => .non
  | some n => .int (n : Int)
theorem at_neg1 {q : List Nat} (h : q ≠ []) : atI (natsV q) (-1) = some (.int ((q.getLastD 0 : Nat) : Int)) := by
  have hl : 0 < q.length := List.length_pos_iff.mpr h
  unfold atI
  have e : ixN (natsV q).length (-1) = some (q.length - 1) := by
    rw [natsV_len]
    unfold ixN
    rw [if_neg (by decide), if_pos (by omega)]
    congr 1
    omega
  rw [e]
  refine natsV_at ?_
  rw [List.getElem?_eq_getElem (by omega), ← List.getLast_eq_getElem h, List.getLastD_eq_getLast?, List.getLast?_eq_getLast h]
  rfl
theorem filter_list (q : List Nat) (c : Nat → Bool) : (List.range (natsV q).length).filterMap (fun i => q[i]?.bind fun s => if c s = true then some (V.int (s : Int)) else none) = natsV (q.filter c) := by
  rw [natsV_len]
  have h1 : (List.range q.length).filterMap (fun i => q[i]?.bind fun s => if c s = true then some (V.int (s : Int)) else none) = q.filterMap fun s => if c s = true then some (V.int (s : Int)) else none := by
    have key : ∀ n, n ≤ q.length → (List.range n).filterMap (fun i => q[i]?.bind fun s => if c s = true then some (V.int (s : Int)) else none) = (q.take n).filterMap fun s => if c s = true then some (V.int (s : Int)) else none := by
      intro n
      induction n with
      | zero => intro _; rfl
      | succ n ih =>
        intro h
        rw [filterMap_range_succ, ih (by omega), List.take_add_one, List.filterMap_append]
        rw [List.getElem?_eq_getElem (show n < q.length by omega)]
        congr 1
    rw [key _ (Nat.le_refl _), List.take_length]
  rw [h1]
  induction q with
  | nil => rfl
  | cons p r ih =>
    have ih2 : r.filterMap (fun s => if c s = true then some (V.int (s : Int)) else none) = natsV (r.filter c) := by
      clear ih h1
      induction r with
      | nil => rfl
      | cons p r ih =>
        rw [List.filterMap_cons, List.filter_cons]
        cases e : c p with
        | true => rw [if_pos rfl, if_pos rfl]; show _ :: _ = V.int (p : Int) :: natsV (r.filter c); rw [ih]
        | false => simp only [Bool.false_eq_true, if_false]; exact ih
    rw [List.filterMap_cons, List.filter_cons]
    cases e : c p with
    | true => rw [if_pos rfl, if_pos rfl]; show _ :: _ = V.int (p : Int) :: natsV (r.filter c); rw [ih2]
    | false => simp only [Bool.false_eq_true, if_false]; exact ih2
/-- the least of some numbers, as min tells it -/
theorem min_is {q : List Nat} {m : Int} (h1 : m ∈ q.map (fun z : Nat => (z : Int))) (h2 : ∀ y ∈ q.map (fun z : Nat => (z : Int)), m ≤ y) : ∃ s, q.min? = some s ∧ m = (s : Int) := by
  obtain ⟨s, hs, rfl⟩ := List.mem_map.mp h1
  refine ⟨s, List.min?_eq_some_iff.mpr ⟨hs, fun b hb => ?_⟩, rfl⟩
  have := h2 (b : Int) (List.mem_map.mpr ⟨b, hb, rfl⟩)
  omega
def sp_Groups_fitting (C : Addr) (CG : Addr) (K : PySem.W.Frag) : Sp := fun vs H Q _ => ∃ (g l h la x dx : Nat) (b : Bk) (P : List (List Nat)) (H0 : Hp) (S : Bool → List (List Nat)) (lot : List Nat), vs = [.ref g, .ref b.b, .ref la, .int x] ∧ H g = some (.ins CG dx (grF l h)) ∧ BookAt C H b P ∧ x < P.length ∧ G H0 H (RR l h) S ∧
  H la = some (.lst (natsV lot)) ∧ lot.length ≤ 100000 ∧ (∀ s ∈ lot, s < (S true).length) ∧ (∀ d ∈ S true, d ≠ []) ∧ ∀ H', Same H H' → Q (optN (fitB P (S true) x lot).min?) H'
theorem sc_Groups_fitting : FnScope ["self", "book", "lot", "x", "some", "slot"] ["self", "book", "lot", "x"] (defScope s_Groups_fitting) := ⟨rfl, rfl, rfl, by decide +kernel, rfl, by decide +kernel, by decide +kernel⟩
theorem ok_Groups_fitting (T : Top P K mg) : FnOk P w K mg base CX0 2 T.f_Groups_fitting T.fd_Groups_fitting ["self", "book", "lot", "x"] (sp_Groups_fitting T.C_Book T.C_Groups K) := by
  have G_is_one := ok_is_one (P := P) (w := w) (base := base) T
  refine T.F_Groups_fitting.ok sc_Groups_fitting (fun vs H Q E h => ?_) (fun cdv A outer s H vs Q E hr h => ?_)
  · obtain ⟨g, l, h, la, x, dx, b, P, H0, S, lot, rfl, _⟩ := h
    rfl
  · obtain ⟨g, l, h, la, x, dx, b, P, H0, S, lot, rfl, hg, hb, hx, hG, hla, hlen, hs, hf, k⟩ := h
    refine ⟨_, (pss_cons (ps_setLc (i := 4) (own := [("slot", 5)]) (g := gName 5) rfl sc_Groups_fitting.nd rfl rfl (sw_true rfl rfl rfl (by decide +kernel)) (pi_list (pv 2)) (blkOk_by (own := [("slot", 5)]) (N := ["self", "book", "lot", "x", "some", "slot"]) (sc := defScope s_Groups_fitting) (by decide +kernel)) (fun _ _ _ _ _ => (pg_name (i := 5) sc_Groups_fitting.nd rfl (Or.inl rfl))) (fun _ _ _ _ _ => (pts_one (pt_val (pe_call G_is_one hr (by rfl) T.g_is_one T.F_is_one.kp T.b_is_one .nil pass0 (pa_cons (pv 1) (pa_cons (pv 3) (pa_cons (pe_ix (r := rIxL K) ix_list (pe_ix (r := rIxL K) ix_list (pe_fldK (K := K) rfl (pv 0) rfl) (pv 5) (fun _ _ => rfl)) (pe_un un_neg pe_int) (fun _ _ => rfl)) pa_nil))))))) (fun _ _ _ _ _ => (pv 5)))
      (pss_one (ps_ret (pe_ifExp (pt_cmpR op_gt (pe_callB (r := rLenQ K) (id := "len") call_len_seq (by rfl) T.z_len (by decide +kernel) (pa_cons (pv 4) pa_nil)) pe_int (nomark _)) (pe_callB (id := "min") (cr_min rfl) (by rfl) T.z_min (by decide +kernel) (pa_cons (pv 4) pa_nil)) pe_non)))), ?_⟩
    have cG := T.cl_Groups
    have nG1 := T.n_Groups_lots
    have nG2 := T.n_Groups_held
    tm_at "w"
    refine ⟨⟨_, SqL.of hla⟩, fun D nD => lc_listF (fun i => lot[i]?.bind fun s => if isA P x (lastD (S true) s) = true then some (V.int (s : Int)) else none) hla nD (by rw [natsV_len]; exact hlen) ?_ ?_⟩
    · intro i y H1 N M hy s1 kN kM
      obtain ⟨s, hs2, rfl, _⟩ := natsV_here hy
      have hsl := hs s (List.mem_of_getElem? hs2)
      obtain ⟨xs, h1, h2, h3⟩ := (hG.later s1).at true
      obtain ⟨a, e1, e2⟩ := h3 s _ (List.getElem?_eq_getElem hsl)
      have hg1 := s1 _ _ hg
      have h1 : H1 h = some (.lst xs) := h1
      have el : lastD (S true) s = ((S true)[s]).getLastD 0 := by
        unfold lastD
        rw [getD_some (List.getElem?_eq_getElem hsl)]
      tm_at "w"
      refine ⟨_, _, _, _, rfl, rfl, SqL.of e2, at_neg1 (hf _ (List.getElem_mem hsl)), ?_⟩
      tm_at "w"
      refine ⟨b, P, x, _, rfl, hb.same s1, hx, ?_⟩
      rw [← el]
      refine ⟨_, rfl, ?_⟩
      refine iteB (fun e => ?_) (fun e => ?_)
      · tm_at "w"
        exact kN _ _ (by rw [hs2]; show (if isA P x (lastD (S true) s) = true then _ else _) = _; rw [if_pos e]) (Same.refl H1)
      · exact kM _ (by rw [hs2]; show (if isA P x (lastD (S true) s) = true then _ else _) = _; rw [e, if_neg (by decide)]) (Same.refl H1)
    · intro H1 s1 hD
      rw [filter_list] at hD
      have hD : H1 D = some (.lst (natsV (fitB P (S true) x lot))) := hD
      tm_at "w"
      rw [natsV_len]
      refine iteD (fun z => ?_) (fun z => ?_)
      · tm_at "w"
        refine ⟨D, (fitB P (S true) x lot).map fun z : Nat => (z : Int), rfl, SqL.of (by rw [List.map_map]; exact hD), by rw [List.length_map]; omega, fun m hm1 hm2 => ?_⟩
        obtain ⟨s, e1, rfl⟩ := min_is hm1 hm2
        have := k H1 s1
        rw [e1] at this
        exact this
      · have e : fitB P (S true) x lot = [] := List.length_eq_zero_iff.mp (by omega)
        have := k H1 s1
        rw [e] at this
        tm_at "w"
        exact this
/-! Groups.taken -/
def sp_Groups_taken (C : Addr) (CG : Addr) (K : PySem.W.Frag) : Sp := fun vs H Q _ => ∃ (g l h x dx : Nat) (b : Bk) (P : List (List Nat)) (H0 : Hp) (S : Bool → List (List Nat)), vs = [.ref g, .ref b.b, .int x] ∧ H g = some (.ins CG dx (grF l h)) ∧ BookAt C H b P ∧ x < P.length ∧ P.length ≤ 400 ∧ G H0 H (RR l h) S ∧ OkG x (S false) (S true) ∧
  ∀ t H', Same H H' → H' t = some (.tup [.int ((takenB P (S true) x 0 (S false)).1 : Nat), optN (takenB P (S true) x 0 (S false)).2]) → Q (.ref t) H'
theorem sc_Groups_taken : FnScope ["self", "book", "x", "number", "lot", "slot"] ["self", "book", "x"] (defScope s_Groups_taken) := ⟨rfl, rfl, rfl, by decide +kernel, rfl, by decide +kernel, by decide +kernel⟩
theorem ok_Groups_taken (T : Top P K mg) : FnOk P w K mg base CX0 3 T.f_Groups_taken T.fd_Groups_taken ["self", "book", "x"] (sp_Groups_taken T.C_Book T.C_Groups K) := by
  have G_Groups_fitting := ok_Groups_fitting (P := P) (w := w) (base := base) T
  refine T.F_Groups_taken.ok sc_Groups_taken (fun vs H Q E h => ?_) (fun cdv A outer s H vs Q E hr h => ?_)
  · obtain ⟨g, l, h, x, dx, b, P, H0, S, rfl, _⟩ := h
    rfl
  · obtain ⟨g, l, h, x, dx, b, P, H0, S, rfl, hg, hb, hx, h400, hG, hok, k⟩ := h
    refine ⟨_, (pss_cons (ps_for PassesOwn.never rfl (pi_enum (by rfl) T.z_enumerate (pa_cons (pe_fld (pv 0) rfl) pa_nil)) (pg_tup rfl (pgs_cons (pg_name (i := 3) sc_Groups_taken.nd rfl (Or.inl rfl)) (pgs_cons (pg_name (i := 4) sc_Groups_taken.nd rfl (Or.inl rfl)) pgs_nil)))
      (pss_cons (ps_set (i := 5) sc_Groups_taken.nd rfl (Or.inl rfl) (pe_meth (pv 0) T.cl_Groups T.m_Groups_fitting G_Groups_fitting hr T.b_Groups_fitting .nil pass0 (pa_cons (pv 1) (pa_cons (pv 4) (pa_cons (pv 2) pa_nil)))))
      (pss_one (ps_if (PW.pt (pw_or (pt_cmpR op_notN (pv 5) pe_non (nomark _)) (pw_or1 (pt_cmpR op_le (pe_callB (r := rLenQ K) (id := "len") call_len_seq (by rfl) T.z_len (by decide +kernel) (pa_cons (pv 4) pa_nil)) (pv 3) (nomark _))))) (pss_one (ps_ret (pe_tup (pa_cons (pv 3) (pa_cons (pv 5) pa_nil))))) pss_nil))))
      (pss_one (ps_ret (pe_tup (pa_cons (pe_callB (r := rLenQ K) (id := "len") call_len_seq (by rfl) T.z_len (by decide +kernel) (pa_cons (pe_fld (pv 0) rfl) pa_nil)) (pa_cons pe_non pa_nil)))))), ?_⟩
    have cG := T.cl_Groups
    have nG1 := T.n_Groups_lots
    have nG2 := T.n_Groups_held
    obtain ⟨xs, h1, h2, h3⟩ := hG.at false
    have wl := hok.wl
    have h1 : H l = some (.lst xs) := h1
    tm_at "w"
    refine ⟨_, _, rfl, SqL.of h1, for_enumL (K := K) (a := l) (xs := xs) (fun i σ H' => ∃ u v w, σ = [some (.ref g), some (.ref b.b), some (.int (x : Int)), u, v, w] ∧ Same H H' ∧ takenB P (S true) x 0 (S false) = takenB P (S true) x i ((S false).drop i)) ?_ ?_ ?_ ?_⟩
    · exact ⟨none, none, none, rfl, Same.refl H, rfl⟩
    · rintro i σ H' ⟨_, _, _, rfl, s1, _⟩
      exact SqL.of (s1 _ _ h1)
    · rintro i y t σ H' hy ⟨u, v, w, rfl, s1, he⟩ nt
      have il : i < (S false).length := by
        have := (List.getElem?_eq_some_iff.mp hy).1
        omega
      obtain ⟨la, e1, e2⟩ := h3 i _ (List.getElem?_eq_getElem il)
      have ey : y = .ref la := by
        rw [hy] at e1
        exact Option.some.inj e1
      subst ey
      have s2 : Same H (upd H' t (.tup [V.int (i : Int), V.ref la])) := Same.new s1 nt
      have hd : (S false).drop i = (S false)[i] :: (S false).drop (i + 1) := List.drop_eq_getElem_cons il
      have hg2 := s2 _ _ hg
      have hla := s2 _ _ e2
      have lm : (S false)[i] ∈ S false := List.getElem_mem il
      have lf := hok.few i _ (List.getElem?_eq_getElem il)
      tm_at "w"
      refine ⟨g, dx, _, rfl, hg2, grF_no _ _ (by decide +kernel) (by decide +kernel), ?_⟩
      tm_at "w"
      refine ⟨g, l, h, la, x, dx, b, P, H0, S, _, rfl, hg2, hb.same s2, hx, hG.later s2, hla, by omega, hok.slots _ lm, hok.full, fun H3 s3 => ?_⟩
      have s4 := Same.trans s2 s3
      have hla3 := s3 _ _ hla
      rw [hd] at he
      cases hm : (fitB P (S true) x ((S false)[i])).min? with
      | some s =>
        have et : takenB P (S true) x i ((S false)[i] :: (S false).drop (i + 1)) = (i, some s) := by unfold takenB; rw [hm]
        rw [et] at he
        rw [he] at k
        tm_at "w"
        intro t2 nt2
        exact k t2 _ (Same.new s4 nt2) upd_same
      | none =>
        have et : takenB P (S true) x i ((S false)[i] :: (S false).drop (i + 1)) = if ((S false)[i]).length ≤ i then (i, none) else takenB P (S true) x (i + 1) ((S false).drop (i + 1)) := by
          show (match (fitB P (S true) x ((S false)[i])).min? with | some s => (i, some s) | none => _) = _
          rw [hm]
        rw [et] at he
        tm_at "w"
        rw [natsV_len]
        refine iteD (fun z => ?_) (fun z => ?_)
        · rw [if_pos (by omega)] at he
          rw [he] at k
          tm_at "w"
          intro t2 nt2
          exact k t2 _ (Same.new s4 nt2) upd_same
        · rw [if_neg (by omega)] at he
          exact ⟨_, _, _, rfl, s4, he⟩
    · rintro σ H' ⟨u, v, w, rfl, s1, he⟩
      rw [h2, List.drop_length] at he
      rw [he] at k
      have hg2 := s1 _ _ hg
      have h12 := s1 _ _ h1
      tm_at "w"
      intro t nt
      exact k t _ (Same.new s1 nt) (by rw [upd_same, h2]; rfl)
/-! Groups.put -/
local macro_rules | `(tactic| tm_at "fld") => `(tactic| refine ⟨_, _, _, _, _, rfl, by tm_at "hp", by assumption, by assumption, by first | exact grF_lots _ _ | exact grF_held _ _ | exact bkF_bits _ _ | exact bkF_parents _ _ | fail "fld", ?_⟩)
def st (L D : List (List Nat)) : Bool → List (List Nat) := fun b => if b = true then D else L
theorem st_of (S : Bool → List (List Nat)) : S = st (S false) (S true) := by funext b; cases b <;> rfl
theorem up_f (L D L' : List (List Nat)) : upS (st L D) false L' = st L' D := by funext b; cases b <;> rfl
theorem up_t (L D D' : List (List Nat)) : upS (st L D) true D' = st L D' := by funext b; cases b <;> rfl
def putS (P : List (List Nat)) (S : Bool → List (List Nat)) (x : Nat) : Bool → List (List Nat) := fun b => if b = true then putD P (S false) (S true) x else putL P (S false) (S true) x
def sp_Groups_put (C : Addr) (CG : Addr) (K : PySem.W.Frag) : Sp := fun vs H Q _ => ∃ (g l h x dx : Nat) (b : Bk) (P : List (List Nat)) (H0 : Hp) (S : Bool → List (List Nat)), vs = [.ref g, .ref b.b, .int x] ∧ H0 g = some (.ins CG dx (grF l h)) ∧ BookAt C H0 b P ∧ x < P.length ∧ P.length ≤ 400 ∧ G H0 H (RR l h) S ∧ OkG x (S false) (S true) ∧
  ∀ H', G H0 H' (RR l h) (putS P S x) → Q (.int (putSlot P (S false) (S true) x : Nat)) H'
theorem sc_Groups_put : FnScope ["self", "book", "x", "number", "slot", "less", "one"] ["self", "book", "x"] (defScope s_Groups_put) := ⟨rfl, rfl, rfl, by decide +kernel, rfl, by decide +kernel, by decide +kernel⟩
theorem ok_Groups_put (T : Top P K mg) : FnOk P w K mg base CX0 4 T.f_Groups_put T.fd_Groups_put ["self", "book", "x"] (sp_Groups_put T.C_Book T.C_Groups K) := by
  have G_Groups_taken := ok_Groups_taken (P := P) (w := w) (base := base) T
  refine T.F_Groups_put.ok sc_Groups_put (fun vs H Q E h => ?_) (fun cdv A outer s H vs Q E hr h => ?_)
  · obtain ⟨g, l, h, x, dx, b, P, H0, S, rfl, _⟩ := h
    rfl
  · obtain ⟨g, l, h, x, dx, b, P, H0, S, rfl, hg0, hb0, hx, h400, hG, hok, k⟩ := h
    refine ⟨_, (pss_cons (ps_asg (pe_meth (pv 0) T.cl_Groups T.m_Groups_taken G_Groups_taken hr T.b_Groups_taken .nil pass0 (pa_cons (pv 1) (pa_cons (pv 2) pa_nil))) (pg_tup rfl (pgs_cons (pg_name (i := 3) sc_Groups_put.nd rfl (Or.inl rfl)) (pgs_cons (pg_name (i := 4) sc_Groups_put.nd rfl (Or.inr rfl)) pgs_nil))))
      (C8.pss_cut (ps_if (pt_cmpR op_eq (pv 3) (pe_callB (r := rLenQ K) (id := "len") call_len_seq (by rfl) T.z_len (by decide +kernel) (pa_cons (pe_fld (pv 0) rfl) pa_nil)) (nomark _)) (pss_one (ps_expr (pe_bm PySem.F.plainAttrs_list PySem.F.slot_list_append PySem.F.type_list_append mt_append (pe_fld (pv 0) rfl) (pa_cons (pe_lst pa_nil) pa_nil)))) pss_nil)
      (C8.pss_cut (ps_if (pt_cmpR op_isN (pv 4) pe_non (nomark _)) (pss_cons (ps_set (i := 4) sc_Groups_put.nd rfl (Or.inr rfl) (pe_callB (r := rLenQ K) (id := "len") call_len_seq (by rfl) T.z_len (by decide +kernel) (pa_cons (pe_fld (pv 0) rfl) pa_nil)))
      (pss_cons (ps_expr (pe_bm PySem.F.plainAttrs_list PySem.F.slot_list_append PySem.F.type_list_append mt_append (pe_fld (pv 0) rfl) (pa_cons (pe_lst pa_nil) pa_nil)))
      (pss_one (ps_expr (pe_bm PySem.F.plainAttrs_list PySem.F.slot_list_append PySem.F.type_list_append mt_append (pe_ix (r := rIxL K) ix_list (pe_fld (pv 0) rfl) (pv 3) (fun _ _ => rfl)) (pa_cons (pv 4) pa_nil)))))) pss_nil)
      (pss_cons (ps_expr (pe_bm PySem.F.plainAttrs_list PySem.F.slot_list_append PySem.F.type_list_append mt_append (pe_ix (r := rIxL K) ix_list (pe_fld (pv 0) rfl) (pv 4) (fun _ _ => rfl)) (pa_cons (pv 2) pa_nil)))
      (C8.pss_cut (ps_if (pt_cmpR op_gt (pv 3) pe_int (nomark _)) (pss_cons (ps_setLc (i := 5) (own := [("one", 6)]) (g := gName 6) rfl sc_Groups_put.nd rfl rfl (sw_true rfl rfl rfl (by decide +kernel)) (pi_list (pe_ix (r := rIxL K) ix_list (pe_fld (pv 0) rfl) (pv 3) (fun _ _ => rfl))) (blkOk_by (own := [("one", 6)]) (N := ["self", "book", "x", "number", "slot", "less", "one"]) (sc := defScope s_Groups_put) (by decide +kernel)) (fun _ _ _ _ _ => (pg_name (i := 6) sc_Groups_put.nd rfl (Or.inl rfl))) (fun _ _ _ _ _ => (pts_one (pt_cmpR op_ne (pv 6) (pv 4) (nomark _)))) (fun _ _ _ _ _ => (pv 6)))
      (pss_cons (ps_asg (pe_op op_cat (pe_ix (r := rIxL K) ix_list (pe_fld (pv 0) rfl) (pe_op op_sub (pv 3) pe_int) (fun _ _ => rfl)) (pe_lst (pa_cons (pv 4) pa_nil))) (pg_sub (pe_fld (pv 0) rfl) (pv 3) set_list))
      (pss_one (ps_asg (pv 5) (pg_sub (pe_fld (pv 0) rfl) (pe_op op_sub (pv 3) pe_int) set_list))))) pss_nil)
      (pss_one (ps_ret (pv 4)))))))), ?_⟩
    have cG := T.cl_Groups
    have nG1 := T.n_Groups_lots
    have nG2 := T.n_Groups_held
    have hg := hG.same _ _ hg0
    tm_at "w"
    refine ⟨g, dx, _, rfl, hg, grF_no _ _ (by decide +kernel) (by decide +kernel), ?_⟩
    tm_at "w"
    refine ⟨g, l, h, x, dx, b, P, H0, S, rfl, hg, hb0.same hG.same, hx, h400, hG, hok, fun t H1 s1 ht => ?_⟩
    have hG1 := hG.later s1
    have hg1 := s1 _ _ hg
    rw [st_of S] at hG1
    obtain ⟨xs, h1, h2, h3⟩ := hG1.at false
    have h1 : H1 l = some (.lst xs) := h1
    have h2 : xs.length = (S false).length := h2
    have nle := putN_le P (S false) (S true) x
    have n1 := putL1_len P (S false) (S true) x
    have wl := hok.wl
    tm_at "w"
    refine ⟨fun σ H' => σ = [some (.ref g), some (.ref b.b), some (.int (x : Int)), some (.int (putN P (S false) (S true) x : Nat)), some (optN (takenB P (S true) x 0 (S false)).2), none, none] ∧ G H0 H' (RR l h) (st (putL1 P (S false) (S true) x) (S true)), ?_, ?_⟩
    · tm_at "w"
      refine iteI (fun z => ?_) (fun z => ?_)
      · tm_at "w"
        intro e ne
        have h4 : upd H1 e (.lst []) l = some (.lst xs) := (upd_ne (ne_of_none h1 ne)).trans h1
        tm_at "w"
        have g1 := hG1.grow false ne h1
        rw [up_f] at g1
        have e1 : putL1 P (S false) (S true) x = S false ++ [[]] := if_pos (by show (takenB P (S true) x 0 (S false)).1 = _; omega)
        rw [e1]
        exact g1
      · have e1 : putL1 P (S false) (S true) x = S false := if_neg (by show ¬ (takenB P (S true) x 0 (S false)).1 = _; omega)
        refine ⟨rfl, ?_⟩
        rw [e1]
        exact hG1
    · rintro σ H2 ⟨rfl, hG2⟩
      have hg2 := hG2.same _ _ hg0
      tm_at "w"
      refine ⟨fun σ H' => σ = [some (.ref g), some (.ref b.b), some (.int (x : Int)), some (.int (putN P (S false) (S true) x : Nat)), some (.int (putSlot P (S false) (S true) x : Nat)), none, none] ∧ G H0 H' (RR l h) (st (putL2 P (S false) (S true) x) (putD1 P (S false) (S true) x)), ?_, ?_⟩
      · rcases slot_lt (P := P) (x := x) hok with ⟨e, hs⟩ | ⟨s, lot, e, hs, hsl, _⟩
        · rw [e]
          obtain ⟨ys, k1, k2, k3⟩ := hG2.at true
          have k1 : H2 h = some (.lst ys) := k1
          have k2 : ys.length = (S true).length := k2
          have wd := hok.wd
          tm_at "w"
          intro e2 ne2
          have k4 : upd H2 e2 (.lst []) h = some (.lst ys) := (upd_ne (ne_of_none k1 ne2)).trans k1
          have hg3 : upd H2 e2 (.lst []) g = some (.ins T.C_Groups dx (grF l h)) := (upd_ne (ne_of_none hg2 ne2)).trans hg2
          have g3 := hG2.grow true ne2 k1
          rw [up_t] at g3
          tm_at "w"
          obtain ⟨zs, z1, z2, z3⟩ := g3.at false
          have z1 : upd (upd H2 e2 (.lst [])) h (.lst (ys ++ [.ref e2])) l = some (.lst zs) := z1
          obtain ⟨ra, y1, y2⟩ := z3 (putN P (S false) (S true) x) _ (List.getElem?_eq_getElem n1)
          have hg4 := g3.same _ _ hg0
          have hfew := putL1_few (P := P) (x := x) hok _ (List.getElem_mem n1)
          tm_at "w"
          refine ⟨ra, _, _, rfl, rfl, y2, lt_line (by rw [natsV_len]; omega), ?_⟩
          have g4 := g3.push false (q' := (putL1 P (S false) (S true) x)[putN P (S false) (S true) x] ++ [ys.length]) (List.getElem?_eq_getElem n1) z1 y1
          rw [up_f, ← natsV_snoc] at g4
          refine ⟨by rw [hs, ← k2]; rfl, ?_⟩
          have q1 : putL2 P (S false) (S true) x = (putL1 P (S false) (S true) x).set (putN P (S false) (S true) x) ((putL1 P (S false) (S true) x)[putN P (S false) (S true) x] ++ [ys.length]) := by
            unfold putL2
            rw [if_pos e, getD_some (List.getElem?_eq_getElem n1), hs, k2]
          have q2 : putD1 P (S false) (S true) x = S true ++ [[]] := if_pos e
          rw [q1, q2]
          exact g4
        · rw [e]
          tm_at "w"
          refine iteEF (decide_eq_false (by intro z; cases z)) ?_
          refine ⟨by rw [hs]; rfl, ?_⟩
          have q1 : putL2 P (S false) (S true) x = putL1 P (S false) (S true) x := if_neg (by rw [e]; intro z; cases z)
          have q2 : putD1 P (S false) (S true) x = S true := if_neg (by rw [e]; intro z; cases z)
          rw [q1, q2]
          exact hG2
      · rintro σ H3 ⟨rfl, hG3⟩
        have hg3 := hG3.same _ _ hg0
        obtain ⟨ys, k1, k2, k3⟩ := hG3.at true
        have k1 : H3 h = some (.lst ys) := k1
        have sl := slot_lt1 (P := P) (x := x) hok
        obtain ⟨r, e1, e2⟩ := k3 _ _ (List.getElem?_eq_getElem sl)
        have hrl := putD1_rows (P := P) (x := x) hok _ (List.getElem_mem sl)
        tm_at "w"
        refine ⟨r, _, _, rfl, rfl, e2, lt_line (by rw [natsV_len]; omega), ?_⟩
        have g4 := hG3.push true (q' := (putD1 P (S false) (S true) x)[putSlot P (S false) (S true) x] ++ [x]) (List.getElem?_eq_getElem sl) k1 e1
        rw [up_t, ← natsV_snoc] at g4
        have eD : (putD1 P (S false) (S true) x).set (putSlot P (S false) (S true) x) ((putD1 P (S false) (S true) x)[putSlot P (S false) (S true) x] ++ [x]) = putD P (S false) (S true) x := by
          rw [← putD_eq, getD_some (List.getElem?_eq_getElem sl)]
        have g4 : G H0 _ (RR l h) (st (putL2 P (S false) (S true) x) (putD P (S false) (S true) x)) := eD ▸ g4
        have hg4 := g4.same _ _ hg0
        refine ⟨fun σ H' => (∃ u v, σ = [some (.ref g), some (.ref b.b), some (.int (x : Int)), some (.int (putN P (S false) (S true) x : Nat)), some (.int (putSlot P (S false) (S true) x : Nat)), u, v]) ∧ G H0 H' (RR l h) (st (putL P (S false) (S true) x) (putD P (S false) (S true) x)), ?_, ?_⟩
        · tm_at "w"
          refine iteD (fun z => ?_) (fun z => ?_)
          · obtain ⟨zs, z1, z2, z3⟩ := g4.at false
            have n2 := n1
            rw [← putL2_len] at n2
            obtain ⟨ra, y1, y2⟩ := z3 (putN P (S false) (S true) x) _ (List.getElem?_eq_getElem n2)
            obtain ⟨rb, w1, w2⟩ := z3 (putN P (S false) (S true) x - 1) _ (List.getElem?_eq_getElem (by show _ < (putL2 P (S false) (S true) x).length; omega))
            have hf2 := putL2_few (P := P) (x := x) hok _ (List.getElem_mem n2)
            tm_at "w"
            refine ⟨⟨_, SqL.of y2⟩, fun D nD => lc_listF (fun i => ((putL2 P (S false) (S true) x)[putN P (S false) (S true) x])[i]?.bind fun o => if (!decide (o = putSlot P (S false) (S true) x)) = true then some (V.int (o : Int)) else none) y2 nD (by rw [natsV_len]; omega) ?_ ?_⟩
            · intro i y H6 N M hy s6 kN kM
              obtain ⟨o, ho, rfl, _⟩ := natsV_here hy
              tm_at "w"
              rw [dec_nat]
              refine iteB (fun e => ?_) (fun e => ?_)
              · tm_at "w"
                exact kN _ _ (by rw [ho]; show (if (!decide (o = putSlot P (S false) (S true) x)) = true then _ else _) = _; rw [if_pos e]) (Same.refl H6)
              · exact kM _ (by rw [ho]; show (if (!decide (o = putSlot P (S false) (S true) x)) = true then _ else _) = _; rw [e, if_neg (by decide)]) (Same.refl H6)
            · intro H6 s6 hD
              rw [filter_list] at hD
              have hg6 := s6 _ _ hg4
              have z16 : H6 l = some (.lst zs) := s6 _ _ z1
              have hzl : zs.length = (putL2 P (S false) (S true) x).length := z2
              have w26 := s6 _ _ w2
              tm_at "w"
              refine ⟨_, _, _, _, rfl, rfl, SqL.of z16, at_of (j := putN P (S false) (S true) x - 1) (by omega) w1, ?_⟩
              tm_at "w"
              intro p np
              have s7 := Same.new (o := .lst [V.int (putSlot P (S false) (S true) x : Nat)]) (Same.refl H6) np
              have hfb := putL2_few (P := P) (x := x) hok _ (List.getElem_mem (show putN P (S false) (S true) x - 1 < (putL2 P (S false) (S true) x).length by omega))
              refine ⟨_, _, _, _, rfl, rfl, s7 _ _ w26, upd_same, by rw [natsV_len]; have := lt_line (n := 1000) (by decide); show (putL2 P (S false) (S true) x)[putN P (S false) (S true) x - 1].length + 1 ≤ _; omega, fun p2 np2 => ?_⟩
              have s8 : Same H6 (upd (upd H6 p (.lst [V.int (putSlot P (S false) (S true) x : Nat)])) p2 (.lst (natsV (putL2 P (S false) (S true) x)[putN P (S false) (S true) x - 1] ++ [V.int (putSlot P (S false) (S true) x : Nat)]))) := Same.new s7 np2
              have hg8 := s8 _ _ hg6
              have z18 := s8 _ _ z16
              have hgl : g ≠ l := fun e => by rw [e, z18] at hg8; cases hg8
              tm_at "w"
              refine ⟨l, zs, _, putN P (S false) (S true) x, rfl, rfl, z18, ixn_nat (by omega), ?_⟩
              have hg9 := (upd_ne (o := HO.lst (zs.set (putN P (S false) (S true) x) (.ref p2))) hgl).trans hg8
              tm_at "w"
              refine ⟨l, _, _, putN P (S false) (S true) x - 1, rfl, rfl, upd_same, ?_, ?_⟩
              · rw [show ((putN P (S false) (S true) x : Nat) : Int) - 1 = ((putN P (S false) (S true) x - 1 : Nat) : Int) by omega]
                exact ixn_nat (by rw [List.length_set]; omega)
              refine ⟨⟨_, _, rfl⟩, ?_⟩
              have gb := g4.both (Same.trans s6 s8) false (j := putN P (S false) (S true) x) (k := putN P (S false) (S true) x - 1) (q := (putL2 P (S false) (S true) x)[putN P (S false) (S true) x - 1] ++ [putSlot P (S false) (S true) x])
                (r := ((putL2 P (S false) (S true) x)[putN P (S false) (S true) x]).filter fun o => !decide (o = putSlot P (S false) (S true) x)) (c := p2) (d := D) (xs := zs)
                (Same.free (Same.trans s6 s7) np2) nD (ne_of_none (s7 _ _ hD) np2).symm n2 (by show _ < (putL2 P (S false) (S true) x).length; omega) (by omega) (by rw [upd_same, natsV_snoc]) (s8 _ _ hD) z18
              rw [up_f] at gb
              have eP := putP (P := P) (x := x) hok (show putN P (S false) (S true) x ≠ 0 by omega)
              rw [getD_some (List.getElem?_eq_getElem n2), getD_some (List.getElem?_eq_getElem (show putN P (S false) (S true) x - 1 < (putL2 P (S false) (S true) x).length by omega))] at eP
              rw [← eP]
              exact gb
          · refine ⟨⟨_, _, rfl⟩, ?_⟩
            rw [← put0 hok (by omega)]
            exact g4
        · rintro σ H5 ⟨⟨u, v, rfl⟩, hG5⟩
          tm_at "w"
          exact k H5 hG5
/-! entries_of -/
def entB (P : List (List Nat)) (D : List (List Nat)) (x : Nat) : List Nat := D.map fun row => (row.filter fun k => isA P x k).length
def sp_entries_of (C : Addr) (K : PySem.W.Frag) : Sp := fun vs H Q _ => ∃ (l h x : Nat) (b : Bk) (P : List (List Nat)) (H0 : Hp) (S : Bool → List (List Nat)), vs = [.ref b.b, .ref h, .int x] ∧ BookAt C H b P ∧ x < P.length ∧ G H0 H (RR l h) S ∧ (S true).length ≤ 400 ∧ (∀ d ∈ S true, d.length ≤ 400) ∧
  ∀ t H', Same H H' → H' t = some (.tup (natsV (entB P (S true) x))) → Q (.ref t) H'
theorem sc_entries_of : FnScope ["book", "held", "x", "row", "kind"] ["book", "held", "x"] (defScope s_entries_of) := ⟨rfl, rfl, rfl, by decide +kernel, rfl, by decide +kernel, by decide +kernel⟩
theorem ok_entries_of (T : Top P K mg) : FnOk P w K mg base CX0 2 T.f_entries_of T.fd_entries_of ["book", "held", "x"] (sp_entries_of T.C_Book K) := by
  have G_is_one := ok_is_one (P := P) (w := w) (base := base) T
  refine T.F_entries_of.ok sc_entries_of (fun vs H Q E h => ?_) (fun cdv A outer s H vs Q E hr h => ?_)
  · obtain ⟨l, h, x, b, P, H0, S, rfl, _⟩ := h
    rfl
  · obtain ⟨l, h, x, b, P, H0, S, rfl, hb, hx, hG, h400, hd4, k⟩ := h
    refine ⟨_, (pss_one (ps_ret (pe_callTy (r := rTupQ K) (T := "tuple") call_tuple_of (by rfl) T.z_tuple (by decide +kernel) (pa_cons (pe_lc (own := [("row", 3)]) (g := gName 3) (tt := tYes) rfl sc_entries_of.nd (pi_list (pv 1)) (blkOk_by (own := [("row", 3)]) (N := ["book", "held", "x", "row", "kind"]) (sc := defScope s_entries_of) (by decide +kernel)) (fun _ _ _ _ _ => (pg_name (i := 3) sc_entries_of.nd rfl (Or.inl rfl))) (fun _ _ _ _ _ => pts_nil) (fun _ _ _ _ _ => (pe_callB (r := rLenQ K) (id := "len") call_len_seq (by rfl) T.z_len (by decide +kernel) (pa_cons (by exact (pe_lc (own := [("kind", 4)]) (g := gName 4) rfl sc_entries_of.nd (pi_listK (K := K) rfl (pv 3)) (blk_in (own := [("kind", 4)]) (N := ["book", "held", "x", "row", "kind"]) (sc1 := defScope s_entries_of) rfl rfl (by decide +kernel)) (fun _ _ _ _ _ => (pg_name (i := 4) sc_entries_of.nd rfl (Or.inl rfl))) (fun _ _ _ _ _ => (pts_one (pt_val (pe_call G_is_one hr (by rfl) T.g_is_one T.F_is_one.kp T.b_is_one .nil pass0 (pa_cons (pv 0) (pa_cons (pv 2) (pa_cons (pv 4) pa_nil))))))) (fun _ _ _ _ _ => (pv 4)))) pa_nil)))) pa_nil)))), ?_⟩
    obtain ⟨xs, h1, h2, h3⟩ := hG.at true
    have h1 : H h = some (.lst xs) := h1
    have h2 : xs.length = (S true).length := h2
    tm_at "w"
    refine ⟨⟨_, SqL.of h1⟩, fun D nD => lc_listF (fun i => (S true)[i]?.map fun row => V.int (((row.filter fun k => isA P x k).length : Nat) : Int)) h1 nD (by omega) ?_ ?_⟩
    · intro i y H1 N M hy s1 kN kM
      have il : i < (S true).length := by
        have := (List.getElem?_eq_some_iff.mp hy).1
        omega
      obtain ⟨a, e1, e2⟩ := h3 i _ (List.getElem?_eq_getElem il)
      have ey : y = .ref a := by
        rw [hy] at e1
        exact Option.some.inj e1
      subst ey
      have e21 := s1 _ _ e2
      have dl := hd4 _ (List.getElem_mem il)
      tm_at "w"
      refine ⟨⟨_, SqL.of e21⟩, fun D2 nD2 => lc_listF (fun j => ((S true)[i])[j]?.bind fun k => if isA P x k = true then some (V.int (k : Int)) else none) e21 nD2 (by rw [natsV_len]; omega) ?_ ?_⟩
      · intro j z H2 N2 M2 hz s2 kN2 kM2
        obtain ⟨kd, hkd, rfl, _⟩ := natsV_here hz
        have hb2 := (hb.same s1).same s2
        tm_at "w"
        refine ⟨b, P, x, kd, rfl, hb2, hx, ?_⟩
        refine ⟨_, rfl, ?_⟩
        refine iteB (fun e => ?_) (fun e => ?_)
        · tm_at "w"
          exact kN2 _ _ (by rw [hkd]; show (if isA P x kd = true then _ else _) = _; rw [if_pos e]) (Same.refl H2)
        · exact kM2 _ (by rw [hkd]; show (if isA P x kd = true then _ else _) = _; rw [e, if_neg (by decide)]) (Same.refl H2)
      · intro H2 s2 hD2
        rw [filter_list] at hD2
        tm_at "w"
        rw [natsV_len]
        exact kN _ _ (by rw [List.getElem?_eq_getElem il]; rfl) s2
    · intro H1 s1 hD
      rw [h2, range_items] at hD
      tm_at "w"
      intro t nt
      refine k t _ (Same.new s1 nt) ?_
      rw [upd_same]
      unfold entB natsV
      rw [List.map_map]
      rfl
/-! _law_flow -/
def sp__law_flow (K : PySem.W.Frag) : Sp := fun vs H Q _ => ∃ (a : Addr) (ns : List Int), vs = [.ref a] ∧ SqL K H a (ns.map V.int) ∧ ns.length ≤ 63 ∧ ∀ φ H', Same H H' → Flow φ H' → Q (.ref φ.t) H'
theorem sc__law_flow : FnScope ["_law_script"] ["_law_script"] (defScope s__law_flow) := ⟨rfl, rfl, rfl, by decide +kernel, rfl, by decide +kernel, by decide +kernel⟩
theorem ok__law_flow (T : Top P K mg) : FnOk P w K mg base CX0 1 T.f__law_flow T.fd__law_flow ["_law_script"] (sp__law_flow K) := by
  refine T.F__law_flow.ok sc__law_flow (fun vs H Q E h => ?_) (fun cdv A outer s H vs Q E hr h => ?_)
  · obtain ⟨a, ns, rfl, _⟩ := h
    rfl
  · obtain ⟨a, ns, rfl, hS, hn, k⟩ := h
    refine ⟨_, (pss_one (ps_ret (pe_lst (pa_cons (pe_callTy (r := rListQ K) (T := "list") call_list_of (by rfl) T.z_list (by decide +kernel) (pa_cons (pv 0) pa_nil)) (pa_cons pe_int (pa_cons pe_int (pa_cons pe_int pa_nil))))))), ?_⟩
    refine ⟨_, rfl, a, _, rfl, .inl hS, fun l nl => ?_⟩
    tm_at "w"
    intro t nt
    have s1 : Same H (upd H l (.lst (ns.map V.int))) := Same.new (Same.refl H) nl
    have hl : (upd H l (.lst (ns.map V.int))) l = some (.lst (ns.map V.int)) := upd_same
    exact k ⟨t, l⟩ _ (Same.new s1 nt) ⟨ne_of_none hl nt, ⟨ns, upd_at (ne_of_none hl nt) hl, hn⟩, 0, 12345, 0, upd_same, Int.le_refl _⟩
/-! _law_draw -/
theorem seq0 (r : Nat) : seqIndex? 0 (r + 1) = some 0 := by
  unfold seqIndex?
  simp
def sp__law_draw (K : PySem.W.Frag) : Sp := fun vs H Q _ => ∃ (φ : Fw) (m : Int), vs = [.ref φ.t, .int m] ∧ Flow φ H ∧ 0 < m ∧ m < 1073741824 ∧ ∀ (r : Int) (H' : Hp), Fv φ H H' → 0 ≤ r → r < m → Q (.int r) H'
theorem sc__law_draw : FnScope ["_law_flow_here", "_law_many", "_law_number", "_law_cell", "_law_drawn"] ["_law_flow_here", "_law_many"] (defScope s__law_draw) := ⟨rfl, rfl, rfl, by decide +kernel, rfl, by decide +kernel, by decide +kernel⟩
theorem ok__law_draw (T : Top P K mg) : FnOk P w K mg base CX0 1 T.f__law_draw T.fd__law_draw ["_law_flow_here", "_law_many"] (sp__law_draw K) := by
  refine T.F__law_draw.ok sc__law_draw (fun vs H Q E h => ?_) (fun cdv A outer s H vs Q E hr h => ?_)
  · obtain ⟨φ, m, rfl, _⟩ := h
    rfl
  · obtain ⟨φ, m, rfl, m0, hm, hm2, k⟩ := h
    refine ⟨_, (C8.pss_cut (ps_if (PW.pt (pw_and (pt_cmpR op_eq (pe_ix (r := rIxL K) ix_list (pv 0) pe_int (fun _ _ => rfl)) pe_int (nomark _)) (pw_and1 (pt_cmpR op_gt (pe_callB (r := rLenQ K) (id := "len") call_len_seq (by rfl) T.z_len (by decide +kernel) (pa_cons (pe_ix (r := rIxL K) ix_list (pv 0) pe_int (fun _ _ => rfl)) pa_nil)) pe_int (nomark _))))) (pss_cons (ps_set (i := 3) sc__law_draw.nd rfl (Or.inl rfl) (pe_callB (id := "abs") call_abs (by rfl) T.z_abs (by decide +kernel) (pa_cons (pe_callTy (T := "int") call_int1 (by rfl) T.z_int (by decide +kernel) (pa_cons (pe_bm PySem.F.plainAttrs_list PySem.F.slot_list_pop PySem.F.type_list_pop mt_popAt (pe_ix (r := rIxL K) ix_list (pv 0) pe_int (fun _ _ => rfl)) (pa_cons pe_int pa_nil)) pa_nil)) pa_nil)))
      (pss_cons (ps_asg (pe_op op_modN (pe_op op_add (pe_callTy (T := "int") call_int1 (by rfl) T.z_int (by decide +kernel) (pa_cons (pe_ix (r := rIxL K) ix_list (pv 0) pe_int (fun _ _ => rfl)) pa_nil)) (pv 3)) pe_int) (pg_sub (pv 0) pe_int set_list))
      (pss_one (ps_if (pt_cmpR op_ge (pv 3) (pe_op op_pow pe_int pe_int) (nomark _)) (pss_one (ps_asg (pv 3) (pg_sub (pv 0) pe_int set_list))) pss_nil)))) pss_nil)
      (pss_cons (ps_if (pt_cmpR op_gt (pe_ix (r := rIxL K) ix_list (pv 0) pe_int (fun _ _ => rfl)) pe_int (nomark _)) (pss_cons (ps_set (i := 4) sc__law_draw.nd rfl (Or.inl rfl) (pe_op op_modN (pe_callTy (T := "int") call_int1 (by rfl) T.z_int (by decide +kernel) (pa_cons (pe_ix (r := rIxL K) ix_list (pv 0) pe_int (fun _ _ => rfl)) pa_nil)) (pv 1)))
      (pss_cons (ps_asg (pe_op op_fdivN (pe_callTy (T := "int") call_int1 (by rfl) T.z_int (by decide +kernel) (pa_cons (pe_ix (r := rIxL K) ix_list (pv 0) pe_int (fun _ _ => rfl)) pa_nil)) (pv 1)) (pg_sub (pv 0) pe_int set_list))
      (pss_one (ps_ret (pv 4))))) pss_nil)
      (pss_cons (ps_asg (pe_op op_add (pe_ix (r := rIxL K) ix_list (pv 0) pe_int (fun _ _ => rfl)) pe_int) (pg_sub (pv 0) pe_int set_list))
      (pss_cons (ps_set (i := 2) sc__law_draw.nd rfl (Or.inl rfl) (pe_op op_modN (pe_op op_add (pe_op op_add (pe_op op_mul (pe_callTy (T := "int") call_int1 (by rfl) T.z_int (by decide +kernel) (pa_cons (pe_ix (r := rIxL K) ix_list (pv 0) pe_int (fun _ _ => rfl)) pa_nil)) pe_int) (pe_op op_mul pe_int (pe_callTy (T := "int") call_int1 (by rfl) T.z_int (by decide +kernel) (pa_cons (pe_ix (r := rIxL K) ix_list (pv 0) pe_int (fun _ _ => rfl)) pa_nil)))) pe_int) pe_int))
      (pss_cons (ps_set (i := 2) sc__law_draw.nd rfl (Or.inl rfl) (pe_op op_modN (pe_op op_mul (pv 2) (pe_op op_add (pe_op op_fdivN (pv 2) pe_int) pe_int)) pe_int))
      (pss_cons (ps_set (i := 2) sc__law_draw.nd rfl (Or.inl rfl) (pe_op op_modN (pe_op op_mul (pv 2) (pe_op op_add (pe_op op_fdivN (pv 2) pe_int) pe_int)) pe_int))
      (pss_cons (ps_asg (pv 2) (pg_sub (pv 0) pe_int set_list))
      (pss_one (ps_ret (pe_op op_modN (pe_op op_fdivN (pv 2) pe_int) (pv 1))))))))))), ?_⟩
    obtain ⟨ne, ⟨ns, hl, hnl⟩, a, b, c, ht, ha⟩ := id m0
    tm_at "w"
    refine ⟨fun σ H' => ∃ (x : Option V), σ = [some (.ref φ.t), some (.int m), none, x, none] ∧ Fv φ H H', ?_, ?_⟩
    · tm_at "w"
      refine iteI (fun hc => ?_) (fun hc => ?_)
      · subst hc
        tm_at "w"
        refine iteD (fun hz => ?_) (fun hz => ?_)
        · obtain ⟨n0, r, rfl⟩ : ∃ n0 r, ns = n0 :: r := by
            cases ns with
            | nil => exact absurd hz (by decide)
            | cons n0 r => exact ⟨n0, r, rfl⟩
          tm_at "w"
          refine ⟨φ.l, _, 0, 0, .int n0, rfl, rfl, hl, by decide, by decide, (by rw [List.length_map]; exact seq0 _), rfl, ?_⟩
          have m1 : Fv φ H (upd H φ.l (.lst (r.map V.int))) := m0.fv.eat (ns := r) (by have : (n0 :: r).length = r.length + 1 := rfl; omega)
          have hl1 : (upd H φ.l (.lst (r.map V.int))) φ.l = some (.lst (r.map V.int)) := upd_same
          have ht1 : (upd H φ.l (.lst (r.map V.int))) φ.t = some (.lst [.ref φ.l, .int 0, .int b, .int c]) := upd_at ne.symm ht
          have ee : ((n0 :: r).map V.int).eraseIdx 0 = r.map V.int := rfl
          rw [ee]
          revert m1 hl1 ht1
          generalize upd H φ.l (.lst (r.map V.int)) = H1
          intro m1 hl1 ht1
          tm_at "w"
          refine iteD (fun hd => ?_) (fun hd => ?_)
          · tm_at "w"
            have h0 : 0 ≤ (if n0 < 0 then -n0 else n0) := by split <;> omega
            exact (m1.put rfl (Int.le_refl 0)).put rfl h0
          · exact ⟨_, rfl, m1.put rfl (Int.le_refl 0)⟩
        · exact ⟨none, rfl, m0.fv⟩
      · exact ⟨none, rfl, m0.fv⟩
    · rintro σ H' ⟨x, rfl, m1⟩
      obtain ⟨ne, ⟨ns, hl, hnl⟩, a, b, c, ht, ha⟩ := m1.now
      tm_at "w"
      refine iteD (fun hc => ?_) (fun hc => ?_)
      · tm_at "w"
        exact k _ _ (m1.put rfl (Int.fdiv_nonneg ha (by omega))) (fmod_in hm).1 (fmod_in hm).2
      · tm_at "w"
        exact k _ _ ((m1.put rfl ha).put rfl ha) (fmod_in hm).1 (fmod_in hm).2
/-! _law_parents -/
theorem inV_nats (k : Nat) (q : List Nat) : inV (.int (k : Int)) (natsV q) = decide (k ∈ q) := by
  have e : natsV q = (q.map fun z : Nat => (z : Int)).map V.int := by unfold natsV; rw [List.map_map]; rfl
  rw [e, inV_int]
  refine decide_eq_decide.mpr ⟨fun h => ?_, fun h => List.mem_map.mpr ⟨k, h, rfl⟩⟩
  obtain ⟨z, hz, ez⟩ := List.mem_map.mp h
  rw [show k = z by omega]
  exact hz
theorem flat_nats (q : List Nat) : (natsV q).all flatV = true := List.all_eq_true.mpr fun v hv => by
  unfold natsV at hv
  obtain ⟨n, _, rfl⟩ := List.mem_map.mp hv
  rfl
theorem new_hide {H X : Hp} {t : Addr} {o : HO} (s : Same H (upd X t o)) : ∃ H9, upd X t o = H9 ∧ Same H H9 ∧ H9 t = some o := ⟨_, rfl, s, upd_same⟩
theorem alloc_hide {H : Hp} {p : Addr} {o : HO} {R : Hp → Prop} (n : H p = none) (k : ∀ J, Same H J → J p = some o → R J) : R (upd H p o) := k _ (Same.new (Same.refl H) n) upd_same
theorem sort_nats {q : List Nat} {ns' : List Int} (hp : ns'.Perm (q.map fun k : Nat => (k : Int))) (hs : ns'.Pairwise (· ≤ ·)) : ∃ q' : List Nat, ns'.map V.int = natsV q' ∧ q'.Perm q ∧ q'.Pairwise (· ≤ ·) := by
  have nn : ∀ z ∈ ns', 0 ≤ z := fun z hz => by
    obtain ⟨k, _, rfl⟩ := List.mem_map.mp (hp.mem_iff.mp hz)
    omega
  refine ⟨ns'.map Int.toNat, ?_, ?_, ?_⟩
  · unfold natsV
    rw [List.map_map]
    refine List.map_congr_left fun z hz => ?_
    show V.int z = V.int ((z.toNat : Nat) : Int)
    rw [Int.toNat_of_nonneg (nn z hz)]
  · have := hp.map Int.toNat
    rw [List.map_map] at this
    have e : (q.map (Int.toNat ∘ fun k : Nat => (k : Int))) = q := by
      rw [show (Int.toNat ∘ fun k : Nat => (k : Int)) = id from by funext k; exact Int.toNat_natCast k, List.map_id]
    rw [e] at this
    exact this
  · rw [List.pairwise_map]
    exact hs.imp fun h => Int.toNat_le_toNat h
theorem asc_of {q : List Nat} (h : q.Pairwise (· ≤ ·)) (n : q.Nodup) : q.Pairwise (· < ·) := by
  refine (h.and n).imp fun ⟨a, b⟩ => ?_
  omega
def sp__law_parents (K : PySem.W.Frag) : Sp := fun vs H Q _ => ∃ (φ : Fw) (n s : Nat), vs = [.ref φ.t, .int n, .int s] ∧ Flow φ H ∧ n ≤ 1000 ∧ s < 4 ∧ ∀ a q H', Fv φ H H' → H' a = some (.tup (natsV q)) → OkL q n → Q (.ref a) H'
theorem sc__law_parents : FnScope ["_law_flow_here", "_law_many", "_law_shape", "_law_span", "_law_low", "_law_wanted", "_law_found", "_law_turn", "_law_parent"] ["_law_flow_here", "_law_many", "_law_shape"] (defScope s__law_parents) := ⟨rfl, rfl, rfl, by decide +kernel, rfl, by decide +kernel, by decide +kernel⟩
theorem ok__law_parents (T : Top P K mg) : FnOk P w K mg base CX0 2 T.f__law_parents T.fd__law_parents ["_law_flow_here", "_law_many", "_law_shape"] (sp__law_parents K) := by
  have G__law_draw := ok__law_draw (P := P) (w := w) (base := base) T
  refine T.F__law_parents.ok sc__law_parents (fun vs H Q E h => ?_) (fun cdv A outer s H vs Q E hr h => ?_)
  · obtain ⟨φ, n, s, rfl, _⟩ := h
    rfl
  · obtain ⟨φ, n, s, rfl, m0, hn, hs, k⟩ := h
    refine ⟨_, (pss_cons (ps_if (pt_cmpR op_eq (pv 1) pe_int (nomark _)) (pss_one (ps_ret (pe_tup pa_nil))) pss_nil)
      (pss_cons (ps_set (i := 3) sc__law_parents.nd rfl (Or.inl rfl) (pe_callB (id := "min") (call_min2 rfl) (by rfl) T.z_min (by decide +kernel) (pa_cons (pv 1) (pa_cons (pe_ix (r := rIxL K) ix_list (pe_lst (pa_cons (pv 1) (pa_cons pe_int (pa_cons (pv 1) (pa_cons pe_int pa_nil))))) (pv 2) (fun _ _ => rfl)) pa_nil))))
      (pss_cons (ps_set (i := 4) sc__law_parents.nd rfl (Or.inl rfl) pe_int)
      (C8.pss_cut (ps_if (pt_cmpR op_eq (pv 2) pe_int (nomark _)) (pss_one (ps_set (i := 4) sc__law_parents.nd rfl (Or.inl rfl) (pe_op op_sub (pv 1) (pv 3)))) pss_nil)
      (pss_cons (ps_set (i := 5) sc__law_parents.nd rfl (Or.inl rfl) (pe_call G__law_draw hr (by rfl) T.g__law_draw T.F__law_draw.kp T.b__law_draw .nil pass0 (pa_cons (pv 0) (pa_cons (pe_ix (r := rIxL K) ix_list (pe_lst (pa_cons pe_int (pa_cons pe_int (pa_cons pe_int (pa_cons pe_int pa_nil))))) (pv 2) (fun _ _ => rfl)) pa_nil))))
      (C8.pss_cut (ps_if (pt_cmpR op_eq (pv 2) pe_int (nomark _)) (pss_one (ps_set (i := 5) sc__law_parents.nd rfl (Or.inl rfl) (pe_op op_add (pv 5) pe_int))) pss_nil)
      (pss_cons (ps_set (i := 6) sc__law_parents.nd rfl (Or.inl rfl) (pe_lst pa_nil))
      (pss_cons (ps_for PassesOwn.never rfl (pi_range1 rfl T.z_range (pa_cons (pv 5) pa_nil)) (pg_name (i := 7) sc__law_parents.nd rfl (Or.inl rfl))
      (pss_cons (ps_set (i := 8) sc__law_parents.nd rfl (Or.inl rfl) (pe_op op_add (pv 4) (pe_call G__law_draw hr (by rfl) T.g__law_draw T.F__law_draw.kp T.b__law_draw .nil pass0 (pa_cons (pv 0) (pa_cons (pv 3) pa_nil)))))
      (pss_one (ps_if (pt_cmpR op_notIn_seq (pv 8) (pv 6) (by rfl)) (pss_one (ps_expr (pe_bm PySem.F.plainAttrs_list PySem.F.slot_list_append PySem.F.type_list_append mt_append (pv 6) (pa_cons (pv 8) pa_nil)))) pss_nil))))
      (pss_one (ps_ret (pe_callTy (r := rTupQ K) (T := "tuple") call_tuple_of (by rfl) T.z_tuple (by decide +kernel) (pa_cons (pe_callB (id := "sorted") cr_sortedI (by rfl) T.z_sorted (by decide +kernel) (pa_cons (pv 6) pa_nil)) pa_nil)))))))))))), ?_⟩
    tm_at "w"
    by_cases z : n = 0
    · refine iteET (by rw [z]; rfl) ?_
      tm_at "w"
      intro p np
      exact k p [] _ (m0.fv.new np) upd_same ⟨List.Pairwise.nil, (fun x hx => by cases hx), by decide⟩
    · refine iteEF (by rw [decide_eq_false (fun e => z (by have := V.int.inj e; omega))]) ?_
      tm_at "w"
      intro p np
      obtain ⟨H1, e1, s1, hp⟩ := new_hide (Same.new (o := .lst [.int n, .int 3, .int n, .int 3]) (Same.refl H) np)
      rw [e1]
      obtain ⟨X, hX, hX2⟩ : ∃ X : Nat, atI ([.int n, .int 3, .int n, .int 3] : List V) (s : Int) = some (.int X) ∧ (X = n ∨ X = 3) := by
        rcases (show s = 0 ∨ s = 1 ∨ s = 2 ∨ s = 3 by omega) with rfl | rfl | rfl | rfl
        · exact ⟨n, rfl, .inl rfl⟩
        · exact ⟨3, rfl, .inr rfl⟩
        · exact ⟨n, rfl, .inl rfl⟩
        · exact ⟨3, rfl, .inr rfl⟩
      tm_at "w"
      refine ⟨_, _, _, _, rfl, rfl, SqL.of hp, hX, ?_⟩
      obtain ⟨sp, hsp, sp0, spn⟩ : ∃ sp : Nat, (if (X : Int) < (n : Int) then (X : Int) else (n : Int)) = (sp : Int) ∧ 0 < sp ∧ sp ≤ n := by
        by_cases c : X < n
        · exact ⟨X, by rw [if_pos (by omega)], by omega, by omega⟩
        · exact ⟨n, by rw [if_neg (by omega)], by omega, by omega⟩
      refine ⟨_, _, rfl, ?_⟩
      rw [hsp]
      tm_at "w"
      refine ⟨fun σ H' => ∃ low : Nat, σ = [some (.ref φ.t), some (.int (n : Int)), some (.int (s : Int)), some (.int (sp : Int)), some (.int (low : Int)), none, none, none, none] ∧ H' = H1 ∧ low + sp ≤ n, ?_, ?_⟩
      · tm_at "w"
        by_cases z1 : s = 1
        · refine iteET (by rw [z1]; rfl) ?_
          tm_at "w"
          exact ⟨n - sp, by rw [Int.ofNat_sub spn]; rfl, rfl, by omega⟩
        · refine iteEF (by rw [decide_eq_false (fun e => z1 (by have := V.int.inj e; omega))]) ?_
          exact ⟨0, rfl, rfl, by omega⟩
      rintro σ H' ⟨low, rfl, rfl, hlow⟩
      tm_at "w"
      intro p2 np2
      obtain ⟨H2, e2, s2, hp2⟩ := new_hide (Same.new (o := .lst [.int 2, .int 2, .int 7, .int 2]) (Same.refl H') np2)
      rw [e2]
      have m2 := m0.fv.same (Same.trans s1 s2)
      obtain ⟨W, hW, hW2⟩ : ∃ W : Nat, atI ([.int 2, .int 2, .int 7, .int 2] : List V) (s : Int) = some (.int W) ∧ (W = 2 ∨ W = 7 ∧ s ≠ 1) := by
        rcases (show s = 0 ∨ s = 1 ∨ s = 2 ∨ s = 3 by omega) with rfl | rfl | rfl | rfl
        · exact ⟨2, rfl, .inl rfl⟩
        · exact ⟨2, rfl, .inl rfl⟩
        · exact ⟨7, rfl, .inr ⟨rfl, by decide⟩⟩
        · exact ⟨2, rfl, .inl rfl⟩
      tm_at "w"
      refine ⟨_, _, _, _, rfl, rfl, SqL.of hp2, hW, ?_⟩
      tm_at "w"
      refine ⟨φ, _, rfl, m2.now, by omega, by omega, fun r H3 m3 r0 r1 => ?_⟩
      obtain ⟨r, rfl⟩ : ∃ k : Nat, r = k := ⟨r.toNat, by omega⟩
      tm_at "w"
      refine ⟨fun σ H' => ∃ w : Nat, σ = [some (.ref φ.t), some (.int (n : Int)), some (.int (s : Int)), some (.int (sp : Int)), some (.int (low : Int)), some (.int (w : Int)), none, none, none] ∧ H' = H3 ∧ w ≤ 6, ?_, ?_⟩
      · tm_at "w"
        by_cases z1 : s = 1
        · refine iteET (by rw [z1]; rfl) ?_
          tm_at "w"
          show r + 1 ≤ 6
          omega
        · refine iteEF (by rw [decide_eq_false (fun e => z1 (by have := V.int.inj e; omega))]) ?_
          exact ⟨r, rfl, rfl, by omega⟩
      rintro σ H4 ⟨w, rfl, rfl, hw⟩
      have m4 := m2.trans m3
      tm_at "w"
      intro F nF
      have m5 := m4.new (o := .lst []) nF
      tm_at "w"
      refine for_range (lo := 0) (n := (w : Int).toNat) (fun i σ H' => ∃ v7 v8, σ = [some (.ref φ.t), some (.int (n : Int)), some (.int (s : Int)), some (.int (sp : Int)), some (.int (low : Int)), some (.int (w : Int)), some (.ref F), v7, v8] ∧ Fv φ H4 H' ∧ ∃ q : List Nat, H' F = some (.lst (natsV q)) ∧ q.Nodup ∧ (∀ x ∈ q, x < n) ∧ q.length ≤ i) ?_ ?_ ?_
      · exact ⟨_, _, rfl, m4.now.fv.new nF, [], upd_same, List.nodup_nil, (fun x hx => by cases hx), Nat.le_refl _⟩
      · rintro i σ H5 hi ⟨v7, v8, rfl, m5, q, hF, hq, hqn, hql⟩
        tm_at "w"
        refine ⟨φ, _, rfl, m5.now, by omega, by omega, fun r2 H6 m6 a0 a1 => ?_⟩
        obtain ⟨r2, rfl⟩ : ∃ k : Nat, r2 = k := ⟨r2.toNat, by omega⟩
        have oF := m4.now.off nF
        have hF6 := m6.keep _ _ oF hF
        refine ⟨_, _, rfl, rfl, ?_⟩
        show gName 8 (V.int (((low + r2 : Nat) : Int))) _ _ _
        tm_at "w"
        refine ⟨flat_nats _, ?_⟩
        show ∃ k, V.bl (!inV (.int ((low + r2 : Nat) : Int)) (natsV q)) = V.bl k ∧ _
        rw [inV_nats]
        refine ⟨_, rfl, ?_⟩
        refine iteB (fun e => ?_) (fun e => ?_)
        · have nq : low + r2 ∉ q := fun h => by rw [decide_eq_true h] at e; cases e
          tm_at "w"
          refine ⟨_, _, _, rfl, rfl, hF6, lt_line (by rw [natsV_len]; omega), ?_⟩
          refine ⟨_, _, rfl, (m5.trans m6).mut nF, q ++ [low + r2], by rw [upd_same, natsV_snoc], List.nodup_append.mpr ⟨hq, List.nodup_cons.mpr ⟨(fun h => by cases h), List.nodup_nil⟩, fun x hx y hy => by rw [List.mem_singleton.mp hy]; intro z; exact nq (z ▸ hx)⟩, fun x hx => ?_, by rw [List.length_append]; exact Nat.succ_le_succ hql⟩
          rcases List.mem_append.mp hx with hx | hx
          · exact hqn x hx
          · rw [List.mem_singleton.mp hx]
            omega
        · exact ⟨_, _, rfl, m5.trans m6, q, hF6, hq, hqn, by omega⟩
      · rintro σ H5 ⟨v7, v8, rfl, m5, q, hF, hq, hqn, hql⟩
        tm_at "w"
        have hF' : H5 F = some (.lst ((q.map fun k : Nat => (k : Int)).map V.int)) := by rw [hF, List.map_map]; rfl
        refine ⟨F, _, rfl, SqL.of hF', fun ns' pl hp hs npl => ?_⟩
        obtain ⟨q', e', hp', hs'⟩ := sort_nats hp hs
        rw [e']
        obtain ⟨H6, e6, s6, hpl⟩ := new_hide (Same.new (o := .lst (natsV q')) (Same.refl H5) npl)
        rw [e6]
        tm_at "w"
        intro t nt
        refine k t q' _ (((m4.trans m5).same s6).new nt) upd_same ⟨asc_of hs' (hp'.nodup_iff.mpr hq), fun x hx => hqn x (hp'.mem_iff.mp hx), by rw [hp'.length_eq]; omega⟩
/-! groups_from -/
/-! ### one list of lists of numbers that changes -/
structure DF (H0 H : Hp) (l : Addr) (D : List (List Nat)) (F : Nat → Addr) : Prop where
  list : H l = some (.lst ((List.range D.length).map fun j => V.ref (F j)))
  rows : ∀ (j : Nat) q, D[j]? = some q → H (F j) = some (.lst (natsV q))
  inj : ∀ (i j : Nat), i < D.length → j < D.length → F i = F j → i = j
  apart : ∀ (j : Nat), j < D.length → F j ≠ l
  newL : H0 l = none
  newF : ∀ (j : Nat), j < D.length → H0 (F j) = none
def DL (H0 H : Hp) (l : Addr) (D : List (List Nat)) : Prop := ∃ F, DF H0 H l D F
section
variable {H0 H H' : Hp} {l : Addr} {D : List (List Nat)} {τ : Tp}
theorem DL.init (n : H0 l = none) (h : H l = some (.lst [])) : DL H0 H l [] := ⟨fun _ => l, h, fun j q e => by simp at e, fun i j e => absurd e (Nat.not_lt_zero _), fun j e => absurd e (Nat.not_lt_zero _), n, fun j e => absurd e (Nat.not_lt_zero _)⟩
theorem DL.same (g : DL H0 H l D) (s : Same H H') : DL H0 H' l D := by
  obtain ⟨F, f⟩ := g
  exact ⟨F, s _ _ f.list, fun j q e => s _ _ (f.rows j q e), f.inj, f.apart, f.newL, f.newF⟩
theorem DL.mv (g : DL H0 H l D) (m0 : Mv τ H0 H) (m : Mv τ H H') : DL H0 H' l D := by
  obtain ⟨F, f⟩ := g
  exact ⟨F, m.keep _ _ (m0.neF f.newL) f.list, fun j q e => m.keep _ _ (m0.neF (f.newF j (List.getElem?_eq_some_iff.mp e).1)) (f.rows j q e), f.inj, f.apart, f.newL, f.newF⟩
theorem DL.mut (g : DL H0 H l D) {a : Addr} {o : HO} (n : a ≠ l) (nF : ∀ F, DF H0 H l D F → ∀ (j : Nat), j < D.length → F j ≠ a) : DL H0 (upd H a o) l D := by
  obtain ⟨F, f⟩ := g
  exact ⟨F, (upd_ne n.symm).trans f.list, fun j q e => (upd_ne (nF F f j (List.getElem?_eq_some_iff.mp e).1)).trans (f.rows j q e), f.inj, f.apart, f.newL, f.newF⟩
/-- what a reader sees -/
def refsV (n : Nat) (F : Nat → Addr) : List V := (List.range n).map fun j => V.ref (F j)
theorem refsV_len (n : Nat) (F : Nat → Addr) : (refsV n F).length = n := by
  unfold refsV
  rw [List.length_map, List.length_range]
theorem refsV_at {n : Nat} {F : Nat → Addr} {j : Nat} (h : j < n) : (refsV n F)[j]? = some (.ref (F j)) := by
  unfold refsV
  rw [List.getElem?_map, List.getElem?_range h]
  rfl
theorem refsV_here {n : Nat} {F : Nat → Addr} {j : Nat} {x : V} (h : (refsV n F)[j]? = some x) : j < n ∧ x = .ref (F j) := by
  have hj := (List.getElem?_eq_some_iff.mp h).1
  rw [refsV_len] at hj
  rw [refsV_at hj] at h
  exact ⟨hj, (Option.some.inj h).symm⟩
theorem refsV_filter (n : Nat) (F : Nat → Addr) (c : Nat → Bool) : (List.range n).filterMap (fun j => if c j = true then some (V.ref (F j)) else none) = ((List.range n).filter c).map fun j => V.ref (F j) := by
  induction List.range n with
  | nil => rfl
  | cons a r ih =>
    rw [List.filterMap_cons, List.filter_cons]
    cases c a with
    | true => rw [if_pos rfl, if_pos rfl, List.map_cons, ih]
    | false => rw [if_neg (by decide), if_neg (by decide), ih]
structure RowsL (H : Hp) (l : Addr) (D : List (List Nat)) (F : Nat → Addr) : Prop where
  list : H l = some (.lst (refsV D.length F))
  row : ∀ (j : Nat) q, D[j]? = some q → H (F j) = some (.lst (natsV q))
theorem DL.at (g : DL H0 H l D) : ∃ F, RowsL H l D F := by
  obtain ⟨F, f⟩ := g
  exact ⟨F, f.list, f.rows⟩
theorem RowsL.same {F : Nat → Addr} (g : RowsL H l D F) (s : Same H H') : RowsL H' l D F := ⟨s _ _ g.list, fun j q e => s _ _ (g.row j q e)⟩
theorem DL.new (g : DL H0 H l D) {e : Addr} {o : HO} (n : H e = none) : DL H0 (upd H e o) l D := g.same (Same.new (Same.refl H) n)
theorem DL.grow (g : DL H0 H l D) {e : Addr} {x : Nat} {xs : List V} (ne : H e = none) (ne0 : H0 e = none) (hx : H l = some (.lst xs)) : DL H0 (upd (upd H e (.lst [.int (x : Int)])) l (.lst (xs ++ [.ref e]))) l (D ++ [[x]]) := by
  obtain ⟨F, f⟩ := g
  have ex : xs = (List.range D.length).map fun j => V.ref (F j) := by
    have := f.list
    rw [hx] at this
    injection this with this
    injection this
  have nF : ∀ (j : Nat), j < D.length → F j ≠ e := fun j hj => ne_of_none (f.rows j _ (List.getElem?_eq_getElem hj)) ne
  have nl : l ≠ e := ne_of_none f.list ne
  refine ⟨fun j => if j = D.length then e else F j, ?_, fun j q hq => ?_, fun i j hi hj h => ?_, fun j hj => ?_, f.newL, fun j hj => ?_⟩
  · rw [upd_same, ex, List.length_append, List.length_singleton, range_snoc]
  · by_cases hj : j < D.length
    · rw [List.getElem?_append_left hj] at hq
      simp only [if_neg (Nat.ne_of_lt hj)]
      rw [upd_ne (f.apart j hj), upd_ne (nF j hj)]
      exact f.rows j q hq
    · rw [List.getElem?_append_right (by omega)] at hq
      have ll := (List.getElem?_eq_some_iff.mp hq).1
      rw [List.length_singleton] at ll
      have ej : j = D.length := by omega
      rw [ej, Nat.sub_self] at hq
      simp only [if_pos ej]
      rw [upd_ne nl.symm, upd_same, ← Option.some.inj hq]
      rfl
  · rw [List.length_append, List.length_singleton] at hi hj
    by_cases c1 : i = D.length
    · by_cases c2 : j = D.length
      · rw [c1, c2]
      · simp only [if_pos c1, if_neg c2] at h
        exact absurd h.symm (nF j (by omega))
    · by_cases c2 : j = D.length
      · simp only [if_neg c1, if_pos c2] at h
        exact absurd h (nF i (by omega))
      · simp only [if_neg c1, if_neg c2] at h
        exact f.inj i j (by omega) (by omega) h
  · rw [List.length_append, List.length_singleton] at hj
    by_cases c : j = D.length
    · simp only [if_pos c]
      exact nl.symm
    · simp only [if_neg c]
      exact f.apart j (by omega)
  · rw [List.length_append, List.length_singleton] at hj
    by_cases c : j = D.length
    · simp only [if_pos c]
      exact ne0
    · simp only [if_neg c]
      exact f.newF j (by omega)
theorem DL.push (g : DL H0 H l D) {j : Nat} {q q' : List Nat} {a : Addr} {xs : List V} (hq : D[j]? = some q) (hx : H l = some (.lst xs)) (ha : xs[j]? = some (.ref a)) : H0 a = none ∧ DL H0 (upd H a (.lst (natsV q'))) l (D.set j q') := by
  obtain ⟨F, f⟩ := g
  have hj := (List.getElem?_eq_some_iff.mp hq).1
  have ea : a = F j := by
    have := f.list
    rw [hx] at this
    injection this with this
    injection this with this
    rw [this, List.getElem?_map, List.getElem?_range hj] at ha
    injection ha with ha
    injection ha with ha
    exact ha.symm
  subst ea
  refine ⟨f.newF j hj, F, ?_, fun i r hr => ?_, ?_, ?_, f.newL, ?_⟩
  · rw [upd_ne (f.apart j hj).symm, List.length_set]
    exact f.list
  · have hi := (List.getElem?_eq_some_iff.mp hr).1
    rw [List.length_set] at hi
    rw [List.getElem?_set] at hr
    by_cases e : j = i
    · subst e
      rw [if_pos rfl, if_pos hj] at hr
      rw [upd_same, Option.some.inj hr]
    · rw [if_neg e] at hr
      rw [upd_ne (fun z => e (f.inj i j hi hj z).symm)]
      exact f.rows i r hr
  · rw [List.length_set]
    exact f.inj
  · rw [List.length_set]
    exact f.apart
  · rw [List.length_set]
    exact f.newF
end
/-- a new list of new lists, so far -/
structure NR (H1 H : Hp) (D : Addr) (P : List (List Nat)) (n : Nat) (F : Nat → Addr) : Prop where
  list : H D = some (.lst (refsV n F))
  row : ∀ (j : Nat) q, j < n → P[j]? = some q → H (F j) = some (.lst (natsV q))
  new : ∀ j, j < n → H1 (F j) = none
  has : ∀ j, j < n → ∃ o, H (F j) = some o
  ne : ∀ j, j < n → F j ≠ D
  inj : ∀ i j, i < n → j < n → F i = F j → i = j
theorem refsV_snoc (n : Nat) (F : Nat → Addr) (c : Addr) : refsV n F ++ [V.ref c] = refsV (n + 1) (fun j => if j = n then c else F j) := by
  unfold refsV
  rw [List.range_succ, List.map_append, List.map_singleton]
  show _ = _ ++ [V.ref (if n = n then c else F n)]
  rw [if_pos rfl]
  congr 1
  refine List.map_congr_left fun j hj => ?_
  have := List.mem_range.mp hj
  show V.ref (F j) = V.ref (if j = n then c else F j)
  rw [if_neg (by omega)]
theorem NR.nil {H1 H : Hp} {D : Addr} {P : List (List Nat)} (h : H D = some (.lst [])) : NR H1 H D P 0 (fun _ => D) :=
  ⟨h, fun j q z => absurd z (Nat.not_lt_zero _), fun j z => absurd z (Nat.not_lt_zero _), fun j z => absurd z (Nat.not_lt_zero _), fun j z => absurd z (Nat.not_lt_zero _), fun i j z => absurd z (Nat.not_lt_zero _)⟩
theorem NR.same {H1 H H' : Hp} {D : Addr} {P : List (List Nat)} {n : Nat} {F : Nat → Addr} (h : NR H1 H D P n F) (s : Same H H') : NR H1 H' D P n F :=
  ⟨s _ _ h.list, fun j q z e => s _ _ (h.row j q z e), h.new, fun j z => let ⟨o, e⟩ := h.has j z; ⟨o, s _ _ e⟩, h.ne, h.inj⟩
theorem NR.snoc {H1 H : Hp} {D c : Addr} {P : List (List Nat)} {n : Nat} {F : Nat → Addr} {q : List Nat} (h : NR H1 H D P n F) (s : Same H1 H) (nc : H c = none) (hq : P[n]? = some q) :
    NR H1 (upd (upd H c (.lst (natsV q))) D (.lst (refsV n F ++ [.ref c]))) D P (n + 1) (fun j => if j = n then c else F j) := by
  have cD : c ≠ D := (ne_of_none h.list nc).symm
  refine ⟨by rw [upd_same, refsV_snoc], fun j r hj hr => ?_, fun j hj => ?_, fun j hj => ?_, fun j hj => ?_, fun i j hi hj e => ?_⟩
  · by_cases z : j = n
    · show upd _ _ _ (if j = n then c else F j) = _
      rw [if_pos z, upd_ne cD, upd_same]
      rw [z, hq] at hr
      rw [Option.some.inj hr]
    · have jl : j < n := by omega
      show upd _ _ _ (if j = n then c else F j) = _
      rw [if_neg z, upd_ne (h.ne j jl)]
      have := h.row j r jl hr
      rw [upd_ne (ne_of_none this nc)]
      exact this
  · show H1 (if j = n then c else F j) = none
    by_cases z : j = n
    · rw [if_pos z]; exact Same.free s nc
    · rw [if_neg z]; exact h.new j (by omega)
  · show ∃ o, upd _ _ _ (if j = n then c else F j) = some o
    by_cases z : j = n
    · rw [if_pos z, upd_ne cD, upd_same]; exact ⟨_, rfl⟩
    · have jl : j < n := by omega
      obtain ⟨o, e⟩ := h.has j jl
      rw [if_neg z, upd_ne (h.ne j jl), upd_ne (ne_of_none e nc)]
      exact ⟨o, e⟩
  · show (if j = n then c else F j) ≠ D
    by_cases z : j = n
    · rw [if_pos z]; exact cD
    · rw [if_neg z]; exact h.ne j (by omega)
  · have e : (if i = n then c else F i) = (if j = n then c else F j) := e
    by_cases z1 : i = n
    · by_cases z2 : j = n
      · omega
      · rw [if_pos z1, if_neg z2] at e
        obtain ⟨o, k⟩ := h.has j (by omega)
        exact absurd e.symm (ne_of_none k nc)
    · by_cases z2 : j = n
      · rw [if_neg z1, if_pos z2] at e
        obtain ⟨o, k⟩ := h.has i (by omega)
        exact absurd e (ne_of_none k nc)
      · rw [if_neg z1, if_neg z2] at e
        exact h.inj i j (by omega) (by omega) e
theorem lc_tupN {K : PySem.W.Frag} {a : Addr} {xs : List V} {g : TG} {tt : TT} {te : TE} {vs : List Nat} {σ : St} {H1 : Hp} {D : Addr} {Qd : Hp → Prop} (P : List (List Nat)) (hx : H1 a = some (.tup xs)) (hl : xs.length = P.length) (nD : H1 D = none) (hn : xs.length ≤ 100000)
    (hs : ∀ (i : Nat) (x : V) (H : Hp) (N : V → Hp → Prop) (M : Hp → Prop), xs[i]? = some x → Same H1 H → (∀ c q, P[i]? = some q → H c = none → N (.ref c) (upd H c (.lst (natsV q)))) → g x (wipe σ vs) H fun σ2 H2 => wipe σ2 vs = wipe σ vs ∧ tt σ2 H2 fun b H3 => if b = true then te σ2 H3 N else M H3)
    (hd : ∀ H F, Same H1 H → NR H1 H D P P.length F → Qd H) : ∃ W : Nat → Nat → Hp → Prop, (∃ m, W 0 m (upd H1 D (.lst []))) ∧ ∀ i m H, W i m H →
      ((Itt K a).stop i H ∧ Qd H) ∨ ((Itt K a).go i H ∧ ∃ Nx : Hp → Prop, (∀ H', Nx H' → ∃ m', m' < m ∧ W (i + 1) m' H') ∧ ∀ x H', (Itt K a).yld i H x H' → g x (wipe σ vs) H' fun σ2 H2 => wipe σ2 vs = wipe σ vs ∧ tt σ2 H2 fun b H3 =>
        if b = true then te σ2 H3 fun y H4 => ∃ acc, H4 D = some (.lst acc) ∧ acc.length < sizeLine ∧ Nx (upd H4 D (.lst (acc ++ [y]))) else Nx H3) := by
  refine lc_tup (K := K) (a := a) (xs := xs) (fun i H => Same H1 H ∧ ∃ F, NR H1 H D P i F) ⟨Same.new (Same.refl H1) nD, _, NR.nil upd_same⟩ (fun i H _ p => SqT.of (p.1 _ _ hx)) (fun i x H hi p => ?_) (fun H p => ?_)
  · obtain ⟨s, F, nr⟩ := p
    have il : i < xs.length := (List.getElem?_eq_some_iff.mp hi).1
    refine hs i x H _ _ hi s (fun c q hq nc => ?_)
    exact ⟨refsV i F, (upd_ne (ne_of_none nr.list nc)).trans nr.list, lt_line (by rw [refsV_len]; omega), Same.mut (Same.new s nc) nD, _, nr.snoc s nc hq⟩
  · obtain ⟨s, F, nr⟩ := p
    rw [hl] at nr
    exact hd H F s nr
theorem NR.upd {H1 H : Hp} {D g : Addr} {P : List (List Nat)} {n : Nat} {F : Nat → Addr} {o u : HO} (h : NR H1 H D P n F) (nD : H1 D = none) (hg : H1 g = some u) : NR H1 (upd H g o) D P n F := by
  have nF : ∀ j, j < n → F j ≠ g := fun j hj e => by
    have := h.new j hj
    rw [e, hg] at this
    cases this
  have nDg : D ≠ g := fun e => by rw [e, hg] at nD; cases nD
  refine ⟨(upd_ne nDg).trans h.list, fun j q z e => (upd_ne (nF j z)).trans (h.row j q z e), h.new, fun j z => ?_, h.ne, h.inj⟩
  obtain ⟨o', e⟩ := h.has j z
  exact ⟨o', (upd_ne (nF j z)).trans e⟩
theorem NR.back {H0 H1 H : Hp} {D : Addr} {P : List (List Nat)} {n : Nat} {F : Nat → Addr} (h : NR H1 H D P n F) (s : Same H0 H1) : NR H0 H D P n F :=
  ⟨h.list, h.row, fun j z => Same.free s (h.new j z), h.has, h.ne, h.inj⟩
open Classical in
/-- two new lists of new lists stand as the groups do -/
theorem groups_new {H0 H : Hp} {l h g : Addr} {L D : List (List Nat)} {F1 F2 : Nat → Addr} {o : HO} {xs : List (Str × V)} {C dx : Addr} (s : Same H0 H) (n1 : NR H0 H l L L.length F1) (n2 : NR H0 H h D D.length F2) (nl : H0 l = none) (nh : H0 h = none)
    (lh : l ≠ h) (a1 : ∀ j, j < L.length → F1 j ≠ h) (a2 : ∀ j, j < D.length → F2 j ≠ l) (a3 : ∀ i j, i < L.length → j < D.length → F1 i ≠ F2 j) (hg : H g = some (.ins C dx xs)) :
    ∃ B, Same H0 B ∧ B g = some (.ins C dx xs) ∧ G B H (RR l h) (st L D) := by
  let F : Bool → Nat → Addr := fun b j => if b = true then F2 j else F1 j
  let sp : Addr → Prop := fun a => (∃ b, a = RR l h b) ∨ ∃ b j, j < (st L D b).length ∧ a = F b j
  have hrow : ∀ b (j : Nat) q, (st L D b)[j]? = some q → H (F b j) = some (.lst (natsV q)) := fun b j q e => by
    cases b with
    | true => exact n2.row j q (List.getElem?_eq_some_iff.mp e).1 e
    | false => exact n1.row j q (List.getElem?_eq_some_iff.mp e).1 e
  have hlist : ∀ b, H (RR l h b) = some (.lst ((List.range (st L D b).length).map fun j => V.ref (F b j))) := fun b => by
    cases b with
    | true => exact n2.list
    | false => exact n1.list
  have new : ∀ a, sp a → H0 a = none := fun a ha => by
    rcases ha with ⟨b, rfl⟩ | ⟨b, j, hj, rfl⟩
    · cases b with
      | true => exact nh
      | false => exact nl
    · cases b with
      | true => exact n2.new j hj
      | false => exact n1.new j hj
  have nsp : ∀ {a o}, H a = some o → (∀ ys, o ≠ .lst ys) → ¬ sp a := fun {a o} e ne ha => by
    rcases ha with ⟨b, rfl⟩ | ⟨b, j, hj, rfl⟩
    · rw [hlist b] at e
      exact ne _ (Option.some.inj e).symm
    · rw [hrow b j _ (List.getElem?_eq_getElem hj)] at e
      exact ne _ (Option.some.inj e).symm
  refine ⟨fun a => if sp a then none else H a, fun a o e => ?_, ?_, fun a o e => ?_, F, hlist, hrow, fun b j b' j' h1 h2 e => ?_, fun b j b' hj => ?_, ?_, fun b => if_pos (.inl ⟨b, rfl⟩), fun b j hj => if_pos (.inr ⟨b, j, hj, rfl⟩)⟩
  · show (if sp a then none else H a) = some o
    rw [if_neg (fun z => by rw [new a z] at e; cases e)]
    exact s _ _ e
  · show (if sp g then none else H g) = _
    rw [if_neg (nsp hg fun ys z => by cases z)]
    exact hg
  · have e : (if sp a then none else H a) = some o := e
    split at e
    · cases e
    · exact e
  · cases b <;> cases b'
    · exact ⟨rfl, n1.inj j j' h1 h2 e⟩
    · exact absurd e (a3 j j' h1 h2)
    · exact absurd e.symm (a3 j' j h2 h1)
    · exact ⟨rfl, n2.inj j j' h1 h2 e⟩
  · cases b <;> cases b'
    · exact n1.ne j hj
    · exact a1 j hj
    · exact a2 j hj
    · exact n2.ne j hj
  · exact lh
theorem grF_eq (l h : Addr) : grF l h = ([("lots", V.ref l), ("held", V.ref h)] : List (Str × V)) := by
  show (if ("lots" : Str) = "held" then [(("lots" : Str), V.ref h)] else (("lots" : Str), V.ref l) :: putF "held" (V.ref h) []) = ([("lots", V.ref l), ("held", V.ref h)] : List (Str × V))
  rw [if_neg lh_ne]
  all_goals rfl
theorem grF_putL (l h a : Addr) : putF "lots" (.ref a) (grF l h) = grF a h := by
  rw [grF_eq, grF_eq]
  show (if ("lots" : Str) = "lots" then (("lots" : Str), V.ref a) :: [(("held" : Str), V.ref h)] else _) = ([("lots", V.ref a), ("held", V.ref h)] : List (Str × V))
  rw [if_pos rfl]
theorem grF_putH (l h a : Addr) : putF "held" (.ref a) (grF l h) = grF l a := by
  rw [grF_eq, grF_eq]
  show (if ("lots" : Str) = "held" then _ else (("lots" : Str), V.ref l) :: (if ("held" : Str) = "held" then [(("held" : Str), V.ref a)] else _)) = ([("lots", V.ref l), ("held", V.ref a)] : List (Str × V))
  rw [if_neg lh_ne, if_pos rfl]
def sp_groups_from (CG : Addr) (K : PySem.W.Frag) : Sp := fun vs H Q _ => ∃ (lo he : Addr) (L D : List (List Nat)), vs = [.ref lo, .ref he] ∧ ParAt H lo L ∧ ParAt H he D ∧ L.length ≤ 1000 ∧ D.length ≤ 1000 ∧
  ∀ g dx l h B H', Same H B → B g = some (.ins CG dx (grF l h)) → G B H' (RR l h) (st L D) → Q (.ref g) H'
theorem sc_groups_from : FnScope ["lots", "held", "found", "lot", "row"] ["lots", "held"] (defScope s_groups_from) := ⟨rfl, rfl, rfl, by decide +kernel, rfl, by decide +kernel, by decide +kernel⟩
theorem ok_groups_from (T : Top P K mg) : FnOk P w K mg base CX0 3 T.f_groups_from T.fd_groups_from ["lots", "held"] (sp_groups_from T.C_Groups K) := by
  have G_Groups___init__ := ok_Groups___init__ (P := P) (w := w) (base := base) T
  refine T.F_groups_from.ok sc_groups_from (fun vs H Q E h => ?_) (fun cdv A outer s H vs Q E hr h => ?_)
  · obtain ⟨lo, he, L, D, rfl, _⟩ := h
    rfl
  · obtain ⟨lo, he, L, D, rfl, hlo, hhe, hL, hD, k⟩ := h
    refine ⟨_, (pss_cons (ps_set (i := 2) sc_groups_from.nd rfl (Or.inl rfl) (pe_make0 T.M_Groups G_Groups___init__ hr (by rfl) T.g_Groups T.b_Groups___init__ .nil pass0))
      (pss_cons (ps_fld (pv 2) (pe_lc (own := [("lot", 3)]) (g := gName 3) (tt := tYes) rfl sc_groups_from.nd (pi_tup (pv 0)) (blkOk_by (own := [("lot", 3)]) (N := ["lots", "held", "found", "lot", "row"]) (sc := defScope s_groups_from) (by decide +kernel)) (fun _ _ _ _ _ => (pg_name (i := 3) sc_groups_from.nd rfl (Or.inl rfl))) (fun _ _ _ _ _ => pts_nil) (fun _ _ _ _ _ => (pe_callTy (r := rListQ K) (T := "list") call_list_of (by rfl) T.z_list (by decide +kernel) (pa_cons (pv 3) pa_nil)))) rfl)
      (pss_cons (ps_fld (pv 2) (pe_lc (own := [("row", 4)]) (g := gName 4) (tt := tYes) rfl sc_groups_from.nd (pi_tup (pv 1)) (blkOk_by (own := [("row", 4)]) (N := ["lots", "held", "found", "lot", "row"]) (sc := defScope s_groups_from) (by decide +kernel)) (fun _ _ _ _ _ => (pg_name (i := 4) sc_groups_from.nd rfl (Or.inl rfl))) (fun _ _ _ _ _ => pts_nil) (fun _ _ _ _ _ => (pe_callTy (r := rListQ K) (T := "list") call_list_of (by rfl) T.z_list (by decide +kernel) (pa_cons (pv 4) pa_nil)))) rfl)
      (pss_one (ps_ret (pv 2)))))), ?_⟩
    have cG := T.cl_Groups
    have nG1 := T.n_Groups_lots
    have nG2 := T.n_Groups_held
    obtain ⟨xs, hx, hxl⟩ := id hlo
    obtain ⟨ys, hy, hyl⟩ := id hhe
    intro g dx ng ndx ndg
    refine ⟨g, dx, rfl, upd_same, fun l0 h0 H1 bt nl nh nlh hg1 hl1 hh1 => ⟨rfl, ?_⟩⟩
    have sB : Same H (upd (upd H dx (.own g)) g (.ins T.C_Groups dx (grF l0 h0))) := Same.mut (Same.new (Same.refl H) ndx) ng
    have s01 : Same H H1 := fun a o e => by
      have z : a ≠ g := ne_of_none e ng
      exact bt a o z ((upd_ne z).trans ((upd_ne (ne_of_none e ndx)).trans e))
    have hx1 := s01 _ _ hx
    tm_at "w"
    refine ⟨⟨_, SqT.of hx1⟩, fun D1 nD1 => lc_tupN (K := K) (a := lo) (xs := xs) L hx1 hxl.1 nD1 (by rw [hxl.1]; omega) ?_ ?_⟩
    · intro i x H2 N M hxi s2 kN
      obtain ⟨ai, q, rfl, hq, hai⟩ := hxl.here hxi
      have hai2 := s2 _ _ (s01 _ _ hai)
      tm_at "w"
      exact fun c nc => kN c q hq nc
    intro H2 F1 s12 nr1
    have hg2 := s12 _ _ hg1
    have nD1H := Same.free s01 nD1
    have gl : ∀ l h : Addr, (grF l h).length < 1000 := fun l h => by
      unfold grF
      have a1 := length_putF "held" (.ref h) (putF "lots" (.ref l) [])
      have a2 := length_putF "lots" (.ref l) []
      have : ([] : List (Str × V)).length = 0 := rfl
      omega
    refine ⟨_, rfl, g, T.C_Groups, dx, _, rfl, hg2, cG, nG1, gl _ _, ?_⟩
    rw [grF_putL]
    obtain ⟨H3, e3⟩ : ∃ H3, upd H2 g (.ins T.C_Groups dx (grF D1 h0)) = H3 := ⟨_, rfl⟩
    have hg3 : H3 g = some (.ins T.C_Groups dx (grF D1 h0)) := by rw [← e3]; exact upd_same
    have s03 : Same H H3 := by rw [← e3]; exact Same.mut (Same.trans s01 s12) ng
    have nr3 : NR H H3 D1 L L.length F1 := by rw [← e3]; exact (nr1.upd nD1 hg1).back s01
    rw [e3]
    have hy3 := s03 _ _ hy
    tm_at "w"
    refine ⟨⟨_, SqT.of hy3⟩, fun D2 nD2 => lc_tupN (K := K) (a := he) (xs := ys) D hy3 hyl.1 nD2 (by rw [hyl.1]; omega) ?_ ?_⟩
    · intro i x H4 N M hxi s2 kN
      obtain ⟨ai, q, rfl, hq, hai⟩ := hyl.here hxi
      have hai2 := s2 _ _ (s03 _ _ hai)
      tm_at "w"
      exact fun c nc => kN c q hq nc
    intro H4 F2 s34 nr2
    have hg4 := s34 _ _ hg3
    have nD2H := Same.free s03 nD2
    refine ⟨_, rfl, g, T.C_Groups, dx, _, rfl, hg4, cG, nG2, gl _ _, ?_⟩
    rw [grF_putH]
    have hg5 : (upd H4 g (.ins T.C_Groups dx (grF D1 D2))) g = some (.ins T.C_Groups dx (grF D1 D2)) := upd_same
    have gD1 : g ≠ D1 := fun e => by rw [e, nr3.list] at hg3; cases hg3
    have s05 : Same H (upd H4 g (.ins T.C_Groups dx (grF D1 D2))) := Same.mut (Same.trans s03 s34) ng
    have n1 : NR H (upd H4 g (.ins T.C_Groups dx (grF D1 D2))) D1 L L.length F1 := by
      have z := nr3.same s34
      refine ⟨(upd_ne gD1.symm).trans z.list, fun j q hj e => ?_, z.new, fun j hj => ?_, z.ne, z.inj⟩
      · have w := z.row j q hj e
        exact (upd_ne (fun e => by rw [e, hg4] at w; cases w)).trans w
      · have w := z.row j _ hj (List.getElem?_eq_getElem hj)
        exact ⟨_, (upd_ne (fun e => by rw [e, hg4] at w; cases w)).trans w⟩
    have n2 : NR H (upd H4 g (.ins T.C_Groups dx (grF D1 D2))) D2 D D.length F2 := (nr2.upd nD2 hg3).back s03
    obtain ⟨B, b1, b2, b3⟩ := groups_new (o := .lst []) s05 n1 n2 nD1H nD2H (ne_of_none nr3.list nD2) (fun j hj => ne_of_none (nr3.row j _ hj (List.getElem?_eq_getElem hj)) nD2)
      (fun j hj e => by have := nr2.new j hj; rw [e, nr3.list] at this; cases this) (fun i j hi hj e => by have := nr2.new j hj; rw [← e, nr3.row i _ hi (List.getElem?_eq_getElem hi)] at this; cases this) hg5
    tm_at "w"
    exact k g dx D1 D2 B _ b1 b2 b3
/-! first_step -/
/-- the told rule behind so many kinds -/
def runS (P : List (List Nat)) : Nat → Bool → List (List Nat)
  | 0 => fun _ => []
  | x + 1 => putS P (runS P x) x
def tripB (P : List (List Nat)) (x : Nat) : Tr :=
  let s := putSlot P (runS P x false) (runS P x true) x
  ((s : Int), (((runS P (x + 1) true).getD s []).length : Int), (entB P (runS P (x + 1) true) x).map fun z : Nat => (z : Int))
def runT (P : List (List Nat)) : Nat → List Tr
  | 0 => []
  | x + 1 => runT P x ++ [tripB P x]
theorem runT_len (P : List (List Nat)) : ∀ x, (runT P x).length = x
  | 0 => rfl
  | x + 1 => by
    show (runT P x ++ [tripB P x]).length = x + 1
    rw [List.length_append, runT_len P x]
    rfl
theorem run_ok (P : List (List Nat)) : ∀ x, OkG x (runS P x false) (runS P x true)
  | 0 => ⟨(fun lot h => by cases h), (fun j lot h => by simp [runS] at h), (fun d h => by cases h), (fun d h => by cases h), Nat.le_refl _, Nat.le_refl _, (fun d h => by cases h)⟩
  | x + 1 => (run_ok P x).put
/-- what a runtime keeps behind so many kinds: the step's address, its book, its three tuples -/
structure Sk where
  s : Addr
  b : Bk
  tr : Addr
  lo : Addr
  he : Addr
structure StepAt (C : Addr) (H : Hp) (k : Sk) (P : List (List Nat)) : Prop where
  here : H k.s = some (.tup [.ref k.b.b, .ref k.tr, .ref k.lo, .ref k.he])
  book : BookAt C H k.b P
  tri : SchAt H k.tr (runT P P.length)
  lots : ParAt H k.lo (runS P P.length false)
  held : ParAt H k.he (runS P P.length true)
theorem StepAt.same {C : Addr} {H H' : Hp} {k : Sk} {P : List (List Nat)} (h : StepAt C H k P) (s : Same H H') : StepAt C H' k P :=
  ⟨s _ _ h.here, h.book.same s, h.tri.tk (Same.tk s), h.lots.tk (Same.tk s), h.held.tk (Same.tk s)⟩
/-- its parts that are no tuples are new -/
structure StepNw (H : Hp) (k : Sk) : Prop where
  b : H k.b.b = none
  lb : H k.b.lb = none
def sp_first_step (C : Addr) (K : PySem.W.Frag) : Sp := fun vs H Q _ => vs = [] ∧ ∀ k H', Same H H' → StepAt C H' k [] → StepNw H k → Q (.ref k.s) H'
theorem sc_first_step : FnScope [] [] (defScope s_first_step) := ⟨rfl, rfl, rfl, by decide +kernel, rfl, by decide +kernel, by decide +kernel⟩
theorem ok_first_step (T : Top P K mg) : FnOk P w K mg base CX0 8 T.f_first_step T.fd_first_step [] (sp_first_step T.C_Book K) := by
  have G_book_of := ok_book_of (P := P) (w := w) (base := base) T
  refine T.F_first_step.ok sc_first_step (fun vs H Q E h => ?_) (fun cdv A outer s H vs Q E hr h => ?_)
  · obtain ⟨rfl, _⟩ := h
    rfl
  · obtain ⟨rfl, k⟩ := h
    refine ⟨_, (pss_one (ps_ret (pe_tup (pa_cons (pe_call G_book_of hr (by rfl) T.g_book_of T.F_book_of.kp T.b_book_of .nil pass0 (pa_cons (pe_tup pa_nil) pa_nil)) (pa_cons (pe_tup pa_nil) (pa_cons (pe_tup pa_nil) (pa_cons (pe_tup pa_nil) pa_nil))))))), ?_⟩
    tm_at "w"
    intro e ne
    obtain ⟨H1, e1, s1, he⟩ := new_hide (Same.new (o := .tup []) (Same.refl H) ne)
    rw [e1]
    tm_at "w"
    refine ⟨e, [], [], rfl, .inr he, ParL.nil, fun j p e => by simp at e, by decide, fun b H2 mk => ?_⟩
    have s12 := mk.same
    tm_at "w"
    intro t1 nt1
    obtain ⟨H3, e3, s3, ht1⟩ := new_hide (Same.new (o := .tup []) (Same.refl H2) nt1)
    rw [e3]
    tm_at "w"
    intro t2 nt2
    obtain ⟨H4, e4, s4, ht2⟩ := new_hide (Same.new (o := .tup []) (Same.refl H3) nt2)
    rw [e4]
    tm_at "w"
    intro t3 nt3
    obtain ⟨H5, e5, s5, ht3⟩ := new_hide (Same.new (o := .tup []) (Same.refl H4) nt3)
    rw [e5]
    tm_at "w"
    intro p np
    have s35 := Same.trans s4 s5
    have s25 := Same.trans s3 s35
    have sp : Same H5 (upd H5 p (.tup [.ref b.b, .ref t1, .ref t2, .ref t3])) := Same.new (Same.refl H5) np
    have hb := (mk.here.same s25).same sp
    refine k ⟨p, b, t1, t2, t3⟩ _ (Same.trans (Same.trans (Same.trans s1 s12) s25) sp) ⟨upd_same, hb, ?_, ?_, ?_⟩ ⟨Same.free s1 mk.nb.e, Same.free s1 mk.nl.e⟩
    · exact ⟨[], sp _ _ (s35 _ _ ht1), rfl, fun i e h => by simp [runT] at h⟩
    · exact ⟨[], sp _ _ (s5 _ _ ht2), ParL.nil⟩
    · exact ⟨[], sp _ _ ht3, ParL.nil⟩
/-! next_step -/
theorem isA_grown {P : List (List Nat)} {q : List Nat} {x : Nat} (h : x < P.length) (j : Nat) : isA (P ++ [q]) x j = isA P x j := by
  have := isA_take (P := P ++ [q]) h j
  rw [List.take_left] at this
  exact this.symm
/-! ### what the told rule says -/
theorem taken_fits (P D : List (List Nat)) (x : Nat) : ∀ (L : List (List Nat)) (n s : Nat), (takenB P D x n L).2 = some s → isA P x (lastD D s) = true
  | [], n, s, h => by cases h
  | lot :: r, n, s, h => by
    have et : takenB P D x n (lot :: r) = match (fitB P D x lot).min? with | some s => (n, some s) | none => if lot.length ≤ n then (n, none) else takenB P D x (n + 1) r := rfl
    cases e : (fitB P D x lot).min? with
    | some s' =>
      rw [et, e] at h
      have := (List.mem_filter.mp (min_mem e)).2
      rw [← Option.some.inj h]
      exact this
    | none =>
      rw [et, e] at h
      by_cases z : lot.length ≤ n
      · simp only [if_pos z] at h
        cases h
      · simp only [if_neg z] at h
        exact taken_fits P D x r (n + 1) s h
def Chn (P : List (List Nat)) (d : List Nat) : Prop := d.Pairwise fun a b => isA P b a = true
theorem chn_count {P : List (List Nat)} (hR : RtP P) (x : Nat) : ∀ {d : List Nat} {j p : Nat}, Chn P d → d[j]? = some p → (j + 1 ≤ (d.filter fun k => isA P x k).length ↔ isA P x p = true)
  | [], j, p, _, h => by simp at h
  | a :: r, j, p, hc, h => by
    obtain ⟨h1, h2⟩ := List.pairwise_cons.mp hc
    rw [List.filter_cons]
    cases e : isA P x a with
    | true =>
      rw [if_pos rfl, List.length_cons]
      cases j with
      | zero =>
        have : a = p := Option.some.inj h
        rw [← this, e]
        exact ⟨fun _ => rfl, fun _ => by omega⟩
      | succ j =>
        have ih := chn_count hR x h2 (show r[j]? = some p from h)
        rw [← ih]
        omega
    | false =>
      rw [if_neg (by decide)]
      have no : ∀ b ∈ r, isA P x b = false := fun b hb => by
        cases eb : isA P x b with
        | false => rfl
        | true =>
          rw [isA_trans hR eb (h1 b hb)] at e
          cases e
      have nil : r.filter (fun k => isA P x k) = [] := List.filter_eq_nil_iff.mpr fun b hb => by rw [no b hb]; decide
      rw [nil]
      have np : isA P x p = false := by
        cases j with
        | zero =>
          have : a = p := Option.some.inj h
          rw [← this]
          exact e
        | succ j => exact no p (List.mem_of_getElem? h)
      rw [np]
      exact ⟨fun z => absurd z (by simp), fun z => by cases z⟩
theorem chn_snoc {P : List (List Nat)} (hR : RtP P) {d : List Nat} {x : Nat} (h : Chn P d) (hl : d = [] ∨ isA P x (d.getLastD 0) = true) : Chn P (d ++ [x]) := by
  refine List.pairwise_append.mpr ⟨h, List.pairwise_singleton _ _, fun a ha b hb => ?_⟩
  rw [List.mem_singleton.mp hb]
  rcases hl with e | e
  · rw [e] at ha
    cases ha
  · have dne : d ≠ [] := List.ne_nil_of_mem ha
    have el : d.getLastD 0 = d.getLast dne := by
      rw [List.getLastD_eq_getLast?, List.getLast?_eq_getLast dne]
      rfl
    rw [el] at e
    have ed : d = d.dropLast ++ [d.getLast dne] := (List.dropLast_concat_getLast dne).symm
    rw [ed] at ha
    rcases List.mem_append.mp ha with ha | ha
    · have h2 := h
      rw [ed] at h2
      exact isA_trans hR e ((List.pairwise_append.mp h2).2.2 a ha _ (List.mem_singleton.mpr rfl))
    · rw [List.mem_singleton.mp ha]
      exact e
/-- the row of the slot that a kind gets -/
theorem put_row {m : Nat} {P L D : List (List Nat)} {x : Nat} (o : OkG m L D) : (putD P L D x).getD (putSlot P L D x) [] = D.getD (putSlot P L D x) [] ++ [x] ∧ ∀ s, s ≠ putSlot P L D x → (putD P L D x).getD s [] = D.getD s [] := by
  have sl := (putD_len (P := P) (x := x) o).2
  have e1 : ∀ s, (if (takenB P D x 0 L).2 = none then D ++ [[]] else D).getD s [] = D.getD s [] := fun s => by
    split
    · rw [List.getD_eq_getElem?_getD, List.getD_eq_getElem?_getD]
      by_cases h : s < D.length
      · rw [List.getElem?_append_left h]
      · rw [List.getElem?_append_right (by omega), List.getElem?_eq_none (l := D) (by omega)]
        cases e : s - D.length with
        | zero => rfl
        | succ n => rfl
    · rfl
  have ls : (putD P L D x).length = (if (takenB P D x 0 L).2 = none then D ++ [[]] else D).length := by
    unfold putD
    simp only
    rw [List.length_set]
  constructor
  · unfold putD at sl ls ⊢
    simp only at sl ls ⊢
    rw [List.getD_eq_getElem?_getD, List.getElem?_set, if_pos rfl, if_pos (by omega), e1]
    rfl
  · intro s hs
    rw [← e1 s]
    unfold putD
    simp only
    rw [List.getD_eq_getElem?_getD, List.getElem?_set, if_neg (fun z => hs z.symm), ← List.getD_eq_getElem?_getD]
def slotB (P : List (List Nat)) (x : Nat) : Nat := putSlot P (runS P x false) (runS P x true) x
def rowB (P : List (List Nat)) (x s : Nat) : List Nat := (runS P x true).getD s []
theorem row_step (P : List (List Nat)) (x s : Nat) : rowB P (x + 1) s = if s = slotB P x then rowB P x s ++ [x] else rowB P x s := by
  obtain ⟨h1, h2⟩ := put_row (P := P) (x := x) (run_ok P x)
  by_cases z : s = slotB P x
  · rw [if_pos z, z]
    exact h1
  · rw [if_neg z]
    exact h2 s z
theorem row_prefix (P : List (List Nat)) (s : Nat) {m : Nat} : ∀ {n : Nat}, m ≤ n → rowB P m s <+: rowB P n s := by
  intro n h
  induction n with
  | zero => rw [show m = 0 by omega]; exact List.prefix_refl _
  | succ n ih =>
    by_cases e : m = n + 1
    · rw [e]
      exact List.prefix_refl _
    · refine (ih (by omega)).trans ?_
      rw [row_step]
      split
      · exact List.prefix_append _ _
      · exact List.prefix_refl _
theorem row_chain {P : List (List Nat)} (hR : RtP P) (s : Nat) : ∀ x, Chn P (rowB P x s)
  | 0 => by
    show Chn P (([] : List (List Nat)).getD s [])
    exact List.Pairwise.nil
  | x + 1 => by
    rw [row_step]
    split
    · rename_i e
      refine chn_snoc hR (row_chain hR s x) ?_
      rcases slot_lt (P := P) (x := x) (run_ok P x) with ⟨e1, h⟩ | ⟨s', lot, e1, h, hs, _⟩
      · refine .inl ?_
        unfold rowB
        rw [e, show slotB P x = (runS P x true).length from h, List.getD_eq_getElem?_getD, List.getElem?_eq_none (Nat.le_refl _)]
        rfl
      · refine .inr ?_
        have := taken_fits P (runS P x true) x (runS P x false) 0 s' e1
        unfold rowB
        rw [e, show slotB P x = s' from h]
        exact this
    · exact row_chain hR s x
theorem row_put (P : List (List Nat)) (x : Nat) : (rowB P (x + 1) (slotB P x))[(rowB P (x + 1) (slotB P x)).length - 1]? = some x := by
  rw [row_step, if_pos rfl, List.length_append, List.length_singleton, Nat.add_sub_cancel, List.getElem?_append_right (Nat.le_refl _), Nat.sub_self]
  rfl
theorem row_pos (P : List (List Nat)) (x : Nat) : 0 < (rowB P (x + 1) (slotB P x)).length := by
  rw [row_step, if_pos rfl, List.length_append]
  exact Nat.succ_pos _
theorem held_mono (P : List (List Nat)) {m n : Nat} (h : m ≤ n) : (runS P m true).length ≤ (runS P n true).length := by
  induction n with
  | zero => rw [show m = 0 by omega]; exact Nat.le_refl _
  | succ n ih =>
    by_cases e : m = n + 1
    · rw [e]
      exact Nat.le_refl _
    · exact Nat.le_trans (ih (by omega)) (putD_len (P := P) (x := n) (run_ok P n)).1
theorem slot_in (P : List (List Nat)) (x : Nat) : slotB P x < (runS P (x + 1) true).length := (putD_len (P := P) (x := x) (run_ok P x)).2
theorem slot_le (P : List (List Nat)) (x : Nat) : slotB P x ≤ (runS P x true).length := by
  rcases slot_lt (P := P) (x := x) (run_ok P x) with ⟨_, h⟩ | ⟨s', lot, e1, h, hs, _⟩
  · exact Nat.le_of_eq h
  · rw [show slotB P x = s' from h]
    exact Nat.le_of_lt hs
theorem ent_at {P : List (List Nat)} {x s : Nat} (h : s < (runS P (x + 1) true).length) : ((entB P (runS P (x + 1) true) x).map fun z : Nat => (z : Int)).getD s 0 = (((rowB P (x + 1) s).filter fun k => isA P x k).length : Int) := by
  unfold entB rowB
  rw [List.getD_eq_getElem?_getD, List.getElem?_map, List.getElem?_map, List.getElem?_eq_getElem h, List.getD_eq_getElem?_getD, List.getElem?_eq_getElem h]
  rfl
/-- the told scheme says what is so -/
theorem told_says {P : List (List Nat)} (hR : RtP P) (x p : Nat) : saysB (tripB P x) (tripB P p) = isA P x p := by
  have el : (tripB P x).2.2.length = (runS P (x + 1) true).length := by
    show ((entB P (runS P (x + 1) true) x).map fun z : Nat => (z : Int)).length = _
    unfold entB
    rw [List.length_map, List.length_map]
  have e1 : (tripB P p).1 = (slotB P p : Int) := rfl
  have e2 : (tripB P p).2.1 = ((rowB P (p + 1) (slotB P p)).length : Int) := rfl
  have e3 : (tripB P x).2.2 = (entB P (runS P (x + 1) true) x).map fun z : Nat => (z : Int) := rfl
  unfold saysB
  rw [el, e1, e2, e3, Int.toNat_natCast]
  by_cases hp : p ≤ x
  · have sl : slotB P p < (runS P (x + 1) true).length := Nat.lt_of_lt_of_le (slot_in P p) (held_mono P (by omega))
    rw [decide_eq_true (by omega), Bool.true_and, ent_at sl]
    have pre : rowB P (p + 1) (slotB P p) <+: rowB P (x + 1) (slotB P p) := row_prefix P _ (by omega)
    have pos := row_pos P p
    have at' : (rowB P (x + 1) (slotB P p))[(rowB P (p + 1) (slotB P p)).length - 1]? = some p := by
      obtain ⟨t, ht⟩ := pre
      rw [← ht, List.getElem?_append_left (by omega)]
      exact row_put P p
    have ct := chn_count hR x (row_chain hR (slotB P p) (x + 1)) at'
    cases e : isA P x p with
    | true =>
      have := ct.mpr e
      exact decide_eq_true (by omega)
    | false =>
      refine decide_eq_false fun z => ?_
      have := ct.mp (by omega)
      rw [e] at this
      cases this
  · have no : isA P x p = false := by
      cases e : isA P x p with
      | false => rfl
      | true =>
        have := isA_le hR e
        omega
    rw [no]
    by_cases sl : slotB P p < (runS P (x + 1) true).length
    · rw [ent_at sl]
      have pre : rowB P (x + 1) (slotB P p) <+: rowB P p (slotB P p) := row_prefix P _ (by omega)
      have l1 := pre.length_le
      have l2 : (rowB P (p + 1) (slotB P p)).length = (rowB P p (slotB P p)).length + 1 := by
        rw [row_step, if_pos rfl, List.length_append]
        rfl
      have l3 := List.length_filter_le (fun k => isA P x k) (rowB P (x + 1) (slotB P p))
      rw [decide_eq_false (p := ((rowB P (p + 1) (slotB P p)).length : Int) ≤ _) (by omega), Bool.and_false]
    · rw [decide_eq_false (by omega), Bool.false_and]
/-- the beginning's scheme is the scheme's beginning -/
theorem fit_congr {P Q : List (List Nat)} {D : List (List Nat)} {x : Nat} (h : ∀ k, isA P x k = isA Q x k) (lot : List Nat) : fitB P D x lot = fitB Q D x lot := by
  unfold fitB
  congr 1
  funext s
  exact h _
theorem taken_congr {P Q : List (List Nat)} {D : List (List Nat)} {x : Nat} (h : ∀ k, isA P x k = isA Q x k) : ∀ (L : List (List Nat)) (n : Nat), takenB P D x n L = takenB Q D x n L
  | [], n => rfl
  | lot :: r, n => by
    have e : ∀ P, takenB P D x n (lot :: r) = match (fitB P D x lot).min? with | some s => (n, some s) | none => if lot.length ≤ n then (n, none) else takenB P D x (n + 1) r := fun _ => rfl
    rw [e, e, fit_congr h, taken_congr h r (n + 1)]
theorem put_congr {P Q : List (List Nat)} {L D : List (List Nat)} {x : Nat} (h : ∀ k, isA P x k = isA Q x k) : putL P L D x = putL Q L D x ∧ putD P L D x = putD Q L D x ∧ putSlot P L D x = putSlot Q L D x := by
  unfold putL putD putL1 putSlot putN
  rw [taken_congr h]
  exact ⟨rfl, rfl, rfl⟩
theorem run_congr {P Q : List (List Nat)} : ∀ {x : Nat}, (∀ y, y < x → ∀ k, isA P y k = isA Q y k) → runS P x = runS Q x
  | 0, _ => rfl
  | x + 1, h => by
    have ih : runS P x = runS Q x := run_congr fun y hy => h y (by omega)
    obtain ⟨h1, h2, _⟩ := put_congr (L := runS P x false) (D := runS P x true) (h x (by omega))
    show putS P (runS P x) x = putS Q (runS Q x) x
    rw [← ih]
    unfold putS
    rw [h1, h2]
theorem runT_congr {P Q : List (List Nat)} : ∀ {x : Nat}, (∀ y, y < x → ∀ k, isA P y k = isA Q y k) → runT P x = runT Q x
  | 0, _ => rfl
  | x + 1, h => by
    show runT P x ++ [tripB P x] = runT Q x ++ [tripB Q x]
    rw [runT_congr fun y hy => h y (by omega)]
    have e1 : runS P x = runS Q x := run_congr fun y hy => h y (by omega)
    have e2 : runS P (x + 1) = runS Q (x + 1) := run_congr h
    have e3 := (put_congr (L := runS P x false) (D := runS P x true) (h x (by omega))).2.2
    unfold tripB
    simp only
    rw [← e1, ← e2, e3]
    unfold entB
    have e4 : (fun row : List Nat => (row.filter fun k => isA P x k).length) = fun row => (row.filter fun k => isA Q x k).length := by
      funext row
      congr 2
      funext k
      exact h x (by omega) k
    rw [e4]
theorem runT_take (P : List (List Nat)) (m : Nat) {x : Nat} (h : x ≤ m) : runT (P.take m) x = runT P x := runT_congr fun y hy k => isA_take (by omega) k
theorem runT_pre (P : List (List Nat)) : ∀ {n m : Nat}, m ≤ n → (runT P n).take m = runT P m
  | 0, m, h => by rw [show m = 0 by omega]; rfl
  | n + 1, m, h => by
    by_cases e : m = n + 1
    · rw [e]
      exact List.take_of_length_le (by rw [runT_len]; exact Nat.le_refl _)
    · show (runT P n ++ [tripB P n]).take m = _
      rw [List.take_append_of_le_length (by rw [runT_len]; omega)]
      exact runT_pre P (by omega)
theorem runT_at (P : List (List Nat)) : ∀ {n x : Nat}, x < n → (runT P n)[x]? = some (tripB P x)
  | n + 1, x, h => by
    show (runT P n ++ [tripB P n])[x]? = _
    by_cases e : x = n
    · rw [e, List.getElem?_append_right (by rw [runT_len]; exact Nat.le_refl _), runT_len, Nat.sub_self]
      rfl
    · rw [List.getElem?_append_left (by rw [runT_len]; omega)]
      exact runT_at P (by omega)
local macro_rules | `(tactic| tm_at "fld") => `(tactic| refine ⟨_, _, _, _, _, rfl, by tm_at "hp", by assumption, by assumption, by first | exact grF_lots _ _ | exact grF_held _ _ | exact bkF_bits _ _ | exact bkF_parents _ _ | fail "fld", ?_⟩)
theorem runS_grown {P : List (List Nat)} {q : List Nat} : runS (P ++ [q]) P.length = runS P P.length := run_congr fun y hy k => isA_grown hy k
theorem runT_grown {P : List (List Nat)} {q : List Nat} : runT (P ++ [q]) P.length = runT P P.length := runT_congr fun y hy k => isA_grown hy k
theorem range_getD (L : List (List Nat)) : (List.range L.length).map (fun i => L.getD i []) = L := by
  refine List.ext_getElem? fun i => ?_
  rw [List.getElem?_map]
  by_cases h : i < L.length
  · rw [List.getElem?_range h, List.getElem?_eq_getElem h]
    show some (L.getD i []) = _
    rw [List.getD_eq_getElem?_getD, List.getElem?_eq_getElem h]
    rfl
  · rw [List.getElem?_eq_none (by rw [List.length_range]; omega), List.getElem?_eq_none (by omega)]
    rfl
/-- kept, out of the words' sight -/
structure Sm (H H' : Hp) : Prop where
  s : Same H H'
def sp_next_step (C : Addr) (K : PySem.W.Frag) : Sp := fun vs H Q _ => ∃ (k : Sk) (P : List (List Nat)) (q : List Nat) (a : Addr), vs = [.ref k.s, .ref a] ∧ StepAt C H k P ∧ OkP (P ++ [q]) ∧ H a = some (.tup (natsV q)) ∧
  ∀ k' H', Same H H' → StepAt C H' k' (P ++ [q]) → StepNw H k' → Q (.ref k'.s) H'
theorem sc_next_step : FnScope ["step", "parents", "x", "sheet_now", "groups_now", "slot", "triple", "lots_now", "held_now", "sheet", "triples", "lots", "held", "lot", "row"] ["step", "parents"] (defScope s_next_step) := ⟨rfl, rfl, rfl, by decide +kernel, rfl, by decide +kernel, by decide +kernel⟩
theorem ok_next_step (T : Top P K mg) : FnOk P w K mg base CX0 8 T.f_next_step T.fd_next_step ["step", "parents"] (sp_next_step T.C_Book K) := by
  have G_Groups_put := ok_Groups_put (P := P) (w := w) (base := base) T
  have G_entries_of := ok_entries_of (P := P) (w := w) (base := base) T
  have G_groups_from := ok_groups_from (P := P) (w := w) (base := base) T
  have G_grown := ok_grown (P := P) (w := w) (base := base) T
  refine T.F_next_step.ok sc_next_step (fun vs H Q E h => ?_) (fun cdv A outer s H vs Q E hr h => ?_)
  · obtain ⟨k, P, q, a, rfl, _⟩ := h
    rfl
  · obtain ⟨k, P, q, a, rfl, hk, ok, ha, kk⟩ := h
    refine ⟨_, (pss_cons (ps_asg (pv 0) (pg_tup rfl (pgs_cons (pg_name (i := 9) sc_next_step.nd rfl (Or.inl rfl)) (pgs_cons (pg_name (i := 10) sc_next_step.nd rfl (Or.inl rfl)) (pgs_cons (pg_name (i := 11) sc_next_step.nd rfl (Or.inl rfl)) (pgs_cons (pg_name (i := 12) sc_next_step.nd rfl (Or.inl rfl)) pgs_nil))))))
      (pss_cons (ps_set (i := 2) sc_next_step.nd rfl (Or.inl rfl) (pe_callB (r := rLenQ K) (id := "len") call_len_seq (by rfl) T.z_len (by decide +kernel) (pa_cons (pv 10) pa_nil)))
      (pss_cons (ps_set (i := 3) sc_next_step.nd rfl (Or.inl rfl) (pe_call G_grown hr (by rfl) T.g_grown T.F_grown.kp T.b_grown .nil pass0 (pa_cons (pv 9) (pa_cons (pv 1) pa_nil))))
      (pss_cons (ps_set (i := 4) sc_next_step.nd rfl (Or.inl rfl) (pe_call G_groups_from (hr.mono (by decide)) (by rfl) T.g_groups_from T.F_groups_from.kp T.b_groups_from .nil pass0 (pa_cons (pv 11) (pa_cons (pv 12) pa_nil))))
      (pss_cons (ps_set (i := 5) sc_next_step.nd rfl (Or.inl rfl) (pe_meth (pv 4) T.cl_Groups T.m_Groups_put G_Groups_put (hr.mono (by decide)) T.b_Groups_put .nil pass0 (pa_cons (pv 3) (pa_cons (pv 2) pa_nil))))
      (pss_cons (ps_set (i := 6) sc_next_step.nd rfl (Or.inl rfl) (pe_tup (pa_cons (pv 5) (pa_cons (pe_callB (r := rLenQ K) (id := "len") call_len_seq (by rfl) T.z_len (by decide +kernel) (pa_cons (pe_ix (r := rIxL K) ix_list (pe_fld (pv 4) rfl) (pv 5) (fun _ _ => rfl)) pa_nil)) (pa_cons (pe_call G_entries_of (hr.mono (by decide)) (by rfl) T.g_entries_of T.F_entries_of.kp T.b_entries_of .nil pass0 (pa_cons (pv 3) (pa_cons (pe_fld (pv 4) rfl) (pa_cons (pv 2) pa_nil)))) pa_nil)))))
      (pss_cons (ps_set (i := 7) sc_next_step.nd rfl (Or.inl rfl) (pe_callTy (r := rTupQ K) (T := "tuple") call_tuple_of (by rfl) T.z_tuple (by decide +kernel) (pa_cons (pe_lc (own := [("lot", 13)]) (g := gName 13) (tt := tYes) rfl sc_next_step.nd (pi_list (pe_fld (pv 4) rfl)) (blkOk_by (own := [("lot", 13)]) (N := ["step", "parents", "x", "sheet_now", "groups_now", "slot", "triple", "lots_now", "held_now", "sheet", "triples", "lots", "held", "lot", "row"]) (sc := defScope s_next_step) (by decide +kernel)) (fun _ _ _ _ _ => (pg_name (i := 13) sc_next_step.nd rfl (Or.inl rfl))) (fun _ _ _ _ _ => pts_nil) (fun _ _ _ _ _ => (pe_callTy (r := rTupQ K) (T := "tuple") call_tuple_of (by rfl) T.z_tuple (by decide +kernel) (pa_cons (pv 13) pa_nil)))) pa_nil)))
      (pss_cons (ps_set (i := 8) sc_next_step.nd rfl (Or.inl rfl) (pe_callTy (r := rTupQ K) (T := "tuple") call_tuple_of (by rfl) T.z_tuple (by decide +kernel) (pa_cons (pe_lc (own := [("row", 14)]) (g := gName 14) (tt := tYes) rfl sc_next_step.nd (pi_list (pe_fld (pv 4) rfl)) (blkOk_by (own := [("row", 14)]) (N := ["step", "parents", "x", "sheet_now", "groups_now", "slot", "triple", "lots_now", "held_now", "sheet", "triples", "lots", "held", "lot", "row"]) (sc := defScope s_next_step) (by decide +kernel)) (fun _ _ _ _ _ => (pg_name (i := 14) sc_next_step.nd rfl (Or.inl rfl))) (fun _ _ _ _ _ => pts_nil) (fun _ _ _ _ _ => (pe_callTy (r := rTupQ K) (T := "tuple") call_tuple_of (by rfl) T.z_tuple (by decide +kernel) (pa_cons (pv 14) pa_nil)))) pa_nil)))
      (pss_one (ps_ret (pe_tup (pa_cons (pv 3) (pa_cons (pe_op op_catA (pv 10) (pe_tup (pa_cons (pv 6) pa_nil))) (pa_cons (pv 7) (pa_cons (pv 8) pa_nil))))))))))))))), ?_⟩
    have cG := T.cl_Groups
    have nG1 := T.n_Groups_lots
    have nG2 := T.n_Groups_held
    have hs := hk.here
    have few := ok.few
    rw [List.length_append] at few
    have few : P.length + 1 ≤ 400 := few
    have hq : ∀ x ∈ q, x < P.length := by
      have := (ok.ok P.length q (by rw [List.getElem?_append_right (Nat.le_refl _), Nat.sub_self]; rfl)).lt
      exact this
    obtain ⟨ts, hts, htl, hti⟩ := id hk.tri
    have est : L2.start ["step", "parents", "x", "sheet_now", "groups_now", "slot", "triple", "lots_now", "held_now", "sheet", "triples", "lots", "held", "lot", "row"] [V.ref k.s, V.ref a] = ([some (.ref k.s), some (.ref a), none, none, none, none, none, none, none, none, none, none, none, none, none] : L2.St) := rfl
    rw [est]
    have htn : ts.length = P.length := htl.trans (runT_len P P.length)
    tm_at "w"
    refine ⟨k.s, _, rfl, SqT.of hs, rfl, _, _, rfl, _, _, rfl, _, _, rfl, _, _, rfl, rfl, ?_⟩
    tm_at "w"
    rw [htn]
    refine ⟨k.b, a, P, q, rfl, hk.book, ha, hq, by omega, fun b' H1 mk => ?_⟩
    have s1 := mk.same
    have w1 : Sm _ _ := ⟨s1⟩
    clear s1
    have ok0 := run_ok P P.length
    have wl := ok0.wl
    have wd := ok0.wd
    tm_at "w"
    refine ⟨k.lo, k.he, _, _, rfl, hk.lots.tk (Same.tk w1.s), hk.held.tk (Same.tk w1.s), by omega, by omega, fun g dx l h B H2 sB hBg hG => ?_⟩
    rw [← st_of, ← runS_grown (q := q)] at hG
    have sB2 : Sm _ _ := ⟨Same.trans w1.s sB⟩
    have wB : Sm _ _ := ⟨sB⟩
    clear sB
    have pl : (P ++ [q]).length = P.length + 1 := by rw [List.length_append]; rfl
    tm_at "w"
    refine ⟨g, dx, _, rfl, hG.same _ _ hBg, grF_no _ _ (by decide +kernel) (by decide +kernel), ?_⟩
    tm_at "w"
    refine ⟨g, l, h, P.length, dx, b', P ++ [q], B, _, rfl, hBg, mk.here.same wB.s, by omega, by omega, hG, run_ok (P ++ [q]) P.length, fun H3 hG3 => ?_⟩
    have hG3 : G B H3 (RR l h) (runS (P ++ [q]) (P.length + 1)) := hG3
    obtain ⟨P', eP⟩ : ∃ P', P ++ [q] = P' := ⟨_, rfl⟩
    rw [eP] at hG3 mk pl
    have hg3 := hG3.same _ _ hBg
    have ok3 := run_ok P' (P.length + 1)
    have wd3 := ok3.wd
    have wl3 := ok3.wl
    obtain ⟨xs3, h1, h2, h3⟩ := hG3.at true
    have h1 : H3 h = some (.lst xs3) := h1
    obtain ⟨ys3, l1, l2, l3⟩ := hG3.at false
    have l1 : H3 l = some (.lst ys3) := l1
    have sl := (putD_len (P := P') (x := P.length) (run_ok P' P.length)).2
    have sl : putSlot P' (runS P' P.length false) (runS P' P.length true) P.length < (runS P' (P.length + 1) true).length := sl
    obtain ⟨ra, e1, e2⟩ := h3 _ _ (List.getElem?_eq_getElem sl)
    rw [eP]
    tm_at "w"
    refine ⟨l, h, P.length, b', P', B, runS P' (P.length + 1), rfl, (mk.here.same wB.s).same hG3.same, by omega, hG3, by omega, fun d hd => by have := ok3.rows d hd; omega, fun t H4 s4 ht => ?_⟩
    tm_at "w"
    intro tp ntp
    obtain ⟨H5, e5, s5, htp⟩ := new_hide (Same.new (o := .tup [.int ((putSlot P' (runS P' P.length false) (runS P' P.length true) P.length : Nat) : Int), .int ((natsV (runS P' (P.length + 1) true)[putSlot P' (runS P' P.length false) (runS P' P.length true) P.length]).length : Int), .ref t]) (Same.refl H4) ntp)
    have w4 : Sm _ _ := ⟨s4⟩
    clear s4
    rw [e5]
    have s35 : Sm _ _ := ⟨Same.trans w4.s s5⟩
    have w5 : Sm _ _ := ⟨s5⟩
    clear s5
    have hg5 := s35.s _ _ hg3
    have c6 := s35.s _ _ l1
    simp only [List.set_cons_zero, List.set_cons_succ]
    tm_at "w"
    refine ⟨⟨_, SqL.of c6⟩, fun L6 nL6 => lc_listR (RN fun i => (runS P' (P.length + 1) false).getD i []) (RN.tk _) c6 nL6 (by omega) ?_ ?_⟩
    · intro j x Hj N M hx sj kN
      have jl : j < (runS P' (P.length + 1) false).length := by rw [← l2]; exact (List.getElem?_eq_some_iff.mp hx).1
      obtain ⟨aj, q1, q2⟩ := l3 j _ (List.getElem?_eq_getElem jl)
      rw [hx] at q1
      obtain rfl := Option.some.inj q1
      have q3 := sj _ _ (s35.s _ _ q2)
      tm_at "w"
      exact fun tj ntj => kN _ _ (Same.new (Same.refl Hj) ntj) ⟨tj, rfl, by rw [upd_same]; show _ = some (HO.tup (natsV ((runS P' (P.length + 1) false).getD j []))); rw [getD_some (List.getElem?_eq_getElem jl)]⟩
    intro H6 ac1 s6 hL6 hlen6 hR6
    tm_at "w"
    intro lt nlt
    obtain ⟨H7, e7, s7, hlt⟩ := new_hide (Same.new (o := .tup ac1) (Same.refl H6) nlt)
    have w6 : Sm _ _ := ⟨s6⟩
    clear s6
    rw [e7]
    have p6 : ParAt H7 lt (runS P' (P.length + 1) false) := by
      have z := parL_of (H := H6) (n := (runS P' (P.length + 1) false).length) (hlen6.trans l2) hR6
      rw [range_getD] at z
      exact ⟨ac1, hlt, z.tk (Same.tk s7)⟩
    have s37 : Sm _ _ := ⟨Same.trans s35.s (Same.trans w6.s s7)⟩
    have w7 : Sm _ _ := ⟨s7⟩
    clear s7
    have hg7 := s37.s _ _ hg3
    have c8 := s37.s _ _ h1
    simp only [List.set_cons_zero, List.set_cons_succ]
    tm_at "w"
    refine ⟨⟨_, SqL.of c8⟩, fun L8 nL8 => lc_listR (RN fun i => (runS P' (P.length + 1) true).getD i []) (RN.tk _) c8 nL8 (by omega) ?_ ?_⟩
    · intro j x Hj N M hx sj kN
      have jl : j < (runS P' (P.length + 1) true).length := by rw [← h2]; exact (List.getElem?_eq_some_iff.mp hx).1
      obtain ⟨aj, q1, q2⟩ := h3 j _ (List.getElem?_eq_getElem jl)
      rw [hx] at q1
      obtain rfl := Option.some.inj q1
      have q3 := sj _ _ (s37.s _ _ q2)
      tm_at "w"
      exact fun tj ntj => kN _ _ (Same.new (Same.refl Hj) ntj) ⟨tj, rfl, by rw [upd_same]; show _ = some (HO.tup (natsV ((runS P' (P.length + 1) true).getD j []))); rw [getD_some (List.getElem?_eq_getElem jl)]⟩
    intro H8 ac2 s8 hL8 hlen8 hR8
    tm_at "w"
    intro ht2 nht2
    obtain ⟨H9, e9, s9, hht2⟩ := new_hide (Same.new (o := .tup ac2) (Same.refl H8) nht2)
    have w8 : Sm _ _ := ⟨s8⟩
    clear s8
    rw [e9]
    have p8 : ParAt H9 ht2 (runS P' (P.length + 1) true) := by
      have z := parL_of (H := H8) (n := (runS P' (P.length + 1) true).length) (hlen8.trans h2) hR8
      rw [range_getD] at z
      exact ⟨ac2, hht2, z.tk (Same.tk s9)⟩
    have s59 : Sm _ _ := ⟨Same.trans (Same.trans w6.s w7.s) (Same.trans w8.s s9)⟩
    have w9 : Sm _ _ := ⟨s9⟩
    clear s9
    have s39 : Sm _ _ := ⟨Same.trans s35.s s59.s⟩
    have sH3 : Sm H H3 := ⟨Same.trans sB2.s hG3.same⟩
    have sH9 : Sm _ _ := ⟨Same.trans sH3.s s39.s⟩
    tm_at "w"
    intro o1 no1
    obtain ⟨H10, e10, s10, ho1⟩ := new_hide (Same.new (o := .tup [.ref tp]) (Same.refl H9) no1)
    rw [e10]
    have hts10 := (Same.trans sH9.s s10) _ _ hts
    refine cat_any hts10 ho1 (Nat.le_trans (show _ ≤ 1000 by rw [htn]; show P.length + 1 ≤ 1000; omega) (by decide)) fun tr H11 s11 htr => ?_
    tm_at "w"
    intro fin nfin
    have s1112 : Same H11 (upd H11 fin (.tup [.ref b'.b, .ref tr, .ref lt, .ref ht2])) := Same.new (Same.refl H11) nfin
    have s912 := Same.trans (Same.trans s10 s11) s1112
    have s312 := Same.trans s39.s s912
    have e13 : P'.length = P.length + 1 := pl
    rw [eP] at kk
    refine kk ⟨fin, b', tr, lt, ht2⟩ _ (Same.trans sH3.s s312) ⟨upd_same, ((mk.here.same wB.s).same hG3.same).same s312, ?_, ?_, ?_⟩ ⟨mk.nb.e, mk.nl.e⟩
    · rw [e13]
      show SchAt _ tr (runT P' P.length ++ [tripB P' P.length])
      have eT : runT P' P.length = runT P P.length := by rw [← eP]; exact runT_grown
      rw [eT]
      have tkA := Same.tk (Same.trans sH9.s s912)
      have sc : ScL (upd H11 fin (.tup [.ref b'.b, .ref tr, .ref lt, .ref ht2])) ts (runT P P.length) := (ScL.tk ⟨htl, hti⟩ tkA)
      refine (sc.snoc (v := .ref tp) (e := tripB P' P.length) ⟨tp, t, rfl, ?_, ?_⟩).sch (s1112 _ _ htr)
      · rw [(Same.trans s59.s s912) _ _ htp, natsV_len]
        show _ = some (HO.tup [V.int (putSlot P' (runS P' P.length false) (runS P' P.length true) P.length : Nat), V.int (((runS P' (P.length + 1) true).getD (putSlot P' (runS P' P.length false) (runS P' P.length true) P.length) []).length : Nat), V.ref t])
        rw [getD_some (List.getElem?_eq_getElem sl)]
      · rw [(Same.trans w5.s (Same.trans s59.s s912)) _ _ ht]
        show _ = some (HO.tup (((entB P' (runS P' (P.length + 1) true) P.length).map fun z : Nat => (z : Int)).map V.int))
        rw [List.map_map]
        rfl
    · rw [e13]
      exact p6.tk (Same.tk (Same.trans (Same.trans w8.s w9.s) s912))
    · rw [e13]
      exact p8.tk (Same.tk s912)
/-! Runtime.__init__ -/
def rtF (st : Addr) : List (Str × V) := putF "steps" (.ref st) []
theorem rtF_eq (st : Addr) : rtF st = ([("steps", V.ref st)] : List (Str × V)) := rfl
theorem rtF_steps (st : Addr) : (rtF st).lookup ("steps" : Str) = some (.ref st) := by
  unfold rtF
  rw [lookup_putF, if_pos rfl]
theorem rtF_no (st : Addr) {m : Str} (h : ¬ m = "steps") : (rtF st).lookup m = none := by
  unfold rtF
  rw [lookup_putF, if_neg h]
  all_goals rfl
theorem rtF_put (st a : Addr) : putF "steps" (.ref a) (rtF st) = rtF a := by
  rw [rtF_eq, rtF_eq]
  show (if ("steps" : Str) = "steps" then [(("steps" : Str), V.ref a)] else _) = ([("steps", V.ref a)] : List (Str × V))
  rw [if_pos rfl]
/-- a runtime: its address, its dict, its steps' tuple, all its steps -/
structure Rk where
  r : Addr
  dx : Addr
  st : Addr
  ks : List Sk
structure RunAt (C CR : Addr) (H : Hp) (ρ : Rk) (P : List (List Nat)) : Prop where
  ins : H ρ.r = some (.ins CR ρ.dx (rtF ρ.st))
  steps : H ρ.st = some (.tup (ρ.ks.map fun k => V.ref k.s))
  len : ρ.ks.length = P.length + 1
  each : ∀ (i : Nat) k, ρ.ks[i]? = some k → StepAt C H k (P.take i)
  ne : ∀ k ∈ ρ.ks, k.b.b ≠ ρ.r ∧ k.b.lb ≠ ρ.r
  ok : OkP P
theorem StepAt.keep {C : Addr} {H H' : Hp} {k : Sk} {P : List (List Nat)} (h : StepAt C H k P) (tk : TK H H') (n1 : ∀ o, H k.b.b = some o → H' k.b.b = some o) (n2 : ∀ o, H k.b.lb = some o → H' k.b.lb = some o) : StepAt C H' k P :=
  ⟨tk _ _ h.here, ⟨n1 _ h.book.ins, h.book.par.tk tk, n2 _ h.book.bits⟩, h.tri.tk tk, h.lots.tk tk, h.held.tk tk⟩
section
variable {C CR : Addr} {H H' : Hp} {ρ : Rk} {P : List (List Nat)}
theorem RunAt.keep (h : RunAt C CR H ρ P) (tk : TK H H') (hr : ∀ o, H ρ.r = some o → H' ρ.r = some o) (hk : ∀ k ∈ ρ.ks, (∀ o, H k.b.b = some o → H' k.b.b = some o) ∧ (∀ o, H k.b.lb = some o → H' k.b.lb = some o)) : RunAt C CR H' ρ P :=
  ⟨hr _ h.ins, tk _ _ h.steps, h.len, fun i k e => (h.each i k e).keep tk (hk k (List.mem_of_getElem? e)).1 (hk k (List.mem_of_getElem? e)).2, h.ne, h.ok⟩
theorem RunAt.same (h : RunAt C CR H ρ P) (s : Same H H') : RunAt C CR H' ρ P := h.keep (Same.tk s) (fun o e => s _ _ e) fun k _ => ⟨fun o e => s _ _ e, fun o e => s _ _ e⟩
/-- the last step -/
theorem RunAt.top (h : RunAt C CR H ρ P) : ∃ k, ρ.ks[P.length]? = some k ∧ StepAt C H k P ∧ atI (ρ.ks.map fun k => V.ref k.s) (-1) = some (.ref k.s) := by
  have hl := h.len
  have e := List.getElem?_eq_getElem (show P.length < ρ.ks.length by omega)
  refine ⟨_, e, ?_, ?_⟩
  · have := h.each _ _ e
    rw [List.take_length] at this
    exact this
  · obtain ⟨xs, k, hx⟩ : ∃ xs k, ρ.ks = xs ++ [k] := ⟨ρ.ks.dropLast, _, (List.dropLast_concat_getLast (fun z => by rw [z] at hl; cases hl)).symm⟩
    have xl : xs.length = P.length := by rw [hx, List.length_append] at hl; exact Nat.succ.inj hl
    have ek : ρ.ks[P.length]'(by omega) = k := by
      have : ρ.ks[P.length]? = some k := by rw [hx, List.getElem?_append_right (by omega), xl, Nat.sub_self]; rfl
      rw [List.getElem?_eq_getElem (by omega)] at this
      exact Option.some.inj this
    rw [ek, hx, List.map_append]
    exact atI_last _ _
theorem RunAt.fv {φ : Fw} (h : RunAt C CR H ρ P) (m : Fv φ H H') (ob : ∀ k ∈ ρ.ks, Off φ k.b.lb) : RunAt C CR H' ρ P := by
  refine h.keep m.tk (fun o e => m.keep _ _ (m.was.offI h.ins) e) fun k hk => ?_
  obtain ⟨i, hi⟩ := List.mem_iff_getElem?.mp hk
  exact ⟨fun o e => m.keep _ _ (m.was.offI (h.each i k hi).book.ins) e, fun o e => m.keep _ _ (ob k hk) e⟩
theorem RunAt.list {l : Addr} {xs : List V} {o : HO} (h : RunAt C CR H ρ P) (hl : H l = some (.lst xs)) (nb : ∀ k ∈ ρ.ks, k.b.lb ≠ l) : RunAt C CR (upd H l o) ρ P := by
  refine h.keep (TK.mut hl) (fun o e => (upd_ne (fun z => by have := h.ins; rw [z, hl] at this; cases this)).trans e) fun k hk => ?_
  obtain ⟨i, hi⟩ := List.mem_iff_getElem?.mp hk
  exact ⟨fun o e => (upd_ne (fun z => by have := (h.each i k hi).book.ins; rw [z, hl] at this; cases this)).trans e, fun o e => (upd_ne (nb k hk)).trans e⟩
end
theorem StepNw.ne {H : Hp} {k : Sk} {r : Addr} {o : HO} (h : StepNw H k) (hr : H r = some o) : k.b.b ≠ r ∧ k.b.lb ≠ r := ⟨fun e => (by have := h.b; rw [e, hr] at this; cases this), fun e => (by have := h.lb; rw [e, hr] at this; cases this)⟩
local macro_rules | `(tactic| tm_at "fld") => `(tactic| refine ⟨_, _, _, _, _, rfl, by tm_at "hp", by assumption, by assumption, by first | exact rtF_steps _ | fail "fld", ?_⟩)
def sp_Runtime___init__ (C : Addr) (CR : Addr) (K : PySem.W.Frag) : Sp := fun vs H Q _ => ∃ (r dx : Addr), vs = [.ref r] ∧ H r = some (.ins CR dx []) ∧ ∀ st k H', But r H H' → RunAt C CR H' ⟨r, dx, st, [k]⟩ [] → StepNw H k → Q .non H'
theorem sc_Runtime___init__ : FnScope ["self"] ["self"] (defScope s_Runtime___init__) := ⟨rfl, rfl, rfl, by decide +kernel, rfl, by decide +kernel, by decide +kernel⟩
theorem ok_Runtime___init__ (T : Top P K mg) : FnOk P w K mg base CX0 9 T.f_Runtime___init__ T.fd_Runtime___init__ ["self"] (sp_Runtime___init__ T.C_Book T.C_Runtime K) := by
  have G_first_step := ok_first_step (P := P) (w := w) (base := base) T
  refine T.F_Runtime___init__.ok sc_Runtime___init__ (fun vs H Q E h => ?_) (fun cdv A outer s H vs Q E hr h => ?_)
  · obtain ⟨r, dx, rfl, _⟩ := h
    rfl
  · obtain ⟨r, dx, rfl, hr0, k⟩ := h
    refine ⟨_, (pss_one (ps_fld (pv 0) (pe_tup (pa_cons (pe_call0 G_first_step hr (by rfl) T.g_first_step T.F_first_step.kp T.b_first_step .nil pass0) pa_nil)) rfl)), ?_⟩
    have cR := T.cl_Runtime
    have nR := T.n_Runtime_steps
    tm_at "w"
    intro kk H1 s1 hk hn
    tm_at "w"
    intro st nst
    obtain ⟨H2, e2, s2, hst⟩ := new_hide (Same.new (o := .tup [.ref kk.s]) (Same.refl H1) nst)
    rw [e2]
    have hr2 := (Same.trans s1 s2) _ _ hr0
    obtain ⟨n1, n2⟩ := hn.ne hr0
    refine ⟨_, rfl, r, T.C_Runtime, dx, [], rfl, hr2, cR, nR, by decide, ?_⟩
    have tk : TK H2 (upd H2 r (.ins T.C_Runtime dx (rtF st))) := TK.mutI hr2
    have bt : But r H2 (upd H2 r (.ins T.C_Runtime dx (rtF st))) := fun a o n e => (upd_ne n).trans e
    refine k st kk _ (fun a o n e => bt a o n ((Same.trans s1 s2) a o e)) ⟨upd_same, tk _ _ hst, rfl, fun i k e => ?_, fun k hk => ?_, OkP.nil⟩ hn
    · cases i with
      | zero =>
        rw [← Option.some.inj e]
        exact (hk.same s2).keep tk (fun o e => bt _ _ n1 e) (fun o e => bt _ _ n2 e)
      | succ i => simp at e
    · rw [List.mem_singleton.mp hk]
      exact ⟨n1, n2⟩
/-! Runtime.many -/
local macro_rules | `(tactic| tm_at "fld") => `(tactic| refine ⟨_, _, _, _, _, rfl, by tm_at "hp", by assumption, by assumption, by first | exact rtF_steps _ | fail "fld", ?_⟩)
def sp_Runtime_many (C : Addr) (CR : Addr) (K : PySem.W.Frag) : Sp := fun vs H Q _ => ∃ (ρ : Rk) (P : List (List Nat)), vs = [.ref ρ.r] ∧ RunAt C CR H ρ P ∧ Q (.int (P.length : Int)) H
theorem sc_Runtime_many : FnScope ["self"] ["self"] (defScope s_Runtime_many) := ⟨rfl, rfl, rfl, by decide +kernel, rfl, by decide +kernel, by decide +kernel⟩
theorem ok_Runtime_many (T : Top P K mg) : FnOk P w K mg base CX0 1 T.f_Runtime_many T.fd_Runtime_many ["self"] (sp_Runtime_many T.C_Book T.C_Runtime K) := by
  refine T.F_Runtime_many.ok sc_Runtime_many (fun vs H Q E h => ?_) (fun cdv A outer s H vs Q E hr h => ?_)
  · obtain ⟨ρ, P, rfl, _⟩ := h
    rfl
  · obtain ⟨ρ, P, rfl, hR, k⟩ := h
    refine ⟨_, (pss_one (ps_ret (pe_op op_sub (pe_callB (r := rLenQ K) (id := "len") call_len_seq (by rfl) T.z_len (by decide +kernel) (pa_cons (pe_fld (pv 0) rfl) pa_nil)) pe_int))), ?_⟩
    have cR := T.cl_Runtime
    have nR := T.n_Runtime_steps
    have hi := hR.ins
    have hst := hR.steps
    tm_at "w"
    rw [List.length_map, hR.len]
    have e : ((P.length + 1 : Nat) : Int) - 1 = (P.length : Int) := by omega
    show Q (.int (((P.length + 1 : Nat) : Int) - 1)) H
    rw [e]
    exact k
/-! Runtime.load -/
theorem within_nat {v : V} {n : Nat} (h : withinB v 0 ((n : Int) - 1) = true) : ∃ x : Nat, v = .int (x : Int) ∧ x < n := by
  cases v with
  | int i =>
    have h : (decide (0 ≤ i) && decide (i ≤ (n : Int) - 1)) = true := h
    rw [Bool.and_eq_true, decide_eq_true_eq, decide_eq_true_eq] at h
    exact ⟨i.toNat, by rw [show ((i.toNat : Nat) : Int) = i by omega], by omega⟩
  | _ => cases h
theorem within_le {v : V} {n : Nat} (h : withinB v 0 (n : Int) = true) : ∃ x : Nat, v = .int (x : Int) ∧ x ≤ n := by
  obtain ⟨x, e, hx⟩ := within_nat (n := n + 1) (v := v) (by rw [show (((n + 1 : Nat) : Int) - 1) = (n : Int) by omega]; exact h)
  exact ⟨x, e, by omega⟩
theorem lot_nats {m : Int} : ∀ {xs : List V} {last : Int}, -1 ≤ last → lotFrom m last xs = true → ∃ q : List Nat, xs = natsV q ∧ q.Pairwise (· < ·) ∧ ∀ x ∈ q, last < (x : Int) ∧ (x : Int) < m
  | [], _, _, _ => ⟨[], rfl, List.Pairwise.nil, fun x hx => by cases hx⟩
  | .int i :: r, last, hl, h => by
    have h : (withinB (.int i) (last + 1) (m - 1) && lotFrom m i r) = true := h
    rw [Bool.and_eq_true] at h
    have h1 : (decide (last + 1 ≤ i) && decide (i ≤ m - 1)) = true := h.1
    rw [Bool.and_eq_true, decide_eq_true_eq, decide_eq_true_eq] at h1
    obtain ⟨q, e, hp, hq⟩ := lot_nats (xs := r) (last := i) (by omega) h.2
    refine ⟨i.toNat :: q, ?_, List.pairwise_cons.mpr ⟨fun y hy => by have := hq y hy; omega, hp⟩, fun x hx => ?_⟩
    · rw [e]
      show _ = V.int ((i.toNat : Nat) : Int) :: natsV q
      rw [show ((i.toNat : Nat) : Int) = i by omega]
    · rcases List.mem_cons.mp hx with e | e
      · rw [e]
        omega
      · have := hq x e
        omega
  | .bl _ :: _, _, _, h => by cases h
  | .non :: _, _, _, h => by cases h
  | .str _ :: _, _, _, h => by cases h
  | .ref _ :: _, _, _, h => by cases h
  | .ty _ :: _, _, _, h => by cases h
  | .flt _ :: _, _, _, h => by cases h
  | .byt _ :: _, _, _, h => by cases h
/-- whether a thing is the parents of a kind with a number -/
def parB (H : Hp) (v : V) (m : Int) : Bool := match v with
  | .ref a => match H a with
    | some (.tup xs) => lotFrom m (-1) xs && decide (xs.length ≤ 6)
    | _ => false
  | _ => false
theorem parB_tup {H : Hp} {a : Addr} {xs : List V} {m : Int} (h : H a = some (.tup xs)) : parB H (.ref a) m = (lotFrom m (-1) xs && decide (xs.length ≤ 6)) := by
  simp only [parB, h]
theorem parB_no {H : Hp} {v : V} {m : Int} (h : ∀ a xs, v = .ref a → H a ≠ some (.tup xs)) : parB H v m = false := by
  unfold parB
  split
  · split
    · rename_i a _ xs e
      exact absurd e (h a xs rfl)
    · rfl
  · rfl
theorem OkP.snoc {P : List (List Nat)} {q : List Nat} (h : OkP P) (hq : OkL q P.length) (hn : P.length < 400) : OkP (P ++ [q]) := by
  refine ⟨fun j r e => ?_, by rw [List.length_append]; exact hn⟩
  by_cases hj : j < P.length
  · rw [List.getElem?_append_left hj] at e
    exact h.ok j r e
  · rw [List.getElem?_append_right (by omega)] at e
    have := (List.getElem?_eq_some_iff.mp e).1
    rw [List.length_singleton] at this
    have z : j - P.length = 0 := by omega
    rw [z] at e
    have e : q = r := Option.some.inj e
    rw [← e, show j = P.length by omega]
    exact hq
local macro_rules | `(tactic| tm_at "fld") => `(tactic| refine ⟨_, _, _, _, _, rfl, by tm_at "hp", by assumption, by assumption, by first | exact rtF_steps _ | fail "fld", ?_⟩)
def sp_Runtime_load (C : Addr) (CR : Addr) (C_BadKind : Addr) (C_TooMany : Addr) (K : PySem.W.Frag) : Sp := fun vs H Q E => ∃ (ρ : Rk) (P : List (List Nat)) (v : V) (z : Addr), vs = [.ref ρ.r, v] ∧ RunAt C CR H ρ P ∧ KitC K C ∧ Th C z H 1 v ∧
  (∀ a q, v = .ref a → H a = some (.tup (natsV q)) → OkL q P.length → P.length < 400 → ∀ st k' H', But ρ.r H H' → RunAt C CR H' ⟨ρ.r, ρ.dx, st, ρ.ks ++ [k']⟩ (P ++ [q]) → StepNw H k' → Q (.int (P.length : Int)) H') ∧
  (parB H v P.length = false → E (.ref C_BadKind) none H) ∧
  (parB H v P.length = true → P.length = 400 → ∀ d H', Same H H' → H' d = some (.xd [("most", .int 400)]) → E (.ref C_TooMany) (some d) H')
theorem sc_Runtime_load : FnScope ["self", "parents", "number"] ["self", "parents"] (defScope s_Runtime_load) := ⟨rfl, rfl, rfl, by decide +kernel, rfl, by decide +kernel, by decide +kernel⟩
theorem ok_Runtime_load (T : Top P K mg) : FnOk P w K mg base (L2.CX P w) 9 T.f_Runtime_load T.fd_Runtime_load ["self", "parents"] (sp_Runtime_load T.C_Book T.C_Runtime T.C_BadKind T.C_TooMany K) := by
  have G_BadKind___init__ := ok_BadKind___init__ (P := P) (w := w) (base := base) T
  have G_Runtime_many := ok_Runtime_many (P := P) (w := w) (base := base) T
  have G_are_parents := ok_are_parents (P := P) (w := w) (base := base) T
  have G_check_most := ok_check_most (P := P) (w := w) (base := base) T
  have G_next_step := ok_next_step (P := P) (w := w) (base := base) T
  refine T.F_Runtime_load.okX sc_Runtime_load (fun vs H Q E h => ?_) (fun cdv A outer s H vs Q E hr h => ?_)
  · obtain ⟨ρ, P, v, z, rfl, _⟩ := h
    rfl
  · obtain ⟨ρ, P, v, z, rfl, hR, kc, ht, k, kb, km⟩ := h
    refine ⟨_, (pss_cons (ps_set (i := 2) sc_Runtime_load.nd rfl (Or.inl rfl) (pe_meth0 (pv 0) T.cl_Runtime T.m_Runtime_many G_Runtime_many (hr.mono (by decide)) T.b_Runtime_many .nil pass0))
      (pss_cons (ps_if (pt_not (pt_val (pe_call G_are_parents (hr.mono (by decide)) (by rfl) T.g_are_parents T.F_are_parents.kp T.b_are_parents .nil pass0 (pa_cons (pv 1) (pa_cons (pv 2) pa_nil))))) (pss_one (ps_raise rfl (takes_of rfl rfl rfl rfl) (pmk_n T.er_BadKind.ex T.er_BadKind.ic T.er_BadKind.ti G_BadKind___init__ (hr.mono (by decide)) T.er_BadKind.bi pass0 (by rfl) T.er_BadKind.g))) pss_nil)
      (pss_cons (ps_expr (pe_callS G_check_most (hr.mono (by decide)) (by rfl) T.g_check_most T.F_check_most.kp T.b_check_most (fun σ => passAt (takes_of rfl rfl rfl rfl) σ) (by exact (pa_cons (pe_op op_add (pv 2) pe_int) (pa_cons (pe_glob (v := .int 400) (by rfl) T.c_MOST_KINDS.choose_spec ⟨_, rfl⟩) pa_nil)))))
      (pss_cons (ps_fld (pv 0) (pe_op op_catA (pe_fld (pv 0) rfl) (pe_tup (pa_cons (pe_call G_next_step hr (by rfl) T.g_next_step T.F_next_step.kp T.b_next_step .nil pass0 (pa_cons (pe_ix (r := rIxT K) ix_tup (pe_fld (pv 0) rfl) (pe_un un_neg pe_int) (fun _ _ => rfl)) (pa_cons (pv 1) pa_nil))) pa_nil))) rfl)
      (pss_one (ps_ret (pv 2))))))), ?_⟩
    have cR := T.cl_Runtime
    have nR := T.n_Runtime_steps
    have hi := hR.ins
    have hst := hR.steps
    have hl := hR.len
    obtain ⟨kt, ekt, hkt, eat⟩ := hR.top
    tm_at "w"
    refine ⟨ρ.r, ρ.dx, _, rfl, hi, rtF_no _ (by decide +kernel), ?_⟩
    tm_at "w"
    refine ⟨ρ, P, rfl, hR, ?_⟩
    tm_at "w"
    obtain ⟨t, bt, ty, tt, hh⟩ := ht.ty kc
    rcases hh with ⟨rfl, no⟩ | ⟨a, xs, rfl, ha, rfl, hx, hi2⟩
    · refine ⟨v, t, false, _, rfl, ty, tt, .inl ⟨rfl, ?_⟩⟩
      refine ⟨_, rfl, iteT ?_⟩
      exact kb (parB_no no)
    · refine ⟨_, t, true, _, rfl, ty, tt, .inr ⟨a, xs, rfl, ha, rfl, fun x hx => (hi2 x hx).intK kc, ?_⟩⟩
      refine ⟨_, rfl, ?_⟩
      have ep := parB_tup (m := (P.length : Int)) ha
      rw [← ep]
      cases e : parB H (.ref a) (P.length : Int) with
      | false =>
        refine iteET (by rfl) ?_
        exact kb e
      | true =>
        refine iteEF (by rfl) ?_
        rw [e] at ep
        have ep := ep.symm
        rw [Bool.and_eq_true, decide_eq_true_eq] at ep
        obtain ⟨q, rfl, q1, q2⟩ := lot_nats (by decide) ep.1
        have ok : OkL q P.length := ⟨q1, fun x hx => by have := q2 x hx; omega, by have := ep.2; rw [natsV_len] at this; exact this⟩
        have few := hR.ok.few
        tm_at "w"
        refine ⟨_, _, rfl, fun hle => ?_, fun hgt d nd => ?_⟩
        · have h4 : P.length < 400 := by omega
          tm_at "w"
          refine ⟨_, _, _, _, rfl, rfl, SqT.of hst, eat, ?_⟩
          tm_at "w"
          refine ⟨kt, P, q, a, rfl, hkt, hR.ok.snoc ok h4, ha, fun k' H1 s1 hk hn => ?_⟩
          tm_at "w"
          intro o1 no1
          obtain ⟨H2, e2, s2, ho1⟩ := new_hide (Same.new (o := .tup [.ref k'.s]) (Same.refl H1) no1)
          rw [e2]
          refine cat_any ((Same.trans s1 s2) _ _ hst) ho1 (Nat.le_trans (show _ ≤ 1000 by rw [List.length_map, hl]; show P.length + 1 + 1 ≤ 1000; omega) (by decide)) fun st' H3 s3 hst' => ?_
          have s03 := Same.trans (Same.trans s1 s2) s3
          have hi3 := s03 _ _ hi
          obtain ⟨n1, n2⟩ := hn.ne hi
          refine ⟨_, rfl, ρ.r, T.C_Runtime, ρ.dx, _, rfl, hi3, cR, nR, by rw [rtF_eq]; show 1 < 1000; decide, ?_⟩
          rw [rtF_put]
          have tk : TK H3 (upd H3 ρ.r (.ins T.C_Runtime ρ.dx (rtF st'))) := TK.mutI hi3
          have bt : But ρ.r H3 (upd H3 ρ.r (.ins T.C_Runtime ρ.dx (rtF st'))) := fun a o n e => (upd_ne n).trans e
          tm_at "w"
          refine k a q rfl ha ok h4 st' k' _ (fun a o n e => bt a o n (s03 a o e)) ⟨upd_same, ?_, by rw [List.length_append, List.length_append, hl]; rfl, fun i kk e => ?_, fun kk hkk => ?_, hR.ok.snoc ok h4⟩ hn
          · rw [List.map_append]
            exact tk _ _ hst'
          · by_cases hi2 : i < ρ.ks.length
            · rw [List.getElem?_append_left hi2] at e
              rw [List.take_append_of_le_length (by omega)]
              obtain ⟨a1, a2⟩ := hR.ne kk (List.mem_of_getElem? e)
              exact ((hR.each i kk e).same s03).keep tk (fun o e => bt _ _ a1 e) (fun o e => bt _ _ a2 e)
            · rw [List.getElem?_append_right (by omega)] at e
              have := (List.getElem?_eq_some_iff.mp e).1
              rw [List.length_singleton] at this
              have z : i - ρ.ks.length = 0 := by omega
              rw [z] at e
              rw [← Option.some.inj e, List.take_of_length_le (by rw [List.length_append]; show P.length + 1 ≤ i; omega)]
              exact (hk.same (Same.trans s2 s3)).keep tk (fun o e => bt _ _ n1 e) (fun o e => bt _ _ n2 e)
          · rcases List.mem_append.mp hkk with h | h
            · exact hR.ne kk h
            · rw [List.mem_singleton.mp h]
              exact ⟨n1, n2⟩
        · exact km e (by omega) d _ (Same.new (Same.refl H) nd) upd_same
/-! Runtime.book -/
local macro_rules | `(tactic| tm_at "fld") => `(tactic| refine ⟨_, _, _, _, _, rfl, by tm_at "hp", by assumption, by assumption, by first | exact rtF_steps _ | fail "fld", ?_⟩)
def sp_Runtime_book (C : Addr) (CR : Addr) (K : PySem.W.Frag) : Sp := fun vs H Q _ => ∃ (ρ : Rk) (P : List (List Nat)), vs = [.ref ρ.r] ∧ RunAt C CR H ρ P ∧ ∀ b, BookAt C H b P → Q (.ref b.b) H
theorem sc_Runtime_book : FnScope ["self"] ["self"] (defScope s_Runtime_book) := ⟨rfl, rfl, rfl, by decide +kernel, rfl, by decide +kernel, by decide +kernel⟩
theorem ok_Runtime_book (T : Top P K mg) : FnOk P w K mg base CX0 1 T.f_Runtime_book T.fd_Runtime_book ["self"] (sp_Runtime_book T.C_Book T.C_Runtime K) := by
  refine T.F_Runtime_book.ok sc_Runtime_book (fun vs H Q E h => ?_) (fun cdv A outer s H vs Q E hr h => ?_)
  · obtain ⟨ρ, P, rfl, _⟩ := h
    rfl
  · obtain ⟨ρ, P, rfl, hR, k⟩ := h
    refine ⟨_, (pss_one (ps_ret (pe_ix (r := rIxT K) ix_tup (pe_ix (r := rIxT K) ix_tup (pe_fld (pv 0) rfl) (pe_un un_neg pe_int) (fun _ _ => rfl)) pe_int (fun _ _ => rfl)))), ?_⟩
    have cR := T.cl_Runtime
    have nR := T.n_Runtime_steps
    have hi := hR.ins
    have hst := hR.steps
    obtain ⟨kt, ekt, hkt, eat⟩ := hR.top
    have hs := hkt.here
    tm_at "w"
    refine ⟨_, _, _, _, rfl, rfl, SqT.of hst, eat, ?_⟩
    tm_at "w"
    exact k kt.b hkt.book
/-! Runtime.back -/
local macro_rules | `(tactic| tm_at "fld") => `(tactic| refine ⟨_, _, _, _, _, rfl, by tm_at "hp", by assumption, by assumption, by first | exact rtF_steps _ | fail "fld", ?_⟩)
def sp_Runtime_back (C : Addr) (CR : Addr) (K : PySem.W.Frag) : Sp := fun vs H Q _ => ∃ (ρ : Rk) (P : List (List Nat)), vs = [.ref ρ.r] ∧ RunAt C CR H ρ P ∧
  P ≠ [] ∧ (∀ st H', But ρ.r H H' → RunAt C CR H' ⟨ρ.r, ρ.dx, st, ρ.ks.dropLast⟩ P.dropLast → Q .non H')
theorem sc_Runtime_back : FnScope ["self"] ["self"] (defScope s_Runtime_back) := ⟨rfl, rfl, rfl, by decide +kernel, rfl, by decide +kernel, by decide +kernel⟩
theorem ok_Runtime_back (T : Top P K mg) : FnOk P w K mg base CX0 1 T.f_Runtime_back T.fd_Runtime_back ["self"] (sp_Runtime_back T.C_Book T.C_Runtime K) := by
  refine T.F_Runtime_back.ok sc_Runtime_back (fun vs H Q E h => ?_) (fun cdv A outer s H vs Q E hr h => ?_)
  · obtain ⟨ρ, P, rfl, _⟩ := h
    rfl
  · obtain ⟨ρ, P, rfl, hR, z, k⟩ := h
    refine ⟨_, (pss_cons (ps_if (pt_cmpR op_eq (pe_callB (r := rLenQ K) (id := "len") call_len_seq (by rfl) T.z_len (by decide +kernel) (pa_cons (pe_fld (pv 0) rfl) pa_nil)) pe_int (nomark _)) (pss_one ps_never) pss_nil)
      (pss_one (ps_fld (pv 0) (pe_slice sl_tupA (pe_fld (pv 0) rfl) po_none (po_some (pe_un un_neg pe_int))) rfl))), ?_⟩
    have cR := T.cl_Runtime
    have nR := T.n_Runtime_steps
    have hi := hR.ins
    have hst := hR.steps
    obtain ⟨kt, ekt, hkt, eat⟩ := hR.top
    have hs := hkt.here
    have hl := hR.len
    tm_at "w"
    have P0 := List.length_pos_iff.mpr z
    refine iteEF (by rw [List.length_map, hl, decide_eq_false (fun e => by have := V.int.inj e; omega)]) ?_
    tm_at "w"
    have dl : ρ.ks.dropLast.length = P.length := by rw [List.length_dropLast, hl]; rfl
    have eI : HT.sIx (ρ.ks.map fun k => V.ref k.s).length (ρ.ks.map fun k => V.ref k.s).length (some (-1)) = P.length := by
      rw [List.length_map, hl]
      show (if (-1 : Int) < 0 then ((-1 : Int) + ((P.length + 1 : Nat) : Int)).toNat else min (-1 : Int).toNat (P.length + 1)) = _
      rw [if_pos (by decide)]
      omega
    refine ⟨ρ.st, _, rfl, SqT.of hst, fun e => ?_, fun _ p np => ?_⟩
    · rw [eI, List.length_map, hl] at e
      omega
    · have ec : cutV (ρ.ks.map fun k => V.ref k.s) none (some (-1)) = ρ.ks.dropLast.map fun k => V.ref k.s := by
        unfold cutV
        rw [eI, show HT.sIx (ρ.ks.map fun k => V.ref k.s).length 0 none = 0 from rfl, List.drop_zero, Nat.sub_zero, List.map_dropLast, List.dropLast_eq_take, List.length_map, hl]
        rfl
      rw [ec]
      obtain ⟨H1, e1, s1, hp⟩ := new_hide (Same.new (o := .tup (ρ.ks.dropLast.map fun k => V.ref k.s)) (Same.refl H) np)
      rw [e1]
      have hi1 := s1 _ _ hi
      refine ⟨_, rfl, ρ.r, T.C_Runtime, ρ.dx, _, rfl, hi1, cR, nR, by rw [rtF_eq]; show 1 < 1000; decide, ?_⟩
      rw [rtF_put]
      have tk : TK H1 (upd H1 ρ.r (.ins T.C_Runtime ρ.dx (rtF p))) := TK.mutI hi1
      have bt : But ρ.r H1 (upd H1 ρ.r (.ins T.C_Runtime ρ.dx (rtF p))) := fun a o n e => (upd_ne n).trans e
      have sub : ∀ (i : Nat) kk, ρ.ks.dropLast[i]? = some kk → i < P.length ∧ ρ.ks[i]? = some kk := fun i kk e => by
        have il := (List.getElem?_eq_some_iff.mp e).1
        rw [dl] at il
        rw [List.getElem?_dropLast, if_pos (by rw [hl]; omega)] at e
        exact ⟨il, e⟩
      refine k p _ (fun a o n e => bt a o n (s1 a o e)) ⟨upd_same, tk _ _ hp, by rw [dl, List.length_dropLast]; omega, fun i kk e => ?_, fun kk hkk => hR.ne kk ((List.dropLast_sublist _).mem hkk), ?_⟩
      · obtain ⟨il, e'⟩ := sub i kk e
        obtain ⟨a1, a2⟩ := hR.ne kk (List.mem_of_getElem? e')
        have := ((hR.each i kk e').same s1).keep tk (fun o e => bt _ _ a1 e) (fun o e => bt _ _ a2 e)
        rw [List.dropLast_eq_take, List.take_take, Nat.min_eq_left (by omega)]
        exact this
      · rw [List.dropLast_eq_take]
        exact hR.ok.take _
/-! _law_spoilt -/
/-- no tuple of parents -/
theorem par_bad {H : Hp} {a : Addr} {xs : List V} {m : Nat} (h : H a = some (.tup xs)) (k : ∀ q : List Nat, xs = natsV q → q.Pairwise (· < ·) → (∀ x ∈ q, x < m) → q.length ≤ 6 → False) : parB H (.ref a) (m : Int) = false := by
  rw [parB_tup h]
  cases e : lotFrom (m : Int) (-1) xs && decide (xs.length ≤ 6) with
  | false => rfl
  | true =>
    rw [Bool.and_eq_true, decide_eq_true_eq] at e
    obtain ⟨q, rfl, q1, q2⟩ := lot_nats (by decide) e.1
    exact (k q rfl q1 (fun x hx => by have := q2 x hx; omega) (by have := e.2; rw [natsV_len] at this; exact this)).elim
theorem natsV_mem {v : V} {q : List Nat} (h : v ∈ natsV q) : ∃ k, k ∈ q ∧ v = .int (k : Int) := by
  unfold natsV at h
  obtain ⟨k, hk, rfl⟩ := List.mem_map.mp h
  exact ⟨k, hk, rfl⟩
theorem natsV_one : ∀ {q q' : List Nat}, natsV q = natsV q' → q = q'
  | [], [], _ => rfl
  | [], y :: r, h => by cases h
  | x :: r, [], h => by cases h
  | x :: r, y :: r', h => by
    have h : V.int (x : Int) :: natsV r = V.int (y : Int) :: natsV r' := h
    injection h with h1 h2
    have e := V.int.inj h1
    rw [natsV_one h2, show x = y by omega]
theorem natsV_take (q : List Nat) (n : Nat) : (natsV q).take n = natsV (q.take n) := by
  unfold natsV
  rw [List.map_take]
theorem natsV_drop (q : List Nat) (n : Nat) : (natsV q).drop n = natsV (q.drop n) := by
  unfold natsV
  rw [List.map_drop]
theorem natsV_cat (p q : List Nat) : natsV p ++ natsV q = natsV (p ++ q) := by
  unfold natsV
  rw [List.map_append]
theorem take_list {xs : List V} {k : Nat} (h : k ≤ xs.length) : cutV xs none (some (k : Int)) = xs.take k := by
  unfold cutV
  rw [show HT.sIx xs.length 0 none = 0 from rfl, HT.sIx_nat, List.drop_zero]
  congr 1
  omega
theorem drop_list {xs : List V} {k : Nat} (h : k ≤ xs.length) : cutV xs (some (k : Int)) none = xs.drop k := by
  unfold cutV
  rw [show HT.sIx xs.length xs.length none = xs.length from rfl, HT.sIx_nat, show min k xs.length = k by omega]
  exact List.take_of_length_le (by rw [List.length_drop]; omega)
theorem drop_ex {K : PySem.W.Frag} {H : Hp} {a : Addr} {xs : List V} {m : Nat} {Q : VK} (hx : H a = some (.tup xs)) (hm : m ≤ xs.length)
    (k : ∀ p H', Same H H' → H' p = some (.tup (xs.drop m)) → Q (.ref p) H') : rSlA K (.ref a) (some (m : Int)) none H Q := by
  refine ⟨a, xs, rfl, SqT.of hx, fun e => ?_, fun _ p np => ?_⟩
  · rw [HT.sIx_nat] at e
    refine k a H (Same.refl H) ?_
    by_cases g : m = 0
    · rw [g, List.drop_zero]; exact hx
    · have : xs.length = 0 := by omega
      omega
  · rw [drop_list hm]
    exact k p _ (Same.new (Same.refl H) np) upd_same
theorem at_in {L : List V} {r : Int} (h0 : 0 ≤ r) (h1 : r < (L.length : Int)) : ∃ v, atI L r = some v ∧ v ∈ L := by
  obtain ⟨j, rfl⟩ : ∃ j : Nat, r = j := ⟨r.toNat, by omega⟩
  have jl : j < L.length := by omega
  exact ⟨L[j], atI_nat (List.getElem?_eq_getElem jl), List.getElem_mem jl⟩
def sp__law_spoilt (C : Addr) (K : PySem.W.Frag) : Sp := fun vs H Q _ => ∃ (φ : Fw) (pa : Addr) (q : List Nat) (m : Nat), vs = [.ref φ.t, .ref pa, .int m] ∧ Flow φ H ∧ H pa = some (.tup (natsV q)) ∧ OkL q m ∧ m ≤ 400 ∧
  ∀ v H', Fv φ H H' → Th C φ.t H' 1 v → parB H' v m = false → Q v H'
theorem sc__law_spoilt : FnScope ["_law_flow_here", "_law_parents_here", "_law_many", "_law_way", "_law_at", "_law_more"] ["_law_flow_here", "_law_parents_here", "_law_many"] (defScope s__law_spoilt) := ⟨rfl, rfl, rfl, by decide +kernel, rfl, by decide +kernel, by decide +kernel⟩
theorem ok__law_spoilt (T : Top P K mg) : FnOk P w K mg base CX0 2 T.f__law_spoilt T.fd__law_spoilt ["_law_flow_here", "_law_parents_here", "_law_many"] (sp__law_spoilt T.C_Book K) := by
  have G__law_draw := ok__law_draw (P := P) (w := w) (base := base) T
  refine T.F__law_spoilt.ok sc__law_spoilt (fun vs H Q E h => ?_) (fun cdv A outer s H vs Q E hr h => ?_)
  · obtain ⟨φ, pa, q, m, rfl, _⟩ := h
    rfl
  · obtain ⟨φ, pa, q, m, rfl, f0, hpa, ok, hm, k⟩ := h
    refine ⟨_, (pss_cons (ps_set (i := 3) sc__law_spoilt.nd rfl (Or.inl rfl) (pe_call G__law_draw hr (by rfl) T.g__law_draw T.F__law_draw.kp T.b__law_draw .nil pass0 (pa_cons (pv 0) (pa_cons pe_int pa_nil))))
      (pss_cons (ps_set (i := 4) sc__law_spoilt.nd rfl (Or.inl rfl) (pe_call G__law_draw hr (by rfl) T.g__law_draw T.F__law_draw.kp T.b__law_draw .nil pass0 (pa_cons (pv 0) (pa_cons (pe_op op_add (pe_callB (r := rLenQ K) (id := "len") call_len_seq (by rfl) T.z_len (by decide +kernel) (pa_cons (pv 1) pa_nil)) pe_int) pa_nil))))
      (pss_cons (ps_set (i := 5) sc__law_spoilt.nd rfl (Or.inl rfl) (pe_call G__law_draw hr (by rfl) T.g__law_draw T.F__law_draw.kp T.b__law_draw .nil pass0 (pa_cons (pv 0) (pa_cons pe_int pa_nil))))
      (pss_cons (ps_if (pt_cmpR op_eq (pv 3) pe_int (nomark _)) (pss_one (ps_ret (pe_callTy (r := rListQ K) (T := "list") call_list_of (by rfl) T.z_list (by decide +kernel) (pa_cons (pv 1) pa_nil)))) pss_nil)
      (pss_cons (ps_if (pt_cmpR op_eq (pv 3) pe_int (nomark _)) (pss_one (ps_ret (pe_op op_catA (pe_op op_catA (pe_slice sl_tupA (pv 1) po_none (po_some (pv 4))) (pe_tup (pa_cons (pe_op op_add (pv 2) (pe_op op_mul (pv 5) (pe_op op_pow pe_int pe_int))) pa_nil))) (pe_slice sl_tupA (pv 1) (po_some (pv 4)) po_none)))) pss_nil)
      (pss_cons (ps_if (pt_cmpR op_eq (pv 3) pe_int (nomark _)) (pss_one (ps_ret (pe_op op_catA (pe_op op_catA (pe_slice sl_tupA (pv 1) po_none (po_some (pv 4))) (pe_tup (pa_cons (pe_op op_sub (pe_un un_neg pe_int) (pv 5)) pa_nil))) (pe_slice sl_tupA (pv 1) (po_some (pv 4)) po_none)))) pss_nil)
      (pss_cons (ps_if (pt_cmpR op_eq (pv 3) pe_int (nomark _)) (pss_one (ps_ret (pe_op op_catA (pe_op op_catA (pe_slice sl_tupA (pv 1) po_none (po_some (pv 4))) (pe_tup (pa_cons (pe_cmpR op_eq (pv 5) pe_int (nomark _)) pa_nil))) (pe_slice sl_tupA (pv 1) (po_some (pv 4)) po_none)))) pss_nil)
      (pss_cons (ps_if (pt_cmpR op_eq (pv 3) pe_int (nomark _)) (pss_one (ps_ret (pe_tupRg rfl (by rfl) T.z_tuple (prg_2 (by rfl) T.z_range (pe_op op_sub (pv 2) (pe_callB (id := "min") (call_min2 rfl) (by rfl) T.z_min (by decide +kernel) (pa_cons (pv 2) (pa_cons pe_int pa_nil)))) (pe_op op_add (pe_op op_sub (pv 2) (pe_callB (id := "min") (call_min2 rfl) (by rfl) T.z_min (by decide +kernel) (pa_cons (pv 2) (pa_cons pe_int pa_nil)))) pe_int))))) pss_nil)
      (pss_cons (ps_if (PW.pt (pw_and (pt_cmpR op_eq (pv 3) pe_int (nomark _)) (pw_and1 (pt_cmpR op_gt (pe_callB (r := rLenQ K) (id := "len") call_len_seq (by rfl) T.z_len (by decide +kernel) (pa_cons (pv 1) pa_nil)) pe_int (nomark _))))) (pss_one (ps_ret (pe_op op_catA (pe_op op_catA (pe_slice sl_tupA (pv 1) po_none (po_some (pv 4))) (pe_tup (pa_cons (pe_ix (r := rIxT K) ix_tup (pv 1) (pe_callB (id := "max") (call_max2 rfl) (by rfl) T.z_max (by decide +kernel) (pa_cons pe_int (pa_cons (pe_op op_sub (pv 4) pe_int) pa_nil))) (fun _ _ => rfl)) pa_nil))) (pe_slice sl_tupA (pv 1) (po_some (pv 4)) po_none)))) pss_nil)
      (pss_cons (ps_if (PW.pt (pw_and (pt_cmpR op_eq (pv 3) pe_int (nomark _)) (pw_and1 (pt_cmpR op_gt (pe_callB (r := rLenQ K) (id := "len") call_len_seq (by rfl) T.z_len (by decide +kernel) (pa_cons (pv 1) pa_nil)) pe_int (nomark _))))) (pss_one (ps_ret (pe_callTy (r := rTupQ K) (T := "tuple") call_tuple_of (by rfl) T.z_tuple (by decide +kernel) (pa_cons (pe_lstRevT rfl (by rfl) T.z_list (by rfl) T.z_reversed (pv 1)) pa_nil)))) pss_nil)
      (pss_cons (ps_if (pt_cmpR op_eq (pv 3) pe_int (nomark _)) (pss_one (ps_ret (pe_op op_catA (pe_op op_catA (pe_slice sl_tupA (pv 1) po_none (po_some (pv 4))) (pe_tup (pa_cons (pv 1) pa_nil))) (pe_slice sl_tupA (pv 1) (po_some (pv 4)) po_none)))) pss_nil)
      (pss_cons (ps_if (pt_cmpR op_eq (pv 3) pe_int (nomark _)) (pss_one (ps_ret (pe_op op_catA (pe_op op_catA (pe_slice sl_tupA (pv 1) po_none (po_some (pv 4))) (pe_tup (pa_cons pe_str pa_nil))) (pe_slice sl_tupA (pv 1) (po_some (pv 4)) po_none)))) pss_nil)
      (pss_one (ps_ret (pe_ix (r := rIxL K) ix_list (pe_lst (pa_cons pe_non (pa_cons pe_str (pa_cons pe_int pa_nil)))) (pv 5) (fun _ _ => rfl)))))))))))))))), ?_⟩
    have few := ok.few
    tm_at "w"
    refine ⟨φ, _, rfl, f0, by decide, by decide, fun w H1 m1 w0 w1 => ?_⟩
    have hpa1 := m1.atT hpa
    tm_at "w"
    rw [natsV_len]
    refine ⟨φ, _, rfl, m1.now, by omega, by omega, fun at0 H2 m2 a0 a1 => ?_⟩
    obtain ⟨at0, rfl⟩ : ∃ k : Nat, at0 = k := ⟨at0.toNat, by omega⟩
    have hpa2 := m2.atT hpa1
    have al : at0 ≤ q.length := by omega
    tm_at "w"
    refine ⟨φ, _, rfl, m2.now, by decide, by decide, fun more H3 m3 r0 r1 => ?_⟩
    have hpa3 := m3.atT hpa2
    have m03 := m1.trans (m2.trans m3)
    have op := m3.now.offT hpa3
    have fin : ∀ (X : V) (pe : Addr) (J : Hp), Same H3 J → J pe = some (.tup (((natsV q).take at0 ++ [X]) ++ (natsV q).drop at0)) → Th T.C_Book φ.t J 0 X →
        (∀ q' : List Nat, ((natsV q).take at0 ++ [X]) ++ (natsV q).drop at0 = natsV q' → q'.Pairwise (· < ·) → (∀ x ∈ q', x < m) → False) → Q (.ref pe) J := by
      intro X pe J s hpe hX bad
      have mJ := m03.same s
      refine k _ J mJ (.tup 0 pe _ (mJ.now.offT hpe).t hpe ?_ fun x hx => ?_) (par_bad hpe fun q' e p lt _ => bad q' e p lt)
      · rw [List.length_append, List.length_append, List.length_take, List.length_drop, natsV_len]
        show min at0 q.length + 1 + (q.length - at0) ≤ 1000
        omega
      · have nn : ∀ y ∈ natsV q, Th T.C_Book φ.t J 0 y := fun y hy => by
          obtain ⟨z, _, rfl⟩ := natsV_mem hy
          exact .int 0 _
        rcases List.mem_append.mp hx with hx | hx
        · rcases List.mem_append.mp hx with hx | hx
          · exact nn x (List.mem_of_mem_take hx)
          · rw [List.mem_singleton.mp hx]
            exact hX
        · exact nn x (List.mem_of_mem_drop hx)
    have none1 : ∀ (v : V) (J : Hp), Same H3 J → Th T.C_Book φ.t J 1 v → (∀ a xs, v = .ref a → J a ≠ some (.tup xs)) → Q v J := fun v J s th no => k v J (m03.same s) th (parB_no no)
    tm_at "w"
    refine iteI (fun z0 => ?_) (fun z0 => ?_)
    · tm_at "w"
      intro p np
      exact none1 _ _ (Same.new (Same.refl H3) np) (.lst 1 p _ (m3.now.off np).t upd_same) fun a xs e => by
        cases e
        rw [upd_same]
        intro y
        cases y
    tm_at "w"
    refine iteI (fun z1 => ?_) (fun z1 => ?_)
    · tm_at "w"
      refine slice_any (m := at0) hpa3 (by rw [natsV_len]; omega) fun pb J1 s1 hpb => ?_
      tm_at "w"
      skip
      intro ot not
      obtain ⟨J2, e2, s2, hot⟩ := new_hide (Same.new (o := .tup [.int ((m : Int) + more * (10 : Int) ^ (30 : Int).toNat)]) (Same.refl J1) not)
      rw [e2]
      refine cat_any (s2 _ _ hpb) hot (Nat.le_trans (show _ ≤ 1000 by rw [List.length_take, natsV_len]; show min at0 q.length + 1 ≤ 1000; omega) (by decide)) fun pc J3 s3 hpc => ?_
      have s23 := Same.trans s2 s3
      try unfold tNoPart
      tm_at "w"
      refine drop_ex (m := at0) (s23 _ _ (s1 _ _ hpa3)) (by rw [natsV_len]; omega) fun pd J4 s4 hpd => ?_
      refine cat_any (s4 _ _ hpc) hpd (Nat.le_trans (show _ ≤ 1000 by rw [List.length_append, List.length_take, List.length_drop, natsV_len]; show min at0 q.length + 1 + (q.length - at0) ≤ 1000; omega) (by decide)) fun pe J5 s5 hpe => ?_
      have s15 := Same.trans s1 (Same.trans s23 (Same.trans s4 s5))
      refine fin _ pe J5 s15 hpe (.int 0 _) fun q' e p lt => ?_
      have hx : (.int ((m : Int) + more * (10 : Int) ^ (30 : Int).toNat)) ∈ natsV q' := by rw [← e]; exact List.mem_append_left _ (List.mem_append_right _ (List.mem_singleton.mpr rfl))
      obtain ⟨y, hy, ey⟩ := natsV_mem hx
      have ey := V.int.inj ey
      have big : (0 : Int) ≤ more * (10 : Int) ^ (30 : Int).toNat := Int.mul_nonneg r0 (by decide +kernel)
      have := lt y hy
      omega
    tm_at "w"
    refine iteI (fun z2 => ?_) (fun z2 => ?_)
    · tm_at "w"
      refine slice_any (m := at0) hpa3 (by rw [natsV_len]; omega) fun pb J1 s1 hpb => ?_
      tm_at "w"
      skip
      intro ot not
      obtain ⟨J2, e2, s2, hot⟩ := new_hide (Same.new (o := .tup [.int (-1 - more)]) (Same.refl J1) not)
      rw [e2]
      refine cat_any (s2 _ _ hpb) hot (Nat.le_trans (show _ ≤ 1000 by rw [List.length_take, natsV_len]; show min at0 q.length + 1 ≤ 1000; omega) (by decide)) fun pc J3 s3 hpc => ?_
      have s23 := Same.trans s2 s3
      try unfold tNoPart
      tm_at "w"
      refine drop_ex (m := at0) (s23 _ _ (s1 _ _ hpa3)) (by rw [natsV_len]; omega) fun pd J4 s4 hpd => ?_
      refine cat_any (s4 _ _ hpc) hpd (Nat.le_trans (show _ ≤ 1000 by rw [List.length_append, List.length_take, List.length_drop, natsV_len]; show min at0 q.length + 1 + (q.length - at0) ≤ 1000; omega) (by decide)) fun pe J5 s5 hpe => ?_
      have s15 := Same.trans s1 (Same.trans s23 (Same.trans s4 s5))
      refine fin _ pe J5 s15 hpe (.int 0 _) fun q' e p lt => ?_
      have hx : (.int (-1 - more)) ∈ natsV q' := by rw [← e]; exact List.mem_append_left _ (List.mem_append_right _ (List.mem_singleton.mpr rfl))
      obtain ⟨y, hy, ey⟩ := natsV_mem hx
      have ey := V.int.inj ey
      omega
    tm_at "w"
    refine iteI (fun z3 => ?_) (fun z3 => ?_)
    · tm_at "w"
      refine slice_any (m := at0) hpa3 (by rw [natsV_len]; omega) fun pb J1 s1 hpb => ?_
      tm_at "w"
      skip
      intro ot not
      obtain ⟨J2, e2, s2, hot⟩ := new_hide (Same.new (o := .tup [.bl (decide (V.int more = V.int 1))]) (Same.refl J1) not)
      rw [e2]
      refine cat_any (s2 _ _ hpb) hot (Nat.le_trans (show _ ≤ 1000 by rw [List.length_take, natsV_len]; show min at0 q.length + 1 ≤ 1000; omega) (by decide)) fun pc J3 s3 hpc => ?_
      have s23 := Same.trans s2 s3
      try unfold tNoPart
      tm_at "w"
      refine drop_ex (m := at0) (s23 _ _ (s1 _ _ hpa3)) (by rw [natsV_len]; omega) fun pd J4 s4 hpd => ?_
      refine cat_any (s4 _ _ hpc) hpd (Nat.le_trans (show _ ≤ 1000 by rw [List.length_append, List.length_take, List.length_drop, natsV_len]; show min at0 q.length + 1 + (q.length - at0) ≤ 1000; omega) (by decide)) fun pe J5 s5 hpe => ?_
      have s15 := Same.trans s1 (Same.trans s23 (Same.trans s4 s5))
      refine fin _ pe J5 s15 hpe (.bl 0 _) fun q' e p lt => ?_
      have hx : (.bl (decide (V.int more = V.int 1))) ∈ natsV q' := by rw [← e]; exact List.mem_append_left _ (List.mem_append_right _ (List.mem_singleton.mpr rfl))
      obtain ⟨y, hy, ey⟩ := natsV_mem hx
      cases ey
    tm_at "w"
    refine iteI (fun z4 => ?_) (fun z4 => ?_)
    · tm_at "w"
      refine ⟨_, _, rfl, ?_⟩
      tm_at "w"
      refine ⟨_, _, rfl, ?_⟩
      tm_at "w"
      have mm : (if (7 : Int) < (m : Int) then (7 : Int) else (m : Int)) ≤ (m : Int) ∧ 0 ≤ (if (7 : Int) < (m : Int) then (7 : Int) else (m : Int)) := by
        split <;> omega
      intro p np
      revert np
      generalize hA : (m : Int) - (if (7 : Int) < (m : Int) then (7 : Int) else (m : Int)) = A
      intro np
      have len7 : (rgV A (A + 7)).length = 7 := by rw [rgV_length]; omega
      obtain ⟨J, e, s, hp⟩ := new_hide (Same.new (o := .tup (rgV A (A + 7))) (Same.refl H3) np)
      rw [e]
      refine k _ J (m03.same s) (.tup 0 p _ (m3.now.off np).t hp (by rw [len7]; decide) fun x hx => ?_) (par_bad hp fun q' e _ _ l6 => ?_)
      · unfold rgV at hx
        obtain ⟨y, _, rfl⟩ := List.mem_map.mp hx
        exact .int 0 _
      · have := congrArg List.length e
        rw [len7, natsV_len] at this
        omega
    have w59 : (w = 5 ∧ 0 < q.length) ∨ (w = 5 ∧ q.length = 0) ∨ (w = 6 ∧ 1 < q.length) ∨ (w = 6 ∧ q.length ≤ 1) ∨ w = 7 ∨ w = 8 ∨ w = 9 := by omega
    rcases w59 with ⟨rfl, ql⟩ | ⟨rfl, ql⟩ | ⟨rfl, ql⟩ | ⟨rfl, ql⟩ | rfl | rfl | rfl
    · tm_at "w"
      rw [natsV_len]
      refine iteET (decide_eq_true (by omega)) ?_
      obtain ⟨r, hr⟩ : ∃ r, q[at0 - 1]? = some r := ⟨_, List.getElem?_eq_getElem (by omega)⟩
      have er : (natsV q)[at0 - 1]? = some (V.int (r : Int)) := by unfold natsV; rw [List.getElem?_map, hr]; rfl
      have mx : (if (at0 : Int) - 1 > 0 then (at0 : Int) - 1 else 0) = ((at0 - 1 : Nat) : Int) := by split <;> omega
      tm_at "w"
      refine slice_any (m := at0) hpa3 (by rw [natsV_len]; omega) fun pb J1 s1 hpb => ?_
      tm_at "w"
      refine ⟨_, _, rfl, ?_⟩
      tm_at "w"
      refine ⟨_, _, _, _, rfl, rfl, SqT.of (s1 _ _ hpa3), (show atI (natsV q) (if (at0 : Int) - 1 > 0 then (at0 : Int) - 1 else 0) = some (V.int (r : Int)) by rw [mx]; exact atI_nat er), ?_⟩
      tm_at "w"
      intro ot not
      obtain ⟨J2, e2, s2, hot⟩ := new_hide (Same.new (o := .tup [.int (r : Int)]) (Same.refl J1) not)
      rw [e2]
      refine cat_any (s2 _ _ hpb) hot (Nat.le_trans (show _ ≤ 1000 by rw [List.length_take, natsV_len]; show min at0 q.length + 1 ≤ 1000; omega) (by decide)) fun pc J3 s3 hpc => ?_
      have s23 := Same.trans s2 s3
      try unfold tNoPart
      tm_at "w"
      refine drop_ex (m := at0) (s23 _ _ (s1 _ _ hpa3)) (by rw [natsV_len]; omega) fun pd J4 s4 hpd => ?_
      refine cat_any (s4 _ _ hpc) hpd (Nat.le_trans (show _ ≤ 1000 by rw [List.length_append, List.length_take, List.length_drop, natsV_len]; show min at0 q.length + 1 + (q.length - at0) ≤ 1000; omega) (by decide)) fun pe J5 s5 hpe => ?_
      have s15 := Same.trans s1 (Same.trans s23 (Same.trans s4 s5))
      refine fin _ pe J5 s15 hpe (.int 0 _) fun q' e p lt => ?_
      have e : natsV ((q.take at0 ++ [r]) ++ q.drop at0) = natsV q' := by
        rw [← e, natsV_take, natsV_drop, ← natsV_cat, ← natsV_cat]
        rfl
      have e := natsV_one e
      subst e
      obtain ⟨p1, _, p3⟩ := List.pairwise_append.mp p
      obtain ⟨_, _, p4⟩ := List.pairwise_append.mp p1
      by_cases z : at0 = 0
      · have : r ∈ q.drop at0 := by
          rw [z] at hr ⊢
          exact List.mem_of_getElem? hr
        exact Nat.lt_irrefl r (p3 r (List.mem_append_right _ (List.mem_singleton.mpr rfl)) r this)
      · have : r ∈ q.take at0 := List.mem_of_getElem? (i := at0 - 1) (by rw [List.getElem?_take, if_pos (by omega)]; exact hr)
        exact Nat.lt_irrefl r (p4 r this r (List.mem_singleton.mpr rfl))
    · tm_at "w"
      rw [natsV_len]
      refine iteEF (decide_eq_false (by omega)) ?_
      have hl : ∃ v, atI [V.non, V.str "", V.int 0] more = some v ∧ v ∈ [V.non, V.str "", V.int 0] := at_in r0 (show more < (([V.non, V.str "", V.int 0] : List V).length : Int) from r1)
      obtain ⟨v, ev, hv⟩ := hl
      tm_at "w"
      intro p np
      obtain ⟨J, e, s, hp⟩ := new_hide (Same.new (o := .lst [V.non, V.str "", V.int 0]) (Same.refl H3) np)
      rw [e]
      tm_at "w"
      refine ⟨_, _, _, _, rfl, rfl, SqL.of hp, ev, ?_⟩
      simp only [List.mem_cons, List.not_mem_nil, or_false] at hv
      rcases hv with rfl | rfl | rfl
      · exact none1 _ J s (.non 1) fun a xs e => by cases e
      · exact none1 _ J s (.str 1 _) fun a xs e => by cases e
      · exact none1 _ J s (.int 1 _) fun a xs e => by cases e
    · tm_at "w"
      rw [natsV_len]
      refine iteET (decide_eq_true (by omega)) ?_
      tm_at "w"
      refine ⟨pa, _, rfl, SqT.of hpa3, by rw [natsV_len]; omega, fun ls nls => ?_⟩
      obtain ⟨J1, e1, s1, hls⟩ := new_hide (Same.new (o := .lst (natsV q).reverse) (Same.refl H3) nls)
      rw [e1]
      tm_at "w"
      intro p np
      obtain ⟨J2, e2, s2, hp⟩ := new_hide (Same.new (o := .tup (natsV q).reverse) (Same.refl J1) np)
      rw [e2]
      have s12 := Same.trans s1 s2
      have mJ := m03.same s12
      refine k _ J2 mJ (.tup 0 p _ (mJ.now.offT hp).t hp (by rw [List.length_reverse, natsV_len]; omega) fun x hx => ?_) (par_bad hp fun q' e p _ _ => ?_)
      · obtain ⟨y, _, rfl⟩ := natsV_mem (List.mem_reverse.mp hx)
        exact .int 0 _
      · have e : natsV q.reverse = natsV q' := by
          rw [← e]
          unfold natsV
          rw [List.map_reverse]
        have e := natsV_one e
        subst e
        have p2 := List.pairwise_reverse.mp p
        have p1 := ok.asc
        cases q with
        | nil => simp at ql
        | cons x r =>
          cases r with
          | nil => simp at ql
          | cons y r =>
            have a1 := (List.pairwise_cons.mp p1).1 y List.mem_cons_self
            have a2 := (List.pairwise_cons.mp p2).1 y List.mem_cons_self
            omega
    · tm_at "w"
      rw [natsV_len]
      refine iteEF (decide_eq_false (by omega)) ?_
      have hl : ∃ v, atI [V.non, V.str "", V.int 0] more = some v ∧ v ∈ [V.non, V.str "", V.int 0] := at_in r0 (show more < (([V.non, V.str "", V.int 0] : List V).length : Int) from r1)
      obtain ⟨v, ev, hv⟩ := hl
      tm_at "w"
      intro p np
      obtain ⟨J, e, s, hp⟩ := new_hide (Same.new (o := .lst [V.non, V.str "", V.int 0]) (Same.refl H3) np)
      rw [e]
      tm_at "w"
      refine ⟨_, _, _, _, rfl, rfl, SqL.of hp, ev, ?_⟩
      simp only [List.mem_cons, List.not_mem_nil, or_false] at hv
      rcases hv with rfl | rfl | rfl
      · exact none1 _ J s (.non 1) fun a xs e => by cases e
      · exact none1 _ J s (.str 1 _) fun a xs e => by cases e
      · exact none1 _ J s (.int 1 _) fun a xs e => by cases e
    · tm_at "w"
      refine slice_any (m := at0) hpa3 (by rw [natsV_len]; omega) fun pb J1 s1 hpb => ?_
      tm_at "w"
      skip
      intro ot not
      obtain ⟨J2, e2, s2, hot⟩ := new_hide (Same.new (o := .tup [.ref pa]) (Same.refl J1) not)
      rw [e2]
      refine cat_any (s2 _ _ hpb) hot (Nat.le_trans (show _ ≤ 1000 by rw [List.length_take, natsV_len]; show min at0 q.length + 1 ≤ 1000; omega) (by decide)) fun pc J3 s3 hpc => ?_
      have s23 := Same.trans s2 s3
      try unfold tNoPart
      tm_at "w"
      refine drop_ex (m := at0) (s23 _ _ (s1 _ _ hpa3)) (by rw [natsV_len]; omega) fun pd J4 s4 hpd => ?_
      refine cat_any (s4 _ _ hpc) hpd (Nat.le_trans (show _ ≤ 1000 by rw [List.length_append, List.length_take, List.length_drop, natsV_len]; show min at0 q.length + 1 + (q.length - at0) ≤ 1000; omega) (by decide)) fun pe J5 s5 hpe => ?_
      have s15 := Same.trans s1 (Same.trans s23 (Same.trans s4 s5))
      refine fin _ pe J5 s15 hpe (.tup0 pa _ op.t ((Same.trans s1 (Same.trans s23 (Same.trans s4 s5))) _ _ hpa3)) fun q' e p lt => ?_
      have hx : (.ref pa) ∈ natsV q' := by rw [← e]; exact List.mem_append_left _ (List.mem_append_right _ (List.mem_singleton.mpr rfl))
      obtain ⟨y, hy, ey⟩ := natsV_mem hx
      cases ey
    · tm_at "w"
      refine slice_any (m := at0) hpa3 (by rw [natsV_len]; omega) fun pb J1 s1 hpb => ?_
      tm_at "w"
      skip
      intro ot not
      obtain ⟨J2, e2, s2, hot⟩ := new_hide (Same.new (o := .tup [.str "0"]) (Same.refl J1) not)
      rw [e2]
      refine cat_any (s2 _ _ hpb) hot (Nat.le_trans (show _ ≤ 1000 by rw [List.length_take, natsV_len]; show min at0 q.length + 1 ≤ 1000; omega) (by decide)) fun pc J3 s3 hpc => ?_
      have s23 := Same.trans s2 s3
      try unfold tNoPart
      tm_at "w"
      refine drop_ex (m := at0) (s23 _ _ (s1 _ _ hpa3)) (by rw [natsV_len]; omega) fun pd J4 s4 hpd => ?_
      refine cat_any (s4 _ _ hpc) hpd (Nat.le_trans (show _ ≤ 1000 by rw [List.length_append, List.length_take, List.length_drop, natsV_len]; show min at0 q.length + 1 + (q.length - at0) ≤ 1000; omega) (by decide)) fun pe J5 s5 hpe => ?_
      have s15 := Same.trans s1 (Same.trans s23 (Same.trans s4 s5))
      refine fin _ pe J5 s15 hpe (.str 0 _) fun q' e p lt => ?_
      have hx : (.str "0") ∈ natsV q' := by rw [← e]; exact List.mem_append_left _ (List.mem_append_right _ (List.mem_singleton.mpr rfl))
      obtain ⟨y, hy, ey⟩ := natsV_mem hx
      cases ey
    · have hl : ∃ v, atI [V.non, V.str "", V.int 0] more = some v ∧ v ∈ [V.non, V.str "", V.int 0] := at_in r0 (show more < (([V.non, V.str "", V.int 0] : List V).length : Int) from r1)
      obtain ⟨v, ev, hv⟩ := hl
      tm_at "w"
      intro p np
      obtain ⟨J, e, s, hp⟩ := new_hide (Same.new (o := .lst [V.non, V.str "", V.int 0]) (Same.refl H3) np)
      rw [e]
      tm_at "w"
      refine ⟨_, _, _, _, rfl, rfl, SqL.of hp, ev, ?_⟩
      simp only [List.mem_cons, List.not_mem_nil, or_false] at hv
      rcases hv with rfl | rfl | rfl
      · exact none1 _ J s (.non 1) fun a xs e => by cases e
      · exact none1 _ J s (.str 1 _) fun a xs e => by cases e
      · exact none1 _ J s (.int 1 _) fun a xs e => by cases e
/-! _law_load -/
theorem StepNw.back {H H' : Hp} {k : Sk} (h : StepNw H' k) (s : Same H H') : StepNw H k := ⟨Same.free s h.b, Same.free s h.lb⟩
theorem parB_same {C z : Addr} {H H' : Hp} {n : Nat} {v : V} (h : Th C z H n v) (s : Same H H') (m : Int) : parB H' v m = parB H v m := by
  cases h with
  | int _ i => rfl
  | bl _ b => rfl
  | non _ => rfl
  | str _ x => rfl
  | lst _ a xs h1 h2 => simp only [parB, h2, s _ _ h2]
  | dK _ a xs h1 h2 => simp only [parB, h2, s _ _ h2]
  | ins _ a dx fs h1 h2 => simp only [parB, h2, s _ _ h2]
  | tup0 a xs h1 h2 => simp only [parB, h2, s _ _ h2]
  | tup m a xs h1 h2 h3 h4 => simp only [parB, h2, s _ _ h2]
def sp__law_load (C : Addr) (CR : Addr) (K : PySem.W.Frag) : Sp := fun vs H Q _ => ∃ (ρ : Rk) (P : List (List Nat)) (v : V) (z : Addr), vs = [.ref ρ.r, v] ∧ RunAt C CR H ρ P ∧ KitC K C ∧ Th C z H 1 v ∧
  (∀ a q, v = .ref a → H a = some (.tup (natsV q)) → OkL q P.length → P.length < 400 → ∀ t st k' H', But ρ.r H H' → H' t = some (.tup [.str "number", .int (P.length : Int)]) → RunAt C CR H' ⟨ρ.r, ρ.dx, st, ρ.ks ++ [k']⟩ (P ++ [q]) → StepNw H k' → Q (.ref t) H') ∧
  (parB H v P.length = false → ∀ t H', Same H H' → H' t = some (.tup [.str "bad", .bl true]) → Q (.ref t) H') ∧
  (parB H v P.length = true → P.length = 400 → ∀ t H', Same H H' → H' t = some (.tup [.str "many", .int 400]) → Q (.ref t) H')
theorem sc__law_load : FnScope ["_law_runtime", "_law_parents_here", "_law_answer", "e"] ["_law_runtime", "_law_parents_here"] (defScope s__law_load) := ⟨rfl, rfl, rfl, by decide +kernel, rfl, by decide +kernel, by decide +kernel⟩
theorem ok__law_load (T : Top P K mg) : FnOk P w K mg base CX0 10 T.f__law_load T.fd__law_load ["_law_runtime", "_law_parents_here"] (sp__law_load T.C_Book T.C_Runtime K) := by
  have G_Runtime_load := ok_Runtime_load (P := P) (w := w) (base := base) T
  refine T.F__law_load.ok sc__law_load (fun vs H Q E h => ?_) (fun cdv A outer s H vs Q E hr h => ?_)
  · obtain ⟨ρ, P, v, z, rfl, _⟩ := h
    rfl
  · obtain ⟨ρ, P, v, z, rfl, hR, kc, ht, k, kb, km⟩ := h
    refine ⟨_, (pss_cons (ps_set (i := 2) sc__law_load.nd rfl (Or.inl rfl) (pe_tup (pa_cons pe_str pa_nil)))
      (pss_cons (ps_tries (Wout := fun _ _ _ _ => False) rfl rfl takes0 (fun W pn xe tk _ => (pss_one (ps_set (i := 2) sc__law_load.nd rfl (Or.inl rfl) (pe_tup (pa_cons pe_str (pa_cons (pe_methX (pv 0) T.cl_Runtime T.m_Runtime_load G_Runtime_load hr T.b_Runtime_load (fun σ => passAt tk σ) (by exact (pa_cons (pv 1) pa_nil))) pa_nil)))))) (.as (i := 3) sc__law_load.nd rfl rfl ⟨rfl, by decide, .inl T.er_BadKind.g⟩ (fun xa xo xc xd pn hz hf => (by exact (pss_one (ps_set (i := 2) sc__law_load.nd rfl (Or.inl rfl) (pe_tup (pa_cons pe_str (pa_cons (pe_and (pe_callB (r := rIsG K xa xc xd) (id := "isinstance") (call_isG hz hf) (by rfl) T.z_isinstance (by decide +kernel) (pa_cons (pv 3) (pa_cons (pe_glob (v := .ref T.C_KindError) (by rfl) T.g_KindError rfl) pa_nil))) (pe_one (pe_not (pe_callB (r := rIsG K xa xc xd) (id := "isinstance") (call_isG hz hf) (by rfl) T.z_isinstance (by decide +kernel) (pa_cons (pv 3) (pa_cons (pe_glob (v := .ref T.C_TooMany) (by rfl) T.er_TooMany.g rfl) pa_nil)))))) pa_nil))))))) (.as (i := 3) sc__law_load.nd rfl rfl ⟨rfl, by decide, .inl T.er_TooMany.g⟩ (fun xa xo xc xd pn hz hf => (by exact (pss_one (ps_set (i := 2) sc__law_load.nd rfl (Or.inl rfl) (pe_tup (pa_cons pe_str (pa_cons (pe_xf (C := T.C_TooMany) ⟨T.er_TooMany.xc.hg, T.er_TooMany.xc.hk, T.er_TooMany.xc.hs, T.er_TooMany.xc.hd⟩ T.na_TooMany hz hf (pv 3)) pa_nil))))))) .nil)))
      (pss_one (ps_ret (pv 2))))), ?_⟩
    tm_at "w"
    intro o1 no1
    obtain ⟨H1, e1, s1, ho1⟩ := new_hide (Same.new (o := .tup [.str "nothing"]) (Same.refl H) no1)
    rw [e1]
    have hR1 := hR.same s1
    have hi1 := hR1.ins
    have pb : parB H1 v P.length = parB H v P.length := parB_same ht s1 _
    have nr : o1 ≠ ρ.r := (ne_of_none hR.ins no1).symm
    tm_at "w"
    refine ⟨ρ.r, ρ.dx, _, rfl, hi1, rtF_no _ (by decide +kernel), ?_⟩
    tm_at "w"
    refine ⟨ρ, P, v, z, rfl, hR1, kc, ht.same s1, fun a q ev ha ok h4 st k' H2 bt hR2 hn => ?_, fun e => ?_, fun e h4 d H2 s2 hd => ?_⟩
    · tm_at "w"
      intro t nt
      obtain ⟨H3, e3, s3, ht3⟩ := new_hide (Same.new (o := .tup [.str "number", .int (P.length : Int)]) (Same.refl H2) nt)
      rw [e3]
      tm_at "w"
      have ha0 : H a = some (.tup (natsV q)) := by
        cases c : H a with
        | none =>
          subst ev
          cases ht with
          | lst _ _ xs h1 h2 => rw [c] at h2; cases h2
          | dK _ _ xs h1 h2 => rw [c] at h2; cases h2
          | ins _ _ dx fs h1 h2 => rw [c] at h2; cases h2
          | tup _ _ xs h1 h2 h3 h4 => rw [c] at h2; cases h2
        | some o =>
          have := s1 _ _ c
          rw [ha] at this
          rw [this]
      exact k a q ev ha0 ok h4 t st k' H3 (fun b o n e => s3 _ _ (bt b o n (s1 _ _ e))) ht3 (hR2.same s3) (hn.back s1)
    · refine ⟨true, T.xm_BadKind_BadKind, fun _ xa hxa => ?_, fun q => nomatch q⟩
      tm_at "w"
      refine ⟨T.er_BadKind.xc, _, _, true, rfl, (fun u r => r), T.kt_BadKind_KindError, ?_⟩
      tm_at "w"
      refine ⟨T.er_BadKind.xc, _, _, false, rfl, (fun u r => r), T.kt_BadKind_TooMany, ?_⟩
      tm_at "w"
      intro t nt
      show gName 2 (V.ref t) _ (upd H1 t (HO.tup [.str "bad", .bl true])) _
      obtain ⟨H3, e3, s3, ht3⟩ := new_hide (Same.new (o := .tup [.str "bad", .bl true]) (Same.refl H1) nt)
      rw [e3]
      tm_at "w"
      exact kb (by rw [← pb]; exact e) t _ (Same.trans s1 s3) ht3
    · refine ⟨false, T.xm_TooMany_BadKind, (fun q => by cases q), fun _ => ⟨true, T.xm_TooMany_TooMany, fun _ xa hxa => ?_, (fun q => by cases q)⟩⟩
      tm_at "w"
      refine ⟨d, _, .int 400, rfl, hd, rfl, ?_⟩
      tm_at "w"
      intro t nt
      obtain ⟨H3, e3, s3, ht3⟩ := new_hide (Same.new (o := .tup [.str "many", .int 400]) (Same.refl H2) nt)
      rw [e3]
      tm_at "w"
      exact km (by rw [← pb]; exact e) h4 t _ (Same.trans s1 (Same.trans s2 s3)) ht3
/-! _law_is -/
def sp__law_is (K : PySem.W.Frag) : Sp := fun vs H Q _ => ∃ (n : Int), vs = [.int n, .int n] ∧ Q (.bl true) H
theorem sc__law_is : FnScope ["_law_thing", "_law_due"] ["_law_thing", "_law_due"] (defScope s__law_is) := ⟨rfl, rfl, rfl, by decide +kernel, rfl, by decide +kernel, by decide +kernel⟩
theorem ok__law_is (T : Top P K mg) : FnOk P w K mg base CX0 4 T.f__law_is T.fd__law_is ["_law_thing", "_law_due"] (sp__law_is K) := by
  refine T.F__law_is.ok sc__law_is (fun vs H Q E h => ?_) (fun cdv A outer s H vs Q E hr h => ?_)
  · obtain ⟨n, rfl, _⟩ := h
    rfl
  · obtain ⟨n, rfl, k⟩ := h
    refine ⟨_, (pss_one (ps_ret (pe_and (pe_callB (r := rIsi K) (id := "isinstance") call_isi (by rfl) T.z_isinstance (by decide +kernel) (pa_cons (pv 0) (pa_cons (pe_bltn (v := .ty "int") (u := .type "int") (by rfl) T.z_int (by decide +kernel) rfl) pa_nil))) (pe_and (pe_not (pe_callB (r := rIsi K) (id := "isinstance") call_isi (by rfl) T.z_isinstance (by decide +kernel) (pa_cons (pv 0) (pa_cons (pe_bltn (v := .ty "bool") (u := .type "bool") (by rfl) T.z_bool (by decide +kernel) rfl) pa_nil)))) (pe_one (pe_cmpR op_eq (pv 0) (pv 1) (nomark _))))))), ?_⟩
    have i1 := int_int (K := K)
    have i2 := int_bool (K := K)
    have ti := ty_int (K := K) (H := H) n
    tm_at "w"
    rw [decide_eq_true rfl]
    exact k
/-! _law_loads -/
def sp__law_loads (C : Addr) (CR : Addr) (K : PySem.W.Frag) : Sp := fun vs H Q _ => ∃ (ρ : Rk) (P : List (List Nat)) (pa : Addr) (q : List Nat), vs = [.ref ρ.r, .ref pa, .int P.length] ∧ RunAt C CR H ρ P ∧ KitC K C ∧ H pa = some (.tup (natsV q)) ∧ OkL q P.length ∧ P.length < 400 ∧
  ∀ st k' H', But ρ.r H H' → RunAt C CR H' ⟨ρ.r, ρ.dx, st, ρ.ks ++ [k']⟩ (P ++ [q]) → StepNw H k' → Q (.bl true) H'
theorem sc__law_loads : FnScope ["_law_runtime", "_law_parents_here", "_law_due", "_law_answer"] ["_law_runtime", "_law_parents_here", "_law_due"] (defScope s__law_loads) := ⟨rfl, rfl, rfl, by decide +kernel, rfl, by decide +kernel, by decide +kernel⟩
theorem ok__law_loads (T : Top P K mg) : FnOk P w K mg base CX0 11 T.f__law_loads T.fd__law_loads ["_law_runtime", "_law_parents_here", "_law_due"] (sp__law_loads T.C_Book T.C_Runtime K) := by
  have G__law_is := ok__law_is (P := P) (w := w) (base := base) T
  have G__law_load := ok__law_load (P := P) (w := w) (base := base) T
  refine T.F__law_loads.ok sc__law_loads (fun vs H Q E h => ?_) (fun cdv A outer s H vs Q E hr h => ?_)
  · obtain ⟨ρ, P, pa, q, rfl, _⟩ := h
    rfl
  · obtain ⟨ρ, P, pa, q, rfl, hR, kc, hpa, ok, h4, k⟩ := h
    refine ⟨_, (pss_cons (ps_set (i := 3) sc__law_loads.nd rfl (Or.inl rfl) (pe_call G__law_load hr (by rfl) T.g__law_load T.F__law_load.kp T.b__law_load .nil pass0 (pa_cons (pv 0) (pa_cons (pv 1) pa_nil))))
      (pss_one (ps_ret (pe_and (pe_cmpR op_eq (pe_ix (r := rIxT K) ix_tup (pv 3) pe_int (fun _ _ => rfl)) pe_str (nomark _)) (pe_one (pe_call G__law_is (hr.mono (by decide)) (by rfl) T.g__law_is T.F__law_is.kp T.b__law_is .nil pass0 (pa_cons (pe_ix (r := rIxT K) ix_tup (pv 3) pe_int (fun _ _ => rfl)) (pa_cons (pv 2) pa_nil)))))))), ?_⟩
    obtain ⟨z, hz⟩ : ∃ z : Addr, pa ≠ z := ⟨pa + 1, Nat.ne_of_lt (Nat.lt_succ_self pa)⟩
    have th : Th T.C_Book z H 1 (.ref pa) := .tup 0 pa _ hz hpa (by rw [natsV_len]; exact Nat.le_trans ok.few (by decide)) fun x hx => by
      unfold natsV at hx
      obtain ⟨y, _, rfl⟩ := List.mem_map.mp hx
      exact .int 0 _
    have pt : parB H (.ref pa) P.length = true := by
      rw [parB_tup hpa, ok.lot]
    tm_at "w"
    refine ⟨ρ, P, .ref pa, z, rfl, hR, kc, th, fun a q' ea ha ok' h4' t st k' H1 bt ht hR1 hn => ?_, fun e => (by rw [pt] at e; cases e), fun _ e => (by omega)⟩
    cases ea
    have eq : q' = q := natsV_one (HO.tup.inj (Option.some.inj (ha.symm.trans hpa)))
    subst eq
    tm_at "w"
    exact k st k' H1 bt hR1 hn
/-! _law_stands -/
/-- a list of the parents of all kinds -/
def RwAt (H : Hp) (l : Addr) (P : List (List Nat)) : Prop := ∃ xs, H l = some (.lst xs) ∧ ParL H xs P
theorem RwAt.same {H H' : Hp} {l : Addr} {P : List (List Nat)} (h : RwAt H l P) (s : Same H H') : RwAt H' l P := by
  obtain ⟨xs, h1, h2⟩ := h
  exact ⟨xs, s _ _ h1, h2.tk (Same.tk s)⟩
local macro_rules | `(tactic| tm_at "fld") => `(tactic| refine ⟨_, _, _, _, _, rfl, by tm_at "hp", by assumption, by assumption, by first | exact rtF_steps _ | exact bkF_bits _ _ | exact bkF_parents _ _ | fail "fld", ?_⟩)
def sp__law_stands (C : Addr) (CR : Addr) (K : PySem.W.Frag) : Sp := fun vs H Q _ => ∃ (ρ : Rk) (l : Addr) (P : List (List Nat)), vs = [.ref ρ.r, .ref l] ∧ RunAt C CR H ρ P ∧ RwAt H l P ∧ ∀ H', Same H H' → Q (.bl true) H'
theorem sc__law_stands : FnScope ["_law_runtime", "_law_rows", "_law_book"] ["_law_runtime", "_law_rows"] (defScope s__law_stands) := ⟨rfl, rfl, rfl, by decide +kernel, rfl, by decide +kernel, by decide +kernel⟩
theorem ok__law_stands (T : Top P K mg) : FnOk P w K mg base CX0 7 T.f__law_stands T.fd__law_stands ["_law_runtime", "_law_rows"] (sp__law_stands T.C_Book T.C_Runtime K) := by
  have G_Book___eq__ := ok_Book___eq__ (P := P) (w := w) (base := base) T
  have G_Book___init__ := ok_Book___init__ (P := P) (w := w) (base := base) T
  have G_Runtime_book := ok_Runtime_book (P := P) (w := w) (base := base) T
  have G_Runtime_many := ok_Runtime_many (P := P) (w := w) (base := base) T
  have G__law_is := ok__law_is (P := P) (w := w) (base := base) T
  refine T.F__law_stands.ok sc__law_stands (fun vs H Q E h => ?_) (fun cdv A outer s H vs Q E hr h => ?_)
  · obtain ⟨ρ, l, P, rfl, _⟩ := h
    rfl
  · obtain ⟨ρ, l, P, rfl, hR, hw, k⟩ := h
    refine ⟨_, (pss_cons (ps_if (pt_not (pt_val (pe_call G__law_is (hr.mono (by decide)) (by rfl) T.g__law_is T.F__law_is.kp T.b__law_is .nil pass0 (pa_cons (pe_meth0 (pv 0) T.cl_Runtime T.m_Runtime_many G_Runtime_many (hr.mono (by decide)) T.b_Runtime_many .nil pass0) (pa_cons (pe_callB (r := rLenQ K) (id := "len") call_len_seq (by rfl) T.z_len (by decide +kernel) (pa_cons (pv 1) pa_nil)) pa_nil))))) (pss_one (ps_ret pe_bl)) pss_nil)
      (pss_cons (ps_set (i := 2) sc__law_stands.nd rfl (Or.inl rfl) (pe_meth0 (pv 0) T.cl_Runtime T.m_Runtime_book G_Runtime_book (hr.mono (by decide)) T.b_Runtime_book .nil pass0))
      (pss_cons (ps_if (PW.pt (pw_or (pt_not (pt_val (pe_callB (r := rIsi K) (id := "isinstance") call_isi (by rfl) T.z_isinstance (by decide +kernel) (pa_cons (pv 2) (pa_cons (pe_glob (v := .ref T.C_Book) (by rfl) T.g_Book rfl) pa_nil))))) (pw_or1 (pt_not (pt_val (pe_callB (r := rIsi K) (id := "isinstance") call_isi (by rfl) T.z_isinstance (by decide +kernel) (pa_cons (pe_fld (pv 2) rfl) (pa_cons (pe_bltn (v := .ty "tuple") (u := .type "tuple") (by rfl) T.z_tuple (by decide +kernel) rfl) pa_nil)))))))) (pss_one (ps_ret pe_bl)) pss_nil)
      (pss_one (ps_ret (pe_and (pe_cmpR (op_eqD hr.units) (pe_fld (pv 2) rfl) (pe_callTy (r := rTupQ K) (T := "tuple") call_tuple_of (by rfl) T.z_tuple (by decide +kernel) (pa_cons (pv 1) pa_nil)) (nomark _)) (pe_one (pe_cmpR (op_eqG (rcG_ins G_Book___eq__ T.m_Book___eq__.at_ T.m_Book___eq__.fn T.b_Book___eq__ pass0) (hr.mono (by decide))) (pv 2) (pe_make T.M_Book G_Book___init__ hr (by rfl) T.g_Book T.b_Book___init__ .nil pass0 (pa_cons (pe_callTy (r := rTupQ K) (T := "tuple") call_tuple_of (by rfl) T.z_tuple (by decide +kernel) (pa_cons (pv 1) pa_nil)) pa_nil)) (nomark _))))))))), ?_⟩
    have hi := hR.ins
    obtain ⟨xs, hx, hp⟩ := id hw
    have xl := hp.1
    tm_at "w"
    refine ⟨ρ.r, ρ.dx, _, rfl, hi, rtF_no _ (by decide +kernel), ?_⟩
    tm_at "w"
    refine ⟨ρ, P, rfl, hR, ?_⟩
    tm_at "w"
    rw [xl]
    refine ⟨(P.length : Int), rfl, _, rfl, ?_⟩
    refine iteF ?_
    tm_at "w"
    refine ⟨ρ.r, ρ.dx, _, rfl, hi, rtF_no _ (by decide +kernel), ?_⟩
    tm_at "w"
    refine ⟨ρ, P, rfl, hR, fun b hb => ?_⟩
    have hbi := hb.ins
    have cB := T.cl_Book
    have nB1 := T.n_Book_parents
    have hbp := hb.par
    obtain ⟨ys, hy, hyl⟩ := id hbp
    tm_at "w"
    refine ⟨_, _, _, _, _, rfl, ClsV.own _, own_ty (K := K) T.cl_Book T.ty_Book hbi, own_kit, ?_⟩
    have tt := ty_tup (K := K) hy
    have tu := tup_tup (K := K)
    tm_at "w"
    intro t1 nt1
    obtain ⟨H1, e1, s1, ht1⟩ := new_hide (Same.new (o := .tup xs) (Same.refl H) nt1)
    rw [e1]
    have hb1 := hb.same s1
    have hx1 := s1 _ _ hx
    refine ⟨.tuple (rowsD P), .tuple (rowsD P), dp_par hb1.par, dp_par ⟨_, ht1, hp.tk (Same.tk s1)⟩, rows_shaped P, rows_shaped P, ?_⟩
    rw [rows_refl]
    refine ⟨_, rfl, ?_⟩
    refine iteT ?_
    tm_at "w"
    intro t2 nt2
    obtain ⟨H2, e2, s2, ht2⟩ := new_hide (Same.new (o := .tup xs) (Same.refl H1) nt2)
    rw [e2]
    have s02 := Same.trans s1 s2
    refine mk_book (⟨_, ht2, hp.tk (Same.tk s02)⟩ : ParAt H2 t2 P) hR.ok fun b2 H3 mk2 _ => ?_
    have s03 := Same.trans s02 mk2.same
    have hb3 := hb.same s03
    tm_at "w"
    exact ⟨⟨b.b, b2.b, _, _, _, _, rfl, rfl, hb3.ins, mk2.here.ins, b, b2, P, rfl, rfl, hb3, mk2.here⟩, fun H' x => k H' (Same.trans s03 x)⟩
/-! _law_full -/
/-! ### chains beside one another -/
@[irreducible] def chP (s n : Nat) : List (List Nat) := (List.range n).map fun x => if x < s then [] else [x - s]
theorem chP_nil (s : Nat) : chP s 0 = [] := by unfold chP; rfl
theorem chP_len (s n : Nat) : (chP s n).length = n := by
  unfold chP
  rw [List.length_map, List.length_range]
theorem chP_snoc (s n : Nat) : chP s (n + 1) = chP s n ++ [if n < s then [] else [n - s]] := by
  unfold chP
  rw [List.range_succ, List.map_append]
  rfl
theorem chP_at {s n x : Nat} (h : x < n) : (chP s n)[x]? = some (if x < s then [] else [x - s]) := by
  unfold chP
  rw [List.getElem?_map, List.getElem?_range h]
  rfl
theorem ch_okL {s : Nat} (s0 : 0 < s) (n : Nat) : OkL (if n < s then [] else [n - s]) n := by
  split
  · exact ⟨List.Pairwise.nil, (fun x h => by cases h), by decide⟩
  · refine ⟨List.pairwise_cons.mpr ⟨(fun x h => by cases h), List.Pairwise.nil⟩, fun x h => ?_, by show 1 ≤ 6; decide⟩
    rw [List.mem_singleton.mp h]
    omega
theorem chP_ok {s : Nat} (s0 : 0 < s) : ∀ n, n ≤ 400 → OkP (chP s n)
  | 0, _ => by rw [chP_nil]; exact OkP.nil
  | n + 1, h => by
    rw [chP_snoc]
    have := (chP_ok s0 n (by omega)).snoc (q := if n < s then [] else [n - s]) (by rw [chP_len]; exact ch_okL s0 n) (by rw [chP_len]; omega)
    exact this
/-- a runtime and the list of its rows -/
structure Fu (C CR : Addr) (H : Hp) (ρ : Rk) (l : Addr) (P : List (List Nat)) : Prop where
  run : RunAt C CR H ρ P
  rows : RwAt H l P
  bl : ∀ k ∈ ρ.ks, k.b.lb ≠ l
section
variable {C CR : Addr} {H H' : Hp} {ρ ρ' : Rk} {l : Addr} {P P' : List (List Nat)} {k' : Sk}
theorem Fu.same (h : Fu C CR H ρ l P) (s : Same H H') : Fu C CR H' ρ l P := ⟨h.run.same s, h.rows.same s, h.bl⟩
theorem Fu.rl (h : Fu C CR H ρ l P) : l ≠ ρ.r := fun e => by
  obtain ⟨xs, hx, _⟩ := h.rows
  rw [e, h.run.ins] at hx
  cases hx
/-- the runtime is loaded, the list not yet -/
theorem Fu.but (h : Fu C CR H ρ l P) (bt : But ρ.r H H') : RwAt H' l P := by
  obtain ⟨xs, hx, hp⟩ := id h.rows
  exact ⟨xs, bt _ _ h.rl hx, hp.tk fun a zs z => bt _ _ (fun e => by rw [e, h.run.ins] at z; cases z) z⟩
theorem Fu.new (h : Fu C CR H ρ l P) (hn : StepNw H k') : ∀ k ∈ ρ.ks ++ [k'], k.b.lb ≠ l := fun k hk => by
  rcases List.mem_append.mp hk with hk | hk
  · exact h.bl k hk
  · obtain ⟨xs, hx, _⟩ := h.rows
    rw [List.mem_singleton.mp hk]
    exact fun e => by
      have := hn.lb
      rw [e, hx] at this
      cases this
theorem Fu.set {xs ys : List V} (h : Fu C CR H ρ l P) (hx : H l = some (.lst xs)) (hp : ParL H ys P') : RunAt C CR (upd H l (.lst ys)) ρ P ∧ RwAt (upd H l (.lst ys)) l P' :=
  ⟨h.run.list hx h.bl, ys, upd_same, hp.tk (TK.mut hx)⟩
end
theorem rw_but {C dx r : Addr} {fs : List (Str × V)} {H H' : Hp} {l : Addr} {P : List (List Nat)} (h : RwAt H l P) (hr : H r = some (.ins C dx fs)) (bt : But r H H') : RwAt H' l P := by
  obtain ⟨xs, hx, hp⟩ := h
  exact ⟨xs, bt _ _ (fun e => by rw [e, hr] at hx; cases hx) hx, hp.tk fun a zs z => bt _ _ (fun e => by rw [e, hr] at z; cases z) z⟩
theorem bl_new {ks : List Sk} {k' : Sk} {H : Hp} {l : Addr} {xs : List V} (h : ∀ k ∈ ks, k.b.lb ≠ l) (hx : H l = some (.lst xs)) (hn : StepNw H k') : ∀ k ∈ ks ++ [k'], k.b.lb ≠ l := fun k hk => by
  rcases List.mem_append.mp hk with hk | hk
  · exact h k hk
  · rw [List.mem_singleton.mp hk]
    exact fun e => by
      have := hn.lb
      rw [e, hx] at this
      cases this
theorem par_nil {H : Hp} {t : Addr} {m : Nat} (h : H t = some (.tup (natsV []))) : parB H (.ref t) (m : Int) = true := by
  rw [parB_tup h]
  rfl
def badD : PyData := .tuple [.str "bad", .bool true]
def manyD : PyData := .tuple [.str "many", .int 400]
theorem dp_bad {K : PySem.W.Frag} {H : Hp} {t : Addr} (h : H t = some (.tup [.str "bad", .bl true])) : Dp K H (.ref t) badD := .tup (SqT.of h) (.cons (.str _) (.cons (.bl _) .nil))
theorem dp_many {K : PySem.W.Frag} {H : Hp} {t : Addr} (h : H t = some (.tup [.str "many", .int 400])) : Dp K H (.ref t) manyD := .tup (SqT.of h) (.cons (.str _) (.cons (.int _) .nil))
theorem bad_shaped : SeqAt.shaped badD = true := by decide +kernel
theorem bad_refl : PyData.eqv badD badD = true := SeqAt.eqv_refl _ (SeqAt.canLay_of_shaped bad_shaped)
theorem many_shaped : SeqAt.shaped manyD = true := by decide +kernel
theorem many_refl : PyData.eqv manyD manyD = true := SeqAt.eqv_refl _ (SeqAt.canLay_of_shaped many_shaped)
theorem th_tup {C : Addr} {H : Hp} {t : Addr} {q : List Nat} (h : H t = some (.tup (natsV q))) (hl : q.length ≤ 1000) : Th C (t + 1) H 1 (.ref t) :=
  .tup 0 t _ (Nat.ne_of_lt (Nat.lt_succ_self t)) h (by rw [natsV_len]; exact hl) fun x hx => by
    obtain ⟨y, _, rfl⟩ := natsV_mem hx
    exact .int 0 _
/-- one number as parents -/
theorem par_one {H : Hp} {t : Addr} {n m : Nat} (h : H t = some (.tup (natsV [n]))) : parB H (.ref t) (m : Int) = decide (n < m) := by
  rw [parB_tup h]
  rw [show decide ((natsV [n]).length ≤ 6) = true from rfl, Bool.and_true]
  show (withinB (.int (n : Int)) (-1 + 1) ((m : Int) - 1) && true) = _
  rw [Bool.and_true]
  show (decide ((-1 : Int) + 1 ≤ (n : Int)) && decide ((n : Int) ≤ (m : Int) - 1)) = _
  rw [decide_eq_true (by omega), Bool.true_and]
  exact decide_eq_decide.mpr ⟨fun z => by omega, fun z => by omega⟩
theorem ParL.setAt {H : Hp} {vs : List V} {P : List (List Nat)} (h : ParL H vs P) (j : Nat) {a : Addr} {p : List Nat} (e : H a = some (.tup (natsV p))) : ParL H (vs.set j (.ref a)) (P.set j p) := by
  refine ⟨by rw [List.length_set, List.length_set]; exact h.1, fun i q hq => ?_⟩
  rw [List.getElem?_set] at hq ⊢
  by_cases z : j = i
  · rw [if_pos z] at hq ⊢
    have l := h.1
    split at hq
    · rw [if_pos (by omega)]
      exact ⟨a, rfl, by rw [← Option.some.inj hq]; exact e⟩
    · cases hq
  · rw [if_neg z] at hq ⊢
    exact h.2 i q hq
theorem drop_set {P : List (List Nat)} {q : List Nat} {n : Nat} (h : P.length = n + 1) : P.dropLast ++ [q] = P.set n q := by
  refine List.ext_getElem? fun j => ?_
  rw [List.getElem?_set]
  have dl : P.dropLast.length = n := by rw [List.length_dropLast]; omega
  by_cases c : j < n
  · rw [List.getElem?_append_left (by omega), List.getElem?_dropLast, if_pos (by omega), if_neg (by omega)]
  · rw [List.getElem?_append_right (by omega), dl]
    by_cases z : n = j
    · rw [if_pos z, if_pos (by omega), z, Nat.sub_self]
      rfl
    · rw [if_neg z, List.getElem?_eq_none (by rw [List.length_singleton]; omega), List.getElem?_eq_none (by omega)]
def sp__law_full (C : Addr) (CR : Addr) (K : PySem.W.Frag) : Sp := fun vs H Q _ => ∃ (φ : Fw) (ρ : Rk), vs = [.ref ρ.r, .ref φ.t] ∧ Flow φ H ∧ RunAt C CR H ρ [] ∧ KitC K C ∧ (∀ k ∈ ρ.ks, Off φ k.b.lb) ∧ ∀ H', Q (.bl true) H'
theorem sc__law_full : FnScope ["_law_runtime", "_law_flow_here", "_law_step", "_law_rows", "_law_number", "_law_turn"] ["_law_runtime", "_law_flow_here"] (defScope s__law_full) := ⟨rfl, rfl, rfl, by decide +kernel, rfl, by decide +kernel, by decide +kernel⟩
theorem ok__law_full (T : Top P K mg) : FnOk P w K mg base CX0 12 T.f__law_full T.fd__law_full ["_law_runtime", "_law_flow_here"] (sp__law_full T.C_Book T.C_Runtime K) := by
  have G_Runtime_back := ok_Runtime_back (P := P) (w := w) (base := base) T
  have G__law_draw := ok__law_draw (P := P) (w := w) (base := base) T
  have G__law_load := ok__law_load (P := P) (w := w) (base := base) T
  have G__law_loads := ok__law_loads (P := P) (w := w) (base := base) T
  have G__law_stands := ok__law_stands (P := P) (w := w) (base := base) T
  refine T.F__law_full.ok sc__law_full (fun vs H Q E h => ?_) (fun cdv A outer s H vs Q E hr h => ?_)
  · obtain ⟨φ, ρ, rfl, _⟩ := h
    rfl
  · obtain ⟨φ, ρ, rfl, f0, hR, kc, ob, k⟩ := h
    refine ⟨_, (pss_cons (ps_set (i := 2) sc__law_full.nd rfl (Or.inl rfl) (pe_op op_add pe_int (pe_call G__law_draw (hr.mono (by decide)) (by rfl) T.g__law_draw T.F__law_draw.kp T.b__law_draw .nil pass0 (pa_cons (pv 1) (pa_cons pe_int pa_nil)))))
      (pss_cons (ps_set (i := 3) sc__law_full.nd rfl (Or.inl rfl) (pe_lst pa_nil))
      (pss_cons (ps_for PassesOwn.never rfl (pi_range1 rfl T.z_range (pa_cons pe_int pa_nil)) (pg_name (i := 4) sc__law_full.nd rfl (Or.inl rfl))
      (C8.pss_cut (ps_expr (pe_bm PySem.F.plainAttrs_list PySem.F.slot_list_append PySem.F.type_list_append mt_append (pv 3) (pa_cons (pe_ifExp (pt_cmpR op_lt (pv 4) (pv 2) (nomark _)) (pe_tup pa_nil) (pe_tup (pa_cons (pe_op op_sub (pv 4) (pv 2)) pa_nil))) pa_nil)))
      (pss_one (ps_if (pt_not (pt_val (pe_call G__law_loads hr (by rfl) T.g__law_loads T.F__law_loads.kp T.b__law_loads .nil pass0 (pa_cons (pv 0) (pa_cons (pe_ix (r := rIxL K) ix_list (pv 3) (pe_un un_neg pe_int) (fun _ _ => rfl)) (pa_cons (pv 4) pa_nil)))))) (pss_one (ps_ret pe_bl)) pss_nil))))
      (pss_cons (ps_for PassesOwn.never rfl (pi_range1 rfl T.z_range (pa_cons pe_int pa_nil)) (pg_name (i := 5) sc__law_full.nd rfl (Or.inl rfl))
      (pss_cons (ps_if (PW.pt (pw_or (pt_not (pt_val (pe_call G__law_stands (hr.mono (by decide)) (by rfl) T.g__law_stands T.F__law_stands.kp T.b__law_stands .nil pass0 (pa_cons (pv 0) (pa_cons (pv 3) pa_nil))))) (pw_or1 (pt_cmpR (op_neD hr.units) (pe_call G__law_load (hr.mono (by decide)) (by rfl) T.g__law_load T.F__law_load.kp T.b__law_load .nil pass0 (pa_cons (pv 0) (pa_cons (pe_tup (pa_cons pe_int pa_nil)) pa_nil))) (pe_tup (pa_cons pe_str (pa_cons pe_bl pa_nil))) (nomark _))))) (pss_one (ps_ret pe_bl)) pss_nil)
      (pss_cons (ps_if (PW.pt (pw_or (pt_cmpR (op_neD hr.units) (pe_call G__law_load (hr.mono (by decide)) (by rfl) T.g__law_load T.F__law_load.kp T.b__law_load .nil pass0 (pa_cons (pv 0) (pa_cons (pe_lst (pa_cons (pe_tup pa_nil) pa_nil)) pa_nil))) (pe_tup (pa_cons pe_str (pa_cons pe_bl pa_nil))) (nomark _)) (pw_or1 (pt_cmpR (op_neD hr.units) (pe_call G__law_load (hr.mono (by decide)) (by rfl) T.g__law_load T.F__law_load.kp T.b__law_load .nil pass0 (pa_cons (pv 0) (pa_cons (pe_tup (pa_cons pe_int pa_nil)) pa_nil))) (pe_tup (pa_cons pe_str (pa_cons pe_int pa_nil))) (nomark _))))) (pss_one (ps_ret pe_bl)) pss_nil)
      (pss_cons (ps_if (PW.pt (pw_or (pt_cmpR (op_neD hr.units) (pe_call G__law_load (hr.mono (by decide)) (by rfl) T.g__law_load T.F__law_load.kp T.b__law_load .nil pass0 (pa_cons (pv 0) (pa_cons (pe_tup pa_nil) pa_nil))) (pe_tup (pa_cons pe_str (pa_cons pe_int pa_nil))) (nomark _)) (pw_or1 (pt_cmpR op_notN (pe_meth0 (pv 0) T.cl_Runtime T.m_Runtime_back G_Runtime_back (hr.mono (by decide)) T.b_Runtime_back .nil pass0) pe_non (nomark _))))) (pss_one (ps_ret pe_bl)) pss_nil)
      (pss_cons (ps_if (pt_cmpR (op_neD hr.units) (pe_call G__law_load (hr.mono (by decide)) (by rfl) T.g__law_load T.F__law_load.kp T.b__law_load .nil pass0 (pa_cons (pv 0) (pa_cons (pe_tup (pa_cons pe_int pa_nil)) pa_nil))) (pe_tup (pa_cons pe_str (pa_cons pe_bl pa_nil))) (nomark _)) (pss_one (ps_ret pe_bl)) pss_nil)
      (pss_cons (ps_asg (pe_tup (pa_cons (pv 5) (pa_cons pe_int pa_nil))) (pg_sub (pv 3) pe_int set_list))
      (pss_one (ps_if (pt_not (pt_val (pe_call G__law_loads hr (by rfl) T.g__law_loads T.F__law_loads.kp T.b__law_loads .nil pass0 (pa_cons (pv 0) (pa_cons (pe_ix (r := rIxL K) ix_list (pv 3) pe_int (fun _ _ => rfl)) (pa_cons pe_int pa_nil)))))) (pss_one (ps_ret pe_bl)) pss_nil))))))))
      (pss_one (ps_ret (pe_call G__law_stands (hr.mono (by decide)) (by rfl) T.g__law_stands T.F__law_stands.kp T.b__law_stands .nil pass0 (pa_cons (pv 0) (pa_cons (pv 3) pa_nil))))))))), ?_⟩
    tm_at "w"
    refine ⟨φ, _, rfl, f0, by decide, by decide, fun g H1 m1 g0 g1 => ?_⟩
    obtain ⟨s, hs⟩ : ∃ k : Nat, 1 + g = k := ⟨(1 + g).toNat, by omega⟩
    refine ⟨_, _, rfl, rfl, ?_⟩
    show gName 2 (V.int (1 + g)) _ _ _
    rw [hs]
    have s0 : 0 < s := by omega
    have hR1 := hR.fv m1 ob
    tm_at "w"
    intro l nl
    have fu0 : Fu T.C_Book T.C_Runtime (upd H1 l (.lst [])) ρ l [] := by
      refine ⟨hR1.same (Same.new (Same.refl H1) nl), ⟨[], upd_same, ParL.nil⟩, fun k hk => ?_⟩
      obtain ⟨i, hi⟩ := List.mem_iff_getElem?.mp hk
      exact ne_of_none (hR1.each i k hi).book.bits nl
    revert fu0
    generalize upd H1 l (.lst []) = H2
    intro fu0
    obtain ⟨N, hN⟩ : ∃ N : Nat, N = 400 := ⟨_, rfl⟩
    have est : L2.start ["_law_runtime", "_law_flow_here", "_law_step", "_law_rows", "_law_number", "_law_turn"] [V.ref ρ.r, V.ref φ.t] = ([some (.ref ρ.r), some (.ref φ.t), none, none, none, none] : L2.St) := rfl
    rw [est]
    tm_at "w"
    refine for_range (lo := 0) (n := (400 : Int).toNat) (fun i σ H' => ∃ (ρ' : Rk) (v4 : Option V), Fu T.C_Book T.C_Runtime H' ρ' l (chP s i) ∧ ρ'.r = ρ.r ∧ σ = [some (.ref ρ.r), some (.ref φ.t), some (.int (s : Int)), some (.ref l), v4, none]) ?_ ?_ ?_
    · exact ⟨ρ, none, by rw [chP_nil]; exact fu0, rfl, rfl⟩
    · rintro i σ H3 hi ⟨ρ', v4, fu, hr, rfl⟩
      rw [Int.zero_add]
      have hi : i < 400 := hi
      rw [← hr]
      obtain ⟨xs, hx, hp⟩ := id fu.rows
      have xl := hp.1
      rw [chP_len] at xl
      have okq := ch_okL s0 i
      have hsn := chP_snoc s i
      refine ⟨fun σ H' => σ = [some (.ref ρ'.r), some (.ref φ.t), some (.int (s : Int)), some (.ref l), some (.int (i : Int)), none] ∧ RunAt T.C_Book T.C_Runtime H' ρ' (chP s i) ∧ ∃ t, H' l = some (.lst (xs ++ [.ref t])) ∧ H' t = some (.tup (natsV (if i < s then [] else [i - s]))) ∧ ParL H' xs (chP s i), ?_, ?_⟩
      · have ld : ∀ (pa : Addr) (H4 : Hp), Same H3 H4 → H4 pa = some (.tup (natsV (if i < s then [] else [i - s]))) → RunAt T.C_Book T.C_Runtime (upd H4 l (.lst (xs ++ [.ref pa]))) ρ' (chP s i) ∧ ∃ t, (upd H4 l (.lst (xs ++ [.ref pa]))) l = some (.lst (xs ++ [.ref t])) ∧ (upd H4 l (.lst (xs ++ [.ref pa]))) t = some (.tup (natsV (if i < s then [] else [i - s]))) ∧ ParL (upd H4 l (.lst (xs ++ [.ref pa]))) xs (chP s i) := by
          intro pa H4 s4 hpa
          have hx4 := s4 _ _ hx
          have tk : TK H4 (upd H4 l (.lst (xs ++ [.ref pa]))) := TK.mut hx4
          exact ⟨(fu.run.same s4).list hx4 fu.bl, pa, upd_same, tk _ _ hpa, hp.tk (TK.trans (Same.tk s4) tk)⟩
        tm_at "w"
        refine iteD (fun z => ?_) (fun z => ?_)
        · have zi : i < s := by omega
          rw [if_pos zi] at ld ⊢
          tm_at "w"
          intro pa npa
          obtain ⟨H4, e4, s4, hpa⟩ := new_hide (Same.new (o := .tup []) (Same.refl H3) npa)
          rw [e4]
          have hx4 := s4 _ _ hx
          tm_at "w"
          exact ld pa H4 s4 hpa
        · have zi : ¬ i < s := by omega
          rw [if_neg zi] at ld ⊢
          have ei : (i : Int) - (s : Int) = ((i - s : Nat) : Int) := by omega
          tm_at "w"
          intro pa npa
          have s4 : Same H3 (upd H3 pa (.tup [V.int ((i : Int) - (s : Int))])) := Same.new (Same.refl H3) npa
          have hpa : (upd H3 pa (.tup [V.int ((i : Int) - (s : Int))])) pa = some (.tup (natsV [i - s])) := by
            rw [upd_same, ei]
            rfl
          revert s4 hpa
          show Same H3 (upd H3 pa (.tup [V.int ((i : Int) - (s : Int))])) → (upd H3 pa (.tup [V.int ((i : Int) - (s : Int))])) pa = _ → (fun x H1 => _) (V.ref pa) (upd H3 pa (.tup [V.int ((i : Int) - (s : Int))]))
          generalize upd H3 pa (.tup [V.int ((i : Int) - (s : Int))]) = H4
          intro s4 hpa
          have hx4 := s4 _ _ hx
          tm_at "w"
          exact ld pa H4 s4 hpa
      · rintro σ H4 ⟨rfl, hR4, t, hl4, ht4, hp4⟩
        tm_at "w"
        refine ⟨_, _, _, _, rfl, rfl, SqL.of hl4, atI_last _ _, ?_⟩
        tm_at "w"
        refine ⟨ρ', chP s i, t, _, by rw [chP_len]; rfl, hR4, kc, ht4, by rw [chP_len]; exact okq, by rw [chP_len]; exact hi, fun st' k' H5 bt hR5 hn5 => ?_⟩
        rw [← hsn] at hR5
        tm_at "w"
        have hw4 : RwAt H4 l (chP s i ++ [if i < s then [] else [i - s]]) := ⟨_, hl4, hp4.snoc ht4⟩
        rw [← hsn] at hw4
        exact ⟨⟨ρ'.r, ρ'.dx, st', ρ'.ks ++ [k']⟩, _, ⟨hR5, rw_but hw4 hR4.ins bt, bl_new fu.bl hl4 hn5⟩, rfl, rfl⟩
    · rintro σ H3 ⟨ρ', v4, fu, hr, rfl⟩
      rw [show (400 : Int).toNat = N by omega] at fu
      rw [← hr]
      tm_at "w"
      refine for_range (lo := 0) (n := (2 : Int).toNat) (fun i σ H' => ∃ (ρ2 : Rk) (P : List (List Nat)) (v4 v5 : Option V), Fu T.C_Book T.C_Runtime H' ρ2 l P ∧ ρ2.r = ρ'.r ∧ P.length = 400 ∧ σ = [some (.ref ρ'.r), some (.ref φ.t), some (.int (s : Int)), some (.ref l), v4, v5]) ?_ ?_ ?_
      · exact ⟨ρ', chP s N, _, _, fu, rfl, by rw [chP_len]; exact hN, rfl⟩
      · rintro i σ H4 hi ⟨ρ2, P, v4, v5, fu4, hr2, hP, rfl⟩
        rw [Int.zero_add]
        have hi : i < 2 := hi
        rw [← hr2]
        tm_at "w"
        refine ⟨ρ2, l, P, rfl, fu4.run, fu4.rows, fun H5 s5 => ?_⟩
        have fu5 := fu4.same s5
        tm_at "w"
        intro t1 nt1
        obtain ⟨H6, e6, s6, ht1⟩ := new_hide (Same.new (o := .tup [.int 400]) (Same.refl H5) nt1)
        rw [e6]
        have ht1 : H6 t1 = some (.tup (natsV [400])) := ht1
        have fu6 := fu5.same s6
        tm_at "w"
        refine ⟨ρ2, P, .ref t1, t1 + 1, rfl, fu6.run, kc, th_tup ht1 (by decide), fun _ _ _ _ _ h4 => (by omega), fun _ t2 H7 s7 ht2 => ?_, fun e => by rw [par_one ht1, hP] at e; exact absurd e (by decide)⟩
        have fu7 := fu6.same s7
        tm_at "w"
        intro t3 nt3
        obtain ⟨H8, e8, s8, ht3⟩ := new_hide (Same.new (o := .tup [.str "bad", .bl true]) (Same.refl H7) nt3)
        rw [e8]
        refine ⟨badD, badD, dp_bad (s8 _ _ ht2), dp_bad ht3, bad_shaped, bad_shaped, ?_⟩
        rw [bad_refl]
        have fu8 := fu7.same s8
        tm_at "w"
        intro t4 nt4
        obtain ⟨H9, e9, s9, ht4⟩ := new_hide (Same.new (o := .tup []) (Same.refl H8) nt4)
        rw [e9]
        tm_at "w"
        intro t5 nt5
        obtain ⟨H10, e10, s10, ht5⟩ := new_hide (Same.new (o := .lst [.ref t4]) (Same.refl H9) nt5)
        rw [e10]
        have fu10 := (fu8.same s9).same s10
        tm_at "w"
        refine ⟨ρ2, P, .ref t5, t5 + 1, rfl, fu10.run, kc, .lst 1 t5 _ (Nat.ne_of_lt (Nat.lt_succ_self t5)) ht5, fun _ _ _ _ _ h4 => (by omega), fun _ t6 H11 s11 ht6 => ?_, fun e => by rw [parB_no (fun a xs e => by cases e; rw [ht5]; intro y; cases y)] at e; cases e⟩
        have fu11 := fu10.same s11
        tm_at "w"
        intro t7 nt7
        obtain ⟨H12, e12, s12, ht7⟩ := new_hide (Same.new (o := .tup [.str "bad", .bl true]) (Same.refl H11) nt7)
        rw [e12]
        refine ⟨badD, badD, dp_bad (s12 _ _ ht6), dp_bad ht7, bad_shaped, bad_shaped, ?_⟩
        rw [bad_refl]
        have fu12 := fu11.same s12
        tm_at "w"
        intro t8 nt8
        obtain ⟨H13, e13, s13, ht8⟩ := new_hide (Same.new (o := .tup [.int 399]) (Same.refl H12) nt8)
        rw [e13]
        have ht8 : H13 t8 = some (.tup (natsV [399])) := ht8
        have fu13 := fu12.same s13
        tm_at "w"
        refine ⟨ρ2, P, .ref t8, t8 + 1, rfl, fu13.run, kc, th_tup ht8 (by decide), fun _ _ _ _ _ h4 => (by omega), fun e => (by rw [par_one ht8, hP] at e; exact absurd e (by decide)), fun _ _ t9 H14 s14 ht9 => ?_⟩
        have fu14 := fu13.same s14
        tm_at "w"
        intro t10 nt10
        obtain ⟨H15, e15, s15, ht10⟩ := new_hide (Same.new (o := .tup [.str "many", .int 400]) (Same.refl H14) nt10)
        rw [e15]
        refine ⟨manyD, manyD, dp_many (s15 _ _ ht9), dp_many ht10, many_shaped, many_shaped, ?_⟩
        rw [many_refl]
        have fu15 := fu14.same s15
        tm_at "w"
        intro t11 nt11
        obtain ⟨H16, e16, s16, ht11⟩ := new_hide (Same.new (o := .tup []) (Same.refl H15) nt11)
        rw [e16]
        have ht11 : H16 t11 = some (.tup (natsV [])) := ht11
        have fu16 := fu15.same s16
        tm_at "w"
        refine ⟨ρ2, P, .ref t11, t11 + 1, rfl, fu16.run, kc, th_tup ht11 (by decide), fun _ _ _ _ _ h4 => (by omega), fun e => (by rw [par_nil ht11] at e; cases e), fun _ _ t12 H17 s17 ht12 => ?_⟩
        have fu17 := fu16.same s17
        tm_at "w"
        intro t13 nt13
        obtain ⟨H18, e18, s18, ht13⟩ := new_hide (Same.new (o := .tup [.str "many", .int 400]) (Same.refl H17) nt13)
        rw [e18]
        refine ⟨manyD, manyD, dp_many (s18 _ _ ht12), dp_many ht13, many_shaped, many_shaped, ?_⟩
        rw [many_refl]
        have fu18 := fu17.same s18
        have hi18 := fu18.run.ins
        tm_at "w"
        refine ⟨ρ2.r, ρ2.dx, _, rfl, hi18, rtF_no _ (by decide +kernel), ?_⟩
        tm_at "w"
        have Pn : P ≠ [] := fun e => by rw [e] at hP; cases hP
        have dl : P.dropLast.length = 399 := by rw [List.length_dropLast, hP]
        refine ⟨ρ2, P, rfl, fu18.run, Pn, fun st' H19 bt hR19 => ?_⟩
        have hw19 := rw_but fu18.rows hi18 bt
        have bl19 : ∀ k ∈ ρ2.ks.dropLast, k.b.lb ≠ l := fun k hk => fu4.bl k ((List.dropLast_sublist _).mem hk)
        tm_at "w"
        intro t20 nt20
        obtain ⟨H20, e20, s20, ht20⟩ := new_hide (Same.new (o := .tup [.int 399]) (Same.refl H19) nt20)
        rw [e20]
        have ht20 : H20 t20 = some (.tup (natsV [399])) := ht20
        have hR20 := hR19.same s20
        tm_at "w"
        refine ⟨⟨ρ2.r, ρ2.dx, st', ρ2.ks.dropLast⟩, P.dropLast, .ref t20, t20 + 1, rfl, hR20, kc, th_tup ht20 (by decide), fun a q ea ha ok _ => ?_, fun _ t21 H21 s21 ht21 => ?_, fun _ e => (by omega)⟩
        · cases ea
          have eq : [399] = q := natsV_one (HO.tup.inj (Option.some.inj (ht20.symm.trans ha)))
          have := ok.lt 399 (by rw [← eq]; exact List.mem_cons_self)
          omega
        have hR21 := hR20.same s21
        have hw21 := (hw19.same s20).same s21
        tm_at "w"
        intro t22 nt22
        obtain ⟨H22, e22, s22, ht22⟩ := new_hide (Same.new (o := .tup [.str "bad", .bl true]) (Same.refl H21) nt22)
        rw [e22]
        refine ⟨badD, badD, dp_bad (s22 _ _ ht21), dp_bad ht22, bad_shaped, bad_shaped, ?_⟩
        rw [bad_refl]
        have hR22 := hR21.same s22
        obtain ⟨xs, hx22, hp22⟩ := hw21.same s22
        have xl : xs.length = 400 := hp22.1.trans hP
        tm_at "w"
        intro t23 nt23
        obtain ⟨H23, e23, s23, ht23⟩ := new_hide (Same.new (o := .tup [.int (i : Int), .int 398]) (Same.refl H22) nt23)
        rw [e23]
        have ht23 : H23 t23 = some (.tup (natsV [i, 398])) := ht23
        have hx23 := s23 _ _ hx22
        have hR23 := hR22.same s23
        have hp23 := hp22.tk (Same.tk s23)
        tm_at "w"
        refine ⟨l, xs, 399, 399, rfl, rfl, hx23, ixn_nat (j := 399) (by omega), ?_⟩
        have hR24 := hR23.list (o := .lst (xs.set 399 (.ref t23))) hx23 bl19
        have tk24 : TK H23 (upd H23 l (.lst (xs.set 399 (.ref t23)))) := TK.mut hx23
        have hl24 : (upd H23 l (.lst (xs.set 399 (.ref t23)))) l = some (.lst (xs.set 399 (.ref t23))) := upd_same
        revert hR24 tk24 hl24
        generalize upd H23 l (.lst (xs.set 399 (.ref t23))) = H24
        intro hR24 tk24 hl24
        have ht24 := tk24 _ _ ht23
        have hw24 : RwAt H24 l (P.dropLast ++ [[i, 398]]) := by
          rw [drop_set hP]
          exact ⟨_, hl24, (hp23.tk tk24).setAt 399 ht24⟩
        have at24 : (xs.set 399 (V.ref t23))[399]? = some (.ref t23) := by rw [List.getElem?_set, if_pos rfl, if_pos (by omega)]
        have ok24 : OkL [i, 398] P.dropLast.length := by
          rw [dl]
          refine ⟨List.pairwise_cons.mpr ⟨fun x hx => ?_, List.pairwise_cons.mpr ⟨(fun x hx => by cases hx), List.Pairwise.nil⟩⟩, fun x hx => ?_, by show 2 ≤ 6; decide⟩
          · rw [List.mem_singleton.mp hx]
            omega
          · simp only [List.mem_cons, List.not_mem_nil, or_false] at hx
            rcases hx with rfl | rfl
            · omega
            · decide
        tm_at "w"
        refine ⟨⟨ρ2.r, ρ2.dx, st', ρ2.ks.dropLast⟩, P.dropLast, t23, [i, 398], by rw [dl]; rfl, hR24, kc, ht24, ok24, by omega, fun st2 k2 H25 bt25 hR25 hn25 => ?_⟩
        tm_at "w"
        exact ⟨⟨ρ2.r, ρ2.dx, st2, ρ2.ks.dropLast ++ [k2]⟩, P.dropLast ++ [[i, 398]], _, _, ⟨hR25, rw_but hw24 hR24.ins bt25, bl_new bl19 hl24 hn25⟩, rfl, by rw [List.length_append, dl]; rfl, rfl⟩
      · rintro σ H4 ⟨ρ2, P, v4, v5, fu4, hr2, hP, rfl⟩
        rw [← hr2]
        tm_at "w"
        refine ⟨ρ2, l, P, rfl, fu4.run, fu4.rows, fun H5 s5 => ?_⟩
        tm_at "w"
        exact k _
/-! law -/
/-- the law's state -/
structure St64 (φ : Fw) (C CR : Addr) (H : Hp) (ρ : Rk) (l : Addr) (P : List (List Nat)) : Prop where
  flow : Flow φ H
  fu : Fu C CR H ρ l P
  ob : ∀ k ∈ ρ.ks, Off φ k.b.lb
  ol : Off φ l
section
variable {φ : Fw} {C CR : Addr} {H H' : Hp} {ρ ρ' : Rk} {l : Addr} {P : List (List Nat)}
theorem St64.fv (h : St64 φ C CR H ρ l P) (m : Fv φ H H') : St64 φ C CR H' ρ l P := by
  obtain ⟨xs, hx, hp⟩ := h.fu.rows
  exact ⟨m.now, ⟨h.fu.run.fv m h.ob, ⟨xs, m.keep _ _ h.ol hx, hp.tk m.tk⟩, h.fu.bl⟩, h.ob, h.ol⟩
theorem St64.same (h : St64 φ C CR H ρ l P) (s : Same H H') : St64 φ C CR H' ρ l P := h.fv (h.flow.fv.same s)
end
def sp_law (K : PySem.W.Frag) : Sp := fun vs H Q _ => ∃ (a : Addr) (ns : List Int), vs = [.ref a] ∧ SqL K H a (ns.map V.int) ∧ ns.length ≤ 63 ∧ ∀ H', Q (.bl true) H'
theorem sc_law : FnScope ["_law_script", "_law_flow_here", "_law_shape", "_law_wanted", "_law_runtime", "_law_rows", "_law_turn", "_law_is_spoilt", "_law_parents_here"] ["_law_script"] (defScope s_law) := ⟨rfl, rfl, rfl, by decide +kernel, rfl, by decide +kernel, by decide +kernel⟩
theorem ok_law (T : Top P K mg) : FnOk P w K mg base CX0 13 T.f_law T.fd_law ["_law_script"] (sp_law K) := by
  have G_Runtime___init__ := ok_Runtime___init__ (P := P) (w := w) (base := base) T
  have G__law_draw := ok__law_draw (P := P) (w := w) (base := base) T
  have G__law_flow := ok__law_flow (P := P) (w := w) (base := base) T
  have G__law_full := ok__law_full (P := P) (w := w) (base := base) T
  have G__law_load := ok__law_load (P := P) (w := w) (base := base) T
  have G__law_loads := ok__law_loads (P := P) (w := w) (base := base) T
  have G__law_parents := ok__law_parents (P := P) (w := w) (base := base) T
  have G__law_spoilt := ok__law_spoilt (P := P) (w := w) (base := base) T
  have G__law_stands := ok__law_stands (P := P) (w := w) (base := base) T
  refine T.F_law.ok sc_law (fun vs H Q E h => ?_) (fun cdv A outer s H vs Q E hr h => ?_)
  · obtain ⟨a, ns, rfl, _⟩ := h
    rfl
  · obtain ⟨a, ns, rfl, hS, hlen, k⟩ := h
    refine ⟨_, (pss_cons (ps_set (i := 1) sc_law.nd rfl (Or.inl rfl) (pe_call G__law_flow (hr.mono (by decide)) (by rfl) T.g__law_flow T.F__law_flow.kp T.b__law_flow .nil pass0 (pa_cons (pv 0) pa_nil)))
      (pss_cons (ps_if (pt_cmpR op_eq (pe_call G__law_draw (hr.mono (by decide)) (by rfl) T.g__law_draw T.F__law_draw.kp T.b__law_draw .nil pass0 (pa_cons (pv 1) (pa_cons pe_int pa_nil))) pe_int (nomark _)) (pss_one (ps_ret (pe_call G__law_full hr (by rfl) T.g__law_full T.F__law_full.kp T.b__law_full .nil pass0 (pa_cons (pe_make0 T.M_Runtime G_Runtime___init__ (hr.mono (by decide)) (by rfl) T.g_Runtime T.b_Runtime___init__ .nil pass0) (pa_cons (pv 1) pa_nil))))) pss_nil)
      (pss_cons (ps_set (i := 2) sc_law.nd rfl (Or.inl rfl) (pe_call G__law_draw (hr.mono (by decide)) (by rfl) T.g__law_draw T.F__law_draw.kp T.b__law_draw .nil pass0 (pa_cons (pv 1) (pa_cons pe_int pa_nil))))
      (pss_cons (ps_set (i := 3) sc_law.nd rfl (Or.inl rfl) (pe_op op_add pe_int (pe_call G__law_draw (hr.mono (by decide)) (by rfl) T.g__law_draw T.F__law_draw.kp T.b__law_draw .nil pass0 (pa_cons (pv 1) (pa_cons pe_int pa_nil)))))
      (pss_cons (ps_set (i := 4) sc_law.nd rfl (Or.inl rfl) (pe_make0 T.M_Runtime G_Runtime___init__ (hr.mono (by decide)) (by rfl) T.g_Runtime T.b_Runtime___init__ .nil pass0))
      (pss_cons (ps_set (i := 5) sc_law.nd rfl (Or.inl rfl) (pe_lst pa_nil))
      (pss_cons (ps_if (pt_not (pt_val (pe_call G__law_stands (hr.mono (by decide)) (by rfl) T.g__law_stands T.F__law_stands.kp T.b__law_stands .nil pass0 (pa_cons (pv 4) (pa_cons (pv 5) pa_nil))))) (pss_one (ps_ret pe_bl)) pss_nil)
      (pss_cons (ps_for PassesOwn.never rfl (pi_range1 rfl T.z_range (pa_cons (pv 3) pa_nil)) (pg_name (i := 6) sc_law.nd rfl (Or.inl rfl))
      (pss_cons (ps_set (i := 7) sc_law.nd rfl (Or.inl rfl) (pe_cmpR op_eq (pe_call G__law_draw (hr.mono (by decide)) (by rfl) T.g__law_draw T.F__law_draw.kp T.b__law_draw .nil pass0 (pa_cons (pv 1) (pa_cons pe_int pa_nil))) pe_int (nomark _)))
      (pss_cons (ps_set (i := 8) sc_law.nd rfl (Or.inl rfl) (pe_call G__law_parents (hr.mono (by decide)) (by rfl) T.g__law_parents T.F__law_parents.kp T.b__law_parents .nil pass0 (pa_cons (pv 1) (pa_cons (pe_callB (r := rLenQ K) (id := "len") call_len_seq (by rfl) T.z_len (by decide +kernel) (pa_cons (pv 5) pa_nil)) (pa_cons (pv 2) pa_nil)))))
      (C8.pss_cut (ps_if (pt_val (pv 7)) (pss_cons (ps_if (pt_cmpR (op_neD hr.units) (pe_call G__law_load (hr.mono (by decide)) (by rfl) T.g__law_load T.F__law_load.kp T.b__law_load .nil pass0 (pa_cons (pv 4) (pa_cons (pe_call G__law_spoilt (hr.mono (by decide)) (by rfl) T.g__law_spoilt T.F__law_spoilt.kp T.b__law_spoilt .nil pass0 (pa_cons (pv 1) (pa_cons (pv 8) (pa_cons (pe_callB (r := rLenQ K) (id := "len") call_len_seq (by rfl) T.z_len (by decide +kernel) (pa_cons (pv 5) pa_nil)) pa_nil)))) pa_nil))) (pe_tup (pa_cons pe_str (pa_cons pe_bl pa_nil))) (nomark _)) (pss_one (ps_ret pe_bl)) pss_nil)
      (pss_one (ps_if (pt_not (pt_val (pe_call G__law_stands (hr.mono (by decide)) (by rfl) T.g__law_stands T.F__law_stands.kp T.b__law_stands .nil pass0 (pa_cons (pv 4) (pa_cons (pv 5) pa_nil))))) (pss_one (ps_ret pe_bl)) pss_nil))) pss_nil)
      (pss_cons (ps_if (pt_not (pt_val (pe_call G__law_loads (hr.mono (by decide)) (by rfl) T.g__law_loads T.F__law_loads.kp T.b__law_loads .nil pass0 (pa_cons (pv 4) (pa_cons (pv 8) (pa_cons (pe_callB (r := rLenQ K) (id := "len") call_len_seq (by rfl) T.z_len (by decide +kernel) (pa_cons (pv 5) pa_nil)) pa_nil)))))) (pss_one (ps_ret pe_bl)) pss_nil)
      (pss_cons (ps_expr (pe_bm PySem.F.plainAttrs_list PySem.F.slot_list_append PySem.F.type_list_append mt_append (pv 5) (pa_cons (pv 8) pa_nil)))
      (pss_one (ps_if (pt_not (pt_val (pe_call G__law_stands (hr.mono (by decide)) (by rfl) T.g__law_stands T.F__law_stands.kp T.b__law_stands .nil pass0 (pa_cons (pv 4) (pa_cons (pv 5) pa_nil))))) (pss_one (ps_ret pe_bl)) pss_nil))))))))
      (pss_one (ps_ret pe_bl)))))))))), ?_⟩
    have kc : KitC K T.C_Book := ⟨T.cl_Book, T.ty_Book, T.kt_Book_int, T.kt_Book_bool, T.kt_Book_tuple, T.kt_Book_list⟩
    tm_at "w"
    refine ⟨a, ns, rfl, hS, hlen, fun φ H1 s1 f1 => ?_⟩
    tm_at "w"
    refine ⟨φ, _, rfl, f1, by decide, by decide, fun g H2 m2 g0 g1 => ?_⟩
    obtain ⟨g, rfl⟩ : ∃ k : Nat, g = k := ⟨g.toNat, by omega⟩
    tm_at "w"
    refine iteI (fun z => ?_) (fun z => ?_)
    · tm_at "w"
      intro r dx nr ndx ndr
      refine ⟨r, dx, rfl, upd_same, fun st k0 H4 bt hR hn => ⟨rfl, ?_⟩⟩
      have s34 : Same H2 H4 := fun a o e => bt a o (ne_of_none e nr) ((upd_ne (ne_of_none e nr)).trans ((upd_ne (ne_of_none e ndx)).trans e))
      have f4 := m2.now.same s34
      have nlb : H2 k0.b.lb = none := Same.free (Same.mut (Same.new (Same.refl H2) ndx) nr) hn.lb
      have ob := m2.now.off nlb
      tm_at "w"
      refine ⟨φ, ⟨r, dx, st, [k0]⟩, rfl, f4, hR, kc, fun k hk => by rw [List.mem_singleton.mp hk]; exact ob, fun H' => ?_⟩
      exact k _
    · tm_at "w"
      refine ⟨φ, _, rfl, m2.now, by decide, by decide, fun sh H3 m3 a0 a1 => ?_⟩
      obtain ⟨sh, rfl⟩ : ∃ k : Nat, sh = k := ⟨sh.toNat, by omega⟩
      tm_at "w"
      refine ⟨φ, _, rfl, m3.now, by decide, by decide, fun w H4 m4 b0 b1 => ?_⟩
      obtain ⟨W, hW⟩ : ∃ k : Nat, 1 + w = k := ⟨(1 + w).toNat, by omega⟩
      refine ⟨_, _, rfl, rfl, ?_⟩
      show gName 3 (V.int (1 + w)) _ _ _
      rw [hW]
      have est : L2.start ["_law_script", "_law_flow_here", "_law_shape", "_law_wanted", "_law_runtime", "_law_rows", "_law_turn", "_law_is_spoilt", "_law_parents_here"] [V.ref a] = ([some (.ref a), none, none, none, none, none, none, none, none] : L2.St) := rfl
      rw [est]
      simp only [List.set_cons_zero, List.set_cons_succ]
      tm_at "w"
      intro r dx nr ndx ndr
      refine ⟨r, dx, rfl, upd_same, fun st k0 H5 bt hR hn => ⟨rfl, ?_⟩⟩
      have s45 : Same H4 H5 := fun a o e => bt a o (ne_of_none e nr) ((upd_ne (ne_of_none e nr)).trans ((upd_ne (ne_of_none e ndx)).trans e))
      have f5 := m4.now.same s45
      have nlb : H4 k0.b.lb = none := Same.free (Same.mut (Same.new (Same.refl H4) ndx) nr) hn.lb
      have ob := m4.now.off nlb
      tm_at "w"
      intro l nl
      obtain ⟨H6, e6, s6, hl⟩ := new_hide (Same.new (o := .lst []) (Same.refl H5) nl)
      rw [e6]
      have st0 : St64 φ T.C_Book T.C_Runtime H6 ⟨r, dx, st, [k0]⟩ l [] := by
        refine ⟨f5.same s6, ⟨hR.same s6, ⟨[], hl, ParL.nil⟩, fun k hk => ?_⟩, fun k hk => ?_, f5.off nl⟩
        · rw [List.mem_singleton.mp hk]
          exact ne_of_none (hR.each 0 k0 rfl).book.bits nl
        · rw [List.mem_singleton.mp hk]
          exact ob
      tm_at "w"
      refine ⟨⟨r, dx, st, [k0]⟩, l, [], rfl, st0.fu.run, st0.fu.rows, fun H7 s7 => ?_⟩
      have st7 := st0.same s7
      simp only [List.set_cons_zero, List.set_cons_succ]
      tm_at "w"
      refine for_range (lo := 0) (n := (W : Int).toNat) (fun i σ H' => ∃ (ρ : Rk) (P : List (List Nat)) (v6 v7 v8 : Option V), St64 φ T.C_Book T.C_Runtime H' ρ l P ∧ ρ.r = r ∧ P.length = i ∧ σ = [some (.ref a), some (.ref φ.t), some (.int (sh : Int)), some (.int (W : Int)), some (.ref r), some (.ref l), v6, v7, v8]) ?_ ?_ ?_
      · exact ⟨_, [], none, none, none, st7, rfl, rfl, rfl⟩
      · rintro i σ H8 hi ⟨ρ, P, v6, v7, v8, st8, hr, hPi, rfl⟩
        subst hr
        rw [Int.zero_add]
        have Pl : P.length < 30 := by omega
        obtain ⟨xs, hx8, hp8⟩ := id st8.fu.rows
        have xl := hp8.1
        tm_at "w"
        refine ⟨φ, _, rfl, st8.flow, by decide, by decide, fun d H9 m9 d0 d1 => ?_⟩
        have st9 := st8.fv m9
        have hx9 := m9.keep _ _ st8.ol hx8
        tm_at "w"
        rw [xl]
        refine ⟨φ, P.length, sh, rfl, st9.flow, by omega, by omega, fun pa q H10 m10 hpa okq => ?_⟩
        have st10 := st9.fv m10
        simp only [List.set_cons_zero, List.set_cons_succ]
        tm_at "w"
        refine ⟨fun σ H' => σ = [some (.ref a), some (.ref φ.t), some (.int (sh : Int)), some (.int (W : Int)), some (.ref ρ.r), some (.ref l), some (.int (i : Int)), some (.bl (decide (V.int d = V.int 0))), some (.ref pa)] ∧ St64 φ T.C_Book T.C_Runtime H' ρ l P ∧ H' pa = some (.tup (natsV q)), ?_, ?_⟩
        · obtain ⟨xs10, hx10, hp10⟩ := id st10.fu.rows
          have xl10 := hp10.1
          tm_at "w"
          refine iteI (fun z => ?_) (fun z => ?_)
          · tm_at "w"
            rw [xl10]
            refine ⟨φ, pa, q, P.length, rfl, st10.flow, hpa, okq, by omega, fun v H11 m11 th bad => ?_⟩
            have st11 := st10.fv m11
            have hpa11 := m11.atT hpa
            tm_at "w"
            refine ⟨ρ, P, v, φ.t, rfl, st11.fu.run, kc, th, fun a' q' ev ha ok' _ => ?_, fun _ t H12 s12 ht => ?_, fun e => by rw [bad] at e; cases e⟩
            · subst ev
              rw [parB_tup ha, ok'.lot] at bad
              cases bad
            have st12 := st11.same s12
            tm_at "w"
            intro tu ntu
            obtain ⟨H13, e13, s13, htu⟩ := new_hide (Same.new (o := .tup [.str "bad", .bl true]) (Same.refl H12) ntu)
            rw [e13]
            refine ⟨badD, badD, dp_bad (s13 _ _ ht), dp_bad htu, bad_shaped, bad_shaped, ?_⟩
            rw [bad_refl]
            have st13 := st12.same s13
            tm_at "w"
            refine ⟨ρ, l, P, rfl, st13.fu.run, st13.fu.rows, fun H14 s14 => ?_⟩
            have hpa14 := s14 _ _ (s13 _ _ (s12 _ _ hpa11))
            tm_at "w"
            exact ⟨st13.same s14, hpa14⟩
          · exact ⟨rfl, st10, hpa⟩
        · rintro σ H11 ⟨rfl, st11, hpa11⟩
          obtain ⟨xs11, hx11, hp11⟩ := id st11.fu.rows
          have xl11 := hp11.1
          have hi11 := st11.fu.run.ins
          tm_at "w"
          rw [xl11]
          refine ⟨ρ, P, pa, q, rfl, st11.fu.run, kc, hpa11, okq, by omega, fun st' k' H12 bt hR12 hn12 => ?_⟩
          obtain ⟨xs12, hx12, hp12⟩ := rw_but st11.fu.rows hi11 bt
          have xl12 := hp12.1
          have hpa12 : H12 pa = some (.tup (natsV q)) := bt _ _ (fun e => by rw [e, hi11] at hpa11; cases hpa11) hpa11
          have tk13 : TK H12 (upd H12 l (.lst (xs12 ++ [.ref pa]))) := TK.mut hx12
          have st13 : St64 φ T.C_Book T.C_Runtime (upd H12 l (.lst (xs12 ++ [.ref pa]))) ⟨ρ.r, ρ.dx, st', ρ.ks ++ [k']⟩ l (P ++ [q]) := by
            have bl := bl_new st11.fu.bl hx11 hn12
            refine ⟨(st11.flow.but (st11.flow.offI hi11) bt).mut st11.ol, ⟨hR12.list hx12 bl, ⟨_, upd_same, (hp12.tk tk13).snoc (tk13 _ _ hpa12)⟩, bl⟩, fun k hk => ?_, st11.ol⟩
            rcases List.mem_append.mp hk with hk | hk
            · exact st11.ob k hk
            · rw [List.mem_singleton.mp hk]
              exact st11.flow.off hn12.lb
          tm_at "w"
          revert st13
          generalize upd H12 l (.lst (xs12 ++ [.ref pa])) = H13
          intro st13
          refine ⟨⟨ρ.r, ρ.dx, st', ρ.ks ++ [k']⟩, l, P ++ [q], rfl, st13.fu.run, st13.fu.rows, fun H14 s14 => ?_⟩
          tm_at "w"
          exact ⟨⟨ρ.r, ρ.dx, st', ρ.ks ++ [k']⟩, P ++ [q], _, _, _, st13.same s14, rfl, by rw [List.length_append]; show P.length + 1 = i + 1; omega, rfl⟩
      · rintro σ H8 ⟨ρ, P, v6, v7, v8, st8, hr, hPi, rfl⟩
        tm_at "w"
        exact k _
end
theorem all_mk {l : PySem.W.OpenLaw} {w : World} {K : PySem.W.Frag} {h : Heap} {mg : Str → Option Value} {fa : Addr} (X : K.In h) (G : h.Ns mainGlobals mg) (hfa : mg "law" = some (.ref fa))
    {t_MOST_PARENTS : Tok}
    {t_MOST_KINDS : Tok}
    {C_Runtime : Addr}
    {C_Groups : Addr}
    {C_Book : Addr}
    {C_TooMany fe_TooMany cc_TooMany cda_TooMany N_TooMany : Addr} {n0_TooMany q0_TooMany : Str} {bs_TooMany bm_TooMany sub_TooMany : List Value} {sn_TooMany : List Str} {ab_TooMany : Bool} {col_TooMany : Option Bool} {dd_TooMany cld_TooMany cdd_TooMany od_TooMany an_TooMany : Option Addr} {k0_TooMany k1_TooMany k2_TooMany k3_TooMany k5_TooMany : Option Value} {cl_TooMany ccl_TooMany oc_TooMany kV_TooMany doc_TooMany pm_TooMany ctv_TooMany : Value} {csl_TooMany ccs_TooMany osl_TooMany : Array (Option Value)} {vs_TooMany : Array Value} {file_TooMany : Str} {tf_TooMany : Tok}
    {C_BadKind fe_BadKind cc_BadKind cda_BadKind N_BadKind : Addr} {n0_BadKind q0_BadKind : Str} {bs_BadKind bm_BadKind sub_BadKind : List Value} {sn_BadKind : List Str} {ab_BadKind : Bool} {col_BadKind : Option Bool} {dd_BadKind cld_BadKind cdd_BadKind od_BadKind an_BadKind : Option Addr} {k0_BadKind k1_BadKind k2_BadKind k3_BadKind k5_BadKind : Option Value} {cl_BadKind ccl_BadKind oc_BadKind kV_BadKind doc_BadKind pm_BadKind ctv_BadKind : Value} {csl_BadKind ccs_BadKind osl_BadKind : Array (Option Value)} {vs_BadKind : Array Value} {file_BadKind : Str} {tf_BadKind : Tok}
    {C_KindError : Addr}
    {od0 an0 : Option Addr} {sl0 : Array (Option Value)} {oc0 kV0 dc0 pm0 cd0 ct0 : Value} {f0 : Addr}
    {od1 an1 : Option Addr} {sl1 : Array (Option Value)} {oc1 kV1 dc1 pm1 cd1 ct1 : Value} {f1 : Addr}
    {od2 an2 : Option Addr} {sl2 : Array (Option Value)} {oc2 kV2 dc2 pm2 cd2 ct2 : Value} {f2 : Addr}
    {od3 an3 : Option Addr} {sl3 : Array (Option Value)} {oc3 kV3 dc3 pm3 cd3 ct3 : Value} {f3 : Addr}
    {od4 an4 : Option Addr} {sl4 : Array (Option Value)} {oc4 kV4 dc4 pm4 cd4 ct4 : Value} {f4 : Addr}
    {od5 an5 : Option Addr} {sl5 : Array (Option Value)} {oc5 kV5 dc5 pm5 cd5 ct5 : Value} {f5 : Addr}
    {od6 an6 : Option Addr} {sl6 : Array (Option Value)} {oc6 kV6 dc6 pm6 cd6 ct6 : Value} {f6 : Addr}
    {od7 an7 : Option Addr} {sl7 : Array (Option Value)} {oc7 kV7 dc7 pm7 cd7 ct7 : Value} {f7 : Addr}
    {od8 an8 : Option Addr} {sl8 : Array (Option Value)} {oc8 kV8 dc8 pm8 cd8 ct8 : Value} {f8 : Addr}
    {od9 an9 : Option Addr} {sl9 : Array (Option Value)} {oc9 kV9 dc9 pm9 cd9 ct9 : Value} {f9 : Addr}
    {od10 an10 : Option Addr} {sl10 : Array (Option Value)} {oc10 kV10 dc10 pm10 cd10 ct10 : Value} {f10 : Addr}
    {od11 an11 : Option Addr} {sl11 : Array (Option Value)} {oc11 kV11 dc11 pm11 cd11 ct11 : Value} {f11 : Addr}
    {od12 an12 : Option Addr} {sl12 : Array (Option Value)} {oc12 kV12 dc12 pm12 cd12 ct12 : Value} {f12 : Addr}
    {od13 an13 : Option Addr} {sl13 : Array (Option Value)} {oc13 kV13 dc13 pm13 cd13 ct13 : Value} {f13 : Addr}
    {od14 an14 : Option Addr} {sl14 : Array (Option Value)} {oc14 kV14 dc14 pm14 cd14 ct14 : Value} {f14 : Addr}
    {od15 an15 : Option Addr} {sl15 : Array (Option Value)} {oc15 kV15 dc15 pm15 cd15 ct15 : Value} {f15 : Addr}
    {od16 an16 : Option Addr} {sl16 : Array (Option Value)} {oc16 kV16 dc16 pm16 cd16 ct16 : Value} {f16 : Addr}
    {od17 an17 : Option Addr} {sl17 : Array (Option Value)} {oc17 kV17 dc17 pm17 cd17 ct17 : Value} {f17 : Addr}
    {od18 an18 : Option Addr} {sl18 : Array (Option Value)} {oc18 kV18 dc18 pm18 cd18 ct18 : Value} {f18 : Addr}
    {od19 an19 : Option Addr} {sl19 : Array (Option Value)} {oc19 kV19 dc19 pm19 cd19 ct19 : Value} {f19 : Addr}
    {od20 an20 : Option Addr} {sl20 : Array (Option Value)} {oc20 kV20 dc20 pm20 cd20 ct20 : Value} {f20 : Addr}
    {od21 an21 : Option Addr} {sl21 : Array (Option Value)} {oc21 kV21 dc21 pm21 cd21 ct21 : Value} {f21 : Addr}
    {od22 an22 : Option Addr} {sl22 : Array (Option Value)} {oc22 kV22 dc22 pm22 cd22 ct22 : Value} {f22 : Addr}
    {od23 an23 : Option Addr} {sl23 : Array (Option Value)} {oc23 kV23 dc23 pm23 cd23 ct23 : Value} {f23 : Addr}
    {od24 an24 : Option Addr} {sl24 : Array (Option Value)} {oc24 kV24 dc24 pm24 cd24 ct24 : Value} {f24 : Addr}
    {od25 an25 : Option Addr} {sl25 : Array (Option Value)} {oc25 kV25 dc25 pm25 cd25 ct25 : Value} {f25 : Addr}
    {od26 an26 : Option Addr} {sl26 : Array (Option Value)} {oc26 kV26 dc26 pm26 cd26 ct26 : Value} {f26 : Addr}
    {od27 an27 : Option Addr} {sl27 : Array (Option Value)} {oc27 kV27 dc27 pm27 cd27 ct27 : Value} {f27 : Addr}
    {od28 an28 : Option Addr} {sl28 : Array (Option Value)} {oc28 kV28 dc28 pm28 cd28 ct28 : Value} {f28 : Addr}
    {od29 an29 : Option Addr} {sl29 : Array (Option Value)} {oc29 kV29 dc29 pm29 cd29 ct29 : Value} {f29 : Addr}
    {od30 an30 : Option Addr} {sl30 : Array (Option Value)} {oc30 kV30 dc30 pm30 cd30 ct30 : Value} {f30 : Addr}
    {od31 an31 : Option Addr} {sl31 : Array (Option Value)} {oc31 kV31 dc31 pm31 cd31 ct31 : Value} {f31 : Addr}
    {od32 an32 : Option Addr} {sl32 : Array (Option Value)} {oc32 kV32 dc32 pm32 cd32 ct32 : Value} {f32 : Addr}
    {od33 an33 : Option Addr} {sl33 : Array (Option Value)} {oc33 kV33 dc33 pm33 cd33 ct33 : Value} {f33 : Addr}
    (gk_KindError : PySem.W.nsIn K mainGlobals "KindError" = some (some (.ref C_KindError)))
    (op_X : PySem.W.nsIn K cStatics "thirdparty.any" = some none) (tp_X : (l.prog.main.scope.names.lookup ("super" : Str)).isSome = false) (hn_X : PySem.W.specialIn K (.builtin "object.__class__") "__get__" = some (some (.builtin "getset_descriptor.__get__"))) (ht_X : PySem.W.takesIn K (.builtin "object.__class__") = some true) (ns_X : PySem.W.nsIn K mainGlobals "super" = some none)
    (gc_BadKind : PySem.W.nsIn K mainGlobals "BadKind" = some (some (.ref C_BadKind)))
    (lc_BadKind : K.lookup C_BadKind = some (excClassObj n0_BadKind q0_BadKind C_BadKind N_BadKind bs_BadKind bm_BadKind true sn_BadKind sub_BadKind ab_BadKind col_BadKind dd_BadKind k0_BadKind k1_BadKind k2_BadKind k3_BadKind k5_BadKind "ValueError.__new__"))
    (rv_BadKind : PySem.HandSPX.refsVE bm_BadKind = true)
    (sa_BadKind : PySem.W.findIn K (.ref C_BadKind) "__setattr__" = some (some (.builtin "object.__setattr__")))
    (ex_BadKind : PySem.W.subIn K (.ref C_BadKind) (.type "BaseException") = some true)
    (ty_BadKind : PySem.W.typeIn K (.ref C_BadKind) = some (.type "type"))
    (kp_BadKind : PySem.W.keepIn K (.ref C_BadKind) = true)
    (su_BadKind : PySem.W.ks_superIn K C_BadKind C_BadKind "__init__" = some (some (.builtin "ValueError.__init__")))
    (sv_BadKind : PySem.W.subIn K (.ref C_BadKind) (.type "ValueError") = some true)
    (mr_BadKind : PySem.W.mroIn K C_BadKind (.ref C_BadKind) = some true)
    (a_BadKind : PySem.W.findIn K (.ref C_BadKind) "__init__" = some (some (.ref fe_BadKind)))
    (t_BadKind : PySem.W.typeIn K (.ref fe_BadKind) = some (.type "function"))
    (lf_BadKind : K.lookup fe_BadKind = some ⟨oc_BadKind, od_BadKind, .func (PySem.W.fnX "__init__" "BadKind.__init__" (defArgs s_BadKind___init__) (defBody s_BadKind___init__) (defScope s_BadKind___init__) [(("__class__" : Str), cc_BadKind)] .none kV_BadKind doc_BadKind pm_BadKind an_BadKind (.ref cda_BadKind) ctv_BadKind), osl_BadKind⟩)
    (cd_BadKind : PySem.W.codeIn K (.ref cda_BadKind) "BadKind.__init__" = true)
    (ce_BadKind : K.lookup cc_BadKind = some ⟨cl_BadKind, cld_BadKind, .cell (some (.ref C_BadKind)), csl_BadKind⟩)
    (co_BadKind : K.lookup cda_BadKind = some ⟨ccl_BadKind, cdd_BadKind, .fields vs_BadKind, ccs_BadKind⟩)
    (vf_BadKind : vs_BadKind[2]? = some (.str file_BadKind tf_BadKind))
    (ff_BadKind : ((l.prog.main.file : Str) == file_BadKind) = true)
    (ga_BadKind : PySem.W.findIn K (.ref C_BadKind) "__getattribute__" = some (some (.builtin "BaseException.__getattribute__")))
    (gk_BadKind : PySem.W.findIn K (.ref C_BadKind) "__getattr__" = some none)
    (hd_BadKind : PySem.W.hasDictIn K C_BadKind = true)
    (ha_BadKind : PySem.W.findIn K (.ref C_BadKind) "__class__" = some (some (.builtin "object.__class__")))
    (hm_BadKind : PySem.W.mroIn K C_BadKind (.type "object") = some true)
    (gc_TooMany : PySem.W.nsIn K mainGlobals "TooMany" = some (some (.ref C_TooMany)))
    (lc_TooMany : K.lookup C_TooMany = some (excClassObj n0_TooMany q0_TooMany C_TooMany N_TooMany bs_TooMany bm_TooMany true sn_TooMany sub_TooMany ab_TooMany col_TooMany dd_TooMany k0_TooMany k1_TooMany k2_TooMany k3_TooMany k5_TooMany "ValueError.__new__"))
    (rv_TooMany : PySem.HandSPX.refsVE bm_TooMany = true)
    (sa_TooMany : PySem.W.findIn K (.ref C_TooMany) "__setattr__" = some (some (.builtin "object.__setattr__")))
    (ex_TooMany : PySem.W.subIn K (.ref C_TooMany) (.type "BaseException") = some true)
    (ty_TooMany : PySem.W.typeIn K (.ref C_TooMany) = some (.type "type"))
    (kp_TooMany : PySem.W.keepIn K (.ref C_TooMany) = true)
    (su_TooMany : PySem.W.ks_superIn K C_TooMany C_TooMany "__init__" = some (some (.builtin "ValueError.__init__")))
    (sv_TooMany : PySem.W.subIn K (.ref C_TooMany) (.type "ValueError") = some true)
    (mr_TooMany : PySem.W.mroIn K C_TooMany (.ref C_TooMany) = some true)
    (a_TooMany : PySem.W.findIn K (.ref C_TooMany) "__init__" = some (some (.ref fe_TooMany)))
    (t_TooMany : PySem.W.typeIn K (.ref fe_TooMany) = some (.type "function"))
    (lf_TooMany : K.lookup fe_TooMany = some ⟨oc_TooMany, od_TooMany, .func (PySem.W.fnX "__init__" "TooMany.__init__" (defArgs s_TooMany___init__) (defBody s_TooMany___init__) (defScope s_TooMany___init__) [(("__class__" : Str), cc_TooMany)] .none kV_TooMany doc_TooMany pm_TooMany an_TooMany (.ref cda_TooMany) ctv_TooMany), osl_TooMany⟩)
    (cd_TooMany : PySem.W.codeIn K (.ref cda_TooMany) "TooMany.__init__" = true)
    (ce_TooMany : K.lookup cc_TooMany = some ⟨cl_TooMany, cld_TooMany, .cell (some (.ref C_TooMany)), csl_TooMany⟩)
    (co_TooMany : K.lookup cda_TooMany = some ⟨ccl_TooMany, cdd_TooMany, .fields vs_TooMany, ccs_TooMany⟩)
    (vf_TooMany : vs_TooMany[2]? = some (.str file_TooMany tf_TooMany))
    (ff_TooMany : ((l.prog.main.file : Str) == file_TooMany) = true)
    (ga_TooMany : PySem.W.findIn K (.ref C_TooMany) "__getattribute__" = some (some (.builtin "BaseException.__getattribute__")))
    (gk_TooMany : PySem.W.findIn K (.ref C_TooMany) "__getattr__" = some none)
    (hd_TooMany : PySem.W.hasDictIn K C_TooMany = true)
    (ha_TooMany : PySem.W.findIn K (.ref C_TooMany) "__class__" = some (some (.builtin "object.__class__")))
    (hm_TooMany : PySem.W.mroIn K C_TooMany (.type "object") = some true)
    (na_TooMany : PySem.W.findIn K (.ref C_TooMany) "most" = some none)
    (xm_BadKind_BadKind : PySem.W.exmOne K (.ref C_BadKind) (.ref C_BadKind) = some true)
    (xm_TooMany_TooMany : PySem.W.exmOne K (.ref C_TooMany) (.ref C_TooMany) = some true)
    (xm_TooMany_BadKind : PySem.W.exmOne K (.ref C_TooMany) (.ref C_BadKind) = some false)
    (kt_BadKind_KindError : PySem.W.kitOne K (.ref C_BadKind) (.ref C_KindError) = some true)
    (kt_BadKind_TooMany : PySem.W.kitOne K (.ref C_BadKind) (.ref C_TooMany) = some false)
    (gc_Book : PySem.W.nsIn K mainGlobals "Book" = some (some (.ref C_Book))) (pg_Book : PySem.W.plainGet K C_Book Str.empty = true) (hd_Book : PySem.W.hasDictIn K C_Book = true) (po_Book : PySem.W.plainOver K C_Book = true) (sa_Book : PySem.W.findIn K (.ref C_Book) "__setattr__" = some (some (.builtin "object.__setattr__"))) (mk_Book : PySem.W.makesIn K C_Book = true) (kc_Book : PySem.W.keepIn K (.ref C_Book) = true) (ta_Book : PySem.W.findIn K (.ref C_Book) "__class__" = some (some (.builtin "object.__class__"))) (tn_Book : PySem.W.specialIn K (.builtin "object.__class__") "__get__" = some (some (.builtin "getset_descriptor.__get__"))) (tt_Book : PySem.W.takesIn K (.builtin "object.__class__") = some true) (tm_Book : PySem.W.mroIn K C_Book (.type "object") = some true)
    (n_Book_parents : PySem.W.findIn K (.ref C_Book) "parents" = some none)
    (n_Book_bits : PySem.W.findIn K (.ref C_Book) "bits" = some none)
    (gc_Groups : PySem.W.nsIn K mainGlobals "Groups" = some (some (.ref C_Groups))) (pg_Groups : PySem.W.plainGet K C_Groups Str.empty = true) (hd_Groups : PySem.W.hasDictIn K C_Groups = true) (po_Groups : PySem.W.plainOver K C_Groups = true) (sa_Groups : PySem.W.findIn K (.ref C_Groups) "__setattr__" = some (some (.builtin "object.__setattr__"))) (mk_Groups : PySem.W.makesIn K C_Groups = true) (kc_Groups : PySem.W.keepIn K (.ref C_Groups) = true) (ta_Groups : PySem.W.findIn K (.ref C_Groups) "__class__" = some (some (.builtin "object.__class__"))) (tn_Groups : PySem.W.specialIn K (.builtin "object.__class__") "__get__" = some (some (.builtin "getset_descriptor.__get__"))) (tt_Groups : PySem.W.takesIn K (.builtin "object.__class__") = some true) (tm_Groups : PySem.W.mroIn K C_Groups (.type "object") = some true)
    (n_Groups_lots : PySem.W.findIn K (.ref C_Groups) "lots" = some none)
    (n_Groups_held : PySem.W.findIn K (.ref C_Groups) "held" = some none)
    (gc_Runtime : PySem.W.nsIn K mainGlobals "Runtime" = some (some (.ref C_Runtime))) (pg_Runtime : PySem.W.plainGet K C_Runtime Str.empty = true) (hd_Runtime : PySem.W.hasDictIn K C_Runtime = true) (po_Runtime : PySem.W.plainOver K C_Runtime = true) (sa_Runtime : PySem.W.findIn K (.ref C_Runtime) "__setattr__" = some (some (.builtin "object.__setattr__"))) (mk_Runtime : PySem.W.makesIn K C_Runtime = true) (kc_Runtime : PySem.W.keepIn K (.ref C_Runtime) = true) (ta_Runtime : PySem.W.findIn K (.ref C_Runtime) "__class__" = some (some (.builtin "object.__class__"))) (tn_Runtime : PySem.W.specialIn K (.builtin "object.__class__") "__get__" = some (some (.builtin "getset_descriptor.__get__"))) (tt_Runtime : PySem.W.takesIn K (.builtin "object.__class__") = some true) (tm_Runtime : PySem.W.mroIn K C_Runtime (.type "object") = some true)
    (n_Runtime_steps : PySem.W.findIn K (.ref C_Runtime) "steps" = some none)
    (kt_Book_int : PySem.W.kitOne K (.ref C_Book) (.type "int") = some false)
    (kt_Book_bool : PySem.W.kitOne K (.ref C_Book) (.type "bool") = some false)
    (kt_Book_tuple : PySem.W.kitOne K (.ref C_Book) (.type "tuple") = some false)
    (kt_Book_list : PySem.W.kitOne K (.ref C_Book) (.type "list") = some false)
    (k_MOST_KINDS : PySem.W.nsIn K mainGlobals "MOST_KINDS" = some (some (.int 400 t_MOST_KINDS)))
    (k_MOST_PARENTS : PySem.W.nsIn K mainGlobals "MOST_PARENTS" = some (some (.int 6 t_MOST_PARENTS)))
    (a0 : PySem.W.nsIn K mainGlobals "is_integer" = some (some (.ref f0)))
    (l0 : K.lookup f0 = some ⟨oc0, od0, .func (PySem.W.fnOf "is_integer" "is_integer" (defArgs s_is_integer) (defBody s_is_integer) (defScope s_is_integer) .none kV0 dc0 pm0 an0 cd0 ct0), sl0⟩) (c0 : PySem.W.codeIn K cd0 "is_integer" = true) (k0 : PySem.W.keepIn K (.ref f0) = true)
    (a1 : PySem.W.nsIn K mainGlobals "is_within" = some (some (.ref f1)))
    (l1 : K.lookup f1 = some ⟨oc1, od1, .func (PySem.W.fnOf "is_within" "is_within" (defArgs s_is_within) (defBody s_is_within) (defScope s_is_within) .none kV1 dc1 pm1 an1 cd1 ct1), sl1⟩) (c1 : PySem.W.codeIn K cd1 "is_within" = true) (k1 : PySem.W.keepIn K (.ref f1) = true)
    (a2 : PySem.W.nsIn K mainGlobals "is_lot" = some (some (.ref f2)))
    (l2 : K.lookup f2 = some ⟨oc2, od2, .func (PySem.W.fnOf "is_lot" "is_lot" (defArgs s_is_lot) (defBody s_is_lot) (defScope s_is_lot) .none kV2 dc2 pm2 an2 cd2 ct2), sl2⟩) (c2 : PySem.W.codeIn K cd2 "is_lot" = true) (k2 : PySem.W.keepIn K (.ref f2) = true)
    (a3 : PySem.W.nsIn K mainGlobals "check_most" = some (some (.ref f3)))
    (l3 : K.lookup f3 = some ⟨oc3, od3, .func (PySem.W.fnOf "check_most" "check_most" (defArgs s_check_most) (defBody s_check_most) (defScope s_check_most) .none kV3 dc3 pm3 an3 cd3 ct3), sl3⟩) (c3 : PySem.W.codeIn K cd3 "check_most" = true) (k3 : PySem.W.keepIn K (.ref f3) = true)
    (a4 : PySem.W.nsIn K mainGlobals "are_parents" = some (some (.ref f4)))
    (l4 : K.lookup f4 = some ⟨oc4, od4, .func (PySem.W.fnOf "are_parents" "are_parents" (defArgs s_are_parents) (defBody s_are_parents) (defScope s_are_parents) .none kV4 dc4 pm4 an4 cd4 ct4), sl4⟩) (c4 : PySem.W.codeIn K cd4 "are_parents" = true) (k4 : PySem.W.keepIn K (.ref f4) = true)
    (a5 : PySem.W.findIn K (.ref C_Book) "fill" = some (some (.ref f5))) (i5 : PySem.W.isFn K (.ref f5) = true)
    (l5 : K.lookup f5 = some ⟨oc5, od5, .func (PySem.W.fnOf "fill" "Book.fill" (defArgs s_Book_fill) (defBody s_Book_fill) (defScope s_Book_fill) .none kV5 dc5 pm5 an5 cd5 ct5), sl5⟩) (c5 : PySem.W.codeIn K cd5 "Book.fill" = true) (k5 : PySem.W.keepIn K (.ref f5) = true)
    (a6 : PySem.W.findIn K (.ref C_Book) "__init__" = some (some (.ref f6))) (i6 : PySem.W.isFn K (.ref f6) = true)
    (l6 : K.lookup f6 = some ⟨oc6, od6, .func (PySem.W.fnOf "__init__" "Book.__init__" (defArgs s_Book___init__) (defBody s_Book___init__) (defScope s_Book___init__) .none kV6 dc6 pm6 an6 cd6 ct6), sl6⟩) (c6 : PySem.W.codeIn K cd6 "Book.__init__" = true) (k6 : PySem.W.keepIn K (.ref f6) = true)
    (a7 : PySem.W.findIn K (.ref C_Book) "__eq__" = some (some (.ref f7))) (i7 : PySem.W.isFn K (.ref f7) = true)
    (l7 : K.lookup f7 = some ⟨oc7, od7, .func (PySem.W.fnOf "__eq__" "Book.__eq__" (defArgs s_Book___eq__) (defBody s_Book___eq__) (defScope s_Book___eq__) .none kV7 dc7 pm7 an7 cd7 ct7), sl7⟩) (c7 : PySem.W.codeIn K cd7 "Book.__eq__" = true) (k7 : PySem.W.keepIn K (.ref f7) = true)
    (a8 : PySem.W.nsIn K mainGlobals "book_of" = some (some (.ref f8)))
    (l8 : K.lookup f8 = some ⟨oc8, od8, .func (PySem.W.fnOf "book_of" "book_of" (defArgs s_book_of) (defBody s_book_of) (defScope s_book_of) .none kV8 dc8 pm8 an8 cd8 ct8), sl8⟩) (c8 : PySem.W.codeIn K cd8 "book_of" = true) (k8 : PySem.W.keepIn K (.ref f8) = true)
    (a9 : PySem.W.nsIn K mainGlobals "grown" = some (some (.ref f9)))
    (l9 : K.lookup f9 = some ⟨oc9, od9, .func (PySem.W.fnOf "grown" "grown" (defArgs s_grown) (defBody s_grown) (defScope s_grown) .none kV9 dc9 pm9 an9 cd9 ct9), sl9⟩) (c9 : PySem.W.codeIn K cd9 "grown" = true) (k9 : PySem.W.keepIn K (.ref f9) = true)
    (a10 : PySem.W.nsIn K mainGlobals "is_one" = some (some (.ref f10)))
    (l10 : K.lookup f10 = some ⟨oc10, od10, .func (PySem.W.fnOf "is_one" "is_one" (defArgs s_is_one) (defBody s_is_one) (defScope s_is_one) .none kV10 dc10 pm10 an10 cd10 ct10), sl10⟩) (c10 : PySem.W.codeIn K cd10 "is_one" = true) (k10 : PySem.W.keepIn K (.ref f10) = true)
    (a11 : PySem.W.findIn K (.ref C_Groups) "__init__" = some (some (.ref f11))) (i11 : PySem.W.isFn K (.ref f11) = true)
    (l11 : K.lookup f11 = some ⟨oc11, od11, .func (PySem.W.fnOf "__init__" "Groups.__init__" (defArgs s_Groups___init__) (defBody s_Groups___init__) (defScope s_Groups___init__) .none kV11 dc11 pm11 an11 cd11 ct11), sl11⟩) (c11 : PySem.W.codeIn K cd11 "Groups.__init__" = true) (k11 : PySem.W.keepIn K (.ref f11) = true)
    (a12 : PySem.W.findIn K (.ref C_Groups) "fitting" = some (some (.ref f12))) (i12 : PySem.W.isFn K (.ref f12) = true)
    (l12 : K.lookup f12 = some ⟨oc12, od12, .func (PySem.W.fnOf "fitting" "Groups.fitting" (defArgs s_Groups_fitting) (defBody s_Groups_fitting) (defScope s_Groups_fitting) .none kV12 dc12 pm12 an12 cd12 ct12), sl12⟩) (c12 : PySem.W.codeIn K cd12 "Groups.fitting" = true) (k12 : PySem.W.keepIn K (.ref f12) = true)
    (a13 : PySem.W.findIn K (.ref C_Groups) "taken" = some (some (.ref f13))) (i13 : PySem.W.isFn K (.ref f13) = true)
    (l13 : K.lookup f13 = some ⟨oc13, od13, .func (PySem.W.fnOf "taken" "Groups.taken" (defArgs s_Groups_taken) (defBody s_Groups_taken) (defScope s_Groups_taken) .none kV13 dc13 pm13 an13 cd13 ct13), sl13⟩) (c13 : PySem.W.codeIn K cd13 "Groups.taken" = true) (k13 : PySem.W.keepIn K (.ref f13) = true)
    (a14 : PySem.W.findIn K (.ref C_Groups) "put" = some (some (.ref f14))) (i14 : PySem.W.isFn K (.ref f14) = true)
    (l14 : K.lookup f14 = some ⟨oc14, od14, .func (PySem.W.fnOf "put" "Groups.put" (defArgs s_Groups_put) (defBody s_Groups_put) (defScope s_Groups_put) .none kV14 dc14 pm14 an14 cd14 ct14), sl14⟩) (c14 : PySem.W.codeIn K cd14 "Groups.put" = true) (k14 : PySem.W.keepIn K (.ref f14) = true)
    (a15 : PySem.W.nsIn K mainGlobals "entries_of" = some (some (.ref f15)))
    (l15 : K.lookup f15 = some ⟨oc15, od15, .func (PySem.W.fnOf "entries_of" "entries_of" (defArgs s_entries_of) (defBody s_entries_of) (defScope s_entries_of) .none kV15 dc15 pm15 an15 cd15 ct15), sl15⟩) (c15 : PySem.W.codeIn K cd15 "entries_of" = true) (k15 : PySem.W.keepIn K (.ref f15) = true)
    (a16 : PySem.W.nsIn K mainGlobals "_law_flow" = some (some (.ref f16)))
    (l16 : K.lookup f16 = some ⟨oc16, od16, .func (PySem.W.fnOf "_law_flow" "_law_flow" (defArgs s__law_flow) (defBody s__law_flow) (defScope s__law_flow) .none kV16 dc16 pm16 an16 cd16 ct16), sl16⟩) (c16 : PySem.W.codeIn K cd16 "_law_flow" = true) (k16 : PySem.W.keepIn K (.ref f16) = true)
    (a17 : PySem.W.nsIn K mainGlobals "_law_draw" = some (some (.ref f17)))
    (l17 : K.lookup f17 = some ⟨oc17, od17, .func (PySem.W.fnOf "_law_draw" "_law_draw" (defArgs s__law_draw) (defBody s__law_draw) (defScope s__law_draw) .none kV17 dc17 pm17 an17 cd17 ct17), sl17⟩) (c17 : PySem.W.codeIn K cd17 "_law_draw" = true) (k17 : PySem.W.keepIn K (.ref f17) = true)
    (a18 : PySem.W.nsIn K mainGlobals "_law_parents" = some (some (.ref f18)))
    (l18 : K.lookup f18 = some ⟨oc18, od18, .func (PySem.W.fnOf "_law_parents" "_law_parents" (defArgs s__law_parents) (defBody s__law_parents) (defScope s__law_parents) .none kV18 dc18 pm18 an18 cd18 ct18), sl18⟩) (c18 : PySem.W.codeIn K cd18 "_law_parents" = true) (k18 : PySem.W.keepIn K (.ref f18) = true)
    (a19 : PySem.W.nsIn K mainGlobals "groups_from" = some (some (.ref f19)))
    (l19 : K.lookup f19 = some ⟨oc19, od19, .func (PySem.W.fnOf "groups_from" "groups_from" (defArgs s_groups_from) (defBody s_groups_from) (defScope s_groups_from) .none kV19 dc19 pm19 an19 cd19 ct19), sl19⟩) (c19 : PySem.W.codeIn K cd19 "groups_from" = true) (k19 : PySem.W.keepIn K (.ref f19) = true)
    (a20 : PySem.W.nsIn K mainGlobals "first_step" = some (some (.ref f20)))
    (l20 : K.lookup f20 = some ⟨oc20, od20, .func (PySem.W.fnOf "first_step" "first_step" (defArgs s_first_step) (defBody s_first_step) (defScope s_first_step) .none kV20 dc20 pm20 an20 cd20 ct20), sl20⟩) (c20 : PySem.W.codeIn K cd20 "first_step" = true) (k20 : PySem.W.keepIn K (.ref f20) = true)
    (a21 : PySem.W.nsIn K mainGlobals "next_step" = some (some (.ref f21)))
    (l21 : K.lookup f21 = some ⟨oc21, od21, .func (PySem.W.fnOf "next_step" "next_step" (defArgs s_next_step) (defBody s_next_step) (defScope s_next_step) .none kV21 dc21 pm21 an21 cd21 ct21), sl21⟩) (c21 : PySem.W.codeIn K cd21 "next_step" = true) (k21 : PySem.W.keepIn K (.ref f21) = true)
    (a22 : PySem.W.findIn K (.ref C_Runtime) "__init__" = some (some (.ref f22))) (i22 : PySem.W.isFn K (.ref f22) = true)
    (l22 : K.lookup f22 = some ⟨oc22, od22, .func (PySem.W.fnOf "__init__" "Runtime.__init__" (defArgs s_Runtime___init__) (defBody s_Runtime___init__) (defScope s_Runtime___init__) .none kV22 dc22 pm22 an22 cd22 ct22), sl22⟩) (c22 : PySem.W.codeIn K cd22 "Runtime.__init__" = true) (k22 : PySem.W.keepIn K (.ref f22) = true)
    (a23 : PySem.W.findIn K (.ref C_Runtime) "many" = some (some (.ref f23))) (i23 : PySem.W.isFn K (.ref f23) = true)
    (l23 : K.lookup f23 = some ⟨oc23, od23, .func (PySem.W.fnOf "many" "Runtime.many" (defArgs s_Runtime_many) (defBody s_Runtime_many) (defScope s_Runtime_many) .none kV23 dc23 pm23 an23 cd23 ct23), sl23⟩) (c23 : PySem.W.codeIn K cd23 "Runtime.many" = true) (k23 : PySem.W.keepIn K (.ref f23) = true)
    (a24 : PySem.W.findIn K (.ref C_Runtime) "load" = some (some (.ref f24))) (i24 : PySem.W.isFn K (.ref f24) = true)
    (l24 : K.lookup f24 = some ⟨oc24, od24, .func (PySem.W.fnOf "load" "Runtime.load" (defArgs s_Runtime_load) (defBody s_Runtime_load) (defScope s_Runtime_load) .none kV24 dc24 pm24 an24 cd24 ct24), sl24⟩) (c24 : PySem.W.codeIn K cd24 "Runtime.load" = true) (k24 : PySem.W.keepIn K (.ref f24) = true)
    (a25 : PySem.W.findIn K (.ref C_Runtime) "book" = some (some (.ref f25))) (i25 : PySem.W.isFn K (.ref f25) = true)
    (l25 : K.lookup f25 = some ⟨oc25, od25, .func (PySem.W.fnOf "book" "Runtime.book" (defArgs s_Runtime_book) (defBody s_Runtime_book) (defScope s_Runtime_book) .none kV25 dc25 pm25 an25 cd25 ct25), sl25⟩) (c25 : PySem.W.codeIn K cd25 "Runtime.book" = true) (k25 : PySem.W.keepIn K (.ref f25) = true)
    (a26 : PySem.W.findIn K (.ref C_Runtime) "back" = some (some (.ref f26))) (i26 : PySem.W.isFn K (.ref f26) = true)
    (l26 : K.lookup f26 = some ⟨oc26, od26, .func (PySem.W.fnOf "back" "Runtime.back" (defArgs s_Runtime_back) (defBody s_Runtime_back) (defScope s_Runtime_back) .none kV26 dc26 pm26 an26 cd26 ct26), sl26⟩) (c26 : PySem.W.codeIn K cd26 "Runtime.back" = true) (k26 : PySem.W.keepIn K (.ref f26) = true)
    (a27 : PySem.W.nsIn K mainGlobals "_law_spoilt" = some (some (.ref f27)))
    (l27 : K.lookup f27 = some ⟨oc27, od27, .func (PySem.W.fnOf "_law_spoilt" "_law_spoilt" (defArgs s__law_spoilt) (defBody s__law_spoilt) (defScope s__law_spoilt) .none kV27 dc27 pm27 an27 cd27 ct27), sl27⟩) (c27 : PySem.W.codeIn K cd27 "_law_spoilt" = true) (k27 : PySem.W.keepIn K (.ref f27) = true)
    (a28 : PySem.W.nsIn K mainGlobals "_law_load" = some (some (.ref f28)))
    (l28 : K.lookup f28 = some ⟨oc28, od28, .func (PySem.W.fnOf "_law_load" "_law_load" (defArgs s__law_load) (defBody s__law_load) (defScope s__law_load) .none kV28 dc28 pm28 an28 cd28 ct28), sl28⟩) (c28 : PySem.W.codeIn K cd28 "_law_load" = true) (k28 : PySem.W.keepIn K (.ref f28) = true)
    (a29 : PySem.W.nsIn K mainGlobals "_law_is" = some (some (.ref f29)))
    (l29 : K.lookup f29 = some ⟨oc29, od29, .func (PySem.W.fnOf "_law_is" "_law_is" (defArgs s__law_is) (defBody s__law_is) (defScope s__law_is) .none kV29 dc29 pm29 an29 cd29 ct29), sl29⟩) (c29 : PySem.W.codeIn K cd29 "_law_is" = true) (k29 : PySem.W.keepIn K (.ref f29) = true)
    (a30 : PySem.W.nsIn K mainGlobals "_law_loads" = some (some (.ref f30)))
    (l30 : K.lookup f30 = some ⟨oc30, od30, .func (PySem.W.fnOf "_law_loads" "_law_loads" (defArgs s__law_loads) (defBody s__law_loads) (defScope s__law_loads) .none kV30 dc30 pm30 an30 cd30 ct30), sl30⟩) (c30 : PySem.W.codeIn K cd30 "_law_loads" = true) (k30 : PySem.W.keepIn K (.ref f30) = true)
    (a31 : PySem.W.nsIn K mainGlobals "_law_stands" = some (some (.ref f31)))
    (l31 : K.lookup f31 = some ⟨oc31, od31, .func (PySem.W.fnOf "_law_stands" "_law_stands" (defArgs s__law_stands) (defBody s__law_stands) (defScope s__law_stands) .none kV31 dc31 pm31 an31 cd31 ct31), sl31⟩) (c31 : PySem.W.codeIn K cd31 "_law_stands" = true) (k31 : PySem.W.keepIn K (.ref f31) = true)
    (a32 : PySem.W.nsIn K mainGlobals "_law_full" = some (some (.ref f32)))
    (l32 : K.lookup f32 = some ⟨oc32, od32, .func (PySem.W.fnOf "_law_full" "_law_full" (defArgs s__law_full) (defBody s__law_full) (defScope s__law_full) .none kV32 dc32 pm32 an32 cd32 ct32), sl32⟩) (c32 : PySem.W.codeIn K cd32 "_law_full" = true) (k32 : PySem.W.keepIn K (.ref f32) = true)
    (a33 : PySem.W.nsIn K mainGlobals "law" = some (some (.ref f33)))
    (l33 : K.lookup f33 = some ⟨oc33, od33, .func (PySem.W.fnOf "law" "law" (defArgs s_law) (defBody s_law) (defScope s_law) .none kV33 dc33 pm33 an33 cd33 ct33), sl33⟩) (c33 : PySem.W.codeIn K cd33 "law" = true) (k33 : PySem.W.keepIn K (.ref f33) = true)
    (z_abs : PySem.W.nsIn K mainGlobals "abs" = some none)
    (z_bool : PySem.W.nsIn K mainGlobals "bool" = some none)
    (z_enumerate : PySem.W.nsIn K mainGlobals "enumerate" = some none)
    (z_int : PySem.W.nsIn K mainGlobals "int" = some none)
    (z_isinstance : PySem.W.nsIn K mainGlobals "isinstance" = some none)
    (z_len : PySem.W.nsIn K mainGlobals "len" = some none)
    (z_list : PySem.W.nsIn K mainGlobals "list" = some none)
    (z_max : PySem.W.nsIn K mainGlobals "max" = some none)
    (z_min : PySem.W.nsIn K mainGlobals "min" = some none)
    (z_range : PySem.W.nsIn K mainGlobals "range" = some none)
    (z_reversed : PySem.W.nsIn K mainGlobals "reversed" = some none)
    (z_sorted : PySem.W.nsIn K mainGlobals "sorted" = some none)
    (z_tuple : PySem.W.nsIn K mainGlobals "tuple" = some none) :
    ∃ fd : FuncData, (∀ (s : Shared) (v : Value), BindsTo s fd ⟨[v], []⟩ [("_law_script", v)]) ∧ ∀ base : Heap, K.In base → base.Ns mainGlobals mg → FnOk l.prog w K mg base CX0 13 fa fd ["_law_script"] (sp_law K) := by
  have e := hfa.symm.trans (PySem.W.mg_of X G a33)
  cases e
  exact ⟨_, fun s v => .of_eq rfl, fun base _ _ => ok_law {
    C_KindError := C_KindError, g_KindError := PySem.W.mg_of X G gk_KindError,
    C_BadKind := C_BadKind, f_BadKind___init__ := fe_BadKind, fd_BadKind___init__ := _, er_BadKind := err_mk (PySem.W.mg_of X G gc_BadKind) lc_BadKind rv_BadKind sa_BadKind ex_BadKind ty_BadKind kp_BadKind op_X su_BadKind sv_BadKind mr_BadKind ce_BadKind co_BadKind vf_BadKind ff_BadKind lf_BadKind cd_BadKind a_BadKind t_BadKind tp_X (PySem.W.mg_none_of X G ns_X) rfl rfl rfl rfl ⟨_, rfl, rfl⟩ (fun us hl => match us, hl with | [_], _ => rfl) ga_BadKind gk_BadKind hd_BadKind ha_BadKind hn_X ht_X hm_BadKind,
    C_TooMany := C_TooMany, f_TooMany___init__ := fe_TooMany, fd_TooMany___init__ := _, er_TooMany := err_mk (PySem.W.mg_of X G gc_TooMany) lc_TooMany rv_TooMany sa_TooMany ex_TooMany ty_TooMany kp_TooMany op_X su_TooMany sv_TooMany mr_TooMany ce_TooMany co_TooMany vf_TooMany ff_TooMany lf_TooMany cd_TooMany a_TooMany t_TooMany tp_X (PySem.W.mg_none_of X G ns_X) rfl rfl rfl rfl ⟨_, rfl, rfl⟩ (fun us hl => match us, hl with | [_, _], _ => rfl) ga_TooMany gk_TooMany hd_TooMany ha_TooMany hn_X ht_X hm_TooMany,
    na_TooMany := na_TooMany,
    xm_BadKind_BadKind := xm_BadKind_BadKind,
    xm_TooMany_TooMany := xm_TooMany_TooMany,
    xm_TooMany_BadKind := xm_TooMany_BadKind,
    kt_BadKind_KindError := kt_BadKind_KindError,
    kt_BadKind_TooMany := kt_BadKind_TooMany,
    C_Book := C_Book, g_Book := PySem.W.mg_of X G gc_Book, cl_Book := ⟨pg_Book, hd_Book, po_Book, sa_Book⟩, ty_Book := ⟨ta_Book, tn_Book, tt_Book, tm_Book⟩,
    n_Book_parents := n_Book_parents,
    n_Book_bits := n_Book_bits,
    C_Groups := C_Groups, g_Groups := PySem.W.mg_of X G gc_Groups, cl_Groups := ⟨pg_Groups, hd_Groups, po_Groups, sa_Groups⟩, ty_Groups := ⟨ta_Groups, tn_Groups, tt_Groups, tm_Groups⟩,
    n_Groups_lots := n_Groups_lots,
    n_Groups_held := n_Groups_held,
    C_Runtime := C_Runtime, g_Runtime := PySem.W.mg_of X G gc_Runtime, cl_Runtime := ⟨pg_Runtime, hd_Runtime, po_Runtime, sa_Runtime⟩, ty_Runtime := ⟨ta_Runtime, tn_Runtime, tt_Runtime, tm_Runtime⟩,
    n_Runtime_steps := n_Runtime_steps,
    kt_Book_int := kt_Book_int,
    kt_Book_bool := kt_Book_bool,
    kt_Book_tuple := kt_Book_tuple,
    kt_Book_list := kt_Book_list,
    c_MOST_KINDS := ⟨_, PySem.W.mg_of X G k_MOST_KINDS⟩,
    c_MOST_PARENTS := ⟨_, PySem.W.mg_of X G k_MOST_PARENTS⟩,
    f_is_integer := f0, fd_is_integer := _, F_is_integer := (fun_mk (st := s_is_integer) l0 c0 k0), b_is_integer := (fun_mk (st := s_is_integer) l0 c0 k0).binds (ps := ["thing"]) (fun _ _ _ _ _ _ us hl => match us, hl with | [_], _ => rfl), g_is_integer := PySem.W.mg_of X G a0,
    f_is_within := f1, fd_is_within := _, F_is_within := (fun_mk (st := s_is_within) l1 c1 k1), b_is_within := (fun_mk (st := s_is_within) l1 c1 k1).binds (ps := ["thing", "least", "most"]) (fun _ _ _ _ _ _ us hl => match us, hl with | [_, _, _], _ => rfl), g_is_within := PySem.W.mg_of X G a1,
    f_is_lot := f2, fd_is_lot := _, F_is_lot := (fun_mk (st := s_is_lot) l2 c2 k2), b_is_lot := (fun_mk (st := s_is_lot) l2 c2 k2).binds (ps := ["thing", "many"]) (fun _ _ _ _ _ _ us hl => match us, hl with | [_, _], _ => rfl), g_is_lot := PySem.W.mg_of X G a2,
    f_check_most := f3, fd_check_most := _, F_check_most := (fun_mk (st := s_check_most) l3 c3 k3), b_check_most := (fun_mk (st := s_check_most) l3 c3 k3).binds (ps := ["number", "most"]) (fun _ _ _ _ _ _ us hl => match us, hl with | [_, _], _ => rfl), g_check_most := PySem.W.mg_of X G a3,
    f_are_parents := f4, fd_are_parents := _, F_are_parents := (fun_mk (st := s_are_parents) l4 c4 k4), b_are_parents := (fun_mk (st := s_are_parents) l4 c4 k4).binds (ps := ["thing", "number"]) (fun _ _ _ _ _ _ us hl => match us, hl with | [_, _], _ => rfl), g_are_parents := PySem.W.mg_of X G a4,
    f_Book_fill := f5, fd_Book_fill := _, F_Book_fill := (fun_mk (st := s_Book_fill) l5 c5 k5), b_Book_fill := (fun_mk (st := s_Book_fill) l5 c5 k5).binds (ps := ["self", "parents"]) (fun _ _ _ _ _ _ us hl => match us, hl with | [_, _], _ => rfl), m_Book_fill := ⟨a5, i5, k5⟩,
    f_Book___init__ := f6, fd_Book___init__ := _, F_Book___init__ := (fun_mk (st := s_Book___init__) l6 c6 k6), b_Book___init__ := (fun_mk (st := s_Book___init__) l6 c6 k6).binds (ps := ["self", "parents"]) (fun _ _ _ _ _ _ us hl => match us, hl with | [_, _], _ => rfl), m_Book___init__ := ⟨a6, i6, k6⟩, M_Book := ⟨mk_Book, a6, i6, kc_Book⟩,
    f_Book___eq__ := f7, fd_Book___eq__ := _, F_Book___eq__ := (fun_mk (st := s_Book___eq__) l7 c7 k7), b_Book___eq__ := (fun_mk (st := s_Book___eq__) l7 c7 k7).binds (ps := ["self", "other"]) (fun _ _ _ _ _ _ us hl => match us, hl with | [_, _], _ => rfl), m_Book___eq__ := ⟨a7, i7, k7⟩,
    f_book_of := f8, fd_book_of := _, F_book_of := (fun_mk (st := s_book_of) l8 c8 k8), b_book_of := (fun_mk (st := s_book_of) l8 c8 k8).binds (ps := ["parents"]) (fun _ _ _ _ _ _ us hl => match us, hl with | [_], _ => rfl), g_book_of := PySem.W.mg_of X G a8,
    f_grown := f9, fd_grown := _, F_grown := (fun_mk (st := s_grown) l9 c9 k9), b_grown := (fun_mk (st := s_grown) l9 c9 k9).binds (ps := ["book", "parents"]) (fun _ _ _ _ _ _ us hl => match us, hl with | [_, _], _ => rfl), g_grown := PySem.W.mg_of X G a9,
    f_is_one := f10, fd_is_one := _, F_is_one := (fun_mk (st := s_is_one) l10 c10 k10), b_is_one := (fun_mk (st := s_is_one) l10 c10 k10).binds (ps := ["book", "x", "p"]) (fun _ _ _ _ _ _ us hl => match us, hl with | [_, _, _], _ => rfl), g_is_one := PySem.W.mg_of X G a10,
    f_Groups___init__ := f11, fd_Groups___init__ := _, F_Groups___init__ := (fun_mk (st := s_Groups___init__) l11 c11 k11), b_Groups___init__ := (fun_mk (st := s_Groups___init__) l11 c11 k11).binds (ps := ["self"]) (fun _ _ _ _ _ _ us hl => match us, hl with | [_], _ => rfl), m_Groups___init__ := ⟨a11, i11, k11⟩, M_Groups := ⟨mk_Groups, a11, i11, kc_Groups⟩,
    f_Groups_fitting := f12, fd_Groups_fitting := _, F_Groups_fitting := (fun_mk (st := s_Groups_fitting) l12 c12 k12), b_Groups_fitting := (fun_mk (st := s_Groups_fitting) l12 c12 k12).binds (ps := ["self", "book", "lot", "x"]) (fun _ _ _ _ _ _ us hl => match us, hl with | [_, _, _, _], _ => rfl), m_Groups_fitting := ⟨a12, i12, k12⟩,
    f_Groups_taken := f13, fd_Groups_taken := _, F_Groups_taken := (fun_mk (st := s_Groups_taken) l13 c13 k13), b_Groups_taken := (fun_mk (st := s_Groups_taken) l13 c13 k13).binds (ps := ["self", "book", "x"]) (fun _ _ _ _ _ _ us hl => match us, hl with | [_, _, _], _ => rfl), m_Groups_taken := ⟨a13, i13, k13⟩,
    f_Groups_put := f14, fd_Groups_put := _, F_Groups_put := (fun_mk (st := s_Groups_put) l14 c14 k14), b_Groups_put := (fun_mk (st := s_Groups_put) l14 c14 k14).binds (ps := ["self", "book", "x"]) (fun _ _ _ _ _ _ us hl => match us, hl with | [_, _, _], _ => rfl), m_Groups_put := ⟨a14, i14, k14⟩,
    f_entries_of := f15, fd_entries_of := _, F_entries_of := (fun_mk (st := s_entries_of) l15 c15 k15), b_entries_of := (fun_mk (st := s_entries_of) l15 c15 k15).binds (ps := ["book", "held", "x"]) (fun _ _ _ _ _ _ us hl => match us, hl with | [_, _, _], _ => rfl), g_entries_of := PySem.W.mg_of X G a15,
    f__law_flow := f16, fd__law_flow := _, F__law_flow := (fun_mk (st := s__law_flow) l16 c16 k16), b__law_flow := (fun_mk (st := s__law_flow) l16 c16 k16).binds (ps := ["_law_script"]) (fun _ _ _ _ _ _ us hl => match us, hl with | [_], _ => rfl), g__law_flow := PySem.W.mg_of X G a16,
    f__law_draw := f17, fd__law_draw := _, F__law_draw := (fun_mk (st := s__law_draw) l17 c17 k17), b__law_draw := (fun_mk (st := s__law_draw) l17 c17 k17).binds (ps := ["_law_flow_here", "_law_many"]) (fun _ _ _ _ _ _ us hl => match us, hl with | [_, _], _ => rfl), g__law_draw := PySem.W.mg_of X G a17,
    f__law_parents := f18, fd__law_parents := _, F__law_parents := (fun_mk (st := s__law_parents) l18 c18 k18), b__law_parents := (fun_mk (st := s__law_parents) l18 c18 k18).binds (ps := ["_law_flow_here", "_law_many", "_law_shape"]) (fun _ _ _ _ _ _ us hl => match us, hl with | [_, _, _], _ => rfl), g__law_parents := PySem.W.mg_of X G a18,
    f_groups_from := f19, fd_groups_from := _, F_groups_from := (fun_mk (st := s_groups_from) l19 c19 k19), b_groups_from := (fun_mk (st := s_groups_from) l19 c19 k19).binds (ps := ["lots", "held"]) (fun _ _ _ _ _ _ us hl => match us, hl with | [_, _], _ => rfl), g_groups_from := PySem.W.mg_of X G a19,
    f_first_step := f20, fd_first_step := _, F_first_step := (fun_mk (st := s_first_step) l20 c20 k20), b_first_step := (fun_mk (st := s_first_step) l20 c20 k20).binds (ps := []) (fun _ _ _ _ _ _ us hl => match us, hl with | [], _ => rfl), g_first_step := PySem.W.mg_of X G a20,
    f_next_step := f21, fd_next_step := _, F_next_step := (fun_mk (st := s_next_step) l21 c21 k21), b_next_step := (fun_mk (st := s_next_step) l21 c21 k21).binds (ps := ["step", "parents"]) (fun _ _ _ _ _ _ us hl => match us, hl with | [_, _], _ => rfl), g_next_step := PySem.W.mg_of X G a21,
    f_Runtime___init__ := f22, fd_Runtime___init__ := _, F_Runtime___init__ := (fun_mk (st := s_Runtime___init__) l22 c22 k22), b_Runtime___init__ := (fun_mk (st := s_Runtime___init__) l22 c22 k22).binds (ps := ["self"]) (fun _ _ _ _ _ _ us hl => match us, hl with | [_], _ => rfl), m_Runtime___init__ := ⟨a22, i22, k22⟩, M_Runtime := ⟨mk_Runtime, a22, i22, kc_Runtime⟩,
    f_Runtime_many := f23, fd_Runtime_many := _, F_Runtime_many := (fun_mk (st := s_Runtime_many) l23 c23 k23), b_Runtime_many := (fun_mk (st := s_Runtime_many) l23 c23 k23).binds (ps := ["self"]) (fun _ _ _ _ _ _ us hl => match us, hl with | [_], _ => rfl), m_Runtime_many := ⟨a23, i23, k23⟩,
    f_Runtime_load := f24, fd_Runtime_load := _, F_Runtime_load := (fun_mk (st := s_Runtime_load) l24 c24 k24), b_Runtime_load := (fun_mk (st := s_Runtime_load) l24 c24 k24).binds (ps := ["self", "parents"]) (fun _ _ _ _ _ _ us hl => match us, hl with | [_, _], _ => rfl), m_Runtime_load := ⟨a24, i24, k24⟩,
    f_Runtime_book := f25, fd_Runtime_book := _, F_Runtime_book := (fun_mk (st := s_Runtime_book) l25 c25 k25), b_Runtime_book := (fun_mk (st := s_Runtime_book) l25 c25 k25).binds (ps := ["self"]) (fun _ _ _ _ _ _ us hl => match us, hl with | [_], _ => rfl), m_Runtime_book := ⟨a25, i25, k25⟩,
    f_Runtime_back := f26, fd_Runtime_back := _, F_Runtime_back := (fun_mk (st := s_Runtime_back) l26 c26 k26), b_Runtime_back := (fun_mk (st := s_Runtime_back) l26 c26 k26).binds (ps := ["self"]) (fun _ _ _ _ _ _ us hl => match us, hl with | [_], _ => rfl), m_Runtime_back := ⟨a26, i26, k26⟩,
    f__law_spoilt := f27, fd__law_spoilt := _, F__law_spoilt := (fun_mk (st := s__law_spoilt) l27 c27 k27), b__law_spoilt := (fun_mk (st := s__law_spoilt) l27 c27 k27).binds (ps := ["_law_flow_here", "_law_parents_here", "_law_many"]) (fun _ _ _ _ _ _ us hl => match us, hl with | [_, _, _], _ => rfl), g__law_spoilt := PySem.W.mg_of X G a27,
    f__law_load := f28, fd__law_load := _, F__law_load := (fun_mk (st := s__law_load) l28 c28 k28), b__law_load := (fun_mk (st := s__law_load) l28 c28 k28).binds (ps := ["_law_runtime", "_law_parents_here"]) (fun _ _ _ _ _ _ us hl => match us, hl with | [_, _], _ => rfl), g__law_load := PySem.W.mg_of X G a28,
    f__law_is := f29, fd__law_is := _, F__law_is := (fun_mk (st := s__law_is) l29 c29 k29), b__law_is := (fun_mk (st := s__law_is) l29 c29 k29).binds (ps := ["_law_thing", "_law_due"]) (fun _ _ _ _ _ _ us hl => match us, hl with | [_, _], _ => rfl), g__law_is := PySem.W.mg_of X G a29,
    f__law_loads := f30, fd__law_loads := _, F__law_loads := (fun_mk (st := s__law_loads) l30 c30 k30), b__law_loads := (fun_mk (st := s__law_loads) l30 c30 k30).binds (ps := ["_law_runtime", "_law_parents_here", "_law_due"]) (fun _ _ _ _ _ _ us hl => match us, hl with | [_, _, _], _ => rfl), g__law_loads := PySem.W.mg_of X G a30,
    f__law_stands := f31, fd__law_stands := _, F__law_stands := (fun_mk (st := s__law_stands) l31 c31 k31), b__law_stands := (fun_mk (st := s__law_stands) l31 c31 k31).binds (ps := ["_law_runtime", "_law_rows"]) (fun _ _ _ _ _ _ us hl => match us, hl with | [_, _], _ => rfl), g__law_stands := PySem.W.mg_of X G a31,
    f__law_full := f32, fd__law_full := _, F__law_full := (fun_mk (st := s__law_full) l32 c32 k32), b__law_full := (fun_mk (st := s__law_full) l32 c32 k32).binds (ps := ["_law_runtime", "_law_flow_here"]) (fun _ _ _ _ _ _ us hl => match us, hl with | [_, _], _ => rfl), g__law_full := PySem.W.mg_of X G a32,
    f_law := _, fd_law := _, F_law := (fun_mk (st := s_law) l33 c33 k33), b_law := (fun_mk (st := s_law) l33 c33 k33).binds (ps := ["_law_script"]) (fun _ _ _ _ _ _ us hl => match us, hl with | [_], _ => rfl), g_law := PySem.W.mg_of X G a33,
    z_abs := PySem.W.mg_none_of X G z_abs,
    z_bool := PySem.W.mg_none_of X G z_bool,
    z_enumerate := PySem.W.mg_none_of X G z_enumerate,
    z_int := PySem.W.mg_none_of X G z_int,
    z_isinstance := PySem.W.mg_none_of X G z_isinstance,
    z_len := PySem.W.mg_none_of X G z_len,
    z_list := PySem.W.mg_none_of X G z_list,
    z_max := PySem.W.mg_none_of X G z_max,
    z_min := PySem.W.mg_none_of X G z_min,
    z_range := PySem.W.mg_none_of X G z_range,
    z_reversed := PySem.W.mg_none_of X G z_reversed,
    z_sorted := PySem.W.mg_none_of X G z_sorted,
    z_tuple := PySem.W.mg_none_of X G z_tuple }⟩
end Lk
open PySem PySem.W PyProof.Rows
set_option maxHeartbeats 0 in
theorem PySem.Challenge.cw_latekinds_k64_loads_holds : PySem.Challenge.rw_latekinds_k64_loads.Holds := by
  w_on; o_law; k_head; (case hw => w_witness2)
  k_fill
  refine L2.walk_of (l := PySem.Challenge.rw_latekinds_k64_loads) (n := 63) (k := 13) (x := "_law_script") (CX := fun _ => L2.CX0) (sp := fun w => Lk.sp_law _) rfl (by decide) rfl ⟨rfl, by decide, by decide⟩ (fun w h Y => PySem.W.kIn_of Y) ?F (fun _ _ a ns hl _ hS => ⟨a, ns, rfl, hS, hl, fun _ => rfl⟩) (fun _ _ _ _ _ h => h)
  case F =>
    intro w mg fa h KX G hmg
    refine' Lk.all_mk KX G hmg ?gk_KindError ?op_X ?tp_X ?hn_X ?ht_X ?ns_X ?gc_BadKind ?lc_BadKind ?rv_BadKind ?sa_BadKind ?ex_BadKind ?ty_BadKind ?kp_BadKind ?su_BadKind ?sv_BadKind ?mr_BadKind ?a_BadKind ?t_BadKind ?lf_BadKind ?cd_BadKind ?ce_BadKind ?co_BadKind ?vf_BadKind ?ff_BadKind ?ga_BadKind ?gk_BadKind ?hd_BadKind ?ha_BadKind ?hm_BadKind ?gc_TooMany ?lc_TooMany ?rv_TooMany ?sa_TooMany ?ex_TooMany ?ty_TooMany ?kp_TooMany ?su_TooMany ?sv_TooMany ?mr_TooMany ?a_TooMany ?t_TooMany ?lf_TooMany ?cd_TooMany ?ce_TooMany ?co_TooMany ?vf_TooMany ?ff_TooMany ?ga_TooMany ?gk_TooMany ?hd_TooMany ?ha_TooMany ?hm_TooMany ?na_TooMany ?xm_BadKind_BadKind ?xm_TooMany_TooMany ?xm_TooMany_BadKind ?kt_BadKind_KindError ?kt_BadKind_TooMany ?gc_Book ?pg_Book ?hd_Book ?po_Book ?sa_Book ?mk_Book ?kc_Book ?ta_Book ?tn_Book ?tt_Book ?tm_Book ?n_Book_parents ?n_Book_bits ?gc_Groups ?pg_Groups ?hd_Groups ?po_Groups ?sa_Groups ?mk_Groups ?kc_Groups ?ta_Groups ?tn_Groups ?tt_Groups ?tm_Groups ?n_Groups_lots ?n_Groups_held ?gc_Runtime ?pg_Runtime ?hd_Runtime ?po_Runtime ?sa_Runtime ?mk_Runtime ?kc_Runtime ?ta_Runtime ?tn_Runtime ?tt_Runtime ?tm_Runtime ?n_Runtime_steps ?kt_Book_int ?kt_Book_bool ?kt_Book_tuple ?kt_Book_list ?k_MOST_KINDS ?k_MOST_PARENTS ?a0 ?l0 ?c0 ?k0 ?a1 ?l1 ?c1 ?k1 ?a2 ?l2 ?c2 ?k2 ?a3 ?l3 ?c3 ?k3 ?a4 ?l4 ?c4 ?k4 ?a5 ?i5 ?l5 ?c5 ?k5 ?a6 ?i6 ?l6 ?c6 ?k6 ?a7 ?i7 ?l7 ?c7 ?k7 ?a8 ?l8 ?c8 ?k8 ?a9 ?l9 ?c9 ?k9 ?a10 ?l10 ?c10 ?k10 ?a11 ?i11 ?l11 ?c11 ?k11 ?a12 ?i12 ?l12 ?c12 ?k12 ?a13 ?i13 ?l13 ?c13 ?k13 ?a14 ?i14 ?l14 ?c14 ?k14 ?a15 ?l15 ?c15 ?k15 ?a16 ?l16 ?c16 ?k16 ?a17 ?l17 ?c17 ?k17 ?a18 ?l18 ?c18 ?k18 ?a19 ?l19 ?c19 ?k19 ?a20 ?l20 ?c20 ?k20 ?a21 ?l21 ?c21 ?k21 ?a22 ?i22 ?l22 ?c22 ?k22 ?a23 ?i23 ?l23 ?c23 ?k23 ?a24 ?i24 ?l24 ?c24 ?k24 ?a25 ?i25 ?l25 ?c25 ?k25 ?a26 ?i26 ?l26 ?c26 ?k26 ?a27 ?l27 ?c27 ?k27 ?a28 ?l28 ?c28 ?k28 ?a29 ?l29 ?c29 ?k29 ?a30 ?l30 ?c30 ?k30 ?a31 ?l31 ?c31 ?k31 ?a32 ?l32 ?c32 ?k32 ?a33 ?l33 ?c33 ?k33 ?z_abs ?z_bool ?z_enumerate ?z_int ?z_isinstance ?z_len ?z_list ?z_max ?z_min ?z_range ?z_reversed ?z_sorted ?z_tuple
    (case gk_KindError => k_is)
    (case op_X => k_is)
    (case tp_X => first | rfl | decide +kernel)
    (case hn_X => k_is)
    (case ht_X => k_is)
    (case ns_X => k_is)
    (case gc_BadKind => k_is)
    (case lc_BadKind => k_is)
    (case rv_BadKind => first | rfl | decide +kernel)
    (case sa_BadKind => k_is)
    (case ex_BadKind => k_is)
    (case ty_BadKind => k_is)
    (case kp_BadKind => k_is)
    (case su_BadKind => ks_is)
    (case sv_BadKind => k_is)
    (case mr_BadKind => k_is)
    (case a_BadKind => k_is)
    (case t_BadKind => k_is)
    (case lf_BadKind => k_is)
    (case cd_BadKind => k_is)
    (case ce_BadKind => k_is)
    (case co_BadKind => k_is)
    (case vf_BadKind => rfl)
    (case ff_BadKind => first | rfl | decide +kernel)
    (case ga_BadKind => k_is)
    (case gk_BadKind => k_is)
    (case hd_BadKind => k_is)
    (case ha_BadKind => k_is)
    (case hm_BadKind => k_is)
    (case gc_TooMany => k_is)
    (case lc_TooMany => k_is)
    (case rv_TooMany => first | rfl | decide +kernel)
    (case sa_TooMany => k_is)
    (case ex_TooMany => k_is)
    (case ty_TooMany => k_is)
    (case kp_TooMany => k_is)
    (case su_TooMany => ks_is)
    (case sv_TooMany => k_is)
    (case mr_TooMany => k_is)
    (case a_TooMany => k_is)
    (case t_TooMany => k_is)
    (case lf_TooMany => k_is)
    (case cd_TooMany => k_is)
    (case ce_TooMany => k_is)
    (case co_TooMany => k_is)
    (case vf_TooMany => rfl)
    (case ff_TooMany => first | rfl | decide +kernel)
    (case ga_TooMany => k_is)
    (case gk_TooMany => k_is)
    (case hd_TooMany => k_is)
    (case ha_TooMany => k_is)
    (case hm_TooMany => k_is)
    (case na_TooMany => k_is)
    (case xm_BadKind_BadKind => kts_exm)
    (case xm_TooMany_TooMany => kts_exm)
    (case xm_TooMany_BadKind => kts_exm)
    (case kt_BadKind_KindError => kit_is)
    (case kt_BadKind_TooMany => kit_is)
    (case gc_Book => k_is)
    (case pg_Book => k_is)
    (case hd_Book => k_is)
    (case po_Book => k_is)
    (case sa_Book => k_is)
    (case mk_Book => k_is)
    (case kc_Book => k_is)
    (case ta_Book => k_is)
    (case tn_Book => k_is)
    (case tt_Book => k_is)
    (case tm_Book => k_is)
    (case n_Book_parents => k_is)
    (case n_Book_bits => k_is)
    (case gc_Groups => k_is)
    (case pg_Groups => k_is)
    (case hd_Groups => k_is)
    (case po_Groups => k_is)
    (case sa_Groups => k_is)
    (case mk_Groups => k_is)
    (case kc_Groups => k_is)
    (case ta_Groups => k_is)
    (case tn_Groups => k_is)
    (case tt_Groups => k_is)
    (case tm_Groups => k_is)
    (case n_Groups_lots => k_is)
    (case n_Groups_held => k_is)
    (case gc_Runtime => k_is)
    (case pg_Runtime => k_is)
    (case hd_Runtime => k_is)
    (case po_Runtime => k_is)
    (case sa_Runtime => k_is)
    (case mk_Runtime => k_is)
    (case kc_Runtime => k_is)
    (case ta_Runtime => k_is)
    (case tn_Runtime => k_is)
    (case tt_Runtime => k_is)
    (case tm_Runtime => k_is)
    (case n_Runtime_steps => k_is)
    (case a0 => k_is)
    (case l0 => k_is)
    (case c0 => k_is)
    (case k0 => k_is)
    (case a1 => k_is)
    (case l1 => k_is)
    (case c1 => k_is)
    (case k1 => k_is)
    (case a2 => k_is)
    (case l2 => k_is)
    (case c2 => k_is)
    (case k2 => k_is)
    (case a3 => k_is)
    (case l3 => k_is)
    (case c3 => k_is)
    (case k3 => k_is)
    (case a4 => k_is)
    (case l4 => k_is)
    (case c4 => k_is)
    (case k4 => k_is)
    (case a5 => k_is)
    (case i5 => k_is)
    (case l5 => k_is)
    (case c5 => k_is)
    (case k5 => k_is)
    (case a6 => k_is)
    (case i6 => k_is)
    (case l6 => k_is)
    (case c6 => k_is)
    (case k6 => k_is)
    (case a7 => k_is)
    (case i7 => k_is)
    (case l7 => k_is)
    (case c7 => k_is)
    (case k7 => k_is)
    (case a8 => k_is)
    (case l8 => k_is)
    (case c8 => k_is)
    (case k8 => k_is)
    (case a9 => k_is)
    (case l9 => k_is)
    (case c9 => k_is)
    (case k9 => k_is)
    (case a10 => k_is)
    (case l10 => k_is)
    (case c10 => k_is)
    (case k10 => k_is)
    (case a11 => k_is)
    (case i11 => k_is)
    (case l11 => k_is)
    (case c11 => k_is)
    (case k11 => k_is)
    (case a12 => k_is)
    (case i12 => k_is)
    (case l12 => k_is)
    (case c12 => k_is)
    (case k12 => k_is)
    (case a13 => k_is)
    (case i13 => k_is)
    (case l13 => k_is)
    (case c13 => k_is)
    (case k13 => k_is)
    (case a14 => k_is)
    (case i14 => k_is)
    (case l14 => k_is)
    (case c14 => k_is)
    (case k14 => k_is)
    (case a15 => k_is)
    (case l15 => k_is)
    (case c15 => k_is)
    (case k15 => k_is)
    (case a16 => k_is)
    (case l16 => k_is)
    (case c16 => k_is)
    (case k16 => k_is)
    (case a17 => k_is)
    (case l17 => k_is)
    (case c17 => k_is)
    (case k17 => k_is)
    (case a18 => k_is)
    (case l18 => k_is)
    (case c18 => k_is)
    (case k18 => k_is)
    (case a19 => k_is)
    (case l19 => k_is)
    (case c19 => k_is)
    (case k19 => k_is)
    (case a20 => k_is)
    (case l20 => k_is)
    (case c20 => k_is)
    (case k20 => k_is)
    (case a21 => k_is)
    (case l21 => k_is)
    (case c21 => k_is)
    (case k21 => k_is)
    (case a22 => k_is)
    (case i22 => k_is)
    (case l22 => k_is)
    (case c22 => k_is)
    (case k22 => k_is)
    (case a23 => k_is)
    (case i23 => k_is)
    (case l23 => k_is)
    (case c23 => k_is)
    (case k23 => k_is)
    (case a24 => k_is)
    (case i24 => k_is)
    (case l24 => k_is)
    (case c24 => k_is)
    (case k24 => k_is)
    (case a25 => k_is)
    (case i25 => k_is)
    (case l25 => k_is)
    (case c25 => k_is)
    (case k25 => k_is)
    (case a26 => k_is)
    (case i26 => k_is)
    (case l26 => k_is)
    (case c26 => k_is)
    (case k26 => k_is)
    (case a27 => k_is)
    (case l27 => k_is)
    (case c27 => k_is)
    (case k27 => k_is)
    (case a28 => k_is)
    (case l28 => k_is)
    (case c28 => k_is)
    (case k28 => k_is)
    (case a29 => k_is)
    (case l29 => k_is)
    (case c29 => k_is)
    (case k29 => k_is)
    (case a30 => k_is)
    (case l30 => k_is)
    (case c30 => k_is)
    (case k30 => k_is)
    (case a31 => k_is)
    (case l31 => k_is)
    (case c31 => k_is)
    (case k31 => k_is)
    (case a32 => k_is)
    (case l32 => k_is)
    (case c32 => k_is)
    (case k32 => k_is)
    (case a33 => k_is)
    (case l33 => k_is)
    (case c33 => k_is)
    (case k33 => k_is)
    (case kt_Book_int => kit_is)
    (case kt_Book_bool => kit_is)
    (case kt_Book_tuple => kit_is)
    (case kt_Book_list => kit_is)
    (case k_MOST_KINDS => k_is)
    (case k_MOST_PARENTS => k_is)
    (case z_abs => k_is)
    (case z_bool => k_is)
    (case z_enumerate => k_is)
    (case z_int => k_is)
    (case z_isinstance => k_is)
    (case z_len => k_is)
    (case z_list => k_is)
    (case z_max => k_is)
    (case z_min => k_is)
    (case z_range => k_is)
    (case z_reversed => k_is)
    (case z_sorted => k_is)
    (case z_tuple => k_is)
#print axioms PySem.Challenge.cw_latekinds_k64_loads_holds
