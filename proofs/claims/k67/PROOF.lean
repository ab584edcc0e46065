import PyProof.Rows.All
import Wide.All
import OpenK.AllK
import Wide.FinOn
import HandS.ForMost
import HandS.IsInst
import HandS.Rev
import HandS.Wide
import HandS.SortInts
import HandS.TupAny
import HandS.Codes
import HandS.Style
import HandS.SetFor
import HandS.Strs
import HandS.Zip
import HandS.Conv
import HandS.OwnEq
import HandS.TupMul
import HandS.Text
import HandS.WideBits
import KE.BitLaws
import KE.KDictList
import KE.GoesEnum
import HandS.ForExc
import HandS.ExcInit
import HandS.Nested
import HandS.ExcIs
import KE.KExcSuper
import KE.RegKSuper
import KE.RegKTryMore
import KE.RegKIsAll
import KE.Datum
import PyProof.ReprRoads
import HandS.FStrTup
import PySem.Challenge.RW_latekinds_k67_told_rule_kept
set_option Elab.async false
set_option linter.all false
set_option maxRecDepth 100000
set_option maxHeartbeats 4000000
namespace Lk
open PySem L2
def top (i : Nat) : Stmt := PySem.Challenge.pw_latekinds_k67_told_rule_kept.main.body.getD i (.Pass ⟨0, 0, 0, 0⟩)
abbrev s_NoKind___init__ : Stmt := inClass (top 4) 0
abbrev s_is_integer : Stmt := top 8
abbrev s_is_within : Stmt := top 9
abbrev s_is_lot : Stmt := top 10
abbrev s_check_kind_of : Stmt := top 11
abbrev s_check_most : Stmt := top 12
abbrev s_are_parents : Stmt := top 16
abbrev s_Book_fill : Stmt := inClass (top 17) 1
abbrev s_Book___init__ : Stmt := inClass (top 17) 0
abbrev s_book_of : Stmt := top 18
abbrev s_grown : Stmt := top 19
abbrev s_many_of : Stmt := top 20
abbrev s_is_one : Stmt := top 21
abbrev s_Groups___init__ : Stmt := inClass (top 23) 0
abbrev s_Groups_fitting : Stmt := inClass (top 23) 1
abbrev s_Groups_taken : Stmt := inClass (top 23) 2
abbrev s_Groups_put : Stmt := inClass (top 23) 3
abbrev s_Groups_told : Stmt := inClass (top 23) 4
abbrev s_entries_of : Stmt := top 24
abbrev s_gone_through : Stmt := top 25
abbrev s_groups : Stmt := top 26
abbrev s_told_scheme : Stmt := top 27
abbrev s_told : Stmt := top 29
abbrev s__law_flow : Stmt := top 36
abbrev s__law_draw : Stmt := top 37
abbrev s__law_parents : Stmt := top 38
abbrev s__law_lot : Stmt := top 39
abbrev s__law_free : Stmt := top 40
abbrev s__law_entries : Stmt := top 43
abbrev s__law_place : Stmt := top 41
abbrev s__law_put : Stmt := top 42
abbrev s__law_groups : Stmt := top 44
abbrev s_groups_from : Stmt := top 31
abbrev s_first_step : Stmt := top 32
abbrev s_next_step : Stmt := top 33
abbrev s_Runtime___init__ : Stmt := inClass (top 34) 0
abbrev s_Runtime_many : Stmt := inClass (top 34) 7
abbrev s_Runtime_load : Stmt := inClass (top 34) 1
abbrev s_Runtime_ask : Stmt := inClass (top 34) 2
abbrev s_Runtime_given : Stmt := inClass (top 34) 3
abbrev s_Runtime_book : Stmt := inClass (top 34) 4
abbrev s_Runtime_groups : Stmt := inClass (top 34) 5
abbrev s__law_given : Stmt := top 45
abbrev s__law_great : Stmt := top 46
abbrev s_law : Stmt := top 47
/-! ### what is kept -/
theorem Same.at {H H' : Hp} {a : Addr} {o : HO} (e : Same H H') (h : H a = some o) : H' a = some o := e a o h
theorem Same.new {H H' : Hp} {p : Addr} {o : HO} (e : Same H H') (h : H' p = none) : Same H (upd H' p o) := fun b u z => by
  have z2 := e b u z
  rw [upd_ne (ne_of_none z2 h)]
  exact z2
theorem Same.mut {H H' : Hp} {p : Addr} {o : HO} (e : Same H H') (h : H p = none) : Same H (upd H' p o) := fun b u z => by
  rw [upd_ne (ne_of_none z h)]
  exact e b u z
theorem upd_at {H : Hp} {p a : Addr} {o u : HO} (n : a ≠ p) (h : H a = some u) : upd H p o a = some u := by
  rw [upd_ne n]
  exact h
theorem upd_at' {H : Hp} {p a : Addr} {o u : HO} (h : H a = some u) (n : a ≠ p) : upd H p o a = some u := upd_at n h
/-- the readings of len, list(..), tuple(..) by name -/
def rLenQ (K : PySem.W.Frag) : List V → Hp → VK → Prop := fun xs H Q => ∃ p ys, xs = [.ref p] ∧ (SqL K H p ys ∨ SqT K H p ys) ∧ Q (.int ys.length) H
def rListQ (K : PySem.W.Frag) : List V → Hp → VK → Prop := fun xs H Q => ∃ p ys, xs = [.ref p] ∧ (SqL K H p ys ∨ SqT K H p ys) ∧ ∀ l, H l = none → Q (.ref l) (upd H l (.lst ys))
def rTupQ (K : PySem.W.Frag) : List V → Hp → VK → Prop := fun xs H Q => ∃ p ys, xs = [.ref p] ∧ ((SqL K H p ys ∧ ∀ l, H l = none → Q (.ref l) (upd H l (.tup ys))) ∨ (SqT K H p ys ∧ Q (.ref p) H))
/-- new in H -/
structure Nw (H : Hp) (p : Addr) : Prop where
  e : H p = none
theorem Nw.ne {H : Hp} {a p : Addr} {o : HO} (w : Nw H p) (h : H a = some o) : a ≠ p := ne_of_none h w.e
/-- a tape: its address, its list's, the list -/
structure Tp where
  t : Addr
  l : Addr
  ns : List Int
structure Tape (τ : Tp) (H : Hp) : Prop where
  list : H τ.l = some (.lst (τ.ns.map V.int))
  ne : τ.l ≠ τ.t
  here : ∃ i c s n : Int, H τ.t = some (.lst [.ref τ.l, .int i, .int c, .int s, .int n]) ∧ 0 ≤ i
/-- all but the tape is kept, the tape is a tape -/
structure Mv (τ : Tp) (H0 H : Hp) : Prop where
  was : Tape τ H0
  keep : ∀ a o, a ≠ τ.t → H0 a = some o → H a = some o
  now : Tape τ H
structure Mz (τ : Tp) (H0 H : Hp) : Prop where
  mv : Mv τ H0 H
section
variable {τ : Tp} {H0 H H1 H2 : Hp} {p a : Addr} {o : HO}
theorem Tape.mv (h : Tape τ H) : Mv τ H H := ⟨h, fun _ _ _ e => e, h⟩
theorem Tape.mz (h : Tape τ H) : Mz τ H H := ⟨h.mv⟩
theorem Mv.self (m : Mv τ H0 H) : Mv τ H H := m.now.mv
theorem Mv.trans (m : Mv τ H0 H1) (k : Mv τ H1 H2) : Mv τ H0 H2 := ⟨m.was, fun a o n e => k.keep a o n (m.keep a o n e), k.now⟩
theorem Mz.trans (m : Mz τ H0 H1) (k : Mv τ H1 H2) : Mz τ H0 H2 := ⟨m.mv.trans k⟩
theorem Tape.new (h : Tape τ H) (n : H p = none) : Tape τ (upd H p o) := by
  obtain ⟨h1, h2, i, c, s, k, h3, h4⟩ := h
  exact ⟨upd_at (ne_of_none h1 n) h1, h2, i, c, s, k, upd_at (ne_of_none h3 n) h3, h4⟩
theorem Mv.new (m : Mv τ H0 H) (n : H p = none) : Mv τ H0 (upd H p o) := ⟨m.was, fun a u e z => upd_at (ne_of_none (m.keep a u e z) n) (m.keep a u e z), m.now.new n⟩
theorem Mz.new (m : Mz τ H0 H) (n : H p = none) : Mz τ H0 (upd H p o) := ⟨m.mv.new n⟩
theorem Mv.neF (m : Mv τ H0 H) (n : H0 p = none) : p ≠ τ.t := fun e => by
  obtain ⟨_, _, _, _, h, _⟩ := m.was.here
  rw [e, h] at n
  cases n
theorem Mv.neN (m : Mv τ H0 H) (n : H p = none) : p ≠ τ.t := fun e => by
  obtain ⟨_, _, _, _, h, _⟩ := m.now.here
  rw [e, h] at n
  cases n
theorem Mv.mut (m : Mv τ H0 H) (n : H0 p = none) : Mv τ H0 (upd H p o) := by
  obtain ⟨i, c, s, k, h3, h4⟩ := m.now.here
  have n1 : τ.l ≠ p := ne_of_none m.was.list n
  exact ⟨m.was, fun a u e z => upd_at (ne_of_none z n) (m.keep a u e z), upd_at n1 m.now.list, m.now.ne, i, c, s, k, upd_at (m.neF n).symm h3, h4⟩
theorem Mz.mut (m : Mz τ H0 H) (n : H0 p = none) : Mz τ H0 (upd H p o) := ⟨m.mv.mut n⟩
theorem Mv.free (m : Mv τ H0 H) (n : H p = none) : H0 p = none := by
  cases e : H0 p with
  | none => rfl
  | some o =>
    by_cases z : p = τ.t
    · obtain ⟨_, _, _, _, h, _⟩ := m.now.here
      rw [z, h] at n
      cases n
    · rw [m.keep p o z e] at n
      cases n
theorem Mz.free (m : Mz τ H0 H) (n : H p = none) : H0 p = none := m.mv.free n
theorem Mv.at (m : Mv τ H0 H) (n : a ≠ τ.t) (h : H0 a = some o) : H a = some o := m.keep a o n h
theorem Mv.at' (m : Mv τ H0 H) (h : H0 a = some o) (n : a ≠ τ.t) : H a = some o := m.keep a o n h
theorem Mz.at (m : Mz τ H0 H) (n : a ≠ τ.t) (h : H0 a = some o) : H a = some o := m.mv.keep a o n h
theorem Mv.neT {xs : List V} (m : Mv τ H0 H) (h : H a = some (.tup xs)) : a ≠ τ.t := fun e => by
  obtain ⟨_, _, _, _, z, _⟩ := m.now.here
  rw [e, z] at h
  cases h
theorem Mv.neT0 {xs : List V} (m : Mv τ H0 H) (h : H0 a = some (.tup xs)) : a ≠ τ.t := m.was.mv.neT h
theorem Mv.atT {xs : List V} (m : Mv τ H0 H) (h : H0 a = some (.tup xs)) : H a = some (.tup xs) := m.keep a _ (m.neT0 h) h
theorem Tape.same (h : Tape τ H) (s : Same H H1) : Tape τ H1 := by
  obtain ⟨h1, h2, i, c, s', k, h3, h4⟩ := h
  exact ⟨s _ _ h1, h2, i, c, s', k, s _ _ h3, h4⟩
theorem Mv.same (m : Mv τ H0 H) (s : Same H H1) : Mv τ H0 H1 := by
  obtain ⟨h1, h2, i, c, s', k, h3, h4⟩ := m.now
  exact ⟨m.was, fun a o e z => s a o (m.keep a o e z), s _ _ h1, h2, i, c, s', k, s _ _ h3, h4⟩
theorem Mz.same (m : Mz τ H0 H) (s : Same H H1) : Mz τ H0 H1 := ⟨m.mv.same s⟩
end
theorem iteD {c A B : Prop} [Decidable c] (h1 : c → A) (h2 : ¬ c → B) : if decide c = true then A else B := by
  by_cases h : c
  · rw [decide_eq_true h]
    exact iteT (h1 h)
  · rw [decide_eq_false h]
    exact iteF (h2 h)
theorem iteDY {c A B : Prop} [Decidable c] (h : c) (h1 : A) : if decide c = true then A else B := by
  rw [decide_eq_true h]
  exact iteT h1
theorem iteDN {c A B : Prop} [Decidable c] (h : ¬ c) (h1 : B) : if decide c = true then A else B := by
  rw [decide_eq_false h]
  exact iteF h1
theorem iteET {b : Bool} {A B : Prop} (h : b = true) (k : A) : if b = true then A else B := by
  rw [h]
  exact iteT k
theorem iteEF {b : Bool} {A B : Prop} (h : b = false) (k : B) : if b = true then A else B := by
  rw [h]
  exact iteF k
theorem iteB {b : Bool} {A B : Prop} (h1 : b = true → A) (h2 : b = false → B) : if b = true then A else B := by
  cases b with
  | true => exact iteT (h1 rfl)
  | false => exact iteF (h2 rfl)
theorem fmod_in {x m : Int} (h : 0 < m) : 0 ≤ x.fmod m ∧ x.fmod m < m := by
  rw [Int.fmod_eq_emod_of_nonneg x (Int.le_of_lt h)]
  exact ⟨Int.emod_nonneg x (by omega), Int.emod_lt_of_pos x h⟩
theorem Mv.put {τ : Tp} {H0 H : Hp} (m : Mv τ H0 H) {xs : List V} {i c s n : Int} (e : xs = [.ref τ.l, .int i, .int c, .int s, .int n]) (h : 0 ≤ i) : Mv τ H0 (upd H τ.t (.lst xs)) := by
  subst e
  exact ⟨m.was, fun a o k z => upd_at k (m.keep a o k z), upd_at m.now.ne m.now.list, m.now.ne, i, c, s, n, upd_same, h⟩
theorem le_lineB {n : Nat} (h : Nat.ble n 100000 = true) : n ≤ sizeLine := Nat.le_trans (Nat.le_of_ble_eq_true h) (by decide)
theorem fmod64 {x m : Int} (h : 0 < m) (h2 : m ≤ 2 ^ 64) : -(2 ^ 64) < x.fmod m ∧ x.fmod m < 2 ^ 64 := by
  have q := fmod_in (x := x) h
  omega
theorem at_ints {ns : List Int} {i : Int} (h0 : 0 ≤ i) (h : i < ((ns.map V.int).length : Int)) : ∃ v : Int, atI (ns.map V.int) i = some (.int v) := by
  rw [List.length_map] at h
  have hj : i.toNat < ns.length := by omega
  refine ⟨ns[i.toNat], at_of (j := i.toNat) (by omega) ?_⟩
  rw [List.getElem?_map, List.getElem?_eq_getElem hj]
  rfl
theorem dec_int {a b : Int} : decide (V.int a = V.int b) = decide (a = b) := by
  by_cases h : a = b
  · rw [decide_eq_true h, h, decide_eq_true rfl]
  · rw [decide_eq_false h, decide_eq_false fun e => h (V.int.inj e)]
theorem dec_nat {a b : Nat} : decide (V.int (a : Int) = V.int (b : Int)) = decide (a = b) := by
  rw [dec_int]
  exact decide_eq_decide.mpr Int.ofNat_inj
theorem iteI {a b : Int} {A B : Prop} (h1 : a = b → A) (h2 : ¬ a = b → B) : if decide (V.int a = V.int b) = true then A else B := by
  rw [dec_int]
  exact iteD h1 h2
/-! ### kinds of things -/
def isIntB : V → Bool
  | .int _ => true
  | _ => false
def withinB (v : V) (lo hi : Int) : Bool := match v with
  | .int i => decide (lo ≤ i) && decide (i ≤ hi)
  | _ => false
structure IntK (K : PySem.W.Frag) (H : Hp) (v : V) : Prop where
  ex : ∃ (t : Value) (bi bb : Bool), TyX K H v t ∧ PySem.W.kitOne K t (.type "int") = some bi ∧ PySem.W.kitOne K t (.type "bool") = some bb ∧ (bi && !bb) = isIntB v
section
variable {K : PySem.W.Frag} {H : Hp}
theorem IntK.int (i : Int) : IntK K H (.int i) := ⟨_, true, false, .base (.int i), kit_ty (by decide +kernel), kit_ty (by decide +kernel), rfl⟩
theorem IntK.bl (b : Bool) : IntK K H (.bl b) := ⟨_, true, true, .base (.bl b), kit_ty (by decide +kernel), kit_ty (by decide +kernel), rfl⟩
theorem IntK.non : IntK K H .non := ⟨_, false, false, .base .non, kit_ty (by decide +kernel), kit_ty (by decide +kernel), rfl⟩
theorem IntK.str (s : Str) : IntK K H (.str s) := ⟨_, false, false, .base (.str s), kit_ty (by decide +kernel), kit_ty (by decide +kernel), rfl⟩
theorem IntK.tup {a : Addr} {xs : List V} (h : H a = some (.tup xs)) : IntK K H (.ref a) := ⟨_, false, false, .base (.tup h), kit_ty (by decide +kernel), kit_ty (by decide +kernel), rfl⟩
theorem IntK.lst {a : Addr} {xs : List V} (h : H a = some (.lst xs)) : IntK K H (.ref a) := ⟨_, false, false, .base (.lst h), kit_ty (by decide +kernel), kit_ty (by decide +kernel), rfl⟩
theorem IntK.dK {a : Addr} {xs : List (Key × V)} (h : H a = some (.dK xs)) : IntK K H (.ref a) := ⟨_, false, false, .base (.dK h), kit_ty (by decide +kernel), kit_ty (by decide +kernel), rfl⟩
theorem ty_tup {a : Addr} {xs : List V} (h : H a = some (.tup xs)) : TyX K H (.ref a) (.type "tuple") := .base (.tup h)
theorem ty_int (i : Int) : TyX K H (.int i) (.type "int") := .base (.int i)
theorem ty_bl (b : Bool) : TyX K H (.bl b) (.type "bool") := .base (.bl b)
theorem tup_tup : PySem.W.kitOne K (.type "tuple") (.type "tuple") = some true := kit_ty (by decide +kernel)
theorem int_tup : PySem.W.kitOne K (.type "int") (.type "tuple") = some false := kit_ty (by decide +kernel)
theorem int_int : PySem.W.kitOne K (.type "int") (.type "int") = some true := kit_ty (by decide +kernel)
theorem int_bool : PySem.W.kitOne K (.type "int") (.type "bool") = some false := kit_ty (by decide +kernel)
theorem bool_bool : PySem.W.kitOne K (.type "bool") (.type "bool") = some true := kit_ty (by decide +kernel)
end
/-- tuples stay -/
def TK (H H' : Hp) : Prop := ∀ a xs, H a = some (.tup xs) → H' a = some (.tup xs)
theorem Same.tk {H H' : Hp} (s : Same H H') : TK H H' := fun a _ h => s a _ h
theorem Mv.tk {τ : Tp} {H H' : Hp} (m : Mv τ H H') : TK H H' := fun a _ h => m.keep a _ (m.neT0 h) h
theorem TK.trans {H H1 H2 : Hp} (a : TK H H1) (b : TK H1 H2) : TK H H2 := fun x xs h => b x xs (a x xs h)
theorem TK.mut {H : Hp} {p : Addr} {o : HO} {ys : List V} (h : H p = some (.lst ys)) : TK H (upd H p o) := fun a xs e => upd_at (ne_of e h (by intro z; cases z)) e
theorem TK.new {H : Hp} {p : Addr} {o : HO} (h : H p = none) : TK H (upd H p o) := fun a xs e => upd_at (ne_of_none e h) e
/-! ### len(set(a tuple of whole numbers)); list(reversed(a list)) -/
section
open PySem.Spec PyProof.Rows
variable {X : Cx}
def tLenSetU (K : PySem.W.Frag) (ta : TE) : TE := fun σ H Q => ta σ H fun x H1 => ∃ (l : Addr) (ns : List Int), x = .ref l ∧ SqT K H1 l (ns.map V.int) ∧ ns.length ≤ 4000 ∧ ∀ ks : List Int, ks.Nodup → (∀ k, k ∈ ks ↔ k ∈ ns) → Q (.int (ks.length : Nat)) H1
theorem pe_lenSetU {a : Expr} {ta : TE} {p p2 q pos : Pos} (hg : Gl X "len") (hm : X.mg "len" = none) (hg2 : Gl X "set") (hm2 : X.mg "set" = none) (ha : PE X a ta) (calm : X.calm = true := by rfl)
    (na : starEach [a] X.env = (false, eval a X.env) :: starEach [] X.env := by rfl) : PE X (.Call (.Name "len" p) [.Call (.Name "set" p2) [a] [] q] [] pos) (tLenSetU X.K ta) := by
  constructor
  intro pins s σ H Q I h
  refine Call_ (ld_blt I hg hm boot_len (PyProof.Rows.callWith_builtin1 (PyProof.Rows.args_cons ?_ rfl) rfl rfl))
  refine Call_ (ld_blt I hg2 hm2 PyProof.Rows.boot_set (PyProof.Rows.callWith_type1 (PyProof.Rows.args_cons (thn (ha.run pins s σ H _ I h) fun v s1 ⟨x, H1, I1, r1, q1⟩ => PyProof.Rows.args_nil ?_) na) na rfl))
  obtain ⟨l, ns, ex, hq, hl, done⟩ := q1
  subst ex
  obtain rfl : v = Value.ref l := r1
  obtain ⟨its, rv, pt, hz⟩ := I1.tuple hq
  have hi : PyProof.Rows.IntsAre its.toArray.toList ns := by simpa using ints_of_vals rv
  refine call_set_tupI ns (I1.ok.hd calm) (show s1.heap.IsTuple l its.toArray from pt) hi (by unfold scanBound; omega) fun h' tk c R1 hcn kp => PyProof.Rows.args_nil ?_
  obtain ⟨o, es, ep, t, ho, hex, hdt, g, nd, mem, hb, hf, hn, hr, hl2⟩ := R1
  have I2 : Inv X pins σ H1 { s1 with heap := h', toks := tk } := I1.kept kp
  have le : (es.toList.map keyOf).length = es.size := by rw [List.length_map, Array.length_toList]
  refine call_len_set ho hex hdt hf (by omega) ⟨.int es.size, H1, I2.tok _, ⟨_, rfl⟩, ?_⟩
  rw [← le]
  exact done _ nd fun k => by rw [← mem k, decide_eq_true_eq]
end
/-! ### set(a list of whole numbers) -/
section
open PySem.Spec PyProof.Rows PySem.Calls
variable {P : Program} {w : World} {A : Around} {E : Value → Shared → Prop} {s : Shared}
set_option maxHeartbeats 4000000 in
theorem call_set_listR {l : Addr} {items : Array Value} (ns : List Int) {Q : Value → Shared → Prop} (hh : A.handled = none) (hl : s.heap.IsList l items) (hit : IntsAre items.toList ns) (hb : ns.length + 1 < scanBound)
    (h : ∀ (h' : Heap) (tk c : Nat), SetR w h' s.heap.objs.size (fun j => decide (j ∈ ns)) c → c ≤ ns.length → (∀ b o, s.heap.get? b = some o → h'.get? b = some o) → Q (.ref s.heap.objs.size) { s with heap := h', toks := tk }) :
    wpAny (model P w) A (call (.type "set") [.ref l]) Q E s := by
  have hisz : items.size = ns.length := by
    have q := IntsAre.length hit
    rw [Array.length_toList] at q
    exact q
  obtain ⟨c, tl, hmro⟩ := F.called_set.mro
  have hmade := F.called_set.made
  have hsub := F.called_set.sub
  refine wpAny_call (codeAny_of_tree ?_)
  show wpAny _ _ (callAny (.type "set") _) _ _ _
  refine wpAny_pure ⟨Code.quiet_builtin _ (by decide +kernel), codeAny_builtin F.entry_type_call ?_⟩
  rw [Around.under_plain (weight_type_call_type "set" [.ref l] []) rfl]
  have h1 := F.called_set.notType
  have h2 := F.called_set.canCreate
  have hct := F.typeCall_set_1 (.ref l)
  repeat (any_goals (first | assumption | wp_step))
  refine codeAny_mono (code_set_led1 (.ref l) (E := E) (Q₁ := fun obj s₁ => obj = .ref s.heap.objs.size ∧ s₁ = { s with heap := s.heap.push { cls := .type "set", dict := none, data := .set #[] 0 (.fresh 0 0 (!w.params.followText "set-order")) } }) ⟨rfl, rfl⟩) fun r s₁ hr => ?_
  cases r with
  | error e => exact hr
  | ok fl =>
    cases fl with
    | ret obj =>
      obtain ⟨rfl, rfl⟩ := hr
      have hS : (s.heap.push { cls := .type "set", dict := none, data := .set #[] 0 (.fresh 0 0 (!w.params.followText "set-order")) }).get? s.heap.objs.size = some { cls := .type "set", dict := none, data := .set #[] 0 (.fresh 0 0 (!w.params.followText "set-order")) } := Heap.get?_push_size _ rfl
      have hT : Shared.TypeIs { s with heap := s.heap.push { cls := .type "set", dict := none, data := .set #[] 0 (.fresh 0 0 (!w.params.followText "set-order")) } } (.ref s.heap.objs.size) "set" := ⟨_, hS, rfl⟩
      have hli := F.called_set.init.lookup
      have hbi := F.called_set.init.bind (.ref s.heap.objs.size)
      repeat (any_goals (first | assumption | wp_step))
      refine codeAny_mono (codeAny_call_builtin (R := wants (fun r s₂ => r = .none ∧ ∃ h' tk c, s₂ = { s with heap := h', toks := tk } ∧ SetR w h' s.heap.objs.size (fun j => decide (j ∈ ns)) c ∧ c ≤ ns.length ∧
          (∀ b o, s.heap.get? b = some o → h'.get? b = some o)) E) F.called_set.init.plain F.entry_set_init (check_set_init_1 hT ?_)) fun r₂ s₂ hr₂ => ?_
      · obtain ⟨ol, hol, hcl, nl, hdl⟩ := hl
        obtain ⟨ocls, odict, odata, oslots⟩ := ol
        simp only at hcl hdl
        subst hcl; subst hdl
        have hol' : (s.heap.push { cls := .type "set", dict := none, data := .set #[] 0 (.fresh 0 0 (!w.params.followText "set-order")) }).get? l = some { cls := .type "list", dict := odict, data := .seq items nl, slots := oslots } := Heap.get?_push_of_some _ hol
        have hsls := F.sub_list_set
        have hslf := F.sub_list_frozenset
        have hne : (Value.type "list" == Value.type "dict") = false := by decide
        have hl1 : (s.heap.push { cls := .type "set", dict := none, data := .set #[] 0 (.fresh 0 0 (!w.params.followText "set-order")) }).IsList l items := ⟨_, hol', rfl, nl, rfl⟩
        unfold Builtin.«set.__init__» noKeywords Builtin.Frozenset.updateFrom
        generalize hPI : pyIter = PI
        wp_walk
        subst hPI
        refine wpAny_pyIter_list hl1 ?_
        refine wpAny_bind (wpAny_runValue ?_)
        have hlS : l < s.heap.objs.size := Heap.lt_size hol
        have hh3 : A.in1.in1.in1.handled = none := by simp [hh]
        have hz1 : (s.heap.push { cls := .type "set", dict := none, data := .set #[] 0 (.fresh 0 0 (!w.params.followText "set-order")) }).objs.size = s.heap.objs.size + 1 := Heap.size_push ..
        have hneI : l ≠ (s.heap.push { cls := .type "set", dict := none, data := .set #[] 0 (.fresh 0 0 (!w.params.followText "set-order")) }).objs.size := by
          rw [Heap.size_push]; exact Nat.ne_of_lt (Nat.lt_succ_of_lt hlS)
        have hSf : s.heap.objs.size ∉ [(s.heap.push { cls := .type "set", dict := none, data := .set #[] 0 (.fresh 0 0 (!w.params.followText "set-order")) }).objs.size, l] := by
          rw [Heap.size_push]; simp only [List.mem_cons, List.mem_singleton, List.not_mem_nil, or_false, not_or]
          exact ⟨Nat.ne_of_lt (Nat.lt_succ_self _), Nat.ne_of_gt hlS⟩
        have hval : ∀ (i : Nat) (v : Value), items[i]? = some v → ∃ k t, ns[i]? = some k ∧ v = .int k t := fun i v hv => by
          have hi : i < ns.length := by rw [← hisz]; exact (Array.getElem?_eq_some_iff.mp hv).1
          obtain ⟨t, e⟩ := PyProof.Rows.IntsAre.int_at hit i v (by rw [Array.getElem?_toList]; exact hv)
          refine ⟨ns[i], t, List.getElem?_eq_getElem hi, ?_⟩
          rw [e, List.getD_eq_getElem?_getD, List.getElem?_eq_getElem hi] <;> rfl
        refine set_update_ints ((Walks.list hh3 _ l hneI items).toS) s.heap.objs.size
          hSf ns hisz hb hval (items.size - 0) 0 _ (by omega) (Nat.zero_le _)
          ⟨⟨_, Heap.get?_push_size _ rfl, rfl, rfl⟩, (hl1.push _)⟩ ?hS0 ?hR
        case hS0 =>
          have hget : ((s.heap.push { cls := .type "set", dict := none, data := .set #[] 0 (.fresh 0 0 (!w.params.followText "set-order")) }).push { cls := .type "list_iterator", data := .fields #[.ref l, .int 0 0] }).get? s.heap.objs.size
              = some { cls := .type "set", dict := none, data := .set #[] 0 (.fresh 0 0 (!w.params.followText "set-order")) } := Heap.get?_push_of_some _ hS
          exact ⟨0, Nat.le_refl 0, setR_new_at hget⟩
        case hR =>
          intro s' c' hm hc' hS'
          obtain ⟨h', g2, d', tk', os'⟩ := s'
          have eg : g2 = s.gens := hm.gens
          have ed : d' = s.drawn := hm.drawn
          have eo : os' = s.os := hm.os
          subst eg; subst ed; subst eo
          show wpAny _ _ _ _ _ _
          refine wpAny_pure ?_
          show wpAny _ _ (ret Value.none) _ _ _
          rw [hisz] at hc'
          refine wpAny_pure ⟨rfl, h', tk', c', rfl, hS', hc', fun b o e => ?_⟩
          have hb0 : b < s.heap.objs.size := Heap.lt_size e
          have hb1 : b ≠ s.heap.objs.size := Nat.ne_of_lt hb0
          have hb2 : b ≠ (s.heap.push { cls := .type "set", dict := none, data := .set #[] 0 (.fresh 0 0 (!w.params.followText "set-order")) }).objs.size := by
            rw [Heap.size_push]; exact Nat.ne_of_lt (Nat.lt_succ_of_lt hb0)
          exact hm.heap b o (by simp only [List.mem_cons, List.mem_singleton, List.not_mem_nil, or_false, not_or]; exact ⟨hb1, hb2⟩) (Heap.get?_push_of_some _ (Heap.get?_push_of_some _ e))
      · cases r₂ with
        | error e => exact hr₂
        | ok fl₂ =>
          cases fl₂ with
          | ret r =>
            obtain ⟨rfl, h', tk, c', rfl, hS', hc', hk'⟩ := hr₂
            repeat (any_goals (first | assumption | wp_step))
            exact h _ _ _ hS' hc' hk'
          | _ => exact hr₂.elim
    | _ => exact hr.elim
variable {X : Cx}
def rSetL (w : World) (K : PySem.W.Frag) : List V → Hp → VK → Prop := fun xs H Q => ∃ (a : Addr) (ns : List Int), xs = [.ref a] ∧ SqL K H a (ns.map V.int) ∧ ns.length ≤ 4000 ∧ ∀ (p : Addr) (c : Nat), c ≤ ns.length → (∃ ks : List Int, ks.Nodup ∧ ks.length = c ∧ ∀ k, k ∈ ks ↔ k ∈ ns) → H p = none → Q (.ref p) (upd H p (SetO w p (fun j => decide (j ∈ ns)) c))
theorem cr_setL (hc : X.calm = true) : CallR X (.type "set") (rSetL X.w X.K) := by
  intro pins s σ H xs us Q I r h
  obtain ⟨a, ns, rfl, hq, hl, q⟩ := h
  rw [Vals.ref1 r]
  obtain ⟨its, rv, pl, hz⟩ := I.list hq
  refine call_set_listR ns (I.ok.hd hc) pl.isList (by simpa using ints_of_vals rv) (by unfold scanBound; omega) fun h' tk c R hc' k => ?_
  have nw : H s.heap.objs.size = none := I.hok.fresh (Nat.le_refl _)
  have kk : ∃ ks : List Int, ks.Nodup ∧ ks.length = c ∧ ∀ k, k ∈ ks ↔ k ∈ ns := by
    obtain ⟨o, es, ep, t, ho, hex, hd, g, nd, mem, hb, hf, hn, hr, hl2⟩ := R
    exact ⟨es.toList.map keyOf, nd, by rw [List.length_map, Array.length_toList]; exact hn, fun k => by rw [← mem k, decide_eq_true_eq]⟩
  exact ⟨.ref _, _, I.laid (t' := tk) k (Nat.le_refl _) (setO_new R), rfl, q _ c hc' kk nw⟩
end
/-! ### enumerate(a tuple) -/
section
open PySem.Spec PyProof.Rows PySem.Calls
set_option maxHeartbeats 4000000 in
theorem meets_enum1 {v : Value} {o : Obj} {HH : Heap → Prop} (B : Begins v o HH) :
    Meets (Builtin.«enumerate.__new__» ⟨[.type "enumerate", v], []⟩) (fun _ R s => HH s.heap ∧
      R (.ok (.ret (.ref (s.heap.push o).objs.size))) { s with heap := (s.heap.push o).push { cls := .type "enumerate", data := .fields #[.none, .bool false, .ref s.heap.objs.size, rawInt 0, .none, .none] } }) :=
  .of_wp fun prog w A R s both => by
    obtain ⟨hp, g, d, tk, os⟩ := s
    obtain ⟨h1, h⟩ := both
    have hsub := sub_enumerate
    have it1 : ∀ {A' : Around} {E : Value → Shared → Prop} {Q : Value → Shared → Prop}, Q (.ref hp.objs.size) ⟨hp.push o, g, d, tk, os⟩ → wpAny (model prog w) A' (pyIter v) Q E ⟨hp, g, d, tk, os⟩ := fun q => B.iter prog w _ _ ⟨hp, g, d, tk, os⟩ _ h1 q
    wp_walk using it1
    refine wpAny_stack_any fun st => wpAny_pure ?_
    split
    · rename_i c _ _ _ _ _
      cases (c == Value.type "enumerate") <;> (wp_walk using it1; exact ⟨_, rfl, h⟩)
    · wp_walk using it1
      exact ⟨_, rfl, h⟩
section
variable {prog : Program} {w : World} {A : Around} {E : Value → Shared → Prop} {s : Shared}
theorem call_enum1 {v : Value} {o : Obj} {HH : Heap → Prop} {Q : Value → Shared → Prop} (B : Begins v o HH) (h1 : HH s.heap)
    (fin : ∀ h', IsEnum h' (s.heap.objs.size + 1) s.heap.objs.size 0 .none → h'.get? s.heap.objs.size = some o → h'.objs.size = s.heap.objs.size + 2 → (∀ b u, s.heap.get? b = some u → h'.get? b = some u) → Q (.ref (s.heap.objs.size + 1)) { s with heap := h' }) :
    wpAny (model prog w) A (call (.type "enumerate") [v]) Q E s := by
  refine callType_new F.called_enumerate (by decide) (F.typeCall_enumerate_1 _) (F.newCall_enumerate_1 _) (fun obj => F.args_object_init_2 obj _) F.entry_enumerate_new (meets_enum1 B) ⟨h1, ?_⟩
  have hz : (s.heap.push o).objs.size = s.heap.objs.size + 1 := Heap.size_push ..
  show _ ∧ _
  rw [hz]
  have he : ((s.heap.push o).push { cls := .type "enumerate", data := .fields #[.none, .bool false, .ref s.heap.objs.size, rawInt 0, .none, .none] }).get? (s.heap.objs.size + 1) = some { cls := .type "enumerate", data := .fields #[.none, .bool false, .ref s.heap.objs.size, rawInt 0, .none, .none] } := by
    rw [← hz]
    exact Heap.get?_push_size (s.heap.push o) rfl
  exact ⟨⟨_, he, rfl⟩, fin _ he (Heap.get?_push_of_some _ (Heap.get?_push_size _ B.free)) (by rw [Heap.size_push, hz]) fun b u x => Heap.get?_push_of_some _ (Heap.get?_push_of_some _ x)⟩
end
/-- a tuple's iterator behind its end -/
theorem draws_end {prog : Program} {w : World} {A : Around} (calm : A.handled = none) (it t : Addr) (items : Array Value) (i : Nat) (hi : items[i]? = none) :
    Draws prog w A it [it, t] i (fun _ _ => True) (fun j h => j = i ∧ h.IsTupleIter it t j ∧ h.IsTuple t items) where
  live := fun _ _ st => let ⟨o, ho, _⟩ := st.2.1; ⟨o, ho⟩
  frame := fun _ _ _ st hk => ⟨st.1, st.2.1.at fun o e => hk it (by simp) o e, st.2.2.at fun o e => hk t (by simp) o e⟩
  item := fun j s Q E hj st _ => absurd st.1 (Nat.ne_of_lt hj)
  done := fun s Q E st hE => wpAny_nextOf_tuple_end calm st.2.1 st.2.2 hi hE
/-- the tuple at a, each item in a new pair -/
def IteT (K : PySem.W.Frag) (a : Addr) : It :=
  ⟨fun i H => ∃ (xs : List V) (x : V), SqT K H a xs ∧ xs[i]? = some x, fun i H v H' => ∃ T x, v = .ref T ∧ H T = none ∧ H' = upd H T (.tup [.int (i : Nat), x]) ∧ ∀ xs, SqT K H a xs → xs[i]? = some x, fun i H => ∃ xs : List V, SqT K H a xs ∧ xs.length ≤ i⟩
theorem turn_enumT {P : Program} {w : World} {K : PySem.W.Frag} {elts : List Expr} {kk : Nat} {tpos : Pos} (a e it : Addr) :
    Turn P w K (.Tuple elts kk tpos) (IteT K a) [e, it] e (fun i h => (∃ old, IsEnum h e it ((i : Nat) : Int) old) ∧ h.IsTupleIter it a i ∧ e ≠ it ∧ e ≠ a ∧ it ≠ a) where
  mem := by simp
  obj := fun i h st b hb => by
    obtain ⟨⟨old, he⟩, ⟨o, ho, hc, hd⟩, _⟩ := st
    rcases List.mem_cons.mp hb with z | z
    · subst z
      exact ⟨_, he, fun v q => nomatch q⟩
    · have z2 := List.mem_singleton.mp z
      subst z2
      exact ⟨o, ho, fun v q => by rw [hd] at q; cases q⟩
  keep := fun i h h' st k => let ⟨⟨old, he⟩, hi, hne⟩ := st; ⟨⟨old, k e (by simp) _ he⟩, hi.at fun o q => k it (by simp) o q, hne⟩
  item := by
    intro X hP hw hK calm i pins s σ H E I hf st hg
    subst hP hw hK
    obtain ⟨⟨old, he⟩, hit, n1, n2, n3⟩ := st
    obtain ⟨xs, x, hq, hx⟩ := hg
    obtain ⟨its, rv, p, hz⟩ := I.tuple hq
    obtain ⟨u, hu, ru⟩ := rv.get hx
    have hel : e < s.heap.objs.size := Heap.lt_size he
    have hil : it < s.heap.objs.size := by obtain ⟨_, q, _⟩ := hit; exact Heap.lt_size q
    have ilt : i < its.toArray.size := by rw [List.size_toArray]; exact (List.getElem?_eq_some_iff.mp hu).1
    have D := Draws.tuple (prog := X.prog) (w := X.w) (A := X.A.in1) (by simpa using I.ok.hd calm) it a (Ne.symm n3) its.toArray
    refine wpAny_pyNext_enum_itemD D he ⟨hit, p⟩ ilt n1 (by simp [n1, n2]) fun y h' tk hy ho hst hT hsz hk => ?_
    have ey : y = u := by
      have q : its[i]? = some y := by simpa using hy
      rw [hu] at q
      exact (Option.some.inj q).symm
    subst ey
    refine ⟨_, rfl, wpAny_letOwnedTupleGo_enum (s := { s with heap := h', toks := tk + 1 }) ho fun h2 he2 sb => ?_⟩
    have nT : h2.get? s.heap.objs.size = some { cls := .type "tuple", data := .seq #[.int i tk, y] } := (sb.2 _ (Nat.ne_of_gt hel)).trans hT
    have mk : ObjOk X.prog X.w (upd H s.heap.objs.size (.tup [.int (i : Nat), x])) h2 s.heap.objs.size (.tup [.int (i : Nat), x]) :=
      ⟨by show 2 ≤ sizeLine; decide, [.int i tk, y], .cons ⟨_, rfl⟩ (.cons ru .nil), ⟨_, nT, rfl, _, rfl⟩⟩
    have I1 : Inv X pins σ (upd H s.heap.objs.size (.tup [.int (i : Nat), x])) { s with heap := h2, toks := tk + 1 } :=
      I.turnedNew (ch := [e, it]) (fun b ob hb q => (sb.2 b (fun z => hb (by simp [z]))).trans (hk b ob (fun z => hb (by simp [z])) (fun z => hb (by simp [z])) q)) hf (Nat.le_refl _) mk
    refine ⟨.ref s.heap.objs.size, _, I1, rfl, ⟨_, x, rfl, I.hok.fresh (Nat.le_refl _), rfl, fun ys hy2 => by rw [I.tuple_inj hy2 hq]; exact hx⟩, ⟨⟨y, ?_⟩, hst.1.at fun o q => (sb.2 it (Ne.symm n1)).trans q, n1, n2, n3⟩, fun b hb => ?_⟩
    · rw [show ((i + 1 : Nat) : Int) = (i : Int) + 1 by omega]
      exact he2
    · have lt : b < s.heap.objs.size := by
        rcases List.mem_cons.mp hb with z | z
        · rw [z]; exact hel
        · rw [List.mem_singleton.mp z]; exact hil
      rw [upd_ne (Nat.ne_of_lt lt)]
      exact (hf b hb).1
  done := by
    intro X hP hw hK calm i pins s σ H E I hf st hg
    subst hP hw hK
    obtain ⟨⟨old, he⟩, hit, n1, n2, n3⟩ := st
    obtain ⟨xs, hq, hx⟩ := hg
    obtain ⟨its, rv, p, hz⟩ := I.tuple hq
    obtain ⟨f0, f1, f2, f3, f4, f5⟩ := hf it (by simp)
    have hl := rv.length
    have over : its.toArray[i]? = none := by simp; omega
    exact wpAny_pyNext_enum_endD (draws_end (by simpa using I.ok.hd calm) it a its.toArray i over) he ⟨rfl, hit, p⟩ fun h' eb => ⟨rfl, I.turned (t' := s.toks) (fun b o hb q => eb b o hb q) f0 f1 f3 f4 f5⟩
  self := fun A i s Q E st h => let ⟨⟨_, he⟩, _⟩ := st; wpAny_pyIter_enum he h
def iEnumT (K : PySem.W.Frag) (ta : TA) : TI := fun σ H R => ta σ H fun vs H1 => ∃ a xs, vs = [.ref a] ∧ SqT K H1 a xs ∧ R (IteT K a) H1
theorem pi_enumT {X : Cx} {e : Expr} {ta : TA} {p pos tpos : Pos} {elts : List Expr} {kk : Nat} (hg : Gl X "enumerate") (hm : X.mg "enumerate" = none) (ha : PA X [e] ta) (hs : starEach [e] X.env = [(false, eval e X.env)] := by rfl) :
    PI X (.Tuple elts kk tpos) (.Call (.Name "enumerate" p) [e] [] pos) (iEnumT X.K ta) := by
  constructor
  intro pins s σ H R I h
  refine Call_ (ld_blt I hg hm boot_enumerate (PyProof.Rows.callWith_type1 (thn (ha.run pos pins s σ H _ I h) fun us s1 ⟨vs, H1, I1, r1, q1⟩ => ?_) hs rfl))
  obtain ⟨a, xs, ex, hq, q⟩ := q1
  subst ex
  cases r1 with
  | cons r rr =>
    cases rr
    cases r
    obtain ⟨its, rv, tp, hz⟩ := I1.tuple hq
    have al : a < s1.heap.objs.size := by obtain ⟨_, q, _⟩ := tp; exact Heap.lt_size q
    refine call_enum1 (begins_tuple a its.toArray) (show s1.heap.IsTuple a its.toArray from tp) fun h' he hit hsz hk => wpAny_pyIter_enum he ?_
    have I2 : Inv X pins σ H1 { s1 with heap := h' } := I1.kept (t' := s1.toks) hk
    refine ⟨s1.heap.objs.size + 1, [s1.heap.objs.size + 1, s1.heap.objs.size], _, _, H1, rfl, I2, turn_enumT a (s1.heap.objs.size + 1) s1.heap.objs.size, ⟨⟨.none, he⟩, ⟨_, hit, rfl, rfl⟩, Nat.succ_ne_self _, Nat.ne_of_gt (Nat.lt_succ_of_lt al), Nat.ne_of_gt al⟩, fun b hb => ?_, q⟩
    have le : s1.heap.objs.size ≤ b := by
      rcases List.mem_cons.mp hb with z | z
      · rw [z]; exact Nat.le_add_right _ _
      · rw [List.mem_singleton.mp z]; exact Nat.le_refl _
    exact I1.fpOk le (I1.hok.fresh le)
theorem for_enumT {K : PySem.W.Frag} {a : Addr} {xs : List V} {g : TG} {tb : TS} {D : Ends} {σ : L2.St} {H : Hp} (Pv : Nat → L2.St → Hp → Prop) (h0 : Pv 0 σ H) (hq : ∀ i σ H, Pv i σ H → SqT K H a xs)
    (hs : ∀ (i : Nat) (x : V) (t : Addr) (σ : L2.St) (H : Hp), xs[i]? = some x → Pv i σ H → H t = none → g (.ref t) σ (upd H t (.tup [.int (i : Nat), x])) fun σ2 H2 => tb { D with nx := Pv (i + 1), ct := Pv (i + 1), bk := D.nx } σ2 H2)
    (hd : ∀ σ H, Pv xs.length σ H → D.nx σ H) : ∃ W : Nat → Nat → L2.St → Hp → Prop, (∃ m, W 0 m σ H) ∧ ∀ i m σ H, W i m σ H →
      ((IteT K a).stop i H ∧ D.nx σ H) ∨ ((IteT K a).go i H ∧ ∃ N : L2.St → Hp → Prop, (∀ σ' H', N σ' H' → ∃ m', m' < m ∧ W (i + 1) m' σ' H') ∧ ∀ v H', (IteT K a).yld i H v H' → g v σ H' fun σ2 H2 => tb { D with nx := N, ct := N, bk := D.nx } σ2 H2) := by
  refine ⟨fun i m σ H => m = xs.length - i ∧ i ≤ xs.length ∧ Pv i σ H, ⟨_, rfl, Nat.zero_le _, h0⟩, ?_⟩
  rintro i m σ H ⟨rfl, hi, p⟩
  have q := hq i σ H p
  by_cases lt : i < xs.length
  · refine .inr ⟨⟨xs, _, q, List.getElem?_eq_getElem lt⟩, Pv (i + 1), fun σ' H' p2 => ⟨_, by omega, rfl, lt, p2⟩, fun v H' y => ?_⟩
    obtain ⟨t, x, rfl, nt, rfl, f⟩ := y
    exact hs i x t σ H (f xs q) p nt
  · have e : i = xs.length := by omega
    subst e
    exact .inl ⟨⟨xs, q, Nat.le_refl _⟩, hd σ H p⟩
end
/-! ### x |= e -/
theorem ip_or {X : Cx} : PIp X .BitOr (ipI fun i j => Builtin.bitOr i j) := by
  intro pins s σ H x y v u Q I r1 r2 h
  exact iop_or pins s σ H x y v u Q I r1 r2 h
/-! ### comprehensions -/
theorem filterMap_range_succ {α : Type} (f : Nat → Option α) (n : Nat) : (List.range (n + 1)).filterMap f = (List.range n).filterMap f ++ (f n).toList := by
  rw [List.range_succ, List.filterMap_append]
  cases e : f n with
  | none => simp [e]
  | some v => simp [e]
theorem filterMap_range_len {α : Type} (f : Nat → Option α) (n : Nat) : ((List.range n).filterMap f).length ≤ n := by
  have h := List.length_filterMap_le f (List.range n)
  rw [List.length_range] at h
  exact h
theorem lt_line {n : Nat} (h : n ≤ 100000) : n < sizeLine := Nat.lt_of_le_of_lt h (by decide)
theorem lc_rangeF {lo : Int} {n : Nat} {g : TG} {tt : TT} {te : TE} {vs : List Nat} {σ : St} {H1 : Hp} {D : Addr} {Qd : Hp → Prop} (f : Nat → Option V) (nD : H1 D = none) (hn : n ≤ 100000)
    (hs : ∀ (i : Nat) (H : Hp) (N : V → Hp → Prop) (M : Hp → Prop), i < n → Same H1 H → (∀ v H4, f i = some v → Same H H4 → N v H4) → (∀ H4, f i = none → Same H H4 → M H4) → g (.int (lo + (i : Int))) (wipe σ vs) H fun σ2 H2 => wipe σ2 vs = wipe σ vs ∧ tt σ2 H2 fun b H3 => if b = true then te σ2 H3 N else M H3)
    (hd : ∀ H, Same H1 H → H D = some (.lst ((List.range n).filterMap f)) → Qd H) : ∃ W : Nat → Nat → Hp → Prop, (∃ m, W 0 m (upd H1 D (.lst []))) ∧ ∀ i m H, W i m H →
      ((Itr lo n).stop i H ∧ Qd H) ∨ ((Itr lo n).go i H ∧ ∃ Nx : Hp → Prop, (∀ H', Nx H' → ∃ m', m' < m ∧ W (i + 1) m' H') ∧ ∀ x H', (Itr lo n).yld i H x H' → g x (wipe σ vs) H' fun σ2 H2 => wipe σ2 vs = wipe σ vs ∧ tt σ2 H2 fun b H3 =>
        if b = true then te σ2 H3 fun y H4 => ∃ acc, H4 D = some (.lst acc) ∧ acc.length < sizeLine ∧ Nx (upd H4 D (.lst (acc ++ [y]))) else Nx H3) := by
  refine lc_range (lo := lo) (n := n) (fun i H => Same H1 H ∧ H D = some (.lst ((List.range i).filterMap f))) ⟨Same.new (Same.refl H1) nD, upd_same⟩ (fun i H hi p => ?_) (fun H p => hd H p.1 p.2)
  have il : i < n := hi
  have hz := filterMap_range_len f i
  refine hs i H _ _ hi p.1 (fun v H4 e s => ⟨_, s _ _ p.2, lt_line (by omega), ?_, ?_⟩) (fun H4 e s => ⟨?_, ?_⟩)
  · exact Same.mut (Same.trans p.1 s) nD
  · rw [filterMap_range_succ, e]
    exact upd_same
  · exact Same.trans p.1 s
  · rw [filterMap_range_succ, e, s _ _ p.2]
    simp
theorem lc_rangeM {lo : Int} {n : Nat} {g : TG} {tt : TT} {te : TE} {vs : List Nat} {σ : St} {H1 : Hp} {D : Addr} {Qd : Hp → Prop} {τ : Tp} (R : Nat → V → Hp → Prop) (st : ∀ i v H H', R i v H → TK H H' → R i v H') (t : Tape τ H1) (nD : H1 D = none) (hn : n ≤ 100000)
    (hs : ∀ (i : Nat) (H : Hp) (N : V → Hp → Prop) (M : Hp → Prop), i < n → Mv τ H1 H → (∀ v H4, Mv τ H H4 → R i v H4 → N v H4) → g (.int (lo + (i : Int))) (wipe σ vs) H fun σ2 H2 => wipe σ2 vs = wipe σ vs ∧ tt σ2 H2 fun b H3 => if b = true then te σ2 H3 N else M H3)
    (hd : ∀ H acc, Mv τ H1 H → H D = some (.lst acc) → acc.length = n → (∀ (j : Nat) v, acc[j]? = some v → R j v H) → Qd H) : ∃ W : Nat → Nat → Hp → Prop, (∃ m, W 0 m (upd H1 D (.lst []))) ∧ ∀ i m H, W i m H →
      ((Itr lo n).stop i H ∧ Qd H) ∨ ((Itr lo n).go i H ∧ ∃ Nx : Hp → Prop, (∀ H', Nx H' → ∃ m', m' < m ∧ W (i + 1) m' H') ∧ ∀ x H', (Itr lo n).yld i H x H' → g x (wipe σ vs) H' fun σ2 H2 => wipe σ2 vs = wipe σ vs ∧ tt σ2 H2 fun b H3 =>
        if b = true then te σ2 H3 fun y H4 => ∃ acc, H4 D = some (.lst acc) ∧ acc.length < sizeLine ∧ Nx (upd H4 D (.lst (acc ++ [y]))) else Nx H3) := by
  refine lc_range (lo := lo) (n := n) (fun i H => Mv τ H1 H ∧ ∃ acc, H D = some (.lst acc) ∧ acc.length = i ∧ ∀ (j : Nat) v, acc[j]? = some v → R j v H) ⟨(t.mv).new nD, [], upd_same, rfl, fun j v e => by simp at e⟩ (fun i H hi p => ?_) (fun H p => ?_)
  · obtain ⟨m, acc, hD, hlen, hR⟩ := p
    have il : i < n := hi
    refine hs i H _ _ hi m (fun v H4 m4 r => ⟨acc, m4.keep _ _ (t.mv.neF nD) hD, lt_line (by omega), (m.trans m4).mut nD, acc ++ [v], upd_same, by rw [List.length_append, hlen]; rfl, fun j u e => ?_⟩)
    have k1 : TK H4 (upd H4 D (.lst (acc ++ [v]))) := TK.mut (m4.keep _ _ (t.mv.neF nD) hD)
    by_cases hj : j < acc.length
    · rw [List.getElem?_append_left hj] at e
      exact st _ _ _ _ (st _ _ _ _ (hR j u e) m4.tk) k1
    · rw [List.getElem?_append_right (by omega)] at e
      have hj2 : j = i := by
        have q := (List.getElem?_eq_some_iff.mp e).1
        rw [List.length_singleton] at q
        omega
      rw [hj2, hlen, Nat.sub_self] at e
      have e2 : v = u := Option.some.inj e
      rw [← e2, hj2]
      exact st _ _ _ _ r k1
  · obtain ⟨m, acc, hD, hlen, hR⟩ := p
    exact hd H acc m hD hlen hR
theorem lc_listF {K : PySem.W.Frag} {a : Addr} {xs : List V} {g : TG} {tt : TT} {te : TE} {vs : List Nat} {σ : St} {H1 : Hp} {D : Addr} {Qd : Hp → Prop} (f : Nat → Option V) (hx : H1 a = some (.lst xs)) (nD : H1 D = none) (hn : xs.length ≤ 100000)
    (hs : ∀ (i : Nat) (x : V) (H : Hp) (N : V → Hp → Prop) (M : Hp → Prop), xs[i]? = some x → Same H1 H → (∀ v H4, f i = some v → Same H H4 → N v H4) → (∀ H4, f i = none → Same H H4 → M H4) → g x (wipe σ vs) H fun σ2 H2 => wipe σ2 vs = wipe σ vs ∧ tt σ2 H2 fun b H3 => if b = true then te σ2 H3 N else M H3)
    (hd : ∀ H, Same H1 H → H D = some (.lst ((List.range xs.length).filterMap f)) → Qd H) : ∃ W : Nat → Nat → Hp → Prop, (∃ m, W 0 m (upd H1 D (.lst []))) ∧ ∀ i m H, W i m H →
      ((Itl K a).stop i H ∧ Qd H) ∨ ((Itl K a).go i H ∧ ∃ Nx : Hp → Prop, (∀ H', Nx H' → ∃ m', m' < m ∧ W (i + 1) m' H') ∧ ∀ x H', (Itl K a).yld i H x H' → g x (wipe σ vs) H' fun σ2 H2 => wipe σ2 vs = wipe σ vs ∧ tt σ2 H2 fun b H3 =>
        if b = true then te σ2 H3 fun y H4 => ∃ acc, H4 D = some (.lst acc) ∧ acc.length < sizeLine ∧ Nx (upd H4 D (.lst (acc ++ [y]))) else Nx H3) := by
  refine lc_list (K := K) (a := a) (xs := xs) (fun i H => Same H1 H ∧ H D = some (.lst ((List.range i).filterMap f))) ⟨Same.new (Same.refl H1) nD, upd_same⟩ (fun i H _ p => SqL.of (p.1 _ _ hx)) (fun i x H hi p => ?_) (fun H p => hd H p.1 p.2)
  have il : i < xs.length := (List.getElem?_eq_some_iff.mp hi).1
  have hz := filterMap_range_len f i
  refine hs i x H _ _ hi p.1 (fun v H4 e s => ⟨_, s _ _ p.2, lt_line (by omega), ?_, ?_⟩) (fun H4 e s => ⟨?_, ?_⟩)
  · exact Same.mut (Same.trans p.1 s) nD
  · rw [filterMap_range_succ, e]
    exact upd_same
  · exact Same.trans p.1 s
  · rw [filterMap_range_succ, e, s _ _ p.2]
    simp
theorem lc_listM {K : PySem.W.Frag} {a : Addr} {xs : List V} {g : TG} {tt : TT} {te : TE} {vs : List Nat} {σ : St} {H1 : Hp} {D : Addr} {Qd : Hp → Prop} {τ : Tp} (R : Nat → V → Hp → Prop) (st : ∀ i v H H', R i v H → TK H H' → R i v H') (hx : H1 a = some (.lst xs)) (ne_a : a ≠ τ.t) (t : Tape τ H1) (nD : H1 D = none) (hn : xs.length ≤ 100000)
    (hs : ∀ (i : Nat) (x : V) (H : Hp) (N : V → Hp → Prop) (M : Hp → Prop), xs[i]? = some x → Mv τ H1 H → (∀ v H4, Mv τ H H4 → R i v H4 → N v H4) → g x (wipe σ vs) H fun σ2 H2 => wipe σ2 vs = wipe σ vs ∧ tt σ2 H2 fun b H3 => if b = true then te σ2 H3 N else M H3)
    (hd : ∀ H acc, Mv τ H1 H → H D = some (.lst acc) → acc.length = xs.length → (∀ (j : Nat) v, acc[j]? = some v → R j v H) → Qd H) : ∃ W : Nat → Nat → Hp → Prop, (∃ m, W 0 m (upd H1 D (.lst []))) ∧ ∀ i m H, W i m H →
      ((Itl K a).stop i H ∧ Qd H) ∨ ((Itl K a).go i H ∧ ∃ Nx : Hp → Prop, (∀ H', Nx H' → ∃ m', m' < m ∧ W (i + 1) m' H') ∧ ∀ x H', (Itl K a).yld i H x H' → g x (wipe σ vs) H' fun σ2 H2 => wipe σ2 vs = wipe σ vs ∧ tt σ2 H2 fun b H3 =>
        if b = true then te σ2 H3 fun y H4 => ∃ acc, H4 D = some (.lst acc) ∧ acc.length < sizeLine ∧ Nx (upd H4 D (.lst (acc ++ [y]))) else Nx H3) := by
  refine lc_list (K := K) (a := a) (xs := xs) (fun i H => Mv τ H1 H ∧ ∃ acc, H D = some (.lst acc) ∧ acc.length = i ∧ ∀ (j : Nat) v, acc[j]? = some v → R j v H) ⟨(t.mv).new nD, [], upd_same, rfl, fun j v e => by simp at e⟩ (fun i H _ p => SqL.of (p.1.keep _ _ ne_a hx)) (fun i x H hi p => ?_) (fun H p => ?_)
  · obtain ⟨m, acc, hD, hlen, hR⟩ := p
    have il : i < xs.length := (List.getElem?_eq_some_iff.mp hi).1
    refine hs i x H _ _ hi m (fun v H4 m4 r => ⟨acc, m4.keep _ _ (t.mv.neF nD) hD, lt_line (by omega), (m.trans m4).mut nD, acc ++ [v], upd_same, by rw [List.length_append, hlen]; rfl, fun j u e => ?_⟩)
    have k1 : TK H4 (upd H4 D (.lst (acc ++ [v]))) := TK.mut (m4.keep _ _ (t.mv.neF nD) hD)
    by_cases hj : j < acc.length
    · rw [List.getElem?_append_left hj] at e
      exact st _ _ _ _ (st _ _ _ _ (hR j u e) m4.tk) k1
    · rw [List.getElem?_append_right (by omega)] at e
      have hj2 : j = i := by
        have q := (List.getElem?_eq_some_iff.mp e).1
        rw [List.length_singleton] at q
        omega
      rw [hj2, hlen, Nat.sub_self] at e
      have e2 : v = u := Option.some.inj e
      rw [← e2, hj2]
      exact st _ _ _ _ r k1
  · obtain ⟨m, acc, hD, hlen, hR⟩ := p
    exact hd H acc m hD hlen hR
theorem lc_tupF {K : PySem.W.Frag} {a : Addr} {xs : List V} {g : TG} {tt : TT} {te : TE} {vs : List Nat} {σ : St} {H1 : Hp} {D : Addr} {Qd : Hp → Prop} (f : Nat → Option V) (hx : H1 a = some (.tup xs)) (nD : H1 D = none) (hn : xs.length ≤ 100000)
    (hs : ∀ (i : Nat) (x : V) (H : Hp) (N : V → Hp → Prop) (M : Hp → Prop), xs[i]? = some x → Same H1 H → (∀ v H4, f i = some v → Same H H4 → N v H4) → (∀ H4, f i = none → Same H H4 → M H4) → g x (wipe σ vs) H fun σ2 H2 => wipe σ2 vs = wipe σ vs ∧ tt σ2 H2 fun b H3 => if b = true then te σ2 H3 N else M H3)
    (hd : ∀ H, Same H1 H → H D = some (.lst ((List.range xs.length).filterMap f)) → Qd H) : ∃ W : Nat → Nat → Hp → Prop, (∃ m, W 0 m (upd H1 D (.lst []))) ∧ ∀ i m H, W i m H →
      ((Itt K a).stop i H ∧ Qd H) ∨ ((Itt K a).go i H ∧ ∃ Nx : Hp → Prop, (∀ H', Nx H' → ∃ m', m' < m ∧ W (i + 1) m' H') ∧ ∀ x H', (Itt K a).yld i H x H' → g x (wipe σ vs) H' fun σ2 H2 => wipe σ2 vs = wipe σ vs ∧ tt σ2 H2 fun b H3 =>
        if b = true then te σ2 H3 fun y H4 => ∃ acc, H4 D = some (.lst acc) ∧ acc.length < sizeLine ∧ Nx (upd H4 D (.lst (acc ++ [y]))) else Nx H3) := by
  refine lc_tup (K := K) (a := a) (xs := xs) (fun i H => Same H1 H ∧ H D = some (.lst ((List.range i).filterMap f))) ⟨Same.new (Same.refl H1) nD, upd_same⟩ (fun i H _ p => SqT.of (p.1 _ _ hx)) (fun i x H hi p => ?_) (fun H p => hd H p.1 p.2)
  have il : i < xs.length := (List.getElem?_eq_some_iff.mp hi).1
  have hz := filterMap_range_len f i
  refine hs i x H _ _ hi p.1 (fun v H4 e s => ⟨_, s _ _ p.2, lt_line (by omega), ?_, ?_⟩) (fun H4 e s => ⟨?_, ?_⟩)
  · exact Same.mut (Same.trans p.1 s) nD
  · rw [filterMap_range_succ, e]
    exact upd_same
  · exact Same.trans p.1 s
  · rw [filterMap_range_succ, e, s _ _ p.2]
    simp
theorem lc_tupM {K : PySem.W.Frag} {a : Addr} {xs : List V} {g : TG} {tt : TT} {te : TE} {vs : List Nat} {σ : St} {H1 : Hp} {D : Addr} {Qd : Hp → Prop} {τ : Tp} (R : Nat → V → Hp → Prop) (st : ∀ i v H H', R i v H → TK H H' → R i v H') (hx : H1 a = some (.tup xs)) (ne_a : a ≠ τ.t) (t : Tape τ H1) (nD : H1 D = none) (hn : xs.length ≤ 100000)
    (hs : ∀ (i : Nat) (x : V) (H : Hp) (N : V → Hp → Prop) (M : Hp → Prop), xs[i]? = some x → Mv τ H1 H → (∀ v H4, Mv τ H H4 → R i v H4 → N v H4) → g x (wipe σ vs) H fun σ2 H2 => wipe σ2 vs = wipe σ vs ∧ tt σ2 H2 fun b H3 => if b = true then te σ2 H3 N else M H3)
    (hd : ∀ H acc, Mv τ H1 H → H D = some (.lst acc) → acc.length = xs.length → (∀ (j : Nat) v, acc[j]? = some v → R j v H) → Qd H) : ∃ W : Nat → Nat → Hp → Prop, (∃ m, W 0 m (upd H1 D (.lst []))) ∧ ∀ i m H, W i m H →
      ((Itt K a).stop i H ∧ Qd H) ∨ ((Itt K a).go i H ∧ ∃ Nx : Hp → Prop, (∀ H', Nx H' → ∃ m', m' < m ∧ W (i + 1) m' H') ∧ ∀ x H', (Itt K a).yld i H x H' → g x (wipe σ vs) H' fun σ2 H2 => wipe σ2 vs = wipe σ vs ∧ tt σ2 H2 fun b H3 =>
        if b = true then te σ2 H3 fun y H4 => ∃ acc, H4 D = some (.lst acc) ∧ acc.length < sizeLine ∧ Nx (upd H4 D (.lst (acc ++ [y]))) else Nx H3) := by
  refine lc_tup (K := K) (a := a) (xs := xs) (fun i H => Mv τ H1 H ∧ ∃ acc, H D = some (.lst acc) ∧ acc.length = i ∧ ∀ (j : Nat) v, acc[j]? = some v → R j v H) ⟨(t.mv).new nD, [], upd_same, rfl, fun j v e => by simp at e⟩ (fun i H _ p => SqT.of (p.1.keep _ _ ne_a hx)) (fun i x H hi p => ?_) (fun H p => ?_)
  · obtain ⟨m, acc, hD, hlen, hR⟩ := p
    have il : i < xs.length := (List.getElem?_eq_some_iff.mp hi).1
    refine hs i x H _ _ hi m (fun v H4 m4 r => ⟨acc, m4.keep _ _ (t.mv.neF nD) hD, lt_line (by omega), (m.trans m4).mut nD, acc ++ [v], upd_same, by rw [List.length_append, hlen]; rfl, fun j u e => ?_⟩)
    have k1 : TK H4 (upd H4 D (.lst (acc ++ [v]))) := TK.mut (m4.keep _ _ (t.mv.neF nD) hD)
    by_cases hj : j < acc.length
    · rw [List.getElem?_append_left hj] at e
      exact st _ _ _ _ (st _ _ _ _ (hR j u e) m4.tk) k1
    · rw [List.getElem?_append_right (by omega)] at e
      have hj2 : j = i := by
        have q := (List.getElem?_eq_some_iff.mp e).1
        rw [List.length_singleton] at q
        omega
      rw [hj2, hlen, Nat.sub_self] at e
      have e2 : v = u := Option.some.inj e
      rw [← e2, hj2]
      exact st _ _ _ _ r k1
  · obtain ⟨m, acc, hD, hlen, hR⟩ := p
    exact hd H acc m hD hlen hR
/-! ### comprehensions over zip -/
theorem lc_zipLF {K : PySem.W.Frag} {a b : Addr} {xs ys : List V} {g : TG} {tt : TT} {te : TE} {vs : List Nat} {σ : St} {H1 : Hp} {D : Addr} {Qd : Hp → Prop} (f : Nat → Option V) (hx : H1 a = some (.lst xs)) (hy : H1 b = some (.lst ys)) (hl : xs.length = ys.length) (nD : H1 D = none) (hn : xs.length ≤ 100000)
    (hs : ∀ (i : Nat) (x y : V) (Z : Addr) (H : Hp) (N : V → Hp → Prop) (M : Hp → Prop), xs[i]? = some x → ys[i]? = some y → Same H1 H → H Z = some (.tup [x, y]) → (∀ v H4, f i = some v → Same H H4 → N v H4) → (∀ H4, f i = none → Same H H4 → M H4) → g (.ref Z) (wipe σ vs) H fun σ2 H2 => wipe σ2 vs = wipe σ vs ∧ tt σ2 H2 fun b H3 => if b = true then te σ2 H3 N else M H3)
    (hd : ∀ H, Same H1 H → H D = some (.lst ((List.range xs.length).filterMap f)) → Qd H) : ∃ W : Nat → Nat → Hp → Prop, (∃ m, W 0 m (upd H1 D (.lst []))) ∧ ∀ i m H, W i m H →
      ((Itz K a b).stop i H ∧ Qd H) ∨ ((Itz K a b).go i H ∧ ∃ Nx : Hp → Prop, (∀ H', Nx H' → ∃ m', m' < m ∧ W (i + 1) m' H') ∧ ∀ x H', (Itz K a b).yld i H x H' → g x (wipe σ vs) H' fun σ2 H2 => wipe σ2 vs = wipe σ vs ∧ tt σ2 H2 fun b H3 =>
        if b = true then te σ2 H3 fun y H4 => ∃ acc, H4 D = some (.lst acc) ∧ acc.length < sizeLine ∧ Nx (upd H4 D (.lst (acc ++ [y]))) else Nx H3) := by
  refine ⟨fun i m H => m = xs.length - i ∧ i ≤ xs.length ∧ Same H1 H ∧ H D = some (.lst ((List.range i).filterMap f)), ⟨xs.length, rfl, Nat.zero_le _, Same.new (Same.refl H1) nD, upd_same⟩, ?_⟩
  rintro i m H ⟨rfl, hi, s, hD⟩
  have qx : SqL K H a xs := SqL.of (s _ _ hx)
  have qy : SqL K H b ys := SqL.of (s _ _ hy)
  have hz := filterMap_range_len f i
  by_cases hlt : i < xs.length
  · have ex : xs[i]? = some xs[i] := List.getElem?_eq_getElem hlt
    have hlt2 : i < ys.length := by omega
    have ey : ys[i]? = some ys[i] := List.getElem?_eq_getElem hlt2
    refine .inr ⟨⟨xs, ys, _, _, qx, qy, ex, ey⟩, fun H => i < xs.length ∧ Same H1 H ∧ H D = some (.lst ((List.range (i + 1)).filterMap f)), fun H' p' => ⟨xs.length - (i + 1), by omega, rfl, hlt, p'.2⟩, fun v H' y => ?_⟩
    obtain ⟨Z, x', y', rfl, hZ, rfl, f1, f2⟩ := y
    have s1 : Same H (upd H Z (.tup [x', y'])) := Same.new (Same.refl H) hZ
    refine hs i x' y' Z _ _ _ (f1 xs qx) (f2 ys qy) (s.trans s1) upd_same (fun v H4 e s4 => ⟨_, s4 _ _ (s1 _ _ hD), lt_line (by omega), hlt, ?_, ?_⟩) (fun H4 e s4 => ⟨hlt, ?_, ?_⟩)
    · exact Same.mut ((s.trans s1).trans s4) nD
    · rw [filterMap_range_succ, e]
      exact upd_same
    · exact (s.trans s1).trans s4
    · rw [filterMap_range_succ, e, s4 _ _ (s1 _ _ hD)]
      simp
  · have e : i = xs.length := by omega
    subst e
    exact .inl ⟨⟨xs, ys, qx, qy, Or.inl (Nat.le_refl _)⟩, hd H s hD⟩
theorem lc_zipTF {K : PySem.W.Frag} {a b : Addr} {xs ys : List V} {g : TG} {tt : TT} {te : TE} {vs : List Nat} {σ : St} {H1 : Hp} {D : Addr} {Qd : Hp → Prop} (f : Nat → Option V) (hx : H1 a = some (.tup xs)) (hy : H1 b = some (.tup ys)) (hl : xs.length = ys.length) (nD : H1 D = none) (hn : xs.length ≤ 100000)
    (hs : ∀ (i : Nat) (x y : V) (Z : Addr) (H : Hp) (N : V → Hp → Prop) (M : Hp → Prop), xs[i]? = some x → ys[i]? = some y → Same H1 H → H Z = some (.tup [x, y]) → (∀ v H4, f i = some v → Same H H4 → N v H4) → (∀ H4, f i = none → Same H H4 → M H4) → g (.ref Z) (wipe σ vs) H fun σ2 H2 => wipe σ2 vs = wipe σ vs ∧ tt σ2 H2 fun b H3 => if b = true then te σ2 H3 N else M H3)
    (hd : ∀ H, Same H1 H → H D = some (.lst ((List.range xs.length).filterMap f)) → Qd H) : ∃ W : Nat → Nat → Hp → Prop, (∃ m, W 0 m (upd H1 D (.lst []))) ∧ ∀ i m H, W i m H →
      ((RZ.ItzT K a b).stop i H ∧ Qd H) ∨ ((RZ.ItzT K a b).go i H ∧ ∃ Nx : Hp → Prop, (∀ H', Nx H' → ∃ m', m' < m ∧ W (i + 1) m' H') ∧ ∀ x H', (RZ.ItzT K a b).yld i H x H' → g x (wipe σ vs) H' fun σ2 H2 => wipe σ2 vs = wipe σ vs ∧ tt σ2 H2 fun b H3 =>
        if b = true then te σ2 H3 fun y H4 => ∃ acc, H4 D = some (.lst acc) ∧ acc.length < sizeLine ∧ Nx (upd H4 D (.lst (acc ++ [y]))) else Nx H3) := by
  refine ⟨fun i m H => m = xs.length - i ∧ i ≤ xs.length ∧ Same H1 H ∧ H D = some (.lst ((List.range i).filterMap f)), ⟨xs.length, rfl, Nat.zero_le _, Same.new (Same.refl H1) nD, upd_same⟩, ?_⟩
  rintro i m H ⟨rfl, hi, s, hD⟩
  have qx : SqT K H a xs := SqT.of (s _ _ hx)
  have qy : SqT K H b ys := SqT.of (s _ _ hy)
  have hz := filterMap_range_len f i
  by_cases hlt : i < xs.length
  · have ex : xs[i]? = some xs[i] := List.getElem?_eq_getElem hlt
    have hlt2 : i < ys.length := by omega
    have ey : ys[i]? = some ys[i] := List.getElem?_eq_getElem hlt2
    refine .inr ⟨⟨xs, ys, _, _, qx, qy, ex, ey⟩, fun H => i < xs.length ∧ Same H1 H ∧ H D = some (.lst ((List.range (i + 1)).filterMap f)), fun H' p' => ⟨xs.length - (i + 1), by omega, rfl, hlt, p'.2⟩, fun v H' y => ?_⟩
    obtain ⟨Z, x', y', rfl, hZ, rfl, f1, f2⟩ := y
    have s1 : Same H (upd H Z (.tup [x', y'])) := Same.new (Same.refl H) hZ
    refine hs i x' y' Z _ _ _ (f1 xs qx) (f2 ys qy) (s.trans s1) upd_same (fun v H4 e s4 => ⟨_, s4 _ _ (s1 _ _ hD), lt_line (by omega), hlt, ?_, ?_⟩) (fun H4 e s4 => ⟨hlt, ?_, ?_⟩)
    · exact Same.mut ((s.trans s1).trans s4) nD
    · rw [filterMap_range_succ, e]
      exact upd_same
    · exact (s.trans s1).trans s4
    · rw [filterMap_range_succ, e, s4 _ _ (s1 _ _ hD)]
      simp
  · have e : i = xs.length := by omega
    subst e
    exact .inl ⟨⟨xs, ys, qx, qy, Or.inl (Nat.le_refl _)⟩, hd H s hD⟩
/-! comprehensions whose items are new things -/
theorem lc_rangeR {lo : Int} {n : Nat} {g : TG} {tt : TT} {te : TE} {vs : List Nat} {σ : St} {H1 : Hp} {D : Addr} {Qd : Hp → Prop} (R : Nat → V → Hp → Prop) (st : ∀ i v H H', R i v H → TK H H' → R i v H') (nD : H1 D = none) (hn : n ≤ 100000)
    (hs : ∀ (i : Nat) (H : Hp) (N : V → Hp → Prop) (M : Hp → Prop), i < n → Same H1 H → (∀ v H4, Same H H4 → R i v H4 → N v H4) → g (.int (lo + (i : Int))) (wipe σ vs) H fun σ2 H2 => wipe σ2 vs = wipe σ vs ∧ tt σ2 H2 fun b H3 => if b = true then te σ2 H3 N else M H3)
    (hd : ∀ H acc, Same H1 H → H D = some (.lst acc) → acc.length = n → (∀ (j : Nat) v, acc[j]? = some v → R j v H) → Qd H) : ∃ W : Nat → Nat → Hp → Prop, (∃ m, W 0 m (upd H1 D (.lst []))) ∧ ∀ i m H, W i m H →
      ((Itr lo n).stop i H ∧ Qd H) ∨ ((Itr lo n).go i H ∧ ∃ Nx : Hp → Prop, (∀ H', Nx H' → ∃ m', m' < m ∧ W (i + 1) m' H') ∧ ∀ x H', (Itr lo n).yld i H x H' → g x (wipe σ vs) H' fun σ2 H2 => wipe σ2 vs = wipe σ vs ∧ tt σ2 H2 fun b H3 =>
        if b = true then te σ2 H3 fun y H4 => ∃ acc, H4 D = some (.lst acc) ∧ acc.length < sizeLine ∧ Nx (upd H4 D (.lst (acc ++ [y]))) else Nx H3) := by
  refine lc_range (lo := lo) (n := n) (fun i H => Same H1 H ∧ ∃ acc, H D = some (.lst acc) ∧ acc.length = i ∧ ∀ (j : Nat) v, acc[j]? = some v → R j v H) ⟨Same.new (Same.refl H1) nD, [], upd_same, rfl, fun j v e => by simp at e⟩ (fun i H hi p => ?_) (fun H p => ?_)
  · obtain ⟨m, acc, hD, hlen, hR⟩ := p
    have il : i < n := hi
    refine hs i H _ _ hi m (fun v H4 m4 r => ⟨acc, m4 _ _ hD, lt_line (by omega), Same.mut (Same.trans m m4) nD, acc ++ [v], upd_same, by rw [List.length_append, hlen]; rfl, fun j u e => ?_⟩)
    have k1 : TK H4 (upd H4 D (.lst (acc ++ [v]))) := TK.mut (m4 _ _ hD)
    by_cases hj : j < acc.length
    · rw [List.getElem?_append_left hj] at e
      exact st _ _ _ _ (st _ _ _ _ (hR j u e) (Same.tk m4)) k1
    · rw [List.getElem?_append_right (by omega)] at e
      have hj2 : j = i := by
        have q := (List.getElem?_eq_some_iff.mp e).1
        rw [List.length_singleton] at q
        omega
      rw [hj2, hlen, Nat.sub_self] at e
      have e2 : v = u := Option.some.inj e
      rw [← e2, hj2]
      exact st _ _ _ _ r k1
  · obtain ⟨m, acc, hD, hlen, hR⟩ := p
    exact hd H acc m hD hlen hR
theorem lc_listR {K : PySem.W.Frag} {a : Addr} {xs : List V} {g : TG} {tt : TT} {te : TE} {vs : List Nat} {σ : St} {H1 : Hp} {D : Addr} {Qd : Hp → Prop} (R : Nat → V → Hp → Prop) (st : ∀ i v H H', R i v H → TK H H' → R i v H') (hx : H1 a = some (.lst xs)) (nD : H1 D = none) (hn : xs.length ≤ 100000)
    (hs : ∀ (i : Nat) (x : V) (H : Hp) (N : V → Hp → Prop) (M : Hp → Prop), xs[i]? = some x → Same H1 H → (∀ v H4, Same H H4 → R i v H4 → N v H4) → g x (wipe σ vs) H fun σ2 H2 => wipe σ2 vs = wipe σ vs ∧ tt σ2 H2 fun b H3 => if b = true then te σ2 H3 N else M H3)
    (hd : ∀ H acc, Same H1 H → H D = some (.lst acc) → acc.length = xs.length → (∀ (j : Nat) v, acc[j]? = some v → R j v H) → Qd H) : ∃ W : Nat → Nat → Hp → Prop, (∃ m, W 0 m (upd H1 D (.lst []))) ∧ ∀ i m H, W i m H →
      ((Itl K a).stop i H ∧ Qd H) ∨ ((Itl K a).go i H ∧ ∃ Nx : Hp → Prop, (∀ H', Nx H' → ∃ m', m' < m ∧ W (i + 1) m' H') ∧ ∀ x H', (Itl K a).yld i H x H' → g x (wipe σ vs) H' fun σ2 H2 => wipe σ2 vs = wipe σ vs ∧ tt σ2 H2 fun b H3 =>
        if b = true then te σ2 H3 fun y H4 => ∃ acc, H4 D = some (.lst acc) ∧ acc.length < sizeLine ∧ Nx (upd H4 D (.lst (acc ++ [y]))) else Nx H3) := by
  refine lc_list (K := K) (a := a) (xs := xs) (fun i H => Same H1 H ∧ ∃ acc, H D = some (.lst acc) ∧ acc.length = i ∧ ∀ (j : Nat) v, acc[j]? = some v → R j v H) ⟨Same.new (Same.refl H1) nD, [], upd_same, rfl, fun j v e => by simp at e⟩ (fun i H _ p => SqL.of (p.1 _ _ hx)) (fun i x H hi p => ?_) (fun H p => ?_)
  · obtain ⟨m, acc, hD, hlen, hR⟩ := p
    have il : i < xs.length := (List.getElem?_eq_some_iff.mp hi).1
    refine hs i x H _ _ hi m (fun v H4 m4 r => ⟨acc, m4 _ _ hD, lt_line (by omega), Same.mut (Same.trans m m4) nD, acc ++ [v], upd_same, by rw [List.length_append, hlen]; rfl, fun j u e => ?_⟩)
    have k1 : TK H4 (upd H4 D (.lst (acc ++ [v]))) := TK.mut (m4 _ _ hD)
    by_cases hj : j < acc.length
    · rw [List.getElem?_append_left hj] at e
      exact st _ _ _ _ (st _ _ _ _ (hR j u e) (Same.tk m4)) k1
    · rw [List.getElem?_append_right (by omega)] at e
      have hj2 : j = i := by
        have q := (List.getElem?_eq_some_iff.mp e).1
        rw [List.length_singleton] at q
        omega
      rw [hj2, hlen, Nat.sub_self] at e
      have e2 : v = u := Option.some.inj e
      rw [← e2, hj2]
      exact st _ _ _ _ r k1
  · obtain ⟨m, acc, hD, hlen, hR⟩ := p
    exact hd H acc m hD hlen hR
theorem lc_tupR {K : PySem.W.Frag} {a : Addr} {xs : List V} {g : TG} {tt : TT} {te : TE} {vs : List Nat} {σ : St} {H1 : Hp} {D : Addr} {Qd : Hp → Prop} (R : Nat → V → Hp → Prop) (st : ∀ i v H H', R i v H → TK H H' → R i v H') (hx : H1 a = some (.tup xs)) (nD : H1 D = none) (hn : xs.length ≤ 100000)
    (hs : ∀ (i : Nat) (x : V) (H : Hp) (N : V → Hp → Prop) (M : Hp → Prop), xs[i]? = some x → Same H1 H → (∀ v H4, Same H H4 → R i v H4 → N v H4) → g x (wipe σ vs) H fun σ2 H2 => wipe σ2 vs = wipe σ vs ∧ tt σ2 H2 fun b H3 => if b = true then te σ2 H3 N else M H3)
    (hd : ∀ H acc, Same H1 H → H D = some (.lst acc) → acc.length = xs.length → (∀ (j : Nat) v, acc[j]? = some v → R j v H) → Qd H) : ∃ W : Nat → Nat → Hp → Prop, (∃ m, W 0 m (upd H1 D (.lst []))) ∧ ∀ i m H, W i m H →
      ((Itt K a).stop i H ∧ Qd H) ∨ ((Itt K a).go i H ∧ ∃ Nx : Hp → Prop, (∀ H', Nx H' → ∃ m', m' < m ∧ W (i + 1) m' H') ∧ ∀ x H', (Itt K a).yld i H x H' → g x (wipe σ vs) H' fun σ2 H2 => wipe σ2 vs = wipe σ vs ∧ tt σ2 H2 fun b H3 =>
        if b = true then te σ2 H3 fun y H4 => ∃ acc, H4 D = some (.lst acc) ∧ acc.length < sizeLine ∧ Nx (upd H4 D (.lst (acc ++ [y]))) else Nx H3) := by
  refine lc_tup (K := K) (a := a) (xs := xs) (fun i H => Same H1 H ∧ ∃ acc, H D = some (.lst acc) ∧ acc.length = i ∧ ∀ (j : Nat) v, acc[j]? = some v → R j v H) ⟨Same.new (Same.refl H1) nD, [], upd_same, rfl, fun j v e => by simp at e⟩ (fun i H _ p => SqT.of (p.1 _ _ hx)) (fun i x H hi p => ?_) (fun H p => ?_)
  · obtain ⟨m, acc, hD, hlen, hR⟩ := p
    have il : i < xs.length := (List.getElem?_eq_some_iff.mp hi).1
    refine hs i x H _ _ hi m (fun v H4 m4 r => ⟨acc, m4 _ _ hD, lt_line (by omega), Same.mut (Same.trans m m4) nD, acc ++ [v], upd_same, by rw [List.length_append, hlen]; rfl, fun j u e => ?_⟩)
    have k1 : TK H4 (upd H4 D (.lst (acc ++ [v]))) := TK.mut (m4 _ _ hD)
    by_cases hj : j < acc.length
    · rw [List.getElem?_append_left hj] at e
      exact st _ _ _ _ (st _ _ _ _ (hR j u e) (Same.tk m4)) k1
    · rw [List.getElem?_append_right (by omega)] at e
      have hj2 : j = i := by
        have q := (List.getElem?_eq_some_iff.mp e).1
        rw [List.length_singleton] at q
        omega
      rw [hj2, hlen, Nat.sub_self] at e
      have e2 : v = u := Option.some.inj e
      rw [← e2, hj2]
      exact st _ _ _ _ r k1
  · obtain ⟨m, acc, hD, hlen, hR⟩ := p
    exact hd H acc m hD hlen hR
/-! comprehensions within comprehensions -/
theorem blk_in {X : Cx} {s : Shared} {H : Hp} {sc0 sc1 scope : Scope} {cl : List (Str × Addr)} {C : Addr} {env : Env} {fp : List Addr} {N : List Str} {own : List (Str × Nat)} (hN : X.N = N) (hs : env.scope = sc1) (h : blkC N (relS sc0 sc1) scope own = true) :
    BlkOk (X.blk s H sc0 (compEnvC sc0 cl C env) fp).N (X.blk s H sc0 (compEnvC sc0 cl C env) fp).env.scope scope own := by
  subst hN hs
  exact blkOk_by h
theorem pi_tupK {X : Cx} {K : PySem.W.Frag} {tg l : Expr} {tl : TE} (hK : X.K = K) (h : PE X l tl) : PI X tg l (iTup K tl) := by
  subst hK
  exact pi_tup h
theorem pi_listK {X : Cx} {K : PySem.W.Frag} {tg l : Expr} {tl : TE} (hK : X.K = K) (h : PE X l tl) : PI X tg l (iList K tl) := by
  subst hK
  exact pi_list h
theorem pe_fldK {X : Cx} {K : PySem.W.Frag} {e : Expr} {f : Str} {pos : Pos} {ta : TE} (hK : X.K = K) (h : PE X e ta) (hb : attributeBase e f X.env (eval e X.env) = eval e X.env) : PE X (.Attribute e f pos) (tFld K ta f) := by
  subst hK
  exact pe_fld h hb
theorem pg_tupK {X : Cx} {K : PySem.W.Frag} {es : List Expr} {k : Nat} {pos : Pos} {t : TGs} (n : Nat) (hc : X.calm = true) (hK : X.K = K) (h : PGs X es t)
    (hn : (assignEach es X.env).length = n := by rfl) (hst : (assignEach es X.env).findIdx? (·.1) = none := by rfl) : PG X (.Tuple es k pos) (gTup K n t) := by
  subst hK
  exact pg_tup hc h hn hst
/-! ### words -/
theorem tYes_go {σ : L2.St} {H : Hp} {Q : Bool → Hp → Prop} (h : Q true H) : tYes σ H Q := h
local macro_rules | `(tactic| tm_at "fld") => `(tactic| fail "fld")
local macro_rules | `(tactic| tm_at "hp") => `(tactic| first
  | assumption
  | (with_reducible exact upd_same)
  | exact Same.at (by assumption) (by tm_at "hp")
  | exact Mv.atT (by assumption) (by tm_at "hp")
  | exact Mv.at' (by assumption) (by tm_at "hp") (by tm_at "ne")
  | ((rw [upd_ne ?n]) <;> first | (tm_at "hp") | (tm_at "ne") | fail "upd")
  | fail "hp")
local macro_rules | `(tactic| tm_at "ne") => `(tactic| first
  | assumption
  | exact Ne.symm (by assumption)
  | exact Nw.ne (by assumption) (by tm_at "hp")
  | exact Ne.symm (Nw.ne (by assumption) (by tm_at "hp"))
  | fail "ne")
local macro_rules | `(tactic| tm_at "sq") => `(tactic| first
  | assumption
  | exact SqL.of (by tm_at "hp")
  | exact Same.seq (by assumption) (by tm_at "sq")
  | fail "sq")
local macro_rules | `(tactic| tm_at "sqt") => `(tactic| first
  | assumption
  | exact SqT.of (by tm_at "hp")
  | fail "sqt")
local macro_rules | `(tactic| tm_at "len") => `(tactic| first
  | omega
  | ((simp only [List.length_map, List.length_append, List.length_singleton, List.length_cons, List.length_nil, List.length_replicate, List.length_range]); omega)
  | fail "len")
local macro_rules | `(tactic| tm_at "sd") => `(tactic| first
  | decide
  | omega
  | exact ⟨by decide, by decide⟩
  | exact ⟨by omega, by omega⟩
  | exact Or.inr ⟨by decide, by decide⟩
  | exact Or.inl ⟨by omega, by omega⟩
  | exact Or.inl ⟨by decide, by decide⟩
  | exact Or.inr ⟨by omega, by omega⟩
  | exact Or.inl (fmod64 (by decide) (by decide))
  | exact ⟨by decide, by decide, by decide⟩
  | fail "sd")
local macro_rules | `(tactic| tm_at "w") => `(tactic| repeat (first
  | (with_reducible refine iteDY (by omega) ?_)
  | (with_reducible refine iteDN (by omega) ?_)
  | (refine ⟨_, rfl, ?_⟩)
  | (refine ⟨_, _, rfl, rfl, ?_⟩)
  | (refine ⟨_, _, _, _, rfl, rfl, by tm_at "sq", by rfl, ?_⟩)
  | (refine ⟨_, _, _, _, rfl, rfl, by tm_at "hp", by rfl, ?_⟩)
  | (refine ⟨_, _, _, _, rfl, rfl, by tm_at "sqt", by rfl, ?_⟩)
  | (refine ⟨_, _, _, _, rfl, rfl, by tm_at "sqt", atI_nat (by assumption), ?_⟩)
  | (refine ⟨_, _, _, _, rfl, rfl, by tm_at "sq", atI_nat (by assumption), ?_⟩)
  | (refine ⟨_, _, rfl, by tm_at "sqt", rfl, _, _, rfl, _, _, rfl, rfl, ?_⟩)
  | (refine ⟨_, _, rfl, by tm_at "sqt", rfl, _, _, rfl, _, _, rfl, _, _, rfl, rfl, ?_⟩)
  | (refine ⟨_, _, _, _, _, rfl, ClsV.ty _, by assumption, by assumption, ?_⟩)
  | (refine And.intro (rfl : scal _ _ = true) ?_)
  | (with_reducible refine iteET (by rfl) ?_)
  | (with_reducible refine iteEF (by rfl) ?_)
  | (refine And.intro (IntK.int _) ?_)
  | (with_reducible refine tYes_go ?_)
  | (refine And.intro (by (with_reducible refine le_lineB ?_); rfl) ?_)
  | (refine ⟨_, _, rfl, Or.inl ⟨SqL.of (by tm_at "hp"), ?_⟩⟩)
  | (refine And.intro (Or.inl ⟨rfl, _, SqL.of (by tm_at "hp")⟩) ?_)
  | (refine ⟨_, _, _, rfl, rfl, by tm_at "hp", lt_line (by tm_at "len"), ?_⟩)
  | (refine And.intro rfl ?_)
  | (refine Or.inl ⟨_, rfl, ?_⟩)
  | (refine ⟨_, _, rfl, Or.inl (by tm_at "sq"), ?_⟩)
  | (refine ⟨_, _, rfl, Or.inr (by tm_at "sqt"), ?_⟩)
  | (refine And.intro (by tm_at "sd") ?_)
  | (tm_at "fld")
  | fail "w"))
/-! ### lists of whole numbers -/
/-- an item of a list is a whole number -/
def IsI (v : V) : Prop := ∃ i : Int, v = .int i
theorem ints_of {xs : List V} (h : ∀ v ∈ xs, IsI v) : ∃ ns : List Int, xs = ns.map V.int := by
  induction xs with
  | nil => exact ⟨[], rfl⟩
  | cons x r ih =>
    obtain ⟨ns, e⟩ := ih fun v hv => h v (List.mem_cons_of_mem _ hv)
    obtain ⟨i, ei⟩ := h x List.mem_cons_self
    exact ⟨i :: ns, by rw [ei, e]; rfl⟩
theorem ints_at {xs : List V} (h : ∀ (j : Nat) v, xs[j]? = some v → IsI v) : ∃ ns : List Int, xs = ns.map V.int := ints_of fun v hv => by
  obtain ⟨j, hj, e⟩ := List.mem_iff_getElem.mp hv
  exact h j v (by rw [List.getElem?_eq_getElem hj, e])
theorem mem_app {P : V → Prop} {xs : List V} {y : V} (h : ∀ v ∈ xs, P v) (hy : P y) : ∀ v ∈ xs ++ [y], P v := fun v hv => by
  rcases List.mem_append.mp hv with hv | hv
  · exact h v hv
  · rw [List.mem_singleton.mp hv]
    exact hy
theorem len_app {xs : List V} {y : V} {n : Nat} (h : xs.length = n) : (xs ++ [y]).length = n + 1 := by
  rw [List.length_append, h]
  rfl
/-- the item at a place of a list of whole numbers -/
theorem int_here {ns : List Int} {i : Nat} {x : V} (h : (ns.map V.int)[i]? = some x) : ∃ z, ns[i]? = some z ∧ x = .int z ∧ i < ns.length := by
  rw [List.getElem?_map] at h
  cases e : ns[i]? with
  | none => rw [e] at h; cases h
  | some z => rw [e] at h; exact ⟨z, rfl, (Option.some.inj h).symm, (List.getElem?_eq_some_iff.mp e).1⟩
theorem map_snoc (ks : List Int) (k : Int) : ks.map V.int ++ [V.int k] = (ks ++ [k]).map V.int := by rw [List.map_append]; rfl
theorem inV_int (k : Int) (ks : List Int) : inV (.int k) (ks.map V.int) = decide (k ∈ ks) := by
  unfold inV
  rw [List.any_map]
  by_cases h : k ∈ ks
  · rw [decide_eq_true h]
    exact List.any_eq_true.mpr ⟨k, h, beq_self_eq_true k⟩
  · rw [decide_eq_false h]
    refine List.any_eq_false.mpr fun y hy z => h ?_
    have e : y = k := eq_of_beq (show (y == k) = true from z)
    rw [← e]
    exact hy
theorem flat_ints (ks : List Int) : (ks.map V.int).all flatV = true := List.all_eq_true.mpr fun v hv => by
  obtain ⟨i, _, rfl⟩ := List.mem_map.mp hv
  rfl
theorem len_of_same {a b : List Int} (ha : a.Nodup) (hb : b.Nodup) (h : ∀ k, k ∈ a ↔ k ∈ b) : a.length = b.length := ((List.perm_ext_iff_of_nodup ha hb).mpr h).length_eq
theorem dp_ints {K : PySem.W.Frag} {H : Hp} : ∀ ns : List Int, DpAll K H (ns.map V.int) (ns.map PyData.int)
  | [] => .nil
  | n :: r => .cons (.int n) (dp_ints r)
theorem range_items {α : Type} (S : List α) (f : α → V) : (List.range S.length).filterMap (fun i => S[i]?.map f) = S.map f := by
  have key : ∀ n, n ≤ S.length → (List.range n).filterMap (fun i => S[i]?.map f) = (S.take n).map f := by
    intro n
    induction n with
    | zero => intro _; rfl
    | succ n ih =>
      intro h
      rw [filterMap_range_succ, ih (by omega), List.take_add_one, List.map_append]
      rw [List.getElem?_eq_getElem (show n < S.length by omega)]
      rfl
  rw [key _ (Nat.le_refl _), List.take_length]
theorem lay_ints : ∀ ns : List Int, PyData.canLayAll0 (ns.map PyData.int) = true
  | [] => rfl
  | n :: r => by
    show (PyData.canLay0 (.int n) && PyData.canLayAll0 (r.map PyData.int)) = true
    rw [lay_ints r]
    rfl
theorem deep_ints : ∀ ns : List Int, PyData.depthAll (ns.map PyData.int) ≤ 1
  | [] => by simp [PyData.depthAll]
  | n :: r => by
    have ih := deep_ints r
    simp only [List.map_cons, PyData.depthAll, PyData.depth]
    omega
theorem shaped_ints (ns : List Int) : SeqAt.shaped (.tuple (ns.map PyData.int)) = true := by
  have h := deep_ints ns
  have h2 : PyData.depth (.tuple (ns.map PyData.int)) ≤ 64 := by
    simp only [PyData.depth]
    omega
  exact Bool.and_eq_true_iff.mpr ⟨lay_ints ns, decide_eq_true h2⟩
theorem same_ints (ns : List Int) : PyData.eqv (.tuple (ns.map PyData.int)) (.tuple (ns.map PyData.int)) = true := SeqAt.eqv_refl _ (lay_ints ns)
theorem at_map {r : List Int} {i : Int} (h0 : 0 ≤ i) (h : i < (r.length : Int)) : atI (r.map V.int) i = some (.int (r.getD i.toNat 0)) := by
  have hj : i.toNat < r.length := by omega
  refine at_of (j := i.toNat) (by omega) ?_
  rw [List.getElem?_map, List.getElem?_eq_getElem hj, List.getD_eq_getElem?_getD, List.getElem?_eq_getElem hj]
  rfl
/-! ### bits of what each kind is -/
def upBits (acc : List Nat) (n : Nat) (p : List Nat) : Nat := p.foldl (fun f q => f ||| acc.getD q 0) (2 ^ n)
theorem fold_bits (acc : List Nat) (j : Nat) : ∀ (p : List Nat) (f : Nat), (p.foldl (fun f q => f ||| acc.getD q 0) f).testBit j = (f.testBit j || p.any fun q => (acc.getD q 0).testBit j)
  | [], f => by simp
  | q :: r, f => by
    have ih := fold_bits acc j r (f ||| acc.getD q 0)
    rw [List.foldl_cons, ih, Nat.testBit_or, List.any_cons, Bool.or_assoc]
theorem upBits_at (acc : List Nat) (n : Nat) (p : List Nat) (j : Nat) : (upBits acc n p).testBit j = (decide (n = j) || p.any fun q => (acc.getD q 0).testBit j) := by
  unfold upBits
  rw [fold_bits, Nat.testBit_two_pow]
/-! ### books -/
structure InsT (K : PySem.W.Frag) (C : Addr) : Prop where
  ha : PySem.W.findIn K (.ref C) "__class__" = some (some (.builtin "object.__class__"))
  hn : PySem.W.specialIn K (.builtin "object.__class__") "__get__" = some (some (.builtin "getset_descriptor.__get__"))
  htk : PySem.W.takesIn K (.builtin "object.__class__") = some true
  hm : PySem.W.mroIn K C (.type "object") = some true
theorem pb_ne : ¬ (("parents" : Str) = "bits") := by decide +kernel
theorem bp_ne : ¬ (("bits" : Str) = "parents") := by decide +kernel
def bkF (pa lb : Addr) : List (Str × V) := putF "bits" (.ref lb) (putF "parents" (.ref pa) [])
theorem bkF_eq (pa lb : Addr) : bkF pa lb = ([("parents", V.ref pa), ("bits", V.ref lb)] : List (Str × V)) := by
  show (if ("parents" : Str) = "bits" then [(("parents" : Str), V.ref lb)] else (("parents" : Str), V.ref pa) :: putF "bits" (V.ref lb) []) = ([("parents", V.ref pa), ("bits", V.ref lb)] : List (Str × V))
  rw [if_neg pb_ne]
  all_goals rfl
theorem bkF_parents (pa lb : Addr) : (bkF pa lb).lookup ("parents" : Str) = some (.ref pa) := by
  unfold bkF
  rw [lookup_putF, if_neg pb_ne, lookup_putF, if_pos rfl]
theorem bkF_bits (pa lb : Addr) : (bkF pa lb).lookup ("bits" : Str) = some (.ref lb) := by
  unfold bkF
  rw [lookup_putF, if_pos rfl]
theorem bkF_no (pa lb : Addr) {m : Str} (h1 : ¬ m = "bits") (h2 : ¬ m = "parents") : (bkF pa lb).lookup m = none := by
  unfold bkF
  rw [lookup_putF, if_neg h1, lookup_putF, if_neg h2]
  all_goals rfl
theorem bkF_putP (pa lb p : Addr) : putF "parents" (.ref p) (bkF pa lb) = bkF p lb := by
  rw [bkF_eq, bkF_eq]
  show (if ("parents" : Str) = "parents" then (("parents" : Str), V.ref p) :: [(("bits" : Str), V.ref lb)] else _) = ([("parents", V.ref p), ("bits", V.ref lb)] : List (Str × V))
  rw [if_pos rfl]
theorem bkF_putB (pa lb l : Addr) : putF "bits" (.ref l) (bkF pa lb) = bkF pa l := by
  rw [bkF_eq, bkF_eq]
  show (if ("parents" : Str) = "bits" then _ else (("parents" : Str), V.ref pa) :: (if ("bits" : Str) = "bits" then [(("bits" : Str), V.ref l)] else _)) = ([("parents", V.ref pa), ("bits", V.ref l)] : List (Str × V))
  rw [if_neg pb_ne, if_pos rfl]
/-- the fields of a book that is being made: none, or an elder filling's -/
def BkFs (fs : List (Str × V)) : Prop := fs = [] ∨ ∃ pa lb, fs = bkF pa lb
theorem BkFs.put {fs : List (Str × V)} (h : BkFs fs) (p l : Addr) : putF "bits" (.ref l) (putF "parents" (.ref p) fs) = bkF p l := by
  rcases h with rfl | ⟨a, b, rfl⟩
  · rfl
  · rw [bkF_putP, bkF_putB]
theorem BkFs.len {fs : List (Str × V)} (h : BkFs fs) : fs.length < 500 := by
  rcases h with rfl | ⟨a, b, rfl⟩
  · decide
  · rw [bkF_eq]
    show 2 < 500
    decide
theorem BkFs.len1 {fs : List (Str × V)} (h : BkFs fs) (p : Addr) : (putF "parents" (.ref p) fs).length < 1000 := by
  have q := length_putF "parents" (.ref p) fs
  have r := h.len
  omega
theorem BkFs.fill {fs : List (Str × V)} (h : BkFs fs) : fs.lookup ("fill" : Str) = none := by
  rcases h with rfl | ⟨a, b, rfl⟩
  · rfl
  · exact bkF_no _ _ (by decide +kernel) (by decide +kernel)
def natsV (p : List Nat) : List V := p.map fun q : Nat => V.int (q : Int)
/-- parents: a tuple of tuples of numbers -/
def ParL (H : Hp) (vs : List V) (P : List (List Nat)) : Prop := vs.length = P.length ∧ ∀ (j : Nat) p, P[j]? = some p → ∃ a, vs[j]? = some (.ref a) ∧ H a = some (.tup (natsV p))
def ParAt (H : Hp) (pa : Addr) (P : List (List Nat)) : Prop := ∃ vs, H pa = some (.tup vs) ∧ ParL H vs P
theorem ParL.tk {H H' : Hp} {vs : List V} {P : List (List Nat)} (h : ParL H vs P) (k : TK H H') : ParL H' vs P := ⟨h.1, fun j p e => by
  obtain ⟨a, e1, e2⟩ := h.2 j p e
  exact ⟨a, e1, k _ _ e2⟩⟩
theorem ParAt.tk {H H' : Hp} {pa : Addr} {P : List (List Nat)} (h : ParAt H pa P) (k : TK H H') : ParAt H' pa P := by
  obtain ⟨vs, e, l⟩ := h
  exact ⟨vs, k _ _ e, l.tk k⟩
/-- each parent stands ahead -/
def RtP (P : List (List Nat)) : Prop := ∀ (j : Nat) p, P[j]? = some p → ∀ q ∈ p, q < j
/-- the bits of all kinds -/
def bitsOf (P : List (List Nat)) : List Nat := P.foldl (fun acc p => acc ++ [upBits acc acc.length p]) []
def isA (P : List (List Nat)) (x p : Nat) : Bool := ((bitsOf P).getD x 0).testBit p
theorem bitsOf_snoc (P : List (List Nat)) (p : List Nat) : bitsOf (P ++ [p]) = bitsOf P ++ [upBits (bitsOf P) (bitsOf P).length p] := by
  unfold bitsOf
  rw [List.foldl_append]
  rfl
theorem bitsOf_len (P : List (List Nat)) : (bitsOf P).length = P.length := by
  have key : ∀ (r : List (List Nat)) (acc : List Nat), (r.foldl (fun acc p => acc ++ [upBits acc acc.length p]) acc).length = acc.length + r.length := by
    intro r
    induction r with
    | nil => intro acc; simp
    | cons x r ih =>
      intro acc
      rw [List.foldl_cons, ih, List.length_append]
      simp only [List.length_cons, List.length_nil]
      omega
  rw [show bitsOf P = P.foldl (fun acc p => acc ++ [upBits acc acc.length p]) [] from rfl, key]
  simp
/-- a book: its address, its dict, its parents' tuple, its bits' list -/
structure Bk where
  b : Addr
  dx : Addr
  pa : Addr
  lb : Addr
structure BookAt (C : Addr) (H : Hp) (k : Bk) (P : List (List Nat)) : Prop where
  ins : H k.b = some (.ins C k.dx (bkF k.pa k.lb))
  par : ParAt H k.pa P
  bits : H k.lb = some (.lst (natsV (bitsOf P)))
theorem BookAt.same {C : Addr} {H H' : Hp} {k : Bk} {P : List (List Nat)} (h : BookAt C H k P) (s : Same H H') : BookAt C H' k P := ⟨s _ _ h.ins, h.par.tk (Same.tk s), s _ _ h.bits⟩
/-- all but b is kept -/
def But (b : Addr) (H H' : Hp) : Prop := ∀ a o, a ≠ b → H a = some o → H' a = some o
/-- the parents of a kind with a number are right -/
structure OkL (q : List Nat) (m : Nat) : Prop where
  asc : q.Pairwise (· < ·)
  lt : ∀ x ∈ q, x < m
  few : q.length ≤ 6
structure OkP (P : List (List Nat)) : Prop where
  ok : ∀ (j : Nat) q, P[j]? = some q → OkL q j
  few : P.length ≤ 400
theorem OkP.rt {P : List (List Nat)} (h : OkP P) : RtP P := fun j p e q hq => (h.ok j p e).lt q hq
theorem OkP.nil : OkP [] := ⟨fun j q e => by simp at e, by decide⟩
theorem OkP.take {P : List (List Nat)} (h : OkP P) (m : Nat) : OkP (P.take m) := by
  refine ⟨fun j q e => ?_, ?_⟩
  · rw [List.getElem?_take] at e
    split at e
    · exact h.ok j q e
    · cases e
  · have := h.few
    rw [List.length_take]
    omega
theorem natsV_len (q : List Nat) : (natsV q).length = q.length := by unfold natsV; rw [List.length_map]
theorem natsV_int {K : PySem.W.Frag} {H : Hp} (q : List Nat) : ∀ x ∈ natsV q, IntK K H x := fun x hx => by
  unfold natsV at hx
  obtain ⟨n, _, rfl⟩ := List.mem_map.mp hx
  exact IntK.int _
theorem natsV_at {q : List Nat} {i : Nat} {n : Nat} (h : q[i]? = some n) : (natsV q)[i]? = some (.int (n : Int)) := by
  unfold natsV
  rw [List.getElem?_map, h]
  rfl
theorem natsV_here {q : List Nat} {i : Nat} {x : V} (h : (natsV q)[i]? = some x) : ∃ n : Nat, q[i]? = some n ∧ x = .int (n : Int) ∧ i < q.length := by
  unfold natsV at h
  rw [List.getElem?_map] at h
  cases e : q[i]? with
  | none => rw [e] at h; cases h
  | some z => rw [e] at h; exact ⟨z, rfl, (Option.some.inj h).symm, (List.getElem?_eq_some_iff.mp e).1⟩
theorem natsV_snoc (q : List Nat) (n : Nat) : natsV q ++ [V.int (n : Int)] = natsV (q ++ [n]) := by unfold natsV; rw [List.map_append]; rfl
theorem ParL.here {H : Hp} {vs : List V} {P : List (List Nat)} (h : ParL H vs P) {j : Nat} {x : V} (e : vs[j]? = some x) : ∃ a p, x = .ref a ∧ P[j]? = some p ∧ H a = some (.tup (natsV p)) := by
  have hj := (List.getElem?_eq_some_iff.mp e).1
  rw [h.1] at hj
  obtain ⟨a, e1, e2⟩ := h.2 j _ (List.getElem?_eq_getElem hj)
  rw [e] at e1
  exact ⟨a, _, Option.some.inj e1, List.getElem?_eq_getElem hj, e2⟩
theorem ParL.nil {H : Hp} : ParL H [] [] := ⟨rfl, fun j p e => by simp at e⟩
theorem ParL.snoc {H : Hp} {vs : List V} {P : List (List Nat)} (h : ParL H vs P) {a : Addr} {p : List Nat} (e : H a = some (.tup (natsV p))) : ParL H (vs ++ [.ref a]) (P ++ [p]) := by
  refine ⟨by rw [List.length_append, List.length_append, h.1]; rfl, fun j q hq => ?_⟩
  by_cases hj : j < P.length
  · rw [List.getElem?_append_left hj] at hq
    rw [List.getElem?_append_left (by rw [h.1]; exact hj)]
    exact h.2 j q hq
  · rw [List.getElem?_append_right (by omega)] at hq
    have l := (List.getElem?_eq_some_iff.mp hq).1
    rw [List.length_singleton] at l
    have ej : j - P.length = 0 := by omega
    rw [ej] at hq
    have er : p = q := Option.some.inj hq
    rw [List.getElem?_append_right (by rw [h.1]; omega), h.1, ej, ← er]
    exact ⟨a, rfl, e⟩
theorem ParL.take {H : Hp} {vs : List V} {P : List (List Nat)} (h : ParL H vs P) (m : Nat) : ParL H (vs.take m) (P.take m) := by
  refine ⟨by rw [List.length_take, List.length_take, h.1], fun j q hq => ?_⟩
  rw [List.getElem?_take] at hq
  split at hq
  · rename_i hm
    rw [List.getElem?_take_of_lt hm]
    exact h.2 j q hq
  · cases hq
theorem But.same {b : Addr} {H H1 H2 : Hp} (s : Same H H1) (k : But b H1 H2) : But b H H2 := fun a o n e => k a o n (s a o e)
theorem But.new {b : Addr} {H H1 H2 : Hp} (s : Same H H1) (n : H b = none) (k : But b H1 H2) : Same H H2 := fun a o e => k a o (ne_of_none e n) (s a o e)
/-- a book that was made between H and H' -/
structure Made (C : Addr) (H H' : Hp) (k : Bk) (P : List (List Nat)) : Prop where
  same : Same H H'
  here : BookAt C H' k P
  nb : Nw H k.b
  nl : Nw H k.lb
theorem Made.later {C : Addr} {H H1 H2 : Hp} {k : Bk} {P : List (List Nat)} (m : Made C H H1 k P) (s : Same H1 H2) : Made C H H2 k P := ⟨m.same.trans s, m.here.same s, m.nb, m.nl⟩
theorem Made.early {C : Addr} {H H1 H2 : Hp} {k : Bk} {P : List (List Nat)} (s : Same H H1) (m : Made C H1 H2 k P) : Made C H H2 k P := ⟨s.trans m.same, m.here, ⟨s.free m.nb.e⟩, ⟨s.free m.nl.e⟩⟩
theorem BookAt.mv {C : Addr} {H H' : Hp} {k : Bk} {P : List (List Nat)} {τ : Tp} (h : BookAt C H k P) (m : Mv τ H H') (n : k.lb ≠ τ.t) : BookAt C H' k P :=
  ⟨m.keep _ _ (fun e => by obtain ⟨_, _, _, _, z, _⟩ := m.was.here; rw [← e, h.ins] at z; cases z) h.ins, h.par.tk m.tk, m.keep _ _ n h.bits⟩
/-! ### who is what: the plain law -/
theorem bitsOf_take : ∀ (P : List (List Nat)) (m : Nat), bitsOf (P.take m) = (bitsOf P).take m := by
  have key : ∀ (n : Nat) (P : List (List Nat)), P.length = n → ∀ m, bitsOf (P.take m) = (bitsOf P).take m := by
    intro n
    induction n with
    | zero =>
      intro P h m
      have e : P = [] := List.length_eq_zero_iff.mp h
      subst e
      simp [bitsOf]
    | succ n ih =>
      intro P h m
      have hne : P ≠ [] := by intro e; rw [e] at h; cases h
      have e : P = P.dropLast ++ [P.getLast hne] := (List.dropLast_concat_getLast hne).symm
      have hl : P.dropLast.length = n := by rw [List.length_dropLast, h]; rfl
      by_cases hm : m ≤ n
      · rw [e, List.take_append_of_le_length (by omega), ih _ hl, bitsOf_snoc, List.take_append_of_le_length (by rw [bitsOf_len]; omega)]
      · rw [List.take_of_length_le (by omega), List.take_of_length_le (by rw [bitsOf_len]; omega)]
  exact fun P => key P.length P rfl
theorem bitsOf_at (P : List (List Nat)) (j : Nat) (p : List Nat) (h : P[j]? = some p) : (bitsOf P)[j]? = some (upBits ((bitsOf P).take j) j p) := by
  have hj := (List.getElem?_eq_some_iff.mp h).1
  have e : P.take (j + 1) = P.take j ++ [p] := by rw [List.take_add_one, h]; rfl
  have e2 : (bitsOf P).take (j + 1) = (bitsOf P).take j ++ [upBits ((bitsOf P).take j) j p] := by
    have hl : ((bitsOf P).take j).length = j := by rw [List.length_take, bitsOf_len]; omega
    rw [← bitsOf_take, e, bitsOf_snoc, bitsOf_take, hl]
  have e3 : ((bitsOf P).take (j + 1))[j]? = (bitsOf P)[j]? := List.getElem?_take_of_lt (Nat.lt_succ_self j)
  have hl : ((bitsOf P).take j).length = j := by rw [List.length_take, bitsOf_len]; omega
  rw [← e3, e2, List.getElem?_append_right (by omega), hl, Nat.sub_self]
  rfl
theorem upBits_take {acc : List Nat} {j : Nat} {p : List Nat} (h : ∀ q ∈ p, q < j) : upBits (acc.take j) j p = upBits acc j p := by
  unfold upBits
  have key : ∀ (p : List Nat) (f : Nat), (∀ q ∈ p, q < j) → p.foldl (fun f q => f ||| (acc.take j).getD q 0) f = p.foldl (fun f q => f ||| acc.getD q 0) f := by
    intro p
    induction p with
    | nil => intro f _; rfl
    | cons q r ih =>
      intro f hq
      have e : (acc.take j).getD q 0 = acc.getD q 0 := by
        rw [List.getD_eq_getElem?_getD, List.getD_eq_getElem?_getD, List.getElem?_take_of_lt (hq q List.mem_cons_self)]
      rw [List.foldl_cons, List.foldl_cons, e, ih _ fun z hz => hq z (List.mem_cons_of_mem _ hz)]
  exact key p _ h
theorem isA_rec {P : List (List Nat)} (hR : RtP P) {x : Nat} {p : List Nat} (h : P[x]? = some p) (j : Nat) : isA P x j = (decide (x = j) || p.any fun q => isA P q j) := by
  have e : (bitsOf P).getD x 0 = upBits (bitsOf P) x p := by
    rw [List.getD_eq_getElem?_getD, bitsOf_at P x p h, upBits_take (hR x p h)]
    rfl
  unfold isA
  rw [e, upBits_at]
theorem isA_out {P : List (List Nat)} {x : Nat} (h : P.length ≤ x) (j : Nat) : isA P x j = false := by
  unfold isA
  rw [List.getD_eq_getElem?_getD, List.getElem?_eq_none (by rw [bitsOf_len]; exact h)]
  exact Nat.zero_testBit j
theorem isA_lt {P : List (List Nat)} {x j : Nat} (h : isA P x j = true) : x < P.length := by
  by_cases hx : x < P.length
  · exact hx
  · rw [isA_out (by omega)] at h
    cases h
theorem isA_le {P : List (List Nat)} (hR : RtP P) : ∀ {x j : Nat}, isA P x j = true → j ≤ x := by
  intro x
  induction x using Nat.strongRecOn with
  | ind x ih =>
    intro j h
    have hx := isA_lt h
    rw [isA_rec hR (List.getElem?_eq_getElem hx), Bool.or_eq_true, decide_eq_true_eq, List.any_eq_true] at h
    rcases h with h | ⟨q, hq, h⟩
    · omega
    · have l := hR x _ (List.getElem?_eq_getElem hx) q hq
      have := ih q l h
      omega
theorem isA_refl {P : List (List Nat)} (hR : RtP P) {x : Nat} (hx : x < P.length) : isA P x x = true := by
  rw [isA_rec hR (List.getElem?_eq_getElem hx), decide_eq_true rfl]
  rfl
theorem isA_trans {P : List (List Nat)} (hR : RtP P) : ∀ {x y z : Nat}, isA P x y = true → isA P y z = true → isA P x z = true := by
  intro x
  induction x using Nat.strongRecOn with
  | ind x ih =>
    intro y z h h2
    have hx := isA_lt h
    rw [isA_rec hR (List.getElem?_eq_getElem hx), Bool.or_eq_true, decide_eq_true_eq, List.any_eq_true] at h
    rcases h with h | ⟨q, hq, h⟩
    · rw [h]
      exact h2
    · have l := hR x _ (List.getElem?_eq_getElem hx) q hq
      rw [isA_rec hR (List.getElem?_eq_getElem hx), Bool.or_eq_true, List.any_eq_true]
      exact .inr ⟨q, hq, ih q l h h2⟩
theorem isA_take {P : List (List Nat)} {m x : Nat} (h : x < m) (j : Nat) : isA (P.take m) x j = isA P x j := by
  unfold isA
  rw [bitsOf_take, List.getD_eq_getElem?_getD, List.getD_eq_getElem?_getD, List.getElem?_take_of_lt h]
theorem RtP.take {P : List (List Nat)} (h : RtP P) (m : Nat) : RtP (P.take m) := fun j p e q hq => by
  rw [List.getElem?_take] at e
  split at e
  · exact h j p e q hq
  · cases e
theorem RtP.snoc {P : List (List Nat)} (h : RtP P) {p : List Nat} (hp : ∀ q ∈ p, q < P.length) : RtP (P ++ [p]) := fun j r e q hq => by
  by_cases hj : j < P.length
  · rw [List.getElem?_append_left hj] at e
    exact h j r e q hq
  · rw [List.getElem?_append_right (by omega)] at e
    have l := (List.getElem?_eq_some_iff.mp e).1
    rw [List.length_singleton] at l
    have ej : j - P.length = 0 := by omega
    rw [ej] at e
    have er : p = r := Option.some.inj e
    rw [← er] at hq
    have := hp q hq
    omega
/-- forebears, heirs; the lowest of a lot; plain parents -/
def foreB (P : List (List Nat)) (x : Nat) : List Nat := (List.range x).filter fun p => isA P x p
def heirB (P : List (List Nat)) (p : Nat) : List Nat := (List.range P.length).filter fun x => decide (p < x) && isA P x p
def lowB (P : List (List Nat)) (L : List Nat) : List Nat := L.filter fun p => !(L.any fun x => !decide (x = p) && isA P x p)
def plainB (P : List (List Nat)) : List (List Nat) := (List.range P.length).map fun x => lowB P (foreB P x)
theorem plainB_len (P : List (List Nat)) : (plainB P).length = P.length := by
  unfold plainB
  rw [List.length_map, List.length_range]
theorem plainB_at {P : List (List Nat)} {x : Nat} (h : x < P.length) : (plainB P)[x]? = some (lowB P (foreB P x)) := by
  unfold plainB
  rw [List.getElem?_map, List.getElem?_range h]
  rfl
theorem mem_foreB {P : List (List Nat)} {x p : Nat} : p ∈ foreB P x ↔ p < x ∧ isA P x p = true := by
  unfold foreB
  rw [List.mem_filter, List.mem_range]
theorem plainB_rt (P : List (List Nat)) : RtP (plainB P) := fun j p e q hq => by
  have hj := (List.getElem?_eq_some_iff.mp e).1
  rw [plainB_len] at hj
  rw [plainB_at hj] at e
  rw [← Option.some.inj e] at hq
  exact (mem_foreB.mp (List.mem_filter.mp hq).1).1
theorem low_above {P : List (List Nat)} (hR : RtP P) {x p : Nat} (hp : p < x) (h : isA P x p = true) : ∃ q ∈ lowB P (foreB P x), isA P q p = true := by
  have key : ∀ n q, x - q = n → q < x → isA P x q = true → isA P q p = true → ∃ q ∈ lowB P (foreB P x), isA P q p = true := by
    intro n
    induction n using Nat.strongRecOn with
    | ind n ih =>
      intro q hn hq hxq hqp
      by_cases hl : q ∈ lowB P (foreB P x)
      · exact ⟨q, hl, hqp⟩
      · have hf : q ∈ foreB P x := mem_foreB.mpr ⟨hq, hxq⟩
        have ha : ((foreB P x).any fun y => !decide (y = q) && isA P y q) = true := by
          cases e : ((foreB P x).any fun y => !decide (y = q) && isA P y q) with
          | true => rfl
          | false => exact absurd (List.mem_filter.mpr ⟨hf, by simp [e]⟩) hl
        obtain ⟨y, hy, hz⟩ := List.any_eq_true.mp ha
        rw [Bool.and_eq_true, Bool.not_eq_true', decide_eq_false_iff_not] at hz
        have l := isA_le hR hz.2
        obtain ⟨y1, y2⟩ := mem_foreB.mp hy
        exact ih (x - y) (by omega) y rfl y1 y2 (isA_trans hR hz.2 hqp)
  exact key _ p rfl hp h (isA_refl hR (by have := isA_lt h; omega))
theorem isA_plain {P : List (List Nat)} (hR : RtP P) : ∀ (x j : Nat), isA (plainB P) x j = isA P x j := by
  intro x
  induction x using Nat.strongRecOn with
  | ind x ih =>
    intro j
    by_cases hx : x < P.length
    · have l : ∀ q ∈ lowB P (foreB P x), q < x ∧ isA P x q = true := fun q hq => mem_foreB.mp (List.mem_filter.mp hq).1
      rw [isA_rec (plainB_rt P) (plainB_at hx)]
      rw [Bool.eq_iff_iff, Bool.or_eq_true, decide_eq_true_eq, List.any_eq_true]
      constructor
      · rintro (h | ⟨q, hq, h⟩)
        · rw [← h]
          exact isA_refl hR hx
        · rw [ih q (l q hq).1] at h
          exact isA_trans hR (l q hq).2 h
      · intro h
        by_cases e : x = j
        · exact .inl e
        · have := isA_le hR h
          obtain ⟨q, hq, hz⟩ := low_above hR (by omega) h
          exact .inr ⟨q, hq, by rw [ih q (l q hq).1]; exact hz⟩
    · rw [isA_out (P := P) (by omega), isA_out (P := plainB P) (by rw [plainB_len]; omega)]
theorem foreB_plain {P : List (List Nat)} (hR : RtP P) (x : Nat) : foreB (plainB P) x = foreB P x := by
  unfold foreB
  congr 1
  funext j
  rw [isA_plain hR]
theorem lowB_plain {P : List (List Nat)} (hR : RtP P) (L : List Nat) : lowB (plainB P) L = lowB P L := by
  unfold lowB
  congr 1
  funext p
  congr 2
  funext x
  rw [isA_plain hR]
theorem plainB_plainB {P : List (List Nat)} (hR : RtP P) : plainB (plainB P) = plainB P := by
  show (List.range (plainB P).length).map (fun x => lowB (plainB P) (foreB (plainB P) x)) = (List.range P.length).map fun x => lowB P (foreB P x)
  rw [plainB_len]
  congr 1
  funext x
  rw [foreB_plain hR, lowB_plain hR]
/-- 300 in a row, 300 beside one another -/
def chainP (n : Nat) : List (List Nat) := [] :: (List.range n).map fun k => [k]
def wideP (n : Nat) : List (List Nat) := List.replicate n []
theorem chainP_len (n : Nat) : (chainP n).length = n + 1 := by simp [chainP]
theorem chainP_at {n j : Nat} (h : j < n) : (chainP n)[j + 1]? = some [j] := by
  unfold chainP
  rw [List.getElem?_cons_succ, List.getElem?_map, List.getElem?_range h]
  rfl
theorem chainP_rt (n : Nat) : RtP (chainP n) := fun j p e q hq => by
  cases j with
  | zero => rw [show (chainP n)[0]? = some [] from rfl] at e; rw [← Option.some.inj e] at hq; cases hq
  | succ j =>
    have hj := (List.getElem?_eq_some_iff.mp e).1
    rw [chainP_len] at hj
    rw [chainP_at (by omega)] at e
    rw [← Option.some.inj e, List.mem_singleton] at hq
    omega
theorem isA_chain {n : Nat} : ∀ {x : Nat}, x ≤ n → ∀ j, isA (chainP n) x j = decide (j ≤ x)
  | 0, _, j => by
    rw [isA_rec (chainP_rt n) (show (chainP n)[0]? = some [] from rfl)]
    simp only [List.any_nil, Bool.or_false]
    exact decide_eq_decide.mpr (by omega)
  | x + 1, h, j => by
    rw [isA_rec (chainP_rt n) (chainP_at (by omega)), List.any_cons, List.any_nil, Bool.or_false, isA_chain (by omega) j, ← Bool.decide_or]
    exact decide_eq_decide.mpr (by omega)
theorem wideP_rt (n : Nat) : RtP (wideP n) := fun j p e q hq => by
  have := List.mem_of_getElem? e
  rw [List.eq_of_mem_replicate this] at hq
  cases hq
theorem isA_wide {n x : Nat} (h : x < n) (j : Nat) : isA (wideP n) x j = decide (x = j) := by
  rw [isA_rec (wideP_rt n) (p := []) (by unfold wideP; rw [List.getElem?_replicate, if_pos h])]
  simp
/-- the items of a list are tuples of numbers -/
def RN (f : Nat → List Nat) (i : Nat) (v : V) (H : Hp) : Prop := ∃ a, v = .ref a ∧ H a = some (.tup (natsV (f i)))
theorem RN.tk (f : Nat → List Nat) (i : Nat) (v : V) (H H' : Hp) (h : RN f i v H) (k : TK H H') : RN f i v H' := by
  obtain ⟨a, e, x⟩ := h
  exact ⟨a, e, k _ _ x⟩
theorem parL_of {H : Hp} {acc : List V} {n : Nat} {f : Nat → List Nat} (hl : acc.length = n) (h : ∀ (j : Nat) v, acc[j]? = some v → RN f j v H) : ParL H acc ((List.range n).map f) := by
  refine ⟨by rw [hl, List.length_map, List.length_range], fun j p e => ?_⟩
  have hj := (List.getElem?_eq_some_iff.mp e).1
  rw [List.length_map, List.length_range] at hj
  rw [List.getElem?_map, List.getElem?_range hj] at e
  have ep : f j = p := Option.some.inj e
  obtain ⟨a, e1, e2⟩ := h j _ (List.getElem?_eq_getElem (by omega))
  rw [ep] at e2
  exact ⟨a, by rw [List.getElem?_eq_getElem (by omega), e1], e2⟩
/-- the parents of the kind i -/
def RowR (i : Nat) (v : V) (H : Hp) : Prop := ∃ a q, v = .ref a ∧ H a = some (.tup (natsV q)) ∧ OkL q i
theorem RowR.tk {i : Nat} {v : V} {H H' : Hp} (h : RowR i v H) (k : TK H H') : RowR i v H' := by
  obtain ⟨a, q, e, x, o⟩ := h
  exact ⟨a, q, e, k _ _ x, o⟩
theorem rows_of {H : Hp} {acc : List V} {n : Nat} (hn : n ≤ 400) (hl : acc.length = n) (h : ∀ (j : Nat) v, acc[j]? = some v → RowR j v H) : ∃ P, ParL H acc P ∧ OkP P ∧ P.length = n := by
  obtain ⟨f, hf⟩ := Classical.axiomOfChoice (r := fun (j : Nat) (q : List Nat) => j < n → ∃ a, acc[j]? = some (.ref a) ∧ H a = some (.tup (natsV q)) ∧ OkL q j) (fun j => by
    by_cases hj : j < n
    · obtain ⟨a, q, e, x, o⟩ := h j _ (List.getElem?_eq_getElem (by omega))
      exact ⟨q, fun _ => ⟨a, by rw [List.getElem?_eq_getElem (by omega), e], x, o⟩⟩
    · exact ⟨[], fun z => absurd z hj⟩)
  refine ⟨(List.range n).map f, parL_of hl fun j v e => ?_, ⟨fun j q e => ?_, ?_⟩, ?_⟩
  · have hj := (List.getElem?_eq_some_iff.mp e).1
    obtain ⟨a, e1, e2, _⟩ := hf j (by omega)
    rw [e] at e1
    exact ⟨a, Option.some.inj e1, e2⟩
  · have hj := (List.getElem?_eq_some_iff.mp e).1
    rw [List.length_map, List.length_range] at hj
    rw [List.getElem?_map, List.getElem?_range hj] at e
    obtain ⟨_, _, _, o⟩ := hf j hj
    rw [← Option.some.inj e]
    exact o
  · rw [List.length_map, List.length_range]
    exact hn
  · rw [List.length_map, List.length_range]
theorem nats_of {n : Nat} : ∀ {ns : List Int}, ns.Pairwise (· < ·) → (∀ x ∈ ns, ∃ z : Nat, z < n ∧ x = (z : Int)) → ∃ ks : List Nat, ns = ks.map (fun z : Nat => (z : Int)) ∧ (∀ k ∈ ks, k < n) ∧ ks.Pairwise (· < ·)
  | [], _, _ => ⟨[], rfl, (fun k hk => by cases hk), List.Pairwise.nil⟩
  | x :: r, hp, h => by
    obtain ⟨h1, h2⟩ := List.pairwise_cons.mp hp
    obtain ⟨ks, e, hk, hkp⟩ := nats_of h2 fun y hy => h y (List.mem_cons_of_mem _ hy)
    obtain ⟨z, hz, ez⟩ := h x List.mem_cons_self
    refine ⟨z :: ks, by rw [e, ez]; rfl, fun k hk2 => ?_, List.pairwise_cons.mpr ⟨fun k hk2 => ?_, hkp⟩⟩
    · rcases List.mem_cons.mp hk2 with e2 | e2
      · rw [e2]; exact hz
      · exact hk k e2
    · have := h1 (k : Int) (by rw [e]; exact List.mem_map.mpr ⟨k, hk2, rfl⟩)
      omega
theorem nodup_le : ∀ (m : Nat) {ks : List Nat}, ks.Nodup → (∀ k ∈ ks, k < m) → ks.length ≤ m
  | 0, [], _, _ => Nat.le_refl _
  | 0, k :: r, _, h => absurd (h k List.mem_cons_self) (Nat.not_lt_zero _)
  | m + 1, ks, hn, h => by
    by_cases z : m ∈ ks
    · have l := List.length_erase_of_mem z
      have ih := nodup_le m (hn.erase m) fun k hk => by
        have q := (List.Nodup.mem_erase_iff hn).mp hk
        have := h k q.2
        omega
      have := List.length_pos_of_mem z
      omega
    · have ih := nodup_le m hn fun k hk => by
        have := h k hk
        have : k ≠ m := fun e => z (e ▸ hk)
        omega
      omega
/-! ### clauses -/
def optV : Option Int → V
  | none => .non
  | some i => .int i
def ClsL (H : Hp) (vs : List V) (Cs : List (Nat × Int)) : Prop := vs.length = Cs.length ∧ ∀ (j : Nat) c, Cs[j]? = some c → ∃ a, vs[j]? = some (.ref a) ∧ H a = some (.tup [.int (c.1 : Int), .int c.2])
def ClsAt (H : Hp) (a : Addr) (Cs : List (Nat × Int)) : Prop := ∃ vs, H a = some (.tup vs) ∧ ClsL H vs Cs
theorem ClsL.tk {H H' : Hp} {vs : List V} {Cs : List (Nat × Int)} (h : ClsL H vs Cs) (k : TK H H') : ClsL H' vs Cs := ⟨h.1, fun j p e => by
  obtain ⟨a, e1, e2⟩ := h.2 j p e
  exact ⟨a, e1, k _ _ e2⟩⟩
theorem ClsAt.tk {H H' : Hp} {a : Addr} {Cs : List (Nat × Int)} (h : ClsAt H a Cs) (k : TK H H') : ClsAt H' a Cs := by
  obtain ⟨vs, e, l⟩ := h
  exact ⟨vs, k _ _ e, l.tk k⟩
theorem ClsL.here {H : Hp} {vs : List V} {Cs : List (Nat × Int)} (h : ClsL H vs Cs) {j : Nat} {x : V} (e : vs[j]? = some x) : ∃ a c, x = .ref a ∧ Cs[j]? = some c ∧ H a = some (.tup [.int (c.1 : Int), .int c.2]) := by
  have hj := (List.getElem?_eq_some_iff.mp e).1
  rw [h.1] at hj
  obtain ⟨a, e1, e2⟩ := h.2 j _ (List.getElem?_eq_getElem hj)
  rw [e] at e1
  exact ⟨a, _, Option.some.inj e1, List.getElem?_eq_getElem hj, e2⟩
theorem ClsL.take {H : Hp} {vs : List V} {Cs : List (Nat × Int)} (h : ClsL H vs Cs) (m : Nat) : ClsL H (vs.take m) (Cs.take m) := by
  refine ⟨by rw [List.length_take, List.length_take, h.1], fun j q hq => ?_⟩
  rw [List.getElem?_take] at hq
  split at hq
  · rename_i hm
    rw [List.getElem?_take_of_lt hm]
    exact h.2 j q hq
  · cases hq
theorem ClsL.snoc {H : Hp} {vs : List V} {Cs : List (Nat × Int)} (h : ClsL H vs Cs) {a : Addr} {c : Nat × Int} (e : H a = some (.tup [.int (c.1 : Int), .int c.2])) : ClsL H (vs ++ [.ref a]) (Cs ++ [c]) := by
  refine ⟨by rw [List.length_append, List.length_append, h.1]; rfl, fun j q hq => ?_⟩
  by_cases hj : j < Cs.length
  · rw [List.getElem?_append_left hj] at hq
    rw [List.getElem?_append_left (by rw [h.1]; exact hj)]
    exact h.2 j q hq
  · rw [List.getElem?_append_right (by omega)] at hq
    have l := (List.getElem?_eq_some_iff.mp hq).1
    rw [List.length_singleton] at l
    have ej : j - Cs.length = 0 := by omega
    rw [ej] at hq
    have er : c = q := Option.some.inj hq
    rw [List.getElem?_append_right (by rw [h.1]; omega), h.1, ej, ← er]
    exact ⟨a, rfl, e⟩
/-- the first place that is met; the label there -/
def firstB (Cs : List (Nat × Int)) (S : Nat → Bool) : Nat := Cs.findIdx fun c => S c.1
def labB (Cs : List (Nat × Int)) (S : Nat → Bool) : Option Int := (Cs[firstB Cs S]?).map (·.2)
theorem labB_congr {Cs : List (Nat × Int)} {S T : Nat → Bool} (h : ∀ c ∈ Cs, S c.1 = T c.1) : labB Cs S = labB Cs T := by
  have key : ∀ Cs : List (Nat × Int), (∀ c ∈ Cs, S c.1 = T c.1) → firstB Cs S = firstB Cs T := by
    intro Cs
    induction Cs with
    | nil => intro _; rfl
    | cons c r ih =>
      intro h
      have ih := ih fun d hd => h d (List.mem_cons_of_mem _ hd)
      unfold firstB at ih ⊢
      rw [List.findIdx_cons, List.findIdx_cons, h c List.mem_cons_self, ih]
  unfold labB
  rw [key Cs h]
theorem first_drop {Cs : List (Nat × Int)} {S : Nat → Bool} {i : Nat} {c : Nat × Int} (hc : Cs[i]? = some c) (h : firstB Cs S = i + firstB (Cs.drop i) S) : firstB Cs S = if S c.1 then i else (i + 1) + firstB (Cs.drop (i + 1)) S := by
  have il := (List.getElem?_eq_some_iff.mp hc).1
  have hd : Cs.drop i = c :: Cs.drop (i + 1) := by
    rw [List.drop_eq_getElem_cons il]
    rw [List.getElem?_eq_getElem il] at hc
    rw [Option.some.inj hc]
  rw [h, hd]
  unfold firstB
  rw [List.findIdx_cons]
  cases S c.1 with
  | true => rfl
  | false => show i + ((Cs.drop (i + 1)).findIdx (fun c => S c.1) + 1) = _; simp only [Bool.false_eq_true, if_false]; omega
theorem all_true (n : Nat) : (List.range n).filterMap (fun _ => some (V.bl true)) = (List.replicate n true).map V.bl := by
  rw [show (fun _ : Nat => some (V.bl true)) = some ∘ (fun _ : Nat => V.bl true) from rfl, List.filterMap_eq_map, List.map_replicate]
  exact List.eq_replicate_iff.mpr ⟨by rw [List.length_map, List.length_range], fun b hb => by
    obtain ⟨x, _, e⟩ := List.mem_map.mp hb
    exact e.symm⟩
theorem all_id (n : Nat) : (List.replicate n true).all id = true := List.all_eq_true.mpr fun x hx => (List.eq_of_mem_replicate hx)
theorem filter_natsV (p : Nat → Bool) (f : Nat → Nat) (n : Nat) : (List.range n).filterMap (fun i => if p i = true then some (V.int ((f i : Nat) : Int)) else none) = natsV (((List.range n).filter p).map f) := by
  unfold natsV
  induction n with
  | zero => rfl
  | succ n ih =>
    rw [filterMap_range_succ, ih, List.range_succ, List.filter_append, List.map_append, List.map_append]
    congr 1
    rw [List.filter_cons]
    cases p n <;> rfl
theorem filter_nats (p : Nat → Bool) (n : Nat) : (List.range n).filterMap (fun i => if p i = true then some (V.int (i : Int)) else none) = natsV ((List.range n).filter p) := by
  have h := filter_natsV p id n
  rw [List.map_id] at h
  exact h
theorem slice_any {K : PySem.W.Frag} {H : Hp} {a : Addr} {xs : List V} {m : Nat} {Q : VK} (hx : H a = some (.tup xs)) (hm : m ≤ xs.length)
    (k : ∀ p H', Same H H' → H' p = some (.tup (xs.take m)) → Q (.ref p) H') : rSlA K (.ref a) none (some (m : Int)) H Q := by
  have e0 : HT.sIx xs.length 0 none = 0 := rfl
  have e1 : HT.sIx xs.length xs.length (some (m : Int)) = m := by
    rw [HT.sIx_nat]
    omega
  refine ⟨a, xs, rfl, SqT.of hx, fun e => ?_, fun _ p np => ?_⟩
  · rw [e1] at e
    exact k a H (Same.refl H) (by rw [hx, e.2, List.take_length])
  · refine k p _ (Same.new (Same.refl H) np) ?_
    rw [upd_same]
    unfold cutV
    rw [e0, e1]
    rfl
theorem ixn_nat {n j : Nat} (hj : j < n) : ixN n (j : Int) = some j := by
  unfold ixN
  rw [if_pos (by omega), if_pos (by omega)]
  simp
/-! ### words for books -/
local macro_rules | `(tactic| tm_at "fld") => `(tactic| refine ⟨_, _, _, _, _, rfl, by tm_at "hp", by assumption, by assumption, by first | exact bkF_bits _ _ | exact bkF_parents _ _ | fail "fld", ?_⟩)
/-! ### schemes -/
abbrev Tr := Int × Int × List Int
def Trip (H : Hp) (v : V) (e : Tr) : Prop := ∃ (p q : Addr), v = .ref p ∧ H p = some (.tup [.int e.1, .int e.2.1, .ref q]) ∧ H q = some (.tup (e.2.2.map V.int))
def SchAt (H : Hp) (a : Addr) (S : List Tr) : Prop := ∃ vs : List V, H a = some (.tup vs) ∧ vs.length = S.length ∧ ∀ (i : Nat) (e : Tr), S[i]? = some e → ∃ v, vs[i]? = some v ∧ Trip H v e
theorem Trip.tk {H H' : Hp} {v : V} {e : Tr} (h : Trip H v e) (k : TK H H') : Trip H' v e := by
  obtain ⟨p, q, e1, e2, e3⟩ := h
  exact ⟨p, q, e1, k _ _ e2, k _ _ e3⟩
theorem SchAt.tk {H H' : Hp} {a : Addr} {S : List Tr} (h : SchAt H a S) (k : TK H H') : SchAt H' a S := by
  obtain ⟨vs, h1, h2, h3⟩ := h
  refine ⟨vs, k _ _ h1, h2, fun i e he => ?_⟩
  obtain ⟨v, hv, ht⟩ := h3 i e he
  exact ⟨v, hv, ht.tk k⟩
theorem SchAt.at {H : Hp} {a : Addr} {S : List Tr} (h : SchAt H a S) {i : Nat} {e : Tr} (he : S[i]? = some e) : ∃ vs p q, H a = some (.tup vs) ∧ vs.length = S.length ∧ vs[i]? = some (.ref p) ∧ H p = some (.tup [.int e.1, .int e.2.1, .ref q]) ∧ H q = some (.tup (e.2.2.map V.int)) := by
  obtain ⟨vs, h1, h2, h3⟩ := h
  obtain ⟨v, hv, p, q, e1, e2, e3⟩ := h3 i e he
  exact ⟨vs, p, q, h1, h2, by rw [hv, e1], e2, e3⟩
def saysB (ex ep : Tr) : Bool := decide (ep.1 < (ex.2.2.length : Int)) && decide (ep.2.1 ≤ ex.2.2.getD ep.1.toNat 0)
def Good (e : Tr) : Prop := 0 ≤ e.1 ∧ e.2.2.length ≤ 1000
def GoodT (v : V) (H : Hp) : Prop := ∃ e, Good e ∧ Trip H v e
theorem GoodT.tk {v : V} {H H' : Hp} (h : GoodT v H) (k : TK H H') : GoodT v H' := by
  obtain ⟨e, g, t⟩ := h
  exact ⟨e, g, t.tk k⟩
theorem sch_of {H : Hp} {a : Addr} : ∀ {vs : List V}, (∀ v ∈ vs, GoodT v H) → ∃ S : List Tr, S.length = vs.length ∧ (∀ e ∈ S, Good e) ∧ ∀ (i : Nat) (e : Tr), S[i]? = some e → ∃ v, vs[i]? = some v ∧ Trip H v e
  | [], _ => ⟨[], rfl, (fun e h => by cases h), (fun i e h => by simp at h)⟩
  | v :: r, h => by
    obtain ⟨S, h1, h2, h3⟩ := sch_of (a := a) (vs := r) fun u hu => h u (List.mem_cons_of_mem _ hu)
    obtain ⟨e, g, t⟩ := h v List.mem_cons_self
    refine ⟨e :: S, by rw [List.length_cons, List.length_cons, h1], fun x hx => ?_, fun i x hx => ?_⟩
    · rcases List.mem_cons.mp hx with rfl | hx
      · exact g
      · exact h2 x hx
    · cases i with
      | zero =>
        have q : e = x := Option.some.inj hx
        exact ⟨v, rfl, q ▸ t⟩
      | succ i => exact h3 i x hx
/-- a list of triples' addresses -/
structure ScL (H : Hp) (vs : List V) (S : List Tr) : Prop where
  len : vs.length = S.length
  item : ∀ (i : Nat) (e : Tr), S[i]? = some e → ∃ v, vs[i]? = some v ∧ Trip H v e
theorem ScL.nil {H : Hp} : ScL H [] [] := ⟨rfl, fun i e h => by simp at h⟩
theorem ScL.tk {H H' : Hp} {vs : List V} {S : List Tr} (h : ScL H vs S) (k : TK H H') : ScL H' vs S := ⟨h.len, fun i e he => by
  obtain ⟨v, hv, ht⟩ := h.item i e he
  exact ⟨v, hv, ht.tk k⟩⟩
theorem ScL.snoc {H : Hp} {vs : List V} {S : List Tr} {v : V} {e : Tr} (h : ScL H vs S) (t : Trip H v e) : ScL H (vs ++ [v]) (S ++ [e]) := by
  refine ⟨by rw [List.length_append, List.length_append, h.len]; rfl, fun i x hx => ?_⟩
  by_cases hi : i < S.length
  · rw [List.getElem?_append_left hi] at hx
    obtain ⟨u, hu, ht⟩ := h.item i x hx
    exact ⟨u, by rw [List.getElem?_append_left (by rw [h.len]; exact hi)]; exact hu, ht⟩
  · rw [List.getElem?_append_right (by omega)] at hx
    have q := (List.getElem?_eq_some_iff.mp hx).1
    rw [List.length_singleton] at q
    have e0 : i - S.length = 0 := by omega
    rw [e0] at hx
    have ex : e = x := Option.some.inj hx
    refine ⟨v, ?_, ex ▸ t⟩
    rw [List.getElem?_append_right (by rw [h.len]; omega), h.len, e0]
    rfl
theorem ScL.sch {H : Hp} {a : Addr} {vs : List V} {S : List Tr} (h : ScL H vs S) (ha : H a = some (.tup vs)) : SchAt H a S := ⟨vs, ha, h.len, h.item⟩
theorem ScL.rev {H : Hp} {vs : List V} {S : List Tr} (h : ScL H vs S) : ScL H vs.reverse S.reverse := by
  refine ⟨by rw [List.length_reverse, List.length_reverse, h.len], fun i e he => ?_⟩
  have il : i < S.length := by
    have q := (List.getElem?_eq_some_iff.mp he).1
    rw [List.length_reverse] at q
    exact q
  rw [List.getElem?_reverse il] at he
  obtain ⟨v, hv, ht⟩ := h.item _ _ he
  exact ⟨v, by rw [List.getElem?_reverse (by rw [h.len]; exact il), h.len]; exact hv, ht⟩
section
open PySem.Spec PyProof.Rows
/-! ### super().__init__(text) in an own error over an own error over ValueError -/
section
variable {prog : Program} {w : World} {A : Around} {E : Value → Shared → Prop} {hp : Heap} {g : Array GenState} {d : Drawn} {t : Nat} {os : OsState}
variable {nm qn : Str} {C N : Addr} {bs bm sub : List Value} {hdct ab : Bool} {sn : List Str} {col : Option Bool} {dd : Option Addr} {k0 k1 k2 k3 k5 : Option Value}
theorem bound_init {u e t0 : Addr} {vals : List Value} {Q : Value → Shared → Prop} (kC : hp.get? C = some (excClassObj nm qn C N bs bm hdct sn sub ab col dd k0 k1 k2 k3 k5 "ValueError.__new__"))
    (ke : hp.get? e = some (PySem.HandSPX.excO C t0)) (ku : hp.get? u = some (PySem.W.kxs_mw "ValueError.__init__" e)) (few : vals.length ≤ sizeLine)
    (fin : ∀ h2 t2, (∀ b o, b ≠ e → hp.get? b = some o → h2.get? b = some o) → h2.get? e = some (PySem.HandSPX.excO C t2) → Q .none ⟨h2, g, d, t, os⟩) : wpAny (model prog w) A (call (.ref u) vals) Q E ⟨hp, g, d, t, os⟩ := by
  apply wpAny_call
  apply codeAny_of_tree
  change wpAny (model prog w) A.in1 (callAny (.ref u) ⟨vals, []⟩) _ _ _
  unfold callAny
  simp only
  apply wpAny_bind
  refine wpAny_load ku ?_
  have b1 : (Value.type "method-wrapper" == Value.type "method" || Value.type "method-wrapper" == Value.type "builtin_function_or_method" || Value.type "method-wrapper" == Value.type "method-wrapper") = true := by decide
  simp only [PySem.W.kxs_mw, b1, if_true]
  apply PySem.W.KFB.if_so (by decide)
  apply wpAny_bind
  refine PySem.W.check_bound_init F.excBase_ValueError.toExcCallFacts kC ke rfl ?_
  refine wpAny_pure ?_
  refine And.intro (plainId_quiet F.excBase_ValueError.init.plain _) (codeAny_builtin F.excBase_ValueError.initEntry ?_)
  rw [Around.under_plainId F.excBase_ValueError.init.plain _]
  wp_walk
  apply fin (t2 := hp.objs.size)
  · intro b o nb hb
    rw [Heap.get?_update_other _ _ (fun z => nb z.symm)]
    exact Heap.get?_push_of_some _ hb
  · rw [Heap.get?_update_self _ (Heap.get?_push_of_some _ ke) rfl]
    rfl
end
/-- what the written part says of a class and of its own __init__ that calls the one above -/
structure SupC (K : PySem.W.Frag) (mg : Str → Option Value) (prog : Program) (C f cc cda : Addr) (F : NdefX.NF) : Prop where
  ex : OexC K C
  opq : PySem.W.nsIn K cStatics "thirdparty.any" = some none
  sup : PySem.W.ks_superIn K C C "__init__" = some (some (.builtin "ValueError.__init__"))
  subV : PySem.W.subIn K (.ref C) (.type "ValueError") = some true
  mro : PySem.W.mroIn K C (.ref C) = some true
  cell : ∃ cl cld csl, K.lookup cc = some ⟨cl, cld, .cell (some (.ref C)), csl⟩
  code : ∃ ccl cdd vs ccs file tf, K.lookup cda = some ⟨ccl, cdd, .fields vs, ccs⟩ ∧ vs[2]? = some (.str file tf) ∧ ((prog.main.file : Str) == file) = true
  fn : ∃ oc od dV kV doc pm an ctv osl, K.lookup f = some ⟨oc, od, .func (PySem.W.fnX F.name F.qual F.params F.body F.scope F.cl dV kV doc pm an (.ref F.c) ctv), osl⟩
  top : (prog.main.scope.names.lookup ("super" : Str)).isSome = false
  nosup : mg "super" = none
  cl : F.cl = [(("__class__" : Str), cc)]
  c : F.c = cda
  kind : F.scope.kind = .function
  ks : F.scope.names.lookup ("super" : Str) = some .globalImplicit
  kc : F.scope.names.lookup ("__class__" : Str) = some .free
  kself : F.scope.names.lookup ("self" : Str) = some .local
  first : ∃ ar : Arg, (F.params.posonlyargs ++ F.params.args).head? = some ar ∧ ar.arg = ("self" : Str)
section
variable {X : Cx} {C f cc cda L a : Addr} {F : NdefX.NF} {σ : L2.St} {H : Hp} {s : Shared} {Q : Value → Shared → Prop} {E : Value → Shared → Prop} {p0 p1 p2 p3 p4 : Pos} {j : Nat} {msg : Str} {body : List Stmt}
theorem sup_eval (T : SupC X.K X.mg X.prog C f cc cda F) (hE : X.env = NdefX.envF F f L) (I : Inv X [] σ H s) (hN : X.N[0]? = some ("self" : Str)) (hσ : σ[0]? = some (some (.ref a))) (ha : H a = some (exo a C none)) (hb : bootBuiltins "super" = some (.type "super")) {pl : Sem Bool}
    (he : eval (.Call (.Attribute (.Call (.Name "super" p0) [] [] p1) "__init__" p2) [.Constant (.str msg) j p3] [] p4) X.env = (do
      let ov ← attributeBase (.Call (.Name "super" p0) [] [] p1) "__init__" X.env (eval (.Call (.Name "super" p0) [] [] p1) X.env)
      standAt p2.atName
      let (f, first) ← holding [ov] (getMethod ov "__init__" pl)
      callWith p4 f first (backTo p4 (starEach [.Constant (.str msg) j p3] X.env)) []))
    (h : ∀ s', Inv X [] σ H s' → Q .none s') :
    _root_.PySem.wpAt (model X.prog X.w) X.A (.func body X.env) (eval (.Call (.Attribute (.Call (.Name "super" p0) [] [] p1) "__init__" p2) [.Constant (.str msg) j p3] [] p4) X.env) Q X.xe s := by
  have KX := I.kIn
  obtain ⟨cl, cld, csl, lcell⟩ := T.cell
  obtain ⟨ccl, cdd, vs, ccs, file, tf, lcode, hvs, hfile⟩ := T.code
  obtain ⟨oc, od, dV, kV, doc, pm, an, ctv, osl, lfn⟩ := T.fn
  obtain ⟨ar, har, hself⟩ := T.first
  obtain ⟨nm, q, N, bs, bm, sn, sub, ab, col, dd, k0, k1, k2, k3, k5, hC, hbm⟩ := T.ex.cls
  obtain ⟨t1, ho⟩ := exo_at I.hok ha
  have hks : X.env.kindOf "super" = some .globalImplicit := by rw [hE]; exact T.ks
  have hkc : X.env.kindOf "__class__" = some .free := by rw [hE]; exact T.kc
  have hksf : X.env.kindOf "self" = some .local := by rw [hE]; exact T.kself
  have hkd : X.env.scope.kind = .function := I.ok.kind
  have hfu : X.env.func = some f := by rw [hE]
  have hco : X.env.code = .ref cda := by rw [hE, ← T.c]
  have hcl : X.env.cells.lookup ("__class__" : Str) = some cc := by rw [hE]; show F.cl.lookup ("__class__" : Str) = _; rw [T.cl]; rfl
  have hcls : PySem.W.clsIn X.K C = some { name := nm, bases := bs, mro := .ref C :: bm, ns := N, qualname := q, hasDict := true, slotNames := sn, subclasses := sub, abstract := ab, collection := col, hasDel := false } := by unfold PySem.W.clsIn; rw [hC] <;> rfl
  refine PySem.ks_wpAt_MethodCall ?_ he
  refine PySem.ks_wpAt_super_base hks hkc (by decide +kernel) hfu (KX _ _ lfn) rfl har hco (KX _ _ lcode) rfl hvs hfile T.top ?_
  obtain ⟨mb, g1, g2⟩ := I.mod.blt
  refine PySem.W.ks_loadName_global hkd hks (Calls.loadGlobal_builtin (by rw [I.ok.glob]; exact I.mod.glob.keeps I.bk) T.nosup (by rw [I.ok.blt]; exact g1.keeps I.bk) ((g2 "super" (by decide)).trans hb) ⟨rfl, ?_⟩)
  refine wpAny_loadName_free hkd hkc hcl ⟨_, KX _ _ lcell, rfl⟩ ?_
  obtain ⟨m, hns, hloc⟩ := I.loc
  obtain ⟨u, ru, hl⟩ := hloc 0 "self" (.ref a) hN hσ (.inl (by rw [hE]; exact T.kself))
  have hm : m "self" = some (.ref a) := by
    rcases hl with ⟨_, hl⟩ | ⟨hl, _⟩
    · cases ru
      exact hl
    · rw [hksf] at hl
      rcases hl with hl | hl <;> cases hl
  rw [hself]
  refine wpAny_loadName_local hkd hksf hns hm ?_
  have KC := KX _ _ hC
  have ia : PySem.W.InstAt s.heap a { cls := .ref C, dict := none, data := .fields #[.ref t1, .none, .none, .none, .bool false, .none] } C none := ⟨ho, rfl, rfl, trivial⟩
  have ne : a ≠ C := PySem.W.ks_ne KX ia hcls
  have hI : PySem.W.Looks (model X.prog X.w) s.heap (isInstance (.ref a) (.type "ValueError")) true := ia.type.andThen (PySem.W.looks_subIn KX T.subV)
  obtain ⟨hp, g, d, t, os⟩ := s
  refine ks_wpAny_isType_cls KC rfl ⟨rfl, ?_⟩
  refine ks_wpAny_call_super KC rfl ho rfl (fun c e => nomatch e) (PySem.W.looks_mroIn KX T.mro) (fun h1 eso kk => ?_)
  have I1 : Inv X [] σ H ⟨h1, g, d, t, os⟩ := I.kept (t' := t) kk
  have KX1 := I1.kIn
  have ia1 : PySem.W.InstAt h1 a { cls := .ref C, dict := none, data := .fields #[.ref t1, .none, .none, .none, .bool false, .none] } C none := ⟨kk _ _ ho, rfl, rfl, trivial⟩
  have hf : PySem.W.alongIn X.K "__init__" (((Value.ref C :: bm).dropWhile (· != .ref C)).drop 1) = some (some (.builtin "ValueError.__init__")) := by
    have := T.sup
    unfold PySem.W.ks_superIn at this
    rw [hcls] at this
    exact this
  refine PySem.W.kxs_getMethod PySem.W.kxs_ValueError eso (PySem.W.looks_opaque KX1 T.opq) (l₀ := .ref C :: bm) (fun A Q E s k q => wpAny_bind ((PySem.W.looks_clsIn KX1 hcls) A _ E s k (wpAny_pure q))) rfl KX1 hf (ia1.type.andThen (PySem.W.looks_subIn KX1 T.subV)) ne (by decide +kernel) ?_
  have hu0 : (h1.push (PySem.W.kxs_mw "ValueError.__init__" a)).get? h1.objs.size = some (PySem.W.kxs_mw "ValueError.__init__" a) := Heap.get?_push_at rfl rfl
  have I2 : Inv X [] σ H ⟨h1.push (PySem.W.kxs_mw "ValueError.__init__" a), g, d, t + 1, os⟩ := I1.kept (t' := t + 1) fun b o e => Heap.get?_push_of_some _ e
  have fp : FpOk X [] H h1.objs.size := I1.fpOk (Nat.le_refl _) (I1.hok.fresh (Nat.le_refl _))
  have I3 := I2.pinned (fp := [h1.objs.size]) (fun b hb => by rw [List.mem_singleton.mp hb]; exact fp) (fun b hb => by rw [List.mem_singleton.mp hb]; exact ⟨_, hu0, fun v z => nomatch z⟩)
  have pin : (h1.objs.size, PySem.W.kxs_mw "ValueError.__init__" a) ∈ ([] ++ pinsAt [h1.objs.size] (h1.push (PySem.W.kxs_mw "ValueError.__init__" a)) : List (Addr × Obj)) := by
    rw [List.nil_append]
    exact mem_pinsAt (List.mem_singleton.mpr rfl) hu0
  have ap : PA X [.Constant (.str msg) j p3] (tCons (tC (.str msg)) tNil) := pa_cons pe_str pa_nil
  show wpAny (model X.prog X.w) X.A (callWith p4 (.ref h1.objs.size) [] (backTo p4 (starEach [.Constant (.str msg) j p3] X.env)) []) Q X.xe _
  refine PySem.W.kxs_callWith (i := "ValueError.__init__") (x := a) (by rfl) ?_
  show wpAny (model X.prog X.w) X.A (evalArgs (.ref h1.objs.size) true ((false, eval (.Constant (.str msg) j p3) X.env) :: []) []) _ X.xe _
  refine PySem.Calls.evalArgs_plain (wpAny_mono (ap.run p4 _ _ σ H (fun vs H1 => vs = [V.str msg] ∧ H1 = H) I3 ⟨rfl, rfl⟩) (fun us s4 hh => ?_) fun _ _ z => z)
  obtain ⟨vs4, H4, I4, r4, ev, eH⟩ := hh
  subst eH
  have hu4 := (I4.pin _ (List.mem_append_right _ pin)).1
  refine ⟨hu4, ?_⟩
  have I5 : Inv X [] σ H4 s4 := I4.unpinned (pl := pinsAt [h1.objs.size] (h1.push (PySem.W.kxs_mw "ValueError.__init__" a)))
  obtain ⟨t5, ho5⟩ := exo_at I5.hok ha
  obtain ⟨h5, g5, d5, tk5, os5⟩ := s4
  have few : us.length ≤ sizeLine := by
    rw [← r4.length, ev]
    show 1 ≤ sizeLine
    rw [sizeLine_eq]
    omega
  refine bound_init (I5.kIn _ _ hC) ho5 hu4 few fun h6 t6 k6 e6 => ?_
  have J := I5.write (t' := tk5) (x := a) (e := a) (o := exo a C none) (by rw [ha]; exact True.intro) (.inl rfl) k6 ⟨_, e6⟩ (exo_ok e6)
  have eu : upd H4 a (exo a C none) = H4 := by
    funext b
    by_cases hb : b = a
    · rw [hb, upd_same, ha]
    · rw [upd_ne hb]
  rw [eu] at J
  exact h _ J
end
/-- an own __init__ whose first line is super().__init__(text), as a def -/
theorem sup_fn {CX : CXT} {P : Program} {w : World} {K : PySem.W.Frag} {mg : Str → Option Value} {base : Heap} {C f cc cda : Addr} {F : NdefX.NF} {N ps : List Str} {rest : List Stmt} {k : Nat} {sp : Sp} {oc : Value} {od an : Option Addr} {dV kV doc pm ctv : Value} {osl : Array (Option Value)}
    {p0 p1 p2 p3 p4 p5 : Pos} {j : Nat} {msg : Str} {pl : Sem Bool}
    (lk : K.lookup f = some ⟨oc, od, .func (PySem.W.fnX F.name F.qual F.params F.body F.scope F.cl dV kV doc pm an (.ref F.c) ctv), osl⟩) (hcd : PySem.W.codeIn K (.ref F.c) F.qual = true)
    (T : SupC K mg P C f cc cda F) (S : NdefX.NScope N ps [("__class__" : Str)] F.scope) (hN : N[0]? = some ("self" : Str)) (len : ∀ vs H Q E, sp vs H Q E → vs.length = ps.length)
    (hF : F.body = .Expr (.Call (.Attribute (.Call (.Name "super" p0) [] [] p1) "__init__" p2) [.Constant (.str msg) j p3] [] p4) p5 :: rest)
    (he : ∀ L, eval (.Call (.Attribute (.Call (.Name "super" p0) [] [] p1) "__init__" p2) [.Constant (.str msg) j p3] [] p4) (NdefX.envF F f L) = (do
      let ov ← attributeBase (.Call (.Name "super" p0) [] [] p1) "__init__" (NdefX.envF F f L) (eval (.Call (.Name "super" p0) [] [] p1) (NdefX.envF F f L))
      standAt p2.atName
      let (f', first) ← holding [ov] (getMethod ov "__init__" pl)
      callWith p4 f' first (backTo p4 (starEach [.Constant (.str msg) j p3] (NdefX.envF F f L))) []))
    (hi : ∀ L, interactive (NdefX.envF F f L) = false) (hs : ∀ L, swapsWith (.Call (.Attribute (.Call (.Name "super" p0) [] [] p1) "__init__" p2) [.Constant (.str msg) j p3] [] p4) none p5.line (NdefX.envF F f L) = pure false)
    (hb : bootBuiltins "super" = some (.type "super"))
    (hbody : ∀ (A : Around) (outer : List Env) (s : Shared) (H : Hp) (vs : List V) (Q : VK) (E : XK), Room k (A.deeper (NdefX.envF F f s.heap.objs.size)) → sp vs H Q E →
      ∃ a, vs[0]? = some (.ref a) ∧ H a = some (exo a C none) ∧ ∃ t, PSs (NdefX.ncx CX P w K mg base N F f A outer s H E) rest t ∧ t { nx := fun _ H' => Q .non H', rt := Q } (NdefX.startF N vs [none]) H) :
    FnOk P w K mg base CX (k + 1) f (PySem.W.fnX F.name F.qual F.params F.body F.scope F.cl dV kV doc pm an (.ref F.c) ctv) ps sp := by
  refine ⟨len, fun A outer s H args us vs Q E hr e0 hbd r hsp => ?_⟩
  have hl := len _ _ _ _ hsp
  have KX : K.In s.heap := e0.mod.kin.keeps fun b o e => (e0.bs b o e).1
  have lim : s.heap.NoLimit := e0.mod.nolimit.keeps fun b o e => (e0.bs b o e).1
  obtain ⟨cl, cld, csl, lcell⟩ := T.cell
  have bcell := e0.bs _ _ (e0.mod.kin _ _ lcell)
  have cells : NdefX.CellsAt F.cl [("__class__" : Str)] [none] s.heap H := by
    have look : ∀ y c, F.cl.lookup y = some c → y = ("__class__" : Str) ∧ c = cc := fun y c e => by
      rw [T.cl] at e
      by_cases hy : y = ("__class__" : Str)
      · subst hy
        have : some cc = some c := e
        exact ⟨rfl, (Option.some.inj this).symm⟩
      · have : (y == ("__class__" : Str)) = false := by simpa using hy
        simp [List.lookup, this] at e
    refine ⟨rfl, fun y c e => ?_, fun x y c h1 h2 => (look x c h1).1.trans (look y c h2).1.symm, fun i y hy => ?_⟩
    · obtain ⟨_, rfl⟩ := look y c e
      exact ⟨bcell.2, _, _, bcell.1, rfl⟩
    · have hy' : y = ("__class__" : Str) := by
        cases i with
        | zero => exact (Option.some.inj hy).symm
        | succ i => simp at hy
      subst hy'
      refine ⟨cc, by rw [T.cl]; rfl, fun v hv => ?_⟩
      cases i with
      | zero => cases hv
      | succ i => simp at hv
  refine PySem.ks_codeAny_call_defAt (fd := PySem.W.fnX F.name F.qual F.params F.body F.scope F.cl dV kV doc pm an (.ref F.c) ctv) (body := F.body) (binds := ps.zip us) hr.depth (KX _ _ lk) rfl lim (PySem.W.codeRec_of KX hcd) rfl hbd S.nocell (fun ⟨n, _⟩ hy => S.par n (List.of_mem_zip hy).1) (fun h₁ hns kp => ?_) S.co S.gen S.kind
  have I : Inv (NdefX.ncx CX P w K mg base N F f A outer s H E) [] (NdefX.startF N vs [none]) H { s with heap := h₁, toks := s.toks + (ps.zip us).length } := NdefX.inv_startN S hr.hd e0 hl r cells hns kp
  obtain ⟨a, hv0, ha, t, ht, hq⟩ := hbody A outer s H vs Q E (hr.deeper _) hsp
  show _root_.PySem.wpAt (model P w) (A.deeper (NdefX.envF F f s.heap.objs.size)) (.func F.body (NdefX.envF F f s.heap.objs.size)) (execs F.body (NdefX.envF F f s.heap.objs.size)) _ _ _
  have hσ : (NdefX.startF N vs [none])[0]? = some (some (.ref a)) := by
    unfold NdefX.startF
    rw [List.getElem?_append_left (by rw [List.length_map]; exact (List.getElem?_eq_some_iff.mp hv0).1), List.getElem?_map, hv0]
    rfl
  rw [show execs F.body (NdefX.envF F f s.heap.objs.size) = execs (.Expr (.Call (.Attribute (.Call (.Name "super" p0) [] [] p1) "__init__" p2) [.Constant (.str msg) j p3] [] p4) p5 :: rest) (NdefX.envF F f s.heap.objs.size) by rw [hF]]
  refine PySem.ks_wpAt_execs_cons (PySem.ks_wpAt_Expr_any (sup_eval (X := NdefX.ncx CX P w K mg base N F f A outer s H E) (F := F) T rfl I hN hσ ha hb (he _) fun s' J => ?_) (hi _) (hs _))
  refine _root_.PySem.wpAt_of_wpAny ?_
  refine wpAny_mono (ht.run [] s' _ H _ J hq) (fun fl s'' hs => ?_) fun e s'' hs => hs
  have fin : ∀ {σ' : L2.St} {H' : Hp} {v : V} {u : Value}, Inv (NdefX.ncx CX P w K mg base N F f A outer s H E) [] σ' H' s'' → L2.RelV v u → Q v H' → CE outer P w H s Q u s'' :=
    fun {σ' H' v u} J rv q => ⟨v, H', J.os, J.bare, J.base, J.hok, rv, q⟩
  cases fl with
  | ret u =>
    obtain ⟨v, σ', H', J, rv, q⟩ := hs
    exact fin J rv q
  | next =>
    obtain ⟨σ', H', J, q⟩ := hs
    exact fin (v := V.non) (u := Value.none) J rfl q
  | brk =>
    obtain ⟨_, _, _, q⟩ := hs
    exact False.elim q
  | cont =>
    obtain ⟨_, _, _, q⟩ := hs
    exact False.elim q
/-! ### the errors made -/
/-- an error without a field is let go of: the heap is as it was -/
theorem let_go {X : Cx} {pins : List (Addr × Obj)} {σ : L2.St} {H : Hp} {Q : XK} {hp hp2 h2 : Heap} {g1 g2 : Array GenState} {d1 d2 : Drawn} {t1 t2 : Nat} {os1 os2 : OsState} {a C : Addr} (T : Raises X (.ref C)) (I : Inv X pins σ H ⟨hp, g1, d1, t1, os1⟩)
    (ha : hp.objs.size ≤ a) (k : ∀ b o, hp.get? b = some o → hp2.get? b = some o) (un : Un (frs X.stack) [] (upd H a (exo a C none)) (upd H a (exo a C none)) hp2 h2) (hok : HOk X.prog X.w (upd H a (exo a C none)) h2) (ho : os2 = os1) (hb : AllBare g2)
    (q : Q (.ref C) none H) : MkP X pins σ Q (.ref a) ⟨h2, g2, d2, t2, os2⟩ := by
  obtain ⟨t0, hoe⟩ := exo_at hok upd_same
  have hn : H a = none := I.hok.fresh ha
  obtain ⟨G, in1, in2⟩ := restrict h2 fun b => decide (b ≠ a)
  have there : ∀ b, b ≠ a → G.get? b = h2.get? b := fun b nb => in1 b (decide_eq_true nb)
  have gone : G.get? a = none := in2 a (by simp)
  have old : ∀ {b : Addr} {o : Obj}, hp.get? b = some o → b ≠ a := fun {b o} z => Nat.ne_of_lt (Nat.lt_of_lt_of_le (Heap.lt_size z) ha)
  have up : ∀ {b : Addr}, b ≠ a → upd H a (exo a C none) b = H b := fun {b} nb => upd_ne nb
  have U : Un (frs X.stack) [] H H hp G := {
    keep := fun b o z n hf hx => by
      rw [there b (old z)]
      exact un.keep b o (k b o z) (by rw [up (old z)]; exact n) hf hx
    slot := fun b o z n hf hx => by
      rw [there b (old z)]
      exact un.slot b o (k b o z) (by rw [up (old z)]; exact n) hf hx
    free := fun b o z n hx => n
    there := fun b o z hx => by
      rw [there b (old z)]
      exact un.there b o (k b o z) hx
    tups := fun b xs z => z
    frzs := fun b o u z => z
    tbls := fun b ps z => ⟨#[], by rw [z]; simp⟩ }
  have hok3 : HOk X.prog X.w H G := fun b o z => by
    have nb : b ≠ a := ne_of_none z hn
    refine (hok b o (by rw [up nb]; exact z)).stay (fun c v hc y => ?_) (fun c hc => ?_) (fun c xs hc => ?_)
    · have nc : c ≠ a := by
        rcases hc with hc | hc
        · rw [hc]
          exact nb
        · exact fun e => by
            rw [e, upd_same] at hc
            exact exo_own (Option.some.inj hc)
      rw [there c nc]
      exact y
    · have nc : c ≠ a := fun e => by
        rw [e, upd_same] at hc
        exact exo_own (Option.some.inj hc)
      rw [up nc] at hc
      exact hc
    · have nc : c ≠ a := fun e => by
        rw [e, upd_same] at hc
        exact exo_tup (Option.some.inj hc)
      rw [up nc] at hc
      exact hc
  have J : Inv X pins σ H ⟨G, g2, d2, t2, os2⟩ := I.call' (ch := []) ho U hok3 hb (fun b z => absurd z (by simp))
  refine ⟨a, _, _, ⟨G, g2, d2, t2, os2⟩, H, .ref C, none, rfl, J, fun b o z => ?_, gone, hoe, ⟨rfl, rfl⟩, rfl, rfl, hn, rfl, hb, T, q⟩
  by_cases hba : b = a
  · rw [hba, gone] at z
    cases z
  · exact (there b hba).symm.trans z
section
variable {X : Cx} {CX : CXT} {x : Str} {C fI : Addr} {k : Nat} {fd : FuncData} {ps : List Str} {p pos : Pos}
/-- what an __init__ of such an error promises -/
def sp_err (C : Addr) : Sp := fun vs H Q _ => ∃ a, vs = [.ref a] ∧ H a = some (exo a C none) ∧ Q .non H
def sp_errF (C : Addr) (fld : Str) : Sp := fun vs H Q _ => ∃ a v, vs = [.ref a, v] ∧ H a = some (exo a C none) ∧ ∀ dx, H dx = none → dx ≠ a → Q .non (upd (upd H dx (exd dx [(fld, v)])) a (exo a C (some dx)))
/-- X() -/
theorem pmk_n (T : OexC X.K C) (iC : PySem.W.findIn X.K (.ref C) "__init__" = some (some (.ref fI))) (tI : PySem.W.typeIn X.K (.ref fI) = some (.type "function"))
    (F1 : FnOk X.prog X.w X.K X.mg X.base CX k fI fd ps (sp_err C)) (hr : Room (k + 1) X.A) (hb : Binds X.K fd ps []) (hx : Passes CX X (fun _ _ _ => False)) (hg : Gl X x) (hm : X.mg x = some (.ref C))
    (hdb : (x == ("__debug__" : Str)) = false := by decide) : PMk X (.Call (.Name x p) [] [] pos) (fun _ H Q => Q (.ref C) none H) := by
  intro pins s σ H Q I h
  obtain ⟨nm, q, N, bs, bm, sn, sub, ab, col, dd, k0, k1, k2, k3, k5, hC, hbm⟩ := T.cls
  refine wpAny_Call_Name_kw (ld_glob I hg hm ?_ hdb)
  refine PySem.W.callWith_K0 I.kIn T.kC ?_
  show wpAny _ _ (call (.ref C) []) _ _ _
  obtain ⟨hp, g, dr, tk, os⟩ := s
  have up1 : hp.objs.size ≤ hp.objs.size + 1 := Nat.le_succ _
  have kk : ∀ b o, hp.get? b = some o → ((hp.push (PySem.W.kdv_tup [])).push (PySem.HandSPX.excO C hp.objs.size)).get? b = some o := fun b o e => Heap.get?_push_of_some _ (Heap.get?_push_of_some _ e)
  have here : ((hp.push (PySem.W.kdv_tup [])).push (PySem.HandSPX.excO C hp.objs.size)).get? (hp.objs.size + 1) = some (PySem.HandSPX.excO C hp.objs.size) := by heap_get
  have I2 : Inv X pins σ (upd H (hp.objs.size + 1) (exo (hp.objs.size + 1) C none)) ⟨(hp.push (PySem.W.kdv_tup [])).push (PySem.HandSPX.excO C hp.objs.size), g, dr, tk, os⟩ :=
    I.laid (t' := tk) (a := hp.objs.size + 1) (o := exo (hp.objs.size + 1) C none) (h' := (hp.push (PySem.W.kdv_tup [])).push (PySem.HandSPX.excO C hp.objs.size)) kk up1 (exo_ok here)
  have want : sp_err C [V.ref (hp.objs.size + 1)] (upd H (hp.objs.size + 1) (exo (hp.objs.size + 1) C none)) (fun v H2 => v = .non ∧ H2 = upd H (hp.objs.size + 1) (exo (hp.objs.size + 1) C none)) (fun _ _ _ => False) := ⟨_, rfl, upd_same, rfl, rfl⟩
  have r2 : Vals [V.ref (hp.objs.size + 1)] [Value.ref (hp.objs.size + 1)] := .cons rfl .nil
  have hl : ([Value.ref (hp.objs.size + 1)] ++ []).length = ps.length := (F1.len _ _ _ _ want).symm ▸ rfl
  refine wpAny_call (PySem.HandSPX.call_own F.excBase_ValueError (fun Y => PySem.HandSPX.refsVE_contains Y bm hbm) (I.kIn _ _ hC) (PySem.W.looks_findIn I.kIn iC) (fun self => PySem.W.bind_fn I.kIn self tI) (Nat.zero_le _)
    (codeAny_mono (F1.run _ X.stack _ _ ⟨[Value.ref (hp.objs.size + 1)], []⟩ [Value.ref (hp.objs.size + 1)] _ _ (fun _ _ _ => False) (hr.make C [] []) (I2.env0.make C [] []) (hb _ [Value.ref (hp.objs.size + 1)] I2.kIn hl) r2 want) fun r s' hq => ?_))
  cases r with
  | error er => exact hx pins σ _ _ er s' I2 hq
  | ok fl =>
    cases fl with
    | ret u =>
      obtain ⟨v, H2, os2, bare2, un2, hok2, rv, ev, eH⟩ := hq
      subst ev eH
      obtain ⟨h2, g2, d2, t2, os'⟩ := s'
      exact ⟨rv, let_go (raises_own T.exC T.tyC) I up1 kk un2 hok2 os2 bare2 h⟩
    | next => exact False.elim hq
    | brk => exact False.elim hq
    | cont => exact False.elim hq
/-- X(e): what is left to be shown behind e (by pmk_oex) -/
theorem errF_go {fld : Str} {v : V} {H1 : Hp} {Q : XK} (h : ∀ d, H1 d = none → Q (.ref C) (some d) (upd H1 d (.xd [(fld, v)]))) : ([v] : List V).length ≤ 1000 ∧ ∀ a, H1 a = none → sp_errF C fld (V.ref a :: ([v] ++ [])) (upd H1 a (exo a C none))
    (fun v H2 => v = .non ∧ ∃ (d : Addr) (fs : List (Str × V)), H2 a = some (exo a C (some d)) ∧ H2 d = some (exd d fs) ∧ H1 d = none ∧ Q (.ref C) (some d) (upd (del H2 a) d (.xd fs))) (fun _ _ _ => False) := by
  refine ⟨by show 1 ≤ 1000; decide, fun a na => ⟨a, v, rfl, upd_same, fun dx nd ne => ⟨rfl, dx, [(fld, v)], upd_same, ?_, ?_, ?_⟩⟩⟩
  · rw [upd_ne ne, upd_same]
  · rw [upd_ne ne] at nd
    exact nd
  · rw [upd_ne ne] at nd
    have e : upd (del (upd (upd (upd H1 a (exo a C none)) dx (exd dx [(fld, v)])) a (exo a C (some dx))) a) dx (.xd [(fld, v)]) = upd H1 dx (.xd [(fld, v)]) := by
      funext b
      by_cases h1 : b = dx
      · rw [h1, upd_same, upd_same]
      · rw [upd_ne h1, upd_ne h1]
        by_cases h2 : b = a
        · rw [h2, del_same, na]
        · rw [del_ne h2, upd_ne h2, upd_ne h1, upd_ne h2]
    rw [e]
    exact h dx nd
end
/-! ### an error class, its facts -/
def NFo (qual : Str) (st : Stmt) (cc cda : Addr) : NdefX.NF := ⟨"__init__", qual, defArgs st, defBody st, defScope st, [(("__class__" : Str), cc)], cda⟩
structure ErrC (P : Program) (K : PySem.W.Frag) (mg : Str → Option Value) (nm qual : Str) (st : Stmt) (ps : List Str) (C f : Addr) (fd : FuncData) : Prop where
  g : mg nm = some (.ref C)
  all : ∃ (cc cda : Addr) (oc : Value) (od : Option Addr) (dV kV doc pm : Value) (an : Option Addr) (ctv : Value) (osl : Array (Option Value)), fd = PySem.W.fnX "__init__" qual (defArgs st) (defBody st) (defScope st) [(("__class__" : Str), cc)] dV kV doc pm an (.ref cda) ctv ∧
    K.lookup f = some ⟨oc, od, .func fd, osl⟩ ∧ PySem.W.codeIn K (.ref cda) qual = true ∧ SupC K mg P C f cc cda (NFo qual st cc cda)
  ex : OexC K C
  ic : PySem.W.findIn K (.ref C) "__init__" = some (some (.ref f))
  ti : PySem.W.typeIn K (.ref f) = some (.type "function")
  bi : Binds K fd ps []
  xc : ExcC K C
theorem err_mk {P : Program} {K : PySem.W.Frag} {mg : Str → Option Value} {nm qual : Str} {st : Stmt} {ps : List Str} {C f cc cda N : Addr} {n0 q0 : Str} {bs bm sub : List Value} {sn : List Str} {ab : Bool} {col : Option Bool} {dd : Option Addr} {k0 k1 k2 k3 k5 : Option Value}
    {cl : Value} {cld : Option Addr} {csl : Array (Option Value)} {ccl : Value} {cdd : Option Addr} {vs : Array Value} {ccs : Array (Option Value)} {file : Str} {tf : Tok} {oc : Value} {od : Option Addr} {dV kV doc pm : Value} {an : Option Addr} {ctv : Value} {osl : Array (Option Value)}
    (g : mg nm = some (.ref C)) (lc : K.lookup C = some (excClassObj n0 q0 C N bs bm true sn sub ab col dd k0 k1 k2 k3 k5 "ValueError.__new__")) (rv : PySem.HandSPX.refsVE bm = true) (sa : PySem.W.findIn K (.ref C) "__setattr__" = some (some (.builtin "object.__setattr__")))
    (ex : PySem.W.subIn K (.ref C) (.type "BaseException") = some true) (ty : PySem.W.typeIn K (.ref C) = some (.type "type")) (kp : PySem.W.keepIn K (.ref C) = true) (op : PySem.W.nsIn K cStatics "thirdparty.any" = some none)
    (su : PySem.W.ks_superIn K C C "__init__" = some (some (.builtin "ValueError.__init__"))) (sv : PySem.W.subIn K (.ref C) (.type "ValueError") = some true) (mr : PySem.W.mroIn K C (.ref C) = some true)
    (ce : K.lookup cc = some ⟨cl, cld, .cell (some (.ref C)), csl⟩) (co : K.lookup cda = some ⟨ccl, cdd, .fields vs, ccs⟩) (vf : vs[2]? = some (.str file tf)) (ff : ((P.main.file : Str) == file) = true)
    (lf : K.lookup f = some ⟨oc, od, .func (PySem.W.fnX "__init__" qual (defArgs st) (defBody st) (defScope st) [(("__class__" : Str), cc)] dV kV doc pm an (.ref cda) ctv), osl⟩) (cd : PySem.W.codeIn K (.ref cda) qual = true)
    (a : PySem.W.findIn K (.ref C) "__init__" = some (some (.ref f))) (t : PySem.W.typeIn K (.ref f) = some (.type "function")) (tp : (P.main.scope.names.lookup ("super" : Str)).isSome = false) (ns : mg "super" = none)
    (kd : (defScope st).kind = .function) (ks : (defScope st).names.lookup ("super" : Str) = some .globalImplicit) (kc : (defScope st).names.lookup ("__class__" : Str) = some .free) (ksf : (defScope st).names.lookup ("self" : Str) = some .local)
    (fst : ∃ ar : Arg, ((defArgs st).posonlyargs ++ (defArgs st).args).head? = some ar ∧ ar.arg = ("self" : Str))
    (bi : ∀ (us : List Value), us.length = ps.length → bindArgs (PySem.W.fnX "__init__" qual (defArgs st) (defBody st) (defScope st) [(("__class__" : Str), cc)] dV kV doc pm an (.ref cda) ctv) ⟨us, []⟩ = pure (ps.zip us))
    (ga : PySem.W.findIn K (.ref C) "__getattribute__" = some (some (.builtin "BaseException.__getattribute__"))) (gk : PySem.W.findIn K (.ref C) "__getattr__" = some none) (hd : PySem.W.hasDictIn K C = true) (ha : PySem.W.findIn K (.ref C) "__class__" = some (some (.builtin "object.__class__")))
    (hn : PySem.W.specialIn K (.builtin "object.__class__") "__get__" = some (some (.builtin "getset_descriptor.__get__"))) (ht : PySem.W.takesIn K (.builtin "object.__class__") = some true) (hm : PySem.W.mroIn K C (.type "object") = some true) :
    ErrC P K mg nm qual st ps C f (PySem.W.fnX "__init__" qual (defArgs st) (defBody st) (defScope st) [(("__class__" : Str), cc)] dV kV doc pm an (.ref cda) ctv) := by
  have oex : OexC K C := ⟨⟨_, _, _, _, _, _, _, _, _, _, _, _, _, _, _, lc, rv⟩, sa, ex, ty, kp⟩
  exact ⟨g, ⟨cc, cda, oc, od, dV, kV, doc, pm, an, ctv, osl, rfl, lf, cd, ⟨oex, op, su, sv, mr, ⟨_, _, _, ce⟩, ⟨_, _, _, _, _, _, co, vf, ff⟩, ⟨_, _, _, _, _, _, _, _, _, lf⟩, tp, ns, rfl, rfl, kd, ks, kc, ksf, fst⟩⟩, oex, a, t, .all bi, ⟨ga, gk, ex, hd, ha, hn, ht, hm⟩⟩
/-- isinstance(e, c) in a suite, e of a class without fields -/
def rIsG (K : PySem.W.Frag) (a : Addr) (cls : Value) (d : Option Addr) : List V → Hp → VK → Prop := fun xs H Q => ∃ D, cls = .ref D ∧ d = none ∧ ExcC K D ∧ rIsE K D a xs H Q
theorem call_isG {X : Cx} {a : Addr} {oe : Obj} {cls : Value} {d : Option Addr} {pn : List (Addr × Obj)} (hz : Zc cls d oe) (hf : ∃ vs, oe.data = .fields vs) : CallR (X.suite a ((a, oe) :: pn)) (.builtin "isinstance") (rIsG X.K a cls d) := by
  rintro pins s σ H xs us Q I r ⟨D, rfl, rfl, C, h⟩
  exact call_isE C hz hf pins s σ H xs us Q I r h
end
/-! ### things of any kind -/
structure KitC (K : PySem.W.Frag) (C : Addr) : Prop where
  cl : Cls K C
  ty : InsT K C
  i : PySem.W.kitOne K (.ref C) (.type "int") = some false
  b : PySem.W.kitOne K (.ref C) (.type "bool") = some false
  t : PySem.W.kitOne K (.ref C) (.type "tuple") = some false
  l : PySem.W.kitOne K (.ref C) (.type "list") = some false
/-- a thing that is looked at so deep; its address is not z -/
inductive Th (C z : Addr) (H : Hp) : Nat → V → Prop
  | int (n : Nat) (i : Int) : Th C z H n (.int i)
  | bl (n : Nat) (b : Bool) : Th C z H n (.bl b)
  | non (n : Nat) : Th C z H n .non
  | str (n : Nat) (x : Str) : Th C z H n (.str x)
  | lst (n : Nat) (a : Addr) (xs : List V) : a ≠ z → H a = some (.lst xs) → Th C z H n (.ref a)
  | dK (n : Nat) (a : Addr) (xs : List (Key × V)) : a ≠ z → H a = some (.dK xs) → Th C z H n (.ref a)
  | ins (n : Nat) (a dx : Addr) (fs : List (Str × V)) : a ≠ z → H a = some (.ins C dx fs) → Th C z H n (.ref a)
  | tup0 (a : Addr) (xs : List V) : a ≠ z → H a = some (.tup xs) → Th C z H 0 (.ref a)
  | tup (n : Nat) (a : Addr) (xs : List V) : a ≠ z → H a = some (.tup xs) → xs.length ≤ 1000 → (∀ x ∈ xs, Th C z H n x) → Th C z H (n + 1) (.ref a)
section
variable {C z : Addr} {H H' : Hp} {K : PySem.W.Frag}
theorem Th.keep {n : Nat} {v : V} (h : Th C z H n v) (k : ∀ a o, a ≠ z → H a = some o → H' a = some o) : Th C z H' n v := by
  induction h with
  | int n i => exact .int n i
  | bl n b => exact .bl n b
  | non n => exact .non n
  | str n x => exact .str n x
  | lst n a xs h1 h2 => exact .lst n a xs h1 (k _ _ h1 h2)
  | dK n a xs h1 h2 => exact .dK n a xs h1 (k _ _ h1 h2)
  | ins n a dx fs h1 h2 => exact .ins n a dx fs h1 (k _ _ h1 h2)
  | tup0 a xs h1 h2 => exact .tup0 a xs h1 (k _ _ h1 h2)
  | tup n a xs h1 h2 h3 _ ih => exact .tup n a xs h1 (k _ _ h1 h2) h3 ih
theorem Th.same {n : Nat} {v : V} (h : Th C z H n v) (s : Same H H') : Th C z H' n v := h.keep fun a o _ e => s a o e
theorem Th.mv {τ : Tp} {n : Nat} {v : V} (h : Th C τ.t H n v) (m : Mv τ H H') : Th C τ.t H' n v := h.keep m.keep
theorem Th.down {n : Nat} {v : V} (h : Th C z H (n + 1) v) : Th C z H n v := by
  generalize e : n + 1 = m at h
  induction h generalizing n with
  | int _ i => exact .int n i
  | bl _ b => exact .bl n b
  | non _ => exact .non n
  | str _ x => exact .str n x
  | lst _ a xs h1 h2 => exact .lst n a xs h1 h2
  | dK _ a xs h1 h2 => exact .dK n a xs h1 h2
  | ins _ a dx fs h1 h2 => exact .ins n a dx fs h1 h2
  | tup0 a xs h1 h2 => cases e
  | tup m a xs h1 h2 h3 h4 ih =>
    obtain rfl : n = m := by omega
    cases n with
    | zero => exact .tup0 a xs h1 h2
    | succ n => exact .tup n a xs h1 h2 h3 fun x hx => ih x hx rfl
theorem Th.intK (kc : KitC K C) {n : Nat} {v : V} (h : Th C z H n v) : IntK K H v := by
  cases h with
  | int _ i => exact .int i
  | bl _ b => exact .bl b
  | non _ => exact .non
  | str _ x => exact .str x
  | lst _ a xs h1 h2 => exact .lst h2
  | dK _ a xs h1 h2 => exact .dK h2
  | ins _ a dx fs h1 h2 => exact ⟨_, false, false, .base (.ins h2 kc.cl kc.ty.ha kc.ty.hn kc.ty.htk kc.ty.hm), kc.i, kc.b, rfl⟩
  | tup0 a xs h1 h2 => exact .tup h2
  | tup m a xs h1 h2 h3 h4 => exact .tup h2
theorem Th.ty (kc : KitC K C) {n : Nat} {v : V} (h : Th C z H (n + 1) v) : ∃ (t : Value) (bt : Bool), TyX K H v t ∧ PySem.W.kitOne K t (.type "tuple") = some bt ∧
    ((bt = false ∧ ∀ a xs, v = .ref a → H a ≠ some (.tup xs)) ∨ ∃ a xs, v = .ref a ∧ H a = some (.tup xs) ∧ bt = true ∧ xs.length ≤ 1000 ∧ ∀ x ∈ xs, Th C z H n x) := by
  cases h with
  | int _ i => exact ⟨_, false, .base (.int i), kit_ty (by decide +kernel), .inl ⟨rfl, fun a xs e => by cases e⟩⟩
  | bl _ b => exact ⟨_, false, .base (.bl b), kit_ty (by decide +kernel), .inl ⟨rfl, fun a xs e => by cases e⟩⟩
  | non _ => exact ⟨_, false, .base .non, kit_ty (by decide +kernel), .inl ⟨rfl, fun a xs e => by cases e⟩⟩
  | str _ x => exact ⟨_, false, .base (.str x), kit_ty (by decide +kernel), .inl ⟨rfl, fun a xs e => by cases e⟩⟩
  | lst _ a xs h1 h2 => exact ⟨_, false, .base (.lst h2), kit_ty (by decide +kernel), .inl ⟨rfl, fun a xs e => by cases e; rw [h2]; intro z; cases z⟩⟩
  | dK _ a xs h1 h2 => exact ⟨_, false, .base (.dK h2), kit_ty (by decide +kernel), .inl ⟨rfl, fun a xs e => by cases e; rw [h2]; intro z; cases z⟩⟩
  | ins _ a dx fs h1 h2 => exact ⟨_, false, .base (.ins h2 kc.cl kc.ty.ha kc.ty.hn kc.ty.htk kc.ty.hm), kc.t, .inl ⟨rfl, fun a xs e => by cases e; rw [h2]; intro z; cases z⟩⟩
  | tup m a xs h1 h2 h3 h4 => exact ⟨_, true, .base (.tup h2), kit_ty (by decide +kernel), .inr ⟨a, xs, rfl, h2, rfl, h3, h4⟩⟩
end
/-! ### list.count(a flag), a call of an item of a list of defs -/
section
open PySem.Spec PyProof.Rows
variable {X : Cx}
def rCntB (K : PySem.W.Frag) : V → List V → Hp → VK → Prop := fun x xs H Q => ∃ (p : Addr) (bs : List Bool) (b : Bool), x = .ref p ∧ xs = [.bl b] ∧ SqL K H p (bs.map V.bl) ∧ bs.length ≤ 1000 ∧ Q (.int (bs.count b : Nat)) H
theorem dp_bools {K : PySem.W.Frag} {H : Hp} : ∀ bs : List Bool, DpAll K H (bs.map V.bl) (bs.map PyData.bool)
  | [] => .nil
  | b :: r => .cons (.bl b) (dp_bools r)
theorem mt_cntB (hu : X.A.units + 64 < cLine) : MtR X "list.count" (rCntB X.K) := by
  intro pins s σ H x xs v us Q I rx rxs h
  obtain ⟨p, bs, b, rfl, rfl, hs, hl, q⟩ := h
  cases rx
  obtain ⟨u, rfl, ru⟩ := rxs.one
  obtain ⟨its, rv, hl, hz⟩ := I.list hs
  obtain ⟨as, ra⟩ := Dp.readsAll I (bs.map PyData.bool) _ its (dp_bools bs) rv
  obtain ⟨cs, rb⟩ := Dp.reads I (.bool b) (.bl b) u (.bl b) ru
  refine PySem.W.count_list_datum (xs := bs) (x := b) hl.isList ⟨as, ra⟩ ⟨cs, rb⟩ (by show X.A.units + 1 + 0 < cLine; omega) ⟨.int (bs.count b : Nat), H, I.tok _, ⟨s.toks, ?_⟩, q⟩
  have e : (bs.countP fun y => decide (y = b)) = bs.count b := by
    unfold List.count
    congr 1
  rw [e]
theorem pe_bmK {K : PySem.W.Frag} {o e : Expr} {es : List Expr} {to : TE} {t : TA} {name : Str} {apos cpos : Pos} {T id : String} {r : V → List V → Hp → VK → Prop} (hK : X.K = K) (pa : PlainAttrs T) (slot : Slot T name id) (hty : typeOf (.builtin id) = pure (.type "method_descriptor")) (hm : MtR X id r) (ho : PE X o to) (ha : PA X (e :: es) t)
    (hbase : attributeBase o name X.env (eval o X.env) = eval o X.env := by rfl)
    (hfew : ((backTo cpos (starEach (e :: es) X.env)).all (fun x => !x.1) && (backToKw cpos (keywordEach [] X.env)).all (fun x => x.1.isSome)
      && decide ((e :: es).length + ([] : List Keyword).length + (if ([] : List Keyword).isEmpty then 0 else 1) < 30)) = true := by rfl)
    (hline : (apos.endLine == cpos.line) = true := by rfl) (hs : starEach (e :: es) X.env = (false, eval e X.env) :: starEach es X.env := by rfl) (hplain : (backTo cpos (starEach es X.env)).any (·.1) = false := by rfl) :
    PE X (.Call (.Attribute o name apos) (e :: es) [] cpos) (tBM K T r to t) := by
  subst hK
  exact pe_bm pa slot hty hm ho ha hbase hfew hline hs hplain
def tCallE (S : Addr → Sp → Prop) (E : L2.St → XK) (tf : TE) (t : TA) : TE := fun σ H Q => tf σ H fun y H1 => ∃ f sp, y = .ref f ∧ S f sp ∧ t σ H1 fun vs H2 => sp vs H2 Q (E σ)
theorem pe_callE {CX : CXT} {S : Addr → Sp → Prop} {E : L2.St → XK} {tf : TE} {t : TA} {fe e : Expr} {es : List Expr} {pos : Pos}
    (A : ∀ f sp, S f sp → ∃ (k : Nat) (fd : FuncData) (ps : List Str), FnOk X.prog X.w X.K X.mg X.base CX k f fd ps sp ∧ Room k X.A ∧ PySem.W.keepIn X.K (.ref f) = true ∧ Binds X.K fd ps []) (hx : ∀ σ, PassesAt CX X σ (E σ)) (hf : PE X fe tf) (ha : PA X (e :: es) t)
    (ht : eval (.Call fe (e :: es) [] pos) X.env = (do callWith pos (← eval fe X.env) [] (backTo pos (starEach (e :: es) X.env)) (backToKw pos (keywordEach [] X.env))) := by rfl)
    (he : starEach (e :: es) X.env = (false, eval e X.env) :: starEach es X.env := by rfl) (hpl : (backTo pos (starEach es X.env)).any (·.1) = false := by rfl) : PE X (.Call fe (e :: es) [] pos) (tCallE S E tf t) := by
  refine ⟨fun pins s σ H Q I h => ?_⟩
  refine Call_ (thn (hf.run pins s σ H _ I h) fun u s1 ⟨y, H1, I1, ry, f, sp, ey, hS, q⟩ => ?_) ht
  subst ey
  obtain rfl : u = Value.ref f := ry
  obtain ⟨k, fd, ps, F, hr, hk, hb⟩ := A f sp hS
  refine PySem.W.callWith_K (h₀ := X.base) I1.ok.mod.kin hk (thn (ha.run pos pins s1 σ H1 _ I1 q) fun us s2 ⟨vs, H2, I2, r, q2⟩ => ⟨I2.kIn, ?_⟩) he hpl
  exact run_fnS F hr hb (hx σ) I2 r q2
end
/-! ### the flow of drawn numbers: a list that is eaten, three numbers -/
structure Fw where
  t : Addr
  l : Addr
structure Flow (φ : Fw) (H : Hp) : Prop where
  ne : φ.l ≠ φ.t
  list : ∃ ns : List Int, H φ.l = some (.lst (ns.map V.int)) ∧ ns.length ≤ 63
  here : ∃ a b c : Int, H φ.t = some (.lst [.ref φ.l, .int a, .int b, .int c]) ∧ 0 ≤ a
/-- no part of the flow -/
structure Off (φ : Fw) (a : Addr) : Prop where
  t : a ≠ φ.t
  l : a ≠ φ.l
structure Fv (φ : Fw) (H0 H : Hp) : Prop where
  was : Flow φ H0
  keep : ∀ a o, Off φ a → H0 a = some o → H a = some o
  now : Flow φ H
section
variable {φ : Fw} {H0 H H1 H2 : Hp} {p a : Addr} {o : HO}
theorem Flow.fv (h : Flow φ H) : Fv φ H H := ⟨h, fun _ _ _ e => e, h⟩
theorem Fv.trans (m : Fv φ H0 H1) (k : Fv φ H1 H2) : Fv φ H0 H2 := ⟨m.was, fun a o n e => k.keep a o n (m.keep a o n e), k.now⟩
theorem Flow.off (h : Flow φ H) (n : H p = none) : Off φ p := by
  obtain ⟨_, ⟨ns, h1, _⟩, a, b, c, h2, _⟩ := h
  exact ⟨fun e => (by rw [e, h2] at n; cases n), fun e => by rw [e, h1] at n; cases n⟩
theorem Flow.offT {xs : List V} (h : Flow φ H) (n : H p = some (.tup xs)) : Off φ p := by
  obtain ⟨_, ⟨ns, h1, _⟩, a, b, c, h2, _⟩ := h
  exact ⟨fun e => (by rw [e, h2] at n; cases n), fun e => by rw [e, h1] at n; cases n⟩
theorem Flow.offI {C dx : Addr} {fs : List (Str × V)} (h : Flow φ H) (n : H p = some (.ins C dx fs)) : Off φ p := by
  obtain ⟨_, ⟨ns, h1, _⟩, a, b, c, h2, _⟩ := h
  exact ⟨fun e => (by rw [e, h2] at n; cases n), fun e => by rw [e, h1] at n; cases n⟩
theorem Flow.same (h : Flow φ H) (s : Same H H1) : Flow φ H1 := by
  obtain ⟨h0, ⟨ns, h1, h2⟩, a, b, c, h3, h4⟩ := h
  exact ⟨h0, ⟨ns, s _ _ h1, h2⟩, a, b, c, s _ _ h3, h4⟩
theorem Flow.mut (h : Flow φ H) (n : Off φ p) : Flow φ (upd H p o) := by
  obtain ⟨h0, ⟨ns, h1, h2⟩, a, b, c, h3, h4⟩ := h
  exact ⟨h0, ⟨ns, upd_at n.l.symm h1, h2⟩, a, b, c, upd_at n.t.symm h3, h4⟩
/-- a change elsewhere -/
theorem Flow.but {b : Addr} (h : Flow φ H) (n : Off φ b) (k : ∀ a o, a ≠ b → H a = some o → H1 a = some o) : Flow φ H1 := by
  obtain ⟨h0, ⟨ns, h1, h2⟩, x, y, z, h3, h4⟩ := h
  exact ⟨h0, ⟨ns, k _ _ n.l.symm h1, h2⟩, x, y, z, k _ _ n.t.symm h3, h4⟩
theorem Fv.same (m : Fv φ H0 H) (s : Same H H1) : Fv φ H0 H1 := ⟨m.was, fun a o e z => s a o (m.keep a o e z), m.now.same s⟩
theorem Fv.new (m : Fv φ H0 H) (n : H p = none) : Fv φ H0 (upd H p o) := m.same (Same.new (Same.refl H) n)
theorem Fv.mut (m : Fv φ H0 H) (n : H0 p = none) : Fv φ H0 (upd H p o) := ⟨m.was, fun a u e z => upd_at (ne_of_none z n) (m.keep a u e z), m.now.mut (m.was.off n)⟩
theorem Fv.free (m : Fv φ H0 H) (n : H p = none) : H0 p = none := by
  cases e : H0 p with
  | none => rfl
  | some o =>
    rw [m.keep p o (m.now.off n) e] at n
    cases n
theorem Fv.atT {xs : List V} (m : Fv φ H0 H) (h : H0 a = some (.tup xs)) : H a = some (.tup xs) := m.keep a _ (m.was.offT h) h
theorem Fv.atI {C dx : Addr} {fs : List (Str × V)} (m : Fv φ H0 H) (h : H0 a = some (.ins C dx fs)) : H a = some (.ins C dx fs) := m.keep a _ (m.was.offI h) h
theorem Fv.tk (m : Fv φ H0 H) : TK H0 H := fun _ _ h => m.atT h
theorem Fv.put (m : Fv φ H0 H) {xs : List V} {i c s : Int} (e : xs = [.ref φ.l, .int i, .int c, .int s]) (h : 0 ≤ i) : Fv φ H0 (upd H φ.t (.lst xs)) := by
  subst e
  obtain ⟨h0, ⟨ns, h1, h2⟩, x, y, z, h3, h4⟩ := m.now
  exact ⟨m.was, fun a o k z => upd_at k.t (m.keep a o k z), h0, ⟨ns, upd_at h0 h1, h2⟩, i, c, s, upd_same, h⟩
theorem Fv.eat (m : Fv φ H0 H) {ns : List Int} (h : ns.length ≤ 63) : Fv φ H0 (upd H φ.l (.lst (ns.map V.int))) := by
  obtain ⟨h0, _, x, y, z, h3, h4⟩ := m.now
  exact ⟨m.was, fun a o k z => upd_at k.l (m.keep a o k z), h0, ⟨ns, upd_same, h⟩, x, y, z, upd_at h0.symm h3, h4⟩
end
theorem lc_rangeW {lo : Int} {n : Nat} {g : TG} {tt : TT} {te : TE} {vs : List Nat} {σ : St} {H1 : Hp} {D : Addr} {Qd : Hp → Prop} : True := trivial
/-! ### o.m(e, ..) whose exceptions are seen in the suite around it -/
section
open PySem.Spec PyProof.Rows
variable {X : Cx} {CX : CXT} {k : Nat} {f C : Addr} {fd : FuncData} {ps : List Str} {sp : Sp} {E : L2.St → XK} {m : Str} {pos apos : Pos} {e o : Expr} {es : List Expr} {ta : TE} {t : TA}
def tMethS (C : Addr) (m : Str) (sp : Sp) (E : L2.St → XK) (ta : TE) (t : TA) : TE := fun σ H Q => ta σ H fun x H1 => ∃ a dx fs, x = .ref a ∧ H1 a = some (.ins C dx fs) ∧ fs.lookup m = none ∧ t σ H1 fun vs H2 => sp (x :: vs) H2 Q (E σ)
theorem pe_methX {pl : Sem Bool} (he : PE X o ta) (c : Cls X.K C) (hm : Meth X.K C m f) (F : FnOk X.prog X.w X.K X.mg X.base CX k f fd ps sp) (hr : Room k X.A) (hb : Binds X.K fd ps []) (hx : ∀ σ, PassesAt CX X σ (E σ)) (ha : PA X (e :: es) t)
    (hst : starEach (e :: es) X.env = (false, eval e X.env) :: starEach es X.env := by rfl) (hpl : (backTo pos (starEach es X.env)).any (·.1) = false := by rfl)
    (ht : eval (.Call (.Attribute o m apos) (e :: es) [] pos) X.env = (do
      let ov ← eval o X.env
      standAt apos.atName
      let (f, first) ← holding [ov] (getMethod ov m pl)
      callWith pos f first (backTo pos (starEach (e :: es) X.env)) (backToKw pos (keywordEach [] X.env))) := by rfl) :
    PE X (.Call (.Attribute o m apos) (e :: es) [] pos) (tMethS C m sp E ta t) :=
  ⟨fun pins s σ H Q I h => PySem.W.methodCall_KW (pl := pl) (thn (he.run pins s σ H _ I h) fun u s1 ⟨x, H1, I1, rx, a, dx, fs, ex, ea, l, q⟩ => by
    subst ex
    obtain rfl : u = Value.ref a := rx
    refine getmeth_ok I1 ea c hm l (PySem.W.callWith_K (first := [.ref a]) (h₀ := X.base) I.ok.mod.kin hm.kp (thn (ha.run pos pins s1 σ H1 _ I1 q) fun us s2 ⟨vs, H2, I2, r, q2⟩ => ⟨I2.kIn, ?_⟩) hst hpl)
    exact run_fnS (us := .ref a :: us) (vs := .ref a :: vs) F hr hb (hx σ) I2 (.cons rfl r) q2) ht⟩
end
/-! ### defs that show things: where they are called, no showing is under way -/
section
open PySem.Spec PyProof.Rows
/-- what a def promises where no guard is under way -/
structure FnG (P : Program) (w : World) (K : PySem.W.Frag) (mg : Str → Option Value) (base : Heap) (CX : CXT) (k : Nat) (f : Addr) (fd : FuncData) (ps : List Str) (sp : Sp) : Prop where
  len : ∀ vs H Q E, sp vs H Q E → vs.length = ps.length
  run : ∀ (A : Around) (outer : List Env) (s : Shared) (H : Hp) (args : Args) (us : List Value) (vs : List V) (Q : VK) (E : XK), A.guards = some [] → Room k A → Env0 P w K mg base A outer s H → BindsTo s fd args (ps.zip us) → Vals vs us → sp vs H Q E →
    codeAny (model P w) A (.call (.ref f) args) (CR CX outer P w H s Q E) s
section
variable {P : Program} {w : World} {K : PySem.W.Frag} {mg mb : Str → Option Value} {base : Heap} {CX : CXT} {k : Nat}
theorem _root_.L2.Fun.okG {x qual : Str} {st : Stmt} {f : Addr} {fd : FuncData} {N ps : List Str} {sp : Sp} (F : Fun K x qual st f fd) (S : FnScope N ps (defScope st)) (len : ∀ vs H Q E, sp vs H Q E → vs.length = ps.length)
    (hbody : ∀ (cdv : Value) (A : Around) (outer : List Env) (s : Shared) (H : Hp) (vs : List V) (Q : VK) (E : XK), A.guards = some [] → Room k (A.deeper (envOfC qual (defScope st) s.heap.objs.size f cdv)) → sp vs H Q E →
      ∃ t, PSs (cxOf CX0 P w K mg base N qual (defScope st) f cdv A outer s H E).nox (defBody st) t ∧ t { nx := fun _ H' => Q .non H', rt := Q } (start N vs) H) : FnG P w K mg base CX0 (k + 1) f fd ps sp := by
  obtain ⟨oc, od, kV, doc, pm, an, cdv, ct, osl, rfl, lk, hcd⟩ := F.ex
  constructor
  · exact len
  intro A outer s H args us vs Q E hG hr e0 hb r hsp
  have KX : K.In s.heap := e0.mod.kin.keeps fun b o e => (e0.bs b o e).1
  refine codeAny_call_function hr.depth (KX _ _ lk) rfl S.co S.gen rfl (PySem.W.codeRec_of KX hcd) (hb _ _ _ _ (wpAny_newFunctionEnv_cells S.kind (fun y hy => ?_) fun env he s1 x => ?_))
  · obtain ⟨y1, y2⟩ := y
    rcases S.par y1 (List.of_mem_zip hy).1 with q | q
    · exact .inl q
    · exact .inr ⟨q, PySem.W.cellsFrom_some _ _ _ (.inl q)⟩
  · subst he
    obtain ⟨t, ht, hq⟩ := hbody cdv A outer s H vs Q E hG (hr.deeper _) hsp
    have lim : s.heap.NoLimit := e0.mod.nolimit.keeps fun b o e => (e0.bs b o e).1
    refine ⟨lim.keeps x.toInCall.keep, codeAny_func ?_⟩
    have I : Inv (cxOf CX0 P w K mg base N qual (defScope st) f cdv A outer s H E) [] (start N vs) H s1 := inv_start S hr.hd e0 (len _ _ _ _ hsp) r x
    refine wpAny_mono (ht.nox.run [] s1 (start N vs) H _ I hq) (fun fl s' hs => ?_) fun e s' hs => hs
    cases fl with
    | ret u =>
      obtain ⟨v, σ', H', J, rv, q⟩ := hs
      exact ⟨v, H', J.os, J.bare, J.base, J.hok, rv, q⟩
    | next =>
      obtain ⟨σ', H', J, q⟩ := hs
      exact ⟨V.non, H', J.os, J.bare, J.base, J.hok, rfl, q⟩
    | brk =>
      obtain ⟨_, _, _, q⟩ := hs
      exact q.elim
    | cont =>
      obtain ⟨_, _, _, q⟩ := hs
      exact q.elim
end
section
variable {X : Cx} {CX : CXT} {k : Nat} {f : Addr} {fd : FuncData} {ps : List Str} {sp : Sp} {dvs : List V} {ds : List Value} {E : XK} {x : Str} {p pos : Pos} {e : Expr} {es : List Expr} {t : TA}
theorem run_fnG {pins : List (Addr × Obj)} {σ : L2.St} {H : Hp} {s : Shared} {Q : VK} {us : List Value} {vs : List V} (F : FnG X.prog X.w X.K X.mg X.base CX k f fd ps sp) (hG : X.A.guards = some []) (hr : Room k X.A) (hb : Binds X.K fd ps ds) (hd : Vals dvs ds) (hx : Passes CX X E)
    (I : Inv X pins σ H s) (r : Vals vs us) (h : sp (vs ++ dvs) H Q E) : wpAny (model X.prog X.w) X.A (call (.ref f) us) (EP X pins σ Q) X.xe s := by
  have r2 : Vals (vs ++ dvs) (us ++ ds) := r.append hd
  have hl : (us ++ ds).length = ps.length := r2.length ▸ F.len _ _ _ _ h
  have c := F.run X.A X.stack s H ⟨us, []⟩ (us ++ ds) (vs ++ dvs) Q E hG hr I.env0 (hb s us I.kIn hl) r2 h
  refine wpAny_call (codeAny_mono c fun r s' hq => ?_)
  match r, hq with
  | .error e, hq => exact hx pins σ H s e s' I hq
  | .ok (.ret u), hq => exact I.after hq
/-- f(e, ..) of such a def -/
theorem pe_callG (F : FnG X.prog X.w X.K X.mg X.base CX k f fd ps sp) (hG : X.A.guards = some []) (hr : Room k X.A) (hg : Gl X x) (hm : X.mg x = some (.ref f)) (hk : PySem.W.keepIn X.K (.ref f) = true) (hb : Binds X.K fd ps ds) (hd : Vals dvs ds) (hx : Passes CX X E)
    (ha : PA X (e :: es) t) (hdb : (x == ("__debug__" : Str)) = false := by decide) (he : starEach (e :: es) X.env = (false, eval e X.env) :: starEach es X.env := by rfl) (hpl : (backTo pos (starEach es X.env)).any (·.1) = false := by rfl) :
    PE X (.Call (.Name x p) (e :: es) [] pos) (tCall sp dvs E t) :=
  ⟨fun pins s σ H Q I h => wpAny_Call_Name_kw (ld_glob I hg hm (PySem.W.callWith_K (h₀ := X.base) I.ok.mod.kin hk (thn (ha.run pos pins s σ H _ I h) fun us s1 ⟨vs, H1, I1, r, q⟩ => ⟨I1.kIn, run_fnG F hG hr hb hd hx I1 r q⟩) he hpl) hdb)⟩
/-- a thing whose text is told -/
structure ShowD (d : PyData) : Prop where
  can : d.showable = true
  nod : d.hasDict = false
  deep : d.depth ≤ 40
  short : d.shown.length ≤ sizeLine
def rRepr (K : PySem.W.Frag) : List V → Hp → VK → Prop := fun xs H Q => ∃ (v : V) (d : PyData), xs = [v] ∧ Dp K H v d ∧ ShowD d ∧ Q (.str d.shown) H
/-- repr(e) -/
theorem call_reprG (hG : X.A.guards = some []) (hu : X.A.units + 64 < cLine) : CallR X (.builtin "repr") (rRepr X.K) := by
  intro pins s σ H xs us Q I r h
  obtain ⟨v, d, rfl, hd, sh, q⟩ := h
  cases r with
  | cons r1 r2 =>
    cases r2
    rename_i u
    obtain ⟨as, rd⟩ := Dp.reads I d v u hd r1
    cases hd with
    | non =>
      cases rd
      exact PySem.P.repr_of_none ⟨.str _, H, I.tok _, ⟨_, rfl⟩, q⟩
    | bl b =>
      cases rd
      refine PySem.P.repr_of_bool ⟨.str _, H, I.tok _, ⟨_, rfl⟩, ?_⟩
      cases b <;> exact q
    | int i =>
      cases rd
      exact PySem.P.repr_of_int (of_decide_eq_true sh.can) ⟨.str _, H, I.tok _, ⟨_, rfl⟩, q⟩
    | str x =>
      cases rd
      exact PySem.P.repr_of_str ⟨.str _, H, I.tok _, ⟨_, rfl⟩, q⟩ sh.short
    | lst h1 h2 =>
      cases r1
      exact PySem.repr_of_reads' rd sh.can (fun h' => by rw [sh.nod] at h'; cases h') hG (by have := sh.deep; omega) (fun _ _ e => e) (fun h' u tk hk => ⟨.str _, H, I.kept hk, ⟨_, rfl⟩, q⟩) sh.short
    | tup h1 h2 =>
      cases r1
      exact PySem.repr_of_reads' rd sh.can (fun h' => by rw [sh.nod] at h'; cases h') hG (by have := sh.deep; omega) (fun _ _ e => e) (fun h' u tk hk => ⟨.str _, H, I.kept hk, ⟨_, rfl⟩, q⟩) sh.short
end
section
variable {P : Program} {w : World} {K : PySem.W.Frag} {mg mb : Str → Option Value} {CX : CXT} {k : Nat}
/-- the law's own call: at the outermost place nothing is under way -/
theorem law_callG {fa a : Addr} {fd : FuncData} {x : Str} {sp : Sp} {s₁ : Shared} {vs : List Value} {ns : List Int}
    (KX : K.In s₁.heap) (hns : s₁.heap.Ns mainGlobals mg) (hb : s₁.heap.Ns builtinsNs mb) (hbb : ∀ x : Str, x ≠ "__name__" → mb x = bootBuiltins x) (hlim : s₁.heap.NoLimit) (hg : s₁.gens = #[])
    (ha : s₁.heap.get? a = some { cls := .type "list", data := .seq vs.toArray }) (hi : IntsAre vs ns) (hl : ns.length ≤ sizeLine) (hr : Room k callerA)
    (F : ∀ base : Heap, K.In base → base.Ns mainGlobals mg → FnG P w K mg base CX k fa fd [x] sp) (hbind : ∀ (s : Shared) (u : Value), BindsTo s fd ⟨[u], []⟩ [(x, u)])
    (hsp : ∀ H : Hp, Only H → SqL K H a (ns.map V.int) → sp [.ref a] H (fun v _ => v = .bl true) fun _ _ _ => False)
    (hCX : ∀ H e s', CX [] H s₁ (fun _ _ _ => False) e s' → False) :
    codeAny (model P w) callerA (.call (.ref fa) ⟨[.ref a], []⟩) (fun r s' => r = .ok (.ret (.bool true)) ∧ OldK s₁.heap s'.heap ∧ s'.os = s₁.os ∧ AllBare s'.gens) s₁ := by
  have rv := vals_ints hi
  let o₀ : Obj := { cls := .type "list", data := .seq vs.toArray }
  -- which of the two ways the script stands in the law's view
  obtain ⟨H, hO, hS, hok, hA, hK⟩ : ∃ H : Hp, Only H ∧ SqL K H a (ns.map V.int) ∧ HOk P w H s₁.heap ∧ (∀ b, H b ≠ none → b = a) ∧ (H a ≠ none → K.lookup a = none) := by
    by_cases hk : K.lookup a = none
    · refine ⟨fun b => if b = a then some (.frz o₀ (.lst (ns.map V.int))) else none, fun b => ?_, .inl (.inr ⟨o₀, if_pos rfl⟩), fun b u z => ?_, fun b z => ?_, fun _ => hk⟩
      · by_cases hb : b = a
        · exact .inr ⟨_, _, if_pos hb⟩
        · exact .inl (if_neg hb)
      · by_cases hb : b = a
        · have z' := (if_pos hb).symm.trans z
          cases z'
          subst hb
          exact ⟨ha, by rw [List.length_map]; exact hl, vs, _, rv, ha⟩
        · have z' := (if_neg hb).symm.trans z
          cases z'
      · by_cases hb : b = a
        · exact hb
        · exact absurd (if_neg hb) z
    · obtain ⟨o, ho⟩ := Option.ne_none_iff_exists'.mp hk
      have e := KX a o ho
      rw [ha] at e
      cases e
      exact ⟨fun _ => none, fun _ => .inl rfl, .inr ⟨_, vs.toArray, _, ho, rfl, rfl, rfl, by rw [List.size_toArray, hi.length]; exact hl, by simpa using rv⟩, fun b u z => (by have z' : (none : Option HO) = some u := z; cases z'), fun b z => absurd rfl z, fun z => absurd rfl z⟩
  have only : ∀ {b : Addr} {o : Obj}, s₁.heap.get? b = some o → (b = a → False) → (hidT s₁.heap H).get? b = some o := fun {b o} e n => hidT_get e (Classical.byContradiction fun q => n (hA b q))
  have nsK : ∀ {b : Addr} {m : Str → Option Value}, s₁.heap.Ns b m → (hidT s₁.heap H).Ns b m := fun {b m} ⟨o, es, ep, e, d, r⟩ => ⟨o, es, ep, only e (fun z => by
    subst z
    rw [ha] at e
    cases e
    have d' : Data.seq vs.toArray _ = Data.dict es ep := d
    cases d'), d, r⟩
  have hKb : K.In (hidT s₁.heap H) := fun b o e => by
    cases q : H b with
    | none => exact hidT_get (KX b o e) q
    | some u =>
      have z := hA b (by rw [q]; simp)
      subst z
      rw [hK (by rw [q]; simp)] at e
      cases e
  have e0 : Env0 P w K mg (hidT s₁.heap H) callerA [] s₁ H :=
    ⟨rfl, ⟨hKb, nsK hns, ⟨mb, nsK hb, hbb⟩, let ⟨mc, h1, h2⟩ := hlim; ⟨mc, nsK h1, h2⟩⟩, fun b o e => of_hidT e, Nat.le_of_eq (hidT_size _ _), trivial, fun b hb => absurd (show b ∈ ([] : List Addr) from hb) (by simp), hok, .of_eq hg⟩
  refine codeAny_mono ((F _ hKb (nsK hns)).run callerA [] s₁ H ⟨[.ref a], []⟩ [.ref a] [.ref a] _ _ rfl hr e0 (hbind s₁ (.ref a)) (.cons rfl .nil) (hsp H hO hS)) fun r s' h => ?_
  match r, h with
  | .error e, h => exact (hCX H e s' h).elim
  | .ok (.ret u), h =>
    obtain ⟨v, H', os, bare, un, hok', r', q⟩ := h
    have q' : v = .bl true := q
    subst q'
    obtain rfl : u = Value.bool true := r'
    refine ⟨rfl, OldK.of_keep fun b o e => ?_, os, bare⟩
    cases q : H b with
    | none => exact un.keep b o e q (by intro z; exact absurd (show b ∈ ([] : List Addr) from z) (by simp)) (by simp)
    | some u =>
      rcases hO b with z | ⟨ob, xs, z⟩
      · rw [q] at z; cases z
      · obtain ⟨e1, _⟩ := hok b _ z
        obtain ⟨e2, _⟩ := hok' b _ (un.frzs b ob _ z)
        rw [e] at e1
        cases e1
        exact e2
end
theorem walk_ofG {l : PySem.W.OpenLaw} {n k : Nat} {q : Program} {loose : List Str} {XP : (Str → Option Value) → Heap → Prop} {YP : World → Heap → Prop} {d : DefRec} {K : Params → PySem.W.Frag} {CX : World → CXT} {sp : World → Sp} {x : Str}
    (hn : l.most = some n) (hn2 : n ≤ sizeLine) (hdf : d.params.defaults = []) (hr : Room k callerA)
    (hY : ∀ (w : World) (h : Heap), YP w h → (K w.params).In h)
    (F : ∀ (w : World) (mg : Str → Option Value) (fa : Addr) (h : Heap), (K w.params).In h → h.Ns mainGlobals mg → mg d.name = some (.ref fa) →
      ∃ fd : FuncData, (∀ (s : Shared) (u : Value), BindsTo s fd ⟨[u], []⟩ [(x, u)]) ∧
        ∀ base : Heap, (K w.params).In base → base.Ns mainGlobals mg → FnG l.prog w (K w.params) mg base (CX w) k fa fd [x] (sp w))
    (hsp : ∀ (w : World) (H : Hp) (a : Addr) (ns : List Int), ns.length ≤ n → Only H → SqL (K w.params) H a (ns.map V.int) → sp w [.ref a] H (fun v _ => v = .bl true) fun _ _ _ => False)
    (hCX : ∀ (w : World) (H : Hp) (s : Shared) (e : Value) (s' : Shared), CX w [] H s (fun _ _ _ => False) e s' → False) :
    PySem.W.WalkO q loose XP YP l.row.toRowW d [] (fun f vs => PySem.call f vs) :=
  Att.attach_call hn hdf fun w s₀ s₁ mg mb fa o pm cd doc a vs ns G Y ho hd hcd hmg hobj hints hlen hg => by
    obtain ⟨fd, hb, hF⟩ := F w mg fa _ (hY w _ Y) G.T.g hmg
    exact law_callG (hY w _ Y) G.T.g G.T.b G.T.builtins G.T.nolimit hg hobj hints (Nat.le_trans hlen hn2) hr hF hb (fun H hO hS => hsp w H a ns hlen hO hS) fun H e s' => hCX w H s₁ e s'
end
structure Top (P : Program) (K : PySem.W.Frag) (mg : Str → Option Value) where
  C_KindError : Addr
  g_KindError : mg "KindError" = some (.ref C_KindError)
  C_NoKind : Addr
  f_NoKind___init__ : Addr
  fd_NoKind___init__ : FuncData
  er_NoKind : ErrC P K mg "NoKind" "NoKind.__init__" s_NoKind___init__ ["self"] C_NoKind f_NoKind___init__ fd_NoKind___init__
  xm_NoKind_NoKind : PySem.W.exmOne K (.ref C_NoKind) (.ref C_NoKind) = some true
  kt_NoKind_KindError : PySem.W.kitOne K (.ref C_NoKind) (.ref C_KindError) = some true
  C_Book : Addr
  g_Book : mg "Book" = some (.ref C_Book)
  cl_Book : Cls K C_Book
  ty_Book : InsT K C_Book
  n_Book_parents : NoAttr K C_Book "parents"
  n_Book_bits : NoAttr K C_Book "bits"
  C_Groups : Addr
  g_Groups : mg "Groups" = some (.ref C_Groups)
  cl_Groups : Cls K C_Groups
  ty_Groups : InsT K C_Groups
  n_Groups_lots : NoAttr K C_Groups "lots"
  n_Groups_held : NoAttr K C_Groups "held"
  C_Runtime : Addr
  g_Runtime : mg "Runtime" = some (.ref C_Runtime)
  cl_Runtime : Cls K C_Runtime
  ty_Runtime : InsT K C_Runtime
  n_Runtime_steps : NoAttr K C_Runtime "steps"
  kt_Book_int : PySem.W.kitOne K (.ref C_Book) (.type "int") = some false
  kt_Book_bool : PySem.W.kitOne K (.ref C_Book) (.type "bool") = some false
  kt_Book_tuple : PySem.W.kitOne K (.ref C_Book) (.type "tuple") = some false
  kt_Book_list : PySem.W.kitOne K (.ref C_Book) (.type "list") = some false
  c_MOST_KINDS : ∃ t, mg "MOST_KINDS" = some (.int 400 t)
  c_MOST_PARENTS : ∃ t, mg "MOST_PARENTS" = some (.int 6 t)
  f_is_integer : Addr
  fd_is_integer : FuncData
  F_is_integer : Fun K "is_integer" "is_integer" s_is_integer f_is_integer fd_is_integer
  b_is_integer : Binds K fd_is_integer ["thing"] []
  g_is_integer : mg "is_integer" = some (.ref f_is_integer)
  f_is_within : Addr
  fd_is_within : FuncData
  F_is_within : Fun K "is_within" "is_within" s_is_within f_is_within fd_is_within
  b_is_within : Binds K fd_is_within ["thing", "least", "most"] []
  g_is_within : mg "is_within" = some (.ref f_is_within)
  f_is_lot : Addr
  fd_is_lot : FuncData
  F_is_lot : Fun K "is_lot" "is_lot" s_is_lot f_is_lot fd_is_lot
  b_is_lot : Binds K fd_is_lot ["thing", "many"] []
  g_is_lot : mg "is_lot" = some (.ref f_is_lot)
  f_check_kind_of : Addr
  fd_check_kind_of : FuncData
  F_check_kind_of : Fun K "check_kind_of" "check_kind_of" s_check_kind_of f_check_kind_of fd_check_kind_of
  b_check_kind_of : Binds K fd_check_kind_of ["thing", "many"] []
  g_check_kind_of : mg "check_kind_of" = some (.ref f_check_kind_of)
  f_check_most : Addr
  fd_check_most : FuncData
  F_check_most : Fun K "check_most" "check_most" s_check_most f_check_most fd_check_most
  b_check_most : Binds K fd_check_most ["number", "most"] []
  g_check_most : mg "check_most" = some (.ref f_check_most)
  f_are_parents : Addr
  fd_are_parents : FuncData
  F_are_parents : Fun K "are_parents" "are_parents" s_are_parents f_are_parents fd_are_parents
  b_are_parents : Binds K fd_are_parents ["thing", "number"] []
  g_are_parents : mg "are_parents" = some (.ref f_are_parents)
  f_Book_fill : Addr
  fd_Book_fill : FuncData
  F_Book_fill : Fun K "fill" "Book.fill" s_Book_fill f_Book_fill fd_Book_fill
  b_Book_fill : Binds K fd_Book_fill ["self", "parents"] []
  m_Book_fill : Meth K C_Book "fill" f_Book_fill
  f_Book___init__ : Addr
  fd_Book___init__ : FuncData
  F_Book___init__ : Fun K "__init__" "Book.__init__" s_Book___init__ f_Book___init__ fd_Book___init__
  b_Book___init__ : Binds K fd_Book___init__ ["self", "parents"] []
  m_Book___init__ : Meth K C_Book "__init__" f_Book___init__
  M_Book : Mk K C_Book f_Book___init__
  f_book_of : Addr
  fd_book_of : FuncData
  F_book_of : Fun K "book_of" "book_of" s_book_of f_book_of fd_book_of
  b_book_of : Binds K fd_book_of ["parents"] []
  g_book_of : mg "book_of" = some (.ref f_book_of)
  f_grown : Addr
  fd_grown : FuncData
  F_grown : Fun K "grown" "grown" s_grown f_grown fd_grown
  b_grown : Binds K fd_grown ["book", "parents"] []
  g_grown : mg "grown" = some (.ref f_grown)
  f_many_of : Addr
  fd_many_of : FuncData
  F_many_of : Fun K "many_of" "many_of" s_many_of f_many_of fd_many_of
  b_many_of : Binds K fd_many_of ["book"] []
  g_many_of : mg "many_of" = some (.ref f_many_of)
  f_is_one : Addr
  fd_is_one : FuncData
  F_is_one : Fun K "is_one" "is_one" s_is_one f_is_one fd_is_one
  b_is_one : Binds K fd_is_one ["book", "x", "p"] []
  g_is_one : mg "is_one" = some (.ref f_is_one)
  f_Groups___init__ : Addr
  fd_Groups___init__ : FuncData
  F_Groups___init__ : Fun K "__init__" "Groups.__init__" s_Groups___init__ f_Groups___init__ fd_Groups___init__
  b_Groups___init__ : Binds K fd_Groups___init__ ["self"] []
  m_Groups___init__ : Meth K C_Groups "__init__" f_Groups___init__
  M_Groups : Mk K C_Groups f_Groups___init__
  f_Groups_fitting : Addr
  fd_Groups_fitting : FuncData
  F_Groups_fitting : Fun K "fitting" "Groups.fitting" s_Groups_fitting f_Groups_fitting fd_Groups_fitting
  b_Groups_fitting : Binds K fd_Groups_fitting ["self", "book", "lot", "x"] []
  m_Groups_fitting : Meth K C_Groups "fitting" f_Groups_fitting
  f_Groups_taken : Addr
  fd_Groups_taken : FuncData
  F_Groups_taken : Fun K "taken" "Groups.taken" s_Groups_taken f_Groups_taken fd_Groups_taken
  b_Groups_taken : Binds K fd_Groups_taken ["self", "book", "x"] []
  m_Groups_taken : Meth K C_Groups "taken" f_Groups_taken
  f_Groups_put : Addr
  fd_Groups_put : FuncData
  F_Groups_put : Fun K "put" "Groups.put" s_Groups_put f_Groups_put fd_Groups_put
  b_Groups_put : Binds K fd_Groups_put ["self", "book", "x"] []
  m_Groups_put : Meth K C_Groups "put" f_Groups_put
  f_Groups_told : Addr
  fd_Groups_told : FuncData
  F_Groups_told : Fun K "told" "Groups.told" s_Groups_told f_Groups_told fd_Groups_told
  b_Groups_told : Binds K fd_Groups_told ["self"] []
  m_Groups_told : Meth K C_Groups "told" f_Groups_told
  f_entries_of : Addr
  fd_entries_of : FuncData
  F_entries_of : Fun K "entries_of" "entries_of" s_entries_of f_entries_of fd_entries_of
  b_entries_of : Binds K fd_entries_of ["book", "held", "x"] []
  g_entries_of : mg "entries_of" = some (.ref f_entries_of)
  f_gone_through : Addr
  fd_gone_through : FuncData
  F_gone_through : Fun K "gone_through" "gone_through" s_gone_through f_gone_through fd_gone_through
  b_gone_through : Binds K fd_gone_through ["book"] []
  g_gone_through : mg "gone_through" = some (.ref f_gone_through)
  f_groups : Addr
  fd_groups : FuncData
  F_groups : Fun K "groups" "groups" s_groups f_groups fd_groups
  b_groups : Binds K fd_groups ["book"] []
  g_groups : mg "groups" = some (.ref f_groups)
  f_told_scheme : Addr
  fd_told_scheme : FuncData
  F_told_scheme : Fun K "told_scheme" "told_scheme" s_told_scheme f_told_scheme fd_told_scheme
  b_told_scheme : Binds K fd_told_scheme ["book"] []
  g_told_scheme : mg "told_scheme" = some (.ref f_told_scheme)
  f_told : Addr
  fd_told : FuncData
  F_told : Fun K "told" "told" s_told f_told fd_told
  b_told : Binds K fd_told ["scheme", "x", "p"] []
  g_told : mg "told" = some (.ref f_told)
  f__law_flow : Addr
  fd__law_flow : FuncData
  F__law_flow : Fun K "_law_flow" "_law_flow" s__law_flow f__law_flow fd__law_flow
  b__law_flow : Binds K fd__law_flow ["_law_script"] []
  g__law_flow : mg "_law_flow" = some (.ref f__law_flow)
  f__law_draw : Addr
  fd__law_draw : FuncData
  F__law_draw : Fun K "_law_draw" "_law_draw" s__law_draw f__law_draw fd__law_draw
  b__law_draw : Binds K fd__law_draw ["_law_flow_here", "_law_many"] []
  g__law_draw : mg "_law_draw" = some (.ref f__law_draw)
  f__law_parents : Addr
  fd__law_parents : FuncData
  F__law_parents : Fun K "_law_parents" "_law_parents" s__law_parents f__law_parents fd__law_parents
  b__law_parents : Binds K fd__law_parents ["_law_flow_here", "_law_many", "_law_shape"] []
  g__law_parents : mg "_law_parents" = some (.ref f__law_parents)
  f__law_lot : Addr
  fd__law_lot : FuncData
  F__law_lot : Fun K "_law_lot" "_law_lot" s__law_lot f__law_lot fd__law_lot
  b__law_lot : Binds K fd__law_lot ["_law_lots", "_law_parents_here"] []
  g__law_lot : mg "_law_lot" = some (.ref f__law_lot)
  f__law_free : Addr
  fd__law_free : FuncData
  F__law_free : Fun K "_law_free" "_law_free" s__law_free f__law_free fd__law_free
  b__law_free : Binds K fd__law_free ["_law_held", "_law_lot_here", "_law_group"] []
  g__law_free : mg "_law_free" = some (.ref f__law_free)
  f__law_entries : Addr
  fd__law_entries : FuncData
  F__law_entries : Fun K "_law_entries" "_law_entries" s__law_entries f__law_entries fd__law_entries
  b__law_entries : Binds K fd__law_entries ["_law_held", "_law_lot_here"] []
  g__law_entries : mg "_law_entries" = some (.ref f__law_entries)
  f__law_place : Addr
  fd__law_place : FuncData
  F__law_place : Fun K "_law_place" "_law_place" s__law_place f__law_place fd__law_place
  b__law_place : Binds K fd__law_place ["_law_rows", "_law_held", "_law_lot_here"] []
  g__law_place : mg "_law_place" = some (.ref f__law_place)
  f__law_put : Addr
  fd__law_put : FuncData
  F__law_put : Fun K "_law_put" "_law_put" s__law_put f__law_put fd__law_put
  b__law_put : Binds K fd__law_put ["_law_rows", "_law_held", "_law_lot_here", "_law_x"] []
  g__law_put : mg "_law_put" = some (.ref f__law_put)
  f__law_groups : Addr
  fd__law_groups : FuncData
  F__law_groups : Fun K "_law_groups" "_law_groups" s__law_groups f__law_groups fd__law_groups
  b__law_groups : Binds K fd__law_groups ["_law_rows"] []
  g__law_groups : mg "_law_groups" = some (.ref f__law_groups)
  f_groups_from : Addr
  fd_groups_from : FuncData
  F_groups_from : Fun K "groups_from" "groups_from" s_groups_from f_groups_from fd_groups_from
  b_groups_from : Binds K fd_groups_from ["lots", "held"] []
  g_groups_from : mg "groups_from" = some (.ref f_groups_from)
  f_first_step : Addr
  fd_first_step : FuncData
  F_first_step : Fun K "first_step" "first_step" s_first_step f_first_step fd_first_step
  b_first_step : Binds K fd_first_step [] []
  g_first_step : mg "first_step" = some (.ref f_first_step)
  f_next_step : Addr
  fd_next_step : FuncData
  F_next_step : Fun K "next_step" "next_step" s_next_step f_next_step fd_next_step
  b_next_step : Binds K fd_next_step ["step", "parents"] []
  g_next_step : mg "next_step" = some (.ref f_next_step)
  f_Runtime___init__ : Addr
  fd_Runtime___init__ : FuncData
  F_Runtime___init__ : Fun K "__init__" "Runtime.__init__" s_Runtime___init__ f_Runtime___init__ fd_Runtime___init__
  b_Runtime___init__ : Binds K fd_Runtime___init__ ["self"] []
  m_Runtime___init__ : Meth K C_Runtime "__init__" f_Runtime___init__
  M_Runtime : Mk K C_Runtime f_Runtime___init__
  f_Runtime_many : Addr
  fd_Runtime_many : FuncData
  F_Runtime_many : Fun K "many" "Runtime.many" s_Runtime_many f_Runtime_many fd_Runtime_many
  b_Runtime_many : Binds K fd_Runtime_many ["self"] []
  m_Runtime_many : Meth K C_Runtime "many" f_Runtime_many
  f_Runtime_load : Addr
  fd_Runtime_load : FuncData
  F_Runtime_load : Fun K "load" "Runtime.load" s_Runtime_load f_Runtime_load fd_Runtime_load
  b_Runtime_load : Binds K fd_Runtime_load ["self", "parents"] []
  m_Runtime_load : Meth K C_Runtime "load" f_Runtime_load
  f_Runtime_ask : Addr
  fd_Runtime_ask : FuncData
  F_Runtime_ask : Fun K "ask" "Runtime.ask" s_Runtime_ask f_Runtime_ask fd_Runtime_ask
  b_Runtime_ask : Binds K fd_Runtime_ask ["self", "x", "p"] []
  m_Runtime_ask : Meth K C_Runtime "ask" f_Runtime_ask
  f_Runtime_given : Addr
  fd_Runtime_given : FuncData
  F_Runtime_given : Fun K "given" "Runtime.given" s_Runtime_given f_Runtime_given fd_Runtime_given
  b_Runtime_given : Binds K fd_Runtime_given ["self", "x"] []
  m_Runtime_given : Meth K C_Runtime "given" f_Runtime_given
  f_Runtime_book : Addr
  fd_Runtime_book : FuncData
  F_Runtime_book : Fun K "book" "Runtime.book" s_Runtime_book f_Runtime_book fd_Runtime_book
  b_Runtime_book : Binds K fd_Runtime_book ["self"] []
  m_Runtime_book : Meth K C_Runtime "book" f_Runtime_book
  f_Runtime_groups : Addr
  fd_Runtime_groups : FuncData
  F_Runtime_groups : Fun K "groups" "Runtime.groups" s_Runtime_groups f_Runtime_groups fd_Runtime_groups
  b_Runtime_groups : Binds K fd_Runtime_groups ["self"] []
  m_Runtime_groups : Meth K C_Runtime "groups" f_Runtime_groups
  f__law_given : Addr
  fd__law_given : FuncData
  F__law_given : Fun K "_law_given" "_law_given" s__law_given f__law_given fd__law_given
  b__law_given : Binds K fd__law_given ["_law_runtime", "_law_x"] []
  g__law_given : mg "_law_given" = some (.ref f__law_given)
  f__law_great : Addr
  fd__law_great : FuncData
  F__law_great : Fun K "_law_great" "_law_great" s__law_great f__law_great fd__law_great
  b__law_great : Binds K fd__law_great ["_law_flow_here", "_law_runtime"] []
  g__law_great : mg "_law_great" = some (.ref f__law_great)
  f_law : Addr
  fd_law : FuncData
  F_law : Fun K "law" "law" s_law f_law fd_law
  b_law : Binds K fd_law ["_law_script"] []
  g_law : mg "law" = some (.ref f_law)
  z_abs : mg "abs" = none
  z_bool : mg "bool" = none
  z_enumerate : mg "enumerate" = none
  z_int : mg "int" = none
  z_isinstance : mg "isinstance" = none
  z_len : mg "len" = none
  z_list : mg "list" = none
  z_max : mg "max" = none
  z_min : mg "min" = none
  z_range : mg "range" = none
  z_repr : mg "repr" = none
  z_sorted : mg "sorted" = none
  z_tuple : mg "tuple" = none
section
variable {P : Program} {w : World} {K : PySem.W.Frag} {mg : Str → Option Value} {base : Heap}
theorem ok_NoKind___init__ (T : Top P K mg) : FnOk P w K mg base CX0 1 T.f_NoKind___init__ T.fd_NoKind___init__ ["self"] (sp_err T.C_NoKind) := by
  obtain ⟨cc, cda, oc, od, dV, kV, doc, pm, an, ctv, osl, efd, lk, hcd, sup⟩ := T.er_NoKind.all
  rw [efd] at lk ⊢
  exact sup_fn (k := 0) (N := ["self", "__class__"]) (F := NFo "NoKind.__init__" s_NoKind___init__ cc cda) lk hcd sup (NdefX.nscope_by (sc := defScope s_NoKind___init__) (by decide +kernel)) rfl (fun vs H Q E h => by obtain ⟨a, rfl, _⟩ := h; rfl) rfl (fun L => rfl) (fun L => rfl) (fun L => rfl) (by kernel_rfl) (fun A outer s H vs Q E hr h => by
    obtain ⟨a, rfl, ha, k⟩ := h
    exact ⟨a, rfl, ha, _, pss_nil, k⟩)
/-! is_integer -/
def sp_is_integer (K : PySem.W.Frag) : Sp := fun vs H Q _ => ∃ v, vs = [v] ∧ IntK K H v ∧ Q (.bl (isIntB v)) H
theorem sc_is_integer : FnScope ["thing"] ["thing"] (defScope s_is_integer) := ⟨rfl, rfl, rfl, by decide +kernel, rfl, by decide +kernel, by decide +kernel⟩
theorem ok_is_integer (T : Top P K mg) : FnOk P w K mg base CX0 1 T.f_is_integer T.fd_is_integer ["thing"] (sp_is_integer K) := by
  refine T.F_is_integer.ok sc_is_integer (fun vs H Q E h => ?_) (fun cdv A outer s H vs Q E hr h => ?_)
  · obtain ⟨v, rfl, _⟩ := h
    rfl
  · obtain ⟨v, rfl, ⟨t, bi, bb, ht, hi, hb, e⟩, k⟩ := h
    refine ⟨_, (pss_one (ps_ret (pe_and (pe_callB (r := rIsi K) (id := "isinstance") call_isi (by rfl) T.z_isinstance (by decide +kernel) (pa_cons (pv 0) (pa_cons (pe_bltn (v := .ty "int") (u := .type "int") (by rfl) T.z_int (by decide +kernel) rfl) pa_nil))) (pe_one (pe_not (pe_callB (r := rIsi K) (id := "isinstance") call_isi (by rfl) T.z_isinstance (by decide +kernel) (pa_cons (pv 0) (pa_cons (pe_bltn (v := .ty "bool") (u := .type "bool") (by rfl) T.z_bool (by decide +kernel) rfl) pa_nil)))))))), ?_⟩
    tm_at "w"
    cases bi with
    | false =>
      rw [← e] at k
      tm_at "w"
      exact k
    | true =>
      rw [← e] at k
      tm_at "w"
      exact k
/-! is_within -/
def sp_is_within (K : PySem.W.Frag) : Sp := fun vs H Q _ => ∃ (v : V) (lo hi : Int), vs = [v, .int lo, .int hi] ∧ IntK K H v ∧ Q (.bl (withinB v lo hi)) H
theorem sc_is_within : FnScope ["thing", "least", "most"] ["thing", "least", "most"] (defScope s_is_within) := ⟨rfl, rfl, rfl, by decide +kernel, rfl, by decide +kernel, by decide +kernel⟩
theorem ok_is_within (T : Top P K mg) : FnOk P w K mg base CX0 2 T.f_is_within T.fd_is_within ["thing", "least", "most"] (sp_is_within K) := by
  have G_is_integer := ok_is_integer (P := P) (w := w) (base := base) T
  refine T.F_is_within.ok sc_is_within (fun vs H Q E h => ?_) (fun cdv A outer s H vs Q E hr h => ?_)
  · obtain ⟨v, lo, hi, rfl, _⟩ := h
    rfl
  · obtain ⟨v, lo, hi, rfl, hk, k⟩ := h
    refine ⟨_, (pss_one (ps_ret (pe_and (pe_call G_is_integer hr (by rfl) T.g_is_integer T.F_is_integer.kp T.b_is_integer .nil pass0 (pa_cons (pv 0) pa_nil)) (pe_one (pe_chain op_le op_le (pv 1) (pv 0) (pv 2)))))), ?_⟩
    refine ⟨v, rfl, v, rfl, hk, _, rfl, ?_⟩
    cases v with
    | int i =>
      refine iteT ?_
      tm_at "w"
      refine iteD (fun h1 => ?_) (fun h1 => ?_)
      · tm_at "w"
        have e : withinB (.int i) lo hi = decide (i ≤ hi) := by
          show (decide (lo ≤ i) && decide (i ≤ hi)) = _
          rw [decide_eq_true h1, Bool.true_and]
        rw [e] at k
        exact k
      · have e : withinB (.int i) lo hi = false := by
          show (decide (lo ≤ i) && decide (i ≤ hi)) = _
          rw [decide_eq_false h1, Bool.false_and]
        rw [e] at k
        exact k
    | _ =>
      refine iteF ?_
      exact k
/-! is_lot -/
/-- an ascending run of whole numbers above last, below m -/
def lotFrom (m : Int) : Int → List V → Bool
  | _, [] => true
  | last, x :: r => withinB x (last + 1) (m - 1) && lotFrom m (match x with | .int i => i | _ => 0) r
def sp_is_lot (K : PySem.W.Frag) : Sp := fun vs H Q _ => ∃ (v : V) (t : Value) (bt : Bool) (m : Int), vs = [v, .int m] ∧ TyX K H v t ∧ PySem.W.kitOne K t (.type "tuple") = some bt ∧
  ((bt = false ∧ Q (.bl false) H) ∨ ∃ (a : Addr) (xs : List V), v = .ref a ∧ H a = some (.tup xs) ∧ bt = true ∧ (∀ x ∈ xs, IntK K H x) ∧ Q (.bl (lotFrom m (-1) xs)) H)
theorem sc_is_lot : FnScope ["thing", "many", "last", "item"] ["thing", "many"] (defScope s_is_lot) := ⟨rfl, rfl, rfl, by decide +kernel, rfl, by decide +kernel, by decide +kernel⟩
theorem ok_is_lot (T : Top P K mg) : FnOk P w K mg base CX0 3 T.f_is_lot T.fd_is_lot ["thing", "many"] (sp_is_lot K) := by
  have G_is_within := ok_is_within (P := P) (w := w) (base := base) T
  refine T.F_is_lot.ok sc_is_lot (fun vs H Q E h => ?_) (fun cdv A outer s H vs Q E hr h => ?_)
  · obtain ⟨v, t, bt, m, rfl, _⟩ := h
    rfl
  · obtain ⟨v, t, bt, m, rfl, ht, hb, hh⟩ := h
    refine ⟨_, (pss_cons (ps_if (pt_not (pt_val (pe_callB (r := rIsi K) (id := "isinstance") call_isi (by rfl) T.z_isinstance (by decide +kernel) (pa_cons (pv 0) (pa_cons (pe_bltn (v := .ty "tuple") (u := .type "tuple") (by rfl) T.z_tuple (by decide +kernel) rfl) pa_nil))))) (pss_one (ps_ret pe_bl)) pss_nil)
      (pss_cons (ps_set (i := 2) sc_is_lot.nd rfl (Or.inl rfl) (pe_un un_neg pe_int))
      (pss_cons (ps_for PassesOwn.never rfl (pi_tup (pv 0)) (pg_name (i := 3) sc_is_lot.nd rfl (Or.inl rfl))
      (pss_cons (ps_if (pt_not (pt_val (pe_call G_is_within hr (by rfl) T.g_is_within T.F_is_within.kp T.b_is_within .nil pass0 (pa_cons (pv 3) (pa_cons (pe_op op_add (pv 2) pe_int) (pa_cons (pe_op op_sub (pv 1) pe_int) pa_nil)))))) (pss_one (ps_ret pe_bl)) pss_nil)
      (pss_one (ps_set (i := 2) sc_is_lot.nd rfl (Or.inl rfl) (pv 3)))))
      (pss_one (ps_ret pe_bl))))), ?_⟩
    tm_at "w"
    rcases hh with ⟨rfl, k⟩ | ⟨a, xs, rfl, ha, rfl, hi, k⟩
    · tm_at "w"
      exact k
    · tm_at "w"
      refine ⟨⟨_, SqT.of ha⟩, for_tup (K := K) (a := a) (xs := xs) (fun i σ H' => ∃ (last : Int) (x : Option V), σ = [some (.ref a), some (.int m), some (.int last), x] ∧ H' = H ∧ lotFrom m last (xs.drop i) = lotFrom m (-1) xs) ?_ ?_ ?_ ?_⟩
      · exact ⟨-1, none, rfl, rfl, rfl⟩
      · rintro i σ H' _ ⟨_, _, _, rfl, _⟩
        exact SqT.of ha
      · rintro i x σ H' hx ⟨last, y, rfl, rfl, e⟩
        have il := (List.getElem?_eq_some_iff.mp hx).1
        have hd : xs.drop i = x :: xs.drop (i + 1) := by
          rw [List.drop_eq_getElem_cons il]
          rw [List.getElem?_eq_getElem il] at hx
          rw [Option.some.inj hx]
        rw [hd] at e
        tm_at "w"
        refine ⟨_, _, _, rfl, hi x (List.mem_of_getElem? hx), ?_⟩
        tm_at "w"
        refine iteB (fun h => ?_) (fun h => ?_)
        · have h2 : withinB x (last + 1) (m - 1) = false := by simpa using h
          have e2 : lotFrom m (-1) xs = false := by
            rw [← e]
            show (withinB x (last + 1) (m - 1) && _) = false
            rw [h2]
            rfl
          rw [e2] at k
          tm_at "w"
          exact k
        · have h2 : withinB x (last + 1) (m - 1) = true := by simpa using h
          cases x with
          | int z =>
            tm_at "w"
            rw [← e]
            show _ = (withinB (.int z) (last + 1) (m - 1) && lotFrom m z (xs.drop (i + 1)))
            rw [h2, Bool.true_and]
          | _ => cases h2
      · rintro σ H' ⟨last, y, rfl, rfl, e⟩
        rw [List.drop_length] at e
        rw [← e] at k
        tm_at "w"
        exact k
/-! check_kind_of -/
theorem within_nat {v : V} {n : Nat} (h : withinB v 0 ((n : Int) - 1) = true) : ∃ x : Nat, v = .int (x : Int) ∧ x < n := by
  cases v with
  | int i =>
    have h : (decide (0 ≤ i) && decide (i ≤ (n : Int) - 1)) = true := h
    rw [Bool.and_eq_true, decide_eq_true_eq, decide_eq_true_eq] at h
    exact ⟨i.toNat, by rw [show ((i.toNat : Nat) : Int) = i by omega], by omega⟩
  | _ => cases h
theorem within_le {v : V} {n : Nat} (h : withinB v 0 (n : Int) = true) : ∃ x : Nat, v = .int (x : Int) ∧ x ≤ n := by
  obtain ⟨x, e, hx⟩ := within_nat (n := n + 1) (v := v) (by rw [show (((n + 1 : Nat) : Int) - 1) = (n : Int) by omega]; exact h)
  exact ⟨x, e, by omega⟩
theorem lot_nats {m : Int} : ∀ {xs : List V} {last : Int}, -1 ≤ last → lotFrom m last xs = true → ∃ q : List Nat, xs = natsV q ∧ q.Pairwise (· < ·) ∧ ∀ x ∈ q, last < (x : Int) ∧ (x : Int) < m
  | [], _, _, _ => ⟨[], rfl, List.Pairwise.nil, fun x hx => by cases hx⟩
  | .int i :: r, last, hl, h => by
    have h : (withinB (.int i) (last + 1) (m - 1) && lotFrom m i r) = true := h
    rw [Bool.and_eq_true] at h
    have h1 : (decide (last + 1 ≤ i) && decide (i ≤ m - 1)) = true := h.1
    rw [Bool.and_eq_true, decide_eq_true_eq, decide_eq_true_eq] at h1
    obtain ⟨q, e, hp, hq⟩ := lot_nats (xs := r) (last := i) (by omega) h.2
    refine ⟨i.toNat :: q, ?_, List.pairwise_cons.mpr ⟨fun y hy => by have := hq y hy; omega, hp⟩, fun x hx => ?_⟩
    · rw [e]
      show _ = V.int ((i.toNat : Nat) : Int) :: natsV q
      rw [show ((i.toNat : Nat) : Int) = i by omega]
    · rcases List.mem_cons.mp hx with e | e
      · rw [e]
        omega
      · have := hq x e
        omega
  | .bl _ :: _, _, _, h => by cases h
  | .non :: _, _, _, h => by cases h
  | .str _ :: _, _, _, h => by cases h
  | .ref _ :: _, _, _, h => by cases h
  | .ty _ :: _, _, _, h => by cases h
  | .flt _ :: _, _, _, h => by cases h
  | .byt _ :: _, _, _, h => by cases h
/-- whether a thing is the parents of a kind with a number -/
def parB (H : Hp) (v : V) (m : Int) : Bool := match v with
  | .ref a => match H a with
    | some (.tup xs) => lotFrom m (-1) xs && decide (xs.length ≤ 6)
    | _ => false
  | _ => false
theorem parB_tup {H : Hp} {a : Addr} {xs : List V} {m : Int} (h : H a = some (.tup xs)) : parB H (.ref a) m = (lotFrom m (-1) xs && decide (xs.length ≤ 6)) := by
  simp only [parB, h]
theorem parB_no {H : Hp} {v : V} {m : Int} (h : ∀ a xs, v = .ref a → H a ≠ some (.tup xs)) : parB H v m = false := by
  unfold parB
  split
  · split
    · rename_i a _ xs e
      exact absurd e (h a xs rfl)
    · rfl
  · rfl
def sp_check_kind_of (C_NoKind : Addr) (K : PySem.W.Frag) : Sp := fun vs H Q E => ∃ (v : V) (m : Int), vs = [v, .int m] ∧ IntK K H v ∧ (withinB v 0 (m - 1) = true → Q .non H) ∧ (withinB v 0 (m - 1) = false → E (.ref C_NoKind) none H)
theorem sc_check_kind_of : FnScope ["thing", "many"] ["thing", "many"] (defScope s_check_kind_of) := ⟨rfl, rfl, rfl, by decide +kernel, rfl, by decide +kernel, by decide +kernel⟩
theorem ok_check_kind_of (T : Top P K mg) : FnOk P w K mg base (L2.CX P w) 3 T.f_check_kind_of T.fd_check_kind_of ["thing", "many"] (sp_check_kind_of T.C_NoKind K) := by
  have G_NoKind___init__ := ok_NoKind___init__ (P := P) (w := w) (base := base) T
  have G_is_within := ok_is_within (P := P) (w := w) (base := base) T
  refine T.F_check_kind_of.okX sc_check_kind_of (fun vs H Q E h => ?_) (fun cdv A outer s H vs Q E hr h => ?_)
  · obtain ⟨v, m, rfl, _⟩ := h
    rfl
  · obtain ⟨v, m, rfl, hv, k, ke⟩ := h
    refine ⟨_, (pss_one (ps_if (pt_not (pt_val (pe_call G_is_within hr (by rfl) T.g_is_within T.F_is_within.kp T.b_is_within .nil pass0 (pa_cons (pv 0) (pa_cons pe_int (pa_cons (pe_op op_sub (pv 1) pe_int) pa_nil)))))) (pss_one (ps_raise rfl (takes_of rfl rfl rfl rfl) (pmk_n T.er_NoKind.ex T.er_NoKind.ic T.er_NoKind.ti G_NoKind___init__ (hr.mono (by decide)) T.er_NoKind.bi pass0 (by rfl) T.er_NoKind.g))) pss_nil)), ?_⟩
    tm_at "w"
    refine ⟨v, 0, m - 1, rfl, hv, ?_⟩
    refine ⟨_, rfl, ?_⟩
    cases e : withinB v 0 (m - 1) with
    | true =>
      refine iteEF (by rfl) ?_
      exact k e
    | false =>
      refine iteET (by rfl) ?_
      exact ke e
/-! check_most -/
def sp_check_most (K : PySem.W.Frag) : Sp := fun vs H Q _ => ∃ (n m : Int), vs = [.int n, .int m] ∧ n ≤ m ∧ Q .non H
theorem sc_check_most : FnScope ["number", "most"] ["number", "most"] (defScope s_check_most) := ⟨rfl, rfl, rfl, by decide +kernel, rfl, by decide +kernel, by decide +kernel⟩
theorem ok_check_most (T : Top P K mg) : FnOk P w K mg base CX0 1 T.f_check_most T.fd_check_most ["number", "most"] (sp_check_most K) := by
  refine T.F_check_most.ok sc_check_most (fun vs H Q E h => ?_) (fun cdv A outer s H vs Q E hr h => ?_)
  · obtain ⟨n, m, rfl, _⟩ := h
    rfl
  · obtain ⟨n, m, rfl, hle, k⟩ := h
    refine ⟨_, (pss_one (ps_if (pt_cmpR op_gt (pv 0) (pv 1) (nomark _)) (pss_one ps_never) pss_nil)), ?_⟩
    tm_at "w"
    exact k
/-! are_parents -/
def sp_are_parents (K : PySem.W.Frag) : Sp := fun vs H Q _ => ∃ (v : V) (t : Value) (bt : Bool) (m : Int), vs = [v, .int m] ∧ TyX K H v t ∧ PySem.W.kitOne K t (.type "tuple") = some bt ∧
  ((bt = false ∧ Q (.bl false) H) ∨ ∃ (a : Addr) (xs : List V), v = .ref a ∧ H a = some (.tup xs) ∧ bt = true ∧ (∀ x ∈ xs, IntK K H x) ∧ Q (.bl (lotFrom m (-1) xs && decide (xs.length ≤ 6))) H)
theorem sc_are_parents : FnScope ["thing", "number"] ["thing", "number"] (defScope s_are_parents) := ⟨rfl, rfl, rfl, by decide +kernel, rfl, by decide +kernel, by decide +kernel⟩
theorem ok_are_parents (T : Top P K mg) : FnOk P w K mg base CX0 4 T.f_are_parents T.fd_are_parents ["thing", "number"] (sp_are_parents K) := by
  have G_is_lot := ok_is_lot (P := P) (w := w) (base := base) T
  refine T.F_are_parents.ok sc_are_parents (fun vs H Q E h => ?_) (fun cdv A outer s H vs Q E hr h => ?_)
  · obtain ⟨v, t, bt, m, rfl, _⟩ := h
    rfl
  · obtain ⟨v, t, bt, m, rfl, ht, hb, hh⟩ := h
    refine ⟨_, (pss_one (ps_ret (pe_and (pe_call G_is_lot hr (by rfl) T.g_is_lot T.F_is_lot.kp T.b_is_lot .nil pass0 (pa_cons (pv 0) (pa_cons (pv 1) pa_nil))) (pe_one (pe_cmpR op_le (pe_callB (r := rLenQ K) (id := "len") call_len_seq (by rfl) T.z_len (by decide +kernel) (pa_cons (pv 0) pa_nil)) (pe_glob (v := .int 6) (by rfl) T.c_MOST_PARENTS.choose_spec ⟨_, rfl⟩) (nomark _)))))), ?_⟩
    tm_at "w"
    rcases hh with ⟨rfl, k⟩ | ⟨a, xs, rfl, ha, rfl, hi, k⟩
    · exact ⟨v, t, false, m, rfl, ht, hb, .inl ⟨rfl, false, rfl, iteF k⟩⟩
    · refine ⟨_, t, true, m, rfl, ht, hb, .inr ⟨a, xs, rfl, ha, rfl, hi, _, rfl, ?_⟩⟩
      refine iteB (fun h => ?_) (fun h => ?_)
      · tm_at "w"
        rw [h, Bool.true_and] at k
        have e : decide ((xs.length : Int) ≤ 6) = decide (xs.length ≤ 6) := decide_eq_decide.mpr (by omega)
        rw [← e] at k
        exact k
      · rw [h] at k
        exact k
/-! Book.fill -/
theorem bitOr_nat (a b : Nat) : Builtin.bitOr (a : Int) (b : Int) = ((a ||| b : Nat) : Int) := by
  rw [Bits.bitOr_pp (by omega) (by omega), Int.toNat_natCast, Int.toNat_natCast]
def sp_Book_fill (C : Addr) (K : PySem.W.Frag) : Sp := fun vs H Q _ => ∃ (b dx pa : Addr) (fs : List (Str × V)) (P : List (List Nat)), vs = [.ref b, .ref pa] ∧ H b = some (.ins C dx fs) ∧ BkFs fs ∧ ParAt H pa P ∧ RtP P ∧ P.length ≤ 1000 ∧
  ∀ lb H', But b H H' → H lb = none → BookAt C H' ⟨b, dx, pa, lb⟩ P → Q .non H'
theorem sc_Book_fill : FnScope ["self", "parents", "number", "item", "found", "parent"] ["self", "parents"] (defScope s_Book_fill) := ⟨rfl, rfl, rfl, by decide +kernel, rfl, by decide +kernel, by decide +kernel⟩
theorem ok_Book_fill (T : Top P K mg) : FnOk P w K mg base CX0 1 T.f_Book_fill T.fd_Book_fill ["self", "parents"] (sp_Book_fill T.C_Book K) := by
  refine T.F_Book_fill.ok sc_Book_fill (fun vs H Q E h => ?_) (fun cdv A outer s H vs Q E hr h => ?_)
  · obtain ⟨b, dx, pa, fs, P, rfl, _⟩ := h
    rfl
  · obtain ⟨b, dx, pa, fs, P, rfl, hb, hf, hP, hR, hn, k⟩ := h
    refine ⟨_, (pss_cons (ps_fld (pv 0) (pv 1) rfl)
      (pss_cons (ps_fld (pv 0) (pe_lst pa_nil) rfl)
      (pss_one (ps_for PassesOwn.never rfl (pi_enumT (by rfl) T.z_enumerate (pa_cons (pv 1) pa_nil)) (pg_tup rfl (pgs_cons (pg_name (i := 2) sc_Book_fill.nd rfl (Or.inl rfl)) (pgs_cons (pg_name (i := 3) sc_Book_fill.nd rfl (Or.inl rfl)) pgs_nil)))
      (pss_cons (ps_set (i := 4) sc_Book_fill.nd rfl (Or.inl rfl) (pe_op op_shl pe_int (pv 2)))
      (pss_cons (ps_for PassesOwn.never rfl (pi_tup (pv 3)) (pg_name (i := 5) sc_Book_fill.nd rfl (Or.inl rfl))
      (pss_one (ps_aug (i := 4) sc_Book_fill.nd rfl (Or.inl rfl) (pe_ix (r := rIxL K) ix_list (pe_fld (pv 0) rfl) (pv 5) (fun _ _ => rfl)) ip_or)))
      (pss_one (ps_expr (pe_bm PySem.F.plainAttrs_list PySem.F.slot_list_append PySem.F.type_list_append mt_append (pe_fld (pv 0) rfl) (pa_cons (pv 4) pa_nil)))))))))), ?_⟩
    have cB := T.cl_Book
    have nB1 := T.n_Book_parents
    have nB2 := T.n_Book_bits
    have hlp := BkFs.len1 hf pa
    have wb : ∀ l, H l = none → b ≠ l := fun l e => ne_of_none hb e
    obtain ⟨vsP, hpa, hlen, hit⟩ := id hP
    have nap : ∀ a xs, H a = some (.tup xs) → a ≠ b := fun a xs e z => by rw [z, hb] at e; cases e
    refine ⟨_, rfl, _, rfl, b, T.C_Book, dx, fs, rfl, hb, T.cl_Book, T.n_Book_parents, Nat.lt_trans (m := 500) hf.len (by decide), ?_⟩
    tm_at "w"
    intro lb nlb0
    have nlb : H lb = none := by
      by_cases z : lb = b
      · rw [z, upd_same] at nlb0
        cases nlb0
      · rw [upd_ne z] at nlb0
        exact nlb0
    have nbl : b ≠ lb := wb lb nlb
    refine ⟨_, rfl, b, T.C_Book, dx, _, rfl, (upd_ne nbl).trans upd_same, T.cl_Book, T.n_Book_bits, hlp, ?_⟩
    rw [hf.put pa lb]
    refine ⟨_, rfl, _, _, rfl, SqT.of (xs := vsP) ((upd_ne (nap _ _ hpa)).trans ((upd_ne (ne_of_none hpa nlb)).trans ((upd_ne (nap _ _ hpa)).trans hpa))), for_enumT (K := K) (a := pa) (xs := vsP) (fun i σ H' => ∃ x y z w, σ = [some (.ref b), some (.ref pa), x, y, z, w] ∧ But b H H' ∧ H' b = some (.ins T.C_Book dx (bkF pa lb)) ∧ H' lb = some (.lst (natsV (bitsOf (P.take i))))) ?_ ?_ ?_ ?_⟩
    · refine ⟨none, none, none, none, rfl, fun a o n e => ?_, upd_same, ?_⟩
      · exact (upd_ne n).trans ((upd_ne (ne_of_none e nlb)).trans ((upd_ne n).trans e))
      · exact (upd_ne nbl.symm).trans upd_same
    · rintro i σ H' ⟨_, _, _, _, rfl, bt, _⟩
      exact SqT.of (bt _ _ (nap _ _ hpa) hpa)
    · rintro i x t σ H' hx ⟨x0, y0, z0, w0, rfl, bt, h1, h2⟩ nt
      obtain ⟨ai, p, rfl, hp, hai⟩ := ParL.here ⟨hlen, hit⟩ hx
      have il := (List.getElem?_eq_some_iff.mp hp).1
      have wt : Nw H' t := ⟨nt⟩
      have hai' : H' ai = some (.tup (natsV p)) := bt _ _ (nap _ _ hai) hai
      tm_at "w"
      have hai2 : upd H' t (.tup [V.int (i : Int), V.ref ai]) ai = some (.tup (natsV p)) := by tm_at "hp"
      have hb2 : upd H' t (.tup [V.int (i : Int), V.ref ai]) b = some (.ins T.C_Book dx (bkF pa lb)) := by tm_at "hp"
      have hl2 : upd H' t (.tup [V.int (i : Int), V.ref ai]) lb = some (.lst (natsV (bitsOf (P.take i)))) := by tm_at "hp"
      have hbl : (bitsOf (P.take i)).length = i := by rw [bitsOf_len, List.length_take]; omega
      refine ⟨⟨_, SqT.of hai2⟩, for_tup (K := K) (a := ai) (xs := natsV p) (fun j σ H2 => ∃ z, σ = [some (.ref b), some (.ref pa), some (.int (i : Int)), some (.ref ai), some (.int (((p.take j).foldl (fun f q => f ||| (bitsOf (P.take i)).getD q 0) (2 ^ i) : Nat) : Int)), z] ∧ H2 = upd H' t (.tup [V.int (i : Int), V.ref ai])) ?_ ?_ ?_ ?_⟩
      · refine ⟨w0, ?_, rfl⟩
        show _ = [some (.ref b), some (.ref pa), some (.int (i : Int)), some (.ref ai), some (.int ((2 ^ i : Nat) : Int)), w0]
        have e : (1 : Int) * 2 ^ ((i : Int)).toNat = ((2 ^ i : Nat) : Int) := by rw [Int.one_mul, Int.toNat_natCast, Int.natCast_pow]; rfl
        rw [← e]
        rfl
      · rintro j σ H2 _ ⟨_, rfl, rfl⟩
        exact SqT.of hai2
      · rintro j y σ H2 hy ⟨z, rfl, rfl⟩
        obtain ⟨q, hq, rfl, _⟩ := natsV_here hy
        have ql : q < i := hR i p hp q (List.mem_of_getElem? hq)
        have hq2 : (natsV (bitsOf (P.take i)))[q]? = some (.int (((bitsOf (P.take i)).getD q 0 : Nat) : Int)) := by
          refine natsV_at ?_
          rw [List.getD_eq_getElem?_getD, List.getElem?_eq_getElem (by omega)]
          rfl
        tm_at "w"
        refine ⟨some (.int (q : Int)), ?_, rfl⟩
        show ([some (.ref b), some (.ref pa), some (.int (i : Int)), some (.ref ai), some (.int (Builtin.bitOr _ _)), some (.int (q : Int))] : L2.St) = _
        rw [bitOr_nat, List.take_add_one, hq, List.foldl_append]
        rfl
      · rintro σ H2 ⟨z, rfl, rfl⟩
        rw [natsV_len, List.take_length]
        tm_at "w"
        refine ⟨_, _, _, rfl, rfl, hl2, lt_line (by rw [natsV_len, hbl]; omega), ?_⟩
        have nlt : lb ≠ t := ne_of_none h2 nt
        refine ⟨_, _, _, _, rfl, fun a o n e => ?_, (upd_ne nbl).trans hb2, ?_⟩
        · have e2 := bt a o n e
          exact (upd_ne (ne_of_none e nlb)).trans ((upd_ne (ne_of_none e2 nt)).trans e2)
        · rw [upd_same, natsV_snoc, List.take_add_one, hp]
          show _ = some (HO.lst (natsV (bitsOf (P.take i ++ [p]))))
          rw [bitsOf_snoc, hbl]
          rfl
    · rintro σ H' ⟨x0, y0, z0, w0, rfl, bt, h1, h2⟩
      rw [hlen, List.take_length] at h2
      exact k lb H' bt nlb ⟨h1, ⟨vsP, bt _ _ (nap _ _ hpa) hpa, hlen, fun j p e => by
        obtain ⟨a, e1, e2⟩ := hit j p e
        exact ⟨a, e1, bt _ _ (nap _ _ e2) e2⟩⟩, h2⟩
/-! Book.__init__ -/
theorem lot_from {m : Int} : ∀ {q : List Nat} {last : Int}, q.Pairwise (· < ·) → (∀ x ∈ q, last < (x : Int) ∧ (x : Int) < m) → lotFrom m last (natsV q) = true
  | [], _, _, _ => rfl
  | x :: r, last, hp, hm => by
    obtain ⟨h1, h2⟩ := List.pairwise_cons.mp hp
    have hx := hm x List.mem_cons_self
    have ih := lot_from (m := m) (q := r) (last := (x : Int)) h2 fun y hy => ⟨by have := h1 y hy; omega, (hm y (List.mem_cons_of_mem _ hy)).2⟩
    show (withinB (.int (x : Int)) (last + 1) (m - 1) && lotFrom m (x : Int) (natsV r)) = true
    rw [ih]
    show ((decide (last + 1 ≤ (x : Int)) && decide ((x : Int) ≤ m - 1)) && true) = true
    rw [decide_eq_true (show last + 1 ≤ (x : Int) by omega), decide_eq_true (show (x : Int) ≤ m - 1 by omega)]
    rfl
theorem OkL.lot {q : List Nat} {m : Nat} (h : OkL q m) : (lotFrom (m : Int) (-1) (natsV q) && decide ((natsV q).length ≤ 6)) = true := by
  rw [lot_from h.asc fun x hx => ⟨by omega, by have := h.lt x hx; omega⟩, natsV_len, decide_eq_true h.few]
  rfl
def sp_Book___init__ (C : Addr) (K : PySem.W.Frag) : Sp := fun vs H Q _ => ∃ (b dx pa : Addr) (P : List (List Nat)), vs = [.ref b, .ref pa] ∧ H b = some (.ins C dx []) ∧ ParAt H pa P ∧ OkP P ∧
  ∀ lb H', But b H H' → H lb = none → BookAt C H' ⟨b, dx, pa, lb⟩ P → Q .non H'
theorem sc_Book___init__ : FnScope ["self", "parents", "number", "item"] ["self", "parents"] (defScope s_Book___init__) := ⟨rfl, rfl, rfl, by decide +kernel, rfl, by decide +kernel, by decide +kernel⟩
theorem ok_Book___init__ (T : Top P K mg) : FnOk P w K mg base CX0 5 T.f_Book___init__ T.fd_Book___init__ ["self", "parents"] (sp_Book___init__ T.C_Book K) := by
  have G_Book_fill := ok_Book_fill (P := P) (w := w) (base := base) T
  have G_are_parents := ok_are_parents (P := P) (w := w) (base := base) T
  refine T.F_Book___init__.ok sc_Book___init__ (fun vs H Q E h => ?_) (fun cdv A outer s H vs Q E hr h => ?_)
  · obtain ⟨b, dx, pa, P, rfl, _⟩ := h
    rfl
  · obtain ⟨b, dx, pa, P, rfl, hb, hP, ok, k⟩ := h
    refine ⟨_, (pss_cons (ps_if (PW.pt (pw_or (pt_not (pt_val (pe_callB (r := rIsi K) (id := "isinstance") call_isi (by rfl) T.z_isinstance (by decide +kernel) (pa_cons (pv 1) (pa_cons (pe_bltn (v := .ty "tuple") (u := .type "tuple") (by rfl) T.z_tuple (by decide +kernel) rfl) pa_nil))))) (pw_or1 (pt_cmpR op_gt (pe_callB (r := rLenQ K) (id := "len") call_len_seq (by rfl) T.z_len (by decide +kernel) (pa_cons (pv 1) pa_nil)) (pe_glob (v := .int 400) (by rfl) T.c_MOST_KINDS.choose_spec ⟨_, rfl⟩) (nomark _))))) (pss_one ps_never) pss_nil)
      (pss_cons (ps_for PassesOwn.never rfl (pi_enumT (by rfl) T.z_enumerate (pa_cons (pv 1) pa_nil)) (pg_tup rfl (pgs_cons (pg_name (i := 2) sc_Book___init__.nd rfl (Or.inl rfl)) (pgs_cons (pg_name (i := 3) sc_Book___init__.nd rfl (Or.inl rfl)) pgs_nil)))
      (pss_one (ps_if (pt_not (pt_val (pe_call G_are_parents hr (by rfl) T.g_are_parents T.F_are_parents.kp T.b_are_parents .nil pass0 (pa_cons (pv 3) (pa_cons (pv 2) pa_nil))))) (pss_one ps_never) pss_nil)))
      (pss_one (ps_expr (pe_meth (pv 0) T.cl_Book T.m_Book_fill G_Book_fill (hr.mono (by decide)) T.b_Book_fill .nil pass0 (pa_cons (pv 1) pa_nil)))))), ?_⟩
    have cB := T.cl_Book
    have nB1 := T.n_Book_parents
    have nB2 := T.n_Book_bits
    obtain ⟨vsP, hpa, hlen, hit⟩ := id hP
    have few := ok.few
    have ty := ty_tup (K := K) hpa
    have tt := tup_tup (K := K)
    tm_at "w"
    refine ⟨_, _, rfl, SqT.of hpa, for_enumT (K := K) (a := pa) (xs := vsP) (fun i σ H' => ∃ x y, σ = [some (.ref b), some (.ref pa), x, y] ∧ Same H H') ?_ ?_ ?_ ?_⟩
    · exact ⟨none, none, rfl, Same.refl H⟩
    · rintro i σ H' ⟨_, _, rfl, s1⟩
      exact SqT.of (s1 _ _ hpa)
    · rintro i x t σ H' hx ⟨x0, y0, rfl, s1⟩ nt
      obtain ⟨ai, p, rfl, hp, hai⟩ := ParL.here ⟨hlen, hit⟩ hx
      have s2 : Same H (upd H' t (.tup [V.int (i : Int), V.ref ai])) := Same.new s1 nt
      have hai2 := s2 _ _ hai
      tm_at "w"
      refine ⟨_, _, true, _, rfl, ty_tup hai2, tup_tup, .inr ⟨ai, natsV p, rfl, hai2, rfl, natsV_int p, ?_⟩⟩
      rw [(ok.ok i p hp).lot]
      refine ⟨_, rfl, iteF ?_⟩
      exact ⟨_, _, rfl, s2⟩
    · rintro σ H' ⟨x0, y0, rfl, s1⟩
      tm_at "w"
      refine ⟨b, dx, [], rfl, s1 _ _ hb, rfl, ?_⟩
      tm_at "w"
      refine ⟨b, dx, pa, [], P, rfl, s1 _ _ hb, .inl rfl, hP.tk (Same.tk s1), ok.rt, by omega, fun lb H2 bt nl at' => ?_⟩
      tm_at "w"
      exact k lb H2 (But.same s1 bt) (Same.free s1 nl) at'
/-- the book that is made of parents -/
theorem mk_book {C : Addr} {K : PySem.W.Frag} {H : Hp} {pa : Addr} {P : List (List Nat)} {Q : Addr → Hp → Prop} {E : XK} (hP : ParAt H pa P) (ok : OkP P)
    (k : ∀ b H', Made C H H' b P → b.pa = pa → Q b.b H') : ∀ x dx, H x = none → H dx = none → dx ≠ x → sp_Book___init__ C K [.ref x, .ref pa] (upd (upd H dx (.own x)) x (.ins C dx [])) (fun v H2 => v = .non ∧ Q x H2) E := by
  intro x dx hx hd ne
  have s1 : Same H (upd (upd H dx (.own x)) x (.ins C dx [])) := Same.mut (Same.new (Same.refl H) hd) hx
  refine ⟨x, dx, pa, P, rfl, upd_same, hP.tk (Same.tk s1), ok, fun lb H' bt nl at' => ⟨rfl, ?_⟩⟩
  exact k ⟨x, dx, pa, lb⟩ H' ⟨But.new s1 hx bt, at', ⟨hx⟩, ⟨Same.free s1 nl⟩⟩ rfl
/-! book_of -/
def sp_book_of (C : Addr) (K : PySem.W.Frag) : Sp := fun vs H Q _ => ∃ (a : Addr) (xs : List V) (P : List (List Nat)), vs = [.ref a] ∧ (H a = some (.lst xs) ∨ H a = some (.tup xs)) ∧ ParL H xs P ∧ RtP P ∧ P.length ≤ 1000 ∧
  ∀ b H', Made C H H' b P → Q (.ref b.b) H'
theorem sc_book_of : FnScope ["parents", "found"] ["parents"] (defScope s_book_of) := ⟨rfl, rfl, rfl, by decide +kernel, rfl, by decide +kernel, by decide +kernel⟩
theorem ok_book_of (T : Top P K mg) : FnOk P w K mg base CX0 7 T.f_book_of T.fd_book_of ["parents"] (sp_book_of T.C_Book K) := by
  have G_Book___init__ := ok_Book___init__ (P := P) (w := w) (base := base) T
  have G_Book_fill := ok_Book_fill (P := P) (w := w) (base := base) T
  refine T.F_book_of.ok sc_book_of (fun vs H Q E h => ?_) (fun cdv A outer s H vs Q E hr h => ?_)
  · obtain ⟨a, xs, P, rfl, _⟩ := h
    rfl
  · obtain ⟨a, xs, P, rfl, ha, hP, hR, hn, k⟩ := h
    refine ⟨_, (pss_cons (ps_set (i := 1) sc_book_of.nd rfl (Or.inl rfl) (pe_make T.M_Book G_Book___init__ hr (by rfl) T.g_Book T.b_Book___init__ .nil pass0 (pa_cons (pe_tup pa_nil) pa_nil)))
      (pss_cons (ps_expr (pe_meth (pv 1) T.cl_Book T.m_Book_fill G_Book_fill (hr.mono (by decide)) T.b_Book_fill .nil pass0 (pa_cons (pe_callTy (r := rTupQ K) (T := "tuple") call_tuple_of (by rfl) T.z_tuple (by decide +kernel) (pa_cons (pv 0) pa_nil)) pa_nil)))
      (pss_one (ps_ret (pv 1))))), ?_⟩
    have cB := T.cl_Book
    have nB1 := T.n_Book_parents
    have nB2 := T.n_Book_bits
    tm_at "w"
    intro e ne
    have s1 : Same H (upd H e (.tup [])) := Same.new (Same.refl H) ne
    tm_at "w"
    refine mk_book (pa := e) (P := []) ⟨[], upd_same, ParL.nil⟩ OkP.nil fun f H1 mk epa => ?_
    tm_at "w"
    have m1 := mk.early s1
    have s2 := m1.same
    have hins := mk.here.ins
    have fin : ∀ (t : Addr) (H2 : Hp), Same H1 H2 → ∀ lb H3, But f.b H2 H3 → H2 lb = none → BookAt T.C_Book H3 ⟨f.b, f.dx, t, lb⟩ P → Q (.ref f.b) H3 := fun t H2 s3 lb H3 bt nl at' =>
      k ⟨f.b, f.dx, t, lb⟩ H3 ⟨But.new (Same.trans s2 s3) m1.nb.e bt, at', m1.nb, ⟨Same.free (Same.trans s2 s3) nl⟩⟩
    refine ⟨f.b, f.dx, _, rfl, hins, bkF_no _ _ (by decide +kernel) (by decide +kernel), ?_⟩
    rcases ha with ha | ha
    · refine ⟨_, rfl, a, xs, rfl, .inl ⟨SqL.of (s2 _ _ ha), fun t nt => ?_⟩⟩
      have s3 : Same H1 (upd H1 t (.tup xs)) := Same.new (Same.refl H1) nt
      refine ⟨f.b, f.dx, t, _, P, rfl, s3 _ _ hins, .inr ⟨_, _, rfl⟩, ⟨xs, upd_same, hP.tk (Same.tk (Same.trans s2 s3))⟩, hR, hn, fun lb H3 bt nl at' => ?_⟩
      tm_at "w"
      exact fin t _ s3 lb H3 bt nl at'
    · refine ⟨_, rfl, a, xs, rfl, .inr ⟨SqT.of (s2 _ _ ha), ?_⟩⟩
      refine ⟨f.b, f.dx, a, _, P, rfl, hins, .inr ⟨_, _, rfl⟩, ⟨xs, s2 _ _ ha, hP.tk (Same.tk s2)⟩, hR, hn, fun lb H3 bt nl at' => ?_⟩
      tm_at "w"
      exact fin a _ (Same.refl H1) lb H3 bt nl at'
/-! grown -/
theorem TK.mutI {H : Hp} {p : Addr} {o : HO} {C dx : Addr} {fs : List (Str × V)} (h : H p = some (.ins C dx fs)) : TK H (upd H p o) := fun a xs e => upd_at (ne_of e h (by intro z; cases z)) e
theorem cat_any {K : PySem.W.Frag} {H : Hp} {a b : Addr} {xs ys : List V} {Q : VK} (hx : H a = some (.tup xs)) (hy : H b = some (.tup ys)) (hl : xs.length + ys.length ≤ sizeLine)
    (k : ∀ p H', Same H H' → H' p = some (.tup (xs ++ ys)) → Q (.ref p) H') : rCatA K (.ref a) (.ref b) H Q := by
  refine ⟨a, b, xs, ys, rfl, rfl, SqT.of hx, SqT.of hy, hl, fun e => ?_, fun _ e => ?_, fun _ _ p np => ?_⟩
  · exact k b H (Same.refl H) (by rw [hy, e]; rfl)
  · exact k a H (Same.refl H) (by rw [hx, e, List.append_nil])
  · exact k p _ (Same.new (Same.refl H) np) upd_same
def sp_grown (C : Addr) (K : PySem.W.Frag) : Sp := fun vs H Q _ => ∃ (l : Bk) (a : Addr) (P : List (List Nat)) (q : List Nat), vs = [.ref l.b, .ref a] ∧ BookAt C H l P ∧ H a = some (.tup (natsV q)) ∧ (∀ x ∈ q, x < P.length) ∧ P.length ≤ 1000 ∧
  ∀ b H', Made C H H' b (P ++ [q]) → Q (.ref b.b) H'
theorem sc_grown : FnScope ["book", "parents", "found", "bits", "parent"] ["book", "parents"] (defScope s_grown) := ⟨rfl, rfl, rfl, by decide +kernel, rfl, by decide +kernel, by decide +kernel⟩
theorem ok_grown (T : Top P K mg) : FnOk P w K mg base CX0 7 T.f_grown T.fd_grown ["book", "parents"] (sp_grown T.C_Book K) := by
  have G_Book___init__ := ok_Book___init__ (P := P) (w := w) (base := base) T
  refine T.F_grown.ok sc_grown (fun vs H Q E h => ?_) (fun cdv A outer s H vs Q E hr h => ?_)
  · obtain ⟨l, a, P, q, rfl, _⟩ := h
    rfl
  · obtain ⟨l, a, P, q, rfl, hl, ha, hq, hn, k⟩ := h
    refine ⟨_, (pss_cons (ps_set (i := 2) sc_grown.nd rfl (Or.inl rfl) (pe_make T.M_Book G_Book___init__ hr (by rfl) T.g_Book T.b_Book___init__ .nil pass0 (pa_cons (pe_tup pa_nil) pa_nil)))
      (pss_cons (ps_set (i := 3) sc_grown.nd rfl (Or.inl rfl) (pe_op op_shl pe_int (pe_callB (r := rLenQ K) (id := "len") call_len_seq (by rfl) T.z_len (by decide +kernel) (pa_cons (pe_fld (pv 0) rfl) pa_nil))))
      (pss_cons (ps_for PassesOwn.never rfl (pi_tup (pv 1)) (pg_name (i := 4) sc_grown.nd rfl (Or.inl rfl))
      (pss_one (ps_aug (i := 3) sc_grown.nd rfl (Or.inl rfl) (pe_ix (r := rIxL K) ix_list (pe_fld (pv 0) rfl) (pv 4) (fun _ _ => rfl)) ip_or)))
      (pss_cons (ps_fld (pv 2) (pe_op op_catA (pe_fld (pv 0) rfl) (pe_tup (pa_cons (pv 1) pa_nil))) rfl)
      (pss_cons (ps_fld (pv 2) (pe_op op_cat (pe_fld (pv 0) rfl) (pe_lst (pa_cons (pv 3) pa_nil))) rfl)
      (pss_one (ps_ret (pv 2)))))))), ?_⟩
    have cB := T.cl_Book
    have nB1 := T.n_Book_parents
    have nB2 := T.n_Book_bits
    tm_at "w"
    intro e ne
    have s1 : Same H (upd H e (.tup [])) := Same.new (Same.refl H) ne
    tm_at "w"
    refine mk_book (pa := e) (P := []) ⟨[], upd_same, ParL.nil⟩ OkP.nil fun f H1 mk epa => ?_
    have m1 := mk.early s1
    have s2 := m1.same
    have hins := mk.here.ins
    have hl1 := hl.same s2
    have hli := hl1.ins
    have hlb := hl1.bits
    obtain ⟨xs, hx, hxl⟩ := id hl1.par
    have ha1 := s2 _ _ ha
    have hxn := hxl.1
    have hfb : f.b ≠ l.b := fun e => by
      have z := m1.nb.e
      rw [e, hl.ins] at z
      cases z
    tm_at "w"
    refine ⟨⟨_, SqT.of ha1⟩, for_tup (K := K) (a := a) (xs := natsV q) (fun j σ H2 => ∃ z, σ = [some (.ref l.b), some (.ref a), some (.ref f.b), some (.int (((q.take j).foldl (fun f q => f ||| (bitsOf P).getD q 0) (2 ^ P.length) : Nat) : Int)), z] ∧ H2 = H1) ?_ ?_ ?_ ?_⟩
    · refine ⟨none, ?_, rfl⟩
      have e : (1 : Int) * 2 ^ ((xs.length : Int)).toNat = ((2 ^ P.length : Nat) : Int) := by rw [Int.one_mul, Int.toNat_natCast, hxn, Int.natCast_pow]; rfl
      show _ = ([some (.ref l.b), some (.ref a), some (.ref f.b), some (.int ((2 ^ P.length : Nat) : Int)), none] : L2.St)
      rw [← e]
      rfl
    · rintro j σ H2 _ ⟨_, rfl, rfl⟩
      exact SqT.of ha1
    · rintro j y σ H2 hy ⟨z, rfl, rfl⟩
      obtain ⟨x, hx2, rfl, _⟩ := natsV_here hy
      have xl := hq x (List.mem_of_getElem? hx2)
      have hq2 : (natsV (bitsOf P))[x]? = some (.int (((bitsOf P).getD x 0 : Nat) : Int)) := by
        refine natsV_at ?_
        rw [List.getD_eq_getElem?_getD, List.getElem?_eq_getElem (by rw [bitsOf_len]; omega)]
        rfl
      tm_at "w"
      refine ⟨some (.int (x : Int)), ?_, rfl⟩
      show ([some (.ref l.b), some (.ref a), some (.ref f.b), some (.int (Builtin.bitOr _ _)), some (.int (x : Int))] : L2.St) = _
      rw [bitOr_nat, List.take_add_one, hx2, List.foldl_append]
      rfl
    · rintro σ H2 ⟨z, rfl, rfl⟩
      rw [natsV_len, List.take_length]
      tm_at "w"
      intro p1 np1
      have s3 : Same H2 (upd H2 p1 (.tup [.ref a])) := Same.new (Same.refl H2) np1
      refine cat_any (s3 _ _ hx) upd_same (by rw [hxn]; show _ + 1 ≤ sizeLine; have := lt_line (n := P.length + 1) (by omega); omega) fun pa2 H4 s4 hpa2 => ?_
      have s24 := Same.trans s3 s4
      have hins4 := s24 _ _ hins
      refine ⟨_, rfl, _, _, _, _, rfl, hins4, cB, nB1, by rw [bkF_eq]; show 2 < 1000; decide, ?_⟩
      rw [bkF_putP]
      have hli4 : upd H4 f.b (.ins T.C_Book f.dx (bkF pa2 f.lb)) l.b = some (HO.ins T.C_Book l.dx (bkF l.pa l.lb)) := (upd_ne hfb.symm).trans (s24 _ _ hli)
      tm_at "w"
      intro l1 nl1
      have w1 : Nw _ l1 := ⟨nl1⟩
      have hlb4 : upd H4 f.b (.ins T.C_Book f.dx (bkF pa2 f.lb)) l.lb = some (.lst (natsV (bitsOf P))) := (upd_ne (m1.nb.ne hl.bits)).trans (s24 _ _ hlb)
      have hin5 : upd H4 f.b (.ins T.C_Book f.dx (bkF pa2 f.lb)) f.b = some (.ins T.C_Book f.dx (bkF pa2 f.lb)) := upd_same
      refine ⟨_, _, _, _, rfl, rfl, (upd_ne (w1.ne hlb4)).trans hlb4, upd_same, by rw [natsV_len, bitsOf_len]; show _ + 1 ≤ sizeLine; have := lt_line (n := P.length + 1) (by omega); omega, fun lb nlb0 => ?_⟩
      have w2 : Nw _ lb := ⟨nlb0⟩
      have hin6 := (upd_ne (o := HO.lst [V.int ((List.foldl (fun f q => f ||| (bitsOf P).getD q 0) (2 ^ P.length) q : Nat) : Int)]) (w1.ne hin5)).trans hin5
      have hin7 := (upd_ne (o := HO.lst (natsV (bitsOf P) ++ [V.int ((List.foldl (fun f q => f ||| (bitsOf P).getD q 0) (2 ^ P.length) q : Nat) : Int)])) (w2.ne hin6)).trans hin6
      refine ⟨_, rfl, _, _, _, _, rfl, hin7, cB, nB2, by rw [bkF_eq]; show 2 < 1000; decide, ?_⟩
      rw [bkF_putB]
      tm_at "w"
      have sA : Same H (upd H4 f.b (.ins T.C_Book f.dx (bkF pa2 f.lb))) := Same.mut (Same.trans s2 s24) m1.nb.e
      have sB := Same.new (o := HO.lst [V.int ((List.foldl (fun f q => f ||| (bitsOf P).getD q 0) (2 ^ P.length) q : Nat) : Int)]) sA nl1
      have sC := Same.new (o := HO.lst (natsV (bitsOf P) ++ [V.int ((List.foldl (fun f q => f ||| (bitsOf P).getD q 0) (2 ^ P.length) q : Nat) : Int)])) sB nlb0
      have k1 : TK H4 (upd H4 f.b (.ins T.C_Book f.dx (bkF pa2 f.lb))) := TK.mutI hins4
      have k2 := TK.trans k1 (TK.new (o := HO.lst [V.int ((List.foldl (fun f q => f ||| (bitsOf P).getD q 0) (2 ^ P.length) q : Nat) : Int)]) nl1)
      have k3 := TK.trans k2 (TK.new (o := HO.lst (natsV (bitsOf P) ++ [V.int ((List.foldl (fun f q => f ||| (bitsOf P).getD q 0) (2 ^ P.length) q : Nat) : Int)])) nlb0)
      have k4 := TK.trans k3 (TK.mutI (o := .ins T.C_Book f.dx (bkF pa2 lb)) hin7)
      refine k ⟨f.b, f.dx, pa2, lb⟩ _ ⟨Same.mut sC m1.nb.e, ⟨upd_same, ⟨_, k4 _ _ hpa2, (hxl.tk (TK.trans (Same.tk s24) k4)).snoc (k4 _ _ (s24 _ _ ha1))⟩, ?_⟩, m1.nb, ⟨Same.free sB nlb0⟩⟩
      refine (upd_ne (w2.ne hin6).symm).trans (upd_same.trans ?_)
      rw [natsV_snoc, bitsOf_snoc, bitsOf_len]
      rfl
/-! many_of -/
def sp_many_of (C : Addr) (K : PySem.W.Frag) : Sp := fun vs H Q _ => ∃ (l : Bk) (P : List (List Nat)), vs = [.ref l.b] ∧ BookAt C H l P ∧ Q (.int (P.length : Nat)) H
theorem sc_many_of : FnScope ["book"] ["book"] (defScope s_many_of) := ⟨rfl, rfl, rfl, by decide +kernel, rfl, by decide +kernel, by decide +kernel⟩
theorem ok_many_of (T : Top P K mg) : FnOk P w K mg base CX0 1 T.f_many_of T.fd_many_of ["book"] (sp_many_of T.C_Book K) := by
  refine T.F_many_of.ok sc_many_of (fun vs H Q E h => ?_) (fun cdv A outer s H vs Q E hr h => ?_)
  · obtain ⟨l, P, rfl, _⟩ := h
    rfl
  · obtain ⟨l, P, rfl, hl, k⟩ := h
    refine ⟨_, (pss_one (ps_ret (pe_callB (r := rLenQ K) (id := "len") call_len_seq (by rfl) T.z_len (by decide +kernel) (pa_cons (pe_fld (pv 0) rfl) pa_nil)))), ?_⟩
    have cB := T.cl_Book
    have nB1 := T.n_Book_parents
    have nB2 := T.n_Book_bits
    have hli := hl.ins
    obtain ⟨xs, hx, hxl⟩ := id hl.par
    rw [← hxl.1] at k
    tm_at "w"
    exact k
/-! is_one -/
theorem bit_val (b p : Nat) : Builtin.bitAnd ((b : Int) / 2 ^ ((p : Int)).toNat) 1 = if b.testBit p then 1 else 0 := by
  rw [PyProof.Rows.bitAnd_m1, Int.toNat_natCast]
  have e : ((b : Int) / 2 ^ p) % 2 = ((b / 2 ^ p % 2 : Nat) : Int) := by
    rw [Int.natCast_emod, Int.natCast_ediv, Int.natCast_pow]
    rfl
  rw [e, Nat.testBit_eq_decide_div_mod_eq]
  have h : b / 2 ^ p % 2 < 2 := Nat.mod_lt _ (by decide)
  by_cases h1 : b / 2 ^ p % 2 = 1
  · rw [h1]
    rfl
  · have h0 : b / 2 ^ p % 2 = 0 := by omega
    rw [h0]
    rfl
theorem bit_one (b p : Nat) : decide (V.int (Builtin.bitAnd ((b : Int) / 2 ^ ((p : Int)).toNat) 1) = V.int 1) = b.testBit p := by
  rw [bit_val]
  cases b.testBit p
  · exact decide_eq_false (by intro e; cases e)
  · exact decide_eq_true rfl
def sp_is_one (C : Addr) (K : PySem.W.Frag) : Sp := fun vs H Q _ => ∃ (l : Bk) (P : List (List Nat)) (x p : Nat), vs = [.ref l.b, .int x, .int p] ∧ BookAt C H l P ∧ x < P.length ∧ Q (.bl (isA P x p)) H
theorem sc_is_one : FnScope ["book", "x", "p"] ["book", "x", "p"] (defScope s_is_one) := ⟨rfl, rfl, rfl, by decide +kernel, rfl, by decide +kernel, by decide +kernel⟩
theorem ok_is_one (T : Top P K mg) : FnOk P w K mg base CX0 1 T.f_is_one T.fd_is_one ["book", "x", "p"] (sp_is_one T.C_Book K) := by
  refine T.F_is_one.ok sc_is_one (fun vs H Q E h => ?_) (fun cdv A outer s H vs Q E hr h => ?_)
  · obtain ⟨l, P, x, p, rfl, _⟩ := h
    rfl
  · obtain ⟨l, P, x, p, rfl, hl, hx, k⟩ := h
    refine ⟨_, (pss_one (ps_ret (pe_cmpR op_eq (pe_op op_and (pe_op op_shr (pe_ix (r := rIxL K) ix_list (pe_fld (pv 0) rfl) (pv 1) (fun _ _ => rfl)) (pv 2)) pe_int) pe_int (nomark _)))), ?_⟩
    have cB := T.cl_Book
    have nB1 := T.n_Book_parents
    have nB2 := T.n_Book_bits
    have hli := hl.ins
    have hb : (bitsOf P)[x]? = some ((bitsOf P).getD x 0) := by
      rw [List.getD_eq_getElem?_getD, List.getElem?_eq_getElem (by rw [bitsOf_len]; exact hx)]
      rfl
    have hb2 := natsV_at hb
    have hbits := hl.bits
    tm_at "w"
    have e : isA P x p = decide (V.int (Builtin.bitAnd ((((bitsOf P).getD x 0 : Nat) : Int) / 2 ^ ((p : Int)).toNat) 1) = V.int 1) := (bit_one _ _).symm
    rw [e] at k
    exact k
/-! Groups.__init__ -/
/-! ### loops over enumerate(a list) -/
theorem for_enumL {K : PySem.W.Frag} {a : Addr} {xs : List V} {g : TG} {tb : TS} {D : Ends} {σ : L2.St} {H : Hp} (Pv : Nat → L2.St → Hp → Prop) (h0 : Pv 0 σ H) (hq : ∀ i σ H, Pv i σ H → SqL K H a xs)
    (hs : ∀ (i : Nat) (x : V) (t : Addr) (σ : L2.St) (H : Hp), xs[i]? = some x → Pv i σ H → H t = none → g (.ref t) σ (upd H t (.tup [.int (i : Nat), x])) fun σ2 H2 => tb { D with nx := Pv (i + 1), ct := Pv (i + 1), bk := D.nx } σ2 H2)
    (hd : ∀ σ H, Pv xs.length σ H → D.nx σ H) : ∃ W : Nat → Nat → L2.St → Hp → Prop, (∃ m, W 0 m σ H) ∧ ∀ i m σ H, W i m σ H →
      ((Ite K a).stop i H ∧ D.nx σ H) ∨ ((Ite K a).go i H ∧ ∃ N : L2.St → Hp → Prop, (∀ σ' H', N σ' H' → ∃ m', m' < m ∧ W (i + 1) m' σ' H') ∧ ∀ v H', (Ite K a).yld i H v H' → g v σ H' fun σ2 H2 => tb { D with nx := N, ct := N, bk := D.nx } σ2 H2) := by
  refine ⟨fun i m σ H => m = xs.length - i ∧ i ≤ xs.length ∧ Pv i σ H, ⟨_, rfl, Nat.zero_le _, h0⟩, ?_⟩
  rintro i m σ H ⟨rfl, hi, p⟩
  have q := hq i σ H p
  by_cases lt : i < xs.length
  · refine .inr ⟨⟨xs, _, q, List.getElem?_eq_getElem lt⟩, Pv (i + 1), fun σ' H' p2 => ⟨_, by omega, rfl, lt, p2⟩, fun v H' y => ?_⟩
    obtain ⟨t, x, rfl, nt, rfl, f⟩ := y
    exact hs i x t σ H (f xs q) p nt
  · have e : i = xs.length := by omega
    subst e
    exact .inl ⟨⟨xs, q, Nat.le_refl _⟩, hd σ H p⟩
theorem lc_enumLF {K : PySem.W.Frag} {a : Addr} {xs : List V} {g : TG} {tt : TT} {te : TE} {vs : List Nat} {σ : St} {H1 : Hp} {D : Addr} {Qd : Hp → Prop} (f : Nat → Option V) (hx : H1 a = some (.lst xs)) (nD : H1 D = none) (hn : xs.length ≤ 100000)
    (hs : ∀ (i : Nat) (x : V) (Z : Addr) (H : Hp) (N : V → Hp → Prop) (M : Hp → Prop), xs[i]? = some x → Same H1 H → H Z = some (.tup [.int (i : Nat), x]) → (∀ v H4, f i = some v → Same H H4 → N v H4) → (∀ H4, f i = none → Same H H4 → M H4) → g (.ref Z) (wipe σ vs) H fun σ2 H2 => wipe σ2 vs = wipe σ vs ∧ tt σ2 H2 fun b H3 => if b = true then te σ2 H3 N else M H3)
    (hd : ∀ H, Same H1 H → H D = some (.lst ((List.range xs.length).filterMap f)) → Qd H) : ∃ W : Nat → Nat → Hp → Prop, (∃ m, W 0 m (upd H1 D (.lst []))) ∧ ∀ i m H, W i m H →
      ((Ite K a).stop i H ∧ Qd H) ∨ ((Ite K a).go i H ∧ ∃ Nx : Hp → Prop, (∀ H', Nx H' → ∃ m', m' < m ∧ W (i + 1) m' H') ∧ ∀ x H', (Ite K a).yld i H x H' → g x (wipe σ vs) H' fun σ2 H2 => wipe σ2 vs = wipe σ vs ∧ tt σ2 H2 fun b H3 =>
        if b = true then te σ2 H3 fun y H4 => ∃ acc, H4 D = some (.lst acc) ∧ acc.length < sizeLine ∧ Nx (upd H4 D (.lst (acc ++ [y]))) else Nx H3) := by
  refine ⟨fun i m H => m = xs.length - i ∧ i ≤ xs.length ∧ Same H1 H ∧ H D = some (.lst ((List.range i).filterMap f)), ⟨xs.length, rfl, Nat.zero_le _, Same.new (Same.refl H1) nD, upd_same⟩, ?_⟩
  rintro i m H ⟨rfl, hi, s, hD⟩
  have qx : SqL K H a xs := SqL.of (s _ _ hx)
  have hz := filterMap_range_len f i
  by_cases hlt : i < xs.length
  · have ex : xs[i]? = some xs[i] := List.getElem?_eq_getElem hlt
    refine .inr ⟨⟨xs, _, qx, ex⟩, fun H => i < xs.length ∧ Same H1 H ∧ H D = some (.lst ((List.range (i + 1)).filterMap f)), fun H' p' => ⟨xs.length - (i + 1), by omega, rfl, hlt, p'.2⟩, fun v H' y => ?_⟩
    obtain ⟨Z, x', rfl, hZ, rfl, f1⟩ := y
    have s1 : Same H (upd H Z (.tup [.int (i : Nat), x'])) := Same.new (Same.refl H) hZ
    refine hs i x' Z _ _ _ (f1 xs qx) (s.trans s1) upd_same (fun v H4 e s4 => ⟨_, s4 _ _ (s1 _ _ hD), lt_line (by omega), hlt, ?_, ?_⟩) (fun H4 e s4 => ⟨hlt, ?_, ?_⟩)
    · exact Same.mut ((s.trans s1).trans s4) nD
    · rw [filterMap_range_succ, e]
      exact upd_same
    · exact (s.trans s1).trans s4
    · rw [filterMap_range_succ, e, s4 _ _ (s1 _ _ hD)]
      simp
  · have e : i = xs.length := by omega
    subst e
    exact .inl ⟨⟨xs, qx, Nat.le_refl _⟩, hd H s hD⟩
/-! ### two lists of lists of numbers that change: groups (false), held (true) -/
def upS (S : Bool → List (List Nat)) (b : Bool) (l : List (List Nat)) : Bool → List (List Nat) := fun b' => if b' = b then l else S b'
theorem upS_at (S : Bool → List (List Nat)) (b : Bool) (l : List (List Nat)) : upS S b l b = l := if_pos rfl
theorem upS_ne (S : Bool → List (List Nat)) {b b' : Bool} (h : b' ≠ b) (l : List (List Nat)) : upS S b l b' = S b' := if_neg h
structure GF (H0 H : Hp) (R : Bool → Addr) (S : Bool → List (List Nat)) (F : Bool → Nat → Addr) : Prop where
  lists : ∀ b, H (R b) = some (.lst ((List.range (S b).length).map fun j => V.ref (F b j)))
  rows : ∀ b (j : Nat) q, (S b)[j]? = some q → H (F b j) = some (.lst (natsV q))
  inj : ∀ b (j : Nat) b' (j' : Nat), j < (S b).length → j' < (S b').length → F b j = F b' j' → b = b' ∧ j = j'
  apart : ∀ b (j : Nat) b', j < (S b).length → F b j ≠ R b'
  two : R false ≠ R true
  newR : ∀ b, H0 (R b) = none
  newF : ∀ b (j : Nat), j < (S b).length → H0 (F b j) = none
structure G (H0 H : Hp) (R : Bool → Addr) (S : Bool → List (List Nat)) : Prop where
  same : Same H0 H
  ex : ∃ F, GF H0 H R S F
section
variable {H0 H H' : Hp} {R : Bool → Addr} {S : Bool → List (List Nat)}
theorem GF.ne {F : Bool → Nat → Addr} (g : GF H0 H R S F) {b b' : Bool} (h : b ≠ b') : R b ≠ R b' := by
  cases b <;> cases b'
  · exact absurd rfl h
  · exact g.two
  · exact g.two.symm
  · exact absurd rfl h
theorem GF.row {F : Bool → Nat → Addr} (g : GF H0 H R S F) {b : Bool} {j : Nat} (h : j < (S b).length) : ∃ q, (S b)[j]? = some q ∧ H (F b j) = some (.lst (natsV q)) := ⟨_, List.getElem?_eq_getElem h, g.rows b j _ (List.getElem?_eq_getElem h)⟩
theorem G.later (g : G H0 H R S) (s : Same H H') : G H0 H' R S := by
  obtain ⟨F, f⟩ := g.ex
  exact ⟨Same.trans g.same s, F, fun b => s _ _ (f.lists b), fun b j q e => s _ _ (f.rows b j q e), f.inj, f.apart, f.two, f.newR, f.newF⟩
theorem G.at (g : G H0 H R S) (b : Bool) : ∃ xs, H (R b) = some (.lst xs) ∧ xs.length = (S b).length ∧ ∀ (j : Nat) q, (S b)[j]? = some q → ∃ a, xs[j]? = some (.ref a) ∧ H a = some (.lst (natsV q)) := by
  obtain ⟨F, f⟩ := g.ex
  refine ⟨_, f.lists b, by rw [List.length_map, List.length_range], fun j q e => ⟨F b j, ?_, f.rows b j q e⟩⟩
  have hj := (List.getElem?_eq_some_iff.mp e).1
  rw [List.getElem?_map, List.getElem?_range hj]
  rfl
theorem G.init {l h : Addr} (nl : H0 l = none) (nh : H0 h = none) (n : l ≠ h) (s : Same H0 H) (hl : H l = some (.lst [])) (hh : H h = some (.lst [])) : G H0 H (fun b => if b = true then h else l) (fun _ => []) := by
  refine ⟨s, fun _ _ => l, fun b => ?_, fun b j q e => by simp at e, fun b j b' j' e => absurd e (Nat.not_lt_zero _), fun b j b' e => absurd e (Nat.not_lt_zero _), ?_, fun b => ?_, fun b j e => absurd e (Nat.not_lt_zero _)⟩
  · cases b
    · exact hl
    · exact hh
  · exact n
  · cases b
    · exact nl
    · exact nh
theorem range_snoc {F : Nat → Addr} {e : Addr} (n : Nat) : ((List.range n).map fun j => V.ref (F j)) ++ [V.ref e] = (List.range (n + 1)).map fun j => V.ref (if j = n then e else F j) := by
  rw [List.range_succ, List.map_append]
  congr 1
  · refine List.map_congr_left fun j hj => ?_
    rw [List.mem_range] at hj
    rw [if_neg (by omega)]
  · show [V.ref e] = [V.ref (if n = n then e else F n)]
    rw [if_pos rfl]
theorem G.grow (g : G H0 H R S) (b : Bool) {e : Addr} {xs : List V} (ne : H e = none) (hx : H (R b) = some (.lst xs)) : G H0 (upd (upd H e (.lst [])) (R b) (.lst (xs ++ [.ref e]))) R (upS S b (S b ++ [[]])) := by
  obtain ⟨F, f⟩ := g.ex
  have ex : xs = (List.range (S b).length).map fun j => V.ref (F b j) := by
    have := f.lists b
    rw [hx] at this
    injection this with this
    injection this
  have nF : ∀ b' (j : Nat), j < (S b').length → F b' j ≠ e := fun b' j hj => by
    obtain ⟨q, _, h⟩ := f.row hj
    exact ne_of_none h ne
  have nR : ∀ b', R b' ≠ e := fun b' => ne_of_none (f.lists b') ne
  have s1 : Same H0 (upd H e (.lst [])) := Same.new g.same ne
  have len : ∀ b', b' ≠ b → (upS S b (S b ++ [[]]) b').length = (S b').length := fun b' h => by rw [upS_ne S h]
  have lenb : (upS S b (S b ++ [[]]) b).length = (S b).length + 1 := by rw [upS_at, List.length_append]; rfl
  refine ⟨Same.mut s1 (f.newR b), fun b' j => if b' = b ∧ j = (S b).length then e else F b' j, ?_, ?_, ?_, ?_, f.two, f.newR, ?_⟩
  · intro b'
    by_cases h : b' = b
    · subst h
      rw [upd_same, lenb, ex, range_snoc]
      congr 2
      refine List.map_congr_left fun j _ => ?_
      simp
    · rw [upd_ne (f.ne h), upd_ne (nR b'), len b' h, f.lists b']
      congr 2
      refine List.map_congr_left fun j _ => ?_
      rw [if_neg (fun z => h z.1)]
  · intro b' j q hq
    by_cases h : b' = b
    · subst h
      rw [upS_at] at hq
      by_cases hj : j < (S b').length
      · rw [List.getElem?_append_left hj] at hq
        rw [if_neg (fun z => by omega), upd_ne (f.apart b' j b' hj), upd_ne (nF b' j hj)]
        exact f.rows b' j q hq
      · rw [List.getElem?_append_right (by omega)] at hq
        have l := (List.getElem?_eq_some_iff.mp hq).1
        rw [List.length_singleton] at l
        have ej : j = (S b').length := by omega
        rw [ej, Nat.sub_self] at hq
        rw [if_pos ⟨rfl, ej⟩, upd_ne (nR b').symm, upd_same, ← Option.some.inj hq]
        rfl
    · rw [upS_ne S h] at hq
      have hj := (List.getElem?_eq_some_iff.mp hq).1
      rw [if_neg (fun z => h z.1), upd_ne (f.apart b' j b hj), upd_ne (nF b' j hj)]
      exact f.rows b' j q hq
  · intro b1 j1 b2 j2 h1 h2 e12
    have key : ∀ b' j, j < (upS S b (S b ++ [[]]) b').length → ¬ (b' = b ∧ j = (S b).length) → j < (S b').length := fun b' j hj hn => by
      by_cases h : b' = b
      · subst h
        rw [lenb] at hj
        have : j ≠ (S b').length := fun z => hn ⟨rfl, z⟩
        omega
      · rw [len b' h] at hj
        exact hj
    by_cases c1 : b1 = b ∧ j1 = (S b).length
    · by_cases c2 : b2 = b ∧ j2 = (S b).length
      · exact ⟨c1.1.trans c2.1.symm, c1.2.trans c2.2.symm⟩
      · rw [if_pos c1, if_neg c2] at e12
        exact absurd e12.symm (nF b2 j2 (key b2 j2 h2 c2))
    · by_cases c2 : b2 = b ∧ j2 = (S b).length
      · rw [if_neg c1, if_pos c2] at e12
        exact absurd e12 (nF b1 j1 (key b1 j1 h1 c1))
      · rw [if_neg c1, if_neg c2] at e12
        exact f.inj b1 j1 b2 j2 (key b1 j1 h1 c1) (key b2 j2 h2 c2) e12
  · intro b' j b2 hj
    by_cases c : b' = b ∧ j = (S b).length
    · rw [if_pos c]
      exact (nR b2).symm
    · rw [if_neg c]
      refine f.apart b' j b2 ?_
      by_cases h : b' = b
      · subst h
        rw [lenb] at hj
        have : j ≠ (S b').length := fun z => c ⟨rfl, z⟩
        omega
      · rw [len b' h] at hj
        exact hj
  · intro b' j hj
    by_cases c : b' = b ∧ j = (S b).length
    · rw [if_pos c]
      exact Same.free g.same ne
    · rw [if_neg c]
      refine f.newF b' j ?_
      by_cases h : b' = b
      · subst h
        rw [lenb] at hj
        have : j ≠ (S b').length := fun z => c ⟨rfl, z⟩
        omega
      · rw [len b' h] at hj
        exact hj
theorem G.push (g : G H0 H R S) (b : Bool) {j : Nat} {q q' : List Nat} {a : Addr} {xs : List V} (hq : (S b)[j]? = some q) (hx : H (R b) = some (.lst xs)) (ha : xs[j]? = some (.ref a)) : G H0 (upd H a (.lst (natsV q'))) R (upS S b ((S b).set j q')) := by
  obtain ⟨F, f⟩ := g.ex
  have hj := (List.getElem?_eq_some_iff.mp hq).1
  have ea : a = F b j := by
    have := f.lists b
    rw [hx] at this
    injection this with this
    injection this with this
    rw [this, List.getElem?_map, List.getElem?_range hj] at ha
    injection ha with ha
    injection ha with ha
    exact ha.symm
  subst ea
  have len : ∀ b', (upS S b ((S b).set j q') b').length = (S b').length := fun b' => by
    by_cases h : b' = b
    · subst h
      rw [upS_at, List.length_set]
    · rw [upS_ne S h]
  refine ⟨Same.mut g.same (f.newF b j hj), F, fun b' => ?_, fun b' i r hr => ?_, fun b1 j1 b2 j2 h1 h2 => ?_, fun b1 j1 b2 h1 => ?_, f.two, f.newR, fun b1 j1 h1 => ?_⟩
  · rw [upd_ne (f.apart b j b' hj).symm, len, f.lists b']
  · by_cases h : b' = b ∧ i = j
    · obtain ⟨rfl, rfl⟩ := h
      rw [upS_at, List.getElem?_set, if_pos rfl, if_pos hj] at hr
      rw [upd_same, Option.some.inj hr]
    · have hi : i < (S b').length := by
        have := (List.getElem?_eq_some_iff.mp hr).1
        rw [len] at this
        exact this
      have hr2 : (S b')[i]? = some r := by
        by_cases hb : b' = b
        · subst hb
          rw [upS_at, List.getElem?_set, if_neg (fun z => h ⟨rfl, z.symm⟩)] at hr
          exact hr
        · rw [upS_ne S hb] at hr
          exact hr
      rw [upd_ne (fun z => h (f.inj b' i b j hi hj z))]
      exact f.rows b' i r hr2
  · rw [len] at h1 h2
    exact f.inj b1 j1 b2 j2 h1 h2
  · rw [len] at h1
    exact f.apart b1 j1 b2 h1
  · rw [len] at h1
    exact f.newF b1 j1 h1
/-- another new list in the place of a row -/
theorem GF.swap {F : Bool → Nat → Addr} (f : GF H0 H R S F) (b : Bool) {j : Nat} {q : List Nat} {c : Addr} (hj : j < (S b).length) (hc : H c = some (.lst (natsV q))) (nF : ∀ b' (i : Nat), i < (S b').length → F b' i ≠ c) (nR : ∀ b', R b' ≠ c) (n0 : H0 c = none) :
    GF H0 (upd H (R b) (.lst (((List.range (S b).length).map fun i => V.ref (F b i)).set j (.ref c)))) R (upS S b ((S b).set j q)) (fun b' i => if b' = b ∧ i = j then c else F b' i) := by
  have len : ∀ b', (upS S b ((S b).set j q) b').length = (S b').length := fun b' => by
    by_cases h : b' = b
    · subst h
      rw [upS_at, List.length_set]
    · rw [upS_ne S h]
  refine ⟨fun b' => ?_, fun b' i r hr => ?_, fun b1 j1 b2 j2 h1 h2 e => ?_, fun b1 j1 b2 h1 => ?_, f.two, f.newR, fun b1 j1 h1 => ?_⟩
  · by_cases h : b' = b
    · subst h
      rw [upd_same, len]
      congr 2
      refine List.ext_getElem? fun i => ?_
      rw [List.getElem?_set, List.getElem?_map, List.getElem?_map, List.length_map, List.length_range]
      by_cases hi : i < (S b').length
      · rw [List.getElem?_range hi]
        by_cases e : j = i
        · rw [if_pos e, if_pos hj]
          show _ = some (V.ref (if b' = b' ∧ i = j then c else F b' i))
          rw [if_pos ⟨rfl, e.symm⟩]
        · rw [if_neg e]
          show some (V.ref (F b' i)) = some (V.ref (if b' = b' ∧ i = j then c else F b' i))
          rw [if_neg (fun z => e z.2.symm)]
      · rw [if_neg (by omega), List.getElem?_eq_none (by rw [List.length_range]; omega)]
        rfl
    · rw [upd_ne (f.ne h), len, f.lists b']
      congr 2
      refine List.map_congr_left fun i _ => ?_
      rw [if_neg (fun z => h z.1)]
  · have hi : i < (S b').length := by
      have := (List.getElem?_eq_some_iff.mp hr).1
      rw [len] at this
      exact this
    by_cases h : b' = b ∧ i = j
    · obtain ⟨rfl, rfl⟩ := h
      rw [upS_at, List.getElem?_set, if_pos rfl, if_pos hj] at hr
      rw [if_pos ⟨rfl, rfl⟩, upd_ne (nR b').symm, hc, Option.some.inj hr]
    · have hr2 : (S b')[i]? = some r := by
        by_cases hb : b' = b
        · subst hb
          rw [upS_at, List.getElem?_set, if_neg (fun z => h ⟨rfl, z.symm⟩)] at hr
          exact hr
        · rw [upS_ne S hb] at hr
          exact hr
      rw [if_neg h, upd_ne (f.apart b' i b hi)]
      exact f.rows b' i r hr2
  · rw [len] at h1 h2
    by_cases c1 : b1 = b ∧ j1 = j
    · by_cases c2 : b2 = b ∧ j2 = j
      · exact ⟨c1.1.trans c2.1.symm, c1.2.trans c2.2.symm⟩
      · rw [if_pos c1, if_neg c2] at e
        exact absurd e.symm (nF b2 j2 h2)
    · by_cases c2 : b2 = b ∧ j2 = j
      · rw [if_neg c1, if_pos c2] at e
        exact absurd e (nF b1 j1 h1)
      · rw [if_neg c1, if_neg c2] at e
        exact f.inj b1 j1 b2 j2 h1 h2 e
  · rw [len] at h1
    by_cases c1 : b1 = b ∧ j1 = j
    · rw [if_pos c1]
      exact (nR b2).symm
    · rw [if_neg c1]
      exact f.apart b1 j1 b2 h1
  · rw [len] at h1
    by_cases c1 : b1 = b ∧ j1 = j
    · rw [if_pos c1]
      exact n0
    · rw [if_neg c1]
      exact f.newF b1 j1 h1
theorem G.one (g : G H0 H R S) (s : Same H H') (b : Bool) {j : Nat} {q : List Nat} {c : Addr} {xs : List V} (n : H c = none) (hj : j < (S b).length) (hc : H' c = some (.lst (natsV q))) (hx : H' (R b) = some (.lst xs)) :
    G H0 (upd H' (R b) (.lst (xs.set j (.ref c)))) R (upS S b ((S b).set j q)) := by
  obtain ⟨F, f⟩ := g.ex
  obtain ⟨F', f'⟩ : ∃ F', F' = F ∧ GF H0 H' R S F' := ⟨F, rfl, fun b => s _ _ (f.lists b), fun b j q e => s _ _ (f.rows b j q e), f.inj, f.apart, f.two, f.newR, f.newF⟩
  obtain ⟨rfl, f'⟩ := f'
  have ex : xs = (List.range (S b).length).map fun j => V.ref (F' b j) := by
    have := f'.lists b
    rw [hx] at this
    injection this with this
    injection this
  subst ex
  refine ⟨Same.mut (Same.trans g.same s) (f.newR b), _, f'.swap b hj hc (fun b' i hi => ?_) (fun b' => ne_of_none (f.lists b') n) (Same.free g.same n)⟩
  obtain ⟨r, _, h⟩ := f.row hi
  exact ne_of_none h n
theorem G.both (g : G H0 H R S) (s : Same H H') (b : Bool) {j k : Nat} {q r : List Nat} {c d : Addr} {xs : List V} (nc : H c = none) (nd : H d = none) (ncd : c ≠ d) (hj : j < (S b).length) (hk : k < (S b).length) (hjk : j ≠ k) (hc : H' c = some (.lst (natsV q))) (hd : H' d = some (.lst (natsV r))) (hx : H' (R b) = some (.lst xs)) :
    G H0 (upd (upd H' (R b) (.lst (xs.set j (.ref c)))) (R b) (.lst ((xs.set j (.ref c)).set k (.ref d)))) R (upS S b (((S b).set j q).set k r)) := by
  obtain ⟨F, f⟩ := g.ex
  obtain ⟨F', f'⟩ : ∃ F', F' = F ∧ GF H0 H' R S F' := ⟨F, rfl, fun b => s _ _ (f.lists b), fun b j q e => s _ _ (f.rows b j q e), f.inj, f.apart, f.two, f.newR, f.newF⟩
  obtain ⟨rfl, f'⟩ := f'
  have ex : xs = (List.range (S b).length).map fun j => V.ref (F' b j) := by
    have := f'.lists b
    rw [hx] at this
    injection this with this
    injection this
  subst ex
  have nRc : ∀ b', R b' ≠ c := fun b' => ne_of_none (f.lists b') nc
  have nRd : ∀ b', R b' ≠ d := fun b' => ne_of_none (f.lists b') nd
  have nF : ∀ {c}, H c = none → ∀ b' (i : Nat), i < (S b').length → F' b' i ≠ c := fun n b' i hi => by
    obtain ⟨r, _, h⟩ := f.row hi
    exact ne_of_none h n
  have f1 := f'.swap b hj hc (nF nc) nRc (Same.free g.same nc)
  have len : ∀ b', (upS S b ((S b).set j q) b').length = (S b').length := fun b' => by
    by_cases h : b' = b
    · subst h
      rw [upS_at, List.length_set]
    · rw [upS_ne S h]
  have f2 := f1.swap b (j := k) (q := r) (c := d) (by rw [len]; exact hk) ((upd_ne (nRd b).symm).trans hd) (fun b' i hi => by
    rw [len] at hi
    by_cases h : b' = b ∧ i = j
    · rw [if_pos h]
      exact ncd
    · rw [if_neg h]
      exact nF nd b' i hi) nRd (Same.free g.same nd)
  have e1 := f1.lists b
  rw [upd_same] at e1
  injection e1 with e1
  injection e1 with e1
  rw [← e1, upS_at] at f2
  have e2 : upS (upS S b ((S b).set j q)) b (((S b).set j q).set k r) = upS S b (((S b).set j q).set k r) := by
    funext b'
    by_cases h : b' = b
    · subst h
      rw [upS_at, upS_at]
    · rw [upS_ne _ h, upS_ne _ h, upS_ne _ h]
  rw [e2] at f2
  exact ⟨Same.mut (Same.mut (Same.trans g.same s) (f.newR b)) (f.newR b), _, f2⟩
end
/-! ### the told rule, in plain -/
def lastD (D : List (List Nat)) (s : Nat) : Nat := (D.getD s []).getLastD 0
theorem getD_some {l : List (List Nat)} {i : Nat} {v : List Nat} (h : l[i]? = some v) : l.getD i [] = v := by
  rw [List.getD_eq_getElem?_getD, h]
  rfl
def fitB (P : List (List Nat)) (D : List (List Nat)) (x : Nat) (lot : List Nat) : List Nat := lot.filter fun s => isA P x (lastD D s)
def takenB (P : List (List Nat)) (D : List (List Nat)) (x : Nat) : Nat → List (List Nat) → Nat × Option Nat
  | n, [] => (n, none)
  | n, lot :: r => match (fitB P D x lot).min? with
    | some s => (n, some s)
    | none => if lot.length ≤ n then (n, none) else takenB P D x (n + 1) r
structure OkG (m : Nat) (L D : List (List Nat)) : Prop where
  slots : ∀ lot ∈ L, ∀ s ∈ lot, s < D.length
  few : ∀ (j : Nat) lot, L[j]? = some lot → lot.length ≤ j + 1
  full : ∀ d ∈ D, d ≠ []
  kinds : ∀ d ∈ D, ∀ k ∈ d, k < m
  wl : L.length ≤ m
  wd : D.length ≤ m
  rows : ∀ d ∈ D, d.length ≤ m
theorem min_mem {l : List Nat} {s : Nat} (h : l.min? = some s) : s ∈ l := (List.min?_eq_some_iff.mp h).1
theorem taken_at (P D : List (List Nat)) (x : Nat) : ∀ (L : List (List Nat)) (n : Nat), n ≤ (takenB P D x n L).1 ∧ (takenB P D x n L).1 ≤ n + L.length ∧
    (∀ s, (takenB P D x n L).2 = some s → ∃ lot, L[(takenB P D x n L).1 - n]? = some lot ∧ s ∈ lot) ∧
    ((takenB P D x n L).2 = none → (takenB P D x n L).1 < n + L.length → ∃ lot, L[(takenB P D x n L).1 - n]? = some lot ∧ lot.length ≤ (takenB P D x n L).1)
  | [], n => by
    refine ⟨Nat.le_refl _, Nat.le_refl _, fun s h => ?_, fun _ h => ?_⟩
    · cases h
    · exact absurd h (Nat.lt_irrefl _)
  | lot :: r, n => by
    cases e : (fitB P D x lot).min? with
    | some s =>
      have et : takenB P D x n (lot :: r) = (n, some s) := by unfold takenB; rw [e]
      rw [et]
      refine ⟨Nat.le_refl _, Nat.le_add_right _ _, fun s' h => ?_, fun h => ?_⟩
      · refine ⟨lot, by rw [Nat.sub_self]; rfl, ?_⟩
        rw [← Option.some.inj h]
        exact (List.mem_filter.mp (min_mem e)).1
      · cases h
    | none =>
      by_cases z : lot.length ≤ n
      · have et : takenB P D x n (lot :: r) = (n, none) := by unfold takenB; rw [e]; exact if_pos z
        rw [et]
        refine ⟨Nat.le_refl _, Nat.le_add_right _ _, fun s' h => ?_, fun _ _ => ?_⟩
        · cases h
        · exact ⟨lot, by rw [Nat.sub_self]; rfl, z⟩
      · have et : takenB P D x n (lot :: r) = takenB P D x (n + 1) r := by
          show (match (fitB P D x lot).min? with | some s => (n, some s) | none => if lot.length ≤ n then (n, none) else takenB P D x (n + 1) r) = _
          rw [e]
          exact if_neg z
        rw [et]
        obtain ⟨h1, h2, h3, h4⟩ := taken_at P D x r (n + 1)
        have sh : ∀ m, n + 1 ≤ m → (lot :: r)[m - n]? = r[m - (n + 1)]? := fun m hm => by
          rw [show m - n = (m - (n + 1)) + 1 by omega]
          rfl
        refine ⟨by omega, by rw [List.length_cons]; omega, fun s h => ?_, fun h hl => ?_⟩
        · rw [sh _ h1]
          exact h3 s h
        · rw [sh _ h1]
          rw [List.length_cons] at hl
          exact h4 h (by omega)
/-- one kind more: groups, kinds of the slots, the slot -/
def putN (P L D : List (List Nat)) (x : Nat) : Nat := (takenB P D x 0 L).1
def putSlot (P L D : List (List Nat)) (x : Nat) : Nat := ((takenB P D x 0 L).2).getD D.length
def putL1 (P L D : List (List Nat)) (x : Nat) : List (List Nat) := if putN P L D x = L.length then L ++ [[]] else L
def putD (P L D : List (List Nat)) (x : Nat) : List (List Nat) :=
  let D1 := if (takenB P D x 0 L).2 = none then D ++ [[]] else D
  D1.set (putSlot P L D x) (D1.getD (putSlot P L D x) [] ++ [x])
def putL (P L D : List (List Nat)) (x : Nat) : List (List Nat) :=
  let n := putN P L D x
  let L1 := putL1 P L D x
  let s := putSlot P L D x
  if n = 0 then L1.set 0 [s] else (L1.set n (L1.getD (n - 1) [] ++ [s])).set (n - 1) ((L1.getD n []).filter fun o => !decide (o = s))
theorem putN_le (P L D : List (List Nat)) (x : Nat) : putN P L D x ≤ L.length := by
  have := (taken_at P D x L 0).2.1
  unfold putN
  omega
theorem putL1_len (P L D : List (List Nat)) (x : Nat) : putN P L D x < (putL1 P L D x).length := by
  have := putN_le P L D x
  unfold putL1
  split
  · rw [List.length_append]
    show _ < L.length + 1
    omega
  · omega
theorem set_mem {l : List (List Nat)} {i : Nat} {v y : List Nat} (h : y ∈ l.set i v) : y ∈ l ∨ y = v := List.mem_or_eq_of_mem_set h
theorem getD_mem {l : List (List Nat)} {i : Nat} (h : i < l.length) : l.getD i [] ∈ l := by
  rw [List.getD_eq_getElem?_getD, List.getElem?_eq_getElem h]
  exact List.getElem_mem h
theorem slot_lt {m : Nat} {P L D : List (List Nat)} {x : Nat} (o : OkG m L D) : (takenB P D x 0 L).2 = none ∧ putSlot P L D x = D.length ∨ (∃ s lot, (takenB P D x 0 L).2 = some s ∧ putSlot P L D x = s ∧ s < D.length ∧ L[putN P L D x]? = some lot ∧ s ∈ lot) := by
  cases e : (takenB P D x 0 L).2 with
  | none => exact .inl ⟨rfl, by unfold putSlot; rw [e]; rfl⟩
  | some s =>
    obtain ⟨lot, h1, h2⟩ := (taken_at P D x L 0).2.2.1 s e
    rw [Nat.sub_zero] at h1
    exact .inr ⟨s, lot, rfl, by unfold putSlot; rw [e]; rfl, o.slots lot (List.mem_of_getElem? h1) s h2, h1, h2⟩
theorem putD_len {m : Nat} {P L D : List (List Nat)} {x : Nat} (o : OkG m L D) : D.length ≤ (putD P L D x).length ∧ putSlot P L D x < (putD P L D x).length := by
  unfold putD
  rcases slot_lt (P := P) (x := x) o with ⟨e, h⟩ | ⟨s, lot, e, h, hs, _⟩
  · rw [if_pos e, List.length_set, List.length_append]
    show D.length ≤ D.length + 1 ∧ _ < D.length + 1
    omega
  · rw [if_neg (by rw [e]; intro z; cases z), List.length_set]
    omega
theorem OkG.put {P L D : List (List Nat)} {x : Nat} (o : OkG x L D) : OkG (x + 1) (putL P L D x) (putD P L D x) := by
  obtain ⟨dl, sl⟩ := putD_len (P := P) (x := x) o
  have L1s : ∀ lot ∈ putL1 P L D x, ∀ s ∈ lot, s < D.length := fun lot h s hs => by
    unfold putL1 at h
    split at h
    · rcases List.mem_append.mp h with h | h
      · exact o.slots lot h s hs
      · rw [List.mem_singleton.mp h] at hs
        cases hs
    · exact o.slots lot h s hs
  have L1f : ∀ (j : Nat) lot, (putL1 P L D x)[j]? = some lot → lot.length ≤ j + 1 := fun j lot h => by
    unfold putL1 at h
    split at h
    · by_cases hj : j < L.length
      · rw [List.getElem?_append_left hj] at h
        exact o.few j lot h
      · rw [List.getElem?_append_right (by omega)] at h
        have := List.mem_of_getElem? h
        rw [List.mem_singleton.mp this]
        exact Nat.zero_le _
    · exact o.few j lot h
  have nl := putL1_len P L D x
  have getf : ∀ j, j < (putL1 P L D x).length → ((putL1 P L D x).getD j []).length ≤ j + 1 := fun j hj => by
    rw [getD_some (List.getElem?_eq_getElem hj)]
    exact L1f j _ (List.getElem?_eq_getElem hj)
  have gets : ∀ j, j < (putL1 P L D x).length → ∀ s ∈ (putL1 P L D x).getD j [], s < D.length := fun j hj s hs => L1s _ (getD_mem hj) s hs
  have left : (((putL1 P L D x).getD (putN P L D x) []).filter (fun o => !decide (o = putSlot P L D x))).length ≤ putN P L D x := by
    rcases slot_lt (P := P) (x := x) o with ⟨e, h⟩ | ⟨s, lot, e, h, hs, h1, h2⟩
    · refine Nat.le_trans (List.length_filter_le _ _) ?_
      by_cases z : putN P L D x = L.length
      · unfold putL1
        rw [if_pos z, z, List.getD_eq_getElem?_getD, List.getElem?_append_right (Nat.le_refl _), Nat.sub_self]
        exact Nat.zero_le _
      · obtain ⟨lot, h3, h4⟩ := (taken_at P D x L 0).2.2.2 e (by have := putN_le P L D x; unfold putN at z this; omega)
        rw [Nat.sub_zero] at h3
        unfold putL1
        rw [if_neg z, getD_some (show L[putN P L D x]? = some lot from h3)]
        exact h4
    · have el : (putL1 P L D x).getD (putN P L D x) [] = lot := by
        have hl := (List.getElem?_eq_some_iff.mp h1).1
        unfold putL1
        rw [if_neg (by omega)]
        exact getD_some h1
      rw [el, h]
      have f1 := o.few _ lot h1
      have : (lot.filter fun o => !decide (o = s)).length < lot.length := by
        refine List.length_filter_lt_length_iff_exists.mpr ⟨s, h2, ?_⟩
        simp
      omega
  refine ⟨?_, ?_, ?_, ?_, ?_, ?_, ?_⟩
  · intro lot h s hs
    unfold putL at h
    simp only at h
    split at h
    · rcases set_mem h with h | h
      · have := L1s lot h s hs
        omega
      · rw [h] at hs
        rw [List.mem_singleton.mp hs]
        exact sl
    · rename_i hn
      rcases set_mem h with h | h
      · rcases set_mem h with h | h
        · have := L1s lot h s hs
          omega
        · rw [h] at hs
          rcases List.mem_append.mp hs with hs | hs
          · have := gets (putN P L D x - 1) (by omega) s hs
            omega
          · rw [List.mem_singleton.mp hs]
            exact sl
      · rw [h] at hs
        have := gets (putN P L D x) nl s (List.mem_filter.mp hs).1
        omega
  · intro j lot h
    unfold putL at h
    simp only at h
    split at h
    · rename_i hn
      rw [List.getElem?_set] at h
      split at h
      · split at h
        · rw [← Option.some.inj h]
          show 1 ≤ j + 1
          omega
        · cases h
      · exact L1f j lot h
    · rename_i hn
      rw [List.getElem?_set] at h
      split at h
      · rename_i e
        split at h
        · rw [← Option.some.inj h]
          omega
        · cases h
      · rw [List.getElem?_set] at h
        split at h
        · rename_i e
          rw [← Option.some.inj h, List.length_append, List.length_singleton]
          have := getf (putN P L D x - 1) (by omega)
          omega
        · exact L1f j lot h
  · intro d h
    unfold putD at h
    simp only at h
    rcases slot_lt (P := P) (x := x) o with ⟨e, hs⟩ | ⟨s, lot, e, hs, hlt, _⟩
    · rw [if_pos e] at h
      rcases List.mem_iff_getElem?.mp h with ⟨i, hi⟩
      rw [List.getElem?_set] at hi
      split at hi
      · split at hi
        · rw [← Option.some.inj hi]
          simp
        · cases hi
      · rename_i ne
        by_cases hl : i < D.length
        · rw [List.getElem?_append_left hl] at hi
          exact o.full d (List.mem_of_getElem? hi)
        · rw [List.getElem?_append_right (by omega)] at hi
          have l := (List.getElem?_eq_some_iff.mp hi).1
          rw [List.length_singleton] at l
          omega
    · rw [if_neg (by rw [e]; intro z; cases z)] at h
      rcases set_mem h with h | h
      · exact o.full d h
      · rw [h]
        simp
  · intro d h k hk
    unfold putD at h
    simp only at h
    have key : ∀ D1 : List (List Nat), (∀ d ∈ D1, ∀ k ∈ d, k < x) → d ∈ D1.set (putSlot P L D x) (D1.getD (putSlot P L D x) [] ++ [x]) → k < x + 1 := fun D1 h1 h => by
      rcases set_mem h with h | h
      · have := h1 d h k hk
        omega
      · rw [h] at hk
        rcases List.mem_append.mp hk with hk | hk
        · by_cases hl : putSlot P L D x < D1.length
          · have := h1 _ (getD_mem hl) k hk
            omega
          · rw [List.getD_eq_getElem?_getD, List.getElem?_eq_none (by omega)] at hk
            cases hk
        · rw [List.mem_singleton.mp hk]
          omega
    split at h
    · refine key _ (fun d hd => ?_) h
      rcases List.mem_append.mp hd with hd | hd
      · exact o.kinds d hd
      · rw [List.mem_singleton.mp hd]
        intro k hk
        cases hk
    · exact key _ o.kinds h
  · have l1 : (putL1 P L D x).length ≤ L.length + 1 := by
      unfold putL1
      split
      · rw [List.length_append]
        exact Nat.le_refl _
      · omega
    have := o.wl
    unfold putL
    simp only
    split
    · rw [List.length_set]
      omega
    · rw [List.length_set, List.length_set]
      omega
  · have := o.wd
    unfold putD
    simp only
    rw [List.length_set]
    split
    · rw [List.length_append]
      show D.length + 1 ≤ x + 1
      omega
    · omega
  · intro d h
    unfold putD at h
    simp only at h
    have key : ∀ D1 : List (List Nat), (∀ d ∈ D1, d.length ≤ x) → d ∈ D1.set (putSlot P L D x) (D1.getD (putSlot P L D x) [] ++ [x]) → d.length ≤ x + 1 := fun D1 h1 h => by
      rcases set_mem h with h | h
      · have := h1 d h
        omega
      · rw [h, List.length_append, List.length_singleton]
        by_cases hl : putSlot P L D x < D1.length
        · have := h1 _ (getD_mem hl)
          omega
        · rw [List.getD_eq_getElem?_getD, List.getElem?_eq_none (by omega)]
          exact Nat.succ_le_succ (Nat.zero_le _)
    split at h
    · refine key _ (fun d hd => ?_) h
      rcases List.mem_append.mp hd with hd | hd
      · exact o.rows d hd
      · rw [List.mem_singleton.mp hd]
        exact Nat.zero_le _
    · exact key _ o.rows h
theorem putL1_few {m : Nat} {P L D : List (List Nat)} {x : Nat} (o : OkG m L D) : ∀ lot ∈ putL1 P L D x, lot.length ≤ m + 1 := fun lot h => by
  have key : ∀ lot ∈ L, lot.length ≤ m + 1 := fun lot h => by
    obtain ⟨j, hj⟩ := List.mem_iff_getElem?.mp h
    have := o.few j lot hj
    have := (List.getElem?_eq_some_iff.mp hj).1
    have := o.wl
    omega
  unfold putL1 at h
  split at h
  · rcases List.mem_append.mp h with h | h
    · exact key lot h
    · rw [List.mem_singleton.mp h]
      exact Nat.zero_le _
  · exact key lot h
theorem putD1_rows {m : Nat} {P L D : List (List Nat)} {x : Nat} (o : OkG m L D) : ∀ d ∈ (if (takenB P D x 0 L).2 = none then D ++ [[]] else D), d.length ≤ m := fun d h => by
  split at h
  · rcases List.mem_append.mp h with h | h
    · exact o.rows d h
    · rw [List.mem_singleton.mp h]
      exact Nat.zero_le _
  · exact o.rows d h
def putD1 (P L D : List (List Nat)) (x : Nat) : List (List Nat) := if (takenB P D x 0 L).2 = none then D ++ [[]] else D
def putL2 (P L D : List (List Nat)) (x : Nat) : List (List Nat) := if (takenB P D x 0 L).2 = none then (putL1 P L D x).set (putN P L D x) ((putL1 P L D x).getD (putN P L D x) [] ++ [putSlot P L D x]) else putL1 P L D x
theorem putL2_len (P L D : List (List Nat)) (x : Nat) : (putL2 P L D x).length = (putL1 P L D x).length := by
  unfold putL2
  split
  · rw [List.length_set]
  · rfl
theorem putD_eq (P L D : List (List Nat)) (x : Nat) : (putD1 P L D x).set (putSlot P L D x) ((putD1 P L D x).getD (putSlot P L D x) [] ++ [x]) = putD P L D x := rfl
theorem slot_lt1 {m : Nat} {P L D : List (List Nat)} {x : Nat} (o : OkG m L D) : putSlot P L D x < (putD1 P L D x).length := by
  unfold putD1
  rcases slot_lt (P := P) (x := x) o with ⟨e, h⟩ | ⟨s, lot, e, h, hs, _⟩
  · rw [if_pos e, List.length_append]
    show _ < D.length + 1
    omega
  · rw [if_neg (by rw [e]; intro z; cases z)]
    omega
theorem set_same {l : List (List Nat)} {i : Nat} {v : List Nat} (h : l[i]? = some v) : l.set i v = l := by
  refine List.ext_getElem? fun j => ?_
  rw [List.getElem?_set]
  split
  · rename_i e
    rw [← e, h, if_pos (List.getElem?_eq_some_iff.mp h).1]
  · rfl
theorem put0 {m : Nat} {P L D : List (List Nat)} {x : Nat} (o : OkG m L D) (hn : putN P L D x = 0) : putL2 P L D x = putL P L D x := by
  have nl := putL1_len P L D x
  unfold putL
  simp only
  rw [if_pos hn]
  rcases slot_lt (P := P) (x := x) o with ⟨e, h⟩ | ⟨s, lot, e, h, hs, h1, h2⟩
  · unfold putL2
    rw [if_pos e, hn]
    have z : (putL1 P L D x).getD 0 [] = [] := by
      unfold putL1
      by_cases c : putN P L D x = L.length
      · rw [if_pos c]
        have : L = [] := List.length_eq_zero_iff.mp (by omega)
        rw [this]
        rfl
      · rw [if_neg c]
        have le := putN_le P L D x
        obtain ⟨lot, h3, h4⟩ := (taken_at P D x L 0).2.2.2 e (by unfold putN at c le; omega)
        rw [Nat.sub_zero] at h3
        have hn' : (takenB P D x 0 L).1 = 0 := hn
        rw [hn'] at h3 h4
        rw [getD_some h3]
        exact List.length_eq_zero_iff.mp (by omega)
    rw [z]
    rfl
  · unfold putL2
    rw [if_neg (by rw [e]; intro z; cases z), h]
    have hl := (List.getElem?_eq_some_iff.mp h1).1
    rw [hn] at h1
    have el : lot = [s] := by
      have := o.few 0 lot h1
      cases lot with
      | nil => cases h2
      | cons a r =>
        cases r with
        | nil => rw [List.mem_singleton.mp h2]
        | cons b r => simp at this
    have e1 : (putL1 P L D x)[0]? = some [s] := by
      unfold putL1
      rw [if_neg (by omega), h1, el]
    exact (set_same e1).symm
theorem putP {m : Nat} {P L D : List (List Nat)} {x : Nat} (o : OkG m L D) (hn : putN P L D x ≠ 0) : ((putL2 P L D x).set (putN P L D x) ((putL2 P L D x).getD (putN P L D x - 1) [] ++ [putSlot P L D x])).set (putN P L D x - 1) (((putL2 P L D x).getD (putN P L D x) []).filter fun o => !decide (o = putSlot P L D x)) = putL P L D x := by
  have nl := putL1_len P L D x
  unfold putL
  simp only
  rw [if_neg hn]
  unfold putL2
  split
  · have e1 : ((putL1 P L D x).set (putN P L D x) ((putL1 P L D x).getD (putN P L D x) [] ++ [putSlot P L D x])).getD (putN P L D x - 1) [] = (putL1 P L D x).getD (putN P L D x - 1) [] := by
      rw [List.getD_eq_getElem?_getD, List.getElem?_set, if_neg (by omega), ← List.getD_eq_getElem?_getD]
    have e2 : ((putL1 P L D x).set (putN P L D x) ((putL1 P L D x).getD (putN P L D x) [] ++ [putSlot P L D x])).getD (putN P L D x) [] = (putL1 P L D x).getD (putN P L D x) [] ++ [putSlot P L D x] := by
      rw [List.getD_eq_getElem?_getD, List.getElem?_set, if_pos rfl, if_pos nl]
      rfl
    rw [e1, e2, List.set_set, List.filter_append]
    have e3 : [putSlot P L D x].filter (fun o => !decide (o = putSlot P L D x)) = [] := by simp
    rw [e3, List.append_nil]
  · rfl
theorem putL2_few {m : Nat} {P L D : List (List Nat)} {x : Nat} (o : OkG m L D) : ∀ lot ∈ putL2 P L D x, lot.length ≤ m + 2 := fun lot h => by
  unfold putL2 at h
  split at h
  · rcases set_mem h with h | h
    · have := putL1_few o lot h
      omega
    · rw [h, List.length_append, List.length_singleton]
      have := putL1_few o _ (getD_mem (putL1_len P L D x))
      omega
  · have := putL1_few o lot h
    omega
def grF (l h : Addr) : List (Str × V) := putF "held" (.ref h) (putF "lots" (.ref l) [])
theorem hl_ne : ¬ (("held" : Str) = "lots") := by decide +kernel
theorem lh_ne : ¬ (("lots" : Str) = "held") := by decide +kernel
theorem grF_lots (l h : Addr) : (grF l h).lookup ("lots" : Str) = some (.ref l) := by
  unfold grF
  rw [lookup_putF, if_neg lh_ne, lookup_putF, if_pos rfl]
theorem grF_held (l h : Addr) : (grF l h).lookup ("held" : Str) = some (.ref h) := by
  unfold grF
  rw [lookup_putF, if_pos rfl]
theorem grF_no (l h : Addr) {m : Str} (h1 : ¬ m = "held") (h2 : ¬ m = "lots") : (grF l h).lookup m = none := by
  unfold grF
  rw [lookup_putF, if_neg h1, lookup_putF, if_neg h2]
  all_goals rfl
def RR (l h : Addr) : Bool → Addr := fun b => if b = true then h else l
local macro_rules | `(tactic| tm_at "fld") => `(tactic| refine ⟨_, _, _, _, _, rfl, by tm_at "hp", by assumption, by assumption, by first | exact grF_lots _ _ | exact grF_held _ _ | exact bkF_bits _ _ | exact bkF_parents _ _ | fail "fld", ?_⟩)
def sp_Groups___init__ (CG : Addr) (K : PySem.W.Frag) : Sp := fun vs H Q _ => ∃ (g dx : Addr), vs = [.ref g] ∧ H g = some (.ins CG dx []) ∧ ∀ l h H', But g H H' → H l = none → H h = none → l ≠ h → H' g = some (.ins CG dx (grF l h)) → H' l = some (.lst []) → H' h = some (.lst []) → Q .non H'
theorem sc_Groups___init__ : FnScope ["self"] ["self"] (defScope s_Groups___init__) := ⟨rfl, rfl, rfl, by decide +kernel, rfl, by decide +kernel, by decide +kernel⟩
theorem ok_Groups___init__ (T : Top P K mg) : FnOk P w K mg base CX0 1 T.f_Groups___init__ T.fd_Groups___init__ ["self"] (sp_Groups___init__ T.C_Groups K) := by
  refine T.F_Groups___init__.ok sc_Groups___init__ (fun vs H Q E h => ?_) (fun cdv A outer s H vs Q E hr h => ?_)
  · obtain ⟨g, dx, rfl, _⟩ := h
    rfl
  · obtain ⟨g, dx, rfl, hg, k⟩ := h
    refine ⟨_, (pss_cons (ps_fld (pv 0) (pe_lst pa_nil) rfl)
      (pss_one (ps_fld (pv 0) (pe_lst pa_nil) rfl))), ?_⟩
    have cB := T.cl_Groups
    have nB1 := T.n_Groups_lots
    have nB2 := T.n_Groups_held
    tm_at "w"
    intro l nl
    refine ⟨_, rfl, g, T.C_Groups, dx, [], rfl, (upd_ne (ne_of_none hg nl)).trans hg, cB, nB1, by decide, ?_⟩
    tm_at "w"
    intro h nh0
    have hgh : g ≠ h := ne_of_none upd_same nh0
    have hlg : l ≠ g := (ne_of_none hg nl).symm
    have hlh : l ≠ h := ne_of_none ((upd_ne hlg).trans upd_same) nh0
    have nh : H h = none := by
      rw [upd_ne hgh.symm, upd_ne hlh.symm] at nh0
      exact nh0
    refine ⟨_, rfl, g, T.C_Groups, dx, _, rfl, (upd_ne hgh).trans upd_same, cB, nB2, by show 1 < 1000; decide, ?_⟩
    tm_at "w"
    refine k l h _ (fun a o n e => ?_) nl nh hlh upd_same ?_ ?_
    · exact (upd_ne n).trans ((upd_ne (ne_of_none e nh)).trans ((upd_ne n).trans ((upd_ne (ne_of_none e nl)).trans e)))
    · exact (upd_ne hlg).trans ((upd_ne hlh).trans ((upd_ne hlg).trans upd_same))
    · exact (upd_ne hgh.symm).trans upd_same
/-! Groups.fitting -/
def optN : Option Nat → V
  | none => .non
  | some n => .int (n : Int)
theorem at_neg1 {q : List Nat} (h : q ≠ []) : atI (natsV q) (-1) = some (.int ((q.getLastD 0 : Nat) : Int)) := by
  have hl : 0 < q.length := List.length_pos_iff.mpr h
  unfold atI
  have e : ixN (natsV q).length (-1) = some (q.length - 1) := by
    rw [natsV_len]
    unfold ixN
    rw [if_neg (by decide), if_pos (by omega)]
    congr 1
    omega
  rw [e]
  refine natsV_at ?_
  rw [List.getElem?_eq_getElem (by omega), ← List.getLast_eq_getElem h, List.getLastD_eq_getLast?, List.getLast?_eq_getLast h]
  rfl
theorem filter_list (q : List Nat) (c : Nat → Bool) : (List.range (natsV q).length).filterMap (fun i => q[i]?.bind fun s => if c s = true then some (V.int (s : Int)) else none) = natsV (q.filter c) := by
  rw [natsV_len]
  have h1 : (List.range q.length).filterMap (fun i => q[i]?.bind fun s => if c s = true then some (V.int (s : Int)) else none) = q.filterMap fun s => if c s = true then some (V.int (s : Int)) else none := by
    have key : ∀ n, n ≤ q.length → (List.range n).filterMap (fun i => q[i]?.bind fun s => if c s = true then some (V.int (s : Int)) else none) = (q.take n).filterMap fun s => if c s = true then some (V.int (s : Int)) else none := by
      intro n
      induction n with
      | zero => intro _; rfl
      | succ n ih =>
        intro h
        rw [filterMap_range_succ, ih (by omega), List.take_add_one, List.filterMap_append]
        rw [List.getElem?_eq_getElem (show n < q.length by omega)]
        congr 1
    rw [key _ (Nat.le_refl _), List.take_length]
  rw [h1]
  induction q with
  | nil => rfl
  | cons p r ih =>
    have ih2 : r.filterMap (fun s => if c s = true then some (V.int (s : Int)) else none) = natsV (r.filter c) := by
      clear ih h1
      induction r with
      | nil => rfl
      | cons p r ih =>
        rw [List.filterMap_cons, List.filter_cons]
        cases e : c p with
        | true => rw [if_pos rfl, if_pos rfl]; show _ :: _ = V.int (p : Int) :: natsV (r.filter c); rw [ih]
        | false => simp only [Bool.false_eq_true, if_false]; exact ih
    rw [List.filterMap_cons, List.filter_cons]
    cases e : c p with
    | true => rw [if_pos rfl, if_pos rfl]; show _ :: _ = V.int (p : Int) :: natsV (r.filter c); rw [ih2]
    | false => simp only [Bool.false_eq_true, if_false]; exact ih2
/-- the least of some numbers, as min tells it -/
theorem min_is {q : List Nat} {m : Int} (h1 : m ∈ q.map (fun z : Nat => (z : Int))) (h2 : ∀ y ∈ q.map (fun z : Nat => (z : Int)), m ≤ y) : ∃ s, q.min? = some s ∧ m = (s : Int) := by
  obtain ⟨s, hs, rfl⟩ := List.mem_map.mp h1
  refine ⟨s, List.min?_eq_some_iff.mpr ⟨hs, fun b hb => ?_⟩, rfl⟩
  have := h2 (b : Int) (List.mem_map.mpr ⟨b, hb, rfl⟩)
  omega
def sp_Groups_fitting (C : Addr) (CG : Addr) (K : PySem.W.Frag) : Sp := fun vs H Q _ => ∃ (g l h la x dx : Nat) (b : Bk) (P : List (List Nat)) (H0 : Hp) (S : Bool → List (List Nat)) (lot : List Nat), vs = [.ref g, .ref b.b, .ref la, .int x] ∧ H g = some (.ins CG dx (grF l h)) ∧ BookAt C H b P ∧ x < P.length ∧ G H0 H (RR l h) S ∧
  H la = some (.lst (natsV lot)) ∧ lot.length ≤ 100000 ∧ (∀ s ∈ lot, s < (S true).length) ∧ (∀ d ∈ S true, d ≠ []) ∧ ∀ H', Same H H' → Q (optN (fitB P (S true) x lot).min?) H'
theorem sc_Groups_fitting : FnScope ["self", "book", "lot", "x", "some", "slot"] ["self", "book", "lot", "x"] (defScope s_Groups_fitting) := ⟨rfl, rfl, rfl, by decide +kernel, rfl, by decide +kernel, by decide +kernel⟩
theorem ok_Groups_fitting (T : Top P K mg) : FnOk P w K mg base CX0 2 T.f_Groups_fitting T.fd_Groups_fitting ["self", "book", "lot", "x"] (sp_Groups_fitting T.C_Book T.C_Groups K) := by
  have G_is_one := ok_is_one (P := P) (w := w) (base := base) T
  refine T.F_Groups_fitting.ok sc_Groups_fitting (fun vs H Q E h => ?_) (fun cdv A outer s H vs Q E hr h => ?_)
  · obtain ⟨g, l, h, la, x, dx, b, P, H0, S, lot, rfl, _⟩ := h
    rfl
  · obtain ⟨g, l, h, la, x, dx, b, P, H0, S, lot, rfl, hg, hb, hx, hG, hla, hlen, hs, hf, k⟩ := h
    refine ⟨_, (pss_cons (ps_setLc (i := 4) (own := [("slot", 5)]) (g := gName 5) rfl sc_Groups_fitting.nd rfl rfl (sw_true rfl rfl rfl (by decide +kernel)) (pi_list (pv 2)) (blkOk_by (own := [("slot", 5)]) (N := ["self", "book", "lot", "x", "some", "slot"]) (sc := defScope s_Groups_fitting) (by decide +kernel)) (fun _ _ _ _ _ => (pg_name (i := 5) sc_Groups_fitting.nd rfl (Or.inl rfl))) (fun _ _ _ _ _ => (pts_one (pt_val (pe_call G_is_one hr (by rfl) T.g_is_one T.F_is_one.kp T.b_is_one .nil pass0 (pa_cons (pv 1) (pa_cons (pv 3) (pa_cons (pe_ix (r := rIxL K) ix_list (pe_ix (r := rIxL K) ix_list (pe_fldK (K := K) rfl (pv 0) rfl) (pv 5) (fun _ _ => rfl)) (pe_un un_neg pe_int) (fun _ _ => rfl)) pa_nil))))))) (fun _ _ _ _ _ => (pv 5)))
      (pss_one (ps_ret (pe_ifExp (pt_cmpR op_gt (pe_callB (r := rLenQ K) (id := "len") call_len_seq (by rfl) T.z_len (by decide +kernel) (pa_cons (pv 4) pa_nil)) pe_int (nomark _)) (pe_callB (id := "min") (cr_min rfl) (by rfl) T.z_min (by decide +kernel) (pa_cons (pv 4) pa_nil)) pe_non)))), ?_⟩
    have cG := T.cl_Groups
    have nG1 := T.n_Groups_lots
    have nG2 := T.n_Groups_held
    tm_at "w"
    refine ⟨⟨_, SqL.of hla⟩, fun D nD => lc_listF (fun i => lot[i]?.bind fun s => if isA P x (lastD (S true) s) = true then some (V.int (s : Int)) else none) hla nD (by rw [natsV_len]; exact hlen) ?_ ?_⟩
    · intro i y H1 N M hy s1 kN kM
      obtain ⟨s, hs2, rfl, _⟩ := natsV_here hy
      have hsl := hs s (List.mem_of_getElem? hs2)
      obtain ⟨xs, h1, h2, h3⟩ := (hG.later s1).at true
      obtain ⟨a, e1, e2⟩ := h3 s _ (List.getElem?_eq_getElem hsl)
      have hg1 := s1 _ _ hg
      have h1 : H1 h = some (.lst xs) := h1
      have el : lastD (S true) s = ((S true)[s]).getLastD 0 := by
        unfold lastD
        rw [getD_some (List.getElem?_eq_getElem hsl)]
      tm_at "w"
      refine ⟨_, _, _, _, rfl, rfl, SqL.of e2, at_neg1 (hf _ (List.getElem_mem hsl)), ?_⟩
      tm_at "w"
      refine ⟨b, P, x, _, rfl, hb.same s1, hx, ?_⟩
      rw [← el]
      refine ⟨_, rfl, ?_⟩
      refine iteB (fun e => ?_) (fun e => ?_)
      · tm_at "w"
        exact kN _ _ (by rw [hs2]; show (if isA P x (lastD (S true) s) = true then _ else _) = _; rw [if_pos e]) (Same.refl H1)
      · exact kM _ (by rw [hs2]; show (if isA P x (lastD (S true) s) = true then _ else _) = _; rw [e, if_neg (by decide)]) (Same.refl H1)
    · intro H1 s1 hD
      rw [filter_list] at hD
      have hD : H1 D = some (.lst (natsV (fitB P (S true) x lot))) := hD
      tm_at "w"
      rw [natsV_len]
      refine iteD (fun z => ?_) (fun z => ?_)
      · tm_at "w"
        refine ⟨D, (fitB P (S true) x lot).map fun z : Nat => (z : Int), rfl, SqL.of (by rw [List.map_map]; exact hD), by rw [List.length_map]; omega, fun m hm1 hm2 => ?_⟩
        obtain ⟨s, e1, rfl⟩ := min_is hm1 hm2
        have := k H1 s1
        rw [e1] at this
        exact this
      · have e : fitB P (S true) x lot = [] := List.length_eq_zero_iff.mp (by omega)
        have := k H1 s1
        rw [e] at this
        tm_at "w"
        exact this
/-! Groups.taken -/
def sp_Groups_taken (C : Addr) (CG : Addr) (K : PySem.W.Frag) : Sp := fun vs H Q _ => ∃ (g l h x dx : Nat) (b : Bk) (P : List (List Nat)) (H0 : Hp) (S : Bool → List (List Nat)), vs = [.ref g, .ref b.b, .int x] ∧ H g = some (.ins CG dx (grF l h)) ∧ BookAt C H b P ∧ x < P.length ∧ P.length ≤ 400 ∧ G H0 H (RR l h) S ∧ OkG x (S false) (S true) ∧
  ∀ t H', Same H H' → H' t = some (.tup [.int ((takenB P (S true) x 0 (S false)).1 : Nat), optN (takenB P (S true) x 0 (S false)).2]) → Q (.ref t) H'
theorem sc_Groups_taken : FnScope ["self", "book", "x", "number", "lot", "slot"] ["self", "book", "x"] (defScope s_Groups_taken) := ⟨rfl, rfl, rfl, by decide +kernel, rfl, by decide +kernel, by decide +kernel⟩
theorem ok_Groups_taken (T : Top P K mg) : FnOk P w K mg base CX0 3 T.f_Groups_taken T.fd_Groups_taken ["self", "book", "x"] (sp_Groups_taken T.C_Book T.C_Groups K) := by
  have G_Groups_fitting := ok_Groups_fitting (P := P) (w := w) (base := base) T
  refine T.F_Groups_taken.ok sc_Groups_taken (fun vs H Q E h => ?_) (fun cdv A outer s H vs Q E hr h => ?_)
  · obtain ⟨g, l, h, x, dx, b, P, H0, S, rfl, _⟩ := h
    rfl
  · obtain ⟨g, l, h, x, dx, b, P, H0, S, rfl, hg, hb, hx, h400, hG, hok, k⟩ := h
    refine ⟨_, (pss_cons (ps_for PassesOwn.never rfl (pi_enum (by rfl) T.z_enumerate (pa_cons (pe_fld (pv 0) rfl) pa_nil)) (pg_tup rfl (pgs_cons (pg_name (i := 3) sc_Groups_taken.nd rfl (Or.inl rfl)) (pgs_cons (pg_name (i := 4) sc_Groups_taken.nd rfl (Or.inl rfl)) pgs_nil)))
      (pss_cons (ps_set (i := 5) sc_Groups_taken.nd rfl (Or.inl rfl) (pe_meth (pv 0) T.cl_Groups T.m_Groups_fitting G_Groups_fitting hr T.b_Groups_fitting .nil pass0 (pa_cons (pv 1) (pa_cons (pv 4) (pa_cons (pv 2) pa_nil)))))
      (pss_one (ps_if (PW.pt (pw_or (pt_cmpR op_notN (pv 5) pe_non (nomark _)) (pw_or1 (pt_cmpR op_le (pe_callB (r := rLenQ K) (id := "len") call_len_seq (by rfl) T.z_len (by decide +kernel) (pa_cons (pv 4) pa_nil)) (pv 3) (nomark _))))) (pss_one (ps_ret (pe_tup (pa_cons (pv 3) (pa_cons (pv 5) pa_nil))))) pss_nil))))
      (pss_one (ps_ret (pe_tup (pa_cons (pe_callB (r := rLenQ K) (id := "len") call_len_seq (by rfl) T.z_len (by decide +kernel) (pa_cons (pe_fld (pv 0) rfl) pa_nil)) (pa_cons pe_non pa_nil)))))), ?_⟩
    have cG := T.cl_Groups
    have nG1 := T.n_Groups_lots
    have nG2 := T.n_Groups_held
    obtain ⟨xs, h1, h2, h3⟩ := hG.at false
    have wl := hok.wl
    have h1 : H l = some (.lst xs) := h1
    tm_at "w"
    refine ⟨_, _, rfl, SqL.of h1, for_enumL (K := K) (a := l) (xs := xs) (fun i σ H' => ∃ u v w, σ = [some (.ref g), some (.ref b.b), some (.int (x : Int)), u, v, w] ∧ Same H H' ∧ takenB P (S true) x 0 (S false) = takenB P (S true) x i ((S false).drop i)) ?_ ?_ ?_ ?_⟩
    · exact ⟨none, none, none, rfl, Same.refl H, rfl⟩
    · rintro i σ H' ⟨_, _, _, rfl, s1, _⟩
      exact SqL.of (s1 _ _ h1)
    · rintro i y t σ H' hy ⟨u, v, w, rfl, s1, he⟩ nt
      have il : i < (S false).length := by
        have := (List.getElem?_eq_some_iff.mp hy).1
        omega
      obtain ⟨la, e1, e2⟩ := h3 i _ (List.getElem?_eq_getElem il)
      have ey : y = .ref la := by
        rw [hy] at e1
        exact Option.some.inj e1
      subst ey
      have s2 : Same H (upd H' t (.tup [V.int (i : Int), V.ref la])) := Same.new s1 nt
      have hd : (S false).drop i = (S false)[i] :: (S false).drop (i + 1) := List.drop_eq_getElem_cons il
      have hg2 := s2 _ _ hg
      have hla := s2 _ _ e2
      have lm : (S false)[i] ∈ S false := List.getElem_mem il
      have lf := hok.few i _ (List.getElem?_eq_getElem il)
      tm_at "w"
      refine ⟨g, dx, _, rfl, hg2, grF_no _ _ (by decide +kernel) (by decide +kernel), ?_⟩
      tm_at "w"
      refine ⟨g, l, h, la, x, dx, b, P, H0, S, _, rfl, hg2, hb.same s2, hx, hG.later s2, hla, by omega, hok.slots _ lm, hok.full, fun H3 s3 => ?_⟩
      have s4 := Same.trans s2 s3
      have hla3 := s3 _ _ hla
      rw [hd] at he
      cases hm : (fitB P (S true) x ((S false)[i])).min? with
      | some s =>
        have et : takenB P (S true) x i ((S false)[i] :: (S false).drop (i + 1)) = (i, some s) := by unfold takenB; rw [hm]
        rw [et] at he
        rw [he] at k
        tm_at "w"
        intro t2 nt2
        exact k t2 _ (Same.new s4 nt2) upd_same
      | none =>
        have et : takenB P (S true) x i ((S false)[i] :: (S false).drop (i + 1)) = if ((S false)[i]).length ≤ i then (i, none) else takenB P (S true) x (i + 1) ((S false).drop (i + 1)) := by
          show (match (fitB P (S true) x ((S false)[i])).min? with | some s => (i, some s) | none => _) = _
          rw [hm]
        rw [et] at he
        tm_at "w"
        rw [natsV_len]
        refine iteD (fun z => ?_) (fun z => ?_)
        · rw [if_pos (by omega)] at he
          rw [he] at k
          tm_at "w"
          intro t2 nt2
          exact k t2 _ (Same.new s4 nt2) upd_same
        · rw [if_neg (by omega)] at he
          exact ⟨_, _, _, rfl, s4, he⟩
    · rintro σ H' ⟨u, v, w, rfl, s1, he⟩
      rw [h2, List.drop_length] at he
      rw [he] at k
      have hg2 := s1 _ _ hg
      have h12 := s1 _ _ h1
      tm_at "w"
      intro t nt
      exact k t _ (Same.new s1 nt) (by rw [upd_same, h2]; rfl)
/-! Groups.put -/
local macro_rules | `(tactic| tm_at "fld") => `(tactic| refine ⟨_, _, _, _, _, rfl, by tm_at "hp", by assumption, by assumption, by first | exact grF_lots _ _ | exact grF_held _ _ | exact bkF_bits _ _ | exact bkF_parents _ _ | fail "fld", ?_⟩)
def st (L D : List (List Nat)) : Bool → List (List Nat) := fun b => if b = true then D else L
theorem st_of (S : Bool → List (List Nat)) : S = st (S false) (S true) := by funext b; cases b <;> rfl
theorem up_f (L D L' : List (List Nat)) : upS (st L D) false L' = st L' D := by funext b; cases b <;> rfl
theorem up_t (L D D' : List (List Nat)) : upS (st L D) true D' = st L D' := by funext b; cases b <;> rfl
def putS (P : List (List Nat)) (S : Bool → List (List Nat)) (x : Nat) : Bool → List (List Nat) := fun b => if b = true then putD P (S false) (S true) x else putL P (S false) (S true) x
def sp_Groups_put (C : Addr) (CG : Addr) (K : PySem.W.Frag) : Sp := fun vs H Q _ => ∃ (g l h x dx : Nat) (b : Bk) (P : List (List Nat)) (H0 : Hp) (S : Bool → List (List Nat)), vs = [.ref g, .ref b.b, .int x] ∧ H0 g = some (.ins CG dx (grF l h)) ∧ BookAt C H0 b P ∧ x < P.length ∧ P.length ≤ 400 ∧ G H0 H (RR l h) S ∧ OkG x (S false) (S true) ∧
  ∀ H', G H0 H' (RR l h) (putS P S x) → Q (.int (putSlot P (S false) (S true) x : Nat)) H'
theorem sc_Groups_put : FnScope ["self", "book", "x", "number", "slot", "less", "one"] ["self", "book", "x"] (defScope s_Groups_put) := ⟨rfl, rfl, rfl, by decide +kernel, rfl, by decide +kernel, by decide +kernel⟩
theorem ok_Groups_put (T : Top P K mg) : FnOk P w K mg base CX0 4 T.f_Groups_put T.fd_Groups_put ["self", "book", "x"] (sp_Groups_put T.C_Book T.C_Groups K) := by
  have G_Groups_taken := ok_Groups_taken (P := P) (w := w) (base := base) T
  refine T.F_Groups_put.ok sc_Groups_put (fun vs H Q E h => ?_) (fun cdv A outer s H vs Q E hr h => ?_)
  · obtain ⟨g, l, h, x, dx, b, P, H0, S, rfl, _⟩ := h
    rfl
  · obtain ⟨g, l, h, x, dx, b, P, H0, S, rfl, hg0, hb0, hx, h400, hG, hok, k⟩ := h
    refine ⟨_, (pss_cons (ps_asg (pe_meth (pv 0) T.cl_Groups T.m_Groups_taken G_Groups_taken hr T.b_Groups_taken .nil pass0 (pa_cons (pv 1) (pa_cons (pv 2) pa_nil))) (pg_tup rfl (pgs_cons (pg_name (i := 3) sc_Groups_put.nd rfl (Or.inl rfl)) (pgs_cons (pg_name (i := 4) sc_Groups_put.nd rfl (Or.inr rfl)) pgs_nil))))
      (C8.pss_cut (ps_if (pt_cmpR op_eq (pv 3) (pe_callB (r := rLenQ K) (id := "len") call_len_seq (by rfl) T.z_len (by decide +kernel) (pa_cons (pe_fld (pv 0) rfl) pa_nil)) (nomark _)) (pss_one (ps_expr (pe_bm PySem.F.plainAttrs_list PySem.F.slot_list_append PySem.F.type_list_append mt_append (pe_fld (pv 0) rfl) (pa_cons (pe_lst pa_nil) pa_nil)))) pss_nil)
      (C8.pss_cut (ps_if (pt_cmpR op_isN (pv 4) pe_non (nomark _)) (pss_cons (ps_set (i := 4) sc_Groups_put.nd rfl (Or.inr rfl) (pe_callB (r := rLenQ K) (id := "len") call_len_seq (by rfl) T.z_len (by decide +kernel) (pa_cons (pe_fld (pv 0) rfl) pa_nil)))
      (pss_cons (ps_expr (pe_bm PySem.F.plainAttrs_list PySem.F.slot_list_append PySem.F.type_list_append mt_append (pe_fld (pv 0) rfl) (pa_cons (pe_lst pa_nil) pa_nil)))
      (pss_one (ps_expr (pe_bm PySem.F.plainAttrs_list PySem.F.slot_list_append PySem.F.type_list_append mt_append (pe_ix (r := rIxL K) ix_list (pe_fld (pv 0) rfl) (pv 3) (fun _ _ => rfl)) (pa_cons (pv 4) pa_nil)))))) pss_nil)
      (pss_cons (ps_expr (pe_bm PySem.F.plainAttrs_list PySem.F.slot_list_append PySem.F.type_list_append mt_append (pe_ix (r := rIxL K) ix_list (pe_fld (pv 0) rfl) (pv 4) (fun _ _ => rfl)) (pa_cons (pv 2) pa_nil)))
      (C8.pss_cut (ps_if (pt_cmpR op_gt (pv 3) pe_int (nomark _)) (pss_cons (ps_setLc (i := 5) (own := [("one", 6)]) (g := gName 6) rfl sc_Groups_put.nd rfl rfl (sw_true rfl rfl rfl (by decide +kernel)) (pi_list (pe_ix (r := rIxL K) ix_list (pe_fld (pv 0) rfl) (pv 3) (fun _ _ => rfl))) (blkOk_by (own := [("one", 6)]) (N := ["self", "book", "x", "number", "slot", "less", "one"]) (sc := defScope s_Groups_put) (by decide +kernel)) (fun _ _ _ _ _ => (pg_name (i := 6) sc_Groups_put.nd rfl (Or.inl rfl))) (fun _ _ _ _ _ => (pts_one (pt_cmpR op_ne (pv 6) (pv 4) (nomark _)))) (fun _ _ _ _ _ => (pv 6)))
      (pss_cons (ps_asg (pe_op op_cat (pe_ix (r := rIxL K) ix_list (pe_fld (pv 0) rfl) (pe_op op_sub (pv 3) pe_int) (fun _ _ => rfl)) (pe_lst (pa_cons (pv 4) pa_nil))) (pg_sub (pe_fld (pv 0) rfl) (pv 3) set_list))
      (pss_one (ps_asg (pv 5) (pg_sub (pe_fld (pv 0) rfl) (pe_op op_sub (pv 3) pe_int) set_list))))) pss_nil)
      (pss_one (ps_ret (pv 4)))))))), ?_⟩
    have cG := T.cl_Groups
    have nG1 := T.n_Groups_lots
    have nG2 := T.n_Groups_held
    have hg := hG.same _ _ hg0
    tm_at "w"
    refine ⟨g, dx, _, rfl, hg, grF_no _ _ (by decide +kernel) (by decide +kernel), ?_⟩
    tm_at "w"
    refine ⟨g, l, h, x, dx, b, P, H0, S, rfl, hg, hb0.same hG.same, hx, h400, hG, hok, fun t H1 s1 ht => ?_⟩
    have hG1 := hG.later s1
    have hg1 := s1 _ _ hg
    rw [st_of S] at hG1
    obtain ⟨xs, h1, h2, h3⟩ := hG1.at false
    have h1 : H1 l = some (.lst xs) := h1
    have h2 : xs.length = (S false).length := h2
    have nle := putN_le P (S false) (S true) x
    have n1 := putL1_len P (S false) (S true) x
    have wl := hok.wl
    tm_at "w"
    refine ⟨fun σ H' => σ = [some (.ref g), some (.ref b.b), some (.int (x : Int)), some (.int (putN P (S false) (S true) x : Nat)), some (optN (takenB P (S true) x 0 (S false)).2), none, none] ∧ G H0 H' (RR l h) (st (putL1 P (S false) (S true) x) (S true)), ?_, ?_⟩
    · tm_at "w"
      refine iteI (fun z => ?_) (fun z => ?_)
      · tm_at "w"
        intro e ne
        have h4 : upd H1 e (.lst []) l = some (.lst xs) := (upd_ne (ne_of_none h1 ne)).trans h1
        tm_at "w"
        have g1 := hG1.grow false ne h1
        rw [up_f] at g1
        have e1 : putL1 P (S false) (S true) x = S false ++ [[]] := if_pos (by show (takenB P (S true) x 0 (S false)).1 = _; omega)
        rw [e1]
        exact g1
      · have e1 : putL1 P (S false) (S true) x = S false := if_neg (by show ¬ (takenB P (S true) x 0 (S false)).1 = _; omega)
        refine ⟨rfl, ?_⟩
        rw [e1]
        exact hG1
    · rintro σ H2 ⟨rfl, hG2⟩
      have hg2 := hG2.same _ _ hg0
      tm_at "w"
      refine ⟨fun σ H' => σ = [some (.ref g), some (.ref b.b), some (.int (x : Int)), some (.int (putN P (S false) (S true) x : Nat)), some (.int (putSlot P (S false) (S true) x : Nat)), none, none] ∧ G H0 H' (RR l h) (st (putL2 P (S false) (S true) x) (putD1 P (S false) (S true) x)), ?_, ?_⟩
      · rcases slot_lt (P := P) (x := x) hok with ⟨e, hs⟩ | ⟨s, lot, e, hs, hsl, _⟩
        · rw [e]
          obtain ⟨ys, k1, k2, k3⟩ := hG2.at true
          have k1 : H2 h = some (.lst ys) := k1
          have k2 : ys.length = (S true).length := k2
          have wd := hok.wd
          tm_at "w"
          intro e2 ne2
          have k4 : upd H2 e2 (.lst []) h = some (.lst ys) := (upd_ne (ne_of_none k1 ne2)).trans k1
          have hg3 : upd H2 e2 (.lst []) g = some (.ins T.C_Groups dx (grF l h)) := (upd_ne (ne_of_none hg2 ne2)).trans hg2
          have g3 := hG2.grow true ne2 k1
          rw [up_t] at g3
          tm_at "w"
          obtain ⟨zs, z1, z2, z3⟩ := g3.at false
          have z1 : upd (upd H2 e2 (.lst [])) h (.lst (ys ++ [.ref e2])) l = some (.lst zs) := z1
          obtain ⟨ra, y1, y2⟩ := z3 (putN P (S false) (S true) x) _ (List.getElem?_eq_getElem n1)
          have hg4 := g3.same _ _ hg0
          have hfew := putL1_few (P := P) (x := x) hok _ (List.getElem_mem n1)
          tm_at "w"
          refine ⟨ra, _, _, rfl, rfl, y2, lt_line (by rw [natsV_len]; omega), ?_⟩
          have g4 := g3.push false (q' := (putL1 P (S false) (S true) x)[putN P (S false) (S true) x] ++ [ys.length]) (List.getElem?_eq_getElem n1) z1 y1
          rw [up_f, ← natsV_snoc] at g4
          refine ⟨by rw [hs, ← k2]; rfl, ?_⟩
          have q1 : putL2 P (S false) (S true) x = (putL1 P (S false) (S true) x).set (putN P (S false) (S true) x) ((putL1 P (S false) (S true) x)[putN P (S false) (S true) x] ++ [ys.length]) := by
            unfold putL2
            rw [if_pos e, getD_some (List.getElem?_eq_getElem n1), hs, k2]
          have q2 : putD1 P (S false) (S true) x = S true ++ [[]] := if_pos e
          rw [q1, q2]
          exact g4
        · rw [e]
          tm_at "w"
          refine iteEF (decide_eq_false (by intro z; cases z)) ?_
          refine ⟨by rw [hs]; rfl, ?_⟩
          have q1 : putL2 P (S false) (S true) x = putL1 P (S false) (S true) x := if_neg (by rw [e]; intro z; cases z)
          have q2 : putD1 P (S false) (S true) x = S true := if_neg (by rw [e]; intro z; cases z)
          rw [q1, q2]
          exact hG2
      · rintro σ H3 ⟨rfl, hG3⟩
        have hg3 := hG3.same _ _ hg0
        obtain ⟨ys, k1, k2, k3⟩ := hG3.at true
        have k1 : H3 h = some (.lst ys) := k1
        have sl := slot_lt1 (P := P) (x := x) hok
        obtain ⟨r, e1, e2⟩ := k3 _ _ (List.getElem?_eq_getElem sl)
        have hrl := putD1_rows (P := P) (x := x) hok _ (List.getElem_mem sl)
        tm_at "w"
        refine ⟨r, _, _, rfl, rfl, e2, lt_line (by rw [natsV_len]; omega), ?_⟩
        have g4 := hG3.push true (q' := (putD1 P (S false) (S true) x)[putSlot P (S false) (S true) x] ++ [x]) (List.getElem?_eq_getElem sl) k1 e1
        rw [up_t, ← natsV_snoc] at g4
        have eD : (putD1 P (S false) (S true) x).set (putSlot P (S false) (S true) x) ((putD1 P (S false) (S true) x)[putSlot P (S false) (S true) x] ++ [x]) = putD P (S false) (S true) x := by
          rw [← putD_eq, getD_some (List.getElem?_eq_getElem sl)]
        have g4 : G H0 _ (RR l h) (st (putL2 P (S false) (S true) x) (putD P (S false) (S true) x)) := eD ▸ g4
        have hg4 := g4.same _ _ hg0
        refine ⟨fun σ H' => (∃ u v, σ = [some (.ref g), some (.ref b.b), some (.int (x : Int)), some (.int (putN P (S false) (S true) x : Nat)), some (.int (putSlot P (S false) (S true) x : Nat)), u, v]) ∧ G H0 H' (RR l h) (st (putL P (S false) (S true) x) (putD P (S false) (S true) x)), ?_, ?_⟩
        · tm_at "w"
          refine iteD (fun z => ?_) (fun z => ?_)
          · obtain ⟨zs, z1, z2, z3⟩ := g4.at false
            have n2 := n1
            rw [← putL2_len] at n2
            obtain ⟨ra, y1, y2⟩ := z3 (putN P (S false) (S true) x) _ (List.getElem?_eq_getElem n2)
            obtain ⟨rb, w1, w2⟩ := z3 (putN P (S false) (S true) x - 1) _ (List.getElem?_eq_getElem (by show _ < (putL2 P (S false) (S true) x).length; omega))
            have hf2 := putL2_few (P := P) (x := x) hok _ (List.getElem_mem n2)
            tm_at "w"
            refine ⟨⟨_, SqL.of y2⟩, fun D nD => lc_listF (fun i => ((putL2 P (S false) (S true) x)[putN P (S false) (S true) x])[i]?.bind fun o => if (!decide (o = putSlot P (S false) (S true) x)) = true then some (V.int (o : Int)) else none) y2 nD (by rw [natsV_len]; omega) ?_ ?_⟩
            · intro i y H6 N M hy s6 kN kM
              obtain ⟨o, ho, rfl, _⟩ := natsV_here hy
              tm_at "w"
              rw [dec_nat]
              refine iteB (fun e => ?_) (fun e => ?_)
              · tm_at "w"
                exact kN _ _ (by rw [ho]; show (if (!decide (o = putSlot P (S false) (S true) x)) = true then _ else _) = _; rw [if_pos e]) (Same.refl H6)
              · exact kM _ (by rw [ho]; show (if (!decide (o = putSlot P (S false) (S true) x)) = true then _ else _) = _; rw [e, if_neg (by decide)]) (Same.refl H6)
            · intro H6 s6 hD
              rw [filter_list] at hD
              have hg6 := s6 _ _ hg4
              have z16 : H6 l = some (.lst zs) := s6 _ _ z1
              have hzl : zs.length = (putL2 P (S false) (S true) x).length := z2
              have w26 := s6 _ _ w2
              tm_at "w"
              refine ⟨_, _, _, _, rfl, rfl, SqL.of z16, at_of (j := putN P (S false) (S true) x - 1) (by omega) w1, ?_⟩
              tm_at "w"
              intro p np
              have s7 := Same.new (o := .lst [V.int (putSlot P (S false) (S true) x : Nat)]) (Same.refl H6) np
              have hfb := putL2_few (P := P) (x := x) hok _ (List.getElem_mem (show putN P (S false) (S true) x - 1 < (putL2 P (S false) (S true) x).length by omega))
              refine ⟨_, _, _, _, rfl, rfl, s7 _ _ w26, upd_same, by rw [natsV_len]; have := lt_line (n := 1000) (by decide); show (putL2 P (S false) (S true) x)[putN P (S false) (S true) x - 1].length + 1 ≤ _; omega, fun p2 np2 => ?_⟩
              have s8 : Same H6 (upd (upd H6 p (.lst [V.int (putSlot P (S false) (S true) x : Nat)])) p2 (.lst (natsV (putL2 P (S false) (S true) x)[putN P (S false) (S true) x - 1] ++ [V.int (putSlot P (S false) (S true) x : Nat)]))) := Same.new s7 np2
              have hg8 := s8 _ _ hg6
              have z18 := s8 _ _ z16
              have hgl : g ≠ l := fun e => by rw [e, z18] at hg8; cases hg8
              tm_at "w"
              refine ⟨l, zs, _, putN P (S false) (S true) x, rfl, rfl, z18, ixn_nat (by omega), ?_⟩
              have hg9 := (upd_ne (o := HO.lst (zs.set (putN P (S false) (S true) x) (.ref p2))) hgl).trans hg8
              tm_at "w"
              refine ⟨l, _, _, putN P (S false) (S true) x - 1, rfl, rfl, upd_same, ?_, ?_⟩
              · rw [show ((putN P (S false) (S true) x : Nat) : Int) - 1 = ((putN P (S false) (S true) x - 1 : Nat) : Int) by omega]
                exact ixn_nat (by rw [List.length_set]; omega)
              refine ⟨⟨_, _, rfl⟩, ?_⟩
              have gb := g4.both (Same.trans s6 s8) false (j := putN P (S false) (S true) x) (k := putN P (S false) (S true) x - 1) (q := (putL2 P (S false) (S true) x)[putN P (S false) (S true) x - 1] ++ [putSlot P (S false) (S true) x])
                (r := ((putL2 P (S false) (S true) x)[putN P (S false) (S true) x]).filter fun o => !decide (o = putSlot P (S false) (S true) x)) (c := p2) (d := D) (xs := zs)
                (Same.free (Same.trans s6 s7) np2) nD (ne_of_none (s7 _ _ hD) np2).symm n2 (by show _ < (putL2 P (S false) (S true) x).length; omega) (by omega) (by rw [upd_same, natsV_snoc]) (s8 _ _ hD) z18
              rw [up_f] at gb
              have eP := putP (P := P) (x := x) hok (show putN P (S false) (S true) x ≠ 0 by omega)
              rw [getD_some (List.getElem?_eq_getElem n2), getD_some (List.getElem?_eq_getElem (show putN P (S false) (S true) x - 1 < (putL2 P (S false) (S true) x).length by omega))] at eP
              rw [← eP]
              exact gb
          · refine ⟨⟨_, _, rfl⟩, ?_⟩
            rw [← put0 hok (by omega)]
            exact g4
        · rintro σ H5 ⟨⟨u, v, rfl⟩, hG5⟩
          tm_at "w"
          exact k H5 hG5
/-! Groups.told -/
local macro_rules | `(tactic| tm_at "fld") => `(tactic| refine ⟨_, _, _, _, _, rfl, by tm_at "hp", by assumption, by assumption, by first | exact grF_lots _ _ | exact grF_held _ _ | exact bkF_bits _ _ | exact bkF_parents _ _ | fail "fld", ?_⟩)
/-- the groups up to the last that is not empty -/
def mostB (L : List (List Nat)) : List Nat := 0 :: ((List.range L.length).filter fun i => decide (0 < (L.getD i []).length)).map (· + 1)
theorem max_le {L : List (List Nat)} {m : Int} (h1 : m ∈ (mostB L).map (fun z : Nat => (z : Int))) : ∃ k : Nat, m = (k : Int) ∧ k ≤ L.length := by
  obtain ⟨z, hz, rfl⟩ := List.mem_map.mp h1
  refine ⟨z, rfl, ?_⟩
  unfold mostB at hz
  rcases List.mem_cons.mp hz with e | e
  · omega
  · obtain ⟨i, hi, e⟩ := List.mem_map.mp e
    have := List.mem_range.mp (List.mem_filter.mp hi).1
    omega
/-- the tuple of the groups, each ascending -/
def LotsAt (H : Hp) (a : Addr) (L : List (List Nat)) : Prop := ∃ vs : List V, H a = some (.tup vs) ∧ (∃ m, (∀ y ∈ mostB L, y ≤ m) ∧ m ∈ mostB L ∧ vs.length = m) ∧ ∀ (j : Nat) v, vs[j]? = some v → ∃ b q, v = .ref b ∧ H b = some (.tup (natsV q)) ∧ q.Perm (L.getD j []) ∧ q.Pairwise (· ≤ ·)
theorem nats_perm {q : List Nat} {ns : List Int} (h : ns.Perm (q.map fun z : Nat => (z : Int))) (hs : ns.Pairwise (· ≤ ·)) : ∃ ks : List Nat, ns = ks.map (fun z : Nat => (z : Int)) ∧ ks.Perm q ∧ ks.Pairwise (· ≤ ·) := by
  have e : ns = (ns.map Int.toNat).map fun z : Nat => (z : Int) := by
    rw [List.map_map]
    refine (List.map_id _).symm.trans (List.map_congr_left fun z hz => ?_)
    obtain ⟨y, _, ey⟩ := List.mem_map.mp (h.mem_iff.mp hz)
    show z = ((z.toNat : Nat) : Int)
    omega
  refine ⟨ns.map Int.toNat, e, ?_, ?_⟩
  · have := h.map Int.toNat
    rw [List.map_map] at this
    have e2 : q.map (Int.toNat ∘ fun z : Nat => (z : Int)) = q := (List.map_congr_left fun z _ => (by show (z : Int).toNat = z; omega)).trans (List.map_id q)
    rw [e2] at this
    exact this
  · rw [List.pairwise_map]
    exact hs.imp fun {a b} hab => by omega
theorem take_list {xs : List V} {k : Nat} (h : k ≤ xs.length) : cutV xs none (some (k : Int)) = xs.take k := by
  unfold cutV
  rw [show HT.sIx xs.length 0 none = 0 from rfl, HT.sIx_nat, List.drop_zero]
  congr 1
  omega
theorem drop_list {xs : List V} {k : Nat} (h : k ≤ xs.length) : cutV xs (some (k : Int)) none = xs.drop k := by
  unfold cutV
  rw [show HT.sIx xs.length xs.length none = xs.length from rfl, HT.sIx_nat, show min k xs.length = k by omega]
  exact List.take_of_length_le (by rw [List.length_drop]; omega)
def sp_Groups_told (C : Addr) (CG : Addr) (K : PySem.W.Frag) : Sp := fun vs H Q _ => ∃ (g l h dx : Nat) (H0 : Hp) (S : Bool → List (List Nat)), vs = [.ref g] ∧ H g = some (.ins CG dx (grF l h)) ∧ G H0 H (RR l h) S ∧ (S false).length ≤ 400 ∧ (∀ lot ∈ S false, lot.length ≤ 1000) ∧
  ∀ t H', Same H H' → LotsAt H' t (S false) → Q (.ref t) H'
theorem sc_Groups_told : FnScope ["self", "most", "number", "lot"] ["self"] (defScope s_Groups_told) := ⟨rfl, rfl, rfl, by decide +kernel, rfl, by decide +kernel, by decide +kernel⟩
theorem ok_Groups_told (T : Top P K mg) : FnOk P w K mg base CX0 1 T.f_Groups_told T.fd_Groups_told ["self"] (sp_Groups_told T.C_Book T.C_Groups K) := by
  refine T.F_Groups_told.ok sc_Groups_told (fun vs H Q E h => ?_) (fun cdv A outer s H vs Q E hr h => ?_)
  · obtain ⟨g, l, h, dx, H0, S, rfl, _⟩ := h
    rfl
  · obtain ⟨g, l, h, dx, H0, S, rfl, hg, hG, h400, hlot, k⟩ := h
    refine ⟨_, (pss_cons (ps_set (i := 1) sc_Groups_told.nd rfl (Or.inl rfl) (pe_callB (id := "max") (cr_max rfl) (by rfl) T.z_max (by decide +kernel) (pa_cons (pe_op op_cat (pe_lst (pa_cons pe_int pa_nil)) (pe_lc (own := [("number", 2), ("lot", 3)]) rfl sc_Groups_told.nd (pi_enum (by rfl) T.z_enumerate (pa_cons (pe_fld (pv 0) rfl) pa_nil)) (blkOk_by (own := [("number", 2), ("lot", 3)]) (N := ["self", "most", "number", "lot"]) (sc := defScope s_Groups_told) (by decide +kernel)) (fun _ _ _ _ _ => (pg_tupK (K := K) 2 rfl rfl (pgs_cons (pg_name (i := 2) sc_Groups_told.nd rfl (Or.inl rfl)) (pgs_cons (pg_name (i := 3) sc_Groups_told.nd rfl (Or.inl rfl)) pgs_nil)))) (fun _ _ _ _ _ => (pts_one (pt_cmpR op_gt (pe_callB (r := rLenQ K) (id := "len") call_len_seq (by rfl) T.z_len (by decide +kernel) (pa_cons (pv 3) pa_nil)) pe_int (nomark _)))) (fun _ _ _ _ _ => (pe_op op_add (pv 2) pe_int)))) pa_nil)))
      (pss_one (ps_ret (pe_callTy (r := rTupQ K) (T := "tuple") call_tuple_of (by rfl) T.z_tuple (by decide +kernel) (pa_cons (pe_lc (own := [("lot", 3)]) (g := gName 3) (tt := tYes) rfl sc_Groups_told.nd (pi_list (pe_slice sl_list (pe_fld (pv 0) rfl) po_none (po_some (pv 1)))) (blkOk_by (own := [("lot", 3)]) (N := ["self", "most", "number", "lot"]) (sc := defScope s_Groups_told) (by decide +kernel)) (fun _ _ _ _ _ => (pg_name (i := 3) sc_Groups_told.nd rfl (Or.inl rfl))) (fun _ _ _ _ _ => pts_nil) (fun _ _ _ _ _ => (pe_callTy (r := rTupQ K) (T := "tuple") call_tuple_of (by rfl) T.z_tuple (by decide +kernel) (pa_cons (pe_callB (r := rSortedI K) (id := "sorted") cr_sortedI (by rfl) T.z_sorted (by decide +kernel) (pa_cons (pv 3) pa_nil)) pa_nil)))) pa_nil))))), ?_⟩
    have cG := T.cl_Groups
    have nG1 := T.n_Groups_lots
    have nG2 := T.n_Groups_held
    obtain ⟨xs, h1, h2, h3⟩ := hG.at false
    have h1 : H l = some (.lst xs) := h1
    tm_at "w"
    intro p0 np0
    have s1 : Same H (upd H p0 (.lst [V.int 0])) := Same.new (Same.refl H) np0
    have hg1 := s1 _ _ hg
    have h11 := s1 _ _ h1
    have h2 : xs.length = (S false).length := h2
    tm_at "w"
    refine ⟨_, _, rfl, SqL.of h11, fun D nD => lc_enumLF (fun i => if decide (0 < ((S false).getD i []).length) = true then some (V.int ((i + 1 : Nat) : Int)) else none) h11 nD (by omega) ?_ ?_⟩
    · intro i y Z H1 N M hy s2 hZ kN kM
      have il : i < (S false).length := by
        have := (List.getElem?_eq_some_iff.mp hy).1
        omega
      obtain ⟨a, e1, e2⟩ := h3 i _ (List.getElem?_eq_getElem il)
      have ey : y = .ref a := by
        rw [hy] at e1
        exact Option.some.inj e1
      subst ey
      have e21 := s2 _ _ (s1 _ _ e2)
      have eg : (S false).getD i [] = (S false)[i] := getD_some (List.getElem?_eq_getElem il)
      tm_at "w"
      rw [natsV_len]
      refine iteD (fun z => ?_) (fun z => ?_)
      · tm_at "w"
        exact kN _ _ (by rw [eg, decide_eq_true (by omega)]; rfl) (Same.refl H1)
      · exact kM _ (by rw [eg, decide_eq_false (by omega)]; rfl) (Same.refl H1)
    · intro H1 s2 hD
      rw [h2, filter_natsV] at hD
      have s3 := Same.trans s1 s2
      have hp0 := s2 _ _ (upd_same (H := H) (a := p0) (o := .lst [V.int 0]))
      have ml : (mostB (S false)).length ≤ 401 := by
        unfold mostB
        rw [List.length_cons, List.length_map]
        have := List.length_filter_le (fun i => decide (0 < ((S false).getD i []).length)) (List.range (S false).length)
        rw [List.length_range] at this
        omega
      refine ⟨_, _, _, _, rfl, rfl, hp0, hD, by rw [natsV_len, List.length_map]; have := lt_line (n := 1000) (by decide); have := List.length_filter_le (fun i => decide (0 < ((S false).getD i []).length)) (List.range (S false).length); rw [List.length_range] at this; show 1 + _ ≤ _; omega, fun p np => ?_⟩
      have hm : upd H1 p (.lst ([V.int 0] ++ natsV (((List.range (S false).length).filter fun i => decide (0 < ((S false).getD i []).length)).map fun i => i + 1))) p = some (.lst (((mostB (S false)).map fun z : Nat => (z : Int)).map V.int)) := by
        rw [upd_same, List.map_map]
        rfl
      have s4 := Same.new (o := .lst ([V.int 0] ++ natsV (((List.range (S false).length).filter fun i => decide (0 < ((S false).getD i []).length)).map fun i => i + 1))) s3 np
      tm_at "w"
      refine ⟨p, (mostB (S false)).map fun z : Nat => (z : Int), rfl, SqL.of hm, by rw [List.length_map]; exact Nat.succ_pos _, fun m hm1 hm2 => ?_⟩
      obtain ⟨kk, rfl, hkl⟩ := max_le hm1
      have hg4 := s4 _ _ hg
      have h14 := s4 _ _ h1
      tm_at "w"
      refine ⟨_, _, rfl, SqL.of h14, fun p2 np2 => ?_⟩
      rw [take_list (by omega)]
      have s5 := Same.new (o := .lst (xs.take kk)) s4 np2
      refine ⟨p2, rfl, ⟨_, SqL.of upd_same⟩, fun D2 nD2 => lc_listR (fun j v H => ∃ b q, v = .ref b ∧ H b = some (.tup (natsV q)) ∧ q.Perm ((S false).getD j []) ∧ q.Pairwise (· ≤ ·)) (fun j v H H' h k => by
        obtain ⟨b, q, e1, e2, e3⟩ := h
        exact ⟨b, q, e1, k _ _ e2, e3⟩) upd_same nD2 (by rw [List.length_take]; omega) ?_ ?_⟩
      · intro j y H6 N M hy s6 kN
        have il : j < (S false).length := by
          have := (List.getElem?_eq_some_iff.mp hy).1
          rw [List.length_take] at this
          omega
        obtain ⟨a, e1, e2⟩ := h3 j _ (List.getElem?_eq_getElem il)
        have ey : y = .ref a := by
          rw [List.getElem?_take] at hy
          split at hy
          · rw [hy] at e1
            exact Option.some.inj e1
          · cases hy
        subst ey
        have e26 := s6 _ _ (s5 _ _ e2)
        have eg : (S false).getD j [] = (S false)[j] := getD_some (List.getElem?_eq_getElem il)
        tm_at "w"
        refine ⟨a, ((S false)[j]).map fun z : Nat => (z : Int), rfl, SqL.of (by rw [List.map_map]; exact e26), fun ns q perm pw nq => ?_⟩
        obtain ⟨ks, rfl, kp, kw⟩ := nats_perm perm pw
        tm_at "w"
        intro t nt
        refine kN _ _ (Same.new (Same.new (Same.refl H6) nq) nt) ⟨t, ks, rfl, by rw [upd_same, List.map_map]; rfl, by rw [eg]; exact kp, kw⟩
      · intro H6 acc s6 hD2 hlen hR
        tm_at "w"
        intro t nt
        rw [List.length_take] at hlen
        refine k t _ (Same.new (Same.trans s5 s6) nt) ⟨acc, upd_same, ⟨kk, fun y hy => ?_, ?_, by omega⟩, fun j v e => ?_⟩
        · have := hm2 (y : Int) (List.mem_map.mpr ⟨y, hy, rfl⟩)
          omega
        · obtain ⟨z, hz, e⟩ := List.mem_map.mp hm1
          rw [show kk = z by omega]
          exact hz
        · obtain ⟨b, q, e1, e2, e3⟩ := hR j v e
          exact ⟨b, q, e1, (upd_ne (ne_of_none e2 nt)).trans e2, e3⟩
/-! entries_of -/
def entB (P : List (List Nat)) (D : List (List Nat)) (x : Nat) : List Nat := D.map fun row => (row.filter fun k => isA P x k).length
def sp_entries_of (C : Addr) (K : PySem.W.Frag) : Sp := fun vs H Q _ => ∃ (l h x : Nat) (b : Bk) (P : List (List Nat)) (H0 : Hp) (S : Bool → List (List Nat)), vs = [.ref b.b, .ref h, .int x] ∧ BookAt C H b P ∧ x < P.length ∧ G H0 H (RR l h) S ∧ (S true).length ≤ 400 ∧ (∀ d ∈ S true, d.length ≤ 400) ∧
  ∀ t H', Same H H' → H' t = some (.tup (natsV (entB P (S true) x))) → Q (.ref t) H'
theorem sc_entries_of : FnScope ["book", "held", "x", "row", "kind"] ["book", "held", "x"] (defScope s_entries_of) := ⟨rfl, rfl, rfl, by decide +kernel, rfl, by decide +kernel, by decide +kernel⟩
theorem ok_entries_of (T : Top P K mg) : FnOk P w K mg base CX0 2 T.f_entries_of T.fd_entries_of ["book", "held", "x"] (sp_entries_of T.C_Book K) := by
  have G_is_one := ok_is_one (P := P) (w := w) (base := base) T
  refine T.F_entries_of.ok sc_entries_of (fun vs H Q E h => ?_) (fun cdv A outer s H vs Q E hr h => ?_)
  · obtain ⟨l, h, x, b, P, H0, S, rfl, _⟩ := h
    rfl
  · obtain ⟨l, h, x, b, P, H0, S, rfl, hb, hx, hG, h400, hd4, k⟩ := h
    refine ⟨_, (pss_one (ps_ret (pe_callTy (r := rTupQ K) (T := "tuple") call_tuple_of (by rfl) T.z_tuple (by decide +kernel) (pa_cons (pe_lc (own := [("row", 3)]) (g := gName 3) (tt := tYes) rfl sc_entries_of.nd (pi_list (pv 1)) (blkOk_by (own := [("row", 3)]) (N := ["book", "held", "x", "row", "kind"]) (sc := defScope s_entries_of) (by decide +kernel)) (fun _ _ _ _ _ => (pg_name (i := 3) sc_entries_of.nd rfl (Or.inl rfl))) (fun _ _ _ _ _ => pts_nil) (fun _ _ _ _ _ => (pe_callB (r := rLenQ K) (id := "len") call_len_seq (by rfl) T.z_len (by decide +kernel) (pa_cons (by exact (pe_lc (own := [("kind", 4)]) (g := gName 4) rfl sc_entries_of.nd (pi_listK (K := K) rfl (pv 3)) (blk_in (own := [("kind", 4)]) (N := ["book", "held", "x", "row", "kind"]) (sc1 := defScope s_entries_of) rfl rfl (by decide +kernel)) (fun _ _ _ _ _ => (pg_name (i := 4) sc_entries_of.nd rfl (Or.inl rfl))) (fun _ _ _ _ _ => (pts_one (pt_val (pe_call G_is_one hr (by rfl) T.g_is_one T.F_is_one.kp T.b_is_one .nil pass0 (pa_cons (pv 0) (pa_cons (pv 2) (pa_cons (pv 4) pa_nil))))))) (fun _ _ _ _ _ => (pv 4)))) pa_nil)))) pa_nil)))), ?_⟩
    obtain ⟨xs, h1, h2, h3⟩ := hG.at true
    have h1 : H h = some (.lst xs) := h1
    have h2 : xs.length = (S true).length := h2
    tm_at "w"
    refine ⟨⟨_, SqL.of h1⟩, fun D nD => lc_listF (fun i => (S true)[i]?.map fun row => V.int (((row.filter fun k => isA P x k).length : Nat) : Int)) h1 nD (by omega) ?_ ?_⟩
    · intro i y H1 N M hy s1 kN kM
      have il : i < (S true).length := by
        have := (List.getElem?_eq_some_iff.mp hy).1
        omega
      obtain ⟨a, e1, e2⟩ := h3 i _ (List.getElem?_eq_getElem il)
      have ey : y = .ref a := by
        rw [hy] at e1
        exact Option.some.inj e1
      subst ey
      have e21 := s1 _ _ e2
      have dl := hd4 _ (List.getElem_mem il)
      tm_at "w"
      refine ⟨⟨_, SqL.of e21⟩, fun D2 nD2 => lc_listF (fun j => ((S true)[i])[j]?.bind fun k => if isA P x k = true then some (V.int (k : Int)) else none) e21 nD2 (by rw [natsV_len]; omega) ?_ ?_⟩
      · intro j z H2 N2 M2 hz s2 kN2 kM2
        obtain ⟨kd, hkd, rfl, _⟩ := natsV_here hz
        have hb2 := (hb.same s1).same s2
        tm_at "w"
        refine ⟨b, P, x, kd, rfl, hb2, hx, ?_⟩
        refine ⟨_, rfl, ?_⟩
        refine iteB (fun e => ?_) (fun e => ?_)
        · tm_at "w"
          exact kN2 _ _ (by rw [hkd]; show (if isA P x kd = true then _ else _) = _; rw [if_pos e]) (Same.refl H2)
        · exact kM2 _ (by rw [hkd]; show (if isA P x kd = true then _ else _) = _; rw [e, if_neg (by decide)]) (Same.refl H2)
      · intro H2 s2 hD2
        rw [filter_list] at hD2
        tm_at "w"
        rw [natsV_len]
        exact kN _ _ (by rw [List.getElem?_eq_getElem il]; rfl) s2
    · intro H1 s1 hD
      rw [h2, range_items] at hD
      tm_at "w"
      intro t nt
      refine k t _ (Same.new s1 nt) ?_
      rw [upd_same]
      unfold entB natsV
      rw [List.map_map]
      rfl
/-! gone_through -/
local macro_rules | `(tactic| tm_at "fld") => `(tactic| refine ⟨_, _, _, _, _, rfl, by tm_at "hp", by assumption, by assumption, by first | exact grF_lots _ _ | exact grF_held _ _ | exact bkF_bits _ _ | exact bkF_parents _ _ | fail "fld", ?_⟩)
/-- the told rule behind so many kinds -/
def runS (P : List (List Nat)) : Nat → Bool → List (List Nat)
  | 0 => fun _ => []
  | x + 1 => putS P (runS P x) x
def tripB (P : List (List Nat)) (x : Nat) : Tr :=
  let s := putSlot P (runS P x false) (runS P x true) x
  ((s : Int), (((runS P (x + 1) true).getD s []).length : Int), (entB P (runS P (x + 1) true) x).map fun z : Nat => (z : Int))
def runT (P : List (List Nat)) : Nat → List Tr
  | 0 => []
  | x + 1 => runT P x ++ [tripB P x]
theorem runT_len (P : List (List Nat)) : ∀ x, (runT P x).length = x
  | 0 => rfl
  | x + 1 => by
    show (runT P x ++ [tripB P x]).length = x + 1
    rw [List.length_append, runT_len P x]
    rfl
theorem run_ok (P : List (List Nat)) : ∀ x, OkG x (runS P x false) (runS P x true)
  | 0 => ⟨(fun lot h => by cases h), (fun j lot h => by simp [runS] at h), (fun d h => by cases h), (fun d h => by cases h), Nat.le_refl _, Nat.le_refl _, (fun d h => by cases h)⟩
  | x + 1 => (run_ok P x).put
theorem G.more {H0 H : Hp} {R : Bool → Addr} {S : Bool → List (List Nat)} (g : G H0 H R S) {p : Addr} {o : HO} (n : H p = none) : G (upd H0 p o) (upd H p o) R S := by
  obtain ⟨F, f⟩ := g.ex
  refine ⟨fun a u e => ?_, F, fun b => upd_at (ne_of_none (f.lists b) n) (f.lists b), fun b j q e => upd_at (ne_of_none (f.rows b j q e) n) (f.rows b j q e), f.inj, f.apart, f.two, fun b => ?_, fun b j h => ?_⟩
  · by_cases h : a = p
    · rw [h, upd_same] at e ⊢
      exact e
    · rw [upd_ne h] at e ⊢
      exact g.same _ _ e
  · rw [upd_ne (ne_of_none (f.lists b) n)]
    exact f.newR b
  · obtain ⟨q, _, e⟩ := f.row h
    rw [upd_ne (ne_of_none e n)]
    exact f.newF b j h
theorem G.mutb {H0 H : Hp} {R : Bool → Addr} {S : Bool → List (List Nat)} (g : G H0 H R S) {p : Addr} {o u : HO} (n : H0 p = some u) : G (upd H0 p o) (upd H p o) R S := by
  obtain ⟨F, f⟩ := g.ex
  have nR : ∀ b, R b ≠ p := fun b e => by rw [← e, f.newR b] at n; cases n
  have nF : ∀ b (j : Nat), j < (S b).length → F b j ≠ p := fun b j h e => by rw [← e, f.newF b j h] at n; cases n
  refine ⟨fun a u e => ?_, F, fun b => upd_at (nR b) (f.lists b), fun b j q e => upd_at (nF b j (List.getElem?_eq_some_iff.mp e).1) (f.rows b j q e), f.inj, f.apart, f.two, fun b => ?_, fun b j h => ?_⟩
  · by_cases h : a = p
    · rw [h, upd_same] at e ⊢
      exact e
    · rw [upd_ne h] at e ⊢
      exact g.same _ _ e
  · rw [upd_ne (nR b)]
    exact f.newR b
  · rw [upd_ne (nF b j h)]
    exact f.newF b j h
open Classical in
/-- as much as can be kept -/
theorem G.maxb {B H : Hp} {R : Bool → Addr} {S : Bool → List (List Nat)} (g : G B H R S) : ∃ B', G B' H R S ∧ Same B B' ∧ ∀ a xs, H a = some (.tup xs) → B' a = some (.tup xs) := by
  obtain ⟨F, f⟩ := g.ex
  refine ⟨fun a => if (∃ b, a = R b) ∨ ∃ b j, j < (S b).length ∧ a = F b j then none else H a, ⟨fun a o e => ?_, F, f.lists, f.rows, f.inj, f.apart, f.two, fun b => if_pos (.inl ⟨b, rfl⟩), fun b j h => if_pos (.inr ⟨b, j, h, rfl⟩)⟩, fun a o e => ?_, fun a xs e => ?_⟩
  · split at e
    · cases e
    · exact e
  · show (if _ then none else H a) = some o
    rw [if_neg]
    · exact g.same _ _ e
    · rintro (⟨b, rfl⟩ | ⟨b, j, h, rfl⟩)
      · rw [f.newR b] at e
        cases e
      · rw [f.newF b j h] at e
        cases e
  · show (if _ then none else H a) = some _
    rw [if_neg]
    · exact e
    · rintro (⟨b, rfl⟩ | ⟨b, j, h, rfl⟩)
      · rw [f.lists b] at e
        cases e
      · obtain ⟨q, _, z⟩ := f.row h
        rw [z] at e
        cases e
def sp_gone_through (C : Addr) (CG : Addr) (K : PySem.W.Frag) : Sp := fun vs H Q _ => ∃ (b : Bk) (P : List (List Nat)), vs = [.ref b.b] ∧ BookAt C H b P ∧ P.length ≤ 400 ∧
  ∀ t g l h dx f B vs H', Same H H' → H' t = some (.tup [.ref g, .ref f]) → H' g = some (.ins CG dx (grF l h)) → G B H' (RR l h) (runS P P.length) → H' f = some (.lst vs) → ScL H' vs (runT P P.length) → Q (.ref t) H'
theorem sc_gone_through : FnScope ["book", "groups_now", "found", "x", "slot"] ["book"] (defScope s_gone_through) := ⟨rfl, rfl, rfl, by decide +kernel, rfl, by decide +kernel, by decide +kernel⟩
theorem ok_gone_through (T : Top P K mg) : FnOk P w K mg base CX0 5 T.f_gone_through T.fd_gone_through ["book"] (sp_gone_through T.C_Book T.C_Groups K) := by
  have G_Groups___init__ := ok_Groups___init__ (P := P) (w := w) (base := base) T
  have G_Groups_put := ok_Groups_put (P := P) (w := w) (base := base) T
  have G_entries_of := ok_entries_of (P := P) (w := w) (base := base) T
  have G_many_of := ok_many_of (P := P) (w := w) (base := base) T
  refine T.F_gone_through.ok sc_gone_through (fun vs H Q E h => ?_) (fun cdv A outer s H vs Q E hr h => ?_)
  · obtain ⟨b, P, rfl, _⟩ := h
    rfl
  · obtain ⟨b, P, rfl, hb, h400, k⟩ := h
    refine ⟨_, (pss_cons (ps_set (i := 1) sc_gone_through.nd rfl (Or.inl rfl) (pe_make0 T.M_Groups G_Groups___init__ (hr.mono (by decide)) (by rfl) T.g_Groups T.b_Groups___init__ .nil pass0))
      (pss_cons (ps_set (i := 2) sc_gone_through.nd rfl (Or.inl rfl) (pe_lst pa_nil))
      (pss_cons (ps_for PassesOwn.never rfl (pi_range1 rfl T.z_range (pa_cons (pe_call G_many_of (hr.mono (by decide)) (by rfl) T.g_many_of T.F_many_of.kp T.b_many_of .nil pass0 (pa_cons (pv 0) pa_nil)) pa_nil)) (pg_name (i := 3) sc_gone_through.nd rfl (Or.inl rfl))
      (pss_cons (ps_set (i := 4) sc_gone_through.nd rfl (Or.inl rfl) (pe_meth (pv 1) T.cl_Groups T.m_Groups_put G_Groups_put hr T.b_Groups_put .nil pass0 (pa_cons (pv 0) (pa_cons (pv 3) pa_nil))))
      (pss_one (ps_expr (pe_bm PySem.F.plainAttrs_list PySem.F.slot_list_append PySem.F.type_list_append mt_append (pv 2) (pa_cons (pe_tup (pa_cons (pv 4) (pa_cons (pe_callB (r := rLenQ K) (id := "len") call_len_seq (by rfl) T.z_len (by decide +kernel) (pa_cons (pe_ix (r := rIxL K) ix_list (pe_fld (pv 1) rfl) (pv 4) (fun _ _ => rfl)) pa_nil)) (pa_cons (pe_call G_entries_of (hr.mono (by decide)) (by rfl) T.g_entries_of T.F_entries_of.kp T.b_entries_of .nil pass0 (pa_cons (pv 0) (pa_cons (pe_fld (pv 1) rfl) (pa_cons (pv 3) pa_nil)))) pa_nil)))) pa_nil))))))
      (pss_one (ps_ret (pe_tup (pa_cons (pv 1) (pa_cons (pv 2) pa_nil)))))))), ?_⟩
    have cG := T.cl_Groups
    have nG1 := T.n_Groups_lots
    have nG2 := T.n_Groups_held
    obtain ⟨pv, hpv, hpl⟩ := id hb.par
    intro g dx ng ndx ndg
    refine ⟨g, dx, rfl, upd_same, fun l h H1 bt nl nh nlh hg1 hl1 hh1 => ⟨rfl, ?_⟩⟩
    have lg : l ≠ g := fun e => by rw [e, upd_same] at nl; cases nl
    have hgn : h ≠ g := fun e => by rw [e, upd_same] at nh; cases nh
    have nlB : upd (upd H dx (.own g)) g (.ins T.C_Groups dx (grF l h)) l = none := by
      rw [upd_ne lg] at nl ⊢
      exact nl
    have nhB : upd (upd H dx (.own g)) g (.ins T.C_Groups dx (grF l h)) h = none := by
      rw [upd_ne hgn] at nh ⊢
      exact nh
    have sB : Same H (upd (upd H dx (.own g)) g (.ins T.C_Groups dx (grF l h))) := Same.mut (Same.new (Same.refl H) ndx) ng
    have sB1 : Same (upd (upd H dx (.own g)) g (.ins T.C_Groups dx (grF l h))) H1 := fun a o e => by
      by_cases z : a = g
      · rw [z, upd_same] at e
        rw [z, hg1]
        exact e
      · rw [upd_ne z] at e
        exact bt a o z ((upd_ne z).trans e)
    have g0 : G _ H1 (RR l h) (runS P 0) := G.init nlB nhB nlh sB1 hl1 hh1
    tm_at "w"
    intro f nf
    have g1 := g0.more (p := f) (o := .lst []) nf
    have gf : g ≠ f := ne_of_none hg1 nf
    have nfB := Same.free sB1 nf
    have sBf := Same.new (o := .lst []) sB nfB
    tm_at "w"
    refine ⟨b, P, rfl, (hb.same sBf).same g1.same, ?_⟩
    tm_at "w"
    refine for_range (lo := 0) (n := (P.length : Int).toNat) (fun i σ H' => ∃ u v, σ = [some (.ref b.b), some (.ref g), some (.ref f), u, v] ∧ ∃ B vs, Same H B ∧ B g = some (.ins T.C_Groups dx (grF l h)) ∧ B f = some (.lst vs) ∧ G B H' (RR l h) (runS P i) ∧ ScL H' vs (runT P i)) ?_ ?_ ?_
    · exact ⟨none, none, rfl, _, [], sBf, (upd_ne gf).trans upd_same, upd_same, g1, ScL.nil⟩
    · rintro i σ H2 hi ⟨u, v, rfl, B0, vs, sHB0, hBg0, hBf0, hG0, hT⟩
      obtain ⟨B, hG, sub, tups⟩ := hG0.maxb
      have sHB := Same.trans sHB0 sub
      have hBg := sub _ _ hBg0
      have hBf := sub _ _ hBf0
      rw [Int.zero_add]
      tm_at "w"
      refine ⟨g, dx, _, rfl, hG.same _ _ hBg, grF_no _ _ (by decide +kernel) (by decide +kernel), ?_⟩
      tm_at "w"
      refine ⟨g, l, h, i, dx, b, P, B, runS P i, rfl, hBg, hb.same sHB, by omega, h400, hG, run_ok P i, fun H3 hG3 => ?_⟩
      have hG3 : G B H3 (RR l h) (runS P (i + 1)) := hG3
      have tk23 : TK H2 H3 := fun a xs e => hG3.same _ _ (tups a xs e)
      have hf3 := hG3.same _ _ hBf
      have hg3 := hG3.same _ _ hBg
      have ok3 := run_ok P (i + 1)
      have wd3 := ok3.wd
      obtain ⟨xs3, h1, h2, h3⟩ := hG3.at true
      have h1 : H3 h = some (.lst xs3) := h1
      have sl := (putD_len (P := P) (x := i) (run_ok P i)).2
      have sl : putSlot P (runS P i false) (runS P i true) i < (runS P (i + 1) true).length := sl
      obtain ⟨ra, e1, e2⟩ := h3 _ _ (List.getElem?_eq_getElem sl)
      tm_at "w"
      refine ⟨l, h, i, b, P, B, runS P (i + 1), rfl, (hb.same sHB).same hG3.same, by omega, hG3, by omega, fun d hd => by have := ok3.rows d hd; omega, fun t H4 s4 ht => ?_⟩
      tm_at "w"
      intro T nT
      have hf4 := s4 _ _ hf3
      have hf5 : ∀ o, upd H4 T o f = some (.lst vs) := fun o => (upd_ne (ne_of_none hf4 nT)).trans hf4
      have hTf : T ≠ f := (ne_of_none hf4 nT).symm
      have nfH := Same.free sB nfB
      have vl : vs.length = i := hT.len.trans (runT_len P i)
      tm_at "w"
      refine ⟨_, _, rfl, upd B f (.lst (vs ++ [.ref T])), vs ++ [.ref T], Same.mut sHB nfH, (upd_ne gf).trans hBg, upd_same, ((hG3.later s4).later (Same.new (Same.refl H4) nT)).mutb hBf, ?_⟩
      refine (hT.tk (TK.trans (TK.trans tk23 (Same.tk s4)) (TK.trans (TK.new nT) (TK.mut (hf5 _))))).snoc ⟨T, t, rfl, ?_, ?_⟩
      · refine (upd_ne hTf).trans (upd_same.trans ?_)
        rw [natsV_len]
        show _ = some (HO.tup [V.int (putSlot P (runS P i false) (runS P i true) i : Nat), V.int (((runS P (i + 1) true).getD (putSlot P (runS P i false) (runS P i true) i) []).length : Nat), V.ref t])
        rw [getD_some (List.getElem?_eq_getElem sl)]
      · refine (upd_ne (fun e => by rw [e, hf4] at ht; cases ht)).trans ((upd_ne (ne_of_none ht nT)).trans (ht.trans ?_))
        show _ = some (HO.tup (((entB P (runS P (i + 1) true) i).map fun z : Nat => (z : Int)).map V.int))
        rw [List.map_map]
        rfl
    · rintro σ H2 ⟨u, v, rfl, B, vs, sHB, hBg, hBf, hG, hT⟩
      tm_at "w"
      intro t nt
      have e : (P.length : Int).toNat = P.length := Int.toNat_natCast _
      rw [e] at hG hT
      exact k t g l h dx f B vs _ (Same.new (Same.trans sHB hG.same) nt) upd_same ((Same.new (Same.refl H2) nt) _ _ (hG.same _ _ hBg)) (hG.later (Same.new (Same.refl H2) nt)) ((Same.new (Same.refl H2) nt) _ _ (hG.same _ _ hBf)) (hT.tk (TK.new nt))
/-! groups -/
def sp_groups (C : Addr) (CG : Addr) (K : PySem.W.Frag) : Sp := fun vs H Q _ => ∃ (b : Bk) (P : List (List Nat)), vs = [.ref b.b] ∧ BookAt C H b P ∧ P.length ≤ 400 ∧
  ∀ t H', Same H H' → LotsAt H' t (runS P P.length false) → Q (.ref t) H'
theorem sc_groups : FnScope ["book"] ["book"] (defScope s_groups) := ⟨rfl, rfl, rfl, by decide +kernel, rfl, by decide +kernel, by decide +kernel⟩
theorem ok_groups (T : Top P K mg) : FnOk P w K mg base CX0 6 T.f_groups T.fd_groups ["book"] (sp_groups T.C_Book T.C_Groups K) := by
  have G_Groups_told := ok_Groups_told (P := P) (w := w) (base := base) T
  have G_gone_through := ok_gone_through (P := P) (w := w) (base := base) T
  refine T.F_groups.ok sc_groups (fun vs H Q E h => ?_) (fun cdv A outer s H vs Q E hr h => ?_)
  · obtain ⟨b, P, rfl, _⟩ := h
    rfl
  · obtain ⟨b, P, rfl, hb, h400, k⟩ := h
    refine ⟨_, (pss_one (ps_ret (pe_meth0 (pe_ix (r := rIxT K) ix_tup (pe_call G_gone_through hr (by rfl) T.g_gone_through T.F_gone_through.kp T.b_gone_through .nil pass0 (pa_cons (pv 0) pa_nil)) pe_int (fun _ _ => rfl)) T.cl_Groups T.m_Groups_told G_Groups_told (hr.mono (by decide)) T.b_Groups_told .nil pass0))), ?_⟩
    tm_at "w"
    refine ⟨b, P, rfl, hb, h400, fun t g l h dx f B vs H1 s1 ht hg hG hf hT => ?_⟩
    have ok := run_ok P P.length
    have wl := ok.wl
    tm_at "w"
    refine ⟨g, dx, _, rfl, hg, grF_no _ _ (by decide +kernel) (by decide +kernel), ?_⟩
    tm_at "w"
    refine ⟨g, l, h, dx, B, _, rfl, hg, hG, by omega, fun lot hl => ?_, fun u H2 s2 hu => k u H2 (Same.trans s1 s2) hu⟩
    obtain ⟨j, hj⟩ := List.mem_iff_getElem?.mp hl
    have := ok.few j lot hj
    have := (List.getElem?_eq_some_iff.mp hj).1
    omega
/-! told_scheme -/
def sp_told_scheme (C : Addr) (CG : Addr) (K : PySem.W.Frag) : Sp := fun vs H Q _ => ∃ (b : Bk) (P : List (List Nat)), vs = [.ref b.b] ∧ BookAt C H b P ∧ P.length ≤ 400 ∧
  ∀ t H', Same H H' → SchAt H' t (runT P P.length) → Q (.ref t) H'
theorem sc_told_scheme : FnScope ["book"] ["book"] (defScope s_told_scheme) := ⟨rfl, rfl, rfl, by decide +kernel, rfl, by decide +kernel, by decide +kernel⟩
theorem ok_told_scheme (T : Top P K mg) : FnOk P w K mg base CX0 6 T.f_told_scheme T.fd_told_scheme ["book"] (sp_told_scheme T.C_Book T.C_Groups K) := by
  have G_gone_through := ok_gone_through (P := P) (w := w) (base := base) T
  refine T.F_told_scheme.ok sc_told_scheme (fun vs H Q E h => ?_) (fun cdv A outer s H vs Q E hr h => ?_)
  · obtain ⟨b, P, rfl, _⟩ := h
    rfl
  · obtain ⟨b, P, rfl, hb, h400, k⟩ := h
    refine ⟨_, (pss_one (ps_ret (pe_callTy (r := rTupQ K) (T := "tuple") call_tuple_of (by rfl) T.z_tuple (by decide +kernel) (pa_cons (pe_ix (r := rIxT K) ix_tup (pe_call G_gone_through hr (by rfl) T.g_gone_through T.F_gone_through.kp T.b_gone_through .nil pass0 (pa_cons (pv 0) pa_nil)) pe_int (fun _ _ => rfl)) pa_nil)))), ?_⟩
    tm_at "w"
    refine ⟨b, P, rfl, hb, h400, fun t g l h dx f B vs H1 s1 ht hg hG hf hT => ?_⟩
    tm_at "w"
    intro u nu
    exact k u _ (Same.new s1 nu) ((hT.tk (TK.new nu)).sch upd_same)
/-! told -/
def sp_told (K : PySem.W.Frag) : Sp := fun vs H Q _ => ∃ (a : Addr) (S : List Tr) (x p : Nat) (ex ep : Tr), vs = [.ref a, .int x, .int p] ∧ SchAt H a S ∧ S[x]? = some ex ∧ S[p]? = some ep ∧ 0 ≤ ep.1 ∧ Q (.bl (saysB ex ep)) H
theorem sc_told : FnScope ["scheme", "x", "p", "entries", "slot", "number", "row"] ["scheme", "x", "p"] (defScope s_told) := ⟨rfl, rfl, rfl, by decide +kernel, rfl, by decide +kernel, by decide +kernel⟩
theorem ok_told (T : Top P K mg) : FnOk P w K mg base CX0 1 T.f_told T.fd_told ["scheme", "x", "p"] (sp_told K) := by
  refine T.F_told.ok sc_told (fun vs H Q E h => ?_) (fun cdv A outer s H vs Q E hr h => ?_)
  · obtain ⟨a, S, x, p, ex, ep, rfl, _⟩ := h
    rfl
  · obtain ⟨a, S, x, p, ⟨s1, n1, r1⟩, ⟨s2, n2, r2⟩, rfl, hS, hx, hp, h0, k⟩ := h
    obtain ⟨vs, px, qx, ha, hl, hvx, hpx, hqx⟩ := hS.at hx
    obtain ⟨vs', pp, qp, ha', hl', hvp, hpp, hqp⟩ := hS.at hp
    have ev : vs = vs' := HO.tup.inj (Option.some.inj (ha.symm.trans ha'))
    subst ev
    refine ⟨_, (pss_cons (ps_asg (pe_ix (r := rIxT K) ix_tup (pv 0) (pv 2) (fun _ _ => rfl)) (pg_tup rfl (pgs_cons (pg_name (i := 4) sc_told.nd rfl (Or.inl rfl)) (pgs_cons (pg_name (i := 5) sc_told.nd rfl (Or.inl rfl)) (pgs_cons (pg_name (i := 6) sc_told.nd rfl (Or.inl rfl)) pgs_nil)))))
      (pss_cons (ps_set (i := 3) sc_told.nd rfl (Or.inl rfl) (pe_ix (r := rIxT K) ix_tup (pe_ix (r := rIxT K) ix_tup (pv 0) (pv 1) (fun _ _ => rfl)) pe_int (fun _ _ => rfl)))
      (pss_one (ps_ret (pe_and (pe_cmpR op_lt (pv 4) (pe_callB (r := rLenQ K) (id := "len") call_len_seq (by rfl) T.z_len (by decide +kernel) (pa_cons (pv 3) pa_nil)) (nomark _)) (pe_one (pe_cmpR op_ge (pe_ix (r := rIxT K) ix_tup (pv 3) (pv 4) (fun _ _ => rfl)) (pv 5) (nomark _)))))))), ?_⟩
    tm_at "w"
    refine iteD (fun h1 => ?_) (fun h1 => ?_)
    · rw [List.length_map] at h1
      tm_at "w"
      refine ⟨_, _, _, _, rfl, rfl, by tm_at "sqt", at_map h0 h1, ?_⟩
      tm_at "w"
      have e : saysB (s1, n1, r1) (s2, n2, r2) = decide (n2 ≤ r1.getD s2.toNat 0) := by
        show (decide (s2 < (r1.length : Int)) && decide (n2 ≤ r1.getD s2.toNat 0)) = _
        rw [decide_eq_true h1, Bool.true_and]
      rw [e] at k
      exact k
    · rw [List.length_map] at h1
      have e : saysB (s1, n1, r1) (s2, n2, r2) = false := by
        show (decide (s2 < (r1.length : Int)) && decide (n2 ≤ r1.getD s2.toNat 0)) = _
        rw [decide_eq_false h1, Bool.false_and]
      rw [e] at k
      exact k
/-! _law_flow -/
def sp__law_flow (K : PySem.W.Frag) : Sp := fun vs H Q _ => ∃ (a : Addr) (ns : List Int), vs = [.ref a] ∧ SqL K H a (ns.map V.int) ∧ ns.length ≤ 63 ∧ ∀ φ H', Same H H' → Flow φ H' → Q (.ref φ.t) H'
theorem sc__law_flow : FnScope ["_law_script"] ["_law_script"] (defScope s__law_flow) := ⟨rfl, rfl, rfl, by decide +kernel, rfl, by decide +kernel, by decide +kernel⟩
theorem ok__law_flow (T : Top P K mg) : FnOk P w K mg base CX0 1 T.f__law_flow T.fd__law_flow ["_law_script"] (sp__law_flow K) := by
  refine T.F__law_flow.ok sc__law_flow (fun vs H Q E h => ?_) (fun cdv A outer s H vs Q E hr h => ?_)
  · obtain ⟨a, ns, rfl, _⟩ := h
    rfl
  · obtain ⟨a, ns, rfl, hS, hn, k⟩ := h
    refine ⟨_, (pss_one (ps_ret (pe_lst (pa_cons (pe_callTy (r := rListQ K) (T := "list") call_list_of (by rfl) T.z_list (by decide +kernel) (pa_cons (pv 0) pa_nil)) (pa_cons pe_int (pa_cons pe_int (pa_cons pe_int pa_nil))))))), ?_⟩
    refine ⟨_, rfl, a, _, rfl, .inl hS, fun l nl => ?_⟩
    tm_at "w"
    intro t nt
    have s1 : Same H (upd H l (.lst (ns.map V.int))) := Same.new (Same.refl H) nl
    have hl : (upd H l (.lst (ns.map V.int))) l = some (.lst (ns.map V.int)) := upd_same
    exact k ⟨t, l⟩ _ (Same.new s1 nt) ⟨ne_of_none hl nt, ⟨ns, upd_at (ne_of_none hl nt) hl, hn⟩, 0, 12345, 0, upd_same, Int.le_refl _⟩
/-! _law_draw -/
theorem seq0 (r : Nat) : seqIndex? 0 (r + 1) = some 0 := by
  unfold seqIndex?
  simp
def sp__law_draw (K : PySem.W.Frag) : Sp := fun vs H Q _ => ∃ (φ : Fw) (m : Int), vs = [.ref φ.t, .int m] ∧ Flow φ H ∧ 0 < m ∧ m < 1073741824 ∧ ∀ (r : Int) (H' : Hp), Fv φ H H' → 0 ≤ r → r < m → Q (.int r) H'
theorem sc__law_draw : FnScope ["_law_flow_here", "_law_many", "_law_number", "_law_cell", "_law_drawn"] ["_law_flow_here", "_law_many"] (defScope s__law_draw) := ⟨rfl, rfl, rfl, by decide +kernel, rfl, by decide +kernel, by decide +kernel⟩
theorem ok__law_draw (T : Top P K mg) : FnOk P w K mg base CX0 1 T.f__law_draw T.fd__law_draw ["_law_flow_here", "_law_many"] (sp__law_draw K) := by
  refine T.F__law_draw.ok sc__law_draw (fun vs H Q E h => ?_) (fun cdv A outer s H vs Q E hr h => ?_)
  · obtain ⟨φ, m, rfl, _⟩ := h
    rfl
  · obtain ⟨φ, m, rfl, m0, hm, hm2, k⟩ := h
    refine ⟨_, (C8.pss_cut (ps_if (PW.pt (pw_and (pt_cmpR op_eq (pe_ix (r := rIxL K) ix_list (pv 0) pe_int (fun _ _ => rfl)) pe_int (nomark _)) (pw_and1 (pt_cmpR op_gt (pe_callB (r := rLenQ K) (id := "len") call_len_seq (by rfl) T.z_len (by decide +kernel) (pa_cons (pe_ix (r := rIxL K) ix_list (pv 0) pe_int (fun _ _ => rfl)) pa_nil)) pe_int (nomark _))))) (pss_cons (ps_set (i := 3) sc__law_draw.nd rfl (Or.inl rfl) (pe_callB (id := "abs") call_abs (by rfl) T.z_abs (by decide +kernel) (pa_cons (pe_callTy (T := "int") call_int1 (by rfl) T.z_int (by decide +kernel) (pa_cons (pe_bm PySem.F.plainAttrs_list PySem.F.slot_list_pop PySem.F.type_list_pop mt_popAt (pe_ix (r := rIxL K) ix_list (pv 0) pe_int (fun _ _ => rfl)) (pa_cons pe_int pa_nil)) pa_nil)) pa_nil)))
      (pss_cons (ps_asg (pe_op op_modN (pe_op op_add (pe_callTy (T := "int") call_int1 (by rfl) T.z_int (by decide +kernel) (pa_cons (pe_ix (r := rIxL K) ix_list (pv 0) pe_int (fun _ _ => rfl)) pa_nil)) (pv 3)) pe_int) (pg_sub (pv 0) pe_int set_list))
      (pss_one (ps_if (pt_cmpR op_ge (pv 3) (pe_op op_pow pe_int pe_int) (nomark _)) (pss_one (ps_asg (pv 3) (pg_sub (pv 0) pe_int set_list))) pss_nil)))) pss_nil)
      (pss_cons (ps_if (pt_cmpR op_gt (pe_ix (r := rIxL K) ix_list (pv 0) pe_int (fun _ _ => rfl)) pe_int (nomark _)) (pss_cons (ps_set (i := 4) sc__law_draw.nd rfl (Or.inl rfl) (pe_op op_modN (pe_callTy (T := "int") call_int1 (by rfl) T.z_int (by decide +kernel) (pa_cons (pe_ix (r := rIxL K) ix_list (pv 0) pe_int (fun _ _ => rfl)) pa_nil)) (pv 1)))
      (pss_cons (ps_asg (pe_op op_fdivN (pe_callTy (T := "int") call_int1 (by rfl) T.z_int (by decide +kernel) (pa_cons (pe_ix (r := rIxL K) ix_list (pv 0) pe_int (fun _ _ => rfl)) pa_nil)) (pv 1)) (pg_sub (pv 0) pe_int set_list))
      (pss_one (ps_ret (pv 4))))) pss_nil)
      (pss_cons (ps_asg (pe_op op_add (pe_ix (r := rIxL K) ix_list (pv 0) pe_int (fun _ _ => rfl)) pe_int) (pg_sub (pv 0) pe_int set_list))
      (pss_cons (ps_set (i := 2) sc__law_draw.nd rfl (Or.inl rfl) (pe_op op_modN (pe_op op_add (pe_op op_add (pe_op op_mul (pe_callTy (T := "int") call_int1 (by rfl) T.z_int (by decide +kernel) (pa_cons (pe_ix (r := rIxL K) ix_list (pv 0) pe_int (fun _ _ => rfl)) pa_nil)) pe_int) (pe_op op_mul pe_int (pe_callTy (T := "int") call_int1 (by rfl) T.z_int (by decide +kernel) (pa_cons (pe_ix (r := rIxL K) ix_list (pv 0) pe_int (fun _ _ => rfl)) pa_nil)))) pe_int) pe_int))
      (pss_cons (ps_set (i := 2) sc__law_draw.nd rfl (Or.inl rfl) (pe_op op_modN (pe_op op_mul (pv 2) (pe_op op_add (pe_op op_fdivN (pv 2) pe_int) pe_int)) pe_int))
      (pss_cons (ps_set (i := 2) sc__law_draw.nd rfl (Or.inl rfl) (pe_op op_modN (pe_op op_mul (pv 2) (pe_op op_add (pe_op op_fdivN (pv 2) pe_int) pe_int)) pe_int))
      (pss_cons (ps_asg (pv 2) (pg_sub (pv 0) pe_int set_list))
      (pss_one (ps_ret (pe_op op_modN (pe_op op_fdivN (pv 2) pe_int) (pv 1))))))))))), ?_⟩
    obtain ⟨ne, ⟨ns, hl, hnl⟩, a, b, c, ht, ha⟩ := id m0
    tm_at "w"
    refine ⟨fun σ H' => ∃ (x : Option V), σ = [some (.ref φ.t), some (.int m), none, x, none] ∧ Fv φ H H', ?_, ?_⟩
    · tm_at "w"
      refine iteI (fun hc => ?_) (fun hc => ?_)
      · subst hc
        tm_at "w"
        refine iteD (fun hz => ?_) (fun hz => ?_)
        · obtain ⟨n0, r, rfl⟩ : ∃ n0 r, ns = n0 :: r := by
            cases ns with
            | nil => exact absurd hz (by decide)
            | cons n0 r => exact ⟨n0, r, rfl⟩
          tm_at "w"
          refine ⟨φ.l, _, 0, 0, .int n0, rfl, rfl, hl, by decide, by decide, (by rw [List.length_map]; exact seq0 _), rfl, ?_⟩
          have m1 : Fv φ H (upd H φ.l (.lst (r.map V.int))) := m0.fv.eat (ns := r) (by have : (n0 :: r).length = r.length + 1 := rfl; omega)
          have hl1 : (upd H φ.l (.lst (r.map V.int))) φ.l = some (.lst (r.map V.int)) := upd_same
          have ht1 : (upd H φ.l (.lst (r.map V.int))) φ.t = some (.lst [.ref φ.l, .int 0, .int b, .int c]) := upd_at ne.symm ht
          have ee : ((n0 :: r).map V.int).eraseIdx 0 = r.map V.int := rfl
          rw [ee]
          revert m1 hl1 ht1
          generalize upd H φ.l (.lst (r.map V.int)) = H1
          intro m1 hl1 ht1
          tm_at "w"
          refine iteD (fun hd => ?_) (fun hd => ?_)
          · tm_at "w"
            have h0 : 0 ≤ (if n0 < 0 then -n0 else n0) := by split <;> omega
            exact (m1.put rfl (Int.le_refl 0)).put rfl h0
          · exact ⟨_, rfl, m1.put rfl (Int.le_refl 0)⟩
        · exact ⟨none, rfl, m0.fv⟩
      · exact ⟨none, rfl, m0.fv⟩
    · rintro σ H' ⟨x, rfl, m1⟩
      obtain ⟨ne, ⟨ns, hl, hnl⟩, a, b, c, ht, ha⟩ := m1.now
      tm_at "w"
      refine iteD (fun hc => ?_) (fun hc => ?_)
      · tm_at "w"
        exact k _ _ (m1.put rfl (Int.fdiv_nonneg ha (by omega))) (fmod_in hm).1 (fmod_in hm).2
      · tm_at "w"
        exact k _ _ ((m1.put rfl ha).put rfl ha) (fmod_in hm).1 (fmod_in hm).2
/-! _law_parents -/
theorem inV_nats (k : Nat) (q : List Nat) : inV (.int (k : Int)) (natsV q) = decide (k ∈ q) := by
  have e : natsV q = (q.map fun z : Nat => (z : Int)).map V.int := by unfold natsV; rw [List.map_map]; rfl
  rw [e, inV_int]
  refine decide_eq_decide.mpr ⟨fun h => ?_, fun h => List.mem_map.mpr ⟨k, h, rfl⟩⟩
  obtain ⟨z, hz, ez⟩ := List.mem_map.mp h
  rw [show k = z by omega]
  exact hz
theorem flat_nats (q : List Nat) : (natsV q).all flatV = true := List.all_eq_true.mpr fun v hv => by
  unfold natsV at hv
  obtain ⟨n, _, rfl⟩ := List.mem_map.mp hv
  rfl
theorem new_hide {H X : Hp} {t : Addr} {o : HO} (s : Same H (upd X t o)) : ∃ H9, upd X t o = H9 ∧ Same H H9 ∧ H9 t = some o := ⟨_, rfl, s, upd_same⟩
theorem alloc_hide {H : Hp} {p : Addr} {o : HO} {R : Hp → Prop} (n : H p = none) (k : ∀ J, Same H J → J p = some o → R J) : R (upd H p o) := k _ (Same.new (Same.refl H) n) upd_same
theorem sort_nats {q : List Nat} {ns' : List Int} (hp : ns'.Perm (q.map fun k : Nat => (k : Int))) (hs : ns'.Pairwise (· ≤ ·)) : ∃ q' : List Nat, ns'.map V.int = natsV q' ∧ q'.Perm q ∧ q'.Pairwise (· ≤ ·) := by
  have nn : ∀ z ∈ ns', 0 ≤ z := fun z hz => by
    obtain ⟨k, _, rfl⟩ := List.mem_map.mp (hp.mem_iff.mp hz)
    omega
  refine ⟨ns'.map Int.toNat, ?_, ?_, ?_⟩
  · unfold natsV
    rw [List.map_map]
    refine List.map_congr_left fun z hz => ?_
    show V.int z = V.int ((z.toNat : Nat) : Int)
    rw [Int.toNat_of_nonneg (nn z hz)]
  · have := hp.map Int.toNat
    rw [List.map_map] at this
    have e : (q.map (Int.toNat ∘ fun k : Nat => (k : Int))) = q := by
      rw [show (Int.toNat ∘ fun k : Nat => (k : Int)) = id from by funext k; exact Int.toNat_natCast k, List.map_id]
    rw [e] at this
    exact this
  · rw [List.pairwise_map]
    exact hs.imp fun h => Int.toNat_le_toNat h
theorem asc_of {q : List Nat} (h : q.Pairwise (· ≤ ·)) (n : q.Nodup) : q.Pairwise (· < ·) := by
  refine (h.and n).imp fun ⟨a, b⟩ => ?_
  omega
def sp__law_parents (K : PySem.W.Frag) : Sp := fun vs H Q _ => ∃ (φ : Fw) (n s : Nat), vs = [.ref φ.t, .int n, .int s] ∧ Flow φ H ∧ n ≤ 1000 ∧ s < 4 ∧ ∀ a q H', Fv φ H H' → H' a = some (.tup (natsV q)) → OkL q n → Q (.ref a) H'
theorem sc__law_parents : FnScope ["_law_flow_here", "_law_many", "_law_shape", "_law_span", "_law_low", "_law_wanted", "_law_found", "_law_turn", "_law_parent"] ["_law_flow_here", "_law_many", "_law_shape"] (defScope s__law_parents) := ⟨rfl, rfl, rfl, by decide +kernel, rfl, by decide +kernel, by decide +kernel⟩
theorem ok__law_parents (T : Top P K mg) : FnOk P w K mg base CX0 2 T.f__law_parents T.fd__law_parents ["_law_flow_here", "_law_many", "_law_shape"] (sp__law_parents K) := by
  have G__law_draw := ok__law_draw (P := P) (w := w) (base := base) T
  refine T.F__law_parents.ok sc__law_parents (fun vs H Q E h => ?_) (fun cdv A outer s H vs Q E hr h => ?_)
  · obtain ⟨φ, n, s, rfl, _⟩ := h
    rfl
  · obtain ⟨φ, n, s, rfl, m0, hn, hs, k⟩ := h
    refine ⟨_, (pss_cons (ps_if (pt_cmpR op_eq (pv 1) pe_int (nomark _)) (pss_one (ps_ret (pe_tup pa_nil))) pss_nil)
      (pss_cons (ps_set (i := 3) sc__law_parents.nd rfl (Or.inl rfl) (pe_callB (id := "min") (call_min2 rfl) (by rfl) T.z_min (by decide +kernel) (pa_cons (pv 1) (pa_cons (pe_ix (r := rIxL K) ix_list (pe_lst (pa_cons (pv 1) (pa_cons pe_int (pa_cons (pv 1) (pa_cons pe_int pa_nil))))) (pv 2) (fun _ _ => rfl)) pa_nil))))
      (pss_cons (ps_set (i := 4) sc__law_parents.nd rfl (Or.inl rfl) pe_int)
      (C8.pss_cut (ps_if (pt_cmpR op_eq (pv 2) pe_int (nomark _)) (pss_one (ps_set (i := 4) sc__law_parents.nd rfl (Or.inl rfl) (pe_op op_sub (pv 1) (pv 3)))) pss_nil)
      (pss_cons (ps_set (i := 5) sc__law_parents.nd rfl (Or.inl rfl) (pe_call G__law_draw hr (by rfl) T.g__law_draw T.F__law_draw.kp T.b__law_draw .nil pass0 (pa_cons (pv 0) (pa_cons (pe_ix (r := rIxL K) ix_list (pe_lst (pa_cons pe_int (pa_cons pe_int (pa_cons pe_int (pa_cons pe_int pa_nil))))) (pv 2) (fun _ _ => rfl)) pa_nil))))
      (C8.pss_cut (ps_if (pt_cmpR op_eq (pv 2) pe_int (nomark _)) (pss_one (ps_set (i := 5) sc__law_parents.nd rfl (Or.inl rfl) (pe_op op_add (pv 5) pe_int))) pss_nil)
      (pss_cons (ps_set (i := 6) sc__law_parents.nd rfl (Or.inl rfl) (pe_lst pa_nil))
      (pss_cons (ps_for PassesOwn.never rfl (pi_range1 rfl T.z_range (pa_cons (pv 5) pa_nil)) (pg_name (i := 7) sc__law_parents.nd rfl (Or.inl rfl))
      (pss_cons (ps_set (i := 8) sc__law_parents.nd rfl (Or.inl rfl) (pe_op op_add (pv 4) (pe_call G__law_draw hr (by rfl) T.g__law_draw T.F__law_draw.kp T.b__law_draw .nil pass0 (pa_cons (pv 0) (pa_cons (pv 3) pa_nil)))))
      (pss_one (ps_if (pt_cmpR op_notIn_seq (pv 8) (pv 6) (by rfl)) (pss_one (ps_expr (pe_bm PySem.F.plainAttrs_list PySem.F.slot_list_append PySem.F.type_list_append mt_append (pv 6) (pa_cons (pv 8) pa_nil)))) pss_nil))))
      (pss_one (ps_ret (pe_callTy (r := rTupQ K) (T := "tuple") call_tuple_of (by rfl) T.z_tuple (by decide +kernel) (pa_cons (pe_callB (id := "sorted") cr_sortedI (by rfl) T.z_sorted (by decide +kernel) (pa_cons (pv 6) pa_nil)) pa_nil)))))))))))), ?_⟩
    tm_at "w"
    by_cases z : n = 0
    · refine iteET (by rw [z]; rfl) ?_
      tm_at "w"
      intro p np
      exact k p [] _ (m0.fv.new np) upd_same ⟨List.Pairwise.nil, (fun x hx => by cases hx), by decide⟩
    · refine iteEF (by rw [decide_eq_false (fun e => z (by have := V.int.inj e; omega))]) ?_
      tm_at "w"
      intro p np
      obtain ⟨H1, e1, s1, hp⟩ := new_hide (Same.new (o := .lst [.int n, .int 3, .int n, .int 3]) (Same.refl H) np)
      rw [e1]
      obtain ⟨X, hX, hX2⟩ : ∃ X : Nat, atI ([.int n, .int 3, .int n, .int 3] : List V) (s : Int) = some (.int X) ∧ (X = n ∨ X = 3) := by
        rcases (show s = 0 ∨ s = 1 ∨ s = 2 ∨ s = 3 by omega) with rfl | rfl | rfl | rfl
        · exact ⟨n, rfl, .inl rfl⟩
        · exact ⟨3, rfl, .inr rfl⟩
        · exact ⟨n, rfl, .inl rfl⟩
        · exact ⟨3, rfl, .inr rfl⟩
      tm_at "w"
      refine ⟨_, _, _, _, rfl, rfl, SqL.of hp, hX, ?_⟩
      obtain ⟨sp, hsp, sp0, spn⟩ : ∃ sp : Nat, (if (X : Int) < (n : Int) then (X : Int) else (n : Int)) = (sp : Int) ∧ 0 < sp ∧ sp ≤ n := by
        by_cases c : X < n
        · exact ⟨X, by rw [if_pos (by omega)], by omega, by omega⟩
        · exact ⟨n, by rw [if_neg (by omega)], by omega, by omega⟩
      refine ⟨_, _, rfl, ?_⟩
      rw [hsp]
      tm_at "w"
      refine ⟨fun σ H' => ∃ low : Nat, σ = [some (.ref φ.t), some (.int (n : Int)), some (.int (s : Int)), some (.int (sp : Int)), some (.int (low : Int)), none, none, none, none] ∧ H' = H1 ∧ low + sp ≤ n, ?_, ?_⟩
      · tm_at "w"
        by_cases z1 : s = 1
        · refine iteET (by rw [z1]; rfl) ?_
          tm_at "w"
          exact ⟨n - sp, by rw [Int.ofNat_sub spn]; rfl, rfl, by omega⟩
        · refine iteEF (by rw [decide_eq_false (fun e => z1 (by have := V.int.inj e; omega))]) ?_
          exact ⟨0, rfl, rfl, by omega⟩
      rintro σ H' ⟨low, rfl, rfl, hlow⟩
      tm_at "w"
      intro p2 np2
      obtain ⟨H2, e2, s2, hp2⟩ := new_hide (Same.new (o := .lst [.int 2, .int 2, .int 7, .int 2]) (Same.refl H') np2)
      rw [e2]
      have m2 := m0.fv.same (Same.trans s1 s2)
      obtain ⟨W, hW, hW2⟩ : ∃ W : Nat, atI ([.int 2, .int 2, .int 7, .int 2] : List V) (s : Int) = some (.int W) ∧ (W = 2 ∨ W = 7 ∧ s ≠ 1) := by
        rcases (show s = 0 ∨ s = 1 ∨ s = 2 ∨ s = 3 by omega) with rfl | rfl | rfl | rfl
        · exact ⟨2, rfl, .inl rfl⟩
        · exact ⟨2, rfl, .inl rfl⟩
        · exact ⟨7, rfl, .inr ⟨rfl, by decide⟩⟩
        · exact ⟨2, rfl, .inl rfl⟩
      tm_at "w"
      refine ⟨_, _, _, _, rfl, rfl, SqL.of hp2, hW, ?_⟩
      tm_at "w"
      refine ⟨φ, _, rfl, m2.now, by omega, by omega, fun r H3 m3 r0 r1 => ?_⟩
      obtain ⟨r, rfl⟩ : ∃ k : Nat, r = k := ⟨r.toNat, by omega⟩
      tm_at "w"
      refine ⟨fun σ H' => ∃ w : Nat, σ = [some (.ref φ.t), some (.int (n : Int)), some (.int (s : Int)), some (.int (sp : Int)), some (.int (low : Int)), some (.int (w : Int)), none, none, none] ∧ H' = H3 ∧ w ≤ 6, ?_, ?_⟩
      · tm_at "w"
        by_cases z1 : s = 1
        · refine iteET (by rw [z1]; rfl) ?_
          tm_at "w"
          show r + 1 ≤ 6
          omega
        · refine iteEF (by rw [decide_eq_false (fun e => z1 (by have := V.int.inj e; omega))]) ?_
          exact ⟨r, rfl, rfl, by omega⟩
      rintro σ H4 ⟨w, rfl, rfl, hw⟩
      have m4 := m2.trans m3
      tm_at "w"
      intro F nF
      have m5 := m4.new (o := .lst []) nF
      tm_at "w"
      refine for_range (lo := 0) (n := (w : Int).toNat) (fun i σ H' => ∃ v7 v8, σ = [some (.ref φ.t), some (.int (n : Int)), some (.int (s : Int)), some (.int (sp : Int)), some (.int (low : Int)), some (.int (w : Int)), some (.ref F), v7, v8] ∧ Fv φ H4 H' ∧ ∃ q : List Nat, H' F = some (.lst (natsV q)) ∧ q.Nodup ∧ (∀ x ∈ q, x < n) ∧ q.length ≤ i) ?_ ?_ ?_
      · exact ⟨_, _, rfl, m4.now.fv.new nF, [], upd_same, List.nodup_nil, (fun x hx => by cases hx), Nat.le_refl _⟩
      · rintro i σ H5 hi ⟨v7, v8, rfl, m5, q, hF, hq, hqn, hql⟩
        tm_at "w"
        refine ⟨φ, _, rfl, m5.now, by omega, by omega, fun r2 H6 m6 a0 a1 => ?_⟩
        obtain ⟨r2, rfl⟩ : ∃ k : Nat, r2 = k := ⟨r2.toNat, by omega⟩
        have oF := m4.now.off nF
        have hF6 := m6.keep _ _ oF hF
        refine ⟨_, _, rfl, rfl, ?_⟩
        show gName 8 (V.int (((low + r2 : Nat) : Int))) _ _ _
        tm_at "w"
        refine ⟨flat_nats _, ?_⟩
        show ∃ k, V.bl (!inV (.int ((low + r2 : Nat) : Int)) (natsV q)) = V.bl k ∧ _
        rw [inV_nats]
        refine ⟨_, rfl, ?_⟩
        refine iteB (fun e => ?_) (fun e => ?_)
        · have nq : low + r2 ∉ q := fun h => by rw [decide_eq_true h] at e; cases e
          tm_at "w"
          refine ⟨_, _, _, rfl, rfl, hF6, lt_line (by rw [natsV_len]; omega), ?_⟩
          refine ⟨_, _, rfl, (m5.trans m6).mut nF, q ++ [low + r2], by rw [upd_same, natsV_snoc], List.nodup_append.mpr ⟨hq, List.nodup_cons.mpr ⟨(fun h => by cases h), List.nodup_nil⟩, fun x hx y hy => by rw [List.mem_singleton.mp hy]; intro z; exact nq (z ▸ hx)⟩, fun x hx => ?_, by rw [List.length_append]; exact Nat.succ_le_succ hql⟩
          rcases List.mem_append.mp hx with hx | hx
          · exact hqn x hx
          · rw [List.mem_singleton.mp hx]
            omega
        · exact ⟨_, _, rfl, m5.trans m6, q, hF6, hq, hqn, by omega⟩
      · rintro σ H5 ⟨v7, v8, rfl, m5, q, hF, hq, hqn, hql⟩
        tm_at "w"
        have hF' : H5 F = some (.lst ((q.map fun k : Nat => (k : Int)).map V.int)) := by rw [hF, List.map_map]; rfl
        refine ⟨F, _, rfl, SqL.of hF', fun ns' pl hp hs npl => ?_⟩
        obtain ⟨q', e', hp', hs'⟩ := sort_nats hp hs
        rw [e']
        obtain ⟨H6, e6, s6, hpl⟩ := new_hide (Same.new (o := .lst (natsV q')) (Same.refl H5) npl)
        rw [e6]
        tm_at "w"
        intro t nt
        refine k t q' _ (((m4.trans m5).same s6).new nt) upd_same ⟨asc_of hs' (hp'.nodup_iff.mpr hq), fun x hx => hqn x (hp'.mem_iff.mp hx), by rw [hp'.length_eq]; omega⟩
/-! _law_lot -/
/-! ### one list of lists of numbers that changes -/
structure DF (H0 H : Hp) (l : Addr) (D : List (List Nat)) (F : Nat → Addr) : Prop where
  list : H l = some (.lst ((List.range D.length).map fun j => V.ref (F j)))
  rows : ∀ (j : Nat) q, D[j]? = some q → H (F j) = some (.lst (natsV q))
  inj : ∀ (i j : Nat), i < D.length → j < D.length → F i = F j → i = j
  apart : ∀ (j : Nat), j < D.length → F j ≠ l
  newL : H0 l = none
  newF : ∀ (j : Nat), j < D.length → H0 (F j) = none
def DL (H0 H : Hp) (l : Addr) (D : List (List Nat)) : Prop := ∃ F, DF H0 H l D F
section
variable {H0 H H' : Hp} {l : Addr} {D : List (List Nat)} {τ : Tp}
theorem DL.init (n : H0 l = none) (h : H l = some (.lst [])) : DL H0 H l [] := ⟨fun _ => l, h, fun j q e => by simp at e, fun i j e => absurd e (Nat.not_lt_zero _), fun j e => absurd e (Nat.not_lt_zero _), n, fun j e => absurd e (Nat.not_lt_zero _)⟩
theorem DL.same (g : DL H0 H l D) (s : Same H H') : DL H0 H' l D := by
  obtain ⟨F, f⟩ := g
  exact ⟨F, s _ _ f.list, fun j q e => s _ _ (f.rows j q e), f.inj, f.apart, f.newL, f.newF⟩
theorem DL.mv (g : DL H0 H l D) (m0 : Mv τ H0 H) (m : Mv τ H H') : DL H0 H' l D := by
  obtain ⟨F, f⟩ := g
  exact ⟨F, m.keep _ _ (m0.neF f.newL) f.list, fun j q e => m.keep _ _ (m0.neF (f.newF j (List.getElem?_eq_some_iff.mp e).1)) (f.rows j q e), f.inj, f.apart, f.newL, f.newF⟩
theorem DL.mut (g : DL H0 H l D) {a : Addr} {o : HO} (n : a ≠ l) (nF : ∀ F, DF H0 H l D F → ∀ (j : Nat), j < D.length → F j ≠ a) : DL H0 (upd H a o) l D := by
  obtain ⟨F, f⟩ := g
  exact ⟨F, (upd_ne n.symm).trans f.list, fun j q e => (upd_ne (nF F f j (List.getElem?_eq_some_iff.mp e).1)).trans (f.rows j q e), f.inj, f.apart, f.newL, f.newF⟩
/-- what a reader sees -/
def refsV (n : Nat) (F : Nat → Addr) : List V := (List.range n).map fun j => V.ref (F j)
theorem refsV_len (n : Nat) (F : Nat → Addr) : (refsV n F).length = n := by
  unfold refsV
  rw [List.length_map, List.length_range]
theorem refsV_at {n : Nat} {F : Nat → Addr} {j : Nat} (h : j < n) : (refsV n F)[j]? = some (.ref (F j)) := by
  unfold refsV
  rw [List.getElem?_map, List.getElem?_range h]
  rfl
theorem refsV_here {n : Nat} {F : Nat → Addr} {j : Nat} {x : V} (h : (refsV n F)[j]? = some x) : j < n ∧ x = .ref (F j) := by
  have hj := (List.getElem?_eq_some_iff.mp h).1
  rw [refsV_len] at hj
  rw [refsV_at hj] at h
  exact ⟨hj, (Option.some.inj h).symm⟩
theorem refsV_filter (n : Nat) (F : Nat → Addr) (c : Nat → Bool) : (List.range n).filterMap (fun j => if c j = true then some (V.ref (F j)) else none) = ((List.range n).filter c).map fun j => V.ref (F j) := by
  induction List.range n with
  | nil => rfl
  | cons a r ih =>
    rw [List.filterMap_cons, List.filter_cons]
    cases c a with
    | true => rw [if_pos rfl, if_pos rfl, List.map_cons, ih]
    | false => rw [if_neg (by decide), if_neg (by decide), ih]
structure RowsL (H : Hp) (l : Addr) (D : List (List Nat)) (F : Nat → Addr) : Prop where
  list : H l = some (.lst (refsV D.length F))
  row : ∀ (j : Nat) q, D[j]? = some q → H (F j) = some (.lst (natsV q))
theorem DL.at (g : DL H0 H l D) : ∃ F, RowsL H l D F := by
  obtain ⟨F, f⟩ := g
  exact ⟨F, f.list, f.rows⟩
theorem RowsL.same {F : Nat → Addr} (g : RowsL H l D F) (s : Same H H') : RowsL H' l D F := ⟨s _ _ g.list, fun j q e => s _ _ (g.row j q e)⟩
theorem DL.new (g : DL H0 H l D) {e : Addr} {o : HO} (n : H e = none) : DL H0 (upd H e o) l D := g.same (Same.new (Same.refl H) n)
theorem DL.grow (g : DL H0 H l D) {e : Addr} {x : Nat} {xs : List V} (ne : H e = none) (ne0 : H0 e = none) (hx : H l = some (.lst xs)) : DL H0 (upd (upd H e (.lst [.int (x : Int)])) l (.lst (xs ++ [.ref e]))) l (D ++ [[x]]) := by
  obtain ⟨F, f⟩ := g
  have ex : xs = (List.range D.length).map fun j => V.ref (F j) := by
    have := f.list
    rw [hx] at this
    injection this with this
    injection this
  have nF : ∀ (j : Nat), j < D.length → F j ≠ e := fun j hj => ne_of_none (f.rows j _ (List.getElem?_eq_getElem hj)) ne
  have nl : l ≠ e := ne_of_none f.list ne
  refine ⟨fun j => if j = D.length then e else F j, ?_, fun j q hq => ?_, fun i j hi hj h => ?_, fun j hj => ?_, f.newL, fun j hj => ?_⟩
  · rw [upd_same, ex, List.length_append, List.length_singleton, range_snoc]
  · by_cases hj : j < D.length
    · rw [List.getElem?_append_left hj] at hq
      simp only [if_neg (Nat.ne_of_lt hj)]
      rw [upd_ne (f.apart j hj), upd_ne (nF j hj)]
      exact f.rows j q hq
    · rw [List.getElem?_append_right (by omega)] at hq
      have ll := (List.getElem?_eq_some_iff.mp hq).1
      rw [List.length_singleton] at ll
      have ej : j = D.length := by omega
      rw [ej, Nat.sub_self] at hq
      simp only [if_pos ej]
      rw [upd_ne nl.symm, upd_same, ← Option.some.inj hq]
      rfl
  · rw [List.length_append, List.length_singleton] at hi hj
    by_cases c1 : i = D.length
    · by_cases c2 : j = D.length
      · rw [c1, c2]
      · simp only [if_pos c1, if_neg c2] at h
        exact absurd h.symm (nF j (by omega))
    · by_cases c2 : j = D.length
      · simp only [if_neg c1, if_pos c2] at h
        exact absurd h (nF i (by omega))
      · simp only [if_neg c1, if_neg c2] at h
        exact f.inj i j (by omega) (by omega) h
  · rw [List.length_append, List.length_singleton] at hj
    by_cases c : j = D.length
    · simp only [if_pos c]
      exact nl.symm
    · simp only [if_neg c]
      exact f.apart j (by omega)
  · rw [List.length_append, List.length_singleton] at hj
    by_cases c : j = D.length
    · simp only [if_pos c]
      exact ne0
    · simp only [if_neg c]
      exact f.newF j (by omega)
theorem DL.push (g : DL H0 H l D) {j : Nat} {q q' : List Nat} {a : Addr} {xs : List V} (hq : D[j]? = some q) (hx : H l = some (.lst xs)) (ha : xs[j]? = some (.ref a)) : H0 a = none ∧ DL H0 (upd H a (.lst (natsV q'))) l (D.set j q') := by
  obtain ⟨F, f⟩ := g
  have hj := (List.getElem?_eq_some_iff.mp hq).1
  have ea : a = F j := by
    have := f.list
    rw [hx] at this
    injection this with this
    injection this with this
    rw [this, List.getElem?_map, List.getElem?_range hj] at ha
    injection ha with ha
    injection ha with ha
    exact ha.symm
  subst ea
  refine ⟨f.newF j hj, F, ?_, fun i r hr => ?_, ?_, ?_, f.newL, ?_⟩
  · rw [upd_ne (f.apart j hj).symm, List.length_set]
    exact f.list
  · have hi := (List.getElem?_eq_some_iff.mp hr).1
    rw [List.length_set] at hi
    rw [List.getElem?_set] at hr
    by_cases e : j = i
    · subst e
      rw [if_pos rfl, if_pos hj] at hr
      rw [upd_same, Option.some.inj hr]
    · rw [if_neg e] at hr
      rw [upd_ne (fun z => e (f.inj i j hi hj z).symm)]
      exact f.rows i r hr
  · rw [List.length_set]
    exact f.inj
  · rw [List.length_set]
    exact f.apart
  · rw [List.length_set]
    exact f.newF
end
theorem isA_grown {P : List (List Nat)} {q : List Nat} {x : Nat} (h : x < P.length) (j : Nat) : isA (P ++ [q]) x j = isA P x j := by
  have := isA_take (P := P ++ [q]) h j
  rw [List.take_left] at this
  exact this.symm
theorem any_like {α : Type} {xs : List α} {f g : α → Bool} (h : ∀ x ∈ xs, f x = g x) : xs.any f = xs.any g := by
  induction xs with
  | nil => rfl
  | cons x r ih => rw [List.any_cons, List.any_cons, h x List.mem_cons_self, ih fun y hy => h y (List.mem_cons_of_mem _ hy)]
/-- a list of lists of numbers that is read -/
structure LsAt (H : Hp) (l : Addr) (D : List (List Nat)) (F : Nat → Addr) : Prop where
  list : H l = some (.lst (refsV D.length F))
  row : ∀ (j : Nat) q, D[j]? = some q → H (F j) = some (.lst (natsV q))
theorem LsAt.same {H H' : Hp} {l : Addr} {D : List (List Nat)} {F : Nat → Addr} (h : LsAt H l D F) (s : Same H H') : LsAt H' l D F := ⟨s _ _ h.list, fun j q e => s _ _ (h.row j q e)⟩
/-- the own lots of all kinds, in any order -/
structure LotOk (P : List (List Nat)) (D : List (List Nat)) : Prop where
  len : D.length = P.length
  lot : ∀ (j : Nat) q, D[j]? = some q → q.Nodup ∧ ∀ k, k ∈ q ↔ isA P j k = true
theorem lot_rec {P : List (List Nat)} {q : List Nat} (h : RtP P) (hq : ∀ x ∈ q, x < P.length) (k : Nat) : isA (P ++ [q]) P.length k = (decide (P.length = k) || q.any fun p => isA P p k) := by
  rw [isA_rec (h.snoc hq) (by rw [List.getElem?_append_right (Nat.le_refl _), Nat.sub_self]; rfl) k]
  congr 1
  refine any_like fun x hx => ?_
  exact isA_grown (hq x hx) k
def sp__law_lot (K : PySem.W.Frag) : Sp := fun vs H Q _ => ∃ (l a : Addr) (F : Nat → Addr) (D P : List (List Nat)) (q : List Nat), vs = [.ref l, .ref a] ∧ LsAt H l D F ∧ LotOk P D ∧ RtP P ∧ H a = some (.tup (natsV q)) ∧ (∀ x ∈ q, x < P.length) ∧ P.length ≤ 1000 ∧ q.length ≤ 1000 ∧
  ∀ f w H', Same H H' → H f = none → H' f = some (.lst (natsV w)) → w.Nodup → (∀ k, k ∈ w ↔ isA (P ++ [q]) P.length k = true) → Q (.ref f) H'
theorem sc__law_lot : FnScope ["_law_lots", "_law_parents_here", "_law_found", "_law_parent", "_law_kind"] ["_law_lots", "_law_parents_here"] (defScope s__law_lot) := ⟨rfl, rfl, rfl, by decide +kernel, rfl, by decide +kernel, by decide +kernel⟩
theorem ok__law_lot (T : Top P K mg) : FnOk P w K mg base CX0 1 T.f__law_lot T.fd__law_lot ["_law_lots", "_law_parents_here"] (sp__law_lot K) := by
  refine T.F__law_lot.ok sc__law_lot (fun vs H Q E h => ?_) (fun cdv A outer s H vs Q E hr h => ?_)
  · obtain ⟨l, a, F, D, P, q, rfl, _⟩ := h
    rfl
  · obtain ⟨l, a, F, D, P, q, rfl, hD, hL, hR, ha, hq, hn, hqn, k⟩ := h
    refine ⟨_, (pss_cons (ps_set (i := 2) sc__law_lot.nd rfl (Or.inl rfl) (pe_lst (pa_cons (pe_callB (r := rLenQ K) (id := "len") call_len_seq (by rfl) T.z_len (by decide +kernel) (pa_cons (pv 0) pa_nil)) pa_nil)))
      (pss_cons (ps_for PassesOwn.never rfl (pi_tup (pv 1)) (pg_name (i := 3) sc__law_lot.nd rfl (Or.inl rfl))
      (pss_one (ps_for PassesOwn.never rfl (pi_list (pe_ix (r := rIxL K) ix_list (pv 0) (pv 3) (fun _ _ => rfl))) (pg_name (i := 4) sc__law_lot.nd rfl (Or.inl rfl))
      (pss_one (ps_if (pt_cmpR op_notIn_seq (pv 4) (pv 2) (by rfl)) (pss_one (ps_expr (pe_bm PySem.F.plainAttrs_list PySem.F.slot_list_append PySem.F.type_list_append mt_append (pv 2) (pa_cons (pv 4) pa_nil)))) pss_nil)))))
      (pss_one (ps_ret (pv 2))))), ?_⟩
    have hl := hD.list
    tm_at "w"
    intro f nf
    rw [refsV_len, hL.len]
    obtain ⟨H1, e1, s1, hf1⟩ := new_hide (Same.new (o := .lst [.int (P.length : Int)]) (Same.refl H) nf)
    rw [e1]
    have ha1 := s1 _ _ ha
    tm_at "w"
    refine ⟨⟨_, SqT.of ha1⟩, for_tup (K := K) (a := a) (xs := natsV q) (fun i σ H' => ∃ v3 v4, σ = [some (.ref l), some (.ref a), some (.ref f), v3, v4] ∧ Same H H' ∧ ∃ w : List Nat, H' f = some (.lst (natsV w)) ∧ w.Nodup ∧ ∀ k, k ∈ w ↔ (P.length = k ∨ ∃ p ∈ q.take i, isA P p k = true)) ⟨_, _, rfl, s1, [P.length], hf1, by simp, fun k => ?_⟩ ?_ ?_ ?_⟩
    · rw [List.take_zero, List.mem_singleton]
      exact ⟨fun e => .inl e.symm, fun h => by
        rcases h with h | ⟨_, h, _⟩
        · exact h.symm
        · cases h⟩
    · rintro j σ H' _ ⟨_, _, rfl, s, _⟩
      exact SqT.of (s _ _ ha)
    · rintro i y σ H2 hy ⟨v3, v4, rfl, s2, w, hf, hw, hwk⟩
      obtain ⟨par, hpar, rfl, _⟩ := natsV_here hy
      have pl := hq par (List.mem_of_getElem? hpar)
      have hj : par < D.length := by rw [hL.len]; exact pl
      have hqd := List.getElem?_eq_getElem hj
      have hrow := hD.row par _ hqd
      have lo := hL.lot par _ hqd
      generalize D[par] = d at *
      have dl : d.length ≤ 1000 := nodup_le 1000 lo.1 fun k hk => by
        have := isA_le hR ((lo.2 k).mp hk)
        omega
      have hl2 := s2 _ _ hl
      tm_at "w"
      refine ⟨_, _, _, _, rfl, rfl, SqL.of hl2, atI_nat (refsV_at hj), ?_⟩
      refine ⟨_, rfl, ⟨_, SqL.of (s2 _ _ hrow)⟩, for_list (K := K) (a := F par) (xs := natsV d) (fun j σ H' => ∃ v4, σ = [some (.ref l), some (.ref a), some (.ref f), some (.int (par : Int)), v4] ∧ Same H H' ∧ ∃ w' : List Nat, H' f = some (.lst (natsV w')) ∧ w'.Nodup ∧ ∀ k, k ∈ w' ↔ (k ∈ w ∨ k ∈ d.take j)) ⟨_, rfl, s2, w, hf, hw, fun k => by rw [List.take_zero]; exact ⟨.inl, fun h => h.elim id fun z => by cases z⟩⟩ ?_ ?_ ?_⟩
      · rintro j σ H' _ ⟨_, rfl, s, _⟩
        exact SqL.of (s _ _ hrow)
      · rintro j y σ H3 hy ⟨v4, rfl, s3, w', hf', hw', hwk'⟩
        obtain ⟨kd, hkd, rfl, _⟩ := natsV_here hy
        have kp := isA_le hR ((lo.2 kd).mp (List.mem_of_getElem? hkd))
        have wl : w'.length ≤ 1001 := nodup_le 1001 hw' fun k hk => by
          rcases (hwk' k).mp hk with h | h
          · rcases (hwk k).mp h with h | ⟨p, hp, hpk⟩
            · omega
            · have := isA_le hR hpk
              have := hq p (List.mem_of_mem_take hp)
              omega
          · have := isA_le hR ((lo.2 k).mp (List.mem_of_mem_take h))
            omega
        tm_at "w"
        refine ⟨flat_nats _, ?_⟩
        show ∃ k, V.bl (!inV (.int (kd : Int)) (natsV w')) = V.bl k ∧ _
        rw [inV_nats]
        refine ⟨_, rfl, ?_⟩
        have tk1 : d.take (j + 1) = d.take j ++ [kd] := by rw [List.take_add_one, hkd]; rfl
        refine iteB (fun e => ?_) (fun e => ?_)
        · have nq : kd ∉ w' := fun h => by rw [decide_eq_true h] at e; cases e
          tm_at "w"
          refine ⟨_, _, _, rfl, rfl, hf', lt_line (by rw [natsV_len]; omega), ?_⟩
          refine ⟨_, rfl, Same.mut s3 nf, w' ++ [kd], by rw [upd_same, natsV_snoc], List.nodup_append.mpr ⟨hw', List.nodup_cons.mpr ⟨(fun h => by cases h), List.nodup_nil⟩, fun x hx y hy => by rw [List.mem_singleton.mp hy]; intro z; exact nq (z ▸ hx)⟩, fun k => ?_⟩
          rw [tk1, List.mem_append, List.mem_append, hwk' k, or_assoc]
        · have yq : kd ∈ w' := by
            cases c : decide (kd ∈ w') with
            | true => exact of_decide_eq_true c
            | false => rw [c] at e; cases e
          refine ⟨_, rfl, s3, w', hf', hw', fun k => ?_⟩
          rw [tk1, List.mem_append, List.mem_singleton, ← or_assoc, ← hwk' k]
          exact ⟨.inl, fun h => h.elim id fun z => z ▸ yq⟩
      · rintro σ H3 ⟨v4, rfl, s3, w', hf', hw', hwk'⟩
        rw [natsV_len, List.take_length] at hwk'
        refine ⟨_, _, rfl, s3, w', hf', hw', fun k => ?_⟩
        rw [hwk' k, hwk k, lo.2 k, List.take_add_one, hpar]
        constructor
        · rintro ((h | ⟨p, hp, hpk⟩) | h)
          · exact .inl h
          · exact .inr ⟨p, List.mem_append_left _ hp, hpk⟩
          · exact .inr ⟨par, List.mem_append_right _ (List.mem_singleton.mpr rfl), h⟩
        · rintro (h | ⟨p, hp, hpk⟩)
          · exact .inl (.inl h)
          · rcases List.mem_append.mp hp with hp | hp
            · exact .inl (.inr ⟨p, hp, hpk⟩)
            · exact .inr ((show p = par from List.mem_singleton.mp hp) ▸ hpk)
    · rintro σ H2 ⟨v3, v4, rfl, s2, w, hf, hw, hwk⟩
      rw [natsV_len, List.take_length] at hwk
      tm_at "w"
      refine k f w H2 s2 nf hf hw fun j => ?_
      rw [hwk, lot_rec hR hq, Bool.or_eq_true, decide_eq_true_eq, List.any_eq_true]
/-! _law_free -/
def sp__law_free (K : PySem.W.Frag) : Sp := fun vs H Q _ => ∃ (l h w g x : Nat) (P : List (List Nat)) (H0 : Hp) (S : Bool → List (List Nat)) (W lot : List Nat), vs = [.ref h, .ref w, .ref g] ∧ G H0 H (RR l h) S ∧ H w = some (.lst (natsV W)) ∧ (∀ k, k ∈ W ↔ isA P x k = true) ∧ H g = some (.lst (natsV lot)) ∧ lot.length ≤ 1000 ∧ (∀ s ∈ lot, s < (S true).length) ∧ (∀ d ∈ S true, d ≠ []) ∧
  ∀ t ks H', Same H H' → H' t = some (.lst (natsV ks)) → ks.Perm (fitB P (S true) x lot) → ks.Pairwise (· ≤ ·) → Q (.ref t) H'
theorem sc__law_free : FnScope ["_law_held", "_law_lot_here", "_law_group", "_law_slots", "_law_slot"] ["_law_held", "_law_lot_here", "_law_group"] (defScope s__law_free) := ⟨rfl, rfl, rfl, by decide +kernel, rfl, by decide +kernel, by decide +kernel⟩
theorem ok__law_free (T : Top P K mg) : FnOk P w K mg base CX0 1 T.f__law_free T.fd__law_free ["_law_held", "_law_lot_here", "_law_group"] (sp__law_free K) := by
  refine T.F__law_free.ok sc__law_free (fun vs H Q E h => ?_) (fun cdv A outer s H vs Q E hr h => ?_)
  · obtain ⟨l, h, w, g, x, P, H0, S, W, lot, rfl, _⟩ := h
    rfl
  · obtain ⟨l, h, w, g, x, P, H0, S, W, lot, rfl, hG, hw, hW, hg, hlen, hs, hf, k⟩ := h
    refine ⟨_, (pss_cons (ps_setLc (i := 3) (own := [("_law_slot", 4)]) (g := gName 4) rfl sc__law_free.nd rfl rfl (sw_true rfl rfl rfl (by decide +kernel)) (pi_list (pv 2)) (blkOk_by (own := [("_law_slot", 4)]) (N := ["_law_held", "_law_lot_here", "_law_group", "_law_slots", "_law_slot"]) (sc := defScope s__law_free) (by decide +kernel)) (fun _ _ _ _ _ => (pg_name (i := 4) sc__law_free.nd rfl (Or.inl rfl))) (fun _ _ _ _ _ => (pts_one (pt_cmpR (r := rIn K false) op_in_seq (pe_ix (r := rIxL K) ix_list (pe_ix (r := rIxL K) ix_list (pv 0) (pv 4) (fun _ _ => rfl)) (pe_un un_neg pe_int) (fun _ _ => rfl)) (pv 1) (by rfl)))) (fun _ _ _ _ _ => (pv 4)))
      (pss_one (ps_ret (pe_callB (id := "sorted") cr_sortedI (by rfl) T.z_sorted (by decide +kernel) (pa_cons (pv 3) pa_nil))))), ?_⟩
    tm_at "w"
    refine ⟨⟨_, SqL.of hg⟩, fun D nD => lc_listF (fun i => lot[i]?.bind fun s => if isA P x (lastD (S true) s) = true then some (V.int (s : Int)) else none) hg nD (by rw [natsV_len]; omega) ?_ ?_⟩
    · intro i y H1 N M hy s1 kN kM
      obtain ⟨s, hs2, rfl, _⟩ := natsV_here hy
      have hsl := hs s (List.mem_of_getElem? hs2)
      obtain ⟨xs, h1, h2, h3⟩ := (hG.later s1).at true
      obtain ⟨a, e1, e2⟩ := h3 s _ (List.getElem?_eq_getElem hsl)
      have h1 : H1 h = some (.lst xs) := h1
      have hw1 := s1 _ _ hw
      have el : lastD (S true) s = ((S true)[s]).getLastD 0 := by
        unfold lastD
        rw [getD_some (List.getElem?_eq_getElem hsl)]
      tm_at "w"
      refine ⟨_, _, _, _, rfl, rfl, SqL.of e2, at_neg1 (hf _ (List.getElem_mem hsl)), ?_⟩
      rw [← el]
      tm_at "w"
      refine ⟨flat_nats _, ?_⟩
      show ∃ k, V.bl (inV (.int (lastD (S true) s : Int)) (natsV W)) = V.bl k ∧ _
      rw [inV_nats]
      refine ⟨_, rfl, ?_⟩
      have ed : decide (lastD (S true) s ∈ W) = isA P x (lastD (S true) s) := by
        cases c : isA P x (lastD (S true) s) with
        | true => exact decide_eq_true ((hW _).mpr c)
        | false => exact decide_eq_false fun z => by rw [(hW _).mp z] at c; cases c
      rw [ed]
      refine iteB (fun e => ?_) (fun e => ?_)
      · tm_at "w"
        exact kN _ _ (by rw [hs2]; show (if isA P x (lastD (S true) s) = true then _ else _) = _; rw [if_pos e]) (Same.refl H1)
      · exact kM _ (by rw [hs2]; show (if isA P x (lastD (S true) s) = true then _ else _) = _; rw [e, if_neg (by decide)]) (Same.refl H1)
    · intro H1 s1 hD
      rw [filter_list] at hD
      have hD : H1 D = some (.lst (natsV (fitB P (S true) x lot))) := hD
      tm_at "w"
      refine ⟨D, (fitB P (S true) x lot).map fun z : Nat => (z : Int), rfl, SqL.of (by rw [List.map_map]; exact hD), fun ns q perm pw nq => ?_⟩
      obtain ⟨ks, rfl, kp, kw⟩ := nats_perm perm pw
      refine k q ks _ (Same.new s1 nq) (by rw [upd_same, List.map_map]; rfl) kp kw
/-! _law_entries -/
def sp__law_entries (K : PySem.W.Frag) : Sp := fun vs H Q _ => ∃ (l h w x : Nat) (P : List (List Nat)) (H0 : Hp) (S : Bool → List (List Nat)) (W : List Nat), vs = [.ref h, .ref w] ∧ G H0 H (RR l h) S ∧ H w = some (.lst (natsV W)) ∧ (∀ k, k ∈ W ↔ isA P x k = true) ∧ (S true).length ≤ 400 ∧ (∀ d ∈ S true, d.length ≤ 400) ∧
  ∀ t H', Same H H' → H' t = some (.tup (natsV (entB P (S true) x))) → Q (.ref t) H'
theorem sc__law_entries : FnScope ["_law_held", "_law_lot_here", "_law_row", "_law_kind"] ["_law_held", "_law_lot_here"] (defScope s__law_entries) := ⟨rfl, rfl, rfl, by decide +kernel, rfl, by decide +kernel, by decide +kernel⟩
theorem ok__law_entries (T : Top P K mg) : FnOk P w K mg base CX0 1 T.f__law_entries T.fd__law_entries ["_law_held", "_law_lot_here"] (sp__law_entries K) := by
  refine T.F__law_entries.ok sc__law_entries (fun vs H Q E h => ?_) (fun cdv A outer s H vs Q E hr h => ?_)
  · obtain ⟨l, h, w, x, P, H0, S, W, rfl, _⟩ := h
    rfl
  · obtain ⟨l, h, w, x, P, H0, S, W, rfl, hG, hw, hW, h400, hd4, k⟩ := h
    refine ⟨_, (pss_one (ps_ret (pe_callTy (r := rTupQ K) (T := "tuple") call_tuple_of (by rfl) T.z_tuple (by decide +kernel) (pa_cons (pe_lc (own := [("_law_row", 2)]) (g := gName 2) (tt := tYes) rfl sc__law_entries.nd (pi_list (pv 0)) (blkOk_by (own := [("_law_row", 2)]) (N := ["_law_held", "_law_lot_here", "_law_row", "_law_kind"]) (sc := defScope s__law_entries) (by decide +kernel)) (fun _ _ _ _ _ => (pg_name (i := 2) sc__law_entries.nd rfl (Or.inl rfl))) (fun _ _ _ _ _ => pts_nil) (fun _ _ _ _ _ => (pe_callB (r := rLenQ K) (id := "len") call_len_seq (by rfl) T.z_len (by decide +kernel) (pa_cons (by exact (pe_lc (own := [("_law_kind", 3)]) (g := gName 3) rfl sc__law_entries.nd (pi_listK (K := K) rfl (pv 2)) (blk_in (own := [("_law_kind", 3)]) (N := ["_law_held", "_law_lot_here", "_law_row", "_law_kind"]) (sc1 := defScope s__law_entries) rfl rfl (by decide +kernel)) (fun _ _ _ _ _ => (pg_name (i := 3) sc__law_entries.nd rfl (Or.inl rfl))) (fun _ _ _ _ _ => (pts_one (pt_cmpR (r := rIn K false) op_in_seq (pv 3) (pv 1) (by rfl)))) (fun _ _ _ _ _ => (pv 3)))) pa_nil)))) pa_nil)))), ?_⟩
    obtain ⟨xs, h1, h2, h3⟩ := hG.at true
    have h1 : H h = some (.lst xs) := h1
    have h2 : xs.length = (S true).length := h2
    tm_at "w"
    refine ⟨⟨_, SqL.of h1⟩, fun D nD => lc_listF (fun i => (S true)[i]?.map fun row => V.int (((row.filter fun k => isA P x k).length : Nat) : Int)) h1 nD (by omega) ?_ ?_⟩
    · intro i y H1 N M hy s1 kN kM
      have il : i < (S true).length := by
        have := (List.getElem?_eq_some_iff.mp hy).1
        omega
      obtain ⟨a, e1, e2⟩ := h3 i _ (List.getElem?_eq_getElem il)
      have ey : y = .ref a := by
        rw [hy] at e1
        exact Option.some.inj e1
      subst ey
      have e21 := s1 _ _ e2
      have hw1 := s1 _ _ hw
      have dl := hd4 _ (List.getElem_mem il)
      tm_at "w"
      refine ⟨⟨_, SqL.of e21⟩, fun D2 nD2 => lc_listF (fun j => ((S true)[i])[j]?.bind fun k => if isA P x k = true then some (V.int (k : Int)) else none) e21 nD2 (by rw [natsV_len]; omega) ?_ ?_⟩
      · intro j z H2 N2 M2 hz s2 kN2 kM2
        obtain ⟨kd, hkd, rfl, _⟩ := natsV_here hz
        have hw2 := s2 _ _ hw1
        tm_at "w"
        refine ⟨flat_nats _, ?_⟩
        show ∃ k, V.bl (inV (.int (kd : Int)) (natsV W)) = V.bl k ∧ _
        rw [inV_nats]
        refine ⟨_, rfl, ?_⟩
        have ed : decide (kd ∈ W) = isA P x kd := by
          cases c : isA P x kd with
          | true => exact decide_eq_true ((hW _).mpr c)
          | false => exact decide_eq_false fun z => by rw [(hW _).mp z] at c; cases c
        rw [ed]
        refine iteB (fun e => ?_) (fun e => ?_)
        · tm_at "w"
          exact kN2 _ _ (by rw [hkd]; show (if isA P x kd = true then _ else _) = _; rw [if_pos e]) (Same.refl H2)
        · exact kM2 _ (by rw [hkd]; show (if isA P x kd = true then _ else _) = _; rw [e, if_neg (by decide)]) (Same.refl H2)
      · intro H2 s2 hD2
        rw [filter_list] at hD2
        tm_at "w"
        rw [natsV_len]
        exact kN _ _ (by rw [List.getElem?_eq_getElem il]; rfl) s2
    · intro H1 s1 hD
      rw [h2, range_items] at hD
      tm_at "w"
      intro t nt
      refine k t _ (Same.new s1 nt) ?_
      rw [upd_same]
      unfold entB natsV
      rw [List.map_map]
      rfl
/-! _law_place -/
def sp__law_place (K : PySem.W.Frag) : Sp := fun vs H Q _ => ∃ (l h w x : Nat) (P : List (List Nat)) (H0 : Hp) (S : Bool → List (List Nat)) (W : List Nat), vs = [.ref l, .ref h, .ref w] ∧ G H0 H (RR l h) S ∧ H w = some (.lst (natsV W)) ∧ (∀ k, k ∈ W ↔ isA P x k = true) ∧ OkG x (S false) (S true) ∧ x ≤ 400 ∧
  ∀ H', Same H H' → Q (.int (putN P (S false) (S true) x : Nat)) H'
theorem sc__law_place : FnScope ["_law_rows", "_law_held", "_law_lot_here", "_law_at"] ["_law_rows", "_law_held", "_law_lot_here"] (defScope s__law_place) := ⟨rfl, rfl, rfl, by decide +kernel, rfl, by decide +kernel, by decide +kernel⟩
theorem ok__law_place (T : Top P K mg) : FnOk P w K mg base CX0 2 T.f__law_place T.fd__law_place ["_law_rows", "_law_held", "_law_lot_here"] (sp__law_place K) := by
  have G__law_free := ok__law_free (P := P) (w := w) (base := base) T
  refine T.F__law_place.ok sc__law_place (fun vs H Q E h => ?_) (fun cdv A outer s H vs Q E hr h => ?_)
  · obtain ⟨l, h, w, x, P, H0, S, W, rfl, _⟩ := h
    rfl
  · obtain ⟨l, h, w, x, P, H0, S, W, rfl, hG, hw, hW, hok, hx, k⟩ := h
    refine ⟨_, (pss_cons (ps_for PassesOwn.never rfl (pi_range1 rfl T.z_range (pa_cons (pe_callB (r := rLenQ K) (id := "len") call_len_seq (by rfl) T.z_len (by decide +kernel) (pa_cons (pv 0) pa_nil)) pa_nil)) (pg_name (i := 3) sc__law_place.nd rfl (Or.inl rfl))
      (pss_one (ps_if (PW.pt (pw_or (pt_cmpR op_lt (pe_callB (r := rLenQ K) (id := "len") call_len_seq (by rfl) T.z_len (by decide +kernel) (pa_cons (pe_ix (r := rIxL K) ix_list (pv 0) (pv 3) (fun _ _ => rfl)) pa_nil)) (pe_op op_add (pv 3) pe_int) (nomark _)) (pw_or1 (pt_cmpR op_gt (pe_callB (r := rLenQ K) (id := "len") call_len_seq (by rfl) T.z_len (by decide +kernel) (pa_cons (pe_call G__law_free hr (by rfl) T.g__law_free T.F__law_free.kp T.b__law_free .nil pass0 (pa_cons (pv 1) (pa_cons (pv 2) (pa_cons (pe_ix (r := rIxL K) ix_list (pv 0) (pv 3) (fun _ _ => rfl)) pa_nil)))) pa_nil)) pe_int (nomark _))))) (pss_one (ps_ret (pv 3))) pss_nil)))
      (pss_one (ps_ret (pe_callB (r := rLenQ K) (id := "len") call_len_seq (by rfl) T.z_len (by decide +kernel) (pa_cons (pv 0) pa_nil))))), ?_⟩
    obtain ⟨xs, h1, h2, h3⟩ := hG.at false
    have h1 : H l = some (.lst xs) := h1
    have h2 : xs.length = (S false).length := h2
    have wl := hok.wl
    tm_at "w"
    rw [h2]
    refine for_range (lo := 0) (n := ((S false).length : Int).toNat) (fun i σ H' => ∃ v, σ = [some (.ref l), some (.ref h), some (.ref w), v] ∧ Same H H' ∧ takenB P (S true) x 0 (S false) = takenB P (S true) x i ((S false).drop i)) ?_ ?_ ?_
    · exact ⟨none, rfl, Same.refl H, rfl⟩
    · rintro i σ H1 hi ⟨v, rfl, s1, he⟩
      rw [Int.zero_add]
      have il : i < (S false).length := by omega
      obtain ⟨a, e1, e2⟩ := h3 i _ (List.getElem?_eq_getElem il)
      have e21 := s1 _ _ e2
      have h11 := s1 _ _ h1
      have hw1 := s1 _ _ hw
      have hd : (S false).drop i = (S false)[i] :: (S false).drop (i + 1) := List.drop_eq_getElem_cons il
      have lf := hok.few i _ (List.getElem?_eq_getElem il)
      have lm : (S false)[i] ∈ S false := List.getElem_mem il
      rw [hd] at he
      tm_at "w"
      rw [natsV_len]
      have up : ∀ s, (fitB P (S true) x ((S false)[i])).min? = some s → takenB P (S true) x i ((S false)[i] :: (S false).drop (i + 1)) = (i, some s) := fun s hm => by unfold takenB; rw [hm]
      have un : (fitB P (S true) x ((S false)[i])).min? = none → takenB P (S true) x i ((S false)[i] :: (S false).drop (i + 1)) = if ((S false)[i]).length ≤ i then (i, none) else takenB P (S true) x (i + 1) ((S false).drop (i + 1)) := fun hm => by
        show (match (fitB P (S true) x ((S false)[i])).min? with | some s => (i, some s) | none => _) = _
        rw [hm]
      refine iteD (fun z => ?_) (fun z => ?_)
      · have e : putN P (S false) (S true) x = i := by
          unfold putN
          rw [he]
          cases hm : (fitB P (S true) x ((S false)[i])).min? with
          | some s => rw [up s hm]
          | none => rw [un hm, if_pos (by omega)]
        rw [e] at k
        tm_at "w"
        exact k H1 s1
      · tm_at "w"
        refine ⟨l, h, w, a, x, P, H0, S, W, (S false)[i], rfl, hG.later s1, hw1, hW, e21, by omega, hok.slots _ lm, hok.full, fun t ks H2 s2 ht kp kw => ?_⟩
        have s12 := Same.trans s1 s2
        have kl := kp.length_eq
        tm_at "w"
        rw [natsV_len]
        refine iteD (fun y => ?_) (fun y => ?_)
        · have e : putN P (S false) (S true) x = i := by
            unfold putN
            rw [he]
            cases hm : (fitB P (S true) x ((S false)[i])).min? with
            | some s => rw [up s hm]
            | none =>
              have := List.min?_eq_none_iff.mp hm
              rw [this] at kl
              rw [List.length_nil] at kl
              omega
          rw [e] at k
          tm_at "w"
          exact k H2 s12
        · have hm : (fitB P (S true) x ((S false)[i])).min? = none := List.min?_eq_none_iff.mpr (List.length_eq_zero_iff.mp (by omega))
          rw [un hm, if_neg (by omega)] at he
          exact ⟨_, rfl, s12, he⟩
    · rintro σ H1 ⟨v, rfl, s1, he⟩
      have h11 := s1 _ _ h1
      tm_at "w"
      have e : putN P (S false) (S true) x = xs.length := by
        unfold putN
        rw [he, show ((S false).length : Int).toNat = (S false).length by omega, List.drop_length, h2]
        rfl
      rw [e] at k
      exact k H1 s1
/-! _law_put -/
theorem taken_min (P D : List (List Nat)) (x : Nat) : ∀ (L : List (List Nat)) (n : Nat),
    (∀ s, (takenB P D x n L).2 = some s → ∃ lot, L[(takenB P D x n L).1 - n]? = some lot ∧ (fitB P D x lot).min? = some s) ∧
    ((takenB P D x n L).2 = none → ∀ lot, L[(takenB P D x n L).1 - n]? = some lot → fitB P D x lot = [])
  | [], n => by
    refine ⟨fun s h => ?_, fun _ lot h => ?_⟩
    · cases h
    · simp at h
  | lot :: r, n => by
    cases e : (fitB P D x lot).min? with
    | some s =>
      have et : takenB P D x n (lot :: r) = (n, some s) := by unfold takenB; rw [e]
      rw [et]
      refine ⟨fun s' h => ?_, fun h => ?_⟩
      · refine ⟨lot, by rw [Nat.sub_self]; rfl, ?_⟩
        rw [e]
        exact h
      · cases h
    | none =>
      by_cases z : lot.length ≤ n
      · have et : takenB P D x n (lot :: r) = (n, none) := by unfold takenB; rw [e]; exact if_pos z
        rw [et]
        refine ⟨fun s' h => ?_, fun _ lot' h => ?_⟩
        · cases h
        · rw [Nat.sub_self] at h
          rw [← Option.some.inj h]
          exact List.min?_eq_none_iff.mp e
      · have et : takenB P D x n (lot :: r) = takenB P D x (n + 1) r := by
          show (match (fitB P D x lot).min? with | some s => (n, some s) | none => if lot.length ≤ n then (n, none) else takenB P D x (n + 1) r) = _
          rw [e]
          exact if_neg z
        rw [et]
        have h1 := (taken_at P D x r (n + 1)).1
        obtain ⟨h3, h4⟩ := taken_min P D x r (n + 1)
        have sh : ∀ m, n + 1 ≤ m → (lot :: r)[m - n]? = r[m - (n + 1)]? := fun m hm => by
          rw [show m - n = (m - (n + 1)) + 1 by omega]
          rfl
        rw [sh _ h1]
        exact ⟨h3, h4⟩
theorem put_fit {m : Nat} {P L D : List (List Nat)} {x : Nat} (o : OkG m L D) {lot : List Nat} (e : (putL1 P L D x)[putN P L D x]? = some lot) :
    ((takenB P D x 0 L).2 = none ∧ putSlot P L D x = D.length ∧ fitB P D x lot = []) ∨ ∃ s, (takenB P D x 0 L).2 = some s ∧ putSlot P L D x = s ∧ s < D.length ∧ (fitB P D x lot).min? = some s := by
  obtain ⟨h3, h4⟩ := taken_min P D x L 0
  rw [Nat.sub_zero] at h3 h4
  rcases slot_lt (P := P) (x := x) o with ⟨e1, hs⟩ | ⟨s, lot', e1, hs, hsl, h1, _⟩
  · refine .inl ⟨e1, hs, ?_⟩
    unfold putL1 at e
    split at e
    · rename_i z
      rw [z, List.getElem?_append_right (Nat.le_refl _), Nat.sub_self] at e
      rw [← Option.some.inj e]
      rfl
    · exact h4 e1 lot e
  · refine .inr ⟨s, e1, hs, hsl, ?_⟩
    have hl := (List.getElem?_eq_some_iff.mp h1).1
    unfold putL1 at e
    rw [if_neg (by omega)] at e
    obtain ⟨lot2, h5, h6⟩ := h3 s e1
    rw [show L[putN P L D x]? = some lot2 from h5] at e
    rw [← Option.some.inj e]
    exact h6
theorem sorted_min {q ks : List Nat} {s : Nat} (p : ks.Perm q) (w : ks.Pairwise (· ≤ ·)) (h : q.min? = some s) : ∃ r, ks = s :: r := by
  obtain ⟨h1, h2⟩ := List.min?_eq_some_iff.mp h
  have h1 := p.mem_iff.mpr h1
  cases ks with
  | nil => cases h1
  | cons a r =>
    have ha := h2 a (p.mem_iff.mp List.mem_cons_self)
    have hs : a ≤ s := by
      rcases List.mem_cons.mp h1 with z | z
      · omega
      · exact (List.pairwise_cons.mp w).1 s z
    exact ⟨r, by rw [show a = s by omega]⟩
theorem putD_new {P L D : List (List Nat)} {x : Nat} (e : (takenB P D x 0 L).2 = none) (hs : putSlot P L D x = D.length) : putD P L D x = (D ++ [[]]).set D.length [x] := by
  unfold putD
  simp only
  rw [if_pos e, hs, List.getD_eq_getElem?_getD, List.getElem?_append_right (Nat.le_refl _), Nat.sub_self]
  rfl
theorem putD_old {P L D : List (List Nat)} {x s : Nat} (e : (takenB P D x 0 L).2 = some s) (hs : putSlot P L D x = s) (hl : s < D.length) : putD P L D x = D.set s (D[s] ++ [x]) := by
  unfold putD
  simp only
  rw [if_neg (by rw [e]; intro z; cases z), hs, getD_some (List.getElem?_eq_getElem hl)]
theorem G.cell {H0 H : Hp} {R : Bool → Addr} {S : Bool → List (List Nat)} (g : G H0 H R S) {b : Bool} (b' : Bool) {j : Nat} {a : Addr} {xs : List V} (hx : H (R b) = some (.lst xs)) (ha : xs[j]? = some (.ref a)) : a ≠ R b' := by
  obtain ⟨F, f⟩ := g.ex
  have e := f.lists b
  rw [hx] at e
  injection e with e
  injection e with e
  rw [e, List.getElem?_map] at ha
  have hj : j < (S b).length := by
    cases c : (List.range (S b).length)[j]? with
    | none => rw [c] at ha; cases ha
    | some y =>
      have := (List.getElem?_eq_some_iff.mp c).1
      rw [List.length_range] at this
      exact this
  rw [List.getElem?_range hj] at ha
  injection ha with ha
  injection ha with ha
  rw [← ha]
  exact f.apart b j b' hj
theorem upd_swap3 {H : Hp} {e h : Addr} {a b c : HO} (n : e ≠ h) : upd (upd (upd H e a) h b) e c = upd (upd H e c) h b := by
  funext y
  by_cases z : y = e
  · subst z
    rw [upd_same, upd_ne n, upd_same]
  · rw [upd_ne z]
    by_cases w : y = h
    · subst w
      rw [upd_same, upd_same]
    · rw [upd_ne w, upd_ne w, upd_ne z, upd_ne z]
theorem putL1_slots {m : Nat} {P L D : List (List Nat)} {x : Nat} (o : OkG m L D) : ∀ lot ∈ putL1 P L D x, ∀ s ∈ lot, s < D.length := fun lot h s hs => by
  unfold putL1 at h
  split at h
  · rcases List.mem_append.mp h with h | h
    · exact o.slots lot h s hs
    · rw [List.mem_singleton.mp h] at hs
      cases hs
  · exact o.slots lot h s hs
def sp__law_put (K : PySem.W.Frag) : Sp := fun vs H Q _ => ∃ (l h w x : Nat) (P : List (List Nat)) (H0 : Hp) (S : Bool → List (List Nat)) (W : List Nat), vs = [.ref l, .ref h, .ref w, .int x] ∧ G H0 H (RR l h) S ∧ H0 w = some (.lst (natsV W)) ∧ (∀ k, k ∈ W ↔ isA P x k = true) ∧ OkG x (S false) (S true) ∧ x < 400 ∧
  ∀ H', G H0 H' (RR l h) (putS P S x) → Q (.int (putSlot P (S false) (S true) x : Nat)) H'
theorem sc__law_put : FnScope ["_law_rows", "_law_held", "_law_lot_here", "_law_x", "_law_at", "_law_slots", "_law_slot", "_law_old", "_law_other"] ["_law_rows", "_law_held", "_law_lot_here", "_law_x"] (defScope s__law_put) := ⟨rfl, rfl, rfl, by decide +kernel, rfl, by decide +kernel, by decide +kernel⟩
theorem ok__law_put (T : Top P K mg) : FnOk P w K mg base CX0 3 T.f__law_put T.fd__law_put ["_law_rows", "_law_held", "_law_lot_here", "_law_x"] (sp__law_put K) := by
  have G__law_free := ok__law_free (P := P) (w := w) (base := base) T
  have G__law_place := ok__law_place (P := P) (w := w) (base := base) T
  refine T.F__law_put.ok sc__law_put (fun vs H Q E h => ?_) (fun cdv A outer s H vs Q E hr h => ?_)
  · obtain ⟨l, h, w, x, P, H0, S, W, rfl, _⟩ := h
    rfl
  · obtain ⟨l, h, w, x, P, H0, S, W, rfl, hG, hw0, hW, hok, hx, k⟩ := h
    refine ⟨_, (pss_cons (ps_set (i := 4) sc__law_put.nd rfl (Or.inl rfl) (pe_call G__law_place hr (by rfl) T.g__law_place T.F__law_place.kp T.b__law_place .nil pass0 (pa_cons (pv 0) (pa_cons (pv 1) (pa_cons (pv 2) pa_nil)))))
      (C8.pss_cut (ps_if (pt_cmpR op_eq (pv 4) (pe_callB (r := rLenQ K) (id := "len") call_len_seq (by rfl) T.z_len (by decide +kernel) (pa_cons (pv 0) pa_nil)) (nomark _)) (pss_one (ps_expr (pe_bm PySem.F.plainAttrs_list PySem.F.slot_list_append PySem.F.type_list_append mt_append (pv 0) (pa_cons (pe_lst pa_nil) pa_nil)))) pss_nil)
      (pss_cons (ps_set (i := 5) sc__law_put.nd rfl (Or.inl rfl) (pe_call G__law_free (hr.mono (by decide)) (by rfl) T.g__law_free T.F__law_free.kp T.b__law_free .nil pass0 (pa_cons (pv 1) (pa_cons (pv 2) (pa_cons (pe_ix (r := rIxL K) ix_list (pv 0) (pv 4) (fun _ _ => rfl)) pa_nil)))))
      (C8.pss_cut (ps_if (pt_cmpR op_gt (pe_callB (r := rLenQ K) (id := "len") call_len_seq (by rfl) T.z_len (by decide +kernel) (pa_cons (pv 5) pa_nil)) pe_int (nomark _)) (pss_cons (ps_set (i := 6) sc__law_put.nd rfl (Or.inr rfl) (pe_ix (r := rIxL K) ix_list (pv 5) pe_int (fun _ _ => rfl)))
      (pss_one (ps_expr (pe_bm PySem.F.plainAttrs_list PySem.F.slot_list_append PySem.F.type_list_append mt_append (pe_ix (r := rIxL K) ix_list (pv 1) (pv 6) (fun _ _ => rfl)) (pa_cons (pv 3) pa_nil))))) (pss_cons (ps_set (i := 6) sc__law_put.nd rfl (Or.inr rfl) (pe_callB (r := rLenQ K) (id := "len") call_len_seq (by rfl) T.z_len (by decide +kernel) (pa_cons (pv 1) pa_nil)))
      (pss_cons (ps_expr (pe_bm PySem.F.plainAttrs_list PySem.F.slot_list_append PySem.F.type_list_append mt_append (pv 1) (pa_cons (pe_lst (pa_cons (pv 3) pa_nil)) pa_nil)))
      (pss_one (ps_expr (pe_bm PySem.F.plainAttrs_list PySem.F.slot_list_append PySem.F.type_list_append mt_append (pe_ix (r := rIxL K) ix_list (pv 0) (pv 4) (fun _ _ => rfl)) (pa_cons (pv 6) pa_nil)))))))
      (C8.pss_cut (ps_if (pt_cmpR op_gt (pv 4) pe_int (nomark _)) (pss_cons (ps_set (i := 7) sc__law_put.nd rfl (Or.inl rfl) (pe_ix (r := rIxL K) ix_list (pv 0) (pe_op op_sub (pv 4) pe_int) (fun _ _ => rfl)))
      (pss_cons (ps_asg (pe_lc (own := [("_law_other", 8)]) (g := gName 8) rfl sc__law_put.nd (pi_list (pe_ix (r := rIxL K) ix_list (pv 0) (pv 4) (fun _ _ => rfl))) (blkOk_by (own := [("_law_other", 8)]) (N := ["_law_rows", "_law_held", "_law_lot_here", "_law_x", "_law_at", "_law_slots", "_law_slot", "_law_old", "_law_other"]) (sc := defScope s__law_put) (by decide +kernel)) (fun _ _ _ _ _ => (pg_name (i := 8) sc__law_put.nd rfl (Or.inl rfl))) (fun _ _ _ _ _ => (pts_one (pt_cmpR op_ne (pv 8) (pv 6) (nomark _)))) (fun _ _ _ _ _ => (pv 8))) (pg_sub (pv 0) (pe_op op_sub (pv 4) pe_int) set_list))
      (pss_one (ps_asg (pe_op op_cat (pv 7) (pe_lst (pa_cons (pv 6) pa_nil))) (pg_sub (pv 0) (pv 4) set_list))))) pss_nil)
      (pss_one (ps_ret (pv 6)))))))), ?_⟩
    have hw := hG.same _ _ hw0
    tm_at "w"
    refine ⟨l, h, w, x, P, H0, S, W, rfl, hG, hw, hW, hok, by omega, fun H1 s1 => ?_⟩
    have hG1 := hG.later s1
    rw [st_of S] at hG1
    obtain ⟨xs, h1, h2, h3⟩ := hG1.at false
    have h1 : H1 l = some (.lst xs) := h1
    have h2 : xs.length = (S false).length := h2
    have nle := putN_le P (S false) (S true) x
    have n1 := putL1_len P (S false) (S true) x
    have wl := hok.wl
    tm_at "w"
    refine ⟨fun σ H' => σ = [some (.ref l), some (.ref h), some (.ref w), some (.int (x : Int)), some (.int (putN P (S false) (S true) x : Nat)), none, none, none, none] ∧ G H0 H' (RR l h) (st (putL1 P (S false) (S true) x) (S true)), ?_, ?_⟩
    · tm_at "w"
      refine iteI (fun z => ?_) (fun z => ?_)
      · tm_at "w"
        intro e ne
        have h4 : upd H1 e (.lst []) l = some (.lst xs) := (upd_ne (ne_of_none h1 ne)).trans h1
        tm_at "w"
        have g1 := hG1.grow false ne h1
        rw [up_f] at g1
        have e1 : putL1 P (S false) (S true) x = S false ++ [[]] := if_pos (by omega)
        rw [e1]
        exact g1
      · have e1 : putL1 P (S false) (S true) x = S false := if_neg (by omega)
        refine ⟨rfl, ?_⟩
        rw [e1]
        exact hG1
    · rintro σ H2 ⟨rfl, hG2⟩
      have hw2 := hG2.same _ _ hw0
      obtain ⟨ys, k1, k2, k3⟩ := hG2.at false
      have k1 : H2 l = some (.lst ys) := k1
      obtain ⟨ra, y1, y2⟩ := k3 (putN P (S false) (S true) x) _ (List.getElem?_eq_getElem n1)
      have hfew := putL1_few (P := P) (x := x) hok _ (List.getElem_mem n1)
      have hsl : ∀ s ∈ (putL1 P (S false) (S true) x)[putN P (S false) (S true) x], s < (S true).length := fun s hs => putL1_slots hok _ (List.getElem_mem n1) s hs
      have hsl1 : ((putL1 P (S false) (S true) x)[putN P (S false) (S true) x]).length ≤ 1000 := by omega
      tm_at "w"
      refine ⟨l, h, w, ra, x, P, H0, st (putL1 P (S false) (S true) x) (S true), W, _, rfl, hG2, hw2, hW, y2, hsl1, hsl, hok.full, fun t ks H3 s3 ht kp kw => ?_⟩
      have kp : ks.Perm (fitB P (S true) x (putL1 P (S false) (S true) x)[putN P (S false) (S true) x]) := kp
      have hG3 := hG2.later s3
      have kl := kp.length_eq
      tm_at "w"
      refine ⟨fun σ H' => (∃ t, σ = [some (.ref l), some (.ref h), some (.ref w), some (.int (x : Int)), some (.int (putN P (S false) (S true) x : Nat)), some (.ref t), some (.int (putSlot P (S false) (S true) x : Nat)), none, none]) ∧ G H0 H' (RR l h) (st (putL2 P (S false) (S true) x) (putD P (S false) (S true) x)), ?_, ?_⟩
      · obtain ⟨us, u1, u2, u3⟩ := hG3.at true
        have u1 : H3 h = some (.lst us) := u1
        have u2 : us.length = (S true).length := u2
        have wd := hok.wd
        tm_at "w"
        rw [natsV_len]
        rcases put_fit hok (List.getElem?_eq_getElem n1) with ⟨e, hs, hf⟩ | ⟨s, e, hs, hsd, hf⟩
        · rw [hf] at kl
          refine iteEF (decide_eq_false (by rw [kl]; decide)) ?_
          tm_at "w"
          intro e2 ne2
          have k4 : upd H3 e2 (.lst [.int (x : Int)]) h = some (.lst us) := (upd_ne (ne_of_none u1 ne2)).trans u1
          have g3 := hG3.grow true ne2 u1
          rw [up_t] at g3
          have eh : e2 ≠ h := (ne_of_none u1 ne2).symm
          have g4 := g3.push true (j := (S true).length) (q := []) (q' := [x]) (a := e2) (xs := us ++ [.ref e2]) (by show (S true ++ [[]])[(S true).length]? = _; rw [List.getElem?_append_right (Nat.le_refl _), Nat.sub_self]; rfl) upd_same (by rw [List.getElem?_append_right (by omega), u2, Nat.sub_self]; rfl)
          have eq3 := upd_swap3 (H := H3) (e := e2) (h := h) (a := .lst []) (b := .lst (us ++ [.ref e2])) (c := .lst (natsV [x])) eh
          rw [up_t] at g4
          have g4 : G H0 (upd (upd H3 e2 (.lst [.int (x : Int)])) h (.lst (us ++ [.ref e2]))) (RR l h) (st (putL1 P (S false) (S true) x) ((S true ++ [[]]).set (S true).length [x])) := eq3 ▸ g4
          tm_at "w"
          obtain ⟨zs, z1, z2, z3⟩ := g4.at false
          have z1 : upd (upd H3 e2 (.lst [.int (x : Int)])) h (.lst (us ++ [.ref e2])) l = some (.lst zs) := z1
          obtain ⟨rc, y3, y4⟩ := z3 (putN P (S false) (S true) x) _ (List.getElem?_eq_getElem n1)
          tm_at "w"
          refine ⟨rc, _, _, rfl, rfl, y4, lt_line (by rw [natsV_len]; omega), ?_⟩
          have g5 := g4.push false (q' := (putL1 P (S false) (S true) x)[putN P (S false) (S true) x] ++ [us.length]) (List.getElem?_eq_getElem n1) z1 y3
          rw [up_f, ← natsV_snoc] at g5
          refine ⟨⟨t, by rw [hs, ← u2]; rfl⟩, ?_⟩
          have q1 : (putL2 P (S false) (S true) x) = (putL1 P (S false) (S true) x).set (putN P (S false) (S true) x) ((putL1 P (S false) (S true) x)[putN P (S false) (S true) x] ++ [us.length]) := by
            unfold putL2
            rw [if_pos e, getD_some (List.getElem?_eq_getElem n1), hs, u2]
          rw [q1, putD_new e hs]
          exact g5
        · obtain ⟨r, hks⟩ := sorted_min kp kw hf
          subst hks
          refine iteET (decide_eq_true (by rw [List.length_cons]; omega)) ?_
          obtain ⟨rs, v1, v2⟩ := u3 s _ (List.getElem?_eq_getElem hsd)
          have hrl := hok.rows _ (List.getElem_mem hsd)
          tm_at "w"
          refine ⟨_, _, _, _, rfl, rfl, SqL.of ht, atI_nat (j := 0) rfl, ?_⟩
          tm_at "w"
          refine ⟨rs, _, _, rfl, rfl, v2, lt_line (by rw [natsV_len]; omega), ?_⟩
          have g4 := hG3.push true (q' := (S true)[s] ++ [x]) (List.getElem?_eq_getElem hsd) u1 v1
          rw [up_t, ← natsV_snoc] at g4
          refine ⟨⟨t, by rw [hs]; rfl⟩, ?_⟩
          have q1 : (putL2 P (S false) (S true) x) = (putL1 P (S false) (S true) x) := if_neg (by rw [e]; intro z; cases z)
          rw [q1, putD_old e hs hsd]
          exact g4
      · rintro σ H5 ⟨⟨t, rfl⟩, hG5⟩
        have n2 := n1
        rw [← putL2_len] at n2
        obtain ⟨zs, z1, z2, z3⟩ := hG5.at false
        have z1 : H5 l = some (.lst zs) := z1
        have hzl : zs.length = (putL2 P (S false) (S true) x).length := z2
        obtain ⟨ra, y1, y2⟩ := z3 (putN P (S false) (S true) x) _ (List.getElem?_eq_getElem n2)
        tm_at "w"
        refine ⟨fun σ H' => (∃ t u v, σ = [some (.ref l), some (.ref h), some (.ref w), some (.int (x : Int)), some (.int (putN P (S false) (S true) x : Nat)), some (.ref t), some (.int (putSlot P (S false) (S true) x : Nat)), u, v]) ∧ G H0 H' (RR l h) (st (putL P (S false) (S true) x) (putD P (S false) (S true) x)), ?_, ?_⟩
        · tm_at "w"
          refine iteD (fun z => ?_) (fun z => ?_)
          · have n3 : putN P (S false) (S true) x - 1 < (putL2 P (S false) (S true) x).length := by omega
            obtain ⟨rb, w1, w2⟩ := z3 (putN P (S false) (S true) x - 1) _ (List.getElem?_eq_getElem n3)
            have hf2 := putL2_few (P := P) (x := x) hok _ (List.getElem_mem n2)
            have hf3 := putL2_few (P := P) (x := x) hok _ (List.getElem_mem n3)
            have e1 : ((putN P (S false) (S true) x : Nat) : Int) - 1 = ((putN P (S false) (S true) x - 1 : Nat) : Int) := by omega
            have al := hG5.cell (b := false) false z1 w1
            tm_at "w"
            refine ⟨_, _, _, _, rfl, rfl, SqL.of z1, at_of (j := putN P (S false) (S true) x - 1) (by omega) w1, ?_⟩
            tm_at "w"
            refine ⟨⟨_, SqL.of y2⟩, fun D nD => lc_listF (fun i => ((putL2 P (S false) (S true) x)[putN P (S false) (S true) x])[i]?.bind fun o => if (!decide (o = putSlot P (S false) (S true) x)) = true then some (V.int (o : Int)) else none) y2 nD (by rw [natsV_len]; omega) ?_ ?_⟩
            · intro i y H6 N M hy s6 kN kM
              obtain ⟨o, ho, rfl, _⟩ := natsV_here hy
              tm_at "w"
              rw [dec_nat]
              refine iteB (fun e => ?_) (fun e => ?_)
              · tm_at "w"
                exact kN _ _ (by rw [ho]; show (if (!decide (o = putSlot P (S false) (S true) x)) = true then _ else _) = _; rw [if_pos e]) (Same.refl H6)
              · exact kM _ (by rw [ho]; show (if (!decide (o = putSlot P (S false) (S true) x)) = true then _ else _) = _; rw [e, if_neg (by decide)]) (Same.refl H6)
            · intro H6 s6 hD
              rw [filter_list] at hD
              have z16 : H6 l = some (.lst zs) := s6 _ _ z1
              have w26 := s6 _ _ w2
              have g1 := hG5.one s6 false (j := putN P (S false) (S true) x - 1) (c := D) (xs := zs) (q := ((putL2 P (S false) (S true) x)[putN P (S false) (S true) x]).filter fun o => !decide (o = putSlot P (S false) (S true) x)) nD n3 hD z16
              rw [up_f] at g1
              have w27 : (upd H6 l (.lst (zs.set (putN P (S false) (S true) x - 1) (.ref D)))) rb = some (.lst (natsV (putL2 P (S false) (S true) x)[putN P (S false) (S true) x - 1])) := (upd_ne al).trans w26
              have z17 : (upd H6 l (.lst (zs.set (putN P (S false) (S true) x - 1) (.ref D)))) l = some (.lst (zs.set (putN P (S false) (S true) x - 1) (.ref D))) := upd_same
              tm_at "w"
              refine ⟨l, zs, _, putN P (S false) (S true) x - 1, rfl, rfl, z16, ?_, ?_⟩
              · rw [e1]
                exact ixn_nat (by omega)
              revert g1 w27 z17
              show G H0 (upd H6 l (.lst (zs.set (putN P (S false) (S true) x - 1) (.ref D)))) (RR l h) _ → _
              generalize upd H6 l (.lst (zs.set (putN P (S false) (S true) x - 1) (.ref D))) = H7
              intro g1 w27 z17
              tm_at "w"
              intro p np
              obtain ⟨H8, e8, s8, hp8⟩ := new_hide (Same.new (o := .lst [V.int (putSlot P (S false) (S true) x : Nat)]) (Same.refl H7) np)
              rw [e8]
              refine ⟨_, _, _, _, rfl, rfl, s8 _ _ w27, hp8, by rw [natsV_len]; have := lt_line (n := 1000) (by decide); show (putL2 P (S false) (S true) x)[putN P (S false) (S true) x - 1].length + 1 ≤ _; omega, fun p2 np2 => ?_⟩
              obtain ⟨H9, e9, s9, hp9⟩ := new_hide (Same.new (o := .lst (natsV (putL2 P (S false) (S true) x)[putN P (S false) (S true) x - 1] ++ [V.int (putSlot P (S false) (S true) x : Nat)])) (Same.refl H8) np2)
              rw [e9]
              have z19 := s9 _ _ (s8 _ _ z17)
              tm_at "w"
              refine ⟨l, _, _, putN P (S false) (S true) x, rfl, rfl, z19, ixn_nat (by rw [List.length_set]; omega), ?_⟩
              have g2 := g1.one (Same.trans s8 s9) false (j := putN P (S false) (S true) x) (c := p2) (q := (putL2 P (S false) (S true) x)[putN P (S false) (S true) x - 1] ++ [putSlot P (S false) (S true) x]) (xs := zs.set (putN P (S false) (S true) x - 1) (.ref D)) (Same.free s8 np2) (by show _ < ((putL2 P (S false) (S true) x).set _ _).length; rw [List.length_set]; exact n2) (by rw [hp9, natsV_snoc]) z19
              rw [up_f] at g2
              refine ⟨⟨_, _, _, rfl⟩, ?_⟩
              have eP := putP (P := P) (x := x) hok (show putN P (S false) (S true) x ≠ 0 by omega)
              rw [getD_some (List.getElem?_eq_getElem n2), getD_some (List.getElem?_eq_getElem n3)] at eP
              rw [← eP, List.set_comm _ _ (show putN P (S false) (S true) x ≠ putN P (S false) (S true) x - 1 by omega)]
              exact g2
          · refine ⟨⟨_, _, _, rfl⟩, ?_⟩
            rw [← put0 hok (by omega)]
            exact hG5
        · rintro σ H6 ⟨⟨t, u, v, rfl⟩, hG6⟩
          tm_at "w"
          exact k H6 hG6
/-! _law_groups -/
def sp__law_groups (K : PySem.W.Frag) : Sp := fun vs H Q _ => ∃ (l h : Nat) (B : Hp) (S : Bool → List (List Nat)), vs = [.ref l] ∧ G B H (RR l h) S ∧ (S false).length ≤ 400 ∧ (∀ lot ∈ S false, lot.length ≤ 1000) ∧
  ∀ t H', Same H H' → LotsAt H' t (S false) → Q (.ref t) H'
theorem sc__law_groups : FnScope ["_law_rows", "_law_last", "_law_at", "_law_row"] ["_law_rows"] (defScope s__law_groups) := ⟨rfl, rfl, rfl, by decide +kernel, rfl, by decide +kernel, by decide +kernel⟩
theorem ok__law_groups (T : Top P K mg) : FnOk P w K mg base CX0 1 T.f__law_groups T.fd__law_groups ["_law_rows"] (sp__law_groups K) := by
  refine T.F__law_groups.ok sc__law_groups (fun vs H Q E h => ?_) (fun cdv A outer s H vs Q E hr h => ?_)
  · obtain ⟨l, h, B, S, rfl, _⟩ := h
    rfl
  · obtain ⟨l, h, B, S, rfl, hG, h400, hlot, k⟩ := h
    refine ⟨_, (pss_cons (ps_set (i := 1) sc__law_groups.nd rfl (Or.inl rfl) pe_int)
      (pss_cons (ps_for PassesOwn.never rfl (pi_range1 rfl T.z_range (pa_cons (pe_callB (r := rLenQ K) (id := "len") call_len_seq (by rfl) T.z_len (by decide +kernel) (pa_cons (pv 0) pa_nil)) pa_nil)) (pg_name (i := 2) sc__law_groups.nd rfl (Or.inl rfl))
      (pss_one (ps_if (pt_cmpR op_gt (pe_callB (r := rLenQ K) (id := "len") call_len_seq (by rfl) T.z_len (by decide +kernel) (pa_cons (pe_ix (r := rIxL K) ix_list (pv 0) (pv 2) (fun _ _ => rfl)) pa_nil)) pe_int (nomark _)) (pss_one (ps_set (i := 1) sc__law_groups.nd rfl (Or.inl rfl) (pe_op op_add (pv 2) pe_int))) pss_nil)))
      (pss_one (ps_ret (pe_callTy (r := rTupQ K) (T := "tuple") call_tuple_of (by rfl) T.z_tuple (by decide +kernel) (pa_cons (pe_lc (own := [("_law_row", 3)]) (g := gName 3) (tt := tYes) rfl sc__law_groups.nd (pi_list (pe_slice sl_list (pv 0) po_none (po_some (pv 1)))) (blkOk_by (own := [("_law_row", 3)]) (N := ["_law_rows", "_law_last", "_law_at", "_law_row"]) (sc := defScope s__law_groups) (by decide +kernel)) (fun _ _ _ _ _ => (pg_name (i := 3) sc__law_groups.nd rfl (Or.inl rfl))) (fun _ _ _ _ _ => pts_nil) (fun _ _ _ _ _ => (pe_callTy (r := rTupQ K) (T := "tuple") call_tuple_of (by rfl) T.z_tuple (by decide +kernel) (pa_cons (pe_callB (r := rSortedI K) (id := "sorted") cr_sortedI (by rfl) T.z_sorted (by decide +kernel) (pa_cons (pv 3) pa_nil)) pa_nil)))) pa_nil)))))), ?_⟩
    obtain ⟨xs, h1, h2, h3⟩ := hG.at false
    have h1 : H l = some (.lst xs) := h1
    have h2 : xs.length = (S false).length := h2
    tm_at "w"
    rw [h2]
    refine for_range (lo := 0) (n := ((S false).length : Int).toNat) (fun i σ H' => ∃ (m : Nat) (v : Option V), σ = [some (.ref l), some (.int (m : Int)), v, none] ∧ Same H H' ∧ m ≤ i ∧ (∀ j, j < i → 0 < ((S false).getD j []).length → j + 1 ≤ m) ∧ (m = 0 ∨ ∃ j, m = j + 1 ∧ j < i ∧ 0 < ((S false).getD j []).length)) ?_ ?_ ?_
    · exact ⟨0, none, rfl, Same.refl H, Nat.le_refl _, fun j hj => absurd hj (Nat.not_lt_zero _), .inl rfl⟩
    · rintro i σ H1 hi ⟨m, v, rfl, s1, mi, up, ex⟩
      rw [Int.zero_add]
      have il : i < (S false).length := by omega
      obtain ⟨a, e1, e2⟩ := h3 i _ (List.getElem?_eq_getElem il)
      have e21 := s1 _ _ e2
      have h11 := s1 _ _ h1
      have eg : (S false).getD i [] = (S false)[i] := getD_some (List.getElem?_eq_getElem il)
      tm_at "w"
      rw [natsV_len]
      refine iteD (fun z => ?_) (fun z => ?_)
      · tm_at "w"
        refine ⟨i + 1, _, rfl, s1, Nat.le_refl _, fun j hj _ => hj, .inr ⟨i, rfl, Nat.lt_succ_self i, ?_⟩⟩
        rw [eg]
        omega
      · refine ⟨m, _, rfl, s1, by omega, fun j hj h0 => ?_, ?_⟩
        · by_cases y : j = i
          · rw [y, eg] at h0
            omega
          · exact up j (by omega) h0
        · rcases ex with e | ⟨j, e, hj, h0⟩
          · exact .inl e
          · exact .inr ⟨j, e, by omega, h0⟩
    · rintro σ H1 ⟨m, v, rfl, s1, mi, up, ex⟩
      have h11 := s1 _ _ h1
      have hmost : (∀ y ∈ mostB (S false), y ≤ m) ∧ m ∈ mostB (S false) := by
        unfold mostB
        refine ⟨fun y hy => ?_, ?_⟩
        · rcases List.mem_cons.mp hy with e | e
          · omega
          · obtain ⟨j, hj, rfl⟩ := List.mem_map.mp e
            obtain ⟨a1, a2⟩ := List.mem_filter.mp hj
            have := List.mem_range.mp a1
            exact up j (by omega) (of_decide_eq_true a2)
        · rcases ex with e | ⟨j, e, hj, h0⟩
          · rw [e]
            exact List.mem_cons_self
          · rw [e]
            exact List.mem_cons_of_mem _ (List.mem_map.mpr ⟨j, List.mem_filter.mpr ⟨List.mem_range.mpr (by omega), decide_eq_true h0⟩, rfl⟩)
      tm_at "w"
      refine ⟨_, _, rfl, SqL.of h11, fun p2 np2 => ?_⟩
      rw [take_list (by omega)]
      have s5 := Same.new (o := .lst (xs.take m)) s1 np2
      refine ⟨p2, rfl, ⟨_, SqL.of upd_same⟩, fun D2 nD2 => lc_listR (fun j v H => ∃ b q, v = .ref b ∧ H b = some (.tup (natsV q)) ∧ q.Perm ((S false).getD j []) ∧ q.Pairwise (· ≤ ·)) (fun j v H H' h k => by
        obtain ⟨b, q, e1, e2, e3⟩ := h
        exact ⟨b, q, e1, k _ _ e2, e3⟩) upd_same nD2 (by rw [List.length_take]; omega) ?_ ?_⟩
      · intro j y H6 N M hy s6 kN
        have il : j < (S false).length := by
          have := (List.getElem?_eq_some_iff.mp hy).1
          rw [List.length_take] at this
          omega
        obtain ⟨a, e1, e2⟩ := h3 j _ (List.getElem?_eq_getElem il)
        have ey : y = .ref a := by
          rw [List.getElem?_take] at hy
          split at hy
          · rw [hy] at e1
            exact Option.some.inj e1
          · cases hy
        subst ey
        have e26 := s6 _ _ (s5 _ _ e2)
        have eg : (S false).getD j [] = (S false)[j] := getD_some (List.getElem?_eq_getElem il)
        tm_at "w"
        refine ⟨a, ((S false)[j]).map fun z : Nat => (z : Int), rfl, SqL.of (by rw [List.map_map]; exact e26), fun ns q perm pw nq => ?_⟩
        obtain ⟨ks, rfl, kp, kw⟩ := nats_perm perm pw
        tm_at "w"
        intro t nt
        refine kN _ _ (Same.new (Same.new (Same.refl H6) nq) nt) ⟨t, ks, rfl, by rw [upd_same, List.map_map]; rfl, by rw [eg]; exact kp, kw⟩
      · intro H6 acc s6 hD2 hlen hR
        tm_at "w"
        intro t nt
        rw [List.length_take] at hlen
        refine k t _ (Same.new (Same.trans s5 s6) nt) ⟨acc, upd_same, ⟨m, hmost.1, hmost.2, by omega⟩, fun j v e => ?_⟩
        obtain ⟨b, q, e1, e2, e3⟩ := hR j v e
        exact ⟨b, q, e1, (upd_ne (ne_of_none e2 nt)).trans e2, e3⟩
/-! groups_from -/
/-- a new list of new lists, so far -/
structure NR (H1 H : Hp) (D : Addr) (P : List (List Nat)) (n : Nat) (F : Nat → Addr) : Prop where
  list : H D = some (.lst (refsV n F))
  row : ∀ (j : Nat) q, j < n → P[j]? = some q → H (F j) = some (.lst (natsV q))
  new : ∀ j, j < n → H1 (F j) = none
  has : ∀ j, j < n → ∃ o, H (F j) = some o
  ne : ∀ j, j < n → F j ≠ D
  inj : ∀ i j, i < n → j < n → F i = F j → i = j
theorem refsV_snoc (n : Nat) (F : Nat → Addr) (c : Addr) : refsV n F ++ [V.ref c] = refsV (n + 1) (fun j => if j = n then c else F j) := by
  unfold refsV
  rw [List.range_succ, List.map_append, List.map_singleton]
  show _ = _ ++ [V.ref (if n = n then c else F n)]
  rw [if_pos rfl]
  congr 1
  refine List.map_congr_left fun j hj => ?_
  have := List.mem_range.mp hj
  show V.ref (F j) = V.ref (if j = n then c else F j)
  rw [if_neg (by omega)]
theorem NR.nil {H1 H : Hp} {D : Addr} {P : List (List Nat)} (h : H D = some (.lst [])) : NR H1 H D P 0 (fun _ => D) :=
  ⟨h, fun j q z => absurd z (Nat.not_lt_zero _), fun j z => absurd z (Nat.not_lt_zero _), fun j z => absurd z (Nat.not_lt_zero _), fun j z => absurd z (Nat.not_lt_zero _), fun i j z => absurd z (Nat.not_lt_zero _)⟩
theorem NR.same {H1 H H' : Hp} {D : Addr} {P : List (List Nat)} {n : Nat} {F : Nat → Addr} (h : NR H1 H D P n F) (s : Same H H') : NR H1 H' D P n F :=
  ⟨s _ _ h.list, fun j q z e => s _ _ (h.row j q z e), h.new, fun j z => let ⟨o, e⟩ := h.has j z; ⟨o, s _ _ e⟩, h.ne, h.inj⟩
theorem NR.snoc {H1 H : Hp} {D c : Addr} {P : List (List Nat)} {n : Nat} {F : Nat → Addr} {q : List Nat} (h : NR H1 H D P n F) (s : Same H1 H) (nc : H c = none) (hq : P[n]? = some q) :
    NR H1 (upd (upd H c (.lst (natsV q))) D (.lst (refsV n F ++ [.ref c]))) D P (n + 1) (fun j => if j = n then c else F j) := by
  have cD : c ≠ D := (ne_of_none h.list nc).symm
  refine ⟨by rw [upd_same, refsV_snoc], fun j r hj hr => ?_, fun j hj => ?_, fun j hj => ?_, fun j hj => ?_, fun i j hi hj e => ?_⟩
  · by_cases z : j = n
    · show upd _ _ _ (if j = n then c else F j) = _
      rw [if_pos z, upd_ne cD, upd_same]
      rw [z, hq] at hr
      rw [Option.some.inj hr]
    · have jl : j < n := by omega
      show upd _ _ _ (if j = n then c else F j) = _
      rw [if_neg z, upd_ne (h.ne j jl)]
      have := h.row j r jl hr
      rw [upd_ne (ne_of_none this nc)]
      exact this
  · show H1 (if j = n then c else F j) = none
    by_cases z : j = n
    · rw [if_pos z]; exact Same.free s nc
    · rw [if_neg z]; exact h.new j (by omega)
  · show ∃ o, upd _ _ _ (if j = n then c else F j) = some o
    by_cases z : j = n
    · rw [if_pos z, upd_ne cD, upd_same]; exact ⟨_, rfl⟩
    · have jl : j < n := by omega
      obtain ⟨o, e⟩ := h.has j jl
      rw [if_neg z, upd_ne (h.ne j jl), upd_ne (ne_of_none e nc)]
      exact ⟨o, e⟩
  · show (if j = n then c else F j) ≠ D
    by_cases z : j = n
    · rw [if_pos z]; exact cD
    · rw [if_neg z]; exact h.ne j (by omega)
  · have e : (if i = n then c else F i) = (if j = n then c else F j) := e
    by_cases z1 : i = n
    · by_cases z2 : j = n
      · omega
      · rw [if_pos z1, if_neg z2] at e
        obtain ⟨o, k⟩ := h.has j (by omega)
        exact absurd e.symm (ne_of_none k nc)
    · by_cases z2 : j = n
      · rw [if_neg z1, if_pos z2] at e
        obtain ⟨o, k⟩ := h.has i (by omega)
        exact absurd e (ne_of_none k nc)
      · rw [if_neg z1, if_neg z2] at e
        exact h.inj i j (by omega) (by omega) e
theorem lc_tupN {K : PySem.W.Frag} {a : Addr} {xs : List V} {g : TG} {tt : TT} {te : TE} {vs : List Nat} {σ : St} {H1 : Hp} {D : Addr} {Qd : Hp → Prop} (P : List (List Nat)) (hx : H1 a = some (.tup xs)) (hl : xs.length = P.length) (nD : H1 D = none) (hn : xs.length ≤ 100000)
    (hs : ∀ (i : Nat) (x : V) (H : Hp) (N : V → Hp → Prop) (M : Hp → Prop), xs[i]? = some x → Same H1 H → (∀ c q, P[i]? = some q → H c = none → N (.ref c) (upd H c (.lst (natsV q)))) → g x (wipe σ vs) H fun σ2 H2 => wipe σ2 vs = wipe σ vs ∧ tt σ2 H2 fun b H3 => if b = true then te σ2 H3 N else M H3)
    (hd : ∀ H F, Same H1 H → NR H1 H D P P.length F → Qd H) : ∃ W : Nat → Nat → Hp → Prop, (∃ m, W 0 m (upd H1 D (.lst []))) ∧ ∀ i m H, W i m H →
      ((Itt K a).stop i H ∧ Qd H) ∨ ((Itt K a).go i H ∧ ∃ Nx : Hp → Prop, (∀ H', Nx H' → ∃ m', m' < m ∧ W (i + 1) m' H') ∧ ∀ x H', (Itt K a).yld i H x H' → g x (wipe σ vs) H' fun σ2 H2 => wipe σ2 vs = wipe σ vs ∧ tt σ2 H2 fun b H3 =>
        if b = true then te σ2 H3 fun y H4 => ∃ acc, H4 D = some (.lst acc) ∧ acc.length < sizeLine ∧ Nx (upd H4 D (.lst (acc ++ [y]))) else Nx H3) := by
  refine lc_tup (K := K) (a := a) (xs := xs) (fun i H => Same H1 H ∧ ∃ F, NR H1 H D P i F) ⟨Same.new (Same.refl H1) nD, _, NR.nil upd_same⟩ (fun i H _ p => SqT.of (p.1 _ _ hx)) (fun i x H hi p => ?_) (fun H p => ?_)
  · obtain ⟨s, F, nr⟩ := p
    have il : i < xs.length := (List.getElem?_eq_some_iff.mp hi).1
    refine hs i x H _ _ hi s (fun c q hq nc => ?_)
    exact ⟨refsV i F, (upd_ne (ne_of_none nr.list nc)).trans nr.list, lt_line (by rw [refsV_len]; omega), Same.mut (Same.new s nc) nD, _, nr.snoc s nc hq⟩
  · obtain ⟨s, F, nr⟩ := p
    rw [hl] at nr
    exact hd H F s nr
theorem NR.upd {H1 H : Hp} {D g : Addr} {P : List (List Nat)} {n : Nat} {F : Nat → Addr} {o u : HO} (h : NR H1 H D P n F) (nD : H1 D = none) (hg : H1 g = some u) : NR H1 (upd H g o) D P n F := by
  have nF : ∀ j, j < n → F j ≠ g := fun j hj e => by
    have := h.new j hj
    rw [e, hg] at this
    cases this
  have nDg : D ≠ g := fun e => by rw [e, hg] at nD; cases nD
  refine ⟨(upd_ne nDg).trans h.list, fun j q z e => (upd_ne (nF j z)).trans (h.row j q z e), h.new, fun j z => ?_, h.ne, h.inj⟩
  obtain ⟨o', e⟩ := h.has j z
  exact ⟨o', (upd_ne (nF j z)).trans e⟩
theorem NR.back {H0 H1 H : Hp} {D : Addr} {P : List (List Nat)} {n : Nat} {F : Nat → Addr} (h : NR H1 H D P n F) (s : Same H0 H1) : NR H0 H D P n F :=
  ⟨h.list, h.row, fun j z => Same.free s (h.new j z), h.has, h.ne, h.inj⟩
open Classical in
/-- two new lists of new lists stand as the groups do -/
theorem groups_new {H0 H : Hp} {l h g : Addr} {L D : List (List Nat)} {F1 F2 : Nat → Addr} {o : HO} {xs : List (Str × V)} {C dx : Addr} (s : Same H0 H) (n1 : NR H0 H l L L.length F1) (n2 : NR H0 H h D D.length F2) (nl : H0 l = none) (nh : H0 h = none)
    (lh : l ≠ h) (a1 : ∀ j, j < L.length → F1 j ≠ h) (a2 : ∀ j, j < D.length → F2 j ≠ l) (a3 : ∀ i j, i < L.length → j < D.length → F1 i ≠ F2 j) (hg : H g = some (.ins C dx xs)) :
    ∃ B, Same H0 B ∧ B g = some (.ins C dx xs) ∧ G B H (RR l h) (st L D) := by
  let F : Bool → Nat → Addr := fun b j => if b = true then F2 j else F1 j
  let sp : Addr → Prop := fun a => (∃ b, a = RR l h b) ∨ ∃ b j, j < (st L D b).length ∧ a = F b j
  have hrow : ∀ b (j : Nat) q, (st L D b)[j]? = some q → H (F b j) = some (.lst (natsV q)) := fun b j q e => by
    cases b with
    | true => exact n2.row j q (List.getElem?_eq_some_iff.mp e).1 e
    | false => exact n1.row j q (List.getElem?_eq_some_iff.mp e).1 e
  have hlist : ∀ b, H (RR l h b) = some (.lst ((List.range (st L D b).length).map fun j => V.ref (F b j))) := fun b => by
    cases b with
    | true => exact n2.list
    | false => exact n1.list
  have new : ∀ a, sp a → H0 a = none := fun a ha => by
    rcases ha with ⟨b, rfl⟩ | ⟨b, j, hj, rfl⟩
    · cases b with
      | true => exact nh
      | false => exact nl
    · cases b with
      | true => exact n2.new j hj
      | false => exact n1.new j hj
  have nsp : ∀ {a o}, H a = some o → (∀ ys, o ≠ .lst ys) → ¬ sp a := fun {a o} e ne ha => by
    rcases ha with ⟨b, rfl⟩ | ⟨b, j, hj, rfl⟩
    · rw [hlist b] at e
      exact ne _ (Option.some.inj e).symm
    · rw [hrow b j _ (List.getElem?_eq_getElem hj)] at e
      exact ne _ (Option.some.inj e).symm
  refine ⟨fun a => if sp a then none else H a, fun a o e => ?_, ?_, fun a o e => ?_, F, hlist, hrow, fun b j b' j' h1 h2 e => ?_, fun b j b' hj => ?_, ?_, fun b => if_pos (.inl ⟨b, rfl⟩), fun b j hj => if_pos (.inr ⟨b, j, hj, rfl⟩)⟩
  · show (if sp a then none else H a) = some o
    rw [if_neg (fun z => by rw [new a z] at e; cases e)]
    exact s _ _ e
  · show (if sp g then none else H g) = _
    rw [if_neg (nsp hg fun ys z => by cases z)]
    exact hg
  · have e : (if sp a then none else H a) = some o := e
    split at e
    · cases e
    · exact e
  · cases b <;> cases b'
    · exact ⟨rfl, n1.inj j j' h1 h2 e⟩
    · exact absurd e (a3 j j' h1 h2)
    · exact absurd e.symm (a3 j' j h2 h1)
    · exact ⟨rfl, n2.inj j j' h1 h2 e⟩
  · cases b <;> cases b'
    · exact n1.ne j hj
    · exact a1 j hj
    · exact a2 j hj
    · exact n2.ne j hj
  · exact lh
theorem grF_eq (l h : Addr) : grF l h = ([("lots", V.ref l), ("held", V.ref h)] : List (Str × V)) := by
  show (if ("lots" : Str) = "held" then [(("lots" : Str), V.ref h)] else (("lots" : Str), V.ref l) :: putF "held" (V.ref h) []) = ([("lots", V.ref l), ("held", V.ref h)] : List (Str × V))
  rw [if_neg lh_ne]
  all_goals rfl
theorem grF_putL (l h a : Addr) : putF "lots" (.ref a) (grF l h) = grF a h := by
  rw [grF_eq, grF_eq]
  show (if ("lots" : Str) = "lots" then (("lots" : Str), V.ref a) :: [(("held" : Str), V.ref h)] else _) = ([("lots", V.ref a), ("held", V.ref h)] : List (Str × V))
  rw [if_pos rfl]
theorem grF_putH (l h a : Addr) : putF "held" (.ref a) (grF l h) = grF l a := by
  rw [grF_eq, grF_eq]
  show (if ("lots" : Str) = "held" then _ else (("lots" : Str), V.ref l) :: (if ("held" : Str) = "held" then [(("held" : Str), V.ref a)] else _)) = ([("lots", V.ref l), ("held", V.ref a)] : List (Str × V))
  rw [if_neg lh_ne, if_pos rfl]
def sp_groups_from (CG : Addr) (K : PySem.W.Frag) : Sp := fun vs H Q _ => ∃ (lo he : Addr) (L D : List (List Nat)), vs = [.ref lo, .ref he] ∧ ParAt H lo L ∧ ParAt H he D ∧ L.length ≤ 1000 ∧ D.length ≤ 1000 ∧
  ∀ g dx l h B H', Same H B → B g = some (.ins CG dx (grF l h)) → G B H' (RR l h) (st L D) → Q (.ref g) H'
theorem sc_groups_from : FnScope ["lots", "held", "found", "lot", "row"] ["lots", "held"] (defScope s_groups_from) := ⟨rfl, rfl, rfl, by decide +kernel, rfl, by decide +kernel, by decide +kernel⟩
theorem ok_groups_from (T : Top P K mg) : FnOk P w K mg base CX0 3 T.f_groups_from T.fd_groups_from ["lots", "held"] (sp_groups_from T.C_Groups K) := by
  have G_Groups___init__ := ok_Groups___init__ (P := P) (w := w) (base := base) T
  refine T.F_groups_from.ok sc_groups_from (fun vs H Q E h => ?_) (fun cdv A outer s H vs Q E hr h => ?_)
  · obtain ⟨lo, he, L, D, rfl, _⟩ := h
    rfl
  · obtain ⟨lo, he, L, D, rfl, hlo, hhe, hL, hD, k⟩ := h
    refine ⟨_, (pss_cons (ps_set (i := 2) sc_groups_from.nd rfl (Or.inl rfl) (pe_make0 T.M_Groups G_Groups___init__ hr (by rfl) T.g_Groups T.b_Groups___init__ .nil pass0))
      (pss_cons (ps_fld (pv 2) (pe_lc (own := [("lot", 3)]) (g := gName 3) (tt := tYes) rfl sc_groups_from.nd (pi_tup (pv 0)) (blkOk_by (own := [("lot", 3)]) (N := ["lots", "held", "found", "lot", "row"]) (sc := defScope s_groups_from) (by decide +kernel)) (fun _ _ _ _ _ => (pg_name (i := 3) sc_groups_from.nd rfl (Or.inl rfl))) (fun _ _ _ _ _ => pts_nil) (fun _ _ _ _ _ => (pe_callTy (r := rListQ K) (T := "list") call_list_of (by rfl) T.z_list (by decide +kernel) (pa_cons (pv 3) pa_nil)))) rfl)
      (pss_cons (ps_fld (pv 2) (pe_lc (own := [("row", 4)]) (g := gName 4) (tt := tYes) rfl sc_groups_from.nd (pi_tup (pv 1)) (blkOk_by (own := [("row", 4)]) (N := ["lots", "held", "found", "lot", "row"]) (sc := defScope s_groups_from) (by decide +kernel)) (fun _ _ _ _ _ => (pg_name (i := 4) sc_groups_from.nd rfl (Or.inl rfl))) (fun _ _ _ _ _ => pts_nil) (fun _ _ _ _ _ => (pe_callTy (r := rListQ K) (T := "list") call_list_of (by rfl) T.z_list (by decide +kernel) (pa_cons (pv 4) pa_nil)))) rfl)
      (pss_one (ps_ret (pv 2)))))), ?_⟩
    have cG := T.cl_Groups
    have nG1 := T.n_Groups_lots
    have nG2 := T.n_Groups_held
    obtain ⟨xs, hx, hxl⟩ := id hlo
    obtain ⟨ys, hy, hyl⟩ := id hhe
    intro g dx ng ndx ndg
    refine ⟨g, dx, rfl, upd_same, fun l0 h0 H1 bt nl nh nlh hg1 hl1 hh1 => ⟨rfl, ?_⟩⟩
    have sB : Same H (upd (upd H dx (.own g)) g (.ins T.C_Groups dx (grF l0 h0))) := Same.mut (Same.new (Same.refl H) ndx) ng
    have s01 : Same H H1 := fun a o e => by
      have z : a ≠ g := ne_of_none e ng
      exact bt a o z ((upd_ne z).trans ((upd_ne (ne_of_none e ndx)).trans e))
    have hx1 := s01 _ _ hx
    tm_at "w"
    refine ⟨⟨_, SqT.of hx1⟩, fun D1 nD1 => lc_tupN (K := K) (a := lo) (xs := xs) L hx1 hxl.1 nD1 (by rw [hxl.1]; omega) ?_ ?_⟩
    · intro i x H2 N M hxi s2 kN
      obtain ⟨ai, q, rfl, hq, hai⟩ := hxl.here hxi
      have hai2 := s2 _ _ (s01 _ _ hai)
      tm_at "w"
      exact fun c nc => kN c q hq nc
    intro H2 F1 s12 nr1
    have hg2 := s12 _ _ hg1
    have nD1H := Same.free s01 nD1
    have gl : ∀ l h : Addr, (grF l h).length < 1000 := fun l h => by
      unfold grF
      have a1 := length_putF "held" (.ref h) (putF "lots" (.ref l) [])
      have a2 := length_putF "lots" (.ref l) []
      have : ([] : List (Str × V)).length = 0 := rfl
      omega
    refine ⟨_, rfl, g, T.C_Groups, dx, _, rfl, hg2, cG, nG1, gl _ _, ?_⟩
    rw [grF_putL]
    obtain ⟨H3, e3⟩ : ∃ H3, upd H2 g (.ins T.C_Groups dx (grF D1 h0)) = H3 := ⟨_, rfl⟩
    have hg3 : H3 g = some (.ins T.C_Groups dx (grF D1 h0)) := by rw [← e3]; exact upd_same
    have s03 : Same H H3 := by rw [← e3]; exact Same.mut (Same.trans s01 s12) ng
    have nr3 : NR H H3 D1 L L.length F1 := by rw [← e3]; exact (nr1.upd nD1 hg1).back s01
    rw [e3]
    have hy3 := s03 _ _ hy
    tm_at "w"
    refine ⟨⟨_, SqT.of hy3⟩, fun D2 nD2 => lc_tupN (K := K) (a := he) (xs := ys) D hy3 hyl.1 nD2 (by rw [hyl.1]; omega) ?_ ?_⟩
    · intro i x H4 N M hxi s2 kN
      obtain ⟨ai, q, rfl, hq, hai⟩ := hyl.here hxi
      have hai2 := s2 _ _ (s03 _ _ hai)
      tm_at "w"
      exact fun c nc => kN c q hq nc
    intro H4 F2 s34 nr2
    have hg4 := s34 _ _ hg3
    have nD2H := Same.free s03 nD2
    refine ⟨_, rfl, g, T.C_Groups, dx, _, rfl, hg4, cG, nG2, gl _ _, ?_⟩
    rw [grF_putH]
    have hg5 : (upd H4 g (.ins T.C_Groups dx (grF D1 D2))) g = some (.ins T.C_Groups dx (grF D1 D2)) := upd_same
    have gD1 : g ≠ D1 := fun e => by rw [e, nr3.list] at hg3; cases hg3
    have s05 : Same H (upd H4 g (.ins T.C_Groups dx (grF D1 D2))) := Same.mut (Same.trans s03 s34) ng
    have n1 : NR H (upd H4 g (.ins T.C_Groups dx (grF D1 D2))) D1 L L.length F1 := by
      have z := nr3.same s34
      refine ⟨(upd_ne gD1.symm).trans z.list, fun j q hj e => ?_, z.new, fun j hj => ?_, z.ne, z.inj⟩
      · have w := z.row j q hj e
        exact (upd_ne (fun e => by rw [e, hg4] at w; cases w)).trans w
      · have w := z.row j _ hj (List.getElem?_eq_getElem hj)
        exact ⟨_, (upd_ne (fun e => by rw [e, hg4] at w; cases w)).trans w⟩
    have n2 : NR H (upd H4 g (.ins T.C_Groups dx (grF D1 D2))) D2 D D.length F2 := (nr2.upd nD2 hg3).back s03
    obtain ⟨B, b1, b2, b3⟩ := groups_new (o := .lst []) s05 n1 n2 nD1H nD2H (ne_of_none nr3.list nD2) (fun j hj => ne_of_none (nr3.row j _ hj (List.getElem?_eq_getElem hj)) nD2)
      (fun j hj e => by have := nr2.new j hj; rw [e, nr3.list] at this; cases this) (fun i j hi hj e => by have := nr2.new j hj; rw [← e, nr3.row i _ hi (List.getElem?_eq_getElem hi)] at this; cases this) hg5
    tm_at "w"
    exact k g dx D1 D2 B _ b1 b2 b3
/-! first_step -/
/-- what a runtime keeps behind so many kinds: the step's address, its book, its three tuples -/
structure Sk where
  s : Addr
  b : Bk
  tr : Addr
  lo : Addr
  he : Addr
structure StepAt (C : Addr) (H : Hp) (k : Sk) (P : List (List Nat)) : Prop where
  here : H k.s = some (.tup [.ref k.b.b, .ref k.tr, .ref k.lo, .ref k.he])
  book : BookAt C H k.b P
  tri : SchAt H k.tr (runT P P.length)
  lots : ParAt H k.lo (runS P P.length false)
  held : ParAt H k.he (runS P P.length true)
theorem StepAt.same {C : Addr} {H H' : Hp} {k : Sk} {P : List (List Nat)} (h : StepAt C H k P) (s : Same H H') : StepAt C H' k P :=
  ⟨s _ _ h.here, h.book.same s, h.tri.tk (Same.tk s), h.lots.tk (Same.tk s), h.held.tk (Same.tk s)⟩
/-- its parts that are no tuples are new -/
structure StepNw (H : Hp) (k : Sk) : Prop where
  b : H k.b.b = none
  lb : H k.b.lb = none
def sp_first_step (C : Addr) (K : PySem.W.Frag) : Sp := fun vs H Q _ => vs = [] ∧ ∀ k H', Same H H' → StepAt C H' k [] → StepNw H k → Q (.ref k.s) H'
theorem sc_first_step : FnScope [] [] (defScope s_first_step) := ⟨rfl, rfl, rfl, by decide +kernel, rfl, by decide +kernel, by decide +kernel⟩
theorem ok_first_step (T : Top P K mg) : FnOk P w K mg base CX0 8 T.f_first_step T.fd_first_step [] (sp_first_step T.C_Book K) := by
  have G_book_of := ok_book_of (P := P) (w := w) (base := base) T
  refine T.F_first_step.ok sc_first_step (fun vs H Q E h => ?_) (fun cdv A outer s H vs Q E hr h => ?_)
  · obtain ⟨rfl, _⟩ := h
    rfl
  · obtain ⟨rfl, k⟩ := h
    refine ⟨_, (pss_one (ps_ret (pe_tup (pa_cons (pe_call G_book_of hr (by rfl) T.g_book_of T.F_book_of.kp T.b_book_of .nil pass0 (pa_cons (pe_tup pa_nil) pa_nil)) (pa_cons (pe_tup pa_nil) (pa_cons (pe_tup pa_nil) (pa_cons (pe_tup pa_nil) pa_nil))))))), ?_⟩
    tm_at "w"
    intro e ne
    obtain ⟨H1, e1, s1, he⟩ := new_hide (Same.new (o := .tup []) (Same.refl H) ne)
    rw [e1]
    tm_at "w"
    refine ⟨e, [], [], rfl, .inr he, ParL.nil, fun j p e => by simp at e, by decide, fun b H2 mk => ?_⟩
    have s12 := mk.same
    tm_at "w"
    intro t1 nt1
    obtain ⟨H3, e3, s3, ht1⟩ := new_hide (Same.new (o := .tup []) (Same.refl H2) nt1)
    rw [e3]
    tm_at "w"
    intro t2 nt2
    obtain ⟨H4, e4, s4, ht2⟩ := new_hide (Same.new (o := .tup []) (Same.refl H3) nt2)
    rw [e4]
    tm_at "w"
    intro t3 nt3
    obtain ⟨H5, e5, s5, ht3⟩ := new_hide (Same.new (o := .tup []) (Same.refl H4) nt3)
    rw [e5]
    tm_at "w"
    intro p np
    have s35 := Same.trans s4 s5
    have s25 := Same.trans s3 s35
    have sp : Same H5 (upd H5 p (.tup [.ref b.b, .ref t1, .ref t2, .ref t3])) := Same.new (Same.refl H5) np
    have hb := (mk.here.same s25).same sp
    refine k ⟨p, b, t1, t2, t3⟩ _ (Same.trans (Same.trans (Same.trans s1 s12) s25) sp) ⟨upd_same, hb, ?_, ?_, ?_⟩ ⟨Same.free s1 mk.nb.e, Same.free s1 mk.nl.e⟩
    · exact ⟨[], sp _ _ (s35 _ _ ht1), rfl, fun i e h => by simp [runT] at h⟩
    · exact ⟨[], sp _ _ (s5 _ _ ht2), ParL.nil⟩
    · exact ⟨[], sp _ _ ht3, ParL.nil⟩
/-! next_step -/
/-! ### what the told rule says -/
theorem taken_fits (P D : List (List Nat)) (x : Nat) : ∀ (L : List (List Nat)) (n s : Nat), (takenB P D x n L).2 = some s → isA P x (lastD D s) = true
  | [], n, s, h => by cases h
  | lot :: r, n, s, h => by
    have et : takenB P D x n (lot :: r) = match (fitB P D x lot).min? with | some s => (n, some s) | none => if lot.length ≤ n then (n, none) else takenB P D x (n + 1) r := rfl
    cases e : (fitB P D x lot).min? with
    | some s' =>
      rw [et, e] at h
      have := (List.mem_filter.mp (min_mem e)).2
      rw [← Option.some.inj h]
      exact this
    | none =>
      rw [et, e] at h
      by_cases z : lot.length ≤ n
      · simp only [if_pos z] at h
        cases h
      · simp only [if_neg z] at h
        exact taken_fits P D x r (n + 1) s h
def Chn (P : List (List Nat)) (d : List Nat) : Prop := d.Pairwise fun a b => isA P b a = true
theorem chn_count {P : List (List Nat)} (hR : RtP P) (x : Nat) : ∀ {d : List Nat} {j p : Nat}, Chn P d → d[j]? = some p → (j + 1 ≤ (d.filter fun k => isA P x k).length ↔ isA P x p = true)
  | [], j, p, _, h => by simp at h
  | a :: r, j, p, hc, h => by
    obtain ⟨h1, h2⟩ := List.pairwise_cons.mp hc
    rw [List.filter_cons]
    cases e : isA P x a with
    | true =>
      rw [if_pos rfl, List.length_cons]
      cases j with
      | zero =>
        have : a = p := Option.some.inj h
        rw [← this, e]
        exact ⟨fun _ => rfl, fun _ => by omega⟩
      | succ j =>
        have ih := chn_count hR x h2 (show r[j]? = some p from h)
        rw [← ih]
        omega
    | false =>
      rw [if_neg (by decide)]
      have no : ∀ b ∈ r, isA P x b = false := fun b hb => by
        cases eb : isA P x b with
        | false => rfl
        | true =>
          rw [isA_trans hR eb (h1 b hb)] at e
          cases e
      have nil : r.filter (fun k => isA P x k) = [] := List.filter_eq_nil_iff.mpr fun b hb => by rw [no b hb]; decide
      rw [nil]
      have np : isA P x p = false := by
        cases j with
        | zero =>
          have : a = p := Option.some.inj h
          rw [← this]
          exact e
        | succ j => exact no p (List.mem_of_getElem? h)
      rw [np]
      exact ⟨fun z => absurd z (by simp), fun z => by cases z⟩
theorem chn_snoc {P : List (List Nat)} (hR : RtP P) {d : List Nat} {x : Nat} (h : Chn P d) (hl : d = [] ∨ isA P x (d.getLastD 0) = true) : Chn P (d ++ [x]) := by
  refine List.pairwise_append.mpr ⟨h, List.pairwise_singleton _ _, fun a ha b hb => ?_⟩
  rw [List.mem_singleton.mp hb]
  rcases hl with e | e
  · rw [e] at ha
    cases ha
  · have dne : d ≠ [] := List.ne_nil_of_mem ha
    have el : d.getLastD 0 = d.getLast dne := by
      rw [List.getLastD_eq_getLast?, List.getLast?_eq_getLast dne]
      rfl
    rw [el] at e
    have ed : d = d.dropLast ++ [d.getLast dne] := (List.dropLast_concat_getLast dne).symm
    rw [ed] at ha
    rcases List.mem_append.mp ha with ha | ha
    · have h2 := h
      rw [ed] at h2
      exact isA_trans hR e ((List.pairwise_append.mp h2).2.2 a ha _ (List.mem_singleton.mpr rfl))
    · rw [List.mem_singleton.mp ha]
      exact e
/-- the row of the slot that a kind gets -/
theorem put_row {m : Nat} {P L D : List (List Nat)} {x : Nat} (o : OkG m L D) : (putD P L D x).getD (putSlot P L D x) [] = D.getD (putSlot P L D x) [] ++ [x] ∧ ∀ s, s ≠ putSlot P L D x → (putD P L D x).getD s [] = D.getD s [] := by
  have sl := (putD_len (P := P) (x := x) o).2
  have e1 : ∀ s, (if (takenB P D x 0 L).2 = none then D ++ [[]] else D).getD s [] = D.getD s [] := fun s => by
    split
    · rw [List.getD_eq_getElem?_getD, List.getD_eq_getElem?_getD]
      by_cases h : s < D.length
      · rw [List.getElem?_append_left h]
      · rw [List.getElem?_append_right (by omega), List.getElem?_eq_none (l := D) (by omega)]
        cases e : s - D.length with
        | zero => rfl
        | succ n => rfl
    · rfl
  have ls : (putD P L D x).length = (if (takenB P D x 0 L).2 = none then D ++ [[]] else D).length := by
    unfold putD
    simp only
    rw [List.length_set]
  constructor
  · unfold putD at sl ls ⊢
    simp only at sl ls ⊢
    rw [List.getD_eq_getElem?_getD, List.getElem?_set, if_pos rfl, if_pos (by omega), e1]
    rfl
  · intro s hs
    rw [← e1 s]
    unfold putD
    simp only
    rw [List.getD_eq_getElem?_getD, List.getElem?_set, if_neg (fun z => hs z.symm), ← List.getD_eq_getElem?_getD]
def slotB (P : List (List Nat)) (x : Nat) : Nat := putSlot P (runS P x false) (runS P x true) x
def rowB (P : List (List Nat)) (x s : Nat) : List Nat := (runS P x true).getD s []
theorem row_step (P : List (List Nat)) (x s : Nat) : rowB P (x + 1) s = if s = slotB P x then rowB P x s ++ [x] else rowB P x s := by
  obtain ⟨h1, h2⟩ := put_row (P := P) (x := x) (run_ok P x)
  by_cases z : s = slotB P x
  · rw [if_pos z, z]
    exact h1
  · rw [if_neg z]
    exact h2 s z
theorem row_prefix (P : List (List Nat)) (s : Nat) {m : Nat} : ∀ {n : Nat}, m ≤ n → rowB P m s <+: rowB P n s := by
  intro n h
  induction n with
  | zero => rw [show m = 0 by omega]; exact List.prefix_refl _
  | succ n ih =>
    by_cases e : m = n + 1
    · rw [e]
      exact List.prefix_refl _
    · refine (ih (by omega)).trans ?_
      rw [row_step]
      split
      · exact List.prefix_append _ _
      · exact List.prefix_refl _
theorem row_chain {P : List (List Nat)} (hR : RtP P) (s : Nat) : ∀ x, Chn P (rowB P x s)
  | 0 => by
    show Chn P (([] : List (List Nat)).getD s [])
    exact List.Pairwise.nil
  | x + 1 => by
    rw [row_step]
    split
    · rename_i e
      refine chn_snoc hR (row_chain hR s x) ?_
      rcases slot_lt (P := P) (x := x) (run_ok P x) with ⟨e1, h⟩ | ⟨s', lot, e1, h, hs, _⟩
      · refine .inl ?_
        unfold rowB
        rw [e, show slotB P x = (runS P x true).length from h, List.getD_eq_getElem?_getD, List.getElem?_eq_none (Nat.le_refl _)]
        rfl
      · refine .inr ?_
        have := taken_fits P (runS P x true) x (runS P x false) 0 s' e1
        unfold rowB
        rw [e, show slotB P x = s' from h]
        exact this
    · exact row_chain hR s x
theorem row_put (P : List (List Nat)) (x : Nat) : (rowB P (x + 1) (slotB P x))[(rowB P (x + 1) (slotB P x)).length - 1]? = some x := by
  rw [row_step, if_pos rfl, List.length_append, List.length_singleton, Nat.add_sub_cancel, List.getElem?_append_right (Nat.le_refl _), Nat.sub_self]
  rfl
theorem row_pos (P : List (List Nat)) (x : Nat) : 0 < (rowB P (x + 1) (slotB P x)).length := by
  rw [row_step, if_pos rfl, List.length_append]
  exact Nat.succ_pos _
theorem held_mono (P : List (List Nat)) {m n : Nat} (h : m ≤ n) : (runS P m true).length ≤ (runS P n true).length := by
  induction n with
  | zero => rw [show m = 0 by omega]; exact Nat.le_refl _
  | succ n ih =>
    by_cases e : m = n + 1
    · rw [e]
      exact Nat.le_refl _
    · exact Nat.le_trans (ih (by omega)) (putD_len (P := P) (x := n) (run_ok P n)).1
theorem slot_in (P : List (List Nat)) (x : Nat) : slotB P x < (runS P (x + 1) true).length := (putD_len (P := P) (x := x) (run_ok P x)).2
theorem slot_le (P : List (List Nat)) (x : Nat) : slotB P x ≤ (runS P x true).length := by
  rcases slot_lt (P := P) (x := x) (run_ok P x) with ⟨_, h⟩ | ⟨s', lot, e1, h, hs, _⟩
  · exact Nat.le_of_eq h
  · rw [show slotB P x = s' from h]
    exact Nat.le_of_lt hs
theorem ent_at {P : List (List Nat)} {x s : Nat} (h : s < (runS P (x + 1) true).length) : ((entB P (runS P (x + 1) true) x).map fun z : Nat => (z : Int)).getD s 0 = (((rowB P (x + 1) s).filter fun k => isA P x k).length : Int) := by
  unfold entB rowB
  rw [List.getD_eq_getElem?_getD, List.getElem?_map, List.getElem?_map, List.getElem?_eq_getElem h, List.getD_eq_getElem?_getD, List.getElem?_eq_getElem h]
  rfl
/-- the told scheme says what is so -/
theorem told_says {P : List (List Nat)} (hR : RtP P) (x p : Nat) : saysB (tripB P x) (tripB P p) = isA P x p := by
  have el : (tripB P x).2.2.length = (runS P (x + 1) true).length := by
    show ((entB P (runS P (x + 1) true) x).map fun z : Nat => (z : Int)).length = _
    unfold entB
    rw [List.length_map, List.length_map]
  have e1 : (tripB P p).1 = (slotB P p : Int) := rfl
  have e2 : (tripB P p).2.1 = ((rowB P (p + 1) (slotB P p)).length : Int) := rfl
  have e3 : (tripB P x).2.2 = (entB P (runS P (x + 1) true) x).map fun z : Nat => (z : Int) := rfl
  unfold saysB
  rw [el, e1, e2, e3, Int.toNat_natCast]
  by_cases hp : p ≤ x
  · have sl : slotB P p < (runS P (x + 1) true).length := Nat.lt_of_lt_of_le (slot_in P p) (held_mono P (by omega))
    rw [decide_eq_true (by omega), Bool.true_and, ent_at sl]
    have pre : rowB P (p + 1) (slotB P p) <+: rowB P (x + 1) (slotB P p) := row_prefix P _ (by omega)
    have pos := row_pos P p
    have at' : (rowB P (x + 1) (slotB P p))[(rowB P (p + 1) (slotB P p)).length - 1]? = some p := by
      obtain ⟨t, ht⟩ := pre
      rw [← ht, List.getElem?_append_left (by omega)]
      exact row_put P p
    have ct := chn_count hR x (row_chain hR (slotB P p) (x + 1)) at'
    cases e : isA P x p with
    | true =>
      have := ct.mpr e
      exact decide_eq_true (by omega)
    | false =>
      refine decide_eq_false fun z => ?_
      have := ct.mp (by omega)
      rw [e] at this
      cases this
  · have no : isA P x p = false := by
      cases e : isA P x p with
      | false => rfl
      | true =>
        have := isA_le hR e
        omega
    rw [no]
    by_cases sl : slotB P p < (runS P (x + 1) true).length
    · rw [ent_at sl]
      have pre : rowB P (x + 1) (slotB P p) <+: rowB P p (slotB P p) := row_prefix P _ (by omega)
      have l1 := pre.length_le
      have l2 : (rowB P (p + 1) (slotB P p)).length = (rowB P p (slotB P p)).length + 1 := by
        rw [row_step, if_pos rfl, List.length_append]
        rfl
      have l3 := List.length_filter_le (fun k => isA P x k) (rowB P (x + 1) (slotB P p))
      rw [decide_eq_false (p := ((rowB P (p + 1) (slotB P p)).length : Int) ≤ _) (by omega), Bool.and_false]
    · rw [decide_eq_false (by omega), Bool.false_and]
/-- the beginning's scheme is the scheme's beginning -/
theorem fit_congr {P Q : List (List Nat)} {D : List (List Nat)} {x : Nat} (h : ∀ k, isA P x k = isA Q x k) (lot : List Nat) : fitB P D x lot = fitB Q D x lot := by
  unfold fitB
  congr 1
  funext s
  exact h _
theorem taken_congr {P Q : List (List Nat)} {D : List (List Nat)} {x : Nat} (h : ∀ k, isA P x k = isA Q x k) : ∀ (L : List (List Nat)) (n : Nat), takenB P D x n L = takenB Q D x n L
  | [], n => rfl
  | lot :: r, n => by
    have e : ∀ P, takenB P D x n (lot :: r) = match (fitB P D x lot).min? with | some s => (n, some s) | none => if lot.length ≤ n then (n, none) else takenB P D x (n + 1) r := fun _ => rfl
    rw [e, e, fit_congr h, taken_congr h r (n + 1)]
theorem put_congr {P Q : List (List Nat)} {L D : List (List Nat)} {x : Nat} (h : ∀ k, isA P x k = isA Q x k) : putL P L D x = putL Q L D x ∧ putD P L D x = putD Q L D x ∧ putSlot P L D x = putSlot Q L D x := by
  unfold putL putD putL1 putSlot putN
  rw [taken_congr h]
  exact ⟨rfl, rfl, rfl⟩
theorem run_congr {P Q : List (List Nat)} : ∀ {x : Nat}, (∀ y, y < x → ∀ k, isA P y k = isA Q y k) → runS P x = runS Q x
  | 0, _ => rfl
  | x + 1, h => by
    have ih : runS P x = runS Q x := run_congr fun y hy => h y (by omega)
    obtain ⟨h1, h2, _⟩ := put_congr (L := runS P x false) (D := runS P x true) (h x (by omega))
    show putS P (runS P x) x = putS Q (runS Q x) x
    rw [← ih]
    unfold putS
    rw [h1, h2]
theorem runT_congr {P Q : List (List Nat)} : ∀ {x : Nat}, (∀ y, y < x → ∀ k, isA P y k = isA Q y k) → runT P x = runT Q x
  | 0, _ => rfl
  | x + 1, h => by
    show runT P x ++ [tripB P x] = runT Q x ++ [tripB Q x]
    rw [runT_congr fun y hy => h y (by omega)]
    have e1 : runS P x = runS Q x := run_congr fun y hy => h y (by omega)
    have e2 : runS P (x + 1) = runS Q (x + 1) := run_congr h
    have e3 := (put_congr (L := runS P x false) (D := runS P x true) (h x (by omega))).2.2
    unfold tripB
    simp only
    rw [← e1, ← e2, e3]
    unfold entB
    have e4 : (fun row : List Nat => (row.filter fun k => isA P x k).length) = fun row => (row.filter fun k => isA Q x k).length := by
      funext row
      congr 2
      funext k
      exact h x (by omega) k
    rw [e4]
theorem runT_take (P : List (List Nat)) (m : Nat) {x : Nat} (h : x ≤ m) : runT (P.take m) x = runT P x := runT_congr fun y hy k => isA_take (by omega) k
theorem runT_pre (P : List (List Nat)) : ∀ {n m : Nat}, m ≤ n → (runT P n).take m = runT P m
  | 0, m, h => by rw [show m = 0 by omega]; rfl
  | n + 1, m, h => by
    by_cases e : m = n + 1
    · rw [e]
      exact List.take_of_length_le (by rw [runT_len]; exact Nat.le_refl _)
    · show (runT P n ++ [tripB P n]).take m = _
      rw [List.take_append_of_le_length (by rw [runT_len]; omega)]
      exact runT_pre P (by omega)
theorem runT_at (P : List (List Nat)) : ∀ {n x : Nat}, x < n → (runT P n)[x]? = some (tripB P x)
  | n + 1, x, h => by
    show (runT P n ++ [tripB P n])[x]? = _
    by_cases e : x = n
    · rw [e, List.getElem?_append_right (by rw [runT_len]; exact Nat.le_refl _), runT_len, Nat.sub_self]
      rfl
    · rw [List.getElem?_append_left (by rw [runT_len]; omega)]
      exact runT_at P (by omega)
local macro_rules | `(tactic| tm_at "fld") => `(tactic| refine ⟨_, _, _, _, _, rfl, by tm_at "hp", by assumption, by assumption, by first | exact grF_lots _ _ | exact grF_held _ _ | exact bkF_bits _ _ | exact bkF_parents _ _ | fail "fld", ?_⟩)
theorem runS_grown {P : List (List Nat)} {q : List Nat} : runS (P ++ [q]) P.length = runS P P.length := run_congr fun y hy k => isA_grown hy k
theorem runT_grown {P : List (List Nat)} {q : List Nat} : runT (P ++ [q]) P.length = runT P P.length := runT_congr fun y hy k => isA_grown hy k
theorem range_getD (L : List (List Nat)) : (List.range L.length).map (fun i => L.getD i []) = L := by
  refine List.ext_getElem? fun i => ?_
  rw [List.getElem?_map]
  by_cases h : i < L.length
  · rw [List.getElem?_range h, List.getElem?_eq_getElem h]
    show some (L.getD i []) = _
    rw [List.getD_eq_getElem?_getD, List.getElem?_eq_getElem h]
    rfl
  · rw [List.getElem?_eq_none (by rw [List.length_range]; omega), List.getElem?_eq_none (by omega)]
    rfl
/-- kept, out of the words' sight -/
structure Sm (H H' : Hp) : Prop where
  s : Same H H'
def sp_next_step (C : Addr) (K : PySem.W.Frag) : Sp := fun vs H Q _ => ∃ (k : Sk) (P : List (List Nat)) (q : List Nat) (a : Addr), vs = [.ref k.s, .ref a] ∧ StepAt C H k P ∧ OkP (P ++ [q]) ∧ H a = some (.tup (natsV q)) ∧
  ∀ k' H', Same H H' → StepAt C H' k' (P ++ [q]) → StepNw H k' → Q (.ref k'.s) H'
theorem sc_next_step : FnScope ["step", "parents", "x", "sheet_now", "groups_now", "slot", "triple", "lots_now", "held_now", "sheet", "triples", "lots", "held", "lot", "row"] ["step", "parents"] (defScope s_next_step) := ⟨rfl, rfl, rfl, by decide +kernel, rfl, by decide +kernel, by decide +kernel⟩
theorem ok_next_step (T : Top P K mg) : FnOk P w K mg base CX0 8 T.f_next_step T.fd_next_step ["step", "parents"] (sp_next_step T.C_Book K) := by
  have G_Groups_put := ok_Groups_put (P := P) (w := w) (base := base) T
  have G_entries_of := ok_entries_of (P := P) (w := w) (base := base) T
  have G_groups_from := ok_groups_from (P := P) (w := w) (base := base) T
  have G_grown := ok_grown (P := P) (w := w) (base := base) T
  refine T.F_next_step.ok sc_next_step (fun vs H Q E h => ?_) (fun cdv A outer s H vs Q E hr h => ?_)
  · obtain ⟨k, P, q, a, rfl, _⟩ := h
    rfl
  · obtain ⟨k, P, q, a, rfl, hk, ok, ha, kk⟩ := h
    refine ⟨_, (pss_cons (ps_asg (pv 0) (pg_tup rfl (pgs_cons (pg_name (i := 9) sc_next_step.nd rfl (Or.inl rfl)) (pgs_cons (pg_name (i := 10) sc_next_step.nd rfl (Or.inl rfl)) (pgs_cons (pg_name (i := 11) sc_next_step.nd rfl (Or.inl rfl)) (pgs_cons (pg_name (i := 12) sc_next_step.nd rfl (Or.inl rfl)) pgs_nil))))))
      (pss_cons (ps_set (i := 2) sc_next_step.nd rfl (Or.inl rfl) (pe_callB (r := rLenQ K) (id := "len") call_len_seq (by rfl) T.z_len (by decide +kernel) (pa_cons (pv 10) pa_nil)))
      (pss_cons (ps_set (i := 3) sc_next_step.nd rfl (Or.inl rfl) (pe_call G_grown hr (by rfl) T.g_grown T.F_grown.kp T.b_grown .nil pass0 (pa_cons (pv 9) (pa_cons (pv 1) pa_nil))))
      (pss_cons (ps_set (i := 4) sc_next_step.nd rfl (Or.inl rfl) (pe_call G_groups_from (hr.mono (by decide)) (by rfl) T.g_groups_from T.F_groups_from.kp T.b_groups_from .nil pass0 (pa_cons (pv 11) (pa_cons (pv 12) pa_nil))))
      (pss_cons (ps_set (i := 5) sc_next_step.nd rfl (Or.inl rfl) (pe_meth (pv 4) T.cl_Groups T.m_Groups_put G_Groups_put (hr.mono (by decide)) T.b_Groups_put .nil pass0 (pa_cons (pv 3) (pa_cons (pv 2) pa_nil))))
      (pss_cons (ps_set (i := 6) sc_next_step.nd rfl (Or.inl rfl) (pe_tup (pa_cons (pv 5) (pa_cons (pe_callB (r := rLenQ K) (id := "len") call_len_seq (by rfl) T.z_len (by decide +kernel) (pa_cons (pe_ix (r := rIxL K) ix_list (pe_fld (pv 4) rfl) (pv 5) (fun _ _ => rfl)) pa_nil)) (pa_cons (pe_call G_entries_of (hr.mono (by decide)) (by rfl) T.g_entries_of T.F_entries_of.kp T.b_entries_of .nil pass0 (pa_cons (pv 3) (pa_cons (pe_fld (pv 4) rfl) (pa_cons (pv 2) pa_nil)))) pa_nil)))))
      (pss_cons (ps_set (i := 7) sc_next_step.nd rfl (Or.inl rfl) (pe_callTy (r := rTupQ K) (T := "tuple") call_tuple_of (by rfl) T.z_tuple (by decide +kernel) (pa_cons (pe_lc (own := [("lot", 13)]) (g := gName 13) (tt := tYes) rfl sc_next_step.nd (pi_list (pe_fld (pv 4) rfl)) (blkOk_by (own := [("lot", 13)]) (N := ["step", "parents", "x", "sheet_now", "groups_now", "slot", "triple", "lots_now", "held_now", "sheet", "triples", "lots", "held", "lot", "row"]) (sc := defScope s_next_step) (by decide +kernel)) (fun _ _ _ _ _ => (pg_name (i := 13) sc_next_step.nd rfl (Or.inl rfl))) (fun _ _ _ _ _ => pts_nil) (fun _ _ _ _ _ => (pe_callTy (r := rTupQ K) (T := "tuple") call_tuple_of (by rfl) T.z_tuple (by decide +kernel) (pa_cons (pv 13) pa_nil)))) pa_nil)))
      (pss_cons (ps_set (i := 8) sc_next_step.nd rfl (Or.inl rfl) (pe_callTy (r := rTupQ K) (T := "tuple") call_tuple_of (by rfl) T.z_tuple (by decide +kernel) (pa_cons (pe_lc (own := [("row", 14)]) (g := gName 14) (tt := tYes) rfl sc_next_step.nd (pi_list (pe_fld (pv 4) rfl)) (blkOk_by (own := [("row", 14)]) (N := ["step", "parents", "x", "sheet_now", "groups_now", "slot", "triple", "lots_now", "held_now", "sheet", "triples", "lots", "held", "lot", "row"]) (sc := defScope s_next_step) (by decide +kernel)) (fun _ _ _ _ _ => (pg_name (i := 14) sc_next_step.nd rfl (Or.inl rfl))) (fun _ _ _ _ _ => pts_nil) (fun _ _ _ _ _ => (pe_callTy (r := rTupQ K) (T := "tuple") call_tuple_of (by rfl) T.z_tuple (by decide +kernel) (pa_cons (pv 14) pa_nil)))) pa_nil)))
      (pss_one (ps_ret (pe_tup (pa_cons (pv 3) (pa_cons (pe_op op_catA (pv 10) (pe_tup (pa_cons (pv 6) pa_nil))) (pa_cons (pv 7) (pa_cons (pv 8) pa_nil))))))))))))))), ?_⟩
    have cG := T.cl_Groups
    have nG1 := T.n_Groups_lots
    have nG2 := T.n_Groups_held
    have hs := hk.here
    have few := ok.few
    rw [List.length_append] at few
    have few : P.length + 1 ≤ 400 := few
    have hq : ∀ x ∈ q, x < P.length := by
      have := (ok.ok P.length q (by rw [List.getElem?_append_right (Nat.le_refl _), Nat.sub_self]; rfl)).lt
      exact this
    obtain ⟨ts, hts, htl, hti⟩ := id hk.tri
    have est : L2.start ["step", "parents", "x", "sheet_now", "groups_now", "slot", "triple", "lots_now", "held_now", "sheet", "triples", "lots", "held", "lot", "row"] [V.ref k.s, V.ref a] = ([some (.ref k.s), some (.ref a), none, none, none, none, none, none, none, none, none, none, none, none, none] : L2.St) := rfl
    rw [est]
    have htn : ts.length = P.length := htl.trans (runT_len P P.length)
    tm_at "w"
    refine ⟨k.s, _, rfl, SqT.of hs, rfl, _, _, rfl, _, _, rfl, _, _, rfl, _, _, rfl, rfl, ?_⟩
    tm_at "w"
    rw [htn]
    refine ⟨k.b, a, P, q, rfl, hk.book, ha, hq, by omega, fun b' H1 mk => ?_⟩
    have s1 := mk.same
    have w1 : Sm _ _ := ⟨s1⟩
    clear s1
    have ok0 := run_ok P P.length
    have wl := ok0.wl
    have wd := ok0.wd
    tm_at "w"
    refine ⟨k.lo, k.he, _, _, rfl, hk.lots.tk (Same.tk w1.s), hk.held.tk (Same.tk w1.s), by omega, by omega, fun g dx l h B H2 sB hBg hG => ?_⟩
    rw [← st_of, ← runS_grown (q := q)] at hG
    have sB2 : Sm _ _ := ⟨Same.trans w1.s sB⟩
    have wB : Sm _ _ := ⟨sB⟩
    clear sB
    have pl : (P ++ [q]).length = P.length + 1 := by rw [List.length_append]; rfl
    tm_at "w"
    refine ⟨g, dx, _, rfl, hG.same _ _ hBg, grF_no _ _ (by decide +kernel) (by decide +kernel), ?_⟩
    tm_at "w"
    refine ⟨g, l, h, P.length, dx, b', P ++ [q], B, _, rfl, hBg, mk.here.same wB.s, by omega, by omega, hG, run_ok (P ++ [q]) P.length, fun H3 hG3 => ?_⟩
    have hG3 : G B H3 (RR l h) (runS (P ++ [q]) (P.length + 1)) := hG3
    obtain ⟨P', eP⟩ : ∃ P', P ++ [q] = P' := ⟨_, rfl⟩
    rw [eP] at hG3 mk pl
    have hg3 := hG3.same _ _ hBg
    have ok3 := run_ok P' (P.length + 1)
    have wd3 := ok3.wd
    have wl3 := ok3.wl
    obtain ⟨xs3, h1, h2, h3⟩ := hG3.at true
    have h1 : H3 h = some (.lst xs3) := h1
    obtain ⟨ys3, l1, l2, l3⟩ := hG3.at false
    have l1 : H3 l = some (.lst ys3) := l1
    have sl := (putD_len (P := P') (x := P.length) (run_ok P' P.length)).2
    have sl : putSlot P' (runS P' P.length false) (runS P' P.length true) P.length < (runS P' (P.length + 1) true).length := sl
    obtain ⟨ra, e1, e2⟩ := h3 _ _ (List.getElem?_eq_getElem sl)
    rw [eP]
    tm_at "w"
    refine ⟨l, h, P.length, b', P', B, runS P' (P.length + 1), rfl, (mk.here.same wB.s).same hG3.same, by omega, hG3, by omega, fun d hd => by have := ok3.rows d hd; omega, fun t H4 s4 ht => ?_⟩
    tm_at "w"
    intro tp ntp
    obtain ⟨H5, e5, s5, htp⟩ := new_hide (Same.new (o := .tup [.int ((putSlot P' (runS P' P.length false) (runS P' P.length true) P.length : Nat) : Int), .int ((natsV (runS P' (P.length + 1) true)[putSlot P' (runS P' P.length false) (runS P' P.length true) P.length]).length : Int), .ref t]) (Same.refl H4) ntp)
    have w4 : Sm _ _ := ⟨s4⟩
    clear s4
    rw [e5]
    have s35 : Sm _ _ := ⟨Same.trans w4.s s5⟩
    have w5 : Sm _ _ := ⟨s5⟩
    clear s5
    have hg5 := s35.s _ _ hg3
    have c6 := s35.s _ _ l1
    simp only [List.set_cons_zero, List.set_cons_succ]
    tm_at "w"
    refine ⟨⟨_, SqL.of c6⟩, fun L6 nL6 => lc_listR (RN fun i => (runS P' (P.length + 1) false).getD i []) (RN.tk _) c6 nL6 (by omega) ?_ ?_⟩
    · intro j x Hj N M hx sj kN
      have jl : j < (runS P' (P.length + 1) false).length := by rw [← l2]; exact (List.getElem?_eq_some_iff.mp hx).1
      obtain ⟨aj, q1, q2⟩ := l3 j _ (List.getElem?_eq_getElem jl)
      rw [hx] at q1
      obtain rfl := Option.some.inj q1
      have q3 := sj _ _ (s35.s _ _ q2)
      tm_at "w"
      exact fun tj ntj => kN _ _ (Same.new (Same.refl Hj) ntj) ⟨tj, rfl, by rw [upd_same]; show _ = some (HO.tup (natsV ((runS P' (P.length + 1) false).getD j []))); rw [getD_some (List.getElem?_eq_getElem jl)]⟩
    intro H6 ac1 s6 hL6 hlen6 hR6
    tm_at "w"
    intro lt nlt
    obtain ⟨H7, e7, s7, hlt⟩ := new_hide (Same.new (o := .tup ac1) (Same.refl H6) nlt)
    have w6 : Sm _ _ := ⟨s6⟩
    clear s6
    rw [e7]
    have p6 : ParAt H7 lt (runS P' (P.length + 1) false) := by
      have z := parL_of (H := H6) (n := (runS P' (P.length + 1) false).length) (hlen6.trans l2) hR6
      rw [range_getD] at z
      exact ⟨ac1, hlt, z.tk (Same.tk s7)⟩
    have s37 : Sm _ _ := ⟨Same.trans s35.s (Same.trans w6.s s7)⟩
    have w7 : Sm _ _ := ⟨s7⟩
    clear s7
    have hg7 := s37.s _ _ hg3
    have c8 := s37.s _ _ h1
    simp only [List.set_cons_zero, List.set_cons_succ]
    tm_at "w"
    refine ⟨⟨_, SqL.of c8⟩, fun L8 nL8 => lc_listR (RN fun i => (runS P' (P.length + 1) true).getD i []) (RN.tk _) c8 nL8 (by omega) ?_ ?_⟩
    · intro j x Hj N M hx sj kN
      have jl : j < (runS P' (P.length + 1) true).length := by rw [← h2]; exact (List.getElem?_eq_some_iff.mp hx).1
      obtain ⟨aj, q1, q2⟩ := h3 j _ (List.getElem?_eq_getElem jl)
      rw [hx] at q1
      obtain rfl := Option.some.inj q1
      have q3 := sj _ _ (s37.s _ _ q2)
      tm_at "w"
      exact fun tj ntj => kN _ _ (Same.new (Same.refl Hj) ntj) ⟨tj, rfl, by rw [upd_same]; show _ = some (HO.tup (natsV ((runS P' (P.length + 1) true).getD j []))); rw [getD_some (List.getElem?_eq_getElem jl)]⟩
    intro H8 ac2 s8 hL8 hlen8 hR8
    tm_at "w"
    intro ht2 nht2
    obtain ⟨H9, e9, s9, hht2⟩ := new_hide (Same.new (o := .tup ac2) (Same.refl H8) nht2)
    have w8 : Sm _ _ := ⟨s8⟩
    clear s8
    rw [e9]
    have p8 : ParAt H9 ht2 (runS P' (P.length + 1) true) := by
      have z := parL_of (H := H8) (n := (runS P' (P.length + 1) true).length) (hlen8.trans h2) hR8
      rw [range_getD] at z
      exact ⟨ac2, hht2, z.tk (Same.tk s9)⟩
    have s59 : Sm _ _ := ⟨Same.trans (Same.trans w6.s w7.s) (Same.trans w8.s s9)⟩
    have w9 : Sm _ _ := ⟨s9⟩
    clear s9
    have s39 : Sm _ _ := ⟨Same.trans s35.s s59.s⟩
    have sH3 : Sm H H3 := ⟨Same.trans sB2.s hG3.same⟩
    have sH9 : Sm _ _ := ⟨Same.trans sH3.s s39.s⟩
    tm_at "w"
    intro o1 no1
    obtain ⟨H10, e10, s10, ho1⟩ := new_hide (Same.new (o := .tup [.ref tp]) (Same.refl H9) no1)
    rw [e10]
    have hts10 := (Same.trans sH9.s s10) _ _ hts
    refine cat_any hts10 ho1 (Nat.le_trans (show _ ≤ 1000 by rw [htn]; show P.length + 1 ≤ 1000; omega) (by decide)) fun tr H11 s11 htr => ?_
    tm_at "w"
    intro fin nfin
    have s1112 : Same H11 (upd H11 fin (.tup [.ref b'.b, .ref tr, .ref lt, .ref ht2])) := Same.new (Same.refl H11) nfin
    have s912 := Same.trans (Same.trans s10 s11) s1112
    have s312 := Same.trans s39.s s912
    have e13 : P'.length = P.length + 1 := pl
    rw [eP] at kk
    refine kk ⟨fin, b', tr, lt, ht2⟩ _ (Same.trans sH3.s s312) ⟨upd_same, ((mk.here.same wB.s).same hG3.same).same s312, ?_, ?_, ?_⟩ ⟨mk.nb.e, mk.nl.e⟩
    · rw [e13]
      show SchAt _ tr (runT P' P.length ++ [tripB P' P.length])
      have eT : runT P' P.length = runT P P.length := by rw [← eP]; exact runT_grown
      rw [eT]
      have tkA := Same.tk (Same.trans sH9.s s912)
      have sc : ScL (upd H11 fin (.tup [.ref b'.b, .ref tr, .ref lt, .ref ht2])) ts (runT P P.length) := (ScL.tk ⟨htl, hti⟩ tkA)
      refine (sc.snoc (v := .ref tp) (e := tripB P' P.length) ⟨tp, t, rfl, ?_, ?_⟩).sch (s1112 _ _ htr)
      · rw [(Same.trans s59.s s912) _ _ htp, natsV_len]
        show _ = some (HO.tup [V.int (putSlot P' (runS P' P.length false) (runS P' P.length true) P.length : Nat), V.int (((runS P' (P.length + 1) true).getD (putSlot P' (runS P' P.length false) (runS P' P.length true) P.length) []).length : Nat), V.ref t])
        rw [getD_some (List.getElem?_eq_getElem sl)]
      · rw [(Same.trans w5.s (Same.trans s59.s s912)) _ _ ht]
        show _ = some (HO.tup (((entB P' (runS P' (P.length + 1) true) P.length).map fun z : Nat => (z : Int)).map V.int))
        rw [List.map_map]
        rfl
    · rw [e13]
      exact p6.tk (Same.tk (Same.trans (Same.trans w8.s w9.s) s912))
    · rw [e13]
      exact p8.tk (Same.tk s912)
/-! Runtime.__init__ -/
def rtF (st : Addr) : List (Str × V) := putF "steps" (.ref st) []
theorem rtF_eq (st : Addr) : rtF st = ([("steps", V.ref st)] : List (Str × V)) := rfl
theorem rtF_steps (st : Addr) : (rtF st).lookup ("steps" : Str) = some (.ref st) := by
  unfold rtF
  rw [lookup_putF, if_pos rfl]
theorem rtF_no (st : Addr) {m : Str} (h : ¬ m = "steps") : (rtF st).lookup m = none := by
  unfold rtF
  rw [lookup_putF, if_neg h]
  all_goals rfl
theorem rtF_put (st a : Addr) : putF "steps" (.ref a) (rtF st) = rtF a := by
  rw [rtF_eq, rtF_eq]
  show (if ("steps" : Str) = "steps" then [(("steps" : Str), V.ref a)] else _) = ([("steps", V.ref a)] : List (Str × V))
  rw [if_pos rfl]
/-- a runtime: its address, its dict, its steps' tuple, all its steps -/
structure Rk where
  r : Addr
  dx : Addr
  st : Addr
  ks : List Sk
structure RunAt (C CR : Addr) (H : Hp) (ρ : Rk) (P : List (List Nat)) : Prop where
  ins : H ρ.r = some (.ins CR ρ.dx (rtF ρ.st))
  steps : H ρ.st = some (.tup (ρ.ks.map fun k => V.ref k.s))
  len : ρ.ks.length = P.length + 1
  each : ∀ (i : Nat) k, ρ.ks[i]? = some k → StepAt C H k (P.take i)
  ne : ∀ k ∈ ρ.ks, k.b.b ≠ ρ.r ∧ k.b.lb ≠ ρ.r
  ok : OkP P
theorem StepAt.keep {C : Addr} {H H' : Hp} {k : Sk} {P : List (List Nat)} (h : StepAt C H k P) (tk : TK H H') (n1 : ∀ o, H k.b.b = some o → H' k.b.b = some o) (n2 : ∀ o, H k.b.lb = some o → H' k.b.lb = some o) : StepAt C H' k P :=
  ⟨tk _ _ h.here, ⟨n1 _ h.book.ins, h.book.par.tk tk, n2 _ h.book.bits⟩, h.tri.tk tk, h.lots.tk tk, h.held.tk tk⟩
section
variable {C CR : Addr} {H H' : Hp} {ρ : Rk} {P : List (List Nat)}
theorem RunAt.keep (h : RunAt C CR H ρ P) (tk : TK H H') (hr : ∀ o, H ρ.r = some o → H' ρ.r = some o) (hk : ∀ k ∈ ρ.ks, (∀ o, H k.b.b = some o → H' k.b.b = some o) ∧ (∀ o, H k.b.lb = some o → H' k.b.lb = some o)) : RunAt C CR H' ρ P :=
  ⟨hr _ h.ins, tk _ _ h.steps, h.len, fun i k e => (h.each i k e).keep tk (hk k (List.mem_of_getElem? e)).1 (hk k (List.mem_of_getElem? e)).2, h.ne, h.ok⟩
theorem RunAt.same (h : RunAt C CR H ρ P) (s : Same H H') : RunAt C CR H' ρ P := h.keep (Same.tk s) (fun o e => s _ _ e) fun k _ => ⟨fun o e => s _ _ e, fun o e => s _ _ e⟩
/-- the last step -/
theorem RunAt.top (h : RunAt C CR H ρ P) : ∃ k, ρ.ks[P.length]? = some k ∧ StepAt C H k P ∧ atI (ρ.ks.map fun k => V.ref k.s) (-1) = some (.ref k.s) := by
  have hl := h.len
  have e := List.getElem?_eq_getElem (show P.length < ρ.ks.length by omega)
  refine ⟨_, e, ?_, ?_⟩
  · have := h.each _ _ e
    rw [List.take_length] at this
    exact this
  · obtain ⟨xs, k, hx⟩ : ∃ xs k, ρ.ks = xs ++ [k] := ⟨ρ.ks.dropLast, _, (List.dropLast_concat_getLast (fun z => by rw [z] at hl; cases hl)).symm⟩
    have xl : xs.length = P.length := by rw [hx, List.length_append] at hl; exact Nat.succ.inj hl
    have ek : ρ.ks[P.length]'(by omega) = k := by
      have : ρ.ks[P.length]? = some k := by rw [hx, List.getElem?_append_right (by omega), xl, Nat.sub_self]; rfl
      rw [List.getElem?_eq_getElem (by omega)] at this
      exact Option.some.inj this
    rw [ek, hx, List.map_append]
    exact atI_last _ _
theorem RunAt.fv {φ : Fw} (h : RunAt C CR H ρ P) (m : Fv φ H H') (ob : ∀ k ∈ ρ.ks, Off φ k.b.lb) : RunAt C CR H' ρ P := by
  refine h.keep m.tk (fun o e => m.keep _ _ (m.was.offI h.ins) e) fun k hk => ?_
  obtain ⟨i, hi⟩ := List.mem_iff_getElem?.mp hk
  exact ⟨fun o e => m.keep _ _ (m.was.offI (h.each i k hi).book.ins) e, fun o e => m.keep _ _ (ob k hk) e⟩
theorem RunAt.list {l : Addr} {xs : List V} {o : HO} (h : RunAt C CR H ρ P) (hl : H l = some (.lst xs)) (nb : ∀ k ∈ ρ.ks, k.b.lb ≠ l) : RunAt C CR (upd H l o) ρ P := by
  refine h.keep (TK.mut hl) (fun o e => (upd_ne (fun z => by have := h.ins; rw [z, hl] at this; cases this)).trans e) fun k hk => ?_
  obtain ⟨i, hi⟩ := List.mem_iff_getElem?.mp hk
  exact ⟨fun o e => (upd_ne (fun z => by have := (h.each i k hi).book.ins; rw [z, hl] at this; cases this)).trans e, fun o e => (upd_ne (nb k hk)).trans e⟩
end
theorem StepNw.ne {H : Hp} {k : Sk} {r : Addr} {o : HO} (h : StepNw H k) (hr : H r = some o) : k.b.b ≠ r ∧ k.b.lb ≠ r := ⟨fun e => (by have := h.b; rw [e, hr] at this; cases this), fun e => (by have := h.lb; rw [e, hr] at this; cases this)⟩
local macro_rules | `(tactic| tm_at "fld") => `(tactic| refine ⟨_, _, _, _, _, rfl, by tm_at "hp", by assumption, by assumption, by first | exact rtF_steps _ | fail "fld", ?_⟩)
def sp_Runtime___init__ (C : Addr) (CR : Addr) (K : PySem.W.Frag) : Sp := fun vs H Q _ => ∃ (r dx : Addr), vs = [.ref r] ∧ H r = some (.ins CR dx []) ∧ ∀ st k H', But r H H' → RunAt C CR H' ⟨r, dx, st, [k]⟩ [] → StepNw H k → Q .non H'
theorem sc_Runtime___init__ : FnScope ["self"] ["self"] (defScope s_Runtime___init__) := ⟨rfl, rfl, rfl, by decide +kernel, rfl, by decide +kernel, by decide +kernel⟩
theorem ok_Runtime___init__ (T : Top P K mg) : FnOk P w K mg base CX0 9 T.f_Runtime___init__ T.fd_Runtime___init__ ["self"] (sp_Runtime___init__ T.C_Book T.C_Runtime K) := by
  have G_first_step := ok_first_step (P := P) (w := w) (base := base) T
  refine T.F_Runtime___init__.ok sc_Runtime___init__ (fun vs H Q E h => ?_) (fun cdv A outer s H vs Q E hr h => ?_)
  · obtain ⟨r, dx, rfl, _⟩ := h
    rfl
  · obtain ⟨r, dx, rfl, hr0, k⟩ := h
    refine ⟨_, (pss_one (ps_fld (pv 0) (pe_tup (pa_cons (pe_call0 G_first_step hr (by rfl) T.g_first_step T.F_first_step.kp T.b_first_step .nil pass0) pa_nil)) rfl)), ?_⟩
    have cR := T.cl_Runtime
    have nR := T.n_Runtime_steps
    tm_at "w"
    intro kk H1 s1 hk hn
    tm_at "w"
    intro st nst
    obtain ⟨H2, e2, s2, hst⟩ := new_hide (Same.new (o := .tup [.ref kk.s]) (Same.refl H1) nst)
    rw [e2]
    have hr2 := (Same.trans s1 s2) _ _ hr0
    obtain ⟨n1, n2⟩ := hn.ne hr0
    refine ⟨_, rfl, r, T.C_Runtime, dx, [], rfl, hr2, cR, nR, by decide, ?_⟩
    have tk : TK H2 (upd H2 r (.ins T.C_Runtime dx (rtF st))) := TK.mutI hr2
    have bt : But r H2 (upd H2 r (.ins T.C_Runtime dx (rtF st))) := fun a o n e => (upd_ne n).trans e
    refine k st kk _ (fun a o n e => bt a o n ((Same.trans s1 s2) a o e)) ⟨upd_same, tk _ _ hst, rfl, fun i k e => ?_, fun k hk => ?_, OkP.nil⟩ hn
    · cases i with
      | zero =>
        rw [← Option.some.inj e]
        exact (hk.same s2).keep tk (fun o e => bt _ _ n1 e) (fun o e => bt _ _ n2 e)
      | succ i => simp at e
    · rw [List.mem_singleton.mp hk]
      exact ⟨n1, n2⟩
/-! Runtime.many -/
local macro_rules | `(tactic| tm_at "fld") => `(tactic| refine ⟨_, _, _, _, _, rfl, by tm_at "hp", by assumption, by assumption, by first | exact rtF_steps _ | fail "fld", ?_⟩)
def sp_Runtime_many (C : Addr) (CR : Addr) (K : PySem.W.Frag) : Sp := fun vs H Q _ => ∃ (ρ : Rk) (P : List (List Nat)), vs = [.ref ρ.r] ∧ RunAt C CR H ρ P ∧ Q (.int (P.length : Int)) H
theorem sc_Runtime_many : FnScope ["self"] ["self"] (defScope s_Runtime_many) := ⟨rfl, rfl, rfl, by decide +kernel, rfl, by decide +kernel, by decide +kernel⟩
theorem ok_Runtime_many (T : Top P K mg) : FnOk P w K mg base CX0 1 T.f_Runtime_many T.fd_Runtime_many ["self"] (sp_Runtime_many T.C_Book T.C_Runtime K) := by
  refine T.F_Runtime_many.ok sc_Runtime_many (fun vs H Q E h => ?_) (fun cdv A outer s H vs Q E hr h => ?_)
  · obtain ⟨ρ, P, rfl, _⟩ := h
    rfl
  · obtain ⟨ρ, P, rfl, hR, k⟩ := h
    refine ⟨_, (pss_one (ps_ret (pe_op op_sub (pe_callB (r := rLenQ K) (id := "len") call_len_seq (by rfl) T.z_len (by decide +kernel) (pa_cons (pe_fld (pv 0) rfl) pa_nil)) pe_int))), ?_⟩
    have cR := T.cl_Runtime
    have nR := T.n_Runtime_steps
    have hi := hR.ins
    have hst := hR.steps
    tm_at "w"
    rw [List.length_map, hR.len]
    have e : ((P.length + 1 : Nat) : Int) - 1 = (P.length : Int) := by omega
    show Q (.int (((P.length + 1 : Nat) : Int) - 1)) H
    rw [e]
    exact k
/-! Runtime.load -/
theorem OkP.snoc {P : List (List Nat)} {q : List Nat} (h : OkP P) (hq : OkL q P.length) (hn : P.length < 400) : OkP (P ++ [q]) := by
  refine ⟨fun j r e => ?_, by rw [List.length_append]; exact hn⟩
  by_cases hj : j < P.length
  · rw [List.getElem?_append_left hj] at e
    exact h.ok j r e
  · rw [List.getElem?_append_right (by omega)] at e
    have := (List.getElem?_eq_some_iff.mp e).1
    rw [List.length_singleton] at this
    have z : j - P.length = 0 := by omega
    rw [z] at e
    have e : q = r := Option.some.inj e
    rw [← e, show j = P.length by omega]
    exact hq
local macro_rules | `(tactic| tm_at "fld") => `(tactic| refine ⟨_, _, _, _, _, rfl, by tm_at "hp", by assumption, by assumption, by first | exact rtF_steps _ | fail "fld", ?_⟩)
def sp_Runtime_load (C : Addr) (CR : Addr) (K : PySem.W.Frag) : Sp := fun vs H Q _ => ∃ (ρ : Rk) (P : List (List Nat)) (a : Addr) (q : List Nat), vs = [.ref ρ.r, .ref a] ∧ RunAt C CR H ρ P ∧ H a = some (.tup (natsV q)) ∧ OkL q P.length ∧ P.length < 400 ∧
  ∀ st k' H', But ρ.r H H' → RunAt C CR H' ⟨ρ.r, ρ.dx, st, ρ.ks ++ [k']⟩ (P ++ [q]) → StepNw H k' → Q (.int (P.length : Int)) H'
theorem sc_Runtime_load : FnScope ["self", "parents", "number"] ["self", "parents"] (defScope s_Runtime_load) := ⟨rfl, rfl, rfl, by decide +kernel, rfl, by decide +kernel, by decide +kernel⟩
theorem ok_Runtime_load (T : Top P K mg) : FnOk P w K mg base CX0 9 T.f_Runtime_load T.fd_Runtime_load ["self", "parents"] (sp_Runtime_load T.C_Book T.C_Runtime K) := by
  have G_Runtime_many := ok_Runtime_many (P := P) (w := w) (base := base) T
  have G_are_parents := ok_are_parents (P := P) (w := w) (base := base) T
  have G_check_most := ok_check_most (P := P) (w := w) (base := base) T
  have G_next_step := ok_next_step (P := P) (w := w) (base := base) T
  refine T.F_Runtime_load.ok sc_Runtime_load (fun vs H Q E h => ?_) (fun cdv A outer s H vs Q E hr h => ?_)
  · obtain ⟨ρ, P, a, q, rfl, _⟩ := h
    rfl
  · obtain ⟨ρ, P, a, q, rfl, hR, ha, ok, h400, k⟩ := h
    refine ⟨_, (pss_cons (ps_set (i := 2) sc_Runtime_load.nd rfl (Or.inl rfl) (pe_meth0 (pv 0) T.cl_Runtime T.m_Runtime_many G_Runtime_many (hr.mono (by decide)) T.b_Runtime_many .nil pass0))
      (pss_cons (ps_if (pt_not (pt_val (pe_call G_are_parents (hr.mono (by decide)) (by rfl) T.g_are_parents T.F_are_parents.kp T.b_are_parents .nil pass0 (pa_cons (pv 1) (pa_cons (pv 2) pa_nil))))) (pss_one ps_never) pss_nil)
      (pss_cons (ps_expr (pe_call G_check_most (hr.mono (by decide)) (by rfl) T.g_check_most T.F_check_most.kp T.b_check_most .nil pass0 (pa_cons (pe_op op_add (pv 2) pe_int) (pa_cons (pe_glob (v := .int 400) (by rfl) T.c_MOST_KINDS.choose_spec ⟨_, rfl⟩) pa_nil))))
      (pss_cons (ps_fld (pv 0) (pe_op op_catA (pe_fld (pv 0) rfl) (pe_tup (pa_cons (pe_call G_next_step hr (by rfl) T.g_next_step T.F_next_step.kp T.b_next_step .nil pass0 (pa_cons (pe_ix (r := rIxT K) ix_tup (pe_fld (pv 0) rfl) (pe_un un_neg pe_int) (fun _ _ => rfl)) (pa_cons (pv 1) pa_nil))) pa_nil))) rfl)
      (pss_one (ps_ret (pv 2))))))), ?_⟩
    have cR := T.cl_Runtime
    have nR := T.n_Runtime_steps
    have hi := hR.ins
    have hst := hR.steps
    have hl := hR.len
    obtain ⟨kt, ekt, hkt, eat⟩ := hR.top
    tm_at "w"
    refine ⟨ρ.r, ρ.dx, _, rfl, hi, rtF_no _ (by decide +kernel), ?_⟩
    tm_at "w"
    refine ⟨ρ, P, rfl, hR, ?_⟩
    tm_at "w"
    refine ⟨_, _, true, _, rfl, ty_tup ha, tup_tup, .inr ⟨a, natsV q, rfl, ha, rfl, natsV_int q, ?_⟩⟩
    rw [ok.lot]
    refine ⟨_, rfl, ?_⟩
    refine iteF ?_
    tm_at "w"
    refine ⟨_, _, rfl, by omega, ?_⟩
    tm_at "w"
    refine ⟨_, _, _, _, rfl, rfl, SqT.of hst, eat, ?_⟩
    tm_at "w"
    refine ⟨kt, P, q, a, rfl, hkt, hR.ok.snoc ok h400, ha, fun k' H1 s1 hk hn => ?_⟩
    tm_at "w"
    intro o1 no1
    obtain ⟨H2, e2, s2, ho1⟩ := new_hide (Same.new (o := .tup [.ref k'.s]) (Same.refl H1) no1)
    rw [e2]
    refine cat_any ((Same.trans s1 s2) _ _ hst) ho1 (Nat.le_trans (show _ ≤ 1000 by rw [List.length_map, hl]; show P.length + 1 + 1 ≤ 1000; omega) (by decide)) fun st' H3 s3 hst' => ?_
    have s03 := Same.trans (Same.trans s1 s2) s3
    have hi3 := s03 _ _ hi
    obtain ⟨n1, n2⟩ := hn.ne hi
    refine ⟨_, rfl, ρ.r, T.C_Runtime, ρ.dx, _, rfl, hi3, cR, nR, by rw [rtF_eq]; show 1 < 1000; decide, ?_⟩
    rw [rtF_put]
    have tk : TK H3 (upd H3 ρ.r (.ins T.C_Runtime ρ.dx (rtF st'))) := TK.mutI hi3
    have bt : But ρ.r H3 (upd H3 ρ.r (.ins T.C_Runtime ρ.dx (rtF st'))) := fun a o n e => (upd_ne n).trans e
    tm_at "w"
    refine k st' k' _ (fun a o n e => bt a o n (s03 a o e)) ⟨upd_same, ?_, by rw [List.length_append, List.length_append, hl]; rfl, fun i kk e => ?_, fun kk hkk => ?_, hR.ok.snoc ok h400⟩ hn
    · rw [List.map_append]
      exact tk _ _ hst'
    · by_cases hi2 : i < ρ.ks.length
      · rw [List.getElem?_append_left hi2] at e
        rw [List.take_append_of_le_length (by omega)]
        obtain ⟨a1, a2⟩ := hR.ne kk (List.mem_of_getElem? e)
        exact ((hR.each i kk e).same s03).keep tk (fun o e => bt _ _ a1 e) (fun o e => bt _ _ a2 e)
      · rw [List.getElem?_append_right (by omega)] at e
        have := (List.getElem?_eq_some_iff.mp e).1
        rw [List.length_singleton] at this
        have z : i - ρ.ks.length = 0 := by omega
        rw [z] at e
        rw [← Option.some.inj e, List.take_of_length_le (by rw [List.length_append]; show P.length + 1 ≤ i; omega)]
        exact (hk.same (Same.trans s2 s3)).keep tk (fun o e => bt _ _ n1 e) (fun o e => bt _ _ n2 e)
    · rcases List.mem_append.mp hkk with h | h
      · exact hR.ne kk h
      · rw [List.mem_singleton.mp h]
        exact ⟨n1, n2⟩
/-! Runtime.ask -/
local macro_rules | `(tactic| tm_at "fld") => `(tactic| refine ⟨_, _, _, _, _, rfl, by tm_at "hp", by assumption, by assumption, by first | exact rtF_steps _ | fail "fld", ?_⟩)
theorem within_of {i n : Nat} (h : i < n) : withinB (.int (i : Int)) 0 ((n : Int) - 1) = true := by
  show (decide ((0 : Int) ≤ (i : Int)) && decide ((i : Int) ≤ (n : Int) - 1)) = true
  rw [decide_eq_true (by omega), decide_eq_true (by omega)]
  rfl
def sp_Runtime_ask (C : Addr) (CR : Addr) (K : PySem.W.Frag) : Sp := fun vs H Q _ => ∃ (ρ : Rk) (P : List (List Nat)) (i j : Nat), vs = [.ref ρ.r, .int i, .int j] ∧ RunAt C CR H ρ P ∧ i < P.length ∧ j < P.length ∧ Q (.bl (isA P i j)) H
theorem sc_Runtime_ask : FnScope ["self", "x", "p"] ["self", "x", "p"] (defScope s_Runtime_ask) := ⟨rfl, rfl, rfl, by decide +kernel, rfl, by decide +kernel, by decide +kernel⟩
theorem ok_Runtime_ask (T : Top P K mg) : FnOk P w K mg base CX0 4 T.f_Runtime_ask T.fd_Runtime_ask ["self", "x", "p"] (sp_Runtime_ask T.C_Book T.C_Runtime K) := by
  have G_Runtime_many := ok_Runtime_many (P := P) (w := w) (base := base) T
  have G_check_kind_of := ok_check_kind_of (P := P) (w := w) (base := base) T
  have G_told := ok_told (P := P) (w := w) (base := base) T
  refine T.F_Runtime_ask.ok sc_Runtime_ask (fun vs H Q E h => ?_) (fun cdv A outer s H vs Q E hr h => ?_)
  · obtain ⟨ρ, P, i, j, rfl, _⟩ := h
    rfl
  · obtain ⟨ρ, P, i, j, rfl, hR, il, jl, k⟩ := h
    refine ⟨_, (pss_cons (ps_expr (pe_callS G_check_kind_of hr (by rfl) T.g_check_kind_of T.F_check_kind_of.kp T.b_check_kind_of (fun σ => passAt takes0 σ) (by exact (pa_cons (pv 1) (pa_cons (pe_meth0 (pv 0) T.cl_Runtime T.m_Runtime_many G_Runtime_many (hr.mono (by decide)) T.b_Runtime_many .nil pass0) pa_nil)))))
      (pss_cons (ps_expr (pe_callS G_check_kind_of hr (by rfl) T.g_check_kind_of T.F_check_kind_of.kp T.b_check_kind_of (fun σ => passAt takes0 σ) (by exact (pa_cons (pv 2) (pa_cons (pe_meth0 (pv 0) T.cl_Runtime T.m_Runtime_many G_Runtime_many (hr.mono (by decide)) T.b_Runtime_many .nil pass0) pa_nil)))))
      (pss_one (ps_ret (pe_call G_told (hr.mono (by decide)) (by rfl) T.g_told T.F_told.kp T.b_told .nil pass0 (pa_cons (pe_ix (r := rIxT K) ix_tup (pe_ix (r := rIxT K) ix_tup (pe_fld (pv 0) rfl) (pe_un un_neg pe_int) (fun _ _ => rfl)) pe_int (fun _ _ => rfl)) (pa_cons (pv 1) (pa_cons (pv 2) pa_nil)))))))), ?_⟩
    have cR := T.cl_Runtime
    have nR := T.n_Runtime_steps
    have hi := hR.ins
    have hst := hR.steps
    obtain ⟨kt, ekt, hkt, eat⟩ := hR.top
    have hs := hkt.here
    tm_at "w"
    refine ⟨ρ.r, ρ.dx, _, rfl, hi, rtF_no _ (by decide +kernel), ?_⟩
    tm_at "w"
    refine ⟨ρ, P, rfl, hR, ?_⟩
    have e1 : withinB (.int (i : Int)) 0 ((P.length : Int) - 1) = true := within_of il
    have e2 : withinB (.int (j : Int)) 0 ((P.length : Int) - 1) = true := within_of jl
    refine ⟨.int (i : Int), _, rfl, IntK.int _, fun _ => ?_, fun e => by rw [e1] at e; cases e⟩
    tm_at "w"
    refine ⟨ρ.r, ρ.dx, _, rfl, hi, rtF_no _ (by decide +kernel), ?_⟩
    tm_at "w"
    refine ⟨ρ, P, rfl, hR, ?_⟩
    tm_at "w"
    refine ⟨.int (j : Int), _, rfl, IntK.int _, fun _ => ?_, fun e => by rw [e2] at e; cases e⟩
    tm_at "w"
    refine ⟨_, _, _, _, rfl, rfl, SqT.of hst, eat, ?_⟩
    tm_at "w"
    refine ⟨kt.tr, runT P P.length, i, j, tripB P i, tripB P j, rfl, hkt.tri, runT_at P il, runT_at P jl, Int.natCast_nonneg _, ?_⟩
    rw [told_says hR.ok.rt]
    exact k
/-! Runtime.given -/
local macro_rules | `(tactic| tm_at "fld") => `(tactic| refine ⟨_, _, _, _, _, rfl, by tm_at "hp", by assumption, by assumption, by first | exact rtF_steps _ | fail "fld", ?_⟩)
def sp_Runtime_given (C : Addr) (CR : Addr) (C_NoKind : Addr) (K : PySem.W.Frag) : Sp := fun vs H Q E => ∃ (ρ : Rk) (P : List (List Nat)) (x : V), vs = [.ref ρ.r, x] ∧ RunAt C CR H ρ P ∧ IntK K H x ∧
  (∀ i : Nat, x = .int (i : Int) → i < P.length → ∀ v, Trip H v (tripB P i) → Q v H) ∧ (withinB x 0 ((P.length : Int) - 1) = false → E (.ref C_NoKind) none H)
theorem sc_Runtime_given : FnScope ["self", "x"] ["self", "x"] (defScope s_Runtime_given) := ⟨rfl, rfl, rfl, by decide +kernel, rfl, by decide +kernel, by decide +kernel⟩
theorem ok_Runtime_given (T : Top P K mg) : FnOk P w K mg base (L2.CX P w) 4 T.f_Runtime_given T.fd_Runtime_given ["self", "x"] (sp_Runtime_given T.C_Book T.C_Runtime T.C_NoKind K) := by
  have G_Runtime_many := ok_Runtime_many (P := P) (w := w) (base := base) T
  have G_check_kind_of := ok_check_kind_of (P := P) (w := w) (base := base) T
  refine T.F_Runtime_given.okX sc_Runtime_given (fun vs H Q E h => ?_) (fun cdv A outer s H vs Q E hr h => ?_)
  · obtain ⟨ρ, P, x, rfl, _⟩ := h
    rfl
  · obtain ⟨ρ, P, x, rfl, hR, hx, k, ke⟩ := h
    refine ⟨_, (pss_cons (ps_expr (pe_callS G_check_kind_of hr (by rfl) T.g_check_kind_of T.F_check_kind_of.kp T.b_check_kind_of (fun σ => passAt (takes_of rfl rfl rfl rfl) σ) (by exact (pa_cons (pv 1) (pa_cons (pe_meth0 (pv 0) T.cl_Runtime T.m_Runtime_many G_Runtime_many (hr.mono (by decide)) T.b_Runtime_many .nil pass0) pa_nil)))))
      (pss_one (ps_ret (pe_ix (r := rIxT K) ix_tup (pe_ix (r := rIxT K) ix_tup (pe_ix (r := rIxT K) ix_tup (pe_fld (pv 0) rfl) (pe_un un_neg pe_int) (fun _ _ => rfl)) pe_int (fun _ _ => rfl)) (pv 1) (fun _ _ => rfl))))), ?_⟩
    have cR := T.cl_Runtime
    have nR := T.n_Runtime_steps
    have hi := hR.ins
    have hst := hR.steps
    obtain ⟨kt, ekt, hkt, eat⟩ := hR.top
    have hs := hkt.here
    obtain ⟨ts, hts, htl, hti⟩ := id hkt.tri
    tm_at "w"
    refine ⟨ρ.r, ρ.dx, _, rfl, hi, rtF_no _ (by decide +kernel), ?_⟩
    tm_at "w"
    refine ⟨ρ, P, rfl, hR, ?_⟩
    tm_at "w"
    refine ⟨x, _, rfl, hx, fun ex => ?_, fun ex => ?_⟩
    · obtain ⟨i, rfl, il⟩ := within_nat ex
      obtain ⟨v, hv, hT⟩ := hti i _ (runT_at P il)
      tm_at "w"
      refine ⟨_, _, _, _, rfl, rfl, SqT.of hst, eat, ?_⟩
      tm_at "w"
      exact k i rfl il v hT
    · exact ke ex
/-! Runtime.book -/
local macro_rules | `(tactic| tm_at "fld") => `(tactic| refine ⟨_, _, _, _, _, rfl, by tm_at "hp", by assumption, by assumption, by first | exact rtF_steps _ | fail "fld", ?_⟩)
def sp_Runtime_book (C : Addr) (CR : Addr) (K : PySem.W.Frag) : Sp := fun vs H Q _ => ∃ (ρ : Rk) (P : List (List Nat)), vs = [.ref ρ.r] ∧ RunAt C CR H ρ P ∧ ∀ b, BookAt C H b P → Q (.ref b.b) H
theorem sc_Runtime_book : FnScope ["self"] ["self"] (defScope s_Runtime_book) := ⟨rfl, rfl, rfl, by decide +kernel, rfl, by decide +kernel, by decide +kernel⟩
theorem ok_Runtime_book (T : Top P K mg) : FnOk P w K mg base CX0 1 T.f_Runtime_book T.fd_Runtime_book ["self"] (sp_Runtime_book T.C_Book T.C_Runtime K) := by
  refine T.F_Runtime_book.ok sc_Runtime_book (fun vs H Q E h => ?_) (fun cdv A outer s H vs Q E hr h => ?_)
  · obtain ⟨ρ, P, rfl, _⟩ := h
    rfl
  · obtain ⟨ρ, P, rfl, hR, k⟩ := h
    refine ⟨_, (pss_one (ps_ret (pe_ix (r := rIxT K) ix_tup (pe_ix (r := rIxT K) ix_tup (pe_fld (pv 0) rfl) (pe_un un_neg pe_int) (fun _ _ => rfl)) pe_int (fun _ _ => rfl)))), ?_⟩
    have cR := T.cl_Runtime
    have nR := T.n_Runtime_steps
    have hi := hR.ins
    have hst := hR.steps
    obtain ⟨kt, ekt, hkt, eat⟩ := hR.top
    have hs := hkt.here
    tm_at "w"
    refine ⟨_, _, _, _, rfl, rfl, SqT.of hst, eat, ?_⟩
    tm_at "w"
    exact k kt.b hkt.book
/-! Runtime.groups -/
local macro_rules | `(tactic| tm_at "fld") => `(tactic| refine ⟨_, _, _, _, _, rfl, by tm_at "hp", by assumption, by assumption, by first | exact rtF_steps _ | fail "fld", ?_⟩)
def sp_Runtime_groups (C : Addr) (CR : Addr) (CG : Addr) (K : PySem.W.Frag) : Sp := fun vs H Q _ => ∃ (ρ : Rk) (P : List (List Nat)), vs = [.ref ρ.r] ∧ RunAt C CR H ρ P ∧ ∀ t H', Same H H' → LotsAt H' t (runS P P.length false) → Q (.ref t) H'
theorem sc_Runtime_groups : FnScope ["self"] ["self"] (defScope s_Runtime_groups) := ⟨rfl, rfl, rfl, by decide +kernel, rfl, by decide +kernel, by decide +kernel⟩
theorem ok_Runtime_groups (T : Top P K mg) : FnOk P w K mg base CX0 4 T.f_Runtime_groups T.fd_Runtime_groups ["self"] (sp_Runtime_groups T.C_Book T.C_Runtime T.C_Groups K) := by
  have G_Groups_told := ok_Groups_told (P := P) (w := w) (base := base) T
  have G_groups_from := ok_groups_from (P := P) (w := w) (base := base) T
  refine T.F_Runtime_groups.ok sc_Runtime_groups (fun vs H Q E h => ?_) (fun cdv A outer s H vs Q E hr h => ?_)
  · obtain ⟨ρ, P, rfl, _⟩ := h
    rfl
  · obtain ⟨ρ, P, rfl, hR, k⟩ := h
    refine ⟨_, (pss_one (ps_ret (pe_meth0 (pe_call G_groups_from hr (by rfl) T.g_groups_from T.F_groups_from.kp T.b_groups_from .nil pass0 (pa_cons (pe_ix (r := rIxT K) ix_tup (pe_ix (r := rIxT K) ix_tup (pe_fld (pv 0) rfl) (pe_un un_neg pe_int) (fun _ _ => rfl)) pe_int (fun _ _ => rfl)) (pa_cons (pe_ix (r := rIxT K) ix_tup (pe_ix (r := rIxT K) ix_tup (pe_fld (pv 0) rfl) (pe_un un_neg pe_int) (fun _ _ => rfl)) pe_int (fun _ _ => rfl)) pa_nil))) T.cl_Groups T.m_Groups_told G_Groups_told (hr.mono (by decide)) T.b_Groups_told .nil pass0))), ?_⟩
    have cR := T.cl_Runtime
    have nR := T.n_Runtime_steps
    have hi := hR.ins
    have hst := hR.steps
    obtain ⟨kt, ekt, hkt, eat⟩ := hR.top
    have hs := hkt.here
    have ok0 := run_ok P P.length
    have wl := ok0.wl
    have wd := ok0.wd
    have few := hR.ok.few
    tm_at "w"
    refine ⟨_, _, _, _, rfl, rfl, SqT.of hst, eat, ?_⟩
    tm_at "w"
    refine ⟨_, _, _, _, rfl, rfl, SqT.of hst, eat, ?_⟩
    tm_at "w"
    refine ⟨kt.lo, kt.he, _, _, rfl, hkt.lots, hkt.held, by omega, by omega, fun g dx l h B H1 sB hBg hG => ?_⟩
    rw [← st_of] at hG
    have hg1 := hG.same _ _ hBg
    have s1 := Same.trans sB hG.same
    tm_at "w"
    refine ⟨g, dx, _, rfl, hg1, grF_no _ _ (by decide +kernel) (by decide +kernel), ?_⟩
    tm_at "w"
    refine ⟨g, l, h, dx, B, _, rfl, hg1, hG, by omega, fun lot hl => ?_, fun u H2 s2 hu => k u H2 (Same.trans s1 s2) hu⟩
    obtain ⟨j, hj⟩ := List.mem_iff_getElem?.mp hl
    have := ok0.few j lot hj
    have := (List.getElem?_eq_some_iff.mp hj).1
    omega
/-! _law_given -/
def sp__law_given (C : Addr) (CR : Addr) (K : PySem.W.Frag) : Sp := fun vs H Q _ => ∃ (ρ : Rk) (P : List (List Nat)) (x : V), vs = [.ref ρ.r, x] ∧ RunAt C CR H ρ P ∧ IntK K H x ∧ (∀ H', IntK K H' x) ∧
  (∀ i : Nat, x = .int (i : Int) → i < P.length → ∀ t v H', Same H H' → H' t = some (.tup [.str "triple", v]) → Trip H' v (tripB P i) → Q (.ref t) H') ∧
  (withinB x 0 ((P.length : Int) - 1) = false → ∀ t H', Same H H' → H' t = some (.tup [.str "stranger", .int 0]) → Q (.ref t) H')
theorem sc__law_given : FnScope ["_law_runtime", "_law_x", "_law_answer"] ["_law_runtime", "_law_x"] (defScope s__law_given) := ⟨rfl, rfl, rfl, by decide +kernel, rfl, by decide +kernel, by decide +kernel⟩
theorem ok__law_given (T : Top P K mg) : FnOk P w K mg base CX0 5 T.f__law_given T.fd__law_given ["_law_runtime", "_law_x"] (sp__law_given T.C_Book T.C_Runtime K) := by
  have G_Runtime_given := ok_Runtime_given (P := P) (w := w) (base := base) T
  refine T.F__law_given.ok sc__law_given (fun vs H Q E h => ?_) (fun cdv A outer s H vs Q E hr h => ?_)
  · obtain ⟨ρ, P, x, rfl, _⟩ := h
    rfl
  · obtain ⟨ρ, P, x, rfl, hR, hx, hxa, k, ke⟩ := h
    refine ⟨_, (pss_cons (ps_set (i := 2) sc__law_given.nd rfl (Or.inl rfl) (pe_tup (pa_cons pe_str pa_nil)))
      (pss_cons (ps_try_only (Wout := fun _ _ _ _ => False) rfl rfl ⟨rfl, by decide, .inl T.er_NoKind.g⟩ takes0 (fun W pn xe tk _ => (pss_one (ps_set (i := 2) sc__law_given.nd rfl (Or.inl rfl) (pe_tup (pa_cons pe_str (pa_cons (pe_methX (pv 0) T.cl_Runtime T.m_Runtime_given G_Runtime_given hr T.b_Runtime_given (fun σ => passAt tk σ) (by exact (pa_cons (pv 1) pa_nil))) pa_nil)))))) (fun xa xo xc xd pn hz hf => (by exact (pss_one (ps_set (i := 2) sc__law_given.nd rfl (Or.inl rfl) (pe_tup (pa_cons pe_str (pa_cons pe_int pa_nil))))))))
      (pss_one (ps_ret (pv 2))))), ?_⟩
    tm_at "w"
    intro o1 no1
    obtain ⟨H1, e1, s1, ho1⟩ := new_hide (Same.new (o := .tup [.str "nothing"]) (Same.refl H) no1)
    rw [e1]
    have hR1 := hR.same s1
    have hi1 := hR1.ins
    tm_at "w"
    refine ⟨ρ.r, ρ.dx, _, rfl, hi1, rtF_no _ (by decide +kernel), ?_⟩
    tm_at "w"
    refine ⟨ρ, P, x, rfl, hR1, hxa H1, fun i ex il v hT => ?_, fun e => ?_⟩
    · tm_at "w"
      intro t nt
      obtain ⟨H3, e3, s3, ht⟩ := new_hide (Same.new (o := .tup [.str "triple", v]) (Same.refl H1) nt)
      rw [e3]
      tm_at "w"
      exact k i ex il t v _ (Same.trans s1 s3) ht (hT.tk (Same.tk s3))
    · refine ⟨true, T.xm_NoKind_NoKind, fun _ xa hxa => ?_, fun q => nomatch q⟩
      tm_at "w"
      intro t nt
      obtain ⟨H3, e3, s3, ht⟩ := new_hide (Same.new (o := .tup [.str "stranger", .int 0]) (Same.refl H1) nt)
      rw [e3]
      tm_at "w"
      exact ke e t _ (Same.trans s1 s3) ht
/-! _law_great -/
def natsD (p : List Nat) : List PyData := p.map fun q : Nat => PyData.int (q : Int)
def rowsD (P : List (List Nat)) : List PyData := P.map fun p => PyData.tuple (natsD p)
theorem nats_lay : ∀ q : List Nat, PyData.canLayAll0 (natsD q) = true
  | [] => rfl
  | n :: r => by
    show (PyData.canLay0 (.int (n : Int)) && PyData.canLayAll0 (natsD r)) = true
    rw [nats_lay r]
    rfl
theorem rows_lay : ∀ P : List (List Nat), PyData.canLayAll0 (rowsD P) = true
  | [] => rfl
  | q :: r => by
    show (PyData.canLay0 (.tuple (natsD q)) && PyData.canLayAll0 (rowsD r)) = true
    rw [rows_lay r]
    show (PyData.canLayAll0 (natsD q) && true) = true
    rw [nats_lay]
    rfl
theorem nats_deep : ∀ q : List Nat, PyData.depthAll (natsD q) ≤ 1
  | [] => by simp [natsD, PyData.depthAll]
  | n :: r => by
    have ih := nats_deep r
    show PyData.depthAll (PyData.int (n : Int) :: natsD r) ≤ 1
    simp only [PyData.depthAll, PyData.depth]
    omega
theorem rows_deep : ∀ P : List (List Nat), PyData.depthAll (rowsD P) ≤ 2
  | [] => by simp [rowsD, PyData.depthAll]
  | q :: r => by
    have ih := rows_deep r
    have iq := nats_deep q
    show PyData.depthAll (PyData.tuple (natsD q) :: rowsD r) ≤ 2
    simp only [PyData.depthAll, PyData.depth]
    omega
theorem nats_shaped (q : List Nat) : SeqAt.shaped (.tuple (natsD q)) = true := by
  have iq := nats_deep q
  have h2 : PyData.depth (.tuple (natsD q)) ≤ 64 := by
    simp only [PyData.depth]
    omega
  exact Bool.and_eq_true_iff.mpr ⟨nats_lay q, decide_eq_true h2⟩
theorem rows_shaped (P : List (List Nat)) : SeqAt.shaped (.tuple (rowsD P)) = true := by
  have iq := rows_deep P
  have h2 : PyData.depth (.tuple (rowsD P)) ≤ 64 := by
    simp only [PyData.depth]
    omega
  exact Bool.and_eq_true_iff.mpr ⟨rows_lay P, decide_eq_true h2⟩
theorem rows_refl (P : List (List Nat)) : PyData.eqv (.tuple (rowsD P)) (.tuple (rowsD P)) = true := SeqAt.eqv_refl _ (rows_lay P)
theorem nats_refl (q : List Nat) : PyData.eqv (.tuple (natsD q)) (.tuple (natsD q)) = true := SeqAt.eqv_refl _ (nats_lay q)
theorem dp_nats {K : PySem.W.Frag} {H : Hp} : ∀ q : List Nat, DpAll K H (natsV q) (natsD q)
  | [] => .nil
  | n :: r => .cons (.int n) (dp_nats r)
theorem dp_tup {K : PySem.W.Frag} {H : Hp} {a : Addr} {q : List Nat} (h : H a = some (.tup (natsV q))) : Dp K H (.ref a) (.tuple (natsD q)) := .tup (SqT.of h) (dp_nats q)
theorem dp_rows {K : PySem.W.Frag} {H : Hp} : ∀ {vs : List V} {P : List (List Nat)}, ParL H vs P → DpAll K H vs (rowsD P)
  | [], [], _ => .nil
  | [], _ :: _, h => nomatch h.1
  | _ :: _, [], h => nomatch h.1
  | v :: vs, p :: P, h => by
    obtain ⟨a, e1, e2⟩ := h.2 0 p rfl
    have ev : v = .ref a := Option.some.inj e1
    subst ev
    exact .cons (dp_tup e2) (dp_rows ⟨by have := h.1; simpa using this, fun j q e => h.2 (j + 1) q (by simpa using e)⟩)
theorem dp_par {K : PySem.W.Frag} {H : Hp} {a : Addr} {P : List (List Nat)} (h : ParAt H a P) : Dp K H (.ref a) (.tuple (rowsD P)) := by
  obtain ⟨vs, e, l⟩ := h
  exact .tup (SqT.of e) (dp_rows l)
/-! ### how long the text of a thing is -/
theorem int_len {i : Int} {k : Nat} (hk : 0 < k) (h : i.natAbs < 10 ^ k) : (PyData.shown (.int i)).length ≤ k + 1 := by
  have e := int_text_length_le10 hk h
  show (Str.ofString (toString i)).length ≤ k + 1
  rw [ofString_length]
  exact e
theorem log_small {i : Int} (h : i.natAbs ≤ 10 ^ 60) : i.natAbs.log2 < 1920 := by
  by_cases z : i.natAbs = 0
  · rw [z]; decide
  · exact (Nat.log2_lt z).mpr (Nat.lt_of_le_of_lt h (by decide +kernel))
theorem shownAll_len : ∀ ds : List PyData, (PyData.shownAll ds).length = ds.length
  | [] => rfl
  | d :: r => by
    show (d.shown :: PyData.shownAll r).length = _
    rw [List.length_cons, List.length_cons, shownAll_len r]
theorem piled_le {b : Nat} : ∀ {ds : List PyData}, (∀ d ∈ ds, d.shown.length ≤ b) → piled (PyData.shownAll ds) ≤ (b + 2) * ds.length
  | [], _ => Nat.zero_le _
  | d :: r, h => by
    have ih := piled_le (ds := r) fun x hx => h x (List.mem_cons_of_mem _ hx)
    have h0 := h d List.mem_cons_self
    show piled (d.shown :: PyData.shownAll r) ≤ _
    rw [piled_cons, List.length_cons, Nat.mul_succ]
    omega
theorem tup_len {b : Nat} {ds : List PyData} (h : ∀ d ∈ ds, d.shown.length ≤ b) : (PyData.shown (.tuple ds)).length ≤ (b + 2) * ds.length + 2 :=
  Nat.le_trans (fmt_text _) (Nat.add_le_add_right (piled_le h) 2)
theorem ints_len {c k : Nat} {r : List Int} (hk : 0 < k) (hl : r.length ≤ c) (h : ∀ z ∈ r, z.natAbs < 10 ^ k) : (PyData.shown (.tuple (r.map PyData.int))).length ≤ (k + 3) * c + 2 := by
  refine Nat.le_trans (tup_len (b := k + 1) fun d hd => ?_) ?_
  · obtain ⟨z, hz, rfl⟩ := List.mem_map.mp hd
    exact int_len hk (h z hz)
  · rw [List.length_map]
    exact Nat.add_le_add_right (Nat.mul_le_mul_left _ hl) 2
theorem ints_can {r : List Int} (h : ∀ z ∈ r, z.natAbs ≤ 10 ^ 60) : PyData.showableAll (r.map PyData.int) = true := by
  induction r with
  | nil => rfl
  | cons x r ih =>
    show (decide (x.natAbs.log2 < 1920) && PyData.showableAll (r.map PyData.int)) = true
    rw [ih fun z hz => h z (List.mem_cons_of_mem _ hz), decide_eq_true (log_small (h x List.mem_cons_self))]
    rfl
theorem ints_nod (r : List Int) : PyData.hasDictAll (r.map PyData.int) = false := by
  induction r with
  | nil => rfl
  | cons x r ih =>
    show (false || PyData.hasDictAll (r.map PyData.int)) = false
    rw [ih]
    rfl
def tripD (e : Tr) : PyData := .tuple [.int e.1, .int e.2.1, .tuple (e.2.2.map PyData.int)]
theorem dp_sch {K : PySem.W.Frag} {H : Hp} {a : Addr} {S : List Tr} (h : SchAt H a S) : Dp K H (.ref a) (.tuple (S.map tripD)) := by
  obtain ⟨vs, h1, h2, h3⟩ := h
  have key : ∀ (vs : List V) (S : List Tr), vs.length = S.length → (∀ (i : Nat) (e : Tr), S[i]? = some e → ∃ v, vs[i]? = some v ∧ Trip H v e) → DpAll K H vs (S.map tripD) := by
    intro vs
    induction vs with
    | nil =>
      intro S hl _
      cases S with
      | nil => exact .nil
      | cons e r => cases hl
    | cons v vs ih =>
      intro S hl h
      cases S with
      | nil => cases hl
      | cons e r =>
        obtain ⟨u, e1, p, q, rfl, e2, e3⟩ := h 0 e rfl
        have ev : v = .ref p := Option.some.inj e1
        subst ev
        exact .cons (.tup (SqT.of e2) (.cons (.int _) (.cons (.int _) (.cons (.tup (SqT.of e3) (dp_ints _)) .nil)))) (ih r (by simpa using hl) fun i x hx => h (i + 1) x hx)
  exact .tup (SqT.of h1) (key vs S h2 h3)
theorem sch_lay : ∀ S : List Tr, PyData.canLayAll0 (S.map tripD) = true
  | [] => rfl
  | e :: r => by
    show (PyData.canLay0 (tripD e) && PyData.canLayAll0 (r.map tripD)) = true
    rw [sch_lay r]
    have : PyData.canLay0 (tripD e) = true := by
      show (true && (true && (PyData.canLayAll0 (e.2.2.map PyData.int) && true))) = true
      rw [lay_ints]
      rfl
    rw [this]
    rfl
theorem sch_deep : ∀ S : List Tr, PyData.depthAll (S.map tripD) ≤ 6
  | [] => by simp [PyData.depthAll]
  | e :: r => by
    have ih := sch_deep r
    have h := deep_ints e.2.2
    have : PyData.depth (tripD e) ≤ 6 := by
      unfold tripD
      simp only [PyData.depth, PyData.depthAll]
      omega
    show PyData.depthAll (tripD e :: r.map tripD) ≤ 6
    simp only [PyData.depthAll]
    omega
theorem sch_shaped (S : List Tr) : SeqAt.shaped (.tuple (S.map tripD)) = true := by
  have h := sch_deep S
  have h2 : PyData.depth (.tuple (S.map tripD)) ≤ 64 := by
    simp only [PyData.depth]
    omega
  exact Bool.and_eq_true_iff.mpr ⟨sch_lay S, decide_eq_true h2⟩
theorem sch_refl (S : List Tr) : PyData.eqv (.tuple (S.map tripD)) (.tuple (S.map tripD)) = true := SeqAt.eqv_refl _ (sch_lay S)
/-! ### what a state's texts are -/
theorem ok_app {a b : Str} (ha : PyData.strOk a = true) (hb : PyData.strOk b = true) : PyData.strOk (a ++ b) = true := by
  unfold PyData.strOk at *
  rw [show (a ++ b).cps = a.cps ++ b.cps from rfl, Array.all_append, ha, hb]
  rfl
theorem ok_str (s : String) : PyData.strOk (Str.ofString s) = true := by
  rw [Str.ofString_eq_toList]
  unfold PyData.strOk
  show (s.toList.map Char.toNat).toArray.all (fun c => decide (c < 0x110000)) = true
  rw [List.all_toArray, List.all_eq_true]
  intro c hc
  obtain ⟨ch, _, rfl⟩ := List.mem_map.mp hc
  have v := ch.valid
  have v : ch.toNat < 0xd800 ∨ (0xdfff < ch.toNat ∧ ch.toNat < 0x110000) := v
  exact decide_eq_true (by omega)
theorem ok_int (i : Int) : PyData.strOk (PyData.shown (.int i)) = true := ok_str (toString i)
theorem ok_bool (b : Bool) : PyData.strOk (PyData.shown (.bool b)) = true := by
  cases b
  · exact ok_str "False"
  · exact ok_str "True"
theorem ok_join : ∀ {ts : List Str}, (∀ t ∈ ts, PyData.strOk t = true) → PyData.strOk (Str.join (", " : String) ts) = true
  | [], _ => by decide +kernel
  | [x], h => h x List.mem_cons_self
  | x :: y :: r, h => by
    show PyData.strOk (x ++ ((", " : String) : Str) ++ Str.join (", " : String) (y :: r)) = true
    exact ok_app (ok_app (h x List.mem_cons_self) (ok_str ", ")) (ok_join fun t ht => h t (List.mem_cons_of_mem _ ht))
theorem ok_from : ∀ {ts : List Str} (k : Nat) {acc : Str}, PyData.strOk acc = true → (∀ t ∈ ts, PyData.strOk t = true) → PyData.strOk (textFrom k acc ts) = true
  | [], _, _, ha, _ => ha
  | t :: r, k, acc, ha, h => by
    refine ok_from (k + 1) (ok_app (ok_app ha ?_) (h t List.mem_cons_self)) fun u hu => h u (List.mem_cons_of_mem _ hu)
    split
    · exact ok_str ", "
    · exact ok_str ""
theorem shownAll_mem : ∀ {ds : List PyData} {t : Str}, t ∈ PyData.shownAll ds → ∃ d ∈ ds, t = d.shown
  | d :: r, t, h => by
    have h : t ∈ d.shown :: PyData.shownAll r := h
    rcases List.mem_cons.mp h with e | e
    · exact ⟨d, List.mem_cons_self, e⟩
    · obtain ⟨x, hx, ex⟩ := shownAll_mem e
      exact ⟨x, List.mem_cons_of_mem _ hx, ex⟩
theorem ok_tup {ds : List PyData} (h : ∀ d ∈ ds, PyData.strOk d.shown = true) : PyData.strOk (PyData.shown (.tuple ds)) = true := by
  show PyData.strOk (tupleText (PyData.shownAll ds)) = true
  unfold tupleText
  refine ok_app (ok_app (ok_str "(") (ok_join fun t ht => ?_)) ?_
  · obtain ⟨d, hd, rfl⟩ := shownAll_mem ht
    exact h d hd
  · split
    · exact ok_str ",)"
    · exact ok_str ")"
theorem ok_lst {ds : List PyData} (h : ∀ d ∈ ds, PyData.strOk d.shown = true) : PyData.strOk (PyData.shown (.list ds)) = true := by
  show PyData.strOk (listText (PyData.shownAll ds)) = true
  unfold listText
  refine ok_app (ok_from 0 (ok_str "[") fun t ht => ?_) (ok_str "]")
  obtain ⟨d, hd, rfl⟩ := shownAll_mem ht
  exact h d hd
theorem lst_len {b : Nat} {ds : List PyData} (h : ∀ d ∈ ds, d.shown.length ≤ b) : (PyData.shown (.list ds)).length ≤ (b + 2) * ds.length + 2 := by
  have hp := piled_le h
  have key : ∀ (ts : List Str) (k : Nat) (acc : Str), (textFrom k acc ts).length ≤ acc.length + piled ts := by
    intro ts
    induction ts with
    | nil => intro k acc; exact Nat.le_add_right _ _
    | cons t r ih =>
      intro k acc
      have e := ih (k + 1) (acc ++ (if k > 0 then ", " else "" : String) ++ t)
      have l2 : (((if k > 0 then ", " else "" : String) : Str)).length ≤ 2 := by split <;> decide +kernel
      rw [strLen_append, strLen_append] at e
      rw [piled_cons]
      show (textFrom (k + 1) (acc ++ (if k > 0 then ", " else "" : String) ++ t) r).length ≤ _
      omega
  show (textFrom 0 "[" (PyData.shownAll ds) ++ ("]" : String)).length ≤ _
  rw [strLen_append]
  have e := key (PyData.shownAll ds) 0 ("[" : String)
  have l1 : (("[" : String) : Str).length = 1 := rfl
  have l2 : (("]" : String) : Str).length = 1 := rfl
  omega
/-- a triple with numbers that can be shown -/
structure MidT (e : Tr) : Prop where
  slot : 0 ≤ e.1 ∧ e.1 ≤ 1000
  num : e.2.1.natAbs ≤ 10 ^ 60
  len : e.2.2.length ≤ 901
  ent : ∀ z ∈ e.2.2, z.natAbs ≤ 10 ^ 60
theorem trip_show {e : Tr} (h : MidT e) : PyData.showable (tripD e) = true ∧ PyData.hasDict (tripD e) = false ∧ (tripD e).shown.length ≤ 180200 := by
  have p := h.slot
  have z6 : 1000 ≤ 10 ^ 60 := by decide +kernel
  have n1 : e.1.natAbs ≤ 10 ^ 60 := by omega
  have k61 : 10 ^ 60 < 10 ^ 61 := by decide +kernel
  refine ⟨?_, ?_, ?_⟩
  · show (decide (e.1.natAbs.log2 < 1920) && (decide (e.2.1.natAbs.log2 < 1920) && (PyData.showableAll (e.2.2.map PyData.int) && true))) = true
    rw [decide_eq_true (log_small n1), decide_eq_true (log_small h.num), ints_can h.ent]
    rfl
  · show (false || (false || (PyData.hasDictAll (e.2.2.map PyData.int) || false))) = false
    rw [ints_nod]
    rfl
  · have hr := ints_len (k := 61) (by decide) h.len fun z hz => Nat.lt_of_le_of_lt (h.ent z hz) k61
    refine Nat.le_trans (tup_len (b := 60000) fun d hd => ?_) (by show 60002 * 3 + 2 ≤ _; decide)
    simp only [List.mem_cons, List.not_mem_nil, or_false] at hd
    rcases hd with rfl | rfl | rfl
    · exact Nat.le_trans (int_len (k := 61) (by decide) (Nat.lt_of_le_of_lt n1 k61)) (by decide)
    · exact Nat.le_trans (int_len (k := 61) (by decide) (Nat.lt_of_le_of_lt h.num k61)) (by decide)
    · exact Nat.le_trans hr (by decide)
theorem natsD_eq (q : List Nat) : natsD q = (q.map fun k : Nat => (k : Int)).map PyData.int := by
  unfold natsD
  rw [List.map_map]
  rfl
theorem small_abs {k : Nat} (h : k < 1000) : ((k : Int)).natAbs ≤ 10 ^ 60 := by
  have z6 : 1000 ≤ 10 ^ 60 := by decide +kernel
  omega
theorem natsD_can {q : List Nat} (h : ∀ k ∈ q, k < 1000) : PyData.showableAll (natsD q) = true := by
  rw [natsD_eq]
  refine ints_can fun z hz => ?_
  obtain ⟨k, hk, rfl⟩ := List.mem_map.mp hz
  exact small_abs (h k hk)
theorem natsD_len {q : List Nat} {c : Nat} (hl : q.length ≤ c) (h : ∀ k ∈ q, k < 1000) : (PyData.shown (.tuple (natsD q))).length ≤ 6 * c + 2 := by
  rw [natsD_eq]
  refine ints_len (k := 3) (by decide) (by rw [List.length_map]; exact hl) fun z hz => ?_
  obtain ⟨k, hk, rfl⟩ := List.mem_map.mp hz
  have := h k hk
  show ((k : Int)).natAbs < 1000
  omega
theorem rowsD_show {P : List (List Nat)} (hl : P.length ≤ 401) (h : ∀ q ∈ P, q.length ≤ 401 ∧ ∀ k ∈ q, k < 1000) : ShowD (.tuple (rowsD P)) := by
  have can : ∀ P : List (List Nat), (∀ q ∈ P, q.length ≤ 401 ∧ ∀ k ∈ q, k < 1000) → PyData.showableAll (rowsD P) = true := by
    intro P
    induction P with
    | nil => intro _; rfl
    | cons q r ih =>
      intro h
      show (PyData.showableAll (natsD q) && PyData.showableAll (rowsD r)) = true
      rw [natsD_can (h q List.mem_cons_self).2, ih fun x hx => h x (List.mem_cons_of_mem _ hx)]
      rfl
  have nod : ∀ P : List (List Nat), PyData.hasDictAll (rowsD P) = false := by
    intro P
    induction P with
    | nil => rfl
    | cons q r ih =>
      show (PyData.hasDictAll (natsD q) || PyData.hasDictAll (rowsD r)) = false
      rw [natsD_eq, ints_nod, ih]
      rfl
  refine ⟨can P h, nod P, ?_, ?_⟩
  · have := rows_deep P
    simp only [PyData.depth]
    omega
  · refine Nat.le_trans (tup_len (b := 2408) fun d hd => ?_) ?_
    · obtain ⟨q, hq, rfl⟩ := List.mem_map.mp hd
      exact Nat.le_trans (natsD_len (h q hq).1 (h q hq).2) (by decide)
    · unfold rowsD
      rw [List.length_map]
      exact Nat.le_trans (Nat.add_le_add_right (Nat.mul_le_mul_left _ hl) 2) (by decide)
theorem rowsD_ok (P : List (List Nat)) : PyData.strOk (PyData.shown (.tuple (rowsD P))) = true := ok_tup fun d hd => by
  obtain ⟨q, _, rfl⟩ := List.mem_map.mp hd
  exact ok_tup fun e he => by
    obtain ⟨k, _, rfl⟩ := List.mem_map.mp he
    exact ok_int _
def flagsL (P : List (List Nat)) (x : Nat) : PyData := .list ((List.range P.length).map fun p => PyData.bool (isA P x p))
theorem flagsL_show {P : List (List Nat)} (x : Nat) (hl : P.length ≤ 401) : ShowD (flagsL P x) := by
  have a : ∀ bs : List Bool, PyData.showableAll (bs.map PyData.bool) = true ∧ PyData.hasDictAll (bs.map PyData.bool) = false ∧ PyData.depthAll (bs.map PyData.bool) = 0 := by
    intro bs
    induction bs with
    | nil => exact ⟨rfl, rfl, rfl⟩
    | cons b r ih =>
      refine ⟨?_, ?_, ?_⟩
      · show (true && PyData.showableAll (r.map PyData.bool)) = true
        rw [ih.1]; rfl
      · show (false || PyData.hasDictAll (r.map PyData.bool)) = false
        rw [ih.2.1]; rfl
      · show max 0 (PyData.depthAll (r.map PyData.bool)) = 0
        rw [ih.2.2]; rfl
  have e : (List.range P.length).map (fun p => PyData.bool (isA P x p)) = ((List.range P.length).map fun p => isA P x p).map PyData.bool := by rw [List.map_map]; rfl
  have b := a ((List.range P.length).map fun p => isA P x p)
  rw [← e] at b
  refine ⟨b.1, b.2.1, ?_, ?_⟩
  · show PyData.depthAll _ + 1 ≤ 40
    rw [b.2.2]
    decide
  · refine Nat.le_trans (lst_len (b := 5) fun d hd => ?_) ?_
    · obtain ⟨p, _, rfl⟩ := List.mem_map.mp hd
      cases isA P x p <;> decide +kernel
    · rw [List.length_map, List.length_range]
      exact Nat.le_trans (Nat.add_le_add_right (Nat.mul_le_mul_left _ hl) 2) (by decide)
theorem flagsL_ok (P : List (List Nat)) (x : Nat) : PyData.strOk (PyData.shown (flagsL P x)) = true := ok_lst fun d hd => by
  obtain ⟨p, _, rfl⟩ := List.mem_map.mp hd
  exact ok_bool _
theorem tripD_ok (e : Tr) : PyData.strOk (PyData.shown (tripD e)) = true := ok_tup fun d hd => by
  simp only [List.mem_cons, List.not_mem_nil, or_false] at hd
  rcases hd with rfl | rfl | rfl
  · exact ok_int _
  · exact ok_int _
  · exact ok_tup fun x hx => by
      obtain ⟨k, _, rfl⟩ := List.mem_map.mp hx
      exact ok_int _
/-- the groups as they are told -/
def LotZ (L Z : List (List Nat)) : Prop := (∃ m, (∀ y ∈ mostB L, y ≤ m) ∧ m ∈ mostB L ∧ Z.length = m) ∧ ∀ (j : Nat) q, Z[j]? = some q → q.Perm (L.getD j []) ∧ q.Pairwise (· ≤ ·)
theorem LotZ.one {L Z Y : List (List Nat)} (h : LotZ L Z) (g : LotZ L Y) : Z = Y := by
  obtain ⟨⟨m, a1, a2, a3⟩, h2⟩ := h
  obtain ⟨⟨n, b1, b2, b3⟩, g2⟩ := g
  have mn : m = n := Nat.le_antisymm (b1 m a2) (a1 n b2)
  refine List.ext_getElem? fun j => ?_
  by_cases hj : j < Z.length
  · have e1 := List.getElem?_eq_getElem hj
    have e2 := List.getElem?_eq_getElem (show j < Y.length by omega)
    obtain ⟨p1, p2⟩ := h2 j _ e1
    obtain ⟨q1, q2⟩ := g2 j _ e2
    rw [e1, e2]
    exact congrArg some (List.Perm.eq_of_pairwise (le := (· ≤ ·)) (fun a b _ _ h1 h2 => Nat.le_antisymm h1 h2) p2 q2 (p1.trans q1.symm))
  · rw [List.getElem?_eq_none (by omega), List.getElem?_eq_none (by omega)]
theorem LotsAt.z {H : Hp} {a : Addr} {L : List (List Nat)} (h : LotsAt H a L) : ∃ Z, ParAt H a Z ∧ LotZ L Z := by
  obtain ⟨vs, h1, ⟨m, hm1, hm2, hm3⟩, h2⟩ := h
  obtain ⟨f, hf⟩ := Classical.axiomOfChoice (r := fun (j : Nat) (q : List Nat) => j < vs.length → ∃ b, vs[j]? = some (.ref b) ∧ H b = some (.tup (natsV q)) ∧ q.Perm (L.getD j []) ∧ q.Pairwise (· ≤ ·)) (fun j => by
    by_cases hj : j < vs.length
    · obtain ⟨v, hv⟩ : ∃ v, vs[j]? = some v := ⟨_, List.getElem?_eq_getElem hj⟩
      obtain ⟨b, q, e1, e2, e3⟩ := h2 j v hv
      exact ⟨q, fun _ => ⟨b, by rw [hv, e1], e2, e3⟩⟩
    · exact ⟨[], fun z => absurd z hj⟩)
  refine ⟨(List.range vs.length).map f, ⟨vs, h1, parL_of rfl fun j v e => ?_⟩, ⟨m, hm1, hm2, by rw [List.length_map, List.length_range, hm3]⟩, fun j q e => ?_⟩
  · have hj := (List.getElem?_eq_some_iff.mp e).1
    obtain ⟨b, e1, e2, _⟩ := hf j hj
    rw [e] at e1
    exact ⟨b, Option.some.inj e1, e2⟩
  · have hj := (List.getElem?_eq_some_iff.mp e).1
    rw [List.length_map, List.length_range] at hj
    rw [List.getElem?_map, List.getElem?_range hj] at e
    obtain ⟨b, e1, e2, e3, e4⟩ := hf j hj
    rw [← Option.some.inj e]
    exact ⟨e3, e4⟩
noncomputable def grpZ (L : List (List Nat)) : List (List Nat) := Classical.epsilon (LotZ L)
theorem LotsAt.grp {H : Hp} {a : Addr} {L : List (List Nat)} (h : LotsAt H a L) : ParAt H a (grpZ L) ∧ LotZ L (grpZ L) := by
  obtain ⟨Z, z1, z2⟩ := h.z
  have e : LotZ L (grpZ L) := Classical.epsilon_spec ⟨Z, z2⟩
  rw [z2.one e] at z1
  exact ⟨z1, e⟩
/-- the texts of a state, so many kinds told -/
noncomputable def stB (P : List (List Nat)) (i : Nat) : List Str := [PyData.shown (.int (P.length : Int)), PyData.shown (.tuple (rowsD P)), PyData.shown (.tuple (rowsD (grpZ (runS P P.length false))))] ++ (List.range i).flatMap fun x => [PyData.shown (tripD (tripB P x)), PyData.shown (flagsL P x)]
noncomputable def stateB (P : List (List Nat)) : List Str := stB P P.length
theorem stB_snoc (P : List (List Nat)) (i : Nat) : stB P (i + 1) = (stB P i ++ [PyData.shown (tripD (tripB P i))]) ++ [PyData.shown (flagsL P i)] := by
  unfold stB
  rw [List.range_succ, List.flatMap_append, List.append_assoc, List.append_assoc]
  rfl
theorem stB_len (P : List (List Nat)) (i : Nat) : (stB P i).length = 3 + 2 * i := by
  induction i with
  | zero => rfl
  | succ i ih =>
    rw [stB_snoc, List.length_append, List.length_append, ih]
    show 3 + 2 * i + 1 + 1 = _
    omega
theorem state_ok {P : List (List Nat)} : ∀ t ∈ stateB P, PyData.strOk t = true := fun t ht => by
  rcases List.mem_append.mp ht with ht | ht
  · simp only [List.mem_cons, List.not_mem_nil, or_false] at ht
    rcases ht with rfl | rfl | rfl
    · exact ok_int _
    · exact rowsD_ok P
    · exact rowsD_ok _
  · obtain ⟨x, _, hx⟩ := List.mem_flatMap.mp ht
    simp only [List.mem_cons, List.not_mem_nil, or_false] at hx
    rcases hx with rfl | rfl
    · exact tripD_ok _
    · exact flagsL_ok P x
theorem show_int {n : Nat} (h : n < 1000) : ShowD (.int (n : Int)) := by
  refine ⟨decide_eq_true (log_small (small_abs h)), rfl, Nat.zero_le _, Nat.le_trans (int_len (k := 3) (by decide) ?_) (by decide)⟩
  omega
theorem okP_rows {P : List (List Nat)} (ok : OkP P) : ∀ q ∈ P, q.length ≤ 401 ∧ ∀ k ∈ q, k < 1000 := fun q hq => by
  obtain ⟨j, hj⟩ := List.mem_iff_getElem?.mp hq
  have jl := (List.getElem?_eq_some_iff.mp hj).1
  have o := ok.ok j q hj
  have := ok.few
  exact ⟨Nat.le_trans o.few (by decide), fun k hk => by have := o.lt k hk; omega⟩
theorem grp_show {P : List (List Nat)} (ok : OkP P) (lz : LotZ (runS P P.length false) (grpZ (runS P P.length false))) : ShowD (.tuple (rowsD (grpZ (runS P P.length false)))) := by
  have few := ok.few
  have o := run_ok P P.length
  obtain ⟨⟨m, a1, a2, a3⟩, h2⟩ := lz
  have ml : m ≤ (runS P P.length false).length := by
    rcases List.mem_cons.mp a2 with e | e
    · omega
    · obtain ⟨i, hi, rfl⟩ := List.mem_map.mp e
      have := List.mem_range.mp (List.mem_filter.mp hi).1
      omega
  have wl := o.wl
  have wd := o.wd
  refine rowsD_show (by omega) fun q hq => ?_
  obtain ⟨j, hj⟩ := List.mem_iff_getElem?.mp hq
  have jl := (List.getElem?_eq_some_iff.mp hj).1
  have pq := (h2 j q hj).1
  have jl2 : j < (runS P P.length false).length := by omega
  have e1 := List.getElem?_eq_getElem jl2
  have ed : (runS P P.length false).getD j [] = (runS P P.length false)[j] := by rw [List.getD_eq_getElem?_getD, e1]; rfl
  rw [ed] at pq
  refine ⟨?_, fun k hk => ?_⟩
  · rw [pq.length_eq]
    have := o.few j _ e1
    omega
  · have := o.slots _ (List.getElem_mem jl2) k (pq.mem_iff.mp hk)
    omega
theorem trip_mid {P : List (List Nat)} (ok : OkP P) {x : Nat} (hx : x < P.length) : MidT (tripB P x) := by
  have few := ok.few
  have o := run_ok P (x + 1)
  have wd := o.wd
  have z6 : 1000 ≤ 10 ^ 60 := by decide +kernel
  have sl := (putD_len (P := P) (x := x) (run_ok P x)).2
  have sl : putSlot P (runS P x false) (runS P x true) x < (runS P (x + 1) true).length := sl
  refine ⟨⟨Int.natCast_nonneg _, ?_⟩, ?_, ?_, fun z hz => ?_⟩
  · show ((putSlot P (runS P x false) (runS P x true) x : Nat) : Int) ≤ 1000
    omega
  · have r := o.rows _ (List.getElem_mem sl)
    show (((((runS P (x + 1) true).getD (putSlot P (runS P x false) (runS P x true) x) []).length : Nat) : Int)).natAbs ≤ 10 ^ 60
    rw [getD_some (List.getElem?_eq_getElem sl)]
    omega
  · show ((entB P (runS P (x + 1) true) x).map fun z : Nat => (z : Int)).length ≤ 901
    unfold entB
    rw [List.length_map, List.length_map]
    omega
  · have hz : z ∈ (entB P (runS P (x + 1) true) x).map fun z : Nat => (z : Int) := hz
    obtain ⟨y, hy, rfl⟩ := List.mem_map.mp hz
    unfold entB at hy
    obtain ⟨row, hrow, rfl⟩ := List.mem_map.mp hy
    have r := o.rows row hrow
    have f := List.length_filter_le (fun k => isA P x k) row
    show (((row.filter fun k => isA P x k).length : Nat) : Int).natAbs ≤ 10 ^ 60
    omega
theorem trip_showD {P : List (List Nat)} (ok : OkP P) {x : Nat} (hx : x < P.length) : ShowD (tripD (tripB P x)) := by
  obtain ⟨t1, t2, t3⟩ := trip_show (trip_mid ok hx)
  refine ⟨t1, t2, ?_, Nat.le_trans t3 (by decide)⟩
  have h := deep_ints (tripB P x).2.2
  unfold tripD
  simp only [PyData.depth, PyData.depthAll]
  omega
theorem dp_trip {K : PySem.W.Frag} {H : Hp} {v : V} {e : Tr} (h : Trip H v e) : Dp K H v (tripD e) := by
  obtain ⟨p, q, rfl, e2, e3⟩ := h
  exact .tup (SqT.of e2) (.cons (.int _) (.cons (.int _) (.cons (.tup (SqT.of e3) (dp_ints _)) .nil)))
/-! ### list(range(i, j, c)) -/
section
open PySem PySem.Spec PyProof.Rows
def PRg3 (X : Cx) (e : Expr) (t : L2.St → Hp → (Int → Int → Int → Hp → Prop) → Prop) : Prop :=
  ∀ (pins : List (Addr × Obj)) (s : Shared) (σ : L2.St) (H : Hp) (Q : Int → Int → Int → Hp → Prop), Inv X pins σ H s → t σ H Q →
    wpAny (model X.prog X.w) X.A (eval e X.env) (fun x s' => ∃ r a b c t u v H', x = .ref r ∧ IsRange s'.heap r a b c t u v ∧ c ≠ 0 ∧ Inv X pins σ H' s' ∧ Q a b c H') X.xe s
def tRg3 (ta : TA) : L2.St → Hp → (Int → Int → Int → Hp → Prop) → Prop := fun σ H Q => ta σ H fun vs H1 => ∃ i j c, vs = [.int i, .int j, .int c] ∧ c ≠ 0 ∧ c.natAbs < 1073741824 ∧ Q i j c H1
variable {X : Cx} {e : Expr}
theorem prg_3 {a b c : Expr} {ta : TA} {p pos : Pos} (hg : Gl X "range") (hm : X.mg "range" = none) (ha : PA X [a, b, c] ta)
    (hs : starEach [a, b, c] X.env = (false, eval a X.env) :: starEach [b, c] X.env := by rfl) (hpl : (backTo pos (starEach [b, c] X.env)).any (·.1) = false := by rfl) : PRg3 X (.Call (.Name "range" p) [a, b, c] [] pos) (tRg3 ta) := by
  intro pins s σ H Q I h
  refine Call_ (ld_blt I hg hm boot_range (PyProof.Rows.callWith_type1 (thn (ha.run pos pins s σ H _ I h) fun us s1 ⟨vs, H1, I1, r1, q1⟩ => ?_) hs hpl))
  obtain ⟨i, j, k, e, c0, c1, q⟩ := q1
  subst e
  cases r1 with
  | cons r rr =>
    cases rr with
    | cons r' rr =>
      cases rr with
      | cons r'' rr =>
        cases rr
        obtain ⟨t, rfl⟩ := r
        obtain ⟨t', rfl⟩ := r'
        obtain ⟨t'', rfl⟩ := r''
        exact call_range_3 c0 ⟨_, i, j, k, _, _, _, H1, rfl, IsRange.new _ _ _ _ _ _ _, c0, I1.kept fun b u e => Heap.get?_push_of_some _ e, q⟩ (.inl (PyProof.noPylong_small c1))
/-- i, i + c, .., n of them -/
def rgC (i c : Int) (n : Nat) : List V := (List.range n).map fun k => V.int (i + (k : Nat) * c)
theorem vals_rgC {i c : Int} {n : Nat} {acc : Array Value} (h : ItemsOf (fun k v => ∃ t, v = .int (i + k * c) t) acc n) : Vals (rgC i c n) acc.toList := by
  have e : acc.toList.length = n := by rw [Array.length_toList]; exact h.1
  unfold rgC
  rw [← e]
  refine vals_of_get acc.toList _ fun j u hj => ?_
  exact h.2 j u (by rw [← hj, Array.getElem?_toList])
def tLstRg3 (te : L2.St → Hp → (Int → Int → Int → Hp → Prop) → Prop) : TE := fun σ H Q => te σ H fun i j c H1 => ∃ n : Nat, RgC i j c n ∧ n ≤ 2 ^ 24 ∧ ∀ q, H1 q = none → Q (.ref q) (upd H1 q (.lst (rgC i c n)))
theorem pe_listRg3 {p pos : Pos} {te : L2.St → Hp → (Int → Int → Int → Hp → Prop) → Prop} (hc : X.calm = true) (hg : Gl X "list") (hm : X.mg "list" = none) (he : PRg3 X e te) (na : starEach [e] X.env = (false, eval e X.env) :: starEach [] X.env := by rfl) : PE X (.Call (.Name "list" p) [e] [] pos) (tLstRg3 te) := by
  refine ⟨fun pins s σ H Q I h => ?_⟩
  refine Call_ (ld_blt I hg hm boot_list (PyProof.Rows.callWith_type1 (args_cons (thn (he pins s σ H _ I h) fun x s1 ⟨r, a, b, c, t, u, v, H1, ex, hr, c0, I1, q⟩ => args_nil ?_) na) na))
  subst ex
  obtain ⟨n, ⟨_, _, b3, b4⟩, b5, q⟩ := q
  refine call_list_range (n := n) (I1.ok.hd hc) hr b3 b4 b5 fun h' tk acc c' hk e' hi => ?_
  refine ⟨.ref s1.heap.objs.size, upd H1 s1.heap.objs.size (.lst (rgC a c n)), I1.laid hk (Nat.le_refl _) (show ObjOk X.prog X.w _ _ _ (.lst (rgC a c n)) from ⟨?_, acc.toList, c', vals_rgC hi, ?_⟩), rfl, q _ (I1.hok.fresh (Nat.le_refl _))⟩
  · unfold rgC
    rw [List.length_map, List.length_range, sizeLine_eq]; omega
  · rw [Array.toArray_toList]; exact e'
/-- steps upwards -/
theorem RgC.up {i m c : Nat} (c0 : 0 < c) (hc : c < 1000) (hi : i < 1000) (hm : m < 1000) (h : i < m) : RgC (i : Int) (m : Int) (c : Int) ((m - i - 1) / c + 1) := by
  have e : Builtin.Range.rangeSize (i : Int) (m : Int) (c : Int) = (((m - i - 1) / c + 1 : Nat) : Int) := by
    unfold Builtin.Range.rangeSize
    rw [if_pos (by omega), if_pos (by omega)]
    have : ((m : Int) - (i : Int) - 1) = ((m - i - 1 : Nat) : Int) := by omega
    rw [this, ← Int.natCast_ediv]
    rfl
  have hq : (m - i - 1) / c ≤ m - i - 1 := Nat.div_le_self _ _
  refine ⟨by omega, by omega, ?_, e⟩
  unfold Builtin.Range.small
  rw [e]
  simp only [Builtin.Range.rangeFitsLong, Bool.and_eq_true, Bool.or_eq_true, decide_eq_true_eq, beq_iff_eq]
  rw [if_pos (by omega)]
  simp only [Bool.and_eq_true, decide_eq_true_eq]
  generalize (m - i - 1) / c = q at *
  omega
end
open Classical in
/-- a change at places that are no cells -/
theorem G.chg {B H H' : Hp} {R : Bool → Addr} {S : Bool → List (List Nat)} (g : G B H R S) (Z : Addr → Prop) (hz : ∀ a, Z a → B a ≠ none) (kp : ∀ a o, ¬ Z a → H a = some o → H' a = some o) : ∃ B', G B' H' R S ∧ (∀ a, B a ≠ none → B' a = H' a) ∧ (∀ a, (∀ xs, H a ≠ some (.lst xs)) → B' a = H' a) := by
  obtain ⟨F, f⟩ := g.ex
  have nR : ∀ b, ¬ Z (R b) := fun b z => hz _ z (f.newR b)
  have nF : ∀ b (j : Nat), j < (S b).length → ¬ Z (F b j) := fun b j h z => hz _ z (f.newF b j h)
  refine ⟨fun a => if (∃ b, a = R b) ∨ ∃ b j, j < (S b).length ∧ a = F b j then none else H' a, ⟨fun a o e => ?_, F, fun b => kp _ _ (nR b) (f.lists b), fun b j q e => kp _ _ (nF b j (List.getElem?_eq_some_iff.mp e).1) (f.rows b j q e), f.inj, f.apart, f.two, fun b => if_pos (.inl ⟨b, rfl⟩), fun b j h => if_pos (.inr ⟨b, j, h, rfl⟩)⟩, fun a e => if_neg ?_, fun a e => if_neg ?_⟩
  · split at e
    · cases e
    · exact e
  · rintro (⟨b, rfl⟩ | ⟨b, j, h, rfl⟩)
    · exact e (f.newR b)
    · exact e (f.newF b j h)
  · rintro (⟨b, rfl⟩ | ⟨b, j, h, rfl⟩)
    · exact e _ (f.lists b)
    · obtain ⟨q, _, z⟩ := f.row h
      exact e _ z
/-- own lists: what stands where -/
def upO (O : Addr → Option (List V)) (a : Addr) (xs : List V) : Addr → Option (List V) := fun b => if b = a then some xs else O b
theorem upO_same {O : Addr → Option (List V)} {a : Addr} {xs : List V} : upO O a xs a = some xs := if_pos rfl
theorem upO_ne {O : Addr → Option (List V)} {a b : Addr} {xs : List V} (n : b ≠ a) : upO O a xs b = O b := if_neg n
/-- the flow, a runtime, own lists, own groups: each apart from the others -/
structure K7 (φ : Fw) (C CR : Addr) (H : Hp) (ρ : Rk) (P : List (List Nat)) (O : Addr → Option (List V)) (R : Bool → Addr) (S : Bool → List (List Nat)) : Prop where
  flow : Flow φ H
  run : RunAt C CR H ρ P
  ob : ∀ k ∈ ρ.ks, Off φ k.b.lb ∧ O k.b.lb = none
  own : ∀ a xs, O a = some xs → H a = some (.lst xs) ∧ Off φ a
  grp : ∃ B, G B H R S ∧ B φ.l ≠ none ∧ B φ.t ≠ none ∧ (∀ k ∈ ρ.ks, B k.b.lb ≠ none) ∧ ∀ a, O a ≠ none → B a ≠ none
section
variable {φ : Fw} {C CR : Addr} {H H' B : Hp} {ρ ρ' : Rk} {P P' : List (List Nat)} {O : Addr → Option (List V)} {R : Bool → Addr} {S S' : Bool → List (List Nat)} {a : Addr} {xs xs0 : List V} {k' : Sk}
theorem Flow.ln (h : Flow φ H) : H φ.l ≠ none := by
  obtain ⟨_, ⟨ns, h1, _⟩, _⟩ := h
  rw [h1]
  exact fun z => by cases z
theorem Flow.tn (h : Flow φ H) : H φ.t ≠ none := by
  obtain ⟨_, _, a, b, c, h2, _⟩ := h
  rw [h2]
  exact fun z => by cases z
theorem K7.fv (h : K7 φ C CR H ρ P O R S) (m : Fv φ H H') : K7 φ C CR H' ρ P O R S := by
  obtain ⟨B, g, b1, b2, b3, b4⟩ := h.grp
  obtain ⟨B', g', c1, c2⟩ := g.chg (fun a => a = φ.l ∨ a = φ.t) (fun a z => by rcases z with rfl | rfl; exact b1; exact b2) (H' := H') (fun a o n e => m.keep a o ⟨fun z => n (.inr z), fun z => n (.inl z)⟩ e)
  have ne : ∀ a, B a ≠ none → B' a ≠ none := fun a hb => by
    rw [c1 a hb]
    by_cases z : a = φ.l ∨ a = φ.t
    · rcases z with rfl | rfl
      · exact m.now.ln
      · exact m.now.tn
    · cases e : B a with
      | none => exact absurd e hb
      | some o =>
        rw [m.keep a o ⟨fun y => z (.inr y), fun y => z (.inl y)⟩ (g.same _ _ e)]
        exact fun y => by cases y
  exact ⟨m.now, h.run.fv m (fun k hk => (h.ob k hk).1), h.ob, fun a xs e => ⟨m.keep _ _ (h.own a xs e).2 (h.own a xs e).1, (h.own a xs e).2⟩, B', g', ne _ b1, ne _ b2, fun k hk => ne _ (b3 k hk), fun a e => ne _ (b4 a e)⟩
theorem K7.same (h : K7 φ C CR H ρ P O R S) (s : Same H H') : K7 φ C CR H' ρ P O R S := h.fv (h.flow.fv.same s)
theorem K7.set (h : K7 φ C CR H ρ P O R S) (e : O a = some xs0) (xs : List V) : K7 φ C CR (upd H a (.lst xs)) ρ P (upO O a xs) R S := by
  obtain ⟨B, g, b1, b2, b3, b4⟩ := h.grp
  obtain ⟨ha, oa⟩ := h.own a _ e
  obtain ⟨u, hu⟩ : ∃ u, B a = some u := by
    cases z : B a with
    | none => exact absurd z (b4 a (by rw [e]; exact fun y => by cases y))
    | some u => exact ⟨u, rfl⟩
  have nk : ∀ k ∈ ρ.ks, k.b.lb ≠ a := fun k hk z => by
    have := (h.ob k hk).2
    rw [z, e] at this
    cases this
  have ne : ∀ b, B b ≠ none → upd B a (.lst xs) b ≠ none := fun b hb => by
    by_cases z : b = a
    · rw [z, upd_same]; exact fun y => by cases y
    · rw [upd_ne z]; exact hb
  refine ⟨h.flow.mut oa, h.run.list ha nk, fun k hk => ⟨(h.ob k hk).1, (upO_ne (nk k hk)).trans (h.ob k hk).2⟩, fun b ys hb => ?_, _, g.mutb (o := .lst xs) hu, ne _ b1, ne _ b2, fun k hk => ne _ (b3 k hk), fun b hb => ?_⟩
  · by_cases z : b = a
    · rw [z, upO_same] at hb
      rw [z, upd_same, Option.some.inj hb]
      exact ⟨rfl, oa⟩
    · rw [upO_ne z] at hb
      rw [upd_ne z]
      exact h.own b ys hb
  · by_cases z : b = a
    · rw [z, upd_same]; exact fun y => by cases y
    · rw [upO_ne z] at hb
      exact ne _ (b4 b hb)
theorem K7.add (h : K7 φ C CR H ρ P O R S) (s : Same H H') (n : H a = none) (ha : H' a = some (.lst xs)) : K7 φ C CR H' ρ P (upO O a xs) R S := by
  obtain ⟨B, g, b1, b2, b3, b4⟩ := h.grp
  obtain ⟨B', g', c1, c2⟩ := g.chg (fun _ => False) (fun a z => z.elim) (H' := H') (fun a o _ e => s a o e)
  have h2 := h.same s
  have ne : ∀ a, B a ≠ none → B' a ≠ none := fun a hb => by
    rw [c1 a hb]
    cases e : B a with
    | none => exact absurd e hb
    | some o =>
      rw [s _ _ (g.same _ _ e)]
      exact fun y => by cases y
  have nk : ∀ k ∈ ρ.ks, k.b.lb ≠ a := fun k hk z => by
    obtain ⟨i, hi⟩ := List.mem_iff_getElem?.mp hk
    have := (h.run.each i k hi).book.bits
    rw [z, n] at this
    cases this
  refine ⟨h2.flow, h2.run, fun k hk => ⟨(h.ob k hk).1, (upO_ne (nk k hk)).trans (h.ob k hk).2⟩, fun b ys hb => ?_, B', g', ne _ b1, ne _ b2, fun k hk => ne _ (b3 k hk), fun b hb => ?_⟩
  · by_cases z : b = a
    · rw [z, upO_same] at hb
      rw [z, ha, Option.some.inj hb]
      exact ⟨rfl, h.flow.off n⟩
    · rw [upO_ne z] at hb
      exact h2.own b ys hb
  · by_cases z : b = a
    · rw [z, c2 a (fun xs y => by rw [n] at y; cases y), ha]
      exact fun y => by cases y
    · rw [upO_ne z] at hb
      exact ne _ (b4 b hb)
/-- what the groups leave alone -/
def Kn (φ : Fw) (H : Hp) (ρ : Rk) (O : Addr → Option (List V)) (a : Addr) : Prop := a = φ.l ∨ a = φ.t ∨ (∃ k ∈ ρ.ks, a = k.b.lb) ∨ O a ≠ none ∨ ∀ xs, H a ≠ some (.lst xs)
theorem K7.max (h : K7 φ C CR H ρ P O R S) : ∃ B, G B H R S ∧ ∀ a, Kn φ H ρ O a → B a = H a := by
  obtain ⟨B, g, b1, b2, b3, b4⟩ := h.grp
  obtain ⟨B', g', c1, c2⟩ := g.chg (fun _ => False) (fun a z => z.elim) (H' := H) (fun a o _ e => e)
  refine ⟨B', g', fun a ha => ?_⟩
  rcases ha with rfl | rfl | ⟨k, hk, rfl⟩ | ha | ha
  · exact c1 _ b1
  · exact c1 _ b2
  · exact c1 _ (b3 k hk)
  · exact c1 _ (b4 a ha)
  · exact c2 _ ha
theorem K7.put (h : K7 φ C CR H ρ P O R S) (hB : ∀ a, Kn φ H ρ O a → B a = H a) (g : G B H' R S') : K7 φ C CR H' ρ P O R S' := by
  have kp : ∀ a o, Kn φ H ρ O a → H a = some o → H' a = some o := fun a o z e => g.same _ _ ((hB a z).trans e)
  have nl : ∀ {a o}, H a = some o → (∀ xs, o ≠ .lst xs) → Kn φ H ρ O a := fun e n => .inr (.inr (.inr (.inr fun xs z => n xs (by rw [e] at z; exact Option.some.inj z))))
  have tk : TK H H' := fun a xs e => kp a _ (nl e fun ys z => by cases z) e
  have kl : ∀ k ∈ ρ.ks, Kn φ H ρ O k.b.lb := fun k hk => .inr (.inr (.inl ⟨k, hk, rfl⟩))
  have own2 : ∀ a xs, O a = some xs → H' a = some (.lst xs) ∧ Off φ a := fun a xs e => ⟨kp a _ (.inr (.inr (.inr (.inl (by rw [e]; exact fun y => by cases y))))) (h.own a xs e).1, (h.own a xs e).2⟩
  obtain ⟨f0, ⟨ns, f1, f2⟩, x, y, z, f3, f4⟩ := id h.flow
  refine ⟨⟨f0, ⟨ns, kp _ _ (.inl rfl) f1, f2⟩, x, y, z, kp _ _ (.inr (.inl rfl)) f3, f4⟩, h.run.keep tk (fun o e => kp _ o (nl h.run.ins fun ys z => by cases z) e) (fun k hk => ?_), h.ob, own2, B, g, ?_, ?_, fun k hk => ?_, fun a e => ?_⟩
  · obtain ⟨i, hi⟩ := List.mem_iff_getElem?.mp hk
    exact ⟨fun o e => kp _ o (nl (h.run.each i k hi).book.ins fun ys z => by cases z) e, fun o e => kp _ o (kl k hk) e⟩
  · rw [hB _ (.inl rfl)]; exact h.flow.ln
  · rw [hB _ (.inr (.inl rfl))]; exact h.flow.tn
  · obtain ⟨i, hi⟩ := List.mem_iff_getElem?.mp hk
    rw [hB _ (kl k hk), (h.run.each i k hi).book.bits]
    exact fun y => by cases y
  · rw [hB a (.inr (.inr (.inr (.inl e))))]
    cases c : O a with
    | none => exact absurd c e
    | some xs => rw [(h.own a xs c).1]; exact fun y => by cases y
theorem K7.load (h : K7 φ C CR H ρ P O R S) (bt : But ρ.r H H') (er : ρ'.r = ρ.r) (ek : ρ'.ks = ρ.ks ++ [k']) (run : RunAt C CR H' ρ' P') (hn : StepNw H k') : K7 φ C CR H' ρ' P' O R S := by
  obtain ⟨B, g, hB⟩ := h.max
  have kr : Kn φ H ρ O ρ.r := .inr (.inr (.inr (.inr fun xs z => by rw [h.run.ins] at z; cases z)))
  obtain ⟨B', g', c1, c2⟩ := g.chg (fun a => a = ρ.r) (fun a z => by rw [z, hB _ kr, h.run.ins]; exact fun y => by cases y) (H' := H') (fun a o n e => bt a o n e)
  have or : Off φ ρ.r := h.flow.offI h.run.ins
  have fl : Flow φ H' := h.flow.but or bt
  have kl : ∀ k ∈ ρ.ks, Kn φ H ρ O k.b.lb := fun k hk => .inr (.inr (.inl ⟨k, hk, rfl⟩))
  have nO : ∀ a xs, O a = some xs → a ≠ ρ.r := fun a xs e z => by
    have := (h.own a xs e).1
    rw [z, h.run.ins] at this
    cases this
  have bits' : ∀ k ∈ ρ'.ks, H' k.b.lb ≠ none := fun k hk => by
    obtain ⟨i, hi⟩ := List.mem_iff_getElem?.mp hk
    rw [(run.each i k hi).book.bits]
    exact fun y => by cases y
  refine ⟨fl, run, fun k hk => ?_, fun a xs e => ⟨bt _ _ (nO a xs e) (h.own a xs e).1, (h.own a xs e).2⟩, B', g', ?_, ?_, fun k hk => ?_, fun a e => ?_⟩
  · rw [ek] at hk
    rcases List.mem_append.mp hk with hk | hk
    · exact h.ob k hk
    · rw [List.mem_singleton.mp hk]
      refine ⟨h.flow.off hn.lb, ?_⟩
      cases c : O k'.b.lb with
      | none => rfl
      | some xs =>
        have := (h.own _ _ c).1
        rw [hn.lb] at this
        cases this
  · rw [c1 _ (by rw [hB _ (.inl rfl)]; exact h.flow.ln)]; exact fl.ln
  · rw [c1 _ (by rw [hB _ (.inr (.inl rfl))]; exact h.flow.tn)]; exact fl.tn
  · have b' := bits' k hk
    rw [ek] at hk
    rcases List.mem_append.mp hk with hk | hk
    · obtain ⟨i, hi⟩ := List.mem_iff_getElem?.mp hk
      rw [c1 _ (by rw [hB _ (kl k hk), (h.run.each i k hi).book.bits]; exact fun y => by cases y)]
      exact b'
    · rw [List.mem_singleton.mp hk] at b' ⊢
      rw [c2 _ (fun xs y => by rw [hn.lb] at y; cases y)]
      exact b'
  · cases c : O a with
    | none => exact absurd c e
    | some xs =>
      obtain ⟨z1, z2⟩ := h.own a xs c
      rw [c1 _ (by rw [hB a (.inr (.inr (.inr (.inl e)))), z1]; exact fun y => by cases y), bt _ _ (nO a xs c) z1]
      exact fun y => by cases y
theorem K7.drop {O' : Addr → Option (List V)} (h : K7 φ C CR H ρ P O R S) (e : ∀ a xs, O' a = some xs → O a = some xs) : K7 φ C CR H ρ P O' R S := by
  obtain ⟨B, g, b1, b2, b3, b4⟩ := h.grp
  refine ⟨h.flow, h.run, fun k hk => ⟨(h.ob k hk).1, ?_⟩, fun a xs z => h.own a xs (e a xs z), B, g, b1, b2, b3, fun a z => ?_⟩
  · cases c : O' k.b.lb with
    | none => rfl
    | some xs =>
      have := e _ _ c
      rw [(h.ob k hk).2] at this
      cases this
  · cases c : O' a with
    | none => exact absurd c z
    | some xs => exact b4 a (by rw [e a xs c]; exact fun y => by cases y)
end
/-! ### chains beside one another -/
@[irreducible] def chP (s n : Nat) : List (List Nat) := (List.range n).map fun x => if x < s then [] else [x - s]
theorem chP_nil (s : Nat) : chP s 0 = [] := by unfold chP; rfl
theorem chP_len (s n : Nat) : (chP s n).length = n := by
  unfold chP
  rw [List.length_map, List.length_range]
theorem chP_snoc (s n : Nat) : chP s (n + 1) = chP s n ++ [if n < s then [] else [n - s]] := by
  unfold chP
  rw [List.range_succ, List.map_append]
  rfl
theorem chP_at {s n x : Nat} (h : x < n) : (chP s n)[x]? = some (if x < s then [] else [x - s]) := by
  unfold chP
  rw [List.getElem?_map, List.getElem?_range h]
  rfl
theorem ch_okL {s : Nat} (s0 : 0 < s) (n : Nat) : OkL (if n < s then [] else [n - s]) n := by
  split
  · exact ⟨List.Pairwise.nil, (fun x h => by cases h), by decide⟩
  · refine ⟨List.pairwise_cons.mpr ⟨(fun x h => by cases h), List.Pairwise.nil⟩, fun x h => ?_, by show 1 ≤ 6; decide⟩
    rw [List.mem_singleton.mp h]
    omega
theorem chP_ok {s : Nat} (s0 : 0 < s) : ∀ n, n ≤ 400 → OkP (chP s n)
  | 0, _ => by rw [chP_nil]; exact OkP.nil
  | n + 1, h => by
    rw [chP_snoc]
    have := (chP_ok s0 n (by omega)).snoc (q := if n < s then [] else [n - s]) (by rw [chP_len]; exact ch_okL s0 n) (by rw [chP_len]; omega)
    exact this
theorem isA_ch {s n : Nat} (s0 : 0 < s) (hn : n ≤ 400) (k : Nat) : ∀ x, x < n → isA (chP s n) x k = decide (k ≤ x ∧ k % s = x % s) := by
  intro x
  induction x using Nat.strongRecOn with
  | ind x ih =>
    intro hx
    rw [isA_rec (chP_ok s0 n hn).rt (chP_at hx) k]
    by_cases z : x < s
    · rw [if_pos z]
      show (decide (x = k) || false) = _
      rw [Bool.or_false]
      refine decide_eq_decide.mpr ⟨fun e => by rw [e]; exact ⟨Nat.le_refl _, rfl⟩, fun h => ?_⟩
      have h2 := h.2
      rw [Nat.mod_eq_of_lt (show k < s by omega), Nat.mod_eq_of_lt z] at h2
      exact h2.symm
    · rw [if_neg z]
      show (decide (x = k) || (isA (chP s n) (x - s) k || false)) = _
      rw [Bool.or_false, ih (x - s) (by omega) (by omega), ← Nat.mod_eq_sub_mod (show x ≥ s by omega), ← Bool.decide_or]
      refine decide_eq_decide.mpr ⟨fun h => ?_, fun h => ?_⟩
      · rcases h with h | h
        · rw [h]; exact ⟨Nat.le_refl _, rfl⟩
        · exact ⟨by omega, h.2⟩
      · by_cases y : k ≤ x - s
        · exact .inr ⟨y, h.2⟩
        · refine .inl ?_
          have e := Nat.sub_mod_eq_zero_of_mod_eq (m := x) (n := k) (k := s) h.2.symm
          rw [Nat.mod_eq_of_lt (show x - k < s by omega)] at e
          omega
/-- all in one chain -/
def Cng (s : Nat) (row : List Nat) : Prop := ∀ y ∈ row, ∀ z ∈ row, y % s = z % s
theorem last_mem {q : List Nat} (h : q ≠ []) : q.getLastD 0 ∈ q := by
  rw [List.getLastD_eq_getLast?, List.getLast?_eq_some_getLast h]
  exact List.getLast_mem h
theorem ch_rows {s n : Nat} (s0 : 0 < s) (hn : n ≤ 400) : ∀ x, x ≤ n → ∀ row ∈ runS (chP s n) x true, Cng s row
  | 0, _, row, h => by cases h
  | x + 1, hx, row, h => by
    have ih := ch_rows s0 hn x (by omega)
    have o := run_ok (chP s n) x
    have h : row ∈ putD (chP s n) (runS (chP s n) x false) (runS (chP s n) x true) x := h
    rcases put_fit o (List.getElem?_eq_getElem (putL1_len (chP s n) (runS (chP s n) x false) (runS (chP s n) x true) x)) with ⟨e, hs, hf⟩ | ⟨t, e, hs, hsd, hf⟩
    · rw [putD_new e hs] at h
      rcases List.mem_or_eq_of_mem_set h with h | h
      · rcases List.mem_append.mp h with h | h
        · exact ih row h
        · rw [List.mem_singleton.mp h]
          intro y hy
          cases hy
      · rw [h]
        intro y hy z hz
        rw [List.mem_singleton.mp hy, List.mem_singleton.mp hz]
    · rw [putD_old e hs hsd] at h
      rcases List.mem_or_eq_of_mem_set h with h | h
      · exact ih row h
      · have m1 := List.getElem_mem hsd
        have c1 := ih _ m1
        have fl := o.full _ m1
        have ml := (List.mem_filter.mp (min_mem hf)).2
        have el : lastD (runS (chP s n) x true) t = ((runS (chP s n) x true)[t]).getLastD 0 := by
          unfold lastD
          rw [getD_some (List.getElem?_eq_getElem hsd)]
        rw [el, isA_ch s0 hn _ x (by omega)] at ml
        have ml := (of_decide_eq_true ml).2
        have lm := last_mem fl
        have key : ∀ y ∈ (runS (chP s n) x true)[t], y % s = x % s := fun y hy => (c1 y hy _ lm).trans ml
        rw [h]
        intro y hy z hz
        have k2 : ∀ y ∈ (runS (chP s n) x true)[t] ++ [x], y % s = x % s := fun y hy => by
          rcases List.mem_append.mp hy with hy | hy
          · exact key y hy
          · rw [List.mem_singleton.mp hy]
        rw [k2 y hy, k2 z hz]
theorem mod_zero {s : Nat} (y x : Nat) : (((y : Int) - (x : Int)).fmod (s : Int) = 0) ↔ y % s = x % s := by
  rw [Int.fmod_eq_emod_of_nonneg _ (Int.natCast_nonneg s), ← Int.emod_eq_emod_iff_emod_sub_eq_zero]
  rw [← Int.natCast_emod, ← Int.natCast_emod]
  exact ⟨fun h => Int.ofNat.inj h, fun h => by rw [h]⟩
theorem ch_ent {s n x y : Nat} {r : List Nat} (s0 : 0 < s) (hn : n ≤ 400) (hx : x < n) (c : Cng s (y :: r)) (hk : ∀ k ∈ y :: r, k ≤ x) :
    (((y :: r).length : Nat) : Int) * (if decide ((((y : Int) - (x : Int)).fmod (s : Int)) = 0) = true then 1 else 0) = ((((y :: r).filter fun k => isA (chP s n) x k).length : Nat) : Int) := by
  by_cases z : y % s = x % s
  · rw [decide_eq_true ((mod_zero y x).mpr z), if_pos rfl, Int.mul_one, List.filter_eq_self.mpr]
    intro k hkm
    rw [isA_ch s0 hn k x hx]
    exact decide_eq_true ⟨hk k hkm, (c k hkm y List.mem_cons_self).trans z⟩
  · rw [decide_eq_false (fun w => z ((mod_zero y x).mp w)), if_neg (by decide), Int.mul_zero, List.filter_eq_nil_iff.mpr]
    · rfl
    · intro k hkm w
      rw [isA_ch s0 hn k x hx] at w
      exact z ((c y List.mem_cons_self k hkm).trans (of_decide_eq_true w).2)
theorem tripB_congr {P Q : List (List Nat)} {x : Nat} (h : ∀ y, y < x + 1 → ∀ k, isA P y k = isA Q y k) : tripB P x = tripB Q x := by
  have e1 : runT P x = runT Q x := runT_congr fun y hy => h y (by omega)
  have e2 : runT P x ++ [tripB P x] = runT Q x ++ [tripB Q x] := runT_congr (x := x + 1) h
  rw [e1] at e2
  have := List.append_cancel_left e2
  injection this
/-- the lot of a kind, as a range with a step -/
theorem ch_lot {s x : Nat} (s0 : 0 < s) : rgC ((x % s : Nat) : Int) (s : Int) ((x + 1 - x % s - 1) / s + 1) = natsV ((List.range ((x + 1 - x % s - 1) / s + 1)).map fun k => x % s + k * s) := by
  unfold rgC natsV
  rw [List.map_map]
  refine List.map_congr_left fun k _ => ?_
  show V.int _ = V.int _
  rw [show ((x % s : Nat) : Int) + ((k : Nat) : Int) * ((s : Nat) : Int) = ((x % s + k * s : Nat) : Int) by rw [Int.natCast_add, Int.natCast_mul]]
theorem ch_in {s x : Nat} (s0 : 0 < s) (k : Nat) : k ∈ (List.range ((x + 1 - x % s - 1) / s + 1)).map (fun k => x % s + k * s) ↔ k ≤ x ∧ k % s = x % s := by
  have hm := Nat.mod_add_div x s
  have hl := Nat.mod_lt x s0
  have e : (x + 1 - x % s - 1) / s = x / s := by
    rw [show x + 1 - x % s - 1 = s * (x / s) by omega, Nat.mul_div_cancel_left _ s0]
  rw [e]
  constructor
  · intro h
    obtain ⟨j, hj, rfl⟩ := List.mem_map.mp h
    have hj := List.mem_range.mp hj
    have h1 : j * s ≤ (x / s) * s := Nat.mul_le_mul_right s (by omega)
    refine ⟨?_, ?_⟩
    · rw [Nat.mul_comm (x / s) s] at h1
      show x % s + j * s ≤ x
      omega
    · show (x % s + j * s) % s = x % s
      rw [Nat.add_mul_mod_self_right, Nat.mod_mod]
  · rintro ⟨h1, h2⟩
    refine List.mem_map.mpr ⟨k / s, List.mem_range.mpr ?_, ?_⟩
    · have := Nat.div_le_div_right (c := s) h1
      omega
    · have := Nat.mod_add_div k s
      show x % s + k / s * s = k
      rw [← h2, Nat.mul_comm]
      exact this
theorem ch_runS {s i : Nat} : runS (chP s i) i = runS (chP s (i + 1)) i := by
  have := runS_grown (P := chP s i) (q := if i < s then [] else [i - s])
  rw [chP_len, ← chP_snoc] at this
  exact this.symm
theorem ch_trip {s n N x : Nat} (s0 : 0 < s) (hx : x < n) (hn : n ≤ N) (hN : N ≤ 400) : tripB (chP s n) x = tripB (chP s N) x :=
  tripB_congr fun y hy k => by rw [isA_ch s0 (by omega) k y (by omega), isA_ch s0 hN k y (by omega)]
theorem fmod_nat (i s : Nat) : (i : Int).fmod (s : Int) = ((i % s : Nat) : Int) := by
  rw [Int.fmod_eq_emod_of_nonneg _ (Int.natCast_nonneg s), Int.natCast_emod]
/-- what is given, in words -/
def gvD (e : Tr) : PyData := .tuple [.str "triple", tripD e]
theorem tripD_deep (e : Tr) : (tripD e).depth ≤ 3 := by
  have h := deep_ints e.2.2
  unfold tripD
  simp only [PyData.depth, PyData.depthAll]
  omega
theorem gv_show {P : List (List Nat)} (ok : OkP P) {x : Nat} (hx : x < P.length) : ShowD (gvD (tripB P x)) := by
  have h := trip_showD ok hx
  have hl := (trip_show (trip_mid ok hx)).2.2
  revert h hl
  generalize tripB P x = e
  intro h hl
  refine ⟨?_, ?_, ?_, ?_⟩
  · show (PyData.showable (.str "triple") && (PyData.showable (tripD e) && true)) = true
    rw [h.can]
    decide +kernel
  · show (PyData.hasDict (.str "triple") || (PyData.hasDict (tripD e) || false)) = false
    rw [h.nod]
    rfl
  · have := tripD_deep e
    unfold gvD
    simp only [PyData.depth, PyData.depthAll]
    omega
  · refine Nat.le_trans (tup_len (b := 180200) fun d hd => ?_) (by rw [sizeLine_eq]; show (180200 + 2) * 2 + 2 ≤ 16777216; decide)
    simp only [List.mem_cons, List.not_mem_nil, or_false] at hd
    rcases hd with rfl | rfl
    · decide +kernel
    · exact hl
theorem dp_gv {K : PySem.W.Frag} {H : Hp} {t : Addr} {v : V} {e : Tr} (h : H t = some (.tup [.str "triple", v])) (hT : Trip H v e) : Dp K H (.ref t) (gvD e) := .tup (SqT.of h) (.cons (.str _) (.cons (dp_trip hT) .nil))
@[irreducible] def txt (e : Tr) : Str := PyData.shown (gvD e)
theorem txt_eq (e : Tr) : PyData.shown (gvD e) = txt e := by unfold txt; rfl
@[irreducible] def chT (s N n : Nat) : List V := (List.range n).map fun x => V.str (txt (tripB (chP s N) x))
theorem chT_len (s N n : Nat) : (chT s N n).length = n := by unfold chT; rw [List.length_map, List.length_range]
theorem chT_snoc (s N n : Nat) : chT s N (n + 1) = chT s N n ++ [V.str (txt (tripB (chP s N) n))] := by
  unfold chT
  rw [List.range_succ, List.map_append]
  rfl
theorem chT_at {s N n j : Nat} (h : j < n) : (chT s N n)[j]? = some (V.str (txt (tripB (chP s N) j))) := by
  unfold chT
  rw [List.getElem?_map, List.getElem?_range h]
  rfl
theorem chT_nil (s N : Nat) : chT s N 0 = [] := by unfold chT; rfl
theorem bool_show (b : Bool) : ShowD (.bool b) := ⟨rfl, rfl, Nat.zero_le _, by cases b <;> decide +kernel⟩
def sp__law_great (C : Addr) (CR : Addr) (K : PySem.W.Frag) : Sp := fun vs H Q _ => ∃ (φ : Fw) (ρ : Rk), vs = [.ref φ.t, .ref ρ.r] ∧ Flow φ H ∧ RunAt C CR H ρ [] ∧ (∀ k ∈ ρ.ks, Off φ k.b.lb) ∧ ∀ H', Q (.bl true) H'
theorem sc__law_great : FnScope ["_law_flow_here", "_law_runtime", "_law_step", "_law_rows", "_law_held", "_law_texts", "_law_x", "_law_turn", "_law_slot", "_law_entries_here", "_law_p", "_law_row"] ["_law_flow_here", "_law_runtime"] (defScope s__law_great) := ⟨rfl, rfl, rfl, by decide +kernel, rfl, by decide +kernel, by decide +kernel⟩
theorem ok__law_great (T : Top P K mg) : FnG P w K mg base CX0 10 T.f__law_great T.fd__law_great ["_law_flow_here", "_law_runtime"] (sp__law_great T.C_Book T.C_Runtime K) := by
  have G_Runtime_ask := ok_Runtime_ask (P := P) (w := w) (base := base) T
  have G_Runtime_groups := ok_Runtime_groups (P := P) (w := w) (base := base) T
  have G_Runtime_load := ok_Runtime_load (P := P) (w := w) (base := base) T
  have G__law_draw := ok__law_draw (P := P) (w := w) (base := base) T
  have G__law_given := ok__law_given (P := P) (w := w) (base := base) T
  have G__law_groups := ok__law_groups (P := P) (w := w) (base := base) T
  have G__law_put := ok__law_put (P := P) (w := w) (base := base) T
  refine T.F__law_great.okG sc__law_great (fun vs H Q E h => ?_) (fun cdv A outer s H vs Q E hG hr h => ?_)
  · obtain ⟨φ, ρ, rfl, _⟩ := h
    rfl
  · obtain ⟨φ, ρ, rfl, f0, hR, ob, k⟩ := h
    refine ⟨_, (pss_cons (ps_set (i := 2) sc__law_great.nd rfl (Or.inr rfl) (pe_op op_add pe_int (pe_call G__law_draw (hr.mono (by decide)) (by rfl) T.g__law_draw T.F__law_draw.kp T.b__law_draw .nil pass0 (pa_cons (pv 0) (pa_cons pe_int pa_nil)))))
      (pss_cons (ps_set (i := 3) sc__law_great.nd rfl (Or.inl rfl) (pe_lst pa_nil))
      (pss_cons (ps_set (i := 4) sc__law_great.nd rfl (Or.inl rfl) (pe_lst pa_nil))
      (pss_cons (ps_set (i := 5) sc__law_great.nd rfl (Or.inl rfl) (pe_lst pa_nil))
      (pss_cons (ps_for PassesOwn.never rfl (pi_range1 rfl T.z_range (pa_cons pe_int pa_nil)) (pg_name (i := 6) sc__law_great.nd rfl (Or.inr rfl))
      (C8.pss_cut (ps_expr (pe_meth (pv 1) T.cl_Runtime T.m_Runtime_load G_Runtime_load hr T.b_Runtime_load .nil pass0 (pa_cons (pe_ifExp (pt_cmpR op_lt (pv 6) (pv 2) (nomark _)) (pe_tup pa_nil) (pe_tup (pa_cons (pe_op op_sub (pv 6) (pv 2)) pa_nil))) pa_nil)))
      (pss_cons (ps_set (i := 8) sc__law_great.nd rfl (Or.inl rfl) (pe_call G__law_put (hr.mono (by decide)) (by rfl) T.g__law_put T.F__law_put.kp T.b__law_put .nil pass0 (pa_cons (pv 3) (pa_cons (pv 4) (pa_cons (pe_listRg3 rfl (by rfl) T.z_list (prg_3 (by rfl) T.z_range (pa_cons (pe_op op_modN (pe_callTy (T := "int") call_int1 (by rfl) T.z_int (by decide +kernel) (pa_cons (pv 6) pa_nil)) (pv 2)) (pa_cons (pe_op op_add (pv 6) pe_int) (pa_cons (pv 2) pa_nil))))) (pa_cons (pv 6) pa_nil))))))
      (pss_cons (ps_set (i := 9) sc__law_great.nd rfl (Or.inl rfl) (pe_callTy (r := rTupQ K) (T := "tuple") call_tuple_of (by rfl) T.z_tuple (by decide +kernel) (pa_cons (pe_lc (own := [("_law_row", 11)]) (g := gName 11) (tt := tYes) rfl sc__law_great.nd (pi_list (pv 4)) (blkOk_by (own := [("_law_row", 11)]) (N := ["_law_flow_here", "_law_runtime", "_law_step", "_law_rows", "_law_held", "_law_texts", "_law_x", "_law_turn", "_law_slot", "_law_entries_here", "_law_p", "_law_row"]) (sc := defScope s__law_great) (by decide +kernel)) (fun _ _ _ _ _ => (pg_name (i := 11) sc__law_great.nd rfl (Or.inl rfl))) (fun _ _ _ _ _ => pts_nil) (fun _ _ _ _ _ => (pe_op op_mul (pe_callB (r := rLenQ K) (id := "len") call_len_seq (by rfl) T.z_len (by decide +kernel) (pa_cons (pv 11) pa_nil)) (pe_callTy (T := "int") call_int1 (by rfl) T.z_int (by decide +kernel) (pa_cons (pe_cmpR op_eq (pe_op op_modN (pe_callTy (T := "int") call_int1 (by rfl) T.z_int (by decide +kernel) (pa_cons (pe_op op_sub (pe_ix (r := rIxL K) ix_list (pv 11) pe_int (fun _ _ => rfl)) (pv 6)) pa_nil)) (pv 2)) pe_int (nomark _)) pa_nil))))) pa_nil)))
      (pss_cons (ps_expr (pe_bm PySem.F.plainAttrs_list PySem.F.slot_list_append PySem.F.type_list_append mt_append (pv 5) (pa_cons (pe_callB (r := rRepr K) (id := "repr") (call_reprG hG (by exact hr.units)) (by rfl) T.z_repr (by decide +kernel) (pa_cons (pe_tup (pa_cons pe_str (pa_cons (pe_tup (pa_cons (pv 8) (pa_cons (pe_callB (r := rLenQ K) (id := "len") call_len_seq (by rfl) T.z_len (by decide +kernel) (pa_cons (pe_ix (r := rIxL K) ix_list (pv 4) (pv 8) (fun _ _ => rfl)) pa_nil)) (pa_cons (pv 9) pa_nil)))) pa_nil))) pa_nil)) pa_nil)))
      (pss_one (ps_if (pt_cmpR op_ne (pe_callB (r := rRepr K) (id := "repr") (call_reprG hG (by exact hr.units)) (by rfl) T.z_repr (by decide +kernel) (pa_cons (pe_call G__law_given (hr.mono (by decide)) (by rfl) T.g__law_given T.F__law_given.kp T.b__law_given .nil pass0 (pa_cons (pv 1) (pa_cons (pv 6) pa_nil))) pa_nil)) (pe_ix (r := rIxL K) ix_list (pv 5) (pv 6) (fun _ _ => rfl)) (nomark _)) (pss_one (ps_ret pe_bl)) pss_nil)))))))
      (pss_cons (ps_for PassesOwn.never rfl (pi_range1 rfl T.z_range (pa_cons pe_int pa_nil)) (pg_name (i := 7) sc__law_great.nd rfl (Or.inl rfl))
      (pss_cons (ps_set (i := 6) sc__law_great.nd rfl (Or.inr rfl) (pe_call G__law_draw (hr.mono (by decide)) (by rfl) T.g__law_draw T.F__law_draw.kp T.b__law_draw .nil pass0 (pa_cons (pv 0) (pa_cons pe_int pa_nil))))
      (pss_cons (ps_set (i := 10) sc__law_great.nd rfl (Or.inl rfl) (pe_call G__law_draw (hr.mono (by decide)) (by rfl) T.g__law_draw T.F__law_draw.kp T.b__law_draw .nil pass0 (pa_cons (pv 0) (pa_cons pe_int pa_nil))))
      (pss_cons (ps_if (pt_cmpR op_ne (pe_callB (r := rRepr K) (id := "repr") (call_reprG hG (by exact hr.units)) (by rfl) T.z_repr (by decide +kernel) (pa_cons (pe_meth (pv 1) T.cl_Runtime T.m_Runtime_ask G_Runtime_ask (hr.mono (by decide)) T.b_Runtime_ask .nil pass0 (pa_cons (pv 6) (pa_cons (pv 10) pa_nil))) pa_nil)) (pe_callB (r := rRepr K) (id := "repr") (call_reprG hG (by exact hr.units)) (by rfl) T.z_repr (by decide +kernel) (pa_cons (pe_and (pe_cmpR op_le (pv 10) (pv 6) (nomark _)) (pe_one (pe_cmpR op_eq (pe_op op_modN (pe_callTy (T := "int") call_int1 (by rfl) T.z_int (by decide +kernel) (pa_cons (pe_op op_sub (pv 6) (pv 10)) pa_nil)) (pv 2)) pe_int (nomark _)))) pa_nil)) (nomark _)) (pss_one (ps_ret pe_bl)) pss_nil)
      (pss_one (ps_if (pt_cmpR op_ne (pe_callB (r := rRepr K) (id := "repr") (call_reprG hG (by exact hr.units)) (by rfl) T.z_repr (by decide +kernel) (pa_cons (pe_call G__law_given (hr.mono (by decide)) (by rfl) T.g__law_given T.F__law_given.kp T.b__law_given .nil pass0 (pa_cons (pv 1) (pa_cons (pv 10) pa_nil))) pa_nil)) (pe_ix (r := rIxL K) ix_list (pv 5) (pv 10) (fun _ _ => rfl)) (nomark _)) (pss_one (ps_ret pe_bl)) pss_nil))))))
      (pss_one (ps_ret (pe_cmpR op_eq (pe_callB (r := rRepr K) (id := "repr") (call_reprG hG (by exact hr.units)) (by rfl) T.z_repr (by decide +kernel) (pa_cons (pe_meth0 (pv 1) T.cl_Runtime T.m_Runtime_groups G_Runtime_groups (hr.mono (by decide)) T.b_Runtime_groups .nil pass0) pa_nil)) (pe_callB (r := rRepr K) (id := "repr") (call_reprG hG (by exact hr.units)) (by rfl) T.z_repr (by decide +kernel) (pa_cons (pe_call G__law_groups (hr.mono (by decide)) (by rfl) T.g__law_groups T.F__law_groups.kp T.b__law_groups .nil pass0 (pa_cons (pv 3) pa_nil)) pa_nil)) (nomark _)))))))))), ?_⟩
    tm_at "w"
    refine ⟨φ, _, rfl, f0, by decide, by decide, fun g H1 m1 g0 g1 => ?_⟩
    obtain ⟨s, hs⟩ : ∃ k : Nat, 1 + g = k := ⟨(1 + g).toNat, by omega⟩
    refine ⟨_, _, rfl, rfl, ?_⟩
    show gName 2 (V.int (1 + g)) _ _ _
    rw [hs]
    have s0 : 0 < s := by omega
    have s9 : s ≤ 9 := by omega
    have hR1 := hR.fv m1 ob
    tm_at "w"
    intro rl nrl
    tm_at "w"
    intro rh nrh
    have lh : rl ≠ rh := ne_of_none upd_same nrh
    have nrh0 : H1 rh = none := by
      rw [upd_ne lh.symm] at nrh
      exact nrh
    have s2 : Same H1 (upd (upd H1 rl (.lst [])) rh (.lst [])) := Same.new (Same.new (Same.refl H1) nrl) nrh
    have k0 : K7 φ T.C_Book T.C_Runtime (upd (upd H1 rl (.lst [])) rh (.lst [])) ρ [] (fun _ => none) (RR rl rh) (runS [] 0) := by
      refine ⟨m1.now.same s2, hR1.same s2, fun k hk => ⟨ob k hk, rfl⟩, (fun a xs e => by cases e), H1, G.init nrl nrh0 lh s2 ((upd_ne lh).trans upd_same) upd_same, m1.now.ln, m1.now.tn, fun k hk => ?_, fun a e => absurd rfl e⟩
      obtain ⟨i, hi⟩ := List.mem_iff_getElem?.mp hk
      rw [(hR1.each i k hi).book.bits]
      exact fun y => by cases y
    revert k0
    generalize upd (upd H1 rl (.lst [])) rh (.lst []) = H2
    intro k0
    tm_at "w"
    intro tl ntl
    obtain ⟨H3, e3, s3, htl⟩ := new_hide (Same.new (o := .lst []) (Same.refl H2) ntl)
    rw [e3]
    have k1 := k0.add s3 ntl htl
    obtain ⟨N, hN⟩ : ∃ N : Nat, N = 400 := ⟨_, rfl⟩
    rw [← chT_nil s N] at k1
    have k1 : K7 φ T.C_Book T.C_Runtime H3 ρ (chP s 0) (upO (fun _ => none) tl (chT s N 0)) (RR rl rh) (runS (chP s 0) 0) := by
      rw [chP_nil]
      exact k1
    have est : L2.start ["_law_flow_here", "_law_runtime", "_law_step", "_law_rows", "_law_held", "_law_texts", "_law_x", "_law_turn", "_law_slot", "_law_entries_here", "_law_p", "_law_row"] [V.ref φ.t, V.ref ρ.r] = ([some (.ref φ.t), some (.ref ρ.r), none, none, none, none, none, none, none, none, none, none] : L2.St) := rfl
    rw [est]
    tm_at "w"
    refine for_range (lo := 0) (n := (400 : Int).toNat) (fun i σ H' => ∃ (ρ' : Rk) (v6 v7 v8 v9 v10 : Option V), σ = [some (.ref φ.t), some (.ref ρ.r), some (.int (s : Int)), some (.ref rl), some (.ref rh), some (.ref tl), v6, v7, v8, v9, v10, none] ∧ ρ'.r = ρ.r ∧ i ≤ 400 ∧ K7 φ T.C_Book T.C_Runtime H' ρ' (chP s i) (upO (fun _ => none) tl (chT s N i)) (RR rl rh) (runS (chP s i) i)) ?_ ?_ ?_
    · exact ⟨ρ, none, none, none, none, none, rfl, rfl, Nat.zero_le _, k1⟩
    · rintro i σ H4 hi ⟨ρ', v6, v7, v8, v9, v10, rfl, hr, _, k4⟩
      rw [Int.zero_add]
      have hi : i < 400 := hi
      have hR4 := k4.run
      have hi4 := hR4.ins
      rw [← hr]
      have hS := ch_runS (s := s) (i := i)
      have okq := ch_okL s0 i
      refine ⟨fun σ H' => ∃ (ρ2 : Rk), σ = [some (.ref φ.t), some (.ref ρ'.r), some (.int (s : Int)), some (.ref rl), some (.ref rh), some (.ref tl), some (.int (i : Int)), v7, v8, v9, v10, none] ∧ ρ2.r = ρ'.r ∧ K7 φ T.C_Book T.C_Runtime H' ρ2 (chP s (i + 1)) (upO (fun _ => none) tl (chT s N i)) (RR rl rh) (runS (chP s (i + 1)) i), ?_, ?_⟩
      · have ld : ∀ (pa : Addr) (H5 : Hp), Same H4 H5 → H5 pa = some (.tup (natsV (if i < s then [] else [i - s]))) → ∀ st' k' H6, But ρ'.r H5 H6 → RunAt T.C_Book T.C_Runtime H6 ⟨ρ'.r, ρ'.dx, st', ρ'.ks ++ [k']⟩ (chP s i ++ [if i < s then [] else [i - s]]) → StepNw H5 k' → ∃ (ρ2 : Rk), ρ2.r = ρ'.r ∧ K7 φ T.C_Book T.C_Runtime H6 ρ2 (chP s (i + 1)) (upO (fun _ => none) tl (chT s N i)) (RR rl rh) (runS (chP s (i + 1)) i) := by
          intro pa H5 s5 hpa st' k' H6 bt hR6 hn6
          rw [← chP_snoc] at hR6
          have := (k4.same s5).load (ρ' := ⟨ρ'.r, ρ'.dx, st', ρ'.ks ++ [k']⟩) bt rfl rfl hR6 hn6
          rw [hS] at this
          exact ⟨⟨ρ'.r, ρ'.dx, st', ρ'.ks ++ [k']⟩, rfl, this⟩
        tm_at "w"
        refine ⟨ρ'.r, ρ'.dx, _, rfl, hi4, rtF_no _ (by decide +kernel), ?_⟩
        tm_at "w"
        refine iteD (fun z => ?_) (fun z => ?_)
        · have zi : i < s := by omega
          rw [if_pos zi] at ld okq
          tm_at "w"
          intro pa npa
          obtain ⟨H5, e5, s5, hpa⟩ := new_hide (Same.new (o := .tup []) (Same.refl H4) npa)
          rw [e5]
          refine ⟨ρ', chP s i, pa, [], rfl, hR4.same s5, hpa, by rw [chP_len]; exact okq, by rw [chP_len]; exact hi, fun st' k' H6 bt hR6 hn6 => ?_⟩
          obtain ⟨ρ2, q1, q2⟩ := ld pa H5 s5 hpa st' k' H6 bt hR6 hn6
          exact ⟨ρ2, rfl, q1, q2⟩
        · have zi : ¬ i < s := by omega
          rw [if_neg zi] at ld okq
          have ei : (i : Int) - (s : Int) = ((i - s : Nat) : Int) := by omega
          tm_at "w"
          intro pa npa
          have s5 : Same H4 (upd H4 pa (.tup [V.int ((i : Int) - (s : Int))])) := Same.new (Same.refl H4) npa
          have hpa : (upd H4 pa (.tup [V.int ((i : Int) - (s : Int))])) pa = some (.tup (natsV [i - s])) := by
            rw [upd_same, ei]
            rfl
          revert s5 hpa
          show Same H4 (upd H4 pa (.tup [V.int ((i : Int) - (s : Int))])) → (upd H4 pa (.tup [V.int ((i : Int) - (s : Int))])) pa = _ → (fun x H1 => _) (V.ref pa) (upd H4 pa (.tup [V.int ((i : Int) - (s : Int))]))
          generalize upd H4 pa (.tup [V.int ((i : Int) - (s : Int))]) = H5
          intro s5 hpa
          refine ⟨ρ', chP s i, pa, [i - s], rfl, hR4.same s5, hpa, by rw [chP_len]; exact okq, by rw [chP_len]; exact hi, fun st' k' H6 bt hR6 hn6 => ?_⟩
          obtain ⟨ρ2, q1, q2⟩ := ld pa H5 s5 hpa st' k' H6 bt hR6 hn6
          exact ⟨ρ2, rfl, q1, q2⟩
      · rintro σ H5 ⟨ρ2, rfl, hr2, k5⟩
        have fm := fmod_nat i s
        have ml := Nat.mod_lt i s0
        have mle := Nat.mod_le i s
        have rg := RgC.up (i := i % s) (m := i + 1) (c := s) s0 (by omega) (by omega) (by omega) (by omega)
        have nle : (i + 1 - i % s - 1) / s + 1 ≤ 2 ^ 24 := by
          have := Nat.div_le_self (i + 1 - i % s - 1) s
          have z : 401 ≤ 2 ^ 24 := by decide
          omega
        tm_at "w"
        refine ⟨((i % s : Nat) : Int), ((i + 1 : Nat) : Int), (s : Int), by show [V.int ((i : Int).fmod (s : Int)), V.int ((i : Int) + 1), V.int (s : Int)] = _; rw [fm]; rfl, by omega, by omega, _, rg, nle, fun w nw => ?_⟩
        rw [ch_lot s0]
        have hmem : ∀ k, k ∈ (List.range ((i + 1 - i % s - 1) / s + 1)).map (fun k => i % s + k * s) ↔ isA (chP s (i + 1)) i k = true := fun k => by
          rw [isA_ch s0 (by omega) k i (by omega), decide_eq_true_iff]
          exact ch_in s0 k
        revert hmem nw
        generalize (List.range ((i + 1 - i % s - 1) / s + 1)).map (fun k => i % s + k * s) = W
        intro nw hmem
        obtain ⟨H6, e6, s6, hw⟩ := new_hide (Same.new (o := .lst (natsV W)) (Same.refl H5) nw)
        rw [e6]
        have k6 := k5.add s6 nw hw
        obtain ⟨B, hG6, hB⟩ := k6.max
        have hBw : B w = some (.lst (natsV W)) := (hB w (.inr (.inr (.inr (.inl (by rw [upO_same]; exact fun y => by cases y)))))).trans hw
        tm_at "w"
        refine ⟨rl, rh, w, i, chP s (i + 1), B, _, W, rfl, hG6, hBw, hmem, run_ok _ i, hi, fun H7 g7 => ?_⟩
        have k7 : K7 φ T.C_Book T.C_Runtime H7 ρ2 (chP s (i + 1)) (upO (fun _ => none) tl (chT s N i)) (RR rl rh) (runS (chP s (i + 1)) (i + 1)) := by
          refine (k6.put hB g7).drop fun a xs e => ?_
          have : a ≠ w := fun z => by
            have := (k5.own a xs e).1
            rw [z, nw] at this
            cases this
          rw [upO_ne this]
          exact e
        have ok7 := run_ok (chP s (i + 1)) (i + 1)
        have wl7 := ok7.wl
        have wd7 := ok7.wd
        obtain ⟨B7, hG7, _⟩ := k7.grp
        obtain ⟨us, u1, u2, u3⟩ := hG7.at true
        have u1 : H7 rh = some (.lst us) := u1
        have cng := ch_rows (n := i + 1) s0 (by omega) (i + 1) (Nat.le_refl _)
        revert ok7 wl7 wd7 hG7 u2 u3 cng k7
        generalize hD : runS (chP s (i + 1)) (i + 1) = S7
        intro k7 ok7 wl7 wd7 hG7 u2 u3 cng
        simp only [List.set_cons_zero, List.set_cons_succ]
        tm_at "w"
        refine ⟨⟨_, SqL.of u1⟩, fun D8 nD8 => lc_listF (fun j => (S7 true)[j]?.map fun row => V.int (((row.filter fun k => isA (chP s (i + 1)) i k).length : Nat) : Int)) u1 nD8 (by omega) ?_ ?_⟩
        · intro j y H9 N M hy s9' kN kM
          have jl : j < (S7 true).length := by
            have := (List.getElem?_eq_some_iff.mp hy).1
            omega
          obtain ⟨a, e1, e2⟩ := u3 j _ (List.getElem?_eq_getElem jl)
          have ey : y = .ref a := by
            rw [hy] at e1
            exact Option.some.inj e1
          subst ey
          have m1 := List.getElem_mem jl
          have fl := ok7.full _ m1
          have kd := ok7.kinds _ m1
          have cg := cng _ m1
          have eN : ((S7 true)[j]?.map fun row => V.int (((row.filter fun k => isA (chP s (i + 1)) i k).length : Nat) : Int)) = some (V.int ((((S7 true)[j].filter fun k => isA (chP s (i + 1)) i k).length : Nat) : Int)) := by rw [List.getElem?_eq_getElem jl]; rfl
          revert e2 fl kd cg eN
          generalize (S7 true)[j] = row
          intro e2 fl kd cg eN
          obtain ⟨y, r, rfl⟩ : ∃ y r, row = y :: r := by
            cases row with
            | nil => exact absurd rfl fl
            | cons y r => exact ⟨y, r, rfl⟩
          have en := ch_ent (n := i + 1) s0 (by omega) (Nat.lt_succ_self i) cg fun k hk => by have := kd k hk; omega
          have e29 := s9' _ _ e2
          tm_at "w"
          refine ⟨_, _, _, _, rfl, rfl, SqL.of e29, atI_nat (j := 0) rfl, ?_⟩
          have ed : decide (V.int (((y : Int) - (i : Int)).fmod (s : Int)) = V.int 0) = decide (((y : Int) - (i : Int)).fmod (s : Int) = 0) := decide_eq_decide.mpr ⟨V.int.inj, congrArg V.int⟩
          tm_at "w"
          refine .inr ⟨_, rfl, ?_⟩
          refine ⟨_, _, rfl, rfl, .inr ?_, ?_⟩
          · split
            · decide
            · decide
          · refine kN _ _ ?_ (Same.refl H9)
            rw [eN]
            show _ = some (V.int (((natsV (y :: r)).length : Int) * (if decide (V.int (((y : Int) - (i : Int)).fmod (s : Int)) = V.int 0) = true then 1 else 0)))
            rw [ed, natsV_len, en]
        · intro H9 s9' hD8
          rw [u2, range_items] at hD8
          tm_at "w"
          intro ta nta
          have hD9 : H9 D8 = some (.lst (natsV (entB (chP s (i + 1)) (S7 true) i))) := by
            rw [hD8]
            unfold entB natsV
            rw [List.map_map]
            rfl
          obtain ⟨H10, e10, s10, hta⟩ := new_hide (Same.new (o := .tup (natsV (entB (chP s (i + 1)) (S7 true) i))) (Same.refl H9) nta)
          have e10' : upd H9 ta (.tup ((S7 true).map fun row => V.int (((row.filter fun k => isA (chP s (i + 1)) i k).length : Nat) : Int))) = H10 := by
            rw [← e10]
            unfold entB natsV
            rw [List.map_map]
            rfl
          rw [e10']
          have s710 := Same.trans s9' s10
          have k10 := k7.same s710
          simp only [List.set_cons_zero, List.set_cons_succ]
          have sl : putSlot (chP s (i + 1)) (runS (chP s (i + 1)) i false) (runS (chP s (i + 1)) i true) i < (S7 true).length := by
            rw [← hD]
            exact (putD_len (P := chP s (i + 1)) (x := i) (run_ok _ i)).2
          obtain ⟨ra, y1, y2⟩ := u3 _ _ (List.getElem?_eq_getElem sl)
          have u110 := s710 _ _ u1
          have y210 := s710 _ _ y2
          obtain ⟨htl10, otl⟩ := k10.own tl _ upO_same
          tm_at "w"
          rw [natsV_len]
          intro pt npt
          obtain ⟨H11, e11, s11, hpt⟩ := new_hide (Same.new (o := .tup [V.int (putSlot (chP s (i + 1)) (runS (chP s (i + 1)) i false) (runS (chP s (i + 1)) i true) i : Nat), V.int (((S7 true)[putSlot (chP s (i + 1)) (runS (chP s (i + 1)) i false) (runS (chP s (i + 1)) i true) i]).length : Nat), .ref ta]) (Same.refl H10) npt)
          rw [e11]
          have hT : Trip H11 (.ref pt) (tripB (chP s (i + 1)) i) := by
            refine ⟨pt, ta, rfl, ?_, ?_⟩
            · rw [hpt]
              unfold tripB
              simp only
              rw [hD, getD_some (List.getElem?_eq_getElem sl)]
            · rw [s11 _ _ hta]
              unfold tripB
              simp only
              rw [hD]
              unfold natsV
              rw [List.map_map]
              rfl
          tm_at "w"
          intro pg npg
          obtain ⟨H12, e12, s12, hpg⟩ := new_hide (Same.new (o := .tup [.str "triple", .ref pt]) (Same.refl H11) npg)
          rw [e12]
          have okP := chP_ok s0 (i + 1) (by omega)
          have il : i < (chP s (i + 1)).length := by rw [chP_len]; omega
          have etr := ch_trip (N := N) s0 (Nat.lt_succ_self i) (show i + 1 ≤ N by omega) (by omega)
          refine ⟨_, gvD (tripB (chP s (i + 1)) i), rfl, dp_gv hpg (hT.tk (Same.tk s12)), gv_show okP il, ?_⟩
          rw [etr, txt_eq]
          have s1012 := Same.trans s11 s12
          have htl12 := s1012 _ _ htl10
          have ctl := chT_len s N i
          have ct1 := chT_snoc s N i
          have k13 : K7 φ T.C_Book T.C_Runtime (upd H12 tl (.lst (chT s N i ++ [V.str (txt (tripB (chP s N) i))]))) ρ2 (chP s (i + 1)) (upO (fun _ => none) tl (chT s N (i + 1))) (RR rl rh) S7 := by
            rw [← ct1]
            refine ((k10.same s1012).set upO_same (chT s N (i + 1))).drop fun a xs e => ?_
            by_cases z : a = tl
            · rw [z, upO_same] at e
              rw [z, upO_same]
              exact e
            · rw [upO_ne z] at e
              cases e
          have h13 : (upd H12 tl (.lst (chT s N i ++ [V.str (txt (tripB (chP s N) i))]))) tl = some (.lst (chT s N i ++ [V.str (txt (tripB (chP s N) i))])) := upd_same
          tm_at "w"
          revert k13 h13
          generalize upd H12 tl (.lst (chT s N i ++ [V.str (txt (tripB (chP s N) i))])) = H13
          intro k13 h13
          rw [← ct1] at h13
          refine ⟨ρ2, chP s (i + 1), .int (i : Int), by rw [hr2]; rfl, k13.run, IntK.int _, fun H' => IntK.int _, fun j ej jl t v H14 s14 ht hT' => ?_, fun e => by rw [within_of il] at e; cases e⟩
          obtain rfl : i = j := by have := V.int.inj ej; omega
          refine ⟨_, gvD (tripB (chP s (i + 1)) i), rfl, dp_gv ht hT', gv_show okP il, ?_⟩
          rw [etr, txt_eq]
          have h14 := s14 _ _ h13
          have at14 := chT_at (s := s) (N := N) (Nat.lt_succ_self i)
          tm_at "w"
          refine iteEF (by rw [decide_eq_true rfl]; rfl) ?_
          refine ⟨ρ2, _, _, _, _, _, rfl, hr2, by omega, ?_⟩
          exact k13.same s14
    · rintro σ H4 ⟨ρ', v6, v7, v8, v9, v10, rfl, hr, _, k4⟩
      rw [show (400 : Int).toNat = N by omega] at k4
      have okP := chP_ok s0 N (by omega)
      have ctl := chT_len s N N
      rw [← hr]
      tm_at "w"
      refine for_range (lo := 0) (n := (60 : Int).toNat) (fun i σ H' => ∃ (v6 v7 v8 v9 v10 : Option V), σ = [some (.ref φ.t), some (.ref ρ'.r), some (.int (s : Int)), some (.ref rl), some (.ref rh), some (.ref tl), v6, v7, v8, v9, v10, none] ∧ K7 φ T.C_Book T.C_Runtime H' ρ' (chP s N) (upO (fun _ => none) tl (chT s N N)) (RR rl rh) (runS (chP s N) N)) ?_ ?_ ?_
      · exact ⟨_, _, _, _, _, rfl, k4⟩
      · rintro i σ H5 hi ⟨v6, v7, v8, v9, v10, rfl, k5⟩
        tm_at "w"
        refine ⟨φ, _, rfl, k5.flow, by decide, by decide, fun x H6 m6 x0 x1 => ?_⟩
        obtain ⟨x, rfl⟩ : ∃ k : Nat, x = k := ⟨x.toNat, by omega⟩
        have k6 := k5.fv m6
        tm_at "w"
        refine ⟨φ, _, rfl, k6.flow, by decide, by decide, fun p H7 m7 p0 p1 => ?_⟩
        obtain ⟨p, rfl⟩ : ∃ k : Nat, p = k := ⟨p.toNat, by omega⟩
        have k7 := k6.fv m7
        have hi7 := k7.run.ins
        have xl : x < 400 := by omega
        have pl : p < 400 := by omega
        tm_at "w"
        refine ⟨ρ'.r, ρ'.dx, _, rfl, hi7, rtF_no _ (by decide +kernel), ?_⟩
        tm_at "w"
        refine ⟨ρ', chP s N, x, p, rfl, k7.run, by rw [chP_len, hN]; exact xl, by rw [chP_len, hN]; exact pl, ?_⟩
        refine ⟨_, .bool (isA (chP s N) x p), rfl, .bl _, bool_show _, ?_⟩
        have eis := isA_ch (n := N) s0 (by omega) p x (by omega)
        have okP2 := okP
        have ilp : p < (chP s N).length := by rw [chP_len, hN]; exact pl
        have at7 := chT_at (s := s) (N := N) (n := N) (show p < N by omega)
        have htl7 := (k7.own tl _ upO_same).1
        tm_at "w"
        refine iteD (fun z => ?_) (fun z => ?_)
        · tm_at "w"
          have e1 : decide (V.int (((x : Int) - (p : Int)).fmod (s : Int)) = V.int 0) = isA (chP s N) x p := by
            rw [eis]
            exact decide_eq_decide.mpr ⟨fun h => ⟨by omega, ((mod_zero x p).mp (V.int.inj h)).symm⟩, fun h => congrArg V.int ((mod_zero x p).mpr h.2.symm)⟩
          refine ⟨_, .bool (isA (chP s N) x p), rfl, ?_, bool_show _, ?_⟩
          · rw [← e1]
            exact .bl _
          tm_at "w"
          refine iteEF (by rw [decide_eq_true rfl]; rfl) ?_
          tm_at "w"
          refine ⟨ρ', chP s N, .int (p : Int), rfl, k7.run, IntK.int _, fun H' => IntK.int _, fun j ej jl t v H8 s8 ht hT' => ?_, fun e => by rw [within_of ilp] at e; cases e⟩
          obtain rfl : p = j := by have := V.int.inj ej; omega
          refine ⟨_, gvD (tripB (chP s N) p), rfl, dp_gv ht hT', gv_show okP ilp, ?_⟩
          rw [txt_eq]
          have htl8 := s8 _ _ htl7
          tm_at "w"
          refine iteEF (by rw [decide_eq_true rfl]; rfl) ?_
          exact ⟨_, _, _, _, _, rfl, k7.same s8⟩
        · tm_at "w"
          have e1 : isA (chP s N) x p = false := by
            rw [eis]
            exact decide_eq_false fun h => z (by omega)
          refine ⟨_, .bool (isA (chP s N) x p), rfl, ?_, bool_show _, ?_⟩
          · rw [e1]
            exact .bl _
          tm_at "w"
          refine iteEF (by rw [decide_eq_true rfl]; rfl) ?_
          tm_at "w"
          refine ⟨ρ', chP s N, .int (p : Int), rfl, k7.run, IntK.int _, fun H' => IntK.int _, fun j ej jl t v H8 s8 ht hT' => ?_, fun e => by rw [within_of ilp] at e; cases e⟩
          obtain rfl : p = j := by have := V.int.inj ej; omega
          refine ⟨_, gvD (tripB (chP s N) p), rfl, dp_gv ht hT', gv_show okP ilp, ?_⟩
          rw [txt_eq]
          have htl8 := s8 _ _ htl7
          tm_at "w"
          refine iteEF (by rw [decide_eq_true rfl]; rfl) ?_
          exact ⟨_, _, _, _, _, rfl, k7.same s8⟩
      · rintro σ H5 ⟨v6, v7, v8, v9, v10, rfl, k5⟩
        have hi5 := k5.run.ins
        tm_at "w"
        refine ⟨ρ'.r, ρ'.dx, _, rfl, hi5, rtF_no _ (by decide +kernel), ?_⟩
        tm_at "w"
        refine ⟨ρ', chP s N, rfl, k5.run, fun t H6 s6 ht => ?_⟩
        rw [chP_len] at ht
        have h2 : LotsAt H6 t (runS (chP s N) (chP s N).length false) := by rw [chP_len]; exact ht
        obtain ⟨pa, lz⟩ := h2.grp
        have gsh := grp_show okP lz
        refine ⟨_, .tuple (rowsD (grpZ (runS (chP s N) (chP s N).length false))), rfl, dp_par pa, gsh, ?_⟩
        have k6 := k5.same s6
        obtain ⟨B6, hG6, _⟩ := k6.grp
        have ok6 := run_ok (chP s N) N
        have wl6 := ok6.wl
        tm_at "w"
        refine ⟨rl, rh, B6, _, rfl, hG6, by omega, fun lot hl => ?_, fun t7 H7 s7 ht7 => ?_⟩
        · obtain ⟨j, hj⟩ := List.mem_iff_getElem?.mp hl
          have := ok6.few j lot hj
          have := (List.getElem?_eq_some_iff.mp hj).1
          omega
        · have h3 : LotsAt H7 t7 (runS (chP s N) (chP s N).length false) := by rw [chP_len]; exact ht7
          obtain ⟨pa7, _⟩ := h3.grp
          refine ⟨_, .tuple (rowsD (grpZ (runS (chP s N) (chP s N).length false))), rfl, dp_par pa7, gsh, ?_⟩
          tm_at "w"
          rw [decide_eq_true rfl]
          exact k _
/-! law -/
def strD : PyData := .tuple [.str "stranger", .int 0]
theorem dp_str {K : PySem.W.Frag} {H : Hp} {t : Addr} (h : H t = some (.tup [.str "stranger", .int 0])) : Dp K H (.ref t) strD := .tup (SqT.of h) (.cons (.str _) (.cons (.int _) .nil))
theorem str_shaped : SeqAt.shaped strD = true := by decide +kernel
theorem str_refl : PyData.eqv strD strD = true := SeqAt.eqv_refl _ (SeqAt.canLay_of_shaped str_shaped)
theorem out_far {n : Nat} {i : Int} (h : i < 0 ∨ (n : Int) ≤ i) : withinB (.int i) 0 ((n : Int) - 1) = false := by
  show (decide (0 ≤ i) && decide (i ≤ (n : Int) - 1)) = false
  rcases h with h | h
  · rw [decide_eq_false (by omega), Bool.false_and]
  · rw [decide_eq_false (p := i ≤ (n : Int) - 1) (by omega), Bool.and_false]
theorem at_in {L : List V} {r : Int} (h0 : 0 ≤ r) (h1 : r < (L.length : Int)) : ∃ v, atI L r = some v ∧ v ∈ L := by
  obtain ⟨j, rfl⟩ : ∃ j : Nat, r = j := ⟨r.toNat, by omega⟩
  have jl : j < L.length := by omega
  exact ⟨L[j], atI_nat (List.getElem?_eq_getElem jl), List.getElem_mem jl⟩
theorem mem_runT {P : List (List Nat)} {e : Tr} : ∀ {n : Nat}, e ∈ runT P n → ∃ x, x < n ∧ e = tripB P x
  | 0, h => by cases h
  | n + 1, h => by
    have h : e ∈ runT P n ++ [tripB P n] := h
    rcases List.mem_append.mp h with h | h
    · obtain ⟨x, h1, h2⟩ := mem_runT h
      exact ⟨x, by omega, h2⟩
    · exact ⟨n, Nat.lt_succ_self n, List.mem_singleton.mp h⟩
theorem sch_showD {P : List (List Nat)} (ok : OkP P) {n : Nat} (hn : n ≤ P.length) (h24 : n ≤ 24) : ShowD (.tuple ((runT P n).map tripD)) := by
  have a : ∀ S : List Tr, (∀ e ∈ S, PyData.showable (tripD e) = true) → PyData.showableAll (S.map tripD) = true := by
    intro S
    induction S with
    | nil => intro _; rfl
    | cons e r ih =>
      intro h
      show (PyData.showable (tripD e) && PyData.showableAll (r.map tripD)) = true
      rw [h e List.mem_cons_self, ih fun x hx => h x (List.mem_cons_of_mem _ hx)]
      rfl
  have b : ∀ S : List Tr, (∀ e ∈ S, PyData.hasDict (tripD e) = false) → PyData.hasDictAll (S.map tripD) = false := by
    intro S
    induction S with
    | nil => intro _; rfl
    | cons e r ih =>
      intro h
      show (PyData.hasDict (tripD e) || PyData.hasDictAll (r.map tripD)) = false
      rw [h e List.mem_cons_self, ih fun x hx => h x (List.mem_cons_of_mem _ hx)]
      rfl
  have key : ∀ e ∈ runT P n, PyData.showable (tripD e) = true ∧ PyData.hasDict (tripD e) = false ∧ (tripD e).shown.length ≤ 180200 := fun e he => by
    obtain ⟨x, hx, rfl⟩ := mem_runT he
    exact trip_show (trip_mid ok (by omega))
  refine ⟨a _ fun e he => (key e he).1, b _ fun e he => (key e he).2.1, ?_, ?_⟩
  · have := sch_deep (runT P n)
    simp only [PyData.depth]
    omega
  · refine Nat.le_trans (tup_len (b := 180200) fun d hd => ?_) ?_
    · obtain ⟨e, he, rfl⟩ := List.mem_map.mp hd
      exact (key e he).2.2
    · rw [List.length_map, runT_len, sizeLine_eq]
      omega
/-- the law's state -/
def Q7 (φ : Fw) (C CR : Addr) (H : Hp) (ρ : Rk) (P : List (List Nat)) (l tl rl rh : Addr) : Prop :=
  ∃ (O : Addr → Option (List V)) (D : List (List Nat)) (F : Nat → Addr) (vs : List V), K7 φ C CR H ρ P O (RR rl rh) (runS P P.length) ∧ O l = some (refsV D.length F) ∧ O tl = some vs ∧ (∀ (j : Nat) q, D[j]? = some q → O (F j) = some (natsV q)) ∧ ScL H vs (runT P P.length) ∧ LotOk P D ∧ tl ≠ l ∧ ∀ j, j < D.length → F j ≠ l ∧ F j ≠ tl
def sp_law (K : PySem.W.Frag) : Sp := fun vs H Q _ => ∃ (a : Addr) (ns : List Int), vs = [.ref a] ∧ SqL K H a (ns.map V.int) ∧ ns.length ≤ 63 ∧ ∀ H', Q (.bl true) H'
theorem sc_law : FnScope ["_law_script", "_law_flow_here", "_law_shape", "_law_wanted", "_law_runtime", "_law_lots", "_law_rows", "_law_held", "_law_triples", "_law_x", "_law_strangers", "_law_parents_here", "_law_slot"] ["_law_script"] (defScope s_law) := ⟨rfl, rfl, rfl, by decide +kernel, rfl, by decide +kernel, by decide +kernel⟩
theorem ok_law (T : Top P K mg) : FnG P w K mg base CX0 11 T.f_law T.fd_law ["_law_script"] (sp_law K) := by
  have G_Runtime___init__ := ok_Runtime___init__ (P := P) (w := w) (base := base) T
  have G_Runtime_book := ok_Runtime_book (P := P) (w := w) (base := base) T
  have G_Runtime_groups := ok_Runtime_groups (P := P) (w := w) (base := base) T
  have G_Runtime_load := ok_Runtime_load (P := P) (w := w) (base := base) T
  have G__law_draw := ok__law_draw (P := P) (w := w) (base := base) T
  have G__law_entries := ok__law_entries (P := P) (w := w) (base := base) T
  have G__law_flow := ok__law_flow (P := P) (w := w) (base := base) T
  have G__law_given := ok__law_given (P := P) (w := w) (base := base) T
  have G__law_great := ok__law_great (P := P) (w := w) (base := base) T
  have G__law_groups := ok__law_groups (P := P) (w := w) (base := base) T
  have G__law_lot := ok__law_lot (P := P) (w := w) (base := base) T
  have G__law_parents := ok__law_parents (P := P) (w := w) (base := base) T
  have G__law_put := ok__law_put (P := P) (w := w) (base := base) T
  have G_groups := ok_groups (P := P) (w := w) (base := base) T
  have G_told_scheme := ok_told_scheme (P := P) (w := w) (base := base) T
  refine T.F_law.okG sc_law (fun vs H Q E h => ?_) (fun cdv A outer s H vs Q E hG hr h => ?_)
  · obtain ⟨a, ns, rfl, _⟩ := h
    rfl
  · obtain ⟨a, ns, rfl, hS, hlen, k⟩ := h
    refine ⟨_, (pss_cons (ps_set (i := 1) sc_law.nd rfl (Or.inl rfl) (pe_call G__law_flow (hr.mono (by decide)) (by rfl) T.g__law_flow T.F__law_flow.kp T.b__law_flow .nil pass0 (pa_cons (pv 0) pa_nil)))
      (pss_cons (ps_if (pt_cmpR op_eq (pe_call G__law_draw (hr.mono (by decide)) (by rfl) T.g__law_draw T.F__law_draw.kp T.b__law_draw .nil pass0 (pa_cons (pv 1) (pa_cons pe_int pa_nil))) pe_int (nomark _)) (pss_one (ps_ret (pe_callG G__law_great hG hr (by rfl) T.g__law_great T.F__law_great.kp T.b__law_great .nil pass0 (pa_cons (pv 1) (pa_cons (pe_make0 T.M_Runtime G_Runtime___init__ hr (by rfl) T.g_Runtime T.b_Runtime___init__ .nil pass0) pa_nil))))) pss_nil)
      (pss_cons (ps_set (i := 2) sc_law.nd rfl (Or.inl rfl) (pe_call G__law_draw (hr.mono (by decide)) (by rfl) T.g__law_draw T.F__law_draw.kp T.b__law_draw .nil pass0 (pa_cons (pv 1) (pa_cons pe_int pa_nil))))
      (pss_cons (ps_set (i := 3) sc_law.nd rfl (Or.inl rfl) (pe_op op_add pe_int (pe_call G__law_draw (hr.mono (by decide)) (by rfl) T.g__law_draw T.F__law_draw.kp T.b__law_draw .nil pass0 (pa_cons (pv 1) (pa_cons pe_int pa_nil)))))
      (pss_cons (ps_set (i := 4) sc_law.nd rfl (Or.inl rfl) (pe_make0 T.M_Runtime G_Runtime___init__ hr (by rfl) T.g_Runtime T.b_Runtime___init__ .nil pass0))
      (pss_cons (ps_set (i := 5) sc_law.nd rfl (Or.inl rfl) (pe_lst pa_nil))
      (pss_cons (ps_set (i := 6) sc_law.nd rfl (Or.inl rfl) (pe_lst pa_nil))
      (pss_cons (ps_set (i := 7) sc_law.nd rfl (Or.inl rfl) (pe_lst pa_nil))
      (pss_cons (ps_set (i := 8) sc_law.nd rfl (Or.inl rfl) (pe_lst pa_nil))
      (pss_cons (ps_if (pt_cmpR (op_neD hr.units) (pe_meth0 (pv 4) T.cl_Runtime T.m_Runtime_groups G_Runtime_groups (hr.mono (by decide)) T.b_Runtime_groups .nil pass0) (pe_tup pa_nil) (nomark _)) (pss_one (ps_ret pe_bl)) pss_nil)
      (pss_cons (ps_for PassesOwn.never rfl (pi_range1 rfl T.z_range (pa_cons (pv 3) pa_nil)) (pg_name (i := 9) sc_law.nd rfl (Or.inl rfl))
      (pss_cons (ps_set (i := 10) sc_law.nd rfl (Or.inl rfl) (pe_lst (pa_cons (pv 9) (pa_cons (pe_un un_neg pe_int) (pa_cons pe_bl (pa_cons pe_bl (pa_cons (pe_op op_add (pv 9) (pe_op op_pow pe_int pe_int)) pa_nil)))))))
      (pss_cons (ps_if (pt_cmpR (op_neD hr.units) (pe_call G__law_given (hr.mono (by decide)) (by rfl) T.g__law_given T.F__law_given.kp T.b__law_given .nil pass0 (pa_cons (pv 4) (pa_cons (pe_ix (r := rIxL K) ix_list (pv 10) (pe_call G__law_draw (hr.mono (by decide)) (by rfl) T.g__law_draw T.F__law_draw.kp T.b__law_draw .nil pass0 (pa_cons (pv 1) (pa_cons pe_int pa_nil))) (fun _ _ => rfl)) pa_nil))) (pe_tup (pa_cons pe_str (pa_cons pe_int pa_nil))) (nomark _)) (pss_one (ps_ret pe_bl)) pss_nil)
      (pss_cons (ps_set (i := 11) sc_law.nd rfl (Or.inl rfl) (pe_call G__law_parents (hr.mono (by decide)) (by rfl) T.g__law_parents T.F__law_parents.kp T.b__law_parents .nil pass0 (pa_cons (pv 1) (pa_cons (pv 9) (pa_cons (pv 2) pa_nil)))))
      (pss_cons (ps_expr (pe_bm PySem.F.plainAttrs_list PySem.F.slot_list_append PySem.F.type_list_append mt_append (pv 5) (pa_cons (pe_call G__law_lot (hr.mono (by decide)) (by rfl) T.g__law_lot T.F__law_lot.kp T.b__law_lot .nil pass0 (pa_cons (pv 5) (pa_cons (pv 11) pa_nil))) pa_nil)))
      (pss_cons (ps_expr (pe_meth (pv 4) T.cl_Runtime T.m_Runtime_load G_Runtime_load (hr.mono (by decide)) T.b_Runtime_load .nil pass0 (pa_cons (pv 11) pa_nil)))
      (pss_cons (ps_set (i := 12) sc_law.nd rfl (Or.inl rfl) (pe_call G__law_put (hr.mono (by decide)) (by rfl) T.g__law_put T.F__law_put.kp T.b__law_put .nil pass0 (pa_cons (pv 6) (pa_cons (pv 7) (pa_cons (pe_ix (r := rIxL K) ix_list (pv 5) (pv 9) (fun _ _ => rfl)) (pa_cons (pv 9) pa_nil))))))
      (pss_cons (ps_expr (pe_bm PySem.F.plainAttrs_list PySem.F.slot_list_append PySem.F.type_list_append mt_append (pv 8) (pa_cons (pe_tup (pa_cons (pv 12) (pa_cons (pe_callB (r := rLenQ K) (id := "len") call_len_seq (by rfl) T.z_len (by decide +kernel) (pa_cons (pe_ix (r := rIxL K) ix_list (pv 7) (pv 12) (fun _ _ => rfl)) pa_nil)) (pa_cons (pe_call G__law_entries (hr.mono (by decide)) (by rfl) T.g__law_entries T.F__law_entries.kp T.b__law_entries .nil pass0 (pa_cons (pv 7) (pa_cons (pe_ix (r := rIxL K) ix_list (pv 5) (pv 9) (fun _ _ => rfl)) pa_nil))) pa_nil)))) pa_nil)))
      (pss_cons (ps_if (pt_cmpR op_ne (pe_callB (r := rRepr K) (id := "repr") (call_reprG hG (by exact hr.units)) (by rfl) T.z_repr (by decide +kernel) (pa_cons (pe_call G__law_given (hr.mono (by decide)) (by rfl) T.g__law_given T.F__law_given.kp T.b__law_given .nil pass0 (pa_cons (pv 4) (pa_cons (pv 9) pa_nil))) pa_nil)) (pe_callB (r := rRepr K) (id := "repr") (call_reprG hG (by exact hr.units)) (by rfl) T.z_repr (by decide +kernel) (pa_cons (pe_tup (pa_cons pe_str (pa_cons (pe_ix (r := rIxL K) ix_list (pv 8) (pv 9) (fun _ _ => rfl)) pa_nil))) pa_nil)) (nomark _)) (pss_one (ps_ret pe_bl)) pss_nil)
      (pss_one (ps_if (pt_cmpR op_ne (pe_callB (r := rRepr K) (id := "repr") (call_reprG hG (by exact hr.units)) (by rfl) T.z_repr (by decide +kernel) (pa_cons (pe_meth0 (pv 4) T.cl_Runtime T.m_Runtime_groups G_Runtime_groups (hr.mono (by decide)) T.b_Runtime_groups .nil pass0) pa_nil)) (pe_callB (r := rRepr K) (id := "repr") (call_reprG hG (by exact hr.units)) (by rfl) T.z_repr (by decide +kernel) (pa_cons (pe_call G__law_groups (hr.mono (by decide)) (by rfl) T.g__law_groups T.F__law_groups.kp T.b__law_groups .nil pass0 (pa_cons (pv 6) pa_nil)) pa_nil)) (nomark _)) (pss_one (ps_ret pe_bl)) pss_nil)))))))))))
      (pss_cons (ps_if (pt_cmpR op_ne (pe_callB (r := rRepr K) (id := "repr") (call_reprG hG (by exact hr.units)) (by rfl) T.z_repr (by decide +kernel) (pa_cons (pe_call G_told_scheme (hr.mono (by decide)) (by rfl) T.g_told_scheme T.F_told_scheme.kp T.b_told_scheme .nil pass0 (pa_cons (pe_meth0 (pv 4) T.cl_Runtime T.m_Runtime_book G_Runtime_book (hr.mono (by decide)) T.b_Runtime_book .nil pass0) pa_nil)) pa_nil)) (pe_callB (r := rRepr K) (id := "repr") (call_reprG hG (by exact hr.units)) (by rfl) T.z_repr (by decide +kernel) (pa_cons (pe_callTy (r := rTupQ K) (T := "tuple") call_tuple_of (by rfl) T.z_tuple (by decide +kernel) (pa_cons (pv 8) pa_nil)) pa_nil)) (nomark _)) (pss_one (ps_ret pe_bl)) pss_nil)
      (pss_one (ps_ret (pe_cmpR op_eq (pe_callB (r := rRepr K) (id := "repr") (call_reprG hG (by exact hr.units)) (by rfl) T.z_repr (by decide +kernel) (pa_cons (pe_call G_groups (hr.mono (by decide)) (by rfl) T.g_groups T.F_groups.kp T.b_groups .nil pass0 (pa_cons (pe_meth0 (pv 4) T.cl_Runtime T.m_Runtime_book G_Runtime_book (hr.mono (by decide)) T.b_Runtime_book .nil pass0) pa_nil)) pa_nil)) (pe_callB (r := rRepr K) (id := "repr") (call_reprG hG (by exact hr.units)) (by rfl) T.z_repr (by decide +kernel) (pa_cons (pe_call G__law_groups (hr.mono (by decide)) (by rfl) T.g__law_groups T.F__law_groups.kp T.b__law_groups .nil pass0 (pa_cons (pv 6) pa_nil)) pa_nil)) (nomark _)))))))))))))))), ?_⟩
    tm_at "w"
    refine ⟨a, ns, rfl, hS, hlen, fun φ H1 s1 f1 => ?_⟩
    tm_at "w"
    refine ⟨φ, _, rfl, f1, by decide, by decide, fun g H2 m2 g0 g1 => ?_⟩
    obtain ⟨g, rfl⟩ : ∃ k : Nat, g = k := ⟨g.toNat, by omega⟩
    tm_at "w"
    refine iteI (fun z => ?_) (fun z => ?_)
    · tm_at "w"
      intro r dx nr ndx ndr
      refine ⟨r, dx, rfl, upd_same, fun st k0 H4 bt hR hn => ⟨rfl, ?_⟩⟩
      have s34 : Same H2 H4 := fun a o e => bt a o (ne_of_none e nr) ((upd_ne (ne_of_none e nr)).trans ((upd_ne (ne_of_none e ndx)).trans e))
      have f4 := m2.now.same s34
      have nlb : H2 k0.b.lb = none := Same.free (Same.mut (Same.new (Same.refl H2) ndx) nr) hn.lb
      have ob := m2.now.off nlb
      tm_at "w"
      refine ⟨φ, ⟨r, dx, st, [k0]⟩, rfl, f4, hR, fun k hk => by rw [List.mem_singleton.mp hk]; exact ob, fun H' => ?_⟩
      exact k _
    · tm_at "w"
      refine ⟨φ, _, rfl, m2.now, by decide, by decide, fun sh H3 m3 a0 a1 => ?_⟩
      obtain ⟨sh, rfl⟩ : ∃ k : Nat, sh = k := ⟨sh.toNat, by omega⟩
      tm_at "w"
      refine ⟨φ, _, rfl, m3.now, by decide, by decide, fun w H4 m4 b0 b1 => ?_⟩
      obtain ⟨W, hW⟩ : ∃ k : Nat, 1 + w = k := ⟨(1 + w).toNat, by omega⟩
      refine ⟨_, _, rfl, rfl, ?_⟩
      show gName 3 (V.int (1 + w)) _ _ _
      rw [hW]
      have est : L2.start ["_law_script", "_law_flow_here", "_law_shape", "_law_wanted", "_law_runtime", "_law_lots", "_law_rows", "_law_held", "_law_triples", "_law_x", "_law_strangers", "_law_parents_here", "_law_slot"] [V.ref a] = ([some (.ref a), none, none, none, none, none, none, none, none, none, none, none, none] : L2.St) := rfl
      rw [est]
      simp only [List.set_cons_zero, List.set_cons_succ]
      tm_at "w"
      intro r dx nr ndx ndr
      refine ⟨r, dx, rfl, upd_same, fun st k0 H5 bt hR hn => ⟨rfl, ?_⟩⟩
      have s45 : Same H4 H5 := fun a o e => bt a o (ne_of_none e nr) ((upd_ne (ne_of_none e nr)).trans ((upd_ne (ne_of_none e ndx)).trans e))
      have f5 := m4.now.same s45
      have nlb : H4 k0.b.lb = none := Same.free (Same.mut (Same.new (Same.refl H4) ndx) nr) hn.lb
      have ob := m4.now.off nlb
      tm_at "w"
      intro l nl
      obtain ⟨H6, e6, s6, hl⟩ := new_hide (Same.new (o := .lst []) (Same.refl H5) nl)
      rw [e6]
      have f6 := f5.same s6
      have ol := f5.off nl
      have hR6 := hR.same s6
      have lk : k0.b.lb ≠ l := ne_of_none (hR.each 0 k0 rfl).book.bits nl
      tm_at "w"
      intro rl nrl
      tm_at "w"
      intro rh nrh
      have lh : rl ≠ rh := ne_of_none upd_same nrh
      have nrh0 : H6 rh = none := by
        rw [upd_ne lh.symm] at nrh
        exact nrh
      have s2 : Same H6 (upd (upd H6 rl (.lst [])) rh (.lst [])) := Same.new (Same.new (Same.refl H6) nrl) nrh
      have k0 : K7 φ T.C_Book T.C_Runtime (upd (upd H6 rl (.lst [])) rh (.lst [])) ⟨r, dx, st, [k0]⟩ [] (upO (fun _ => none) l []) (RR rl rh) (runS [] 0) := by
        refine ⟨f6.same s2, hR6.same s2, fun k hk => ?_, fun a xs e => ?_, H6, G.init nrl nrh0 lh s2 ((upd_ne lh).trans upd_same) upd_same, f6.ln, f6.tn, fun k hk => ?_, fun a e => ?_⟩
        · rw [List.mem_singleton.mp hk]
          exact ⟨ob, upO_ne lk⟩
        · by_cases z : a = l
          · rw [z, upO_same] at e
            rw [z, ← Option.some.inj e]
            exact ⟨s2 _ _ hl, ol⟩
          · rw [upO_ne z] at e
            cases e
        · rw [List.mem_singleton.mp hk, (hR6.each 0 k0 rfl).book.bits]
          exact fun y => by cases y
        · by_cases z : a = l
          · rw [z, hl]
            exact fun y => by cases y
          · rw [upO_ne z] at e
            exact absurd rfl e
      revert k0
      generalize upd (upd H6 rl (.lst [])) rh (.lst []) = H7
      intro k0
      tm_at "w"
      intro tl ntl
      have ltl : tl ≠ l := (ne_of_none (k0.own l _ upO_same).1 ntl).symm
      obtain ⟨H8, e8, s8, htl⟩ := new_hide (Same.new (o := .lst []) (Same.refl H7) ntl)
      rw [e8]
      have k1 := k0.add s8 ntl htl
      have hi1 := k1.run.ins
      simp only [List.set_cons_zero, List.set_cons_succ]
      tm_at "w"
      refine ⟨r, dx, _, rfl, hi1, rtF_no _ (by decide +kernel), ?_⟩
      tm_at "w"
      refine ⟨⟨r, dx, st, _⟩, [], rfl, k1.run, fun t H9 s9 ht => ?_⟩
      have ht9 : H9 t = some (.tup []) := by
        obtain ⟨vs, h1, ⟨m, _, hm, hl⟩, _⟩ := ht
        have m0 : m = 0 := List.mem_singleton.mp hm
        rw [m0] at hl
        rw [h1, List.length_eq_zero_iff.mp hl]
      have k9 := k1.same s9
      tm_at "w"
      intro tu ntu
      obtain ⟨H10, e10, s10, htu⟩ := new_hide (Same.new (o := .tup []) (Same.refl H9) ntu)
      rw [e10]
      refine ⟨.tuple [], .tuple [], .tup (SqT.of (s10 _ _ ht9)) .nil, .tup (SqT.of htu) .nil, by decide +kernel, by decide +kernel, ?_⟩
      rw [show PyData.eqv (.tuple []) (.tuple []) = true from SeqAt.eqv_refl _ rfl]
      have k10 := k9.same s10
      tm_at "w"
      refine for_range (lo := 0) (n := (W : Int).toNat) (fun i σ H' => ∃ (ρ : Rk) (P : List (List Nat)) (v9 v10 v11 v12 : Option V), σ = [some (.ref a), some (.ref φ.t), some (.int (sh : Int)), some (.int (W : Int)), some (.ref r), some (.ref l), some (.ref rl), some (.ref rh), some (.ref tl), v9, v10, v11, v12] ∧ ρ.r = r ∧ P.length = i ∧ Q7 φ T.C_Book T.C_Runtime H' ρ P l tl rl rh) ?_ ?_ ?_
      · refine ⟨_, [], none, none, none, none, rfl, rfl, rfl, ⟨_, [], fun _ => l, [], k10, (upO_ne ltl.symm).trans upO_same, upO_same, fun j q e => by simp at e, ScL.nil, ⟨rfl, fun j q e => by simp at e⟩, ltl, fun j hj => absurd hj (Nat.not_lt_zero _)⟩⟩
      · rintro i σ H11 hi ⟨ρ, P, v9, v10, v11, v12, rfl, hr, hPi, q11⟩
        subst hr
        rw [Int.zero_add]
        obtain ⟨O, D, F, vs, k11, oL, oT, oF, hsc, hok, _, hFn⟩ := id q11
        have dl := hok.len
        subst hPi
        have Pl : P.length < 24 := by omega
        tm_at "w"
        intro sl nsl
        show gName 10 (V.ref sl) _ (upd H11 sl (.lst [.int (P.length : Int), .int (-1), .bl false, .bl true, .int ((P.length : Int) + (10 : Int) ^ (40 : Int).toNat)])) _
        obtain ⟨H12, e12, s12, hsl⟩ := new_hide (Same.new (o := .lst [.int (P.length : Int), .int (-1), .bl false, .bl true, .int ((P.length : Int) + (10 : Int) ^ (40 : Int).toNat)]) (Same.refl H11) nsl)
        rw [e12]
        have k12 := k11.same s12
        simp only [List.set_cons_zero, List.set_cons_succ]
        tm_at "w"
        refine ⟨φ, _, rfl, k12.flow, by decide, by decide, fun d H13 m13 d0 d1 => ?_⟩
        obtain ⟨v, ev, hv⟩ := at_in d0 (show d < (([.int (P.length : Int), .int (-1), .bl false, .bl true, .int ((P.length : Int) + (10 : Int) ^ (40 : Int).toNat)] : List V).length : Int) from d1)
        have hsl13 := m13.keep _ _ (k11.flow.off nsl) hsl
        have k13 := k12.fv m13
        have hv2 : withinB v 0 ((P.length : Int) - 1) = false ∧ ∀ H', IntK K H' v := by
          have big : (0 : Int) ≤ (10 : Int) ^ (40 : Int).toNat := by decide +kernel
          simp only [List.mem_cons, List.not_mem_nil, or_false] at hv
          rcases hv with rfl | rfl | rfl | rfl | rfl
          · exact ⟨out_far (.inr (Int.le_refl _)), fun _ => .int _⟩
          · exact ⟨out_far (.inl (by decide)), fun _ => .int _⟩
          · exact ⟨rfl, fun _ => .bl _⟩
          · exact ⟨rfl, fun _ => .bl _⟩
          · exact ⟨out_far (.inr (by omega)), fun _ => .int _⟩
        obtain ⟨v0, vK⟩ := hv2
        clear hv
        tm_at "w"
        refine ⟨_, _, _, _, rfl, rfl, SqL.of hsl13, ev, ?_⟩
        clear ev hsl13 hsl
        tm_at "w"
        refine ⟨ρ, P, v, rfl, k13.run, vK _, vK, fun j ej jl => ?_, fun e t H14 s14 ht => ?_⟩
        · rw [ej, within_of jl] at v0
          cases v0
        have k14 := k13.same s14
        tm_at "w"
        intro tu ntu
        obtain ⟨H15, e15, s15, htu⟩ := new_hide (Same.new (o := .tup [.str "stranger", .int 0]) (Same.refl H14) ntu)
        rw [e15]
        refine ⟨strD, strD, dp_str (s15 _ _ ht), dp_str htu, str_shaped, str_shaped, ?_⟩
        rw [str_refl]
        have k15 := k14.same s15
        tm_at "w"
        refine ⟨φ, P.length, sh, rfl, k15.flow, by omega, by omega, fun pa q H16 m16 hpa okq => ?_⟩
        have k16 := k15.fv m16
        have hl16 := (k16.own l _ oL).1
        have tk16 : TK H11 H16 := TK.trans (Same.tk s12) (TK.trans m13.tk (TK.trans (Same.tk s14) (TK.trans (Same.tk s15) m16.tk)))
        clear k12 k13 k14 k15
        tm_at "w"
        refine ⟨l, pa, F, D, P, q, rfl, ⟨hl16, fun j q e => (k16.own _ _ (oF j q e)).1⟩, hok, k16.run.ok.rt, hpa, okq.lt, by omega, Nat.le_trans okq.few (by decide), fun f w H17 s17 nf hf nd hw => ?_⟩
        have fl : f ≠ l := (ne_of_none hl16 nf).symm
        have ft : f ≠ tl := (ne_of_none (k16.own tl _ oT).1 nf).symm
        have fF : ∀ j, j < D.length → F j ≠ f := fun j hj => ne_of_none (k16.own _ _ (oF j _ (List.getElem?_eq_getElem hj))).1 nf
        have k17 := k16.add s17 nf hf
        have oL1 : upO O f (natsV w) l = some (refsV D.length F) := (upO_ne fl.symm).trans oL
        have hl17 := (k17.own l _ oL1).1
        have tk18 : TK H17 (upd H17 l (.lst (refsV D.length F ++ [.ref f]))) := TK.mut hl17
        have k18 := k17.set oL1 (refsV D.length F ++ [.ref f])
        tm_at "w"
        refine ⟨_, _, _, rfl, rfl, hl17, lt_line (by rw [refsV_len]; omega), ?_⟩
        have oL2 : upO (upO O f (natsV w)) l (refsV D.length F ++ [.ref f]) l = some (refsV D.length F ++ [.ref f]) := upO_same
        have oT2 : upO (upO O f (natsV w)) l (refsV D.length F ++ [.ref f]) tl = some vs := (upO_ne ltl).trans ((upO_ne ft.symm).trans oT)
        have oF2 : ∀ (j : Nat) r, D[j]? = some r → upO (upO O f (natsV w)) l (refsV D.length F ++ [.ref f]) (F j) = some (natsV r) := fun j r e => by
          have jl := (List.getElem?_eq_some_iff.mp e).1
          exact (upO_ne (hFn j jl).1).trans ((upO_ne (fF j jl)).trans (oF j r e))
        have of2 : upO (upO O f (natsV w)) l (refsV D.length F ++ [.ref f]) f = some (natsV w) := (upO_ne fl).trans upO_same
        revert k18 tk18 oL2 oT2 oF2 of2
        generalize upd H17 l (.lst (refsV D.length F ++ [.ref f])) = H18
        generalize upO (upO O f (natsV w)) l (refsV D.length F ++ [.ref f]) = O2
        intro tk18 k18 oL2 oT2 oF2 of2
        have hpa18 := tk18 _ _ (s17 _ _ hpa)
        have hi18 := k18.run.ins
        tm_at "w"
        refine ⟨ρ.r, ρ.dx, _, rfl, hi18, rtF_no _ (by decide +kernel), ?_⟩
        tm_at "w"
        refine ⟨ρ, P, pa, q, rfl, k18.run, hpa18, okq, by omega, fun st' k' H19 bt hR19 hn19 => ?_⟩
        have k19 := k18.load (ρ' := ⟨ρ.r, ρ.dx, st', ρ.ks ++ [k']⟩) bt rfl rfl hR19 hn19
        have tk19 : TK H18 H19 := fun a zs z => bt _ _ (fun e => by rw [e, hi18] at z; cases z) z
        rw [show runS P P.length = runS (P ++ [q]) P.length from runS_grown.symm] at k19
        have pl1 : (P ++ [q]).length = P.length + 1 := by rw [List.length_append]; rfl
        have tk1119 := TK.trans tk16 (TK.trans (Same.tk s17) (TK.trans tk18 tk19))
        obtain ⟨B, hG, hB⟩ := k19.max
        have hl19 := (k19.own l _ oL2).1
        have hf19 := (k19.own f _ of2).1
        have atf : atI (refsV D.length F ++ [V.ref f]) ((P.length : Nat) : Int) = some (.ref f) := atI_nat (by rw [List.getElem?_append_right (by rw [refsV_len, dl]; exact Nat.le_refl _), refsV_len, dl, Nat.sub_self]; rfl)
        have hBf : B f = some (.lst (natsV w)) := (hB f (.inr (.inr (.inr (.inl (by rw [of2]; exact fun y => by cases y)))))).trans hf19
        tm_at "w"
        refine ⟨_, _, _, _, rfl, rfl, SqL.of hl19, atf, ?_⟩
        tm_at "w"
        refine ⟨rl, rh, f, P.length, P ++ [q], B, _, w, rfl, hG, hBf, hw, run_ok _ _, by omega, fun H20 g20 => ?_⟩
        have tk20 : TK H19 H20 := fun a xs e => g20.same _ _ ((hB a (.inr (.inr (.inr (.inr fun ys y => by rw [e] at y; cases y))))).trans e)
        have k20 : K7 φ T.C_Book T.C_Runtime H20 ⟨ρ.r, ρ.dx, st', ρ.ks ++ [k']⟩ (P ++ [q]) O2 (RR rl rh) (runS (P ++ [q]) (P.length + 1)) := k19.put hB g20
        have hl20 := (k20.own l _ oL2).1
        have hf20 := (k20.own f _ of2).1
        have hT20 := (k20.own tl _ oT2).1
        obtain ⟨B20, hG20, _⟩ := k20.grp
        have ok20 := run_ok (P ++ [q]) (P.length + 1)
        have sl : putSlot (P ++ [q]) (runS (P ++ [q]) P.length false) (runS (P ++ [q]) P.length true) P.length < (runS (P ++ [q]) (P.length + 1) true).length := (putD_len (P := P ++ [q]) (x := P.length) (run_ok _ P.length)).2
        obtain ⟨us, u1, u2, u3⟩ := hG20.at true
        have u1 : H20 rh = some (.lst us) := u1
        obtain ⟨ra, y1, y2⟩ := u3 _ _ (List.getElem?_eq_getElem sl)
        have wd20 := ok20.wd
        clear k19 hG hB hBf
        simp only [List.set_cons_zero, List.set_cons_succ]
        have hvs : vs.length = P.length := hsc.len.trans (runT_len _ _)
        tm_at "w"
        refine ⟨_, _, _, _, rfl, rfl, SqL.of hl20, atf, ?_⟩
        tm_at "w"
        refine ⟨rl, rh, f, P.length, P ++ [q], B20, _, w, rfl, hG20, hf20, hw, by omega, fun d hd => by have := ok20.rows d hd; omega, fun ta H21 s21 hta => ?_⟩
        tm_at "w"
        rw [natsV_len]
        intro pt npt
        obtain ⟨H22, e22, s22, hpt⟩ := new_hide (Same.new (o := .tup [V.int (putSlot (P ++ [q]) (runS (P ++ [q]) P.length false) (runS (P ++ [q]) P.length true) P.length : Nat), V.int (((runS (P ++ [q]) (P.length + 1) true)[putSlot (P ++ [q]) (runS (P ++ [q]) P.length false) (runS (P ++ [q]) P.length true) P.length]).length : Nat), .ref ta]) (Same.refl H21) npt)
        rw [e22]
        have hT : Trip H22 (.ref pt) (tripB (P ++ [q]) P.length) := by
          refine ⟨pt, ta, rfl, ?_, ?_⟩
          · rw [hpt]
            unfold tripB
            simp only
            rw [getD_some (List.getElem?_eq_getElem sl)]
          · rw [s22 _ _ hta]
            unfold tripB
            simp only
            unfold natsV
            rw [List.map_map]
            rfl
        have k22 := k20.same (Same.trans s21 s22)
        have hT22 := (k22.own tl _ oT2).1
        have k23 := k22.set oT2 (vs ++ [.ref pt])
        have tk23 : TK H22 (upd H22 tl (.lst (vs ++ [.ref pt]))) := TK.mut hT22
        have oL3 : upO O2 tl (vs ++ [.ref pt]) l = some (refsV D.length F ++ [.ref f]) := (upO_ne ltl.symm).trans oL2
        have oT3 : upO O2 tl (vs ++ [.ref pt]) tl = some (vs ++ [.ref pt]) := upO_same
        have oF3 : ∀ (j : Nat) r, D[j]? = some r → upO O2 tl (vs ++ [.ref pt]) (F j) = some (natsV r) := fun j r e => (upO_ne (hFn j (List.getElem?_eq_some_iff.mp e).1).2).trans (oF2 j r e)
        have of3 : upO O2 tl (vs ++ [.ref pt]) f = some (natsV w) := (upO_ne ft).trans of2
        tm_at "w"
        revert k23 tk23 oL3 oT3 oF3 of3
        generalize upd H22 tl (.lst (vs ++ [.ref pt])) = H23
        generalize upO O2 tl (vs ++ [.ref pt]) = O3
        intro k23 tk23 oL3 oT3 oF3 of3
        have okP := k23.run.ok
        have il : P.length < (P ++ [q]).length := by omega
        have tk1123 := TK.trans tk1119 (TK.trans tk20 (TK.trans (Same.tk (Same.trans s21 s22)) tk23))
        have hT23 := hT.tk tk23
        clear k20 k22 hG20
        refine ⟨⟨ρ.r, ρ.dx, st', ρ.ks ++ [k']⟩, P ++ [q], .int (P.length : Int), rfl, k23.run, IntK.int _, fun _ => IntK.int _, fun j ej jl t v H24 s24 ht hT' => ?_, fun e => by rw [within_of il] at e; cases e⟩
        obtain rfl : j = P.length := by have := V.int.inj ej; omega
        refine ⟨_, gvD (tripB (P ++ [q]) P.length), rfl, dp_gv ht hT', gv_show okP il, ?_⟩
        rw [txt_eq]
        have k24 := k23.same s24
        have hT24 := (k24.own tl _ oT3).1
        have att : atI (vs ++ [V.ref pt]) ((P.length : Nat) : Int) = some (.ref pt) := atI_nat (by rw [List.getElem?_append_right (by omega), hvs, Nat.sub_self]; rfl)
        tm_at "w"
        refine ⟨_, _, _, _, rfl, rfl, SqL.of hT24, att, ?_⟩
        tm_at "w"
        intro tg ntg
        obtain ⟨H25, e25, s25, htg⟩ := new_hide (Same.new (o := .tup [.str "triple", .ref pt]) (Same.refl H24) ntg)
        rw [e25]
        refine ⟨_, gvD (tripB (P ++ [q]) P.length), rfl, dp_gv htg (hT23.tk (Same.tk (Same.trans s24 s25))), gv_show okP il, ?_⟩
        rw [txt_eq]
        have k25 := k24.same s25
        have hi25 := k25.run.ins
        tm_at "w"
        refine iteEF (by rw [decide_eq_true rfl]; rfl) ?_
        tm_at "w"
        refine ⟨ρ.r, ρ.dx, _, rfl, hi25, rtF_no _ (by decide +kernel), ?_⟩
        tm_at "w"
        refine ⟨⟨ρ.r, ρ.dx, st', ρ.ks ++ [k']⟩, P ++ [q], rfl, k25.run, fun t6 H26 s26 ht6 => ?_⟩
        obtain ⟨pa6, lz⟩ := ht6.grp
        refine ⟨_, .tuple (rowsD (grpZ (runS (P ++ [q]) (P ++ [q]).length false))), rfl, dp_par pa6, grp_show okP lz, ?_⟩
        have k26 := k25.same s26
        rw [← pl1] at k26
        obtain ⟨B26, hG26, _⟩ := k26.grp
        have ok26 := run_ok (P ++ [q]) (P ++ [q]).length
        have wl26 := ok26.wl
        tm_at "w"
        refine ⟨rl, rh, B26, _, rfl, hG26, by omega, fun lot hl => ?_, fun t7 H27 s27 ht7 => ?_⟩
        · obtain ⟨j, hj⟩ := List.mem_iff_getElem?.mp hl
          have := ok26.few j lot hj
          have := (List.getElem?_eq_some_iff.mp hj).1
          omega
        obtain ⟨pa7, _⟩ := ht7.grp
        refine ⟨_, .tuple (rowsD (grpZ (runS (P ++ [q]) (P ++ [q]).length false))), rfl, dp_par pa7, grp_show okP lz, ?_⟩
        tm_at "w"
        refine iteEF (by rw [decide_eq_true rfl]; rfl) ?_
        have tkE := TK.trans tk1123 (Same.tk (Same.trans s24 (Same.trans s25 (Same.trans s26 s27))))
        refine ⟨⟨ρ.r, ρ.dx, st', ρ.ks ++ [k']⟩, P ++ [q], _, _, _, _, rfl, rfl, pl1, O3, D ++ [w], (fun j => if j = D.length then f else F j), vs ++ [.ref pt], k26.same s27, ?_, oT3, fun j r e => ?_, ?_, ⟨by rw [List.length_append, pl1, dl]; rfl, fun j r e => ?_⟩, ltl, fun j hj => ?_⟩
        · rw [oL3, refsV_snoc, List.length_append]
          rfl
        · show O3 (if j = D.length then f else F j) = _
          by_cases z : j = D.length
          · rw [if_pos z, of3]
            rw [z, List.getElem?_append_right (Nat.le_refl _), Nat.sub_self] at e
            rw [Option.some.inj e]
          · have jl : j < D.length := by
              have := (List.getElem?_eq_some_iff.mp e).1
              rw [List.length_append, List.length_singleton] at this
              omega
            rw [List.getElem?_append_left jl] at e
            rw [if_neg z]
            exact oF3 j r e
        · rw [pl1]
          show ScL H27 (vs ++ [.ref pt]) (runT (P ++ [q]) P.length ++ [tripB (P ++ [q]) P.length])
          rw [runT_grown]
          exact (hsc.tk tkE).snoc (hT23.tk (Same.tk (Same.trans s24 (Same.trans s25 (Same.trans s26 s27)))))
        · by_cases jl : j < D.length
          · rw [List.getElem?_append_left jl] at e
            obtain ⟨n1, n2⟩ := hok.lot j r e
            exact ⟨n1, fun k => by rw [n2 k, isA_grown (by omega)]⟩
          · rw [List.getElem?_append_right (by omega)] at e
            have := (List.getElem?_eq_some_iff.mp e).1
            rw [List.length_singleton] at this
            have z : j - D.length = 0 := by omega
            rw [z] at e
            have e : w = r := Option.some.inj e
            rw [← e, show j = P.length by omega]
            exact ⟨nd, hw⟩
        · show (if j = D.length then f else F j) ≠ l ∧ (if j = D.length then f else F j) ≠ tl
          by_cases z : j = D.length
          · rw [if_pos z]
            exact ⟨fl, ft⟩
          · rw [List.length_append, List.length_singleton] at hj
            rw [if_neg z]
            exact hFn j (by omega)
      · rintro σ H11 ⟨ρ, P, v9, v10, v11, v12, rfl, hr, hPi, q11⟩
        subst hr
        obtain ⟨O, D, F, vs, k11, oL, oT, oF, hsc, hok, _, hFn⟩ := id q11
        have hi11 := k11.run.ins
        have Pl : P.length ≤ 24 := by omega
        clear k0 k1 k9 k10 hPi
        tm_at "w"
        refine ⟨ρ.r, ρ.dx, _, rfl, hi11, rtF_no _ (by decide +kernel), ?_⟩
        tm_at "w"
        refine ⟨ρ, P, rfl, k11.run, fun b hb => ?_⟩
        tm_at "w"
        refine ⟨b, P, rfl, hb, by omega, fun t H12 s12 ht => ?_⟩
        refine ⟨_, .tuple ((runT P P.length).map tripD), rfl, dp_sch ht, sch_showD k11.run.ok (Nat.le_refl _) (by omega), ?_⟩
        have k12 := k11.same s12
        have hT12 := (k12.own tl _ oT).1
        tm_at "w"
        intro tt ntt
        obtain ⟨H13, e13, s13, htt⟩ := new_hide (Same.new (o := .tup vs) (Same.refl H12) ntt)
        rw [e13]
        refine ⟨_, .tuple ((runT P P.length).map tripD), rfl, dp_sch ((hsc.tk (Same.tk (Same.trans s12 s13))).sch htt), sch_showD k11.run.ok (Nat.le_refl _) (by omega), ?_⟩
        tm_at "w"
        refine iteEF (by rw [decide_eq_true rfl]; rfl) ?_
        have k13 := k12.same s13
        have hi13 := k13.run.ins
        tm_at "w"
        refine ⟨ρ.r, ρ.dx, _, rfl, hi13, rtF_no _ (by decide +kernel), ?_⟩
        tm_at "w"
        refine ⟨ρ, P, rfl, k13.run, fun b hb => ?_⟩
        tm_at "w"
        refine ⟨b, P, rfl, hb, by omega, fun t H14 s14 ht => ?_⟩
        obtain ⟨pa, lz⟩ := ht.grp
        refine ⟨_, .tuple (rowsD (grpZ (runS P P.length false))), rfl, dp_par pa, grp_show k13.run.ok lz, ?_⟩
        have k14 := k13.same s14
        obtain ⟨B14, hG14, _⟩ := k14.grp
        have ok14 := run_ok P P.length
        have wl14 := ok14.wl
        tm_at "w"
        refine ⟨rl, rh, B14, _, rfl, hG14, by omega, fun lot hl => ?_, fun t7 H15 s15 ht7 => ?_⟩
        · obtain ⟨j, hj⟩ := List.mem_iff_getElem?.mp hl
          have := ok14.few j lot hj
          have := (List.getElem?_eq_some_iff.mp hj).1
          omega
        obtain ⟨pa7, _⟩ := ht7.grp
        refine ⟨_, .tuple (rowsD (grpZ (runS P P.length false))), rfl, dp_par pa7, grp_show k13.run.ok lz, ?_⟩
        tm_at "w"
        rw [decide_eq_true rfl]
        exact k _
end
theorem all_mk {l : PySem.W.OpenLaw} {w : World} {K : PySem.W.Frag} {h : Heap} {mg : Str → Option Value} {fa : Addr} (X : K.In h) (G : h.Ns mainGlobals mg) (hfa : mg "law" = some (.ref fa))
    {t_MOST_PARENTS : Tok}
    {t_MOST_KINDS : Tok}
    {C_Runtime : Addr}
    {C_Groups : Addr}
    {C_Book : Addr}
    {C_NoKind fe_NoKind cc_NoKind cda_NoKind N_NoKind : Addr} {n0_NoKind q0_NoKind : Str} {bs_NoKind bm_NoKind sub_NoKind : List Value} {sn_NoKind : List Str} {ab_NoKind : Bool} {col_NoKind : Option Bool} {dd_NoKind cld_NoKind cdd_NoKind od_NoKind an_NoKind : Option Addr} {k0_NoKind k1_NoKind k2_NoKind k3_NoKind k5_NoKind : Option Value} {cl_NoKind ccl_NoKind oc_NoKind kV_NoKind doc_NoKind pm_NoKind ctv_NoKind : Value} {csl_NoKind ccs_NoKind osl_NoKind : Array (Option Value)} {vs_NoKind : Array Value} {file_NoKind : Str} {tf_NoKind : Tok}
    {C_KindError : Addr}
    {od0 an0 : Option Addr} {sl0 : Array (Option Value)} {oc0 kV0 dc0 pm0 cd0 ct0 : Value} {f0 : Addr}
    {od1 an1 : Option Addr} {sl1 : Array (Option Value)} {oc1 kV1 dc1 pm1 cd1 ct1 : Value} {f1 : Addr}
    {od2 an2 : Option Addr} {sl2 : Array (Option Value)} {oc2 kV2 dc2 pm2 cd2 ct2 : Value} {f2 : Addr}
    {od3 an3 : Option Addr} {sl3 : Array (Option Value)} {oc3 kV3 dc3 pm3 cd3 ct3 : Value} {f3 : Addr}
    {od4 an4 : Option Addr} {sl4 : Array (Option Value)} {oc4 kV4 dc4 pm4 cd4 ct4 : Value} {f4 : Addr}
    {od5 an5 : Option Addr} {sl5 : Array (Option Value)} {oc5 kV5 dc5 pm5 cd5 ct5 : Value} {f5 : Addr}
    {od6 an6 : Option Addr} {sl6 : Array (Option Value)} {oc6 kV6 dc6 pm6 cd6 ct6 : Value} {f6 : Addr}
    {od7 an7 : Option Addr} {sl7 : Array (Option Value)} {oc7 kV7 dc7 pm7 cd7 ct7 : Value} {f7 : Addr}
    {od8 an8 : Option Addr} {sl8 : Array (Option Value)} {oc8 kV8 dc8 pm8 cd8 ct8 : Value} {f8 : Addr}
    {od9 an9 : Option Addr} {sl9 : Array (Option Value)} {oc9 kV9 dc9 pm9 cd9 ct9 : Value} {f9 : Addr}
    {od10 an10 : Option Addr} {sl10 : Array (Option Value)} {oc10 kV10 dc10 pm10 cd10 ct10 : Value} {f10 : Addr}
    {od11 an11 : Option Addr} {sl11 : Array (Option Value)} {oc11 kV11 dc11 pm11 cd11 ct11 : Value} {f11 : Addr}
    {od12 an12 : Option Addr} {sl12 : Array (Option Value)} {oc12 kV12 dc12 pm12 cd12 ct12 : Value} {f12 : Addr}
    {od13 an13 : Option Addr} {sl13 : Array (Option Value)} {oc13 kV13 dc13 pm13 cd13 ct13 : Value} {f13 : Addr}
    {od14 an14 : Option Addr} {sl14 : Array (Option Value)} {oc14 kV14 dc14 pm14 cd14 ct14 : Value} {f14 : Addr}
    {od15 an15 : Option Addr} {sl15 : Array (Option Value)} {oc15 kV15 dc15 pm15 cd15 ct15 : Value} {f15 : Addr}
    {od16 an16 : Option Addr} {sl16 : Array (Option Value)} {oc16 kV16 dc16 pm16 cd16 ct16 : Value} {f16 : Addr}
    {od17 an17 : Option Addr} {sl17 : Array (Option Value)} {oc17 kV17 dc17 pm17 cd17 ct17 : Value} {f17 : Addr}
    {od18 an18 : Option Addr} {sl18 : Array (Option Value)} {oc18 kV18 dc18 pm18 cd18 ct18 : Value} {f18 : Addr}
    {od19 an19 : Option Addr} {sl19 : Array (Option Value)} {oc19 kV19 dc19 pm19 cd19 ct19 : Value} {f19 : Addr}
    {od20 an20 : Option Addr} {sl20 : Array (Option Value)} {oc20 kV20 dc20 pm20 cd20 ct20 : Value} {f20 : Addr}
    {od21 an21 : Option Addr} {sl21 : Array (Option Value)} {oc21 kV21 dc21 pm21 cd21 ct21 : Value} {f21 : Addr}
    {od22 an22 : Option Addr} {sl22 : Array (Option Value)} {oc22 kV22 dc22 pm22 cd22 ct22 : Value} {f22 : Addr}
    {od23 an23 : Option Addr} {sl23 : Array (Option Value)} {oc23 kV23 dc23 pm23 cd23 ct23 : Value} {f23 : Addr}
    {od24 an24 : Option Addr} {sl24 : Array (Option Value)} {oc24 kV24 dc24 pm24 cd24 ct24 : Value} {f24 : Addr}
    {od25 an25 : Option Addr} {sl25 : Array (Option Value)} {oc25 kV25 dc25 pm25 cd25 ct25 : Value} {f25 : Addr}
    {od26 an26 : Option Addr} {sl26 : Array (Option Value)} {oc26 kV26 dc26 pm26 cd26 ct26 : Value} {f26 : Addr}
    {od27 an27 : Option Addr} {sl27 : Array (Option Value)} {oc27 kV27 dc27 pm27 cd27 ct27 : Value} {f27 : Addr}
    {od28 an28 : Option Addr} {sl28 : Array (Option Value)} {oc28 kV28 dc28 pm28 cd28 ct28 : Value} {f28 : Addr}
    {od29 an29 : Option Addr} {sl29 : Array (Option Value)} {oc29 kV29 dc29 pm29 cd29 ct29 : Value} {f29 : Addr}
    {od30 an30 : Option Addr} {sl30 : Array (Option Value)} {oc30 kV30 dc30 pm30 cd30 ct30 : Value} {f30 : Addr}
    {od31 an31 : Option Addr} {sl31 : Array (Option Value)} {oc31 kV31 dc31 pm31 cd31 ct31 : Value} {f31 : Addr}
    {od32 an32 : Option Addr} {sl32 : Array (Option Value)} {oc32 kV32 dc32 pm32 cd32 ct32 : Value} {f32 : Addr}
    {od33 an33 : Option Addr} {sl33 : Array (Option Value)} {oc33 kV33 dc33 pm33 cd33 ct33 : Value} {f33 : Addr}
    {od34 an34 : Option Addr} {sl34 : Array (Option Value)} {oc34 kV34 dc34 pm34 cd34 ct34 : Value} {f34 : Addr}
    {od35 an35 : Option Addr} {sl35 : Array (Option Value)} {oc35 kV35 dc35 pm35 cd35 ct35 : Value} {f35 : Addr}
    {od36 an36 : Option Addr} {sl36 : Array (Option Value)} {oc36 kV36 dc36 pm36 cd36 ct36 : Value} {f36 : Addr}
    {od37 an37 : Option Addr} {sl37 : Array (Option Value)} {oc37 kV37 dc37 pm37 cd37 ct37 : Value} {f37 : Addr}
    {od38 an38 : Option Addr} {sl38 : Array (Option Value)} {oc38 kV38 dc38 pm38 cd38 ct38 : Value} {f38 : Addr}
    {od39 an39 : Option Addr} {sl39 : Array (Option Value)} {oc39 kV39 dc39 pm39 cd39 ct39 : Value} {f39 : Addr}
    {od40 an40 : Option Addr} {sl40 : Array (Option Value)} {oc40 kV40 dc40 pm40 cd40 ct40 : Value} {f40 : Addr}
    {od41 an41 : Option Addr} {sl41 : Array (Option Value)} {oc41 kV41 dc41 pm41 cd41 ct41 : Value} {f41 : Addr}
    {od42 an42 : Option Addr} {sl42 : Array (Option Value)} {oc42 kV42 dc42 pm42 cd42 ct42 : Value} {f42 : Addr}
    {od43 an43 : Option Addr} {sl43 : Array (Option Value)} {oc43 kV43 dc43 pm43 cd43 ct43 : Value} {f43 : Addr}
    (gk_KindError : PySem.W.nsIn K mainGlobals "KindError" = some (some (.ref C_KindError)))
    (op_X : PySem.W.nsIn K cStatics "thirdparty.any" = some none) (tp_X : (l.prog.main.scope.names.lookup ("super" : Str)).isSome = false) (hn_X : PySem.W.specialIn K (.builtin "object.__class__") "__get__" = some (some (.builtin "getset_descriptor.__get__"))) (ht_X : PySem.W.takesIn K (.builtin "object.__class__") = some true) (ns_X : PySem.W.nsIn K mainGlobals "super" = some none)
    (gc_NoKind : PySem.W.nsIn K mainGlobals "NoKind" = some (some (.ref C_NoKind)))
    (lc_NoKind : K.lookup C_NoKind = some (excClassObj n0_NoKind q0_NoKind C_NoKind N_NoKind bs_NoKind bm_NoKind true sn_NoKind sub_NoKind ab_NoKind col_NoKind dd_NoKind k0_NoKind k1_NoKind k2_NoKind k3_NoKind k5_NoKind "ValueError.__new__"))
    (rv_NoKind : PySem.HandSPX.refsVE bm_NoKind = true)
    (sa_NoKind : PySem.W.findIn K (.ref C_NoKind) "__setattr__" = some (some (.builtin "object.__setattr__")))
    (ex_NoKind : PySem.W.subIn K (.ref C_NoKind) (.type "BaseException") = some true)
    (ty_NoKind : PySem.W.typeIn K (.ref C_NoKind) = some (.type "type"))
    (kp_NoKind : PySem.W.keepIn K (.ref C_NoKind) = true)
    (su_NoKind : PySem.W.ks_superIn K C_NoKind C_NoKind "__init__" = some (some (.builtin "ValueError.__init__")))
    (sv_NoKind : PySem.W.subIn K (.ref C_NoKind) (.type "ValueError") = some true)
    (mr_NoKind : PySem.W.mroIn K C_NoKind (.ref C_NoKind) = some true)
    (a_NoKind : PySem.W.findIn K (.ref C_NoKind) "__init__" = some (some (.ref fe_NoKind)))
    (t_NoKind : PySem.W.typeIn K (.ref fe_NoKind) = some (.type "function"))
    (lf_NoKind : K.lookup fe_NoKind = some ⟨oc_NoKind, od_NoKind, .func (PySem.W.fnX "__init__" "NoKind.__init__" (defArgs s_NoKind___init__) (defBody s_NoKind___init__) (defScope s_NoKind___init__) [(("__class__" : Str), cc_NoKind)] .none kV_NoKind doc_NoKind pm_NoKind an_NoKind (.ref cda_NoKind) ctv_NoKind), osl_NoKind⟩)
    (cd_NoKind : PySem.W.codeIn K (.ref cda_NoKind) "NoKind.__init__" = true)
    (ce_NoKind : K.lookup cc_NoKind = some ⟨cl_NoKind, cld_NoKind, .cell (some (.ref C_NoKind)), csl_NoKind⟩)
    (co_NoKind : K.lookup cda_NoKind = some ⟨ccl_NoKind, cdd_NoKind, .fields vs_NoKind, ccs_NoKind⟩)
    (vf_NoKind : vs_NoKind[2]? = some (.str file_NoKind tf_NoKind))
    (ff_NoKind : ((l.prog.main.file : Str) == file_NoKind) = true)
    (ga_NoKind : PySem.W.findIn K (.ref C_NoKind) "__getattribute__" = some (some (.builtin "BaseException.__getattribute__")))
    (gk_NoKind : PySem.W.findIn K (.ref C_NoKind) "__getattr__" = some none)
    (hd_NoKind : PySem.W.hasDictIn K C_NoKind = true)
    (ha_NoKind : PySem.W.findIn K (.ref C_NoKind) "__class__" = some (some (.builtin "object.__class__")))
    (hm_NoKind : PySem.W.mroIn K C_NoKind (.type "object") = some true)
    (xm_NoKind_NoKind : PySem.W.exmOne K (.ref C_NoKind) (.ref C_NoKind) = some true)
    (kt_NoKind_KindError : PySem.W.kitOne K (.ref C_NoKind) (.ref C_KindError) = some true)
    (gc_Book : PySem.W.nsIn K mainGlobals "Book" = some (some (.ref C_Book))) (pg_Book : PySem.W.plainGet K C_Book Str.empty = true) (hd_Book : PySem.W.hasDictIn K C_Book = true) (po_Book : PySem.W.plainOver K C_Book = true) (sa_Book : PySem.W.findIn K (.ref C_Book) "__setattr__" = some (some (.builtin "object.__setattr__"))) (mk_Book : PySem.W.makesIn K C_Book = true) (kc_Book : PySem.W.keepIn K (.ref C_Book) = true) (ta_Book : PySem.W.findIn K (.ref C_Book) "__class__" = some (some (.builtin "object.__class__"))) (tn_Book : PySem.W.specialIn K (.builtin "object.__class__") "__get__" = some (some (.builtin "getset_descriptor.__get__"))) (tt_Book : PySem.W.takesIn K (.builtin "object.__class__") = some true) (tm_Book : PySem.W.mroIn K C_Book (.type "object") = some true)
    (n_Book_parents : PySem.W.findIn K (.ref C_Book) "parents" = some none)
    (n_Book_bits : PySem.W.findIn K (.ref C_Book) "bits" = some none)
    (gc_Groups : PySem.W.nsIn K mainGlobals "Groups" = some (some (.ref C_Groups))) (pg_Groups : PySem.W.plainGet K C_Groups Str.empty = true) (hd_Groups : PySem.W.hasDictIn K C_Groups = true) (po_Groups : PySem.W.plainOver K C_Groups = true) (sa_Groups : PySem.W.findIn K (.ref C_Groups) "__setattr__" = some (some (.builtin "object.__setattr__"))) (mk_Groups : PySem.W.makesIn K C_Groups = true) (kc_Groups : PySem.W.keepIn K (.ref C_Groups) = true) (ta_Groups : PySem.W.findIn K (.ref C_Groups) "__class__" = some (some (.builtin "object.__class__"))) (tn_Groups : PySem.W.specialIn K (.builtin "object.__class__") "__get__" = some (some (.builtin "getset_descriptor.__get__"))) (tt_Groups : PySem.W.takesIn K (.builtin "object.__class__") = some true) (tm_Groups : PySem.W.mroIn K C_Groups (.type "object") = some true)
    (n_Groups_lots : PySem.W.findIn K (.ref C_Groups) "lots" = some none)
    (n_Groups_held : PySem.W.findIn K (.ref C_Groups) "held" = some none)
    (gc_Runtime : PySem.W.nsIn K mainGlobals "Runtime" = some (some (.ref C_Runtime))) (pg_Runtime : PySem.W.plainGet K C_Runtime Str.empty = true) (hd_Runtime : PySem.W.hasDictIn K C_Runtime = true) (po_Runtime : PySem.W.plainOver K C_Runtime = true) (sa_Runtime : PySem.W.findIn K (.ref C_Runtime) "__setattr__" = some (some (.builtin "object.__setattr__"))) (mk_Runtime : PySem.W.makesIn K C_Runtime = true) (kc_Runtime : PySem.W.keepIn K (.ref C_Runtime) = true) (ta_Runtime : PySem.W.findIn K (.ref C_Runtime) "__class__" = some (some (.builtin "object.__class__"))) (tn_Runtime : PySem.W.specialIn K (.builtin "object.__class__") "__get__" = some (some (.builtin "getset_descriptor.__get__"))) (tt_Runtime : PySem.W.takesIn K (.builtin "object.__class__") = some true) (tm_Runtime : PySem.W.mroIn K C_Runtime (.type "object") = some true)
    (n_Runtime_steps : PySem.W.findIn K (.ref C_Runtime) "steps" = some none)
    (kt_Book_int : PySem.W.kitOne K (.ref C_Book) (.type "int") = some false)
    (kt_Book_bool : PySem.W.kitOne K (.ref C_Book) (.type "bool") = some false)
    (kt_Book_tuple : PySem.W.kitOne K (.ref C_Book) (.type "tuple") = some false)
    (kt_Book_list : PySem.W.kitOne K (.ref C_Book) (.type "list") = some false)
    (k_MOST_KINDS : PySem.W.nsIn K mainGlobals "MOST_KINDS" = some (some (.int 400 t_MOST_KINDS)))
    (k_MOST_PARENTS : PySem.W.nsIn K mainGlobals "MOST_PARENTS" = some (some (.int 6 t_MOST_PARENTS)))
    (a0 : PySem.W.nsIn K mainGlobals "is_integer" = some (some (.ref f0)))
    (l0 : K.lookup f0 = some ⟨oc0, od0, .func (PySem.W.fnOf "is_integer" "is_integer" (defArgs s_is_integer) (defBody s_is_integer) (defScope s_is_integer) .none kV0 dc0 pm0 an0 cd0 ct0), sl0⟩) (c0 : PySem.W.codeIn K cd0 "is_integer" = true) (k0 : PySem.W.keepIn K (.ref f0) = true)
    (a1 : PySem.W.nsIn K mainGlobals "is_within" = some (some (.ref f1)))
    (l1 : K.lookup f1 = some ⟨oc1, od1, .func (PySem.W.fnOf "is_within" "is_within" (defArgs s_is_within) (defBody s_is_within) (defScope s_is_within) .none kV1 dc1 pm1 an1 cd1 ct1), sl1⟩) (c1 : PySem.W.codeIn K cd1 "is_within" = true) (k1 : PySem.W.keepIn K (.ref f1) = true)
    (a2 : PySem.W.nsIn K mainGlobals "is_lot" = some (some (.ref f2)))
    (l2 : K.lookup f2 = some ⟨oc2, od2, .func (PySem.W.fnOf "is_lot" "is_lot" (defArgs s_is_lot) (defBody s_is_lot) (defScope s_is_lot) .none kV2 dc2 pm2 an2 cd2 ct2), sl2⟩) (c2 : PySem.W.codeIn K cd2 "is_lot" = true) (k2 : PySem.W.keepIn K (.ref f2) = true)
    (a3 : PySem.W.nsIn K mainGlobals "check_kind_of" = some (some (.ref f3)))
    (l3 : K.lookup f3 = some ⟨oc3, od3, .func (PySem.W.fnOf "check_kind_of" "check_kind_of" (defArgs s_check_kind_of) (defBody s_check_kind_of) (defScope s_check_kind_of) .none kV3 dc3 pm3 an3 cd3 ct3), sl3⟩) (c3 : PySem.W.codeIn K cd3 "check_kind_of" = true) (k3 : PySem.W.keepIn K (.ref f3) = true)
    (a4 : PySem.W.nsIn K mainGlobals "check_most" = some (some (.ref f4)))
    (l4 : K.lookup f4 = some ⟨oc4, od4, .func (PySem.W.fnOf "check_most" "check_most" (defArgs s_check_most) (defBody s_check_most) (defScope s_check_most) .none kV4 dc4 pm4 an4 cd4 ct4), sl4⟩) (c4 : PySem.W.codeIn K cd4 "check_most" = true) (k4 : PySem.W.keepIn K (.ref f4) = true)
    (a5 : PySem.W.nsIn K mainGlobals "are_parents" = some (some (.ref f5)))
    (l5 : K.lookup f5 = some ⟨oc5, od5, .func (PySem.W.fnOf "are_parents" "are_parents" (defArgs s_are_parents) (defBody s_are_parents) (defScope s_are_parents) .none kV5 dc5 pm5 an5 cd5 ct5), sl5⟩) (c5 : PySem.W.codeIn K cd5 "are_parents" = true) (k5 : PySem.W.keepIn K (.ref f5) = true)
    (a6 : PySem.W.findIn K (.ref C_Book) "fill" = some (some (.ref f6))) (i6 : PySem.W.isFn K (.ref f6) = true)
    (l6 : K.lookup f6 = some ⟨oc6, od6, .func (PySem.W.fnOf "fill" "Book.fill" (defArgs s_Book_fill) (defBody s_Book_fill) (defScope s_Book_fill) .none kV6 dc6 pm6 an6 cd6 ct6), sl6⟩) (c6 : PySem.W.codeIn K cd6 "Book.fill" = true) (k6 : PySem.W.keepIn K (.ref f6) = true)
    (a7 : PySem.W.findIn K (.ref C_Book) "__init__" = some (some (.ref f7))) (i7 : PySem.W.isFn K (.ref f7) = true)
    (l7 : K.lookup f7 = some ⟨oc7, od7, .func (PySem.W.fnOf "__init__" "Book.__init__" (defArgs s_Book___init__) (defBody s_Book___init__) (defScope s_Book___init__) .none kV7 dc7 pm7 an7 cd7 ct7), sl7⟩) (c7 : PySem.W.codeIn K cd7 "Book.__init__" = true) (k7 : PySem.W.keepIn K (.ref f7) = true)
    (a8 : PySem.W.nsIn K mainGlobals "book_of" = some (some (.ref f8)))
    (l8 : K.lookup f8 = some ⟨oc8, od8, .func (PySem.W.fnOf "book_of" "book_of" (defArgs s_book_of) (defBody s_book_of) (defScope s_book_of) .none kV8 dc8 pm8 an8 cd8 ct8), sl8⟩) (c8 : PySem.W.codeIn K cd8 "book_of" = true) (k8 : PySem.W.keepIn K (.ref f8) = true)
    (a9 : PySem.W.nsIn K mainGlobals "grown" = some (some (.ref f9)))
    (l9 : K.lookup f9 = some ⟨oc9, od9, .func (PySem.W.fnOf "grown" "grown" (defArgs s_grown) (defBody s_grown) (defScope s_grown) .none kV9 dc9 pm9 an9 cd9 ct9), sl9⟩) (c9 : PySem.W.codeIn K cd9 "grown" = true) (k9 : PySem.W.keepIn K (.ref f9) = true)
    (a10 : PySem.W.nsIn K mainGlobals "many_of" = some (some (.ref f10)))
    (l10 : K.lookup f10 = some ⟨oc10, od10, .func (PySem.W.fnOf "many_of" "many_of" (defArgs s_many_of) (defBody s_many_of) (defScope s_many_of) .none kV10 dc10 pm10 an10 cd10 ct10), sl10⟩) (c10 : PySem.W.codeIn K cd10 "many_of" = true) (k10 : PySem.W.keepIn K (.ref f10) = true)
    (a11 : PySem.W.nsIn K mainGlobals "is_one" = some (some (.ref f11)))
    (l11 : K.lookup f11 = some ⟨oc11, od11, .func (PySem.W.fnOf "is_one" "is_one" (defArgs s_is_one) (defBody s_is_one) (defScope s_is_one) .none kV11 dc11 pm11 an11 cd11 ct11), sl11⟩) (c11 : PySem.W.codeIn K cd11 "is_one" = true) (k11 : PySem.W.keepIn K (.ref f11) = true)
    (a12 : PySem.W.findIn K (.ref C_Groups) "__init__" = some (some (.ref f12))) (i12 : PySem.W.isFn K (.ref f12) = true)
    (l12 : K.lookup f12 = some ⟨oc12, od12, .func (PySem.W.fnOf "__init__" "Groups.__init__" (defArgs s_Groups___init__) (defBody s_Groups___init__) (defScope s_Groups___init__) .none kV12 dc12 pm12 an12 cd12 ct12), sl12⟩) (c12 : PySem.W.codeIn K cd12 "Groups.__init__" = true) (k12 : PySem.W.keepIn K (.ref f12) = true)
    (a13 : PySem.W.findIn K (.ref C_Groups) "fitting" = some (some (.ref f13))) (i13 : PySem.W.isFn K (.ref f13) = true)
    (l13 : K.lookup f13 = some ⟨oc13, od13, .func (PySem.W.fnOf "fitting" "Groups.fitting" (defArgs s_Groups_fitting) (defBody s_Groups_fitting) (defScope s_Groups_fitting) .none kV13 dc13 pm13 an13 cd13 ct13), sl13⟩) (c13 : PySem.W.codeIn K cd13 "Groups.fitting" = true) (k13 : PySem.W.keepIn K (.ref f13) = true)
    (a14 : PySem.W.findIn K (.ref C_Groups) "taken" = some (some (.ref f14))) (i14 : PySem.W.isFn K (.ref f14) = true)
    (l14 : K.lookup f14 = some ⟨oc14, od14, .func (PySem.W.fnOf "taken" "Groups.taken" (defArgs s_Groups_taken) (defBody s_Groups_taken) (defScope s_Groups_taken) .none kV14 dc14 pm14 an14 cd14 ct14), sl14⟩) (c14 : PySem.W.codeIn K cd14 "Groups.taken" = true) (k14 : PySem.W.keepIn K (.ref f14) = true)
    (a15 : PySem.W.findIn K (.ref C_Groups) "put" = some (some (.ref f15))) (i15 : PySem.W.isFn K (.ref f15) = true)
    (l15 : K.lookup f15 = some ⟨oc15, od15, .func (PySem.W.fnOf "put" "Groups.put" (defArgs s_Groups_put) (defBody s_Groups_put) (defScope s_Groups_put) .none kV15 dc15 pm15 an15 cd15 ct15), sl15⟩) (c15 : PySem.W.codeIn K cd15 "Groups.put" = true) (k15 : PySem.W.keepIn K (.ref f15) = true)
    (a16 : PySem.W.findIn K (.ref C_Groups) "told" = some (some (.ref f16))) (i16 : PySem.W.isFn K (.ref f16) = true)
    (l16 : K.lookup f16 = some ⟨oc16, od16, .func (PySem.W.fnOf "told" "Groups.told" (defArgs s_Groups_told) (defBody s_Groups_told) (defScope s_Groups_told) .none kV16 dc16 pm16 an16 cd16 ct16), sl16⟩) (c16 : PySem.W.codeIn K cd16 "Groups.told" = true) (k16 : PySem.W.keepIn K (.ref f16) = true)
    (a17 : PySem.W.nsIn K mainGlobals "entries_of" = some (some (.ref f17)))
    (l17 : K.lookup f17 = some ⟨oc17, od17, .func (PySem.W.fnOf "entries_of" "entries_of" (defArgs s_entries_of) (defBody s_entries_of) (defScope s_entries_of) .none kV17 dc17 pm17 an17 cd17 ct17), sl17⟩) (c17 : PySem.W.codeIn K cd17 "entries_of" = true) (k17 : PySem.W.keepIn K (.ref f17) = true)
    (a18 : PySem.W.nsIn K mainGlobals "gone_through" = some (some (.ref f18)))
    (l18 : K.lookup f18 = some ⟨oc18, od18, .func (PySem.W.fnOf "gone_through" "gone_through" (defArgs s_gone_through) (defBody s_gone_through) (defScope s_gone_through) .none kV18 dc18 pm18 an18 cd18 ct18), sl18⟩) (c18 : PySem.W.codeIn K cd18 "gone_through" = true) (k18 : PySem.W.keepIn K (.ref f18) = true)
    (a19 : PySem.W.nsIn K mainGlobals "groups" = some (some (.ref f19)))
    (l19 : K.lookup f19 = some ⟨oc19, od19, .func (PySem.W.fnOf "groups" "groups" (defArgs s_groups) (defBody s_groups) (defScope s_groups) .none kV19 dc19 pm19 an19 cd19 ct19), sl19⟩) (c19 : PySem.W.codeIn K cd19 "groups" = true) (k19 : PySem.W.keepIn K (.ref f19) = true)
    (a20 : PySem.W.nsIn K mainGlobals "told_scheme" = some (some (.ref f20)))
    (l20 : K.lookup f20 = some ⟨oc20, od20, .func (PySem.W.fnOf "told_scheme" "told_scheme" (defArgs s_told_scheme) (defBody s_told_scheme) (defScope s_told_scheme) .none kV20 dc20 pm20 an20 cd20 ct20), sl20⟩) (c20 : PySem.W.codeIn K cd20 "told_scheme" = true) (k20 : PySem.W.keepIn K (.ref f20) = true)
    (a21 : PySem.W.nsIn K mainGlobals "told" = some (some (.ref f21)))
    (l21 : K.lookup f21 = some ⟨oc21, od21, .func (PySem.W.fnOf "told" "told" (defArgs s_told) (defBody s_told) (defScope s_told) .none kV21 dc21 pm21 an21 cd21 ct21), sl21⟩) (c21 : PySem.W.codeIn K cd21 "told" = true) (k21 : PySem.W.keepIn K (.ref f21) = true)
    (a22 : PySem.W.nsIn K mainGlobals "_law_flow" = some (some (.ref f22)))
    (l22 : K.lookup f22 = some ⟨oc22, od22, .func (PySem.W.fnOf "_law_flow" "_law_flow" (defArgs s__law_flow) (defBody s__law_flow) (defScope s__law_flow) .none kV22 dc22 pm22 an22 cd22 ct22), sl22⟩) (c22 : PySem.W.codeIn K cd22 "_law_flow" = true) (k22 : PySem.W.keepIn K (.ref f22) = true)
    (a23 : PySem.W.nsIn K mainGlobals "_law_draw" = some (some (.ref f23)))
    (l23 : K.lookup f23 = some ⟨oc23, od23, .func (PySem.W.fnOf "_law_draw" "_law_draw" (defArgs s__law_draw) (defBody s__law_draw) (defScope s__law_draw) .none kV23 dc23 pm23 an23 cd23 ct23), sl23⟩) (c23 : PySem.W.codeIn K cd23 "_law_draw" = true) (k23 : PySem.W.keepIn K (.ref f23) = true)
    (a24 : PySem.W.nsIn K mainGlobals "_law_parents" = some (some (.ref f24)))
    (l24 : K.lookup f24 = some ⟨oc24, od24, .func (PySem.W.fnOf "_law_parents" "_law_parents" (defArgs s__law_parents) (defBody s__law_parents) (defScope s__law_parents) .none kV24 dc24 pm24 an24 cd24 ct24), sl24⟩) (c24 : PySem.W.codeIn K cd24 "_law_parents" = true) (k24 : PySem.W.keepIn K (.ref f24) = true)
    (a25 : PySem.W.nsIn K mainGlobals "_law_lot" = some (some (.ref f25)))
    (l25 : K.lookup f25 = some ⟨oc25, od25, .func (PySem.W.fnOf "_law_lot" "_law_lot" (defArgs s__law_lot) (defBody s__law_lot) (defScope s__law_lot) .none kV25 dc25 pm25 an25 cd25 ct25), sl25⟩) (c25 : PySem.W.codeIn K cd25 "_law_lot" = true) (k25 : PySem.W.keepIn K (.ref f25) = true)
    (a26 : PySem.W.nsIn K mainGlobals "_law_free" = some (some (.ref f26)))
    (l26 : K.lookup f26 = some ⟨oc26, od26, .func (PySem.W.fnOf "_law_free" "_law_free" (defArgs s__law_free) (defBody s__law_free) (defScope s__law_free) .none kV26 dc26 pm26 an26 cd26 ct26), sl26⟩) (c26 : PySem.W.codeIn K cd26 "_law_free" = true) (k26 : PySem.W.keepIn K (.ref f26) = true)
    (a27 : PySem.W.nsIn K mainGlobals "_law_entries" = some (some (.ref f27)))
    (l27 : K.lookup f27 = some ⟨oc27, od27, .func (PySem.W.fnOf "_law_entries" "_law_entries" (defArgs s__law_entries) (defBody s__law_entries) (defScope s__law_entries) .none kV27 dc27 pm27 an27 cd27 ct27), sl27⟩) (c27 : PySem.W.codeIn K cd27 "_law_entries" = true) (k27 : PySem.W.keepIn K (.ref f27) = true)
    (a28 : PySem.W.nsIn K mainGlobals "_law_place" = some (some (.ref f28)))
    (l28 : K.lookup f28 = some ⟨oc28, od28, .func (PySem.W.fnOf "_law_place" "_law_place" (defArgs s__law_place) (defBody s__law_place) (defScope s__law_place) .none kV28 dc28 pm28 an28 cd28 ct28), sl28⟩) (c28 : PySem.W.codeIn K cd28 "_law_place" = true) (k28 : PySem.W.keepIn K (.ref f28) = true)
    (a29 : PySem.W.nsIn K mainGlobals "_law_put" = some (some (.ref f29)))
    (l29 : K.lookup f29 = some ⟨oc29, od29, .func (PySem.W.fnOf "_law_put" "_law_put" (defArgs s__law_put) (defBody s__law_put) (defScope s__law_put) .none kV29 dc29 pm29 an29 cd29 ct29), sl29⟩) (c29 : PySem.W.codeIn K cd29 "_law_put" = true) (k29 : PySem.W.keepIn K (.ref f29) = true)
    (a30 : PySem.W.nsIn K mainGlobals "_law_groups" = some (some (.ref f30)))
    (l30 : K.lookup f30 = some ⟨oc30, od30, .func (PySem.W.fnOf "_law_groups" "_law_groups" (defArgs s__law_groups) (defBody s__law_groups) (defScope s__law_groups) .none kV30 dc30 pm30 an30 cd30 ct30), sl30⟩) (c30 : PySem.W.codeIn K cd30 "_law_groups" = true) (k30 : PySem.W.keepIn K (.ref f30) = true)
    (a31 : PySem.W.nsIn K mainGlobals "groups_from" = some (some (.ref f31)))
    (l31 : K.lookup f31 = some ⟨oc31, od31, .func (PySem.W.fnOf "groups_from" "groups_from" (defArgs s_groups_from) (defBody s_groups_from) (defScope s_groups_from) .none kV31 dc31 pm31 an31 cd31 ct31), sl31⟩) (c31 : PySem.W.codeIn K cd31 "groups_from" = true) (k31 : PySem.W.keepIn K (.ref f31) = true)
    (a32 : PySem.W.nsIn K mainGlobals "first_step" = some (some (.ref f32)))
    (l32 : K.lookup f32 = some ⟨oc32, od32, .func (PySem.W.fnOf "first_step" "first_step" (defArgs s_first_step) (defBody s_first_step) (defScope s_first_step) .none kV32 dc32 pm32 an32 cd32 ct32), sl32⟩) (c32 : PySem.W.codeIn K cd32 "first_step" = true) (k32 : PySem.W.keepIn K (.ref f32) = true)
    (a33 : PySem.W.nsIn K mainGlobals "next_step" = some (some (.ref f33)))
    (l33 : K.lookup f33 = some ⟨oc33, od33, .func (PySem.W.fnOf "next_step" "next_step" (defArgs s_next_step) (defBody s_next_step) (defScope s_next_step) .none kV33 dc33 pm33 an33 cd33 ct33), sl33⟩) (c33 : PySem.W.codeIn K cd33 "next_step" = true) (k33 : PySem.W.keepIn K (.ref f33) = true)
    (a34 : PySem.W.findIn K (.ref C_Runtime) "__init__" = some (some (.ref f34))) (i34 : PySem.W.isFn K (.ref f34) = true)
    (l34 : K.lookup f34 = some ⟨oc34, od34, .func (PySem.W.fnOf "__init__" "Runtime.__init__" (defArgs s_Runtime___init__) (defBody s_Runtime___init__) (defScope s_Runtime___init__) .none kV34 dc34 pm34 an34 cd34 ct34), sl34⟩) (c34 : PySem.W.codeIn K cd34 "Runtime.__init__" = true) (k34 : PySem.W.keepIn K (.ref f34) = true)
    (a35 : PySem.W.findIn K (.ref C_Runtime) "many" = some (some (.ref f35))) (i35 : PySem.W.isFn K (.ref f35) = true)
    (l35 : K.lookup f35 = some ⟨oc35, od35, .func (PySem.W.fnOf "many" "Runtime.many" (defArgs s_Runtime_many) (defBody s_Runtime_many) (defScope s_Runtime_many) .none kV35 dc35 pm35 an35 cd35 ct35), sl35⟩) (c35 : PySem.W.codeIn K cd35 "Runtime.many" = true) (k35 : PySem.W.keepIn K (.ref f35) = true)
    (a36 : PySem.W.findIn K (.ref C_Runtime) "load" = some (some (.ref f36))) (i36 : PySem.W.isFn K (.ref f36) = true)
    (l36 : K.lookup f36 = some ⟨oc36, od36, .func (PySem.W.fnOf "load" "Runtime.load" (defArgs s_Runtime_load) (defBody s_Runtime_load) (defScope s_Runtime_load) .none kV36 dc36 pm36 an36 cd36 ct36), sl36⟩) (c36 : PySem.W.codeIn K cd36 "Runtime.load" = true) (k36 : PySem.W.keepIn K (.ref f36) = true)
    (a37 : PySem.W.findIn K (.ref C_Runtime) "ask" = some (some (.ref f37))) (i37 : PySem.W.isFn K (.ref f37) = true)
    (l37 : K.lookup f37 = some ⟨oc37, od37, .func (PySem.W.fnOf "ask" "Runtime.ask" (defArgs s_Runtime_ask) (defBody s_Runtime_ask) (defScope s_Runtime_ask) .none kV37 dc37 pm37 an37 cd37 ct37), sl37⟩) (c37 : PySem.W.codeIn K cd37 "Runtime.ask" = true) (k37 : PySem.W.keepIn K (.ref f37) = true)
    (a38 : PySem.W.findIn K (.ref C_Runtime) "given" = some (some (.ref f38))) (i38 : PySem.W.isFn K (.ref f38) = true)
    (l38 : K.lookup f38 = some ⟨oc38, od38, .func (PySem.W.fnOf "given" "Runtime.given" (defArgs s_Runtime_given) (defBody s_Runtime_given) (defScope s_Runtime_given) .none kV38 dc38 pm38 an38 cd38 ct38), sl38⟩) (c38 : PySem.W.codeIn K cd38 "Runtime.given" = true) (k38 : PySem.W.keepIn K (.ref f38) = true)
    (a39 : PySem.W.findIn K (.ref C_Runtime) "book" = some (some (.ref f39))) (i39 : PySem.W.isFn K (.ref f39) = true)
    (l39 : K.lookup f39 = some ⟨oc39, od39, .func (PySem.W.fnOf "book" "Runtime.book" (defArgs s_Runtime_book) (defBody s_Runtime_book) (defScope s_Runtime_book) .none kV39 dc39 pm39 an39 cd39 ct39), sl39⟩) (c39 : PySem.W.codeIn K cd39 "Runtime.book" = true) (k39 : PySem.W.keepIn K (.ref f39) = true)
    (a40 : PySem.W.findIn K (.ref C_Runtime) "groups" = some (some (.ref f40))) (i40 : PySem.W.isFn K (.ref f40) = true)
    (l40 : K.lookup f40 = some ⟨oc40, od40, .func (PySem.W.fnOf "groups" "Runtime.groups" (defArgs s_Runtime_groups) (defBody s_Runtime_groups) (defScope s_Runtime_groups) .none kV40 dc40 pm40 an40 cd40 ct40), sl40⟩) (c40 : PySem.W.codeIn K cd40 "Runtime.groups" = true) (k40 : PySem.W.keepIn K (.ref f40) = true)
    (a41 : PySem.W.nsIn K mainGlobals "_law_given" = some (some (.ref f41)))
    (l41 : K.lookup f41 = some ⟨oc41, od41, .func (PySem.W.fnOf "_law_given" "_law_given" (defArgs s__law_given) (defBody s__law_given) (defScope s__law_given) .none kV41 dc41 pm41 an41 cd41 ct41), sl41⟩) (c41 : PySem.W.codeIn K cd41 "_law_given" = true) (k41 : PySem.W.keepIn K (.ref f41) = true)
    (a42 : PySem.W.nsIn K mainGlobals "_law_great" = some (some (.ref f42)))
    (l42 : K.lookup f42 = some ⟨oc42, od42, .func (PySem.W.fnOf "_law_great" "_law_great" (defArgs s__law_great) (defBody s__law_great) (defScope s__law_great) .none kV42 dc42 pm42 an42 cd42 ct42), sl42⟩) (c42 : PySem.W.codeIn K cd42 "_law_great" = true) (k42 : PySem.W.keepIn K (.ref f42) = true)
    (a43 : PySem.W.nsIn K mainGlobals "law" = some (some (.ref f43)))
    (l43 : K.lookup f43 = some ⟨oc43, od43, .func (PySem.W.fnOf "law" "law" (defArgs s_law) (defBody s_law) (defScope s_law) .none kV43 dc43 pm43 an43 cd43 ct43), sl43⟩) (c43 : PySem.W.codeIn K cd43 "law" = true) (k43 : PySem.W.keepIn K (.ref f43) = true)
    (z_abs : PySem.W.nsIn K mainGlobals "abs" = some none)
    (z_bool : PySem.W.nsIn K mainGlobals "bool" = some none)
    (z_enumerate : PySem.W.nsIn K mainGlobals "enumerate" = some none)
    (z_int : PySem.W.nsIn K mainGlobals "int" = some none)
    (z_isinstance : PySem.W.nsIn K mainGlobals "isinstance" = some none)
    (z_len : PySem.W.nsIn K mainGlobals "len" = some none)
    (z_list : PySem.W.nsIn K mainGlobals "list" = some none)
    (z_max : PySem.W.nsIn K mainGlobals "max" = some none)
    (z_min : PySem.W.nsIn K mainGlobals "min" = some none)
    (z_range : PySem.W.nsIn K mainGlobals "range" = some none)
    (z_repr : PySem.W.nsIn K mainGlobals "repr" = some none)
    (z_sorted : PySem.W.nsIn K mainGlobals "sorted" = some none)
    (z_tuple : PySem.W.nsIn K mainGlobals "tuple" = some none) :
    ∃ fd : FuncData, (∀ (s : Shared) (v : Value), BindsTo s fd ⟨[v], []⟩ [("_law_script", v)]) ∧ ∀ base : Heap, K.In base → base.Ns mainGlobals mg → FnG l.prog w K mg base CX0 11 fa fd ["_law_script"] (sp_law K) := by
  have e := hfa.symm.trans (PySem.W.mg_of X G a43)
  cases e
  exact ⟨_, fun s v => .of_eq rfl, fun base _ _ => ok_law {
    C_KindError := C_KindError, g_KindError := PySem.W.mg_of X G gk_KindError,
    C_NoKind := C_NoKind, f_NoKind___init__ := fe_NoKind, fd_NoKind___init__ := _, er_NoKind := err_mk (PySem.W.mg_of X G gc_NoKind) lc_NoKind rv_NoKind sa_NoKind ex_NoKind ty_NoKind kp_NoKind op_X su_NoKind sv_NoKind mr_NoKind ce_NoKind co_NoKind vf_NoKind ff_NoKind lf_NoKind cd_NoKind a_NoKind t_NoKind tp_X (PySem.W.mg_none_of X G ns_X) rfl rfl rfl rfl ⟨_, rfl, rfl⟩ (fun us hl => match us, hl with | [_], _ => rfl) ga_NoKind gk_NoKind hd_NoKind ha_NoKind hn_X ht_X hm_NoKind,
    xm_NoKind_NoKind := xm_NoKind_NoKind,
    kt_NoKind_KindError := kt_NoKind_KindError,
    C_Book := C_Book, g_Book := PySem.W.mg_of X G gc_Book, cl_Book := ⟨pg_Book, hd_Book, po_Book, sa_Book⟩, ty_Book := ⟨ta_Book, tn_Book, tt_Book, tm_Book⟩,
    n_Book_parents := n_Book_parents,
    n_Book_bits := n_Book_bits,
    C_Groups := C_Groups, g_Groups := PySem.W.mg_of X G gc_Groups, cl_Groups := ⟨pg_Groups, hd_Groups, po_Groups, sa_Groups⟩, ty_Groups := ⟨ta_Groups, tn_Groups, tt_Groups, tm_Groups⟩,
    n_Groups_lots := n_Groups_lots,
    n_Groups_held := n_Groups_held,
    C_Runtime := C_Runtime, g_Runtime := PySem.W.mg_of X G gc_Runtime, cl_Runtime := ⟨pg_Runtime, hd_Runtime, po_Runtime, sa_Runtime⟩, ty_Runtime := ⟨ta_Runtime, tn_Runtime, tt_Runtime, tm_Runtime⟩,
    n_Runtime_steps := n_Runtime_steps,
    kt_Book_int := kt_Book_int,
    kt_Book_bool := kt_Book_bool,
    kt_Book_tuple := kt_Book_tuple,
    kt_Book_list := kt_Book_list,
    c_MOST_KINDS := ⟨_, PySem.W.mg_of X G k_MOST_KINDS⟩,
    c_MOST_PARENTS := ⟨_, PySem.W.mg_of X G k_MOST_PARENTS⟩,
    f_is_integer := f0, fd_is_integer := _, F_is_integer := (fun_mk (st := s_is_integer) l0 c0 k0), b_is_integer := (fun_mk (st := s_is_integer) l0 c0 k0).binds (ps := ["thing"]) (fun _ _ _ _ _ _ us hl => match us, hl with | [_], _ => rfl), g_is_integer := PySem.W.mg_of X G a0,
    f_is_within := f1, fd_is_within := _, F_is_within := (fun_mk (st := s_is_within) l1 c1 k1), b_is_within := (fun_mk (st := s_is_within) l1 c1 k1).binds (ps := ["thing", "least", "most"]) (fun _ _ _ _ _ _ us hl => match us, hl with | [_, _, _], _ => rfl), g_is_within := PySem.W.mg_of X G a1,
    f_is_lot := f2, fd_is_lot := _, F_is_lot := (fun_mk (st := s_is_lot) l2 c2 k2), b_is_lot := (fun_mk (st := s_is_lot) l2 c2 k2).binds (ps := ["thing", "many"]) (fun _ _ _ _ _ _ us hl => match us, hl with | [_, _], _ => rfl), g_is_lot := PySem.W.mg_of X G a2,
    f_check_kind_of := f3, fd_check_kind_of := _, F_check_kind_of := (fun_mk (st := s_check_kind_of) l3 c3 k3), b_check_kind_of := (fun_mk (st := s_check_kind_of) l3 c3 k3).binds (ps := ["thing", "many"]) (fun _ _ _ _ _ _ us hl => match us, hl with | [_, _], _ => rfl), g_check_kind_of := PySem.W.mg_of X G a3,
    f_check_most := f4, fd_check_most := _, F_check_most := (fun_mk (st := s_check_most) l4 c4 k4), b_check_most := (fun_mk (st := s_check_most) l4 c4 k4).binds (ps := ["number", "most"]) (fun _ _ _ _ _ _ us hl => match us, hl with | [_, _], _ => rfl), g_check_most := PySem.W.mg_of X G a4,
    f_are_parents := f5, fd_are_parents := _, F_are_parents := (fun_mk (st := s_are_parents) l5 c5 k5), b_are_parents := (fun_mk (st := s_are_parents) l5 c5 k5).binds (ps := ["thing", "number"]) (fun _ _ _ _ _ _ us hl => match us, hl with | [_, _], _ => rfl), g_are_parents := PySem.W.mg_of X G a5,
    f_Book_fill := f6, fd_Book_fill := _, F_Book_fill := (fun_mk (st := s_Book_fill) l6 c6 k6), b_Book_fill := (fun_mk (st := s_Book_fill) l6 c6 k6).binds (ps := ["self", "parents"]) (fun _ _ _ _ _ _ us hl => match us, hl with | [_, _], _ => rfl), m_Book_fill := ⟨a6, i6, k6⟩,
    f_Book___init__ := f7, fd_Book___init__ := _, F_Book___init__ := (fun_mk (st := s_Book___init__) l7 c7 k7), b_Book___init__ := (fun_mk (st := s_Book___init__) l7 c7 k7).binds (ps := ["self", "parents"]) (fun _ _ _ _ _ _ us hl => match us, hl with | [_, _], _ => rfl), m_Book___init__ := ⟨a7, i7, k7⟩, M_Book := ⟨mk_Book, a7, i7, kc_Book⟩,
    f_book_of := f8, fd_book_of := _, F_book_of := (fun_mk (st := s_book_of) l8 c8 k8), b_book_of := (fun_mk (st := s_book_of) l8 c8 k8).binds (ps := ["parents"]) (fun _ _ _ _ _ _ us hl => match us, hl with | [_], _ => rfl), g_book_of := PySem.W.mg_of X G a8,
    f_grown := f9, fd_grown := _, F_grown := (fun_mk (st := s_grown) l9 c9 k9), b_grown := (fun_mk (st := s_grown) l9 c9 k9).binds (ps := ["book", "parents"]) (fun _ _ _ _ _ _ us hl => match us, hl with | [_, _], _ => rfl), g_grown := PySem.W.mg_of X G a9,
    f_many_of := f10, fd_many_of := _, F_many_of := (fun_mk (st := s_many_of) l10 c10 k10), b_many_of := (fun_mk (st := s_many_of) l10 c10 k10).binds (ps := ["book"]) (fun _ _ _ _ _ _ us hl => match us, hl with | [_], _ => rfl), g_many_of := PySem.W.mg_of X G a10,
    f_is_one := f11, fd_is_one := _, F_is_one := (fun_mk (st := s_is_one) l11 c11 k11), b_is_one := (fun_mk (st := s_is_one) l11 c11 k11).binds (ps := ["book", "x", "p"]) (fun _ _ _ _ _ _ us hl => match us, hl with | [_, _, _], _ => rfl), g_is_one := PySem.W.mg_of X G a11,
    f_Groups___init__ := f12, fd_Groups___init__ := _, F_Groups___init__ := (fun_mk (st := s_Groups___init__) l12 c12 k12), b_Groups___init__ := (fun_mk (st := s_Groups___init__) l12 c12 k12).binds (ps := ["self"]) (fun _ _ _ _ _ _ us hl => match us, hl with | [_], _ => rfl), m_Groups___init__ := ⟨a12, i12, k12⟩, M_Groups := ⟨mk_Groups, a12, i12, kc_Groups⟩,
    f_Groups_fitting := f13, fd_Groups_fitting := _, F_Groups_fitting := (fun_mk (st := s_Groups_fitting) l13 c13 k13), b_Groups_fitting := (fun_mk (st := s_Groups_fitting) l13 c13 k13).binds (ps := ["self", "book", "lot", "x"]) (fun _ _ _ _ _ _ us hl => match us, hl with | [_, _, _, _], _ => rfl), m_Groups_fitting := ⟨a13, i13, k13⟩,
    f_Groups_taken := f14, fd_Groups_taken := _, F_Groups_taken := (fun_mk (st := s_Groups_taken) l14 c14 k14), b_Groups_taken := (fun_mk (st := s_Groups_taken) l14 c14 k14).binds (ps := ["self", "book", "x"]) (fun _ _ _ _ _ _ us hl => match us, hl with | [_, _, _], _ => rfl), m_Groups_taken := ⟨a14, i14, k14⟩,
    f_Groups_put := f15, fd_Groups_put := _, F_Groups_put := (fun_mk (st := s_Groups_put) l15 c15 k15), b_Groups_put := (fun_mk (st := s_Groups_put) l15 c15 k15).binds (ps := ["self", "book", "x"]) (fun _ _ _ _ _ _ us hl => match us, hl with | [_, _, _], _ => rfl), m_Groups_put := ⟨a15, i15, k15⟩,
    f_Groups_told := f16, fd_Groups_told := _, F_Groups_told := (fun_mk (st := s_Groups_told) l16 c16 k16), b_Groups_told := (fun_mk (st := s_Groups_told) l16 c16 k16).binds (ps := ["self"]) (fun _ _ _ _ _ _ us hl => match us, hl with | [_], _ => rfl), m_Groups_told := ⟨a16, i16, k16⟩,
    f_entries_of := f17, fd_entries_of := _, F_entries_of := (fun_mk (st := s_entries_of) l17 c17 k17), b_entries_of := (fun_mk (st := s_entries_of) l17 c17 k17).binds (ps := ["book", "held", "x"]) (fun _ _ _ _ _ _ us hl => match us, hl with | [_, _, _], _ => rfl), g_entries_of := PySem.W.mg_of X G a17,
    f_gone_through := f18, fd_gone_through := _, F_gone_through := (fun_mk (st := s_gone_through) l18 c18 k18), b_gone_through := (fun_mk (st := s_gone_through) l18 c18 k18).binds (ps := ["book"]) (fun _ _ _ _ _ _ us hl => match us, hl with | [_], _ => rfl), g_gone_through := PySem.W.mg_of X G a18,
    f_groups := f19, fd_groups := _, F_groups := (fun_mk (st := s_groups) l19 c19 k19), b_groups := (fun_mk (st := s_groups) l19 c19 k19).binds (ps := ["book"]) (fun _ _ _ _ _ _ us hl => match us, hl with | [_], _ => rfl), g_groups := PySem.W.mg_of X G a19,
    f_told_scheme := f20, fd_told_scheme := _, F_told_scheme := (fun_mk (st := s_told_scheme) l20 c20 k20), b_told_scheme := (fun_mk (st := s_told_scheme) l20 c20 k20).binds (ps := ["book"]) (fun _ _ _ _ _ _ us hl => match us, hl with | [_], _ => rfl), g_told_scheme := PySem.W.mg_of X G a20,
    f_told := f21, fd_told := _, F_told := (fun_mk (st := s_told) l21 c21 k21), b_told := (fun_mk (st := s_told) l21 c21 k21).binds (ps := ["scheme", "x", "p"]) (fun _ _ _ _ _ _ us hl => match us, hl with | [_, _, _], _ => rfl), g_told := PySem.W.mg_of X G a21,
    f__law_flow := f22, fd__law_flow := _, F__law_flow := (fun_mk (st := s__law_flow) l22 c22 k22), b__law_flow := (fun_mk (st := s__law_flow) l22 c22 k22).binds (ps := ["_law_script"]) (fun _ _ _ _ _ _ us hl => match us, hl with | [_], _ => rfl), g__law_flow := PySem.W.mg_of X G a22,
    f__law_draw := f23, fd__law_draw := _, F__law_draw := (fun_mk (st := s__law_draw) l23 c23 k23), b__law_draw := (fun_mk (st := s__law_draw) l23 c23 k23).binds (ps := ["_law_flow_here", "_law_many"]) (fun _ _ _ _ _ _ us hl => match us, hl with | [_, _], _ => rfl), g__law_draw := PySem.W.mg_of X G a23,
    f__law_parents := f24, fd__law_parents := _, F__law_parents := (fun_mk (st := s__law_parents) l24 c24 k24), b__law_parents := (fun_mk (st := s__law_parents) l24 c24 k24).binds (ps := ["_law_flow_here", "_law_many", "_law_shape"]) (fun _ _ _ _ _ _ us hl => match us, hl with | [_, _, _], _ => rfl), g__law_parents := PySem.W.mg_of X G a24,
    f__law_lot := f25, fd__law_lot := _, F__law_lot := (fun_mk (st := s__law_lot) l25 c25 k25), b__law_lot := (fun_mk (st := s__law_lot) l25 c25 k25).binds (ps := ["_law_lots", "_law_parents_here"]) (fun _ _ _ _ _ _ us hl => match us, hl with | [_, _], _ => rfl), g__law_lot := PySem.W.mg_of X G a25,
    f__law_free := f26, fd__law_free := _, F__law_free := (fun_mk (st := s__law_free) l26 c26 k26), b__law_free := (fun_mk (st := s__law_free) l26 c26 k26).binds (ps := ["_law_held", "_law_lot_here", "_law_group"]) (fun _ _ _ _ _ _ us hl => match us, hl with | [_, _, _], _ => rfl), g__law_free := PySem.W.mg_of X G a26,
    f__law_entries := f27, fd__law_entries := _, F__law_entries := (fun_mk (st := s__law_entries) l27 c27 k27), b__law_entries := (fun_mk (st := s__law_entries) l27 c27 k27).binds (ps := ["_law_held", "_law_lot_here"]) (fun _ _ _ _ _ _ us hl => match us, hl with | [_, _], _ => rfl), g__law_entries := PySem.W.mg_of X G a27,
    f__law_place := f28, fd__law_place := _, F__law_place := (fun_mk (st := s__law_place) l28 c28 k28), b__law_place := (fun_mk (st := s__law_place) l28 c28 k28).binds (ps := ["_law_rows", "_law_held", "_law_lot_here"]) (fun _ _ _ _ _ _ us hl => match us, hl with | [_, _, _], _ => rfl), g__law_place := PySem.W.mg_of X G a28,
    f__law_put := f29, fd__law_put := _, F__law_put := (fun_mk (st := s__law_put) l29 c29 k29), b__law_put := (fun_mk (st := s__law_put) l29 c29 k29).binds (ps := ["_law_rows", "_law_held", "_law_lot_here", "_law_x"]) (fun _ _ _ _ _ _ us hl => match us, hl with | [_, _, _, _], _ => rfl), g__law_put := PySem.W.mg_of X G a29,
    f__law_groups := f30, fd__law_groups := _, F__law_groups := (fun_mk (st := s__law_groups) l30 c30 k30), b__law_groups := (fun_mk (st := s__law_groups) l30 c30 k30).binds (ps := ["_law_rows"]) (fun _ _ _ _ _ _ us hl => match us, hl with | [_], _ => rfl), g__law_groups := PySem.W.mg_of X G a30,
    f_groups_from := f31, fd_groups_from := _, F_groups_from := (fun_mk (st := s_groups_from) l31 c31 k31), b_groups_from := (fun_mk (st := s_groups_from) l31 c31 k31).binds (ps := ["lots", "held"]) (fun _ _ _ _ _ _ us hl => match us, hl with | [_, _], _ => rfl), g_groups_from := PySem.W.mg_of X G a31,
    f_first_step := f32, fd_first_step := _, F_first_step := (fun_mk (st := s_first_step) l32 c32 k32), b_first_step := (fun_mk (st := s_first_step) l32 c32 k32).binds (ps := []) (fun _ _ _ _ _ _ us hl => match us, hl with | [], _ => rfl), g_first_step := PySem.W.mg_of X G a32,
    f_next_step := f33, fd_next_step := _, F_next_step := (fun_mk (st := s_next_step) l33 c33 k33), b_next_step := (fun_mk (st := s_next_step) l33 c33 k33).binds (ps := ["step", "parents"]) (fun _ _ _ _ _ _ us hl => match us, hl with | [_, _], _ => rfl), g_next_step := PySem.W.mg_of X G a33,
    f_Runtime___init__ := f34, fd_Runtime___init__ := _, F_Runtime___init__ := (fun_mk (st := s_Runtime___init__) l34 c34 k34), b_Runtime___init__ := (fun_mk (st := s_Runtime___init__) l34 c34 k34).binds (ps := ["self"]) (fun _ _ _ _ _ _ us hl => match us, hl with | [_], _ => rfl), m_Runtime___init__ := ⟨a34, i34, k34⟩, M_Runtime := ⟨mk_Runtime, a34, i34, kc_Runtime⟩,
    f_Runtime_many := f35, fd_Runtime_many := _, F_Runtime_many := (fun_mk (st := s_Runtime_many) l35 c35 k35), b_Runtime_many := (fun_mk (st := s_Runtime_many) l35 c35 k35).binds (ps := ["self"]) (fun _ _ _ _ _ _ us hl => match us, hl with | [_], _ => rfl), m_Runtime_many := ⟨a35, i35, k35⟩,
    f_Runtime_load := f36, fd_Runtime_load := _, F_Runtime_load := (fun_mk (st := s_Runtime_load) l36 c36 k36), b_Runtime_load := (fun_mk (st := s_Runtime_load) l36 c36 k36).binds (ps := ["self", "parents"]) (fun _ _ _ _ _ _ us hl => match us, hl with | [_, _], _ => rfl), m_Runtime_load := ⟨a36, i36, k36⟩,
    f_Runtime_ask := f37, fd_Runtime_ask := _, F_Runtime_ask := (fun_mk (st := s_Runtime_ask) l37 c37 k37), b_Runtime_ask := (fun_mk (st := s_Runtime_ask) l37 c37 k37).binds (ps := ["self", "x", "p"]) (fun _ _ _ _ _ _ us hl => match us, hl with | [_, _, _], _ => rfl), m_Runtime_ask := ⟨a37, i37, k37⟩,
    f_Runtime_given := f38, fd_Runtime_given := _, F_Runtime_given := (fun_mk (st := s_Runtime_given) l38 c38 k38), b_Runtime_given := (fun_mk (st := s_Runtime_given) l38 c38 k38).binds (ps := ["self", "x"]) (fun _ _ _ _ _ _ us hl => match us, hl with | [_, _], _ => rfl), m_Runtime_given := ⟨a38, i38, k38⟩,
    f_Runtime_book := f39, fd_Runtime_book := _, F_Runtime_book := (fun_mk (st := s_Runtime_book) l39 c39 k39), b_Runtime_book := (fun_mk (st := s_Runtime_book) l39 c39 k39).binds (ps := ["self"]) (fun _ _ _ _ _ _ us hl => match us, hl with | [_], _ => rfl), m_Runtime_book := ⟨a39, i39, k39⟩,
    f_Runtime_groups := f40, fd_Runtime_groups := _, F_Runtime_groups := (fun_mk (st := s_Runtime_groups) l40 c40 k40), b_Runtime_groups := (fun_mk (st := s_Runtime_groups) l40 c40 k40).binds (ps := ["self"]) (fun _ _ _ _ _ _ us hl => match us, hl with | [_], _ => rfl), m_Runtime_groups := ⟨a40, i40, k40⟩,
    f__law_given := f41, fd__law_given := _, F__law_given := (fun_mk (st := s__law_given) l41 c41 k41), b__law_given := (fun_mk (st := s__law_given) l41 c41 k41).binds (ps := ["_law_runtime", "_law_x"]) (fun _ _ _ _ _ _ us hl => match us, hl with | [_, _], _ => rfl), g__law_given := PySem.W.mg_of X G a41,
    f__law_great := f42, fd__law_great := _, F__law_great := (fun_mk (st := s__law_great) l42 c42 k42), b__law_great := (fun_mk (st := s__law_great) l42 c42 k42).binds (ps := ["_law_flow_here", "_law_runtime"]) (fun _ _ _ _ _ _ us hl => match us, hl with | [_, _], _ => rfl), g__law_great := PySem.W.mg_of X G a42,
    f_law := _, fd_law := _, F_law := (fun_mk (st := s_law) l43 c43 k43), b_law := (fun_mk (st := s_law) l43 c43 k43).binds (ps := ["_law_script"]) (fun _ _ _ _ _ _ us hl => match us, hl with | [_], _ => rfl), g_law := PySem.W.mg_of X G a43,
    z_abs := PySem.W.mg_none_of X G z_abs,
    z_bool := PySem.W.mg_none_of X G z_bool,
    z_enumerate := PySem.W.mg_none_of X G z_enumerate,
    z_int := PySem.W.mg_none_of X G z_int,
    z_isinstance := PySem.W.mg_none_of X G z_isinstance,
    z_len := PySem.W.mg_none_of X G z_len,
    z_list := PySem.W.mg_none_of X G z_list,
    z_max := PySem.W.mg_none_of X G z_max,
    z_min := PySem.W.mg_none_of X G z_min,
    z_range := PySem.W.mg_none_of X G z_range,
    z_repr := PySem.W.mg_none_of X G z_repr,
    z_sorted := PySem.W.mg_none_of X G z_sorted,
    z_tuple := PySem.W.mg_none_of X G z_tuple }⟩
end Lk
open PySem PySem.W PyProof.Rows
set_option maxHeartbeats 0 in
theorem PySem.Challenge.cw_latekinds_k67_told_rule_kept_holds : PySem.Challenge.rw_latekinds_k67_told_rule_kept.Holds := by
  w_on; o_law; k_head; (case hw => w_witness2)
  k_fill
  refine Lk.walk_ofG (l := PySem.Challenge.rw_latekinds_k67_told_rule_kept) (n := 63) (k := 11) (x := "_law_script") (CX := fun _ => L2.CX0) (sp := fun w => Lk.sp_law _) rfl (by decide) rfl ⟨rfl, by decide, by decide⟩ (fun w h Y => PySem.W.kIn_of Y) ?F (fun _ _ a ns hl _ hS => ⟨a, ns, rfl, hS, hl, fun _ => rfl⟩) (fun _ _ _ _ _ h => h)
  case F =>
    intro w mg fa h KX G hmg
    refine' Lk.all_mk KX G hmg ?gk_KindError ?op_X ?tp_X ?hn_X ?ht_X ?ns_X ?gc_NoKind ?lc_NoKind ?rv_NoKind ?sa_NoKind ?ex_NoKind ?ty_NoKind ?kp_NoKind ?su_NoKind ?sv_NoKind ?mr_NoKind ?a_NoKind ?t_NoKind ?lf_NoKind ?cd_NoKind ?ce_NoKind ?co_NoKind ?vf_NoKind ?ff_NoKind ?ga_NoKind ?gk_NoKind ?hd_NoKind ?ha_NoKind ?hm_NoKind ?xm_NoKind_NoKind ?kt_NoKind_KindError ?gc_Book ?pg_Book ?hd_Book ?po_Book ?sa_Book ?mk_Book ?kc_Book ?ta_Book ?tn_Book ?tt_Book ?tm_Book ?n_Book_parents ?n_Book_bits ?gc_Groups ?pg_Groups ?hd_Groups ?po_Groups ?sa_Groups ?mk_Groups ?kc_Groups ?ta_Groups ?tn_Groups ?tt_Groups ?tm_Groups ?n_Groups_lots ?n_Groups_held ?gc_Runtime ?pg_Runtime ?hd_Runtime ?po_Runtime ?sa_Runtime ?mk_Runtime ?kc_Runtime ?ta_Runtime ?tn_Runtime ?tt_Runtime ?tm_Runtime ?n_Runtime_steps ?kt_Book_int ?kt_Book_bool ?kt_Book_tuple ?kt_Book_list ?k_MOST_KINDS ?k_MOST_PARENTS ?a0 ?l0 ?c0 ?k0 ?a1 ?l1 ?c1 ?k1 ?a2 ?l2 ?c2 ?k2 ?a3 ?l3 ?c3 ?k3 ?a4 ?l4 ?c4 ?k4 ?a5 ?l5 ?c5 ?k5 ?a6 ?i6 ?l6 ?c6 ?k6 ?a7 ?i7 ?l7 ?c7 ?k7 ?a8 ?l8 ?c8 ?k8 ?a9 ?l9 ?c9 ?k9 ?a10 ?l10 ?c10 ?k10 ?a11 ?l11 ?c11 ?k11 ?a12 ?i12 ?l12 ?c12 ?k12 ?a13 ?i13 ?l13 ?c13 ?k13 ?a14 ?i14 ?l14 ?c14 ?k14 ?a15 ?i15 ?l15 ?c15 ?k15 ?a16 ?i16 ?l16 ?c16 ?k16 ?a17 ?l17 ?c17 ?k17 ?a18 ?l18 ?c18 ?k18 ?a19 ?l19 ?c19 ?k19 ?a20 ?l20 ?c20 ?k20 ?a21 ?l21 ?c21 ?k21 ?a22 ?l22 ?c22 ?k22 ?a23 ?l23 ?c23 ?k23 ?a24 ?l24 ?c24 ?k24 ?a25 ?l25 ?c25 ?k25 ?a26 ?l26 ?c26 ?k26 ?a27 ?l27 ?c27 ?k27 ?a28 ?l28 ?c28 ?k28 ?a29 ?l29 ?c29 ?k29 ?a30 ?l30 ?c30 ?k30 ?a31 ?l31 ?c31 ?k31 ?a32 ?l32 ?c32 ?k32 ?a33 ?l33 ?c33 ?k33 ?a34 ?i34 ?l34 ?c34 ?k34 ?a35 ?i35 ?l35 ?c35 ?k35 ?a36 ?i36 ?l36 ?c36 ?k36 ?a37 ?i37 ?l37 ?c37 ?k37 ?a38 ?i38 ?l38 ?c38 ?k38 ?a39 ?i39 ?l39 ?c39 ?k39 ?a40 ?i40 ?l40 ?c40 ?k40 ?a41 ?l41 ?c41 ?k41 ?a42 ?l42 ?c42 ?k42 ?a43 ?l43 ?c43 ?k43 ?z_abs ?z_bool ?z_enumerate ?z_int ?z_isinstance ?z_len ?z_list ?z_max ?z_min ?z_range ?z_repr ?z_sorted ?z_tuple
    (case gk_KindError => k_is)
    (case op_X => k_is)
    (case tp_X => first | rfl | decide +kernel)
    (case hn_X => k_is)
    (case ht_X => k_is)
    (case ns_X => k_is)
    (case gc_NoKind => k_is)
    (case lc_NoKind => k_is)
    (case rv_NoKind => first | rfl | decide +kernel)
    (case sa_NoKind => k_is)
    (case ex_NoKind => k_is)
    (case ty_NoKind => k_is)
    (case kp_NoKind => k_is)
    (case su_NoKind => ks_is)
    (case sv_NoKind => k_is)
    (case mr_NoKind => k_is)
    (case a_NoKind => k_is)
    (case t_NoKind => k_is)
    (case lf_NoKind => k_is)
    (case cd_NoKind => k_is)
    (case ce_NoKind => k_is)
    (case co_NoKind => k_is)
    (case vf_NoKind => rfl)
    (case ff_NoKind => first | rfl | decide +kernel)
    (case ga_NoKind => k_is)
    (case gk_NoKind => k_is)
    (case hd_NoKind => k_is)
    (case ha_NoKind => k_is)
    (case hm_NoKind => k_is)
    (case xm_NoKind_NoKind => kts_exm)
    (case kt_NoKind_KindError => kit_is)
    (case gc_Book => k_is)
    (case pg_Book => k_is)
    (case hd_Book => k_is)
    (case po_Book => k_is)
    (case sa_Book => k_is)
    (case mk_Book => k_is)
    (case kc_Book => k_is)
    (case ta_Book => k_is)
    (case tn_Book => k_is)
    (case tt_Book => k_is)
    (case tm_Book => k_is)
    (case n_Book_parents => k_is)
    (case n_Book_bits => k_is)
    (case gc_Groups => k_is)
    (case pg_Groups => k_is)
    (case hd_Groups => k_is)
    (case po_Groups => k_is)
    (case sa_Groups => k_is)
    (case mk_Groups => k_is)
    (case kc_Groups => k_is)
    (case ta_Groups => k_is)
    (case tn_Groups => k_is)
    (case tt_Groups => k_is)
    (case tm_Groups => k_is)
    (case n_Groups_lots => k_is)
    (case n_Groups_held => k_is)
    (case gc_Runtime => k_is)
    (case pg_Runtime => k_is)
    (case hd_Runtime => k_is)
    (case po_Runtime => k_is)
    (case sa_Runtime => k_is)
    (case mk_Runtime => k_is)
    (case kc_Runtime => k_is)
    (case ta_Runtime => k_is)
    (case tn_Runtime => k_is)
    (case tt_Runtime => k_is)
    (case tm_Runtime => k_is)
    (case n_Runtime_steps => k_is)
    (case a0 => k_is)
    (case l0 => k_is)
    (case c0 => k_is)
    (case k0 => k_is)
    (case a1 => k_is)
    (case l1 => k_is)
    (case c1 => k_is)
    (case k1 => k_is)
    (case a2 => k_is)
    (case l2 => k_is)
    (case c2 => k_is)
    (case k2 => k_is)
    (case a3 => k_is)
    (case l3 => k_is)
    (case c3 => k_is)
    (case k3 => k_is)
    (case a4 => k_is)
    (case l4 => k_is)
    (case c4 => k_is)
    (case k4 => k_is)
    (case a5 => k_is)
    (case l5 => k_is)
    (case c5 => k_is)
    (case k5 => k_is)
    (case a6 => k_is)
    (case i6 => k_is)
    (case l6 => k_is)
    (case c6 => k_is)
    (case k6 => k_is)
    (case a7 => k_is)
    (case i7 => k_is)
    (case l7 => k_is)
    (case c7 => k_is)
    (case k7 => k_is)
    (case a8 => k_is)
    (case l8 => k_is)
    (case c8 => k_is)
    (case k8 => k_is)
    (case a9 => k_is)
    (case l9 => k_is)
    (case c9 => k_is)
    (case k9 => k_is)
    (case a10 => k_is)
    (case l10 => k_is)
    (case c10 => k_is)
    (case k10 => k_is)
    (case a11 => k_is)
    (case l11 => k_is)
    (case c11 => k_is)
    (case k11 => k_is)
    (case a12 => k_is)
    (case i12 => k_is)
    (case l12 => k_is)
    (case c12 => k_is)
    (case k12 => k_is)
    (case a13 => k_is)
    (case i13 => k_is)
    (case l13 => k_is)
    (case c13 => k_is)
    (case k13 => k_is)
    (case a14 => k_is)
    (case i14 => k_is)
    (case l14 => k_is)
    (case c14 => k_is)
    (case k14 => k_is)
    (case a15 => k_is)
    (case i15 => k_is)
    (case l15 => k_is)
    (case c15 => k_is)
    (case k15 => k_is)
    (case a16 => k_is)
    (case i16 => k_is)
    (case l16 => k_is)
    (case c16 => k_is)
    (case k16 => k_is)
    (case a17 => k_is)
    (case l17 => k_is)
    (case c17 => k_is)
    (case k17 => k_is)
    (case a18 => k_is)
    (case l18 => k_is)
    (case c18 => k_is)
    (case k18 => k_is)
    (case a19 => k_is)
    (case l19 => k_is)
    (case c19 => k_is)
    (case k19 => k_is)
    (case a20 => k_is)
    (case l20 => k_is)
    (case c20 => k_is)
    (case k20 => k_is)
    (case a21 => k_is)
    (case l21 => k_is)
    (case c21 => k_is)
    (case k21 => k_is)
    (case a22 => k_is)
    (case l22 => k_is)
    (case c22 => k_is)
    (case k22 => k_is)
    (case a23 => k_is)
    (case l23 => k_is)
    (case c23 => k_is)
    (case k23 => k_is)
    (case a24 => k_is)
    (case l24 => k_is)
    (case c24 => k_is)
    (case k24 => k_is)
    (case a25 => k_is)
    (case l25 => k_is)
    (case c25 => k_is)
    (case k25 => k_is)
    (case a26 => k_is)
    (case l26 => k_is)
    (case c26 => k_is)
    (case k26 => k_is)
    (case a27 => k_is)
    (case l27 => k_is)
    (case c27 => k_is)
    (case k27 => k_is)
    (case a28 => k_is)
    (case l28 => k_is)
    (case c28 => k_is)
    (case k28 => k_is)
    (case a29 => k_is)
    (case l29 => k_is)
    (case c29 => k_is)
    (case k29 => k_is)
    (case a30 => k_is)
    (case l30 => k_is)
    (case c30 => k_is)
    (case k30 => k_is)
    (case a31 => k_is)
    (case l31 => k_is)
    (case c31 => k_is)
    (case k31 => k_is)
    (case a32 => k_is)
    (case l32 => k_is)
    (case c32 => k_is)
    (case k32 => k_is)
    (case a33 => k_is)
    (case l33 => k_is)
    (case c33 => k_is)
    (case k33 => k_is)
    (case a34 => k_is)
    (case i34 => k_is)
    (case l34 => k_is)
    (case c34 => k_is)
    (case k34 => k_is)
    (case a35 => k_is)
    (case i35 => k_is)
    (case l35 => k_is)
    (case c35 => k_is)
    (case k35 => k_is)
    (case a36 => k_is)
    (case i36 => k_is)
    (case l36 => k_is)
    (case c36 => k_is)
    (case k36 => k_is)
    (case a37 => k_is)
    (case i37 => k_is)
    (case l37 => k_is)
    (case c37 => k_is)
    (case k37 => k_is)
    (case a38 => k_is)
    (case i38 => k_is)
    (case l38 => k_is)
    (case c38 => k_is)
    (case k38 => k_is)
    (case a39 => k_is)
    (case i39 => k_is)
    (case l39 => k_is)
    (case c39 => k_is)
    (case k39 => k_is)
    (case a40 => k_is)
    (case i40 => k_is)
    (case l40 => k_is)
    (case c40 => k_is)
    (case k40 => k_is)
    (case a41 => k_is)
    (case l41 => k_is)
    (case c41 => k_is)
    (case k41 => k_is)
    (case a42 => k_is)
    (case l42 => k_is)
    (case c42 => k_is)
    (case k42 => k_is)
    (case a43 => k_is)
    (case l43 => k_is)
    (case c43 => k_is)
    (case k43 => k_is)
    (case kt_Book_int => kit_is)
    (case kt_Book_bool => kit_is)
    (case kt_Book_tuple => kit_is)
    (case kt_Book_list => kit_is)
    (case k_MOST_KINDS => k_is)
    (case k_MOST_PARENTS => k_is)
    (case z_abs => k_is)
    (case z_bool => k_is)
    (case z_enumerate => k_is)
    (case z_int => k_is)
    (case z_isinstance => k_is)
    (case z_len => k_is)
    (case z_list => k_is)
    (case z_max => k_is)
    (case z_min => k_is)
    (case z_range => k_is)
    (case z_repr => k_is)
    (case z_sorted => k_is)
    (case z_tuple => k_is)
#print axioms PySem.Challenge.cw_latekinds_k67_told_rule_kept_holds
