import PyProof.Rows.All
import Wide.All
import OpenK.AllK
import Wide.FinOn
import HandS.ForMost
import HandS.IsInst
import HandS.Rev
import HandS.Wide
import HandS.SortInts
import HandS.TupAny
import HandS.Codes
import HandS.SetFor
import HandS.Strs
import HandS.Zip
import HandS.Conv
import HandS.OwnEq
import HandS.TupMul
import HandS.Text
import HandS.WideBits
import KE.BitLaws
import KE.KDictList
import KE.GoesEnum
import HandS.Style
import HandS.ForExc
import HandS.ExcInit
import HandS.Nested
import HandS.ExcIs
import HandS.ExcField
import HandS.DictComp
import HandS.SetKeys
import HandS.Iter
import HandS.Walk
import KE.KExcSuper
import KE.RegKSuper
import KE.RegKTryMore
import KE.RegKIsAll
import KE.Datum
import KE.KIndexOf
import KE.SortData
import PySem.Challenge.RW_latekinds_k58_layings_judged_and_spoiled
set_option Elab.async false
set_option linter.all false
set_option maxRecDepth 100000
set_option maxHeartbeats 4000000
namespace Lk
open PySem L2
def top (i : Nat) : Stmt := PySem.Challenge.pw_latekinds_k58_layings_judged_and_spoiled.main.body.getD i (.Pass ⟨0, 0, 0, 0⟩)
abbrev s_NoNumber___init__ : Stmt := inClass (top 3) 0
abbrev s_NoFields___init__ : Stmt := inClass (top 4) 0
abbrev s_NoLaying___init__ : Stmt := inClass (top 5) 0
abbrev s_is_integer : Stmt := top 7
abbrev s_is_within : Stmt := top 8
abbrev s_is_lot : Stmt := top 10
abbrev s_are_parents : Stmt := top 15
abbrev s_Book_fill : Stmt := inClass (top 16) 1
abbrev s_Book___init__ : Stmt := inClass (top 16) 0
abbrev s_is_pair : Stmt := top 9
abbrev s_many_of : Stmt := top 17
abbrev s_is_one : Stmt := top 18
abbrev s_forebears_of : Stmt := top 19
abbrev s_check_number : Stmt := top 11
abbrev s_check_fields : Stmt := top 23
abbrev s_is_place : Stmt := top 24
abbrev s_has_places : Stmt := top 25
abbrev s_object_places : Stmt := top 26
abbrev s_hole_in : Stmt := top 27
abbrev s_hole_of : Stmt := top 28
abbrev s_first_hole : Stmt := top 29
abbrev s_is_laying : Stmt := top 30
abbrev s__law_hand : Stmt := top 32
abbrev s__law_draw : Stmt := top 33
abbrev s__law_is : Stmt := top 34
abbrev s__law_flag : Stmt := top 35
abbrev s__law_deep : Stmt := top 36
abbrev s__law_parents : Stmt := top 37
abbrev s__law_sheet : Stmt := top 38
abbrev s__law_brought : Stmt := top 39
abbrev s__law_hole : Stmt := top 40
abbrev s__law_first_hole : Stmt := top 41
abbrev s__law_poured : Stmt := top 42
abbrev s__law_is_whole : Stmt := top 43
abbrev s__law_has_places : Stmt := top 44
abbrev s__law_odd : Stmt := top 45
abbrev s__law_bent : Stmt := top 46
abbrev s__law_told : Stmt := top 47
abbrev s_law : Stmt := top 48
/-! ### what is kept -/
theorem Same.at {H H' : Hp} {a : Addr} {o : HO} (e : Same H H') (h : H a = some o) : H' a = some o := e a o h
theorem Same.new {H H' : Hp} {p : Addr} {o : HO} (e : Same H H') (h : H' p = none) : Same H (upd H' p o) := fun b u z => by
  have z2 := e b u z
  rw [upd_ne (ne_of_none z2 h)]
  exact z2
theorem Same.mut {H H' : Hp} {p : Addr} {o : HO} (e : Same H H') (h : H p = none) : Same H (upd H' p o) := fun b u z => by
  rw [upd_ne (ne_of_none z h)]
  exact e b u z
theorem upd_at {H : Hp} {p a : Addr} {o u : HO} (n : a ≠ p) (h : H a = some u) : upd H p o a = some u := by
  rw [upd_ne n]
  exact h
theorem upd_at' {H : Hp} {p a : Addr} {o u : HO} (h : H a = some u) (n : a ≠ p) : upd H p o a = some u := upd_at n h
/-- the readings of len, list(..), tuple(..) by name -/
def rLenQ (K : PySem.W.Frag) : List V → Hp → VK → Prop := fun xs H Q => ∃ p ys, xs = [.ref p] ∧ (SqL K H p ys ∨ SqT K H p ys) ∧ Q (.int ys.length) H
def rListQ (K : PySem.W.Frag) : List V → Hp → VK → Prop := fun xs H Q => ∃ p ys, xs = [.ref p] ∧ (SqL K H p ys ∨ SqT K H p ys) ∧ ∀ l, H l = none → Q (.ref l) (upd H l (.lst ys))
def rTupQ (K : PySem.W.Frag) : List V → Hp → VK → Prop := fun xs H Q => ∃ p ys, xs = [.ref p] ∧ ((SqL K H p ys ∧ ∀ l, H l = none → Q (.ref l) (upd H l (.tup ys))) ∨ (SqT K H p ys ∧ Q (.ref p) H))
/-- new in H -/
structure Nw (H : Hp) (p : Addr) : Prop where
  e : H p = none
theorem Nw.ne {H : Hp} {a p : Addr} {o : HO} (w : Nw H p) (h : H a = some o) : a ≠ p := ne_of_none h w.e
/-- a tape: its address, its list's, the list -/
structure Tp where
  t : Addr
  l : Addr
  ns : List Int
structure Tape (τ : Tp) (H : Hp) : Prop where
  list : H τ.l = some (.lst (τ.ns.map V.int))
  ne : τ.l ≠ τ.t
  here : ∃ i c s n : Int, H τ.t = some (.lst [.ref τ.l, .int i, .int c, .int s, .int n]) ∧ 0 ≤ i
/-- all but the tape is kept, the tape is a tape -/
structure Mv (τ : Tp) (H0 H : Hp) : Prop where
  was : Tape τ H0
  keep : ∀ a o, a ≠ τ.t → H0 a = some o → H a = some o
  now : Tape τ H
structure Mz (τ : Tp) (H0 H : Hp) : Prop where
  mv : Mv τ H0 H
section
variable {τ : Tp} {H0 H H1 H2 : Hp} {p a : Addr} {o : HO}
theorem Tape.mv (h : Tape τ H) : Mv τ H H := ⟨h, fun _ _ _ e => e, h⟩
theorem Tape.mz (h : Tape τ H) : Mz τ H H := ⟨h.mv⟩
theorem Mv.self (m : Mv τ H0 H) : Mv τ H H := m.now.mv
theorem Mv.trans (m : Mv τ H0 H1) (k : Mv τ H1 H2) : Mv τ H0 H2 := ⟨m.was, fun a o n e => k.keep a o n (m.keep a o n e), k.now⟩
theorem Mz.trans (m : Mz τ H0 H1) (k : Mv τ H1 H2) : Mz τ H0 H2 := ⟨m.mv.trans k⟩
theorem Tape.new (h : Tape τ H) (n : H p = none) : Tape τ (upd H p o) := by
  obtain ⟨h1, h2, i, c, s, k, h3, h4⟩ := h
  exact ⟨upd_at (ne_of_none h1 n) h1, h2, i, c, s, k, upd_at (ne_of_none h3 n) h3, h4⟩
theorem Mv.new (m : Mv τ H0 H) (n : H p = none) : Mv τ H0 (upd H p o) := ⟨m.was, fun a u e z => upd_at (ne_of_none (m.keep a u e z) n) (m.keep a u e z), m.now.new n⟩
theorem Mz.new (m : Mz τ H0 H) (n : H p = none) : Mz τ H0 (upd H p o) := ⟨m.mv.new n⟩
theorem Mv.neF (m : Mv τ H0 H) (n : H0 p = none) : p ≠ τ.t := fun e => by
  obtain ⟨_, _, _, _, h, _⟩ := m.was.here
  rw [e, h] at n
  cases n
theorem Mv.neN (m : Mv τ H0 H) (n : H p = none) : p ≠ τ.t := fun e => by
  obtain ⟨_, _, _, _, h, _⟩ := m.now.here
  rw [e, h] at n
  cases n
theorem Mv.mut (m : Mv τ H0 H) (n : H0 p = none) : Mv τ H0 (upd H p o) := by
  obtain ⟨i, c, s, k, h3, h4⟩ := m.now.here
  have n1 : τ.l ≠ p := ne_of_none m.was.list n
  exact ⟨m.was, fun a u e z => upd_at (ne_of_none z n) (m.keep a u e z), upd_at n1 m.now.list, m.now.ne, i, c, s, k, upd_at (m.neF n).symm h3, h4⟩
theorem Mz.mut (m : Mz τ H0 H) (n : H0 p = none) : Mz τ H0 (upd H p o) := ⟨m.mv.mut n⟩
theorem Mv.free (m : Mv τ H0 H) (n : H p = none) : H0 p = none := by
  cases e : H0 p with
  | none => rfl
  | some o =>
    by_cases z : p = τ.t
    · obtain ⟨_, _, _, _, h, _⟩ := m.now.here
      rw [z, h] at n
      cases n
    · rw [m.keep p o z e] at n
      cases n
theorem Mz.free (m : Mz τ H0 H) (n : H p = none) : H0 p = none := m.mv.free n
theorem Mv.at (m : Mv τ H0 H) (n : a ≠ τ.t) (h : H0 a = some o) : H a = some o := m.keep a o n h
theorem Mv.at' (m : Mv τ H0 H) (h : H0 a = some o) (n : a ≠ τ.t) : H a = some o := m.keep a o n h
theorem Mz.at (m : Mz τ H0 H) (n : a ≠ τ.t) (h : H0 a = some o) : H a = some o := m.mv.keep a o n h
theorem Mv.neT {xs : List V} (m : Mv τ H0 H) (h : H a = some (.tup xs)) : a ≠ τ.t := fun e => by
  obtain ⟨_, _, _, _, z, _⟩ := m.now.here
  rw [e, z] at h
  cases h
theorem Mv.neT0 {xs : List V} (m : Mv τ H0 H) (h : H0 a = some (.tup xs)) : a ≠ τ.t := m.was.mv.neT h
theorem Mv.atT {xs : List V} (m : Mv τ H0 H) (h : H0 a = some (.tup xs)) : H a = some (.tup xs) := m.keep a _ (m.neT0 h) h
theorem Tape.same (h : Tape τ H) (s : Same H H1) : Tape τ H1 := by
  obtain ⟨h1, h2, i, c, s', k, h3, h4⟩ := h
  exact ⟨s _ _ h1, h2, i, c, s', k, s _ _ h3, h4⟩
theorem Mv.same (m : Mv τ H0 H) (s : Same H H1) : Mv τ H0 H1 := by
  obtain ⟨h1, h2, i, c, s', k, h3, h4⟩ := m.now
  exact ⟨m.was, fun a o e z => s a o (m.keep a o e z), s _ _ h1, h2, i, c, s', k, s _ _ h3, h4⟩
theorem Mz.same (m : Mz τ H0 H) (s : Same H H1) : Mz τ H0 H1 := ⟨m.mv.same s⟩
end
theorem iteD {c A B : Prop} [Decidable c] (h1 : c → A) (h2 : ¬ c → B) : if decide c = true then A else B := by
  by_cases h : c
  · rw [decide_eq_true h]
    exact iteT (h1 h)
  · rw [decide_eq_false h]
    exact iteF (h2 h)
theorem iteDY {c A B : Prop} [Decidable c] (h : c) (h1 : A) : if decide c = true then A else B := by
  rw [decide_eq_true h]
  exact iteT h1
theorem iteDN {c A B : Prop} [Decidable c] (h : ¬ c) (h1 : B) : if decide c = true then A else B := by
  rw [decide_eq_false h]
  exact iteF h1
theorem iteET {b : Bool} {A B : Prop} (h : b = true) (k : A) : if b = true then A else B := by
  rw [h]
  exact iteT k
theorem iteEF {b : Bool} {A B : Prop} (h : b = false) (k : B) : if b = true then A else B := by
  rw [h]
  exact iteF k
theorem iteB {b : Bool} {A B : Prop} (h1 : b = true → A) (h2 : b = false → B) : if b = true then A else B := by
  cases b with
  | true => exact iteT (h1 rfl)
  | false => exact iteF (h2 rfl)
theorem fmod_in {x m : Int} (h : 0 < m) : 0 ≤ x.fmod m ∧ x.fmod m < m := by
  rw [Int.fmod_eq_emod_of_nonneg x (Int.le_of_lt h)]
  exact ⟨Int.emod_nonneg x (by omega), Int.emod_lt_of_pos x h⟩
theorem Mv.put {τ : Tp} {H0 H : Hp} (m : Mv τ H0 H) {xs : List V} {i c s n : Int} (e : xs = [.ref τ.l, .int i, .int c, .int s, .int n]) (h : 0 ≤ i) : Mv τ H0 (upd H τ.t (.lst xs)) := by
  subst e
  exact ⟨m.was, fun a o k z => upd_at k (m.keep a o k z), upd_at m.now.ne m.now.list, m.now.ne, i, c, s, n, upd_same, h⟩
theorem le_lineB {n : Nat} (h : Nat.ble n 100000 = true) : n ≤ sizeLine := Nat.le_trans (Nat.le_of_ble_eq_true h) (by decide)
theorem fmod64 {x m : Int} (h : 0 < m) (h2 : m ≤ 2 ^ 64) : -(2 ^ 64) < x.fmod m ∧ x.fmod m < 2 ^ 64 := by
  have q := fmod_in (x := x) h
  omega
theorem at_ints {ns : List Int} {i : Int} (h0 : 0 ≤ i) (h : i < ((ns.map V.int).length : Int)) : ∃ v : Int, atI (ns.map V.int) i = some (.int v) := by
  rw [List.length_map] at h
  have hj : i.toNat < ns.length := by omega
  refine ⟨ns[i.toNat], at_of (j := i.toNat) (by omega) ?_⟩
  rw [List.getElem?_map, List.getElem?_eq_getElem hj]
  rfl
theorem dec_int {a b : Int} : decide (V.int a = V.int b) = decide (a = b) := by
  by_cases h : a = b
  · rw [decide_eq_true h, h, decide_eq_true rfl]
  · rw [decide_eq_false h, decide_eq_false fun e => h (V.int.inj e)]
theorem dec_nat {a b : Nat} : decide (V.int (a : Int) = V.int (b : Int)) = decide (a = b) := by
  rw [dec_int]
  exact decide_eq_decide.mpr Int.ofNat_inj
theorem iteI {a b : Int} {A B : Prop} (h1 : a = b → A) (h2 : ¬ a = b → B) : if decide (V.int a = V.int b) = true then A else B := by
  rw [dec_int]
  exact iteD h1 h2
/-! ### kinds of things -/
def isIntB : V → Bool
  | .int _ => true
  | _ => false
def withinB (v : V) (lo hi : Int) : Bool := match v with
  | .int i => decide (lo ≤ i) && decide (i ≤ hi)
  | _ => false
structure IntK (K : PySem.W.Frag) (H : Hp) (v : V) : Prop where
  ex : ∃ (t : Value) (bi bb : Bool), TyX K H v t ∧ PySem.W.kitOne K t (.type "int") = some bi ∧ PySem.W.kitOne K t (.type "bool") = some bb ∧ (bi && !bb) = isIntB v
section
variable {K : PySem.W.Frag} {H : Hp}
theorem IntK.int (i : Int) : IntK K H (.int i) := ⟨_, true, false, .base (.int i), kit_ty (by decide +kernel), kit_ty (by decide +kernel), rfl⟩
theorem IntK.bl (b : Bool) : IntK K H (.bl b) := ⟨_, true, true, .base (.bl b), kit_ty (by decide +kernel), kit_ty (by decide +kernel), rfl⟩
theorem IntK.non : IntK K H .non := ⟨_, false, false, .base .non, kit_ty (by decide +kernel), kit_ty (by decide +kernel), rfl⟩
theorem IntK.str (s : Str) : IntK K H (.str s) := ⟨_, false, false, .base (.str s), kit_ty (by decide +kernel), kit_ty (by decide +kernel), rfl⟩
theorem IntK.tup {a : Addr} {xs : List V} (h : H a = some (.tup xs)) : IntK K H (.ref a) := ⟨_, false, false, .base (.tup h), kit_ty (by decide +kernel), kit_ty (by decide +kernel), rfl⟩
theorem IntK.lst {a : Addr} {xs : List V} (h : H a = some (.lst xs)) : IntK K H (.ref a) := ⟨_, false, false, .base (.lst h), kit_ty (by decide +kernel), kit_ty (by decide +kernel), rfl⟩
theorem IntK.dK {a : Addr} {xs : List (Key × V)} (h : H a = some (.dK xs)) : IntK K H (.ref a) := ⟨_, false, false, .base (.dK h), kit_ty (by decide +kernel), kit_ty (by decide +kernel), rfl⟩
theorem ty_tup {a : Addr} {xs : List V} (h : H a = some (.tup xs)) : TyX K H (.ref a) (.type "tuple") := .base (.tup h)
theorem ty_int (i : Int) : TyX K H (.int i) (.type "int") := .base (.int i)
theorem ty_bl (b : Bool) : TyX K H (.bl b) (.type "bool") := .base (.bl b)
theorem tup_tup : PySem.W.kitOne K (.type "tuple") (.type "tuple") = some true := kit_ty (by decide +kernel)
theorem int_tup : PySem.W.kitOne K (.type "int") (.type "tuple") = some false := kit_ty (by decide +kernel)
theorem int_int : PySem.W.kitOne K (.type "int") (.type "int") = some true := kit_ty (by decide +kernel)
theorem int_bool : PySem.W.kitOne K (.type "int") (.type "bool") = some false := kit_ty (by decide +kernel)
theorem bool_bool : PySem.W.kitOne K (.type "bool") (.type "bool") = some true := kit_ty (by decide +kernel)
end
/-- tuples stay -/
def TK (H H' : Hp) : Prop := ∀ a xs, H a = some (.tup xs) → H' a = some (.tup xs)
theorem Same.tk {H H' : Hp} (s : Same H H') : TK H H' := fun a _ h => s a _ h
theorem Mv.tk {τ : Tp} {H H' : Hp} (m : Mv τ H H') : TK H H' := fun a _ h => m.keep a _ (m.neT0 h) h
theorem TK.trans {H H1 H2 : Hp} (a : TK H H1) (b : TK H1 H2) : TK H H2 := fun x xs h => b x xs (a x xs h)
theorem TK.mut {H : Hp} {p : Addr} {o : HO} {ys : List V} (h : H p = some (.lst ys)) : TK H (upd H p o) := fun a xs e => upd_at (ne_of e h (by intro z; cases z)) e
theorem TK.new {H : Hp} {p : Addr} {o : HO} (h : H p = none) : TK H (upd H p o) := fun a xs e => upd_at (ne_of_none e h) e
/-! ### len(set(a tuple of whole numbers)); list(reversed(a list)) -/
section
open PySem.Spec PyProof.Rows
variable {X : Cx}
def tLenSetU (K : PySem.W.Frag) (ta : TE) : TE := fun σ H Q => ta σ H fun x H1 => ∃ (l : Addr) (ns : List Int), x = .ref l ∧ SqT K H1 l (ns.map V.int) ∧ ns.length ≤ 4000 ∧ ∀ ks : List Int, ks.Nodup → (∀ k, k ∈ ks ↔ k ∈ ns) → Q (.int (ks.length : Nat)) H1
theorem pe_lenSetU {a : Expr} {ta : TE} {p p2 q pos : Pos} (hg : Gl X "len") (hm : X.mg "len" = none) (hg2 : Gl X "set") (hm2 : X.mg "set" = none) (ha : PE X a ta) (calm : X.calm = true := by rfl)
    (na : starEach [a] X.env = (false, eval a X.env) :: starEach [] X.env := by rfl) : PE X (.Call (.Name "len" p) [.Call (.Name "set" p2) [a] [] q] [] pos) (tLenSetU X.K ta) := by
  constructor
  intro pins s σ H Q I h
  refine Call_ (ld_blt I hg hm boot_len (PyProof.Rows.callWith_builtin1 (PyProof.Rows.args_cons ?_ rfl) rfl rfl))
  refine Call_ (ld_blt I hg2 hm2 PyProof.Rows.boot_set (PyProof.Rows.callWith_type1 (PyProof.Rows.args_cons (thn (ha.run pins s σ H _ I h) fun v s1 ⟨x, H1, I1, r1, q1⟩ => PyProof.Rows.args_nil ?_) na) na rfl))
  obtain ⟨l, ns, ex, hq, hl, done⟩ := q1
  subst ex
  obtain rfl : v = Value.ref l := r1
  obtain ⟨its, rv, pt, hz⟩ := I1.tuple hq
  have hi : PyProof.Rows.IntsAre its.toArray.toList ns := by simpa using ints_of_vals rv
  refine call_set_tupI ns (I1.ok.hd calm) (show s1.heap.IsTuple l its.toArray from pt) hi (by unfold scanBound; omega) fun h' tk c R1 hcn kp => PyProof.Rows.args_nil ?_
  obtain ⟨o, es, ep, t, ho, hex, hdt, g, nd, mem, hb, hf, hn, hr, hl2⟩ := R1
  have I2 : Inv X pins σ H1 { s1 with heap := h', toks := tk } := I1.kept kp
  have le : (es.toList.map keyOf).length = es.size := by rw [List.length_map, Array.length_toList]
  refine call_len_set ho hex hdt hf (by omega) ⟨.int es.size, H1, I2.tok _, ⟨_, rfl⟩, ?_⟩
  rw [← le]
  exact done _ nd fun k => by rw [← mem k, decide_eq_true_eq]
end
/-! ### set(a list of whole numbers) -/
section
open PySem.Spec PyProof.Rows PySem.Calls
variable {P : Program} {w : World} {A : Around} {E : Value → Shared → Prop} {s : Shared}
set_option maxHeartbeats 4000000 in
theorem call_set_listR {l : Addr} {items : Array Value} (ns : List Int) {Q : Value → Shared → Prop} (hh : A.handled = none) (hl : s.heap.IsList l items) (hit : IntsAre items.toList ns) (hb : ns.length + 1 < scanBound)
    (h : ∀ (h' : Heap) (tk c : Nat), SetR w h' s.heap.objs.size (fun j => decide (j ∈ ns)) c → c ≤ ns.length → (∀ b o, s.heap.get? b = some o → h'.get? b = some o) → Q (.ref s.heap.objs.size) { s with heap := h', toks := tk }) :
    wpAny (model P w) A (call (.type "set") [.ref l]) Q E s := by
  have hisz : items.size = ns.length := by
    have q := IntsAre.length hit
    rw [Array.length_toList] at q
    exact q
  obtain ⟨c, tl, hmro⟩ := F.called_set.mro
  have hmade := F.called_set.made
  have hsub := F.called_set.sub
  refine wpAny_call (codeAny_of_tree ?_)
  show wpAny _ _ (callAny (.type "set") _) _ _ _
  refine wpAny_pure ⟨Code.quiet_builtin _ (by decide +kernel), codeAny_builtin F.entry_type_call ?_⟩
  rw [Around.under_plain (weight_type_call_type "set" [.ref l] []) rfl]
  have h1 := F.called_set.notType
  have h2 := F.called_set.canCreate
  have hct := F.typeCall_set_1 (.ref l)
  repeat (any_goals (first | assumption | wp_step))
  refine codeAny_mono (code_set_led1 (.ref l) (E := E) (Q₁ := fun obj s₁ => obj = .ref s.heap.objs.size ∧ s₁ = { s with heap := s.heap.push { cls := .type "set", dict := none, data := .set #[] 0 (.fresh 0 0 (!w.params.followText "set-order")) } }) ⟨rfl, rfl⟩) fun r s₁ hr => ?_
  cases r with
  | error e => exact hr
  | ok fl =>
    cases fl with
    | ret obj =>
      obtain ⟨rfl, rfl⟩ := hr
      have hS : (s.heap.push { cls := .type "set", dict := none, data := .set #[] 0 (.fresh 0 0 (!w.params.followText "set-order")) }).get? s.heap.objs.size = some { cls := .type "set", dict := none, data := .set #[] 0 (.fresh 0 0 (!w.params.followText "set-order")) } := Heap.get?_push_size _ rfl
      have hT : Shared.TypeIs { s with heap := s.heap.push { cls := .type "set", dict := none, data := .set #[] 0 (.fresh 0 0 (!w.params.followText "set-order")) } } (.ref s.heap.objs.size) "set" := ⟨_, hS, rfl⟩
      have hli := F.called_set.init.lookup
      have hbi := F.called_set.init.bind (.ref s.heap.objs.size)
      repeat (any_goals (first | assumption | wp_step))
      refine codeAny_mono (codeAny_call_builtin (R := wants (fun r s₂ => r = .none ∧ ∃ h' tk c, s₂ = { s with heap := h', toks := tk } ∧ SetR w h' s.heap.objs.size (fun j => decide (j ∈ ns)) c ∧ c ≤ ns.length ∧
          (∀ b o, s.heap.get? b = some o → h'.get? b = some o)) E) F.called_set.init.plain F.entry_set_init (check_set_init_1 hT ?_)) fun r₂ s₂ hr₂ => ?_
      · obtain ⟨ol, hol, hcl, nl, hdl⟩ := hl
        obtain ⟨ocls, odict, odata, oslots⟩ := ol
        simp only at hcl hdl
        subst hcl; subst hdl
        have hol' : (s.heap.push { cls := .type "set", dict := none, data := .set #[] 0 (.fresh 0 0 (!w.params.followText "set-order")) }).get? l = some { cls := .type "list", dict := odict, data := .seq items nl, slots := oslots } := Heap.get?_push_of_some _ hol
        have hsls := F.sub_list_set
        have hslf := F.sub_list_frozenset
        have hne : (Value.type "list" == Value.type "dict") = false := by decide
        have hl1 : (s.heap.push { cls := .type "set", dict := none, data := .set #[] 0 (.fresh 0 0 (!w.params.followText "set-order")) }).IsList l items := ⟨_, hol', rfl, nl, rfl⟩
        unfold Builtin.«set.__init__» noKeywords Builtin.Frozenset.updateFrom
        generalize hPI : pyIter = PI
        wp_walk
        subst hPI
        refine wpAny_pyIter_list hl1 ?_
        refine wpAny_bind (wpAny_runValue ?_)
        have hlS : l < s.heap.objs.size := Heap.lt_size hol
        have hh3 : A.in1.in1.in1.handled = none := by simp [hh]
        have hz1 : (s.heap.push { cls := .type "set", dict := none, data := .set #[] 0 (.fresh 0 0 (!w.params.followText "set-order")) }).objs.size = s.heap.objs.size + 1 := Heap.size_push ..
        have hneI : l ≠ (s.heap.push { cls := .type "set", dict := none, data := .set #[] 0 (.fresh 0 0 (!w.params.followText "set-order")) }).objs.size := by
          rw [Heap.size_push]; exact Nat.ne_of_lt (Nat.lt_succ_of_lt hlS)
        have hSf : s.heap.objs.size ∉ [(s.heap.push { cls := .type "set", dict := none, data := .set #[] 0 (.fresh 0 0 (!w.params.followText "set-order")) }).objs.size, l] := by
          rw [Heap.size_push]; simp only [List.mem_cons, List.mem_singleton, List.not_mem_nil, or_false, not_or]
          exact ⟨Nat.ne_of_lt (Nat.lt_succ_self _), Nat.ne_of_gt hlS⟩
        have hval : ∀ (i : Nat) (v : Value), items[i]? = some v → ∃ k t, ns[i]? = some k ∧ v = .int k t := fun i v hv => by
          have hi : i < ns.length := by rw [← hisz]; exact (Array.getElem?_eq_some_iff.mp hv).1
          obtain ⟨t, e⟩ := PyProof.Rows.IntsAre.int_at hit i v (by rw [Array.getElem?_toList]; exact hv)
          refine ⟨ns[i], t, List.getElem?_eq_getElem hi, ?_⟩
          rw [e, List.getD_eq_getElem?_getD, List.getElem?_eq_getElem hi] <;> rfl
        refine set_update_ints ((Walks.list hh3 _ l hneI items).toS) s.heap.objs.size
          hSf ns hisz hb hval (items.size - 0) 0 _ (by omega) (Nat.zero_le _)
          ⟨⟨_, Heap.get?_push_size _ rfl, rfl, rfl⟩, (hl1.push _)⟩ ?hS0 ?hR
        case hS0 =>
          have hget : ((s.heap.push { cls := .type "set", dict := none, data := .set #[] 0 (.fresh 0 0 (!w.params.followText "set-order")) }).push { cls := .type "list_iterator", data := .fields #[.ref l, .int 0 0] }).get? s.heap.objs.size
              = some { cls := .type "set", dict := none, data := .set #[] 0 (.fresh 0 0 (!w.params.followText "set-order")) } := Heap.get?_push_of_some _ hS
          exact ⟨0, Nat.le_refl 0, setR_new_at hget⟩
        case hR =>
          intro s' c' hm hc' hS'
          obtain ⟨h', g2, d', tk', os'⟩ := s'
          have eg : g2 = s.gens := hm.gens
          have ed : d' = s.drawn := hm.drawn
          have eo : os' = s.os := hm.os
          subst eg; subst ed; subst eo
          show wpAny _ _ _ _ _ _
          refine wpAny_pure ?_
          show wpAny _ _ (ret Value.none) _ _ _
          rw [hisz] at hc'
          refine wpAny_pure ⟨rfl, h', tk', c', rfl, hS', hc', fun b o e => ?_⟩
          have hb0 : b < s.heap.objs.size := Heap.lt_size e
          have hb1 : b ≠ s.heap.objs.size := Nat.ne_of_lt hb0
          have hb2 : b ≠ (s.heap.push { cls := .type "set", dict := none, data := .set #[] 0 (.fresh 0 0 (!w.params.followText "set-order")) }).objs.size := by
            rw [Heap.size_push]; exact Nat.ne_of_lt (Nat.lt_succ_of_lt hb0)
          exact hm.heap b o (by simp only [List.mem_cons, List.mem_singleton, List.not_mem_nil, or_false, not_or]; exact ⟨hb1, hb2⟩) (Heap.get?_push_of_some _ (Heap.get?_push_of_some _ e))
      · cases r₂ with
        | error e => exact hr₂
        | ok fl₂ =>
          cases fl₂ with
          | ret r =>
            obtain ⟨rfl, h', tk, c', rfl, hS', hc', hk'⟩ := hr₂
            repeat (any_goals (first | assumption | wp_step))
            exact h _ _ _ hS' hc' hk'
          | _ => exact hr₂.elim
    | _ => exact hr.elim
variable {X : Cx}
def rSetL (w : World) (K : PySem.W.Frag) : List V → Hp → VK → Prop := fun xs H Q => ∃ (a : Addr) (ns : List Int), xs = [.ref a] ∧ SqL K H a (ns.map V.int) ∧ ns.length ≤ 4000 ∧ ∀ (p : Addr) (c : Nat), c ≤ ns.length → (∃ ks : List Int, ks.Nodup ∧ ks.length = c ∧ ∀ k, k ∈ ks ↔ k ∈ ns) → H p = none → Q (.ref p) (upd H p (SetO w p (fun j => decide (j ∈ ns)) c))
theorem cr_setL (hc : X.calm = true) : CallR X (.type "set") (rSetL X.w X.K) := by
  intro pins s σ H xs us Q I r h
  obtain ⟨a, ns, rfl, hq, hl, q⟩ := h
  rw [Vals.ref1 r]
  obtain ⟨its, rv, pl, hz⟩ := I.list hq
  refine call_set_listR ns (I.ok.hd hc) pl.isList (by simpa using ints_of_vals rv) (by unfold scanBound; omega) fun h' tk c R hc' k => ?_
  have nw : H s.heap.objs.size = none := I.hok.fresh (Nat.le_refl _)
  have kk : ∃ ks : List Int, ks.Nodup ∧ ks.length = c ∧ ∀ k, k ∈ ks ↔ k ∈ ns := by
    obtain ⟨o, es, ep, t, ho, hex, hd, g, nd, mem, hb, hf, hn, hr, hl2⟩ := R
    exact ⟨es.toList.map keyOf, nd, by rw [List.length_map, Array.length_toList]; exact hn, fun k => by rw [← mem k, decide_eq_true_eq]⟩
  exact ⟨.ref _, _, I.laid (t' := tk) k (Nat.le_refl _) (setO_new R), rfl, q _ c hc' kk nw⟩
end
/-! ### enumerate(a tuple) -/
section
open PySem.Spec PyProof.Rows PySem.Calls
set_option maxHeartbeats 4000000 in
theorem meets_enum1 {v : Value} {o : Obj} {HH : Heap → Prop} (B : Begins v o HH) :
    Meets (Builtin.«enumerate.__new__» ⟨[.type "enumerate", v], []⟩) (fun _ R s => HH s.heap ∧
      R (.ok (.ret (.ref (s.heap.push o).objs.size))) { s with heap := (s.heap.push o).push { cls := .type "enumerate", data := .fields #[.none, .bool false, .ref s.heap.objs.size, rawInt 0, .none, .none] } }) :=
  .of_wp fun prog w A R s both => by
    obtain ⟨hp, g, d, tk, os⟩ := s
    obtain ⟨h1, h⟩ := both
    have hsub := sub_enumerate
    have it1 : ∀ {A' : Around} {E : Value → Shared → Prop} {Q : Value → Shared → Prop}, Q (.ref hp.objs.size) ⟨hp.push o, g, d, tk, os⟩ → wpAny (model prog w) A' (pyIter v) Q E ⟨hp, g, d, tk, os⟩ := fun q => B.iter prog w _ _ ⟨hp, g, d, tk, os⟩ _ h1 q
    wp_walk using it1
    refine wpAny_stack_any fun st => wpAny_pure ?_
    split
    · rename_i c _ _ _ _ _
      cases (c == Value.type "enumerate") <;> (wp_walk using it1; exact ⟨_, rfl, h⟩)
    · wp_walk using it1
      exact ⟨_, rfl, h⟩
section
variable {prog : Program} {w : World} {A : Around} {E : Value → Shared → Prop} {s : Shared}
theorem call_enum1 {v : Value} {o : Obj} {HH : Heap → Prop} {Q : Value → Shared → Prop} (B : Begins v o HH) (h1 : HH s.heap)
    (fin : ∀ h', IsEnum h' (s.heap.objs.size + 1) s.heap.objs.size 0 .none → h'.get? s.heap.objs.size = some o → h'.objs.size = s.heap.objs.size + 2 → (∀ b u, s.heap.get? b = some u → h'.get? b = some u) → Q (.ref (s.heap.objs.size + 1)) { s with heap := h' }) :
    wpAny (model prog w) A (call (.type "enumerate") [v]) Q E s := by
  refine callType_new F.called_enumerate (by decide) (F.typeCall_enumerate_1 _) (F.newCall_enumerate_1 _) (fun obj => F.args_object_init_2 obj _) F.entry_enumerate_new (meets_enum1 B) ⟨h1, ?_⟩
  have hz : (s.heap.push o).objs.size = s.heap.objs.size + 1 := Heap.size_push ..
  show _ ∧ _
  rw [hz]
  have he : ((s.heap.push o).push { cls := .type "enumerate", data := .fields #[.none, .bool false, .ref s.heap.objs.size, rawInt 0, .none, .none] }).get? (s.heap.objs.size + 1) = some { cls := .type "enumerate", data := .fields #[.none, .bool false, .ref s.heap.objs.size, rawInt 0, .none, .none] } := by
    rw [← hz]
    exact Heap.get?_push_size (s.heap.push o) rfl
  exact ⟨⟨_, he, rfl⟩, fin _ he (Heap.get?_push_of_some _ (Heap.get?_push_size _ B.free)) (by rw [Heap.size_push, hz]) fun b u x => Heap.get?_push_of_some _ (Heap.get?_push_of_some _ x)⟩
end
/-- a tuple's iterator behind its end -/
theorem draws_end {prog : Program} {w : World} {A : Around} (calm : A.handled = none) (it t : Addr) (items : Array Value) (i : Nat) (hi : items[i]? = none) :
    Draws prog w A it [it, t] i (fun _ _ => True) (fun j h => j = i ∧ h.IsTupleIter it t j ∧ h.IsTuple t items) where
  live := fun _ _ st => let ⟨o, ho, _⟩ := st.2.1; ⟨o, ho⟩
  frame := fun _ _ _ st hk => ⟨st.1, st.2.1.at fun o e => hk it (by simp) o e, st.2.2.at fun o e => hk t (by simp) o e⟩
  item := fun j s Q E hj st _ => absurd st.1 (Nat.ne_of_lt hj)
  done := fun s Q E st hE => wpAny_nextOf_tuple_end calm st.2.1 st.2.2 hi hE
/-- the tuple at a, each item in a new pair -/
def IteT (K : PySem.W.Frag) (a : Addr) : It :=
  ⟨fun i H => ∃ (xs : List V) (x : V), SqT K H a xs ∧ xs[i]? = some x, fun i H v H' => ∃ T x, v = .ref T ∧ H T = none ∧ H' = upd H T (.tup [.int (i : Nat), x]) ∧ ∀ xs, SqT K H a xs → xs[i]? = some x, fun i H => ∃ xs : List V, SqT K H a xs ∧ xs.length ≤ i⟩
theorem turn_enumT {P : Program} {w : World} {K : PySem.W.Frag} {elts : List Expr} {kk : Nat} {tpos : Pos} (a e it : Addr) :
    Turn P w K (.Tuple elts kk tpos) (IteT K a) [e, it] e (fun i h => (∃ old, IsEnum h e it ((i : Nat) : Int) old) ∧ h.IsTupleIter it a i ∧ e ≠ it ∧ e ≠ a ∧ it ≠ a) where
  mem := by simp
  obj := fun i h st b hb => by
    obtain ⟨⟨old, he⟩, ⟨o, ho, hc, hd⟩, _⟩ := st
    rcases List.mem_cons.mp hb with z | z
    · subst z
      exact ⟨_, he, fun v q => nomatch q⟩
    · have z2 := List.mem_singleton.mp z
      subst z2
      exact ⟨o, ho, fun v q => by rw [hd] at q; cases q⟩
  keep := fun i h h' st k => let ⟨⟨old, he⟩, hi, hne⟩ := st; ⟨⟨old, k e (by simp) _ he⟩, hi.at fun o q => k it (by simp) o q, hne⟩
  item := by
    intro X hP hw hK calm i pins s σ H E I hf st hg
    subst hP hw hK
    obtain ⟨⟨old, he⟩, hit, n1, n2, n3⟩ := st
    obtain ⟨xs, x, hq, hx⟩ := hg
    obtain ⟨its, rv, p, hz⟩ := I.tuple hq
    obtain ⟨u, hu, ru⟩ := rv.get hx
    have hel : e < s.heap.objs.size := Heap.lt_size he
    have hil : it < s.heap.objs.size := by obtain ⟨_, q, _⟩ := hit; exact Heap.lt_size q
    have ilt : i < its.toArray.size := by rw [List.size_toArray]; exact (List.getElem?_eq_some_iff.mp hu).1
    have D := Draws.tuple (prog := X.prog) (w := X.w) (A := X.A.in1) (by simpa using I.ok.hd calm) it a (Ne.symm n3) its.toArray
    refine wpAny_pyNext_enum_itemD D he ⟨hit, p⟩ ilt n1 (by simp [n1, n2]) fun y h' tk hy ho hst hT hsz hk => ?_
    have ey : y = u := by
      have q : its[i]? = some y := by simpa using hy
      rw [hu] at q
      exact (Option.some.inj q).symm
    subst ey
    refine ⟨_, rfl, wpAny_letOwnedTupleGo_enum (s := { s with heap := h', toks := tk + 1 }) ho fun h2 he2 sb => ?_⟩
    have nT : h2.get? s.heap.objs.size = some { cls := .type "tuple", data := .seq #[.int i tk, y] } := (sb.2 _ (Nat.ne_of_gt hel)).trans hT
    have mk : ObjOk X.prog X.w (upd H s.heap.objs.size (.tup [.int (i : Nat), x])) h2 s.heap.objs.size (.tup [.int (i : Nat), x]) :=
      ⟨by show 2 ≤ sizeLine; decide, [.int i tk, y], .cons ⟨_, rfl⟩ (.cons ru .nil), ⟨_, nT, rfl, _, rfl⟩⟩
    have I1 : Inv X pins σ (upd H s.heap.objs.size (.tup [.int (i : Nat), x])) { s with heap := h2, toks := tk + 1 } :=
      I.turnedNew (ch := [e, it]) (fun b ob hb q => (sb.2 b (fun z => hb (by simp [z]))).trans (hk b ob (fun z => hb (by simp [z])) (fun z => hb (by simp [z])) q)) hf (Nat.le_refl _) mk
    refine ⟨.ref s.heap.objs.size, _, I1, rfl, ⟨_, x, rfl, I.hok.fresh (Nat.le_refl _), rfl, fun ys hy2 => by rw [I.tuple_inj hy2 hq]; exact hx⟩, ⟨⟨y, ?_⟩, hst.1.at fun o q => (sb.2 it (Ne.symm n1)).trans q, n1, n2, n3⟩, fun b hb => ?_⟩
    · rw [show ((i + 1 : Nat) : Int) = (i : Int) + 1 by omega]
      exact he2
    · have lt : b < s.heap.objs.size := by
        rcases List.mem_cons.mp hb with z | z
        · rw [z]; exact hel
        · rw [List.mem_singleton.mp z]; exact hil
      rw [upd_ne (Nat.ne_of_lt lt)]
      exact (hf b hb).1
  done := by
    intro X hP hw hK calm i pins s σ H E I hf st hg
    subst hP hw hK
    obtain ⟨⟨old, he⟩, hit, n1, n2, n3⟩ := st
    obtain ⟨xs, hq, hx⟩ := hg
    obtain ⟨its, rv, p, hz⟩ := I.tuple hq
    obtain ⟨f0, f1, f2, f3, f4, f5⟩ := hf it (by simp)
    have hl := rv.length
    have over : its.toArray[i]? = none := by simp; omega
    exact wpAny_pyNext_enum_endD (draws_end (by simpa using I.ok.hd calm) it a its.toArray i over) he ⟨rfl, hit, p⟩ fun h' eb => ⟨rfl, I.turned (t' := s.toks) (fun b o hb q => eb b o hb q) f0 f1 f3 f4 f5⟩
  self := fun A i s Q E st h => let ⟨⟨_, he⟩, _⟩ := st; wpAny_pyIter_enum he h
def iEnumT (K : PySem.W.Frag) (ta : TA) : TI := fun σ H R => ta σ H fun vs H1 => ∃ a xs, vs = [.ref a] ∧ SqT K H1 a xs ∧ R (IteT K a) H1
theorem pi_enumT {X : Cx} {e : Expr} {ta : TA} {p pos tpos : Pos} {elts : List Expr} {kk : Nat} (hg : Gl X "enumerate") (hm : X.mg "enumerate" = none) (ha : PA X [e] ta) (hs : starEach [e] X.env = [(false, eval e X.env)] := by rfl) :
    PI X (.Tuple elts kk tpos) (.Call (.Name "enumerate" p) [e] [] pos) (iEnumT X.K ta) := by
  constructor
  intro pins s σ H R I h
  refine Call_ (ld_blt I hg hm boot_enumerate (PyProof.Rows.callWith_type1 (thn (ha.run pos pins s σ H _ I h) fun us s1 ⟨vs, H1, I1, r1, q1⟩ => ?_) hs rfl))
  obtain ⟨a, xs, ex, hq, q⟩ := q1
  subst ex
  cases r1 with
  | cons r rr =>
    cases rr
    cases r
    obtain ⟨its, rv, tp, hz⟩ := I1.tuple hq
    have al : a < s1.heap.objs.size := by obtain ⟨_, q, _⟩ := tp; exact Heap.lt_size q
    refine call_enum1 (begins_tuple a its.toArray) (show s1.heap.IsTuple a its.toArray from tp) fun h' he hit hsz hk => wpAny_pyIter_enum he ?_
    have I2 : Inv X pins σ H1 { s1 with heap := h' } := I1.kept (t' := s1.toks) hk
    refine ⟨s1.heap.objs.size + 1, [s1.heap.objs.size + 1, s1.heap.objs.size], _, _, H1, rfl, I2, turn_enumT a (s1.heap.objs.size + 1) s1.heap.objs.size, ⟨⟨.none, he⟩, ⟨_, hit, rfl, rfl⟩, Nat.succ_ne_self _, Nat.ne_of_gt (Nat.lt_succ_of_lt al), Nat.ne_of_gt al⟩, fun b hb => ?_, q⟩
    have le : s1.heap.objs.size ≤ b := by
      rcases List.mem_cons.mp hb with z | z
      · rw [z]; exact Nat.le_add_right _ _
      · rw [List.mem_singleton.mp z]; exact Nat.le_refl _
    exact I1.fpOk le (I1.hok.fresh le)
theorem for_enumT {K : PySem.W.Frag} {a : Addr} {xs : List V} {g : TG} {tb : TS} {D : Ends} {σ : L2.St} {H : Hp} (Pv : Nat → L2.St → Hp → Prop) (h0 : Pv 0 σ H) (hq : ∀ i σ H, Pv i σ H → SqT K H a xs)
    (hs : ∀ (i : Nat) (x : V) (t : Addr) (σ : L2.St) (H : Hp), xs[i]? = some x → Pv i σ H → H t = none → g (.ref t) σ (upd H t (.tup [.int (i : Nat), x])) fun σ2 H2 => tb { D with nx := Pv (i + 1), ct := Pv (i + 1), bk := D.nx } σ2 H2)
    (hd : ∀ σ H, Pv xs.length σ H → D.nx σ H) : ∃ W : Nat → Nat → L2.St → Hp → Prop, (∃ m, W 0 m σ H) ∧ ∀ i m σ H, W i m σ H →
      ((IteT K a).stop i H ∧ D.nx σ H) ∨ ((IteT K a).go i H ∧ ∃ N : L2.St → Hp → Prop, (∀ σ' H', N σ' H' → ∃ m', m' < m ∧ W (i + 1) m' σ' H') ∧ ∀ v H', (IteT K a).yld i H v H' → g v σ H' fun σ2 H2 => tb { D with nx := N, ct := N, bk := D.nx } σ2 H2) := by
  refine ⟨fun i m σ H => m = xs.length - i ∧ i ≤ xs.length ∧ Pv i σ H, ⟨_, rfl, Nat.zero_le _, h0⟩, ?_⟩
  rintro i m σ H ⟨rfl, hi, p⟩
  have q := hq i σ H p
  by_cases lt : i < xs.length
  · refine .inr ⟨⟨xs, _, q, List.getElem?_eq_getElem lt⟩, Pv (i + 1), fun σ' H' p2 => ⟨_, by omega, rfl, lt, p2⟩, fun v H' y => ?_⟩
    obtain ⟨t, x, rfl, nt, rfl, f⟩ := y
    exact hs i x t σ H (f xs q) p nt
  · have e : i = xs.length := by omega
    subst e
    exact .inl ⟨⟨xs, q, Nat.le_refl _⟩, hd σ H p⟩
end
/-! ### x |= e -/
theorem ip_or {X : Cx} : PIp X .BitOr (ipI fun i j => Builtin.bitOr i j) := by
  intro pins s σ H x y v u Q I r1 r2 h
  exact iop_or pins s σ H x y v u Q I r1 r2 h
/-! ### comprehensions -/
theorem filterMap_range_succ {α : Type} (f : Nat → Option α) (n : Nat) : (List.range (n + 1)).filterMap f = (List.range n).filterMap f ++ (f n).toList := by
  rw [List.range_succ, List.filterMap_append]
  cases e : f n with
  | none => simp [e]
  | some v => simp [e]
theorem filterMap_range_len {α : Type} (f : Nat → Option α) (n : Nat) : ((List.range n).filterMap f).length ≤ n := by
  have h := List.length_filterMap_le f (List.range n)
  rw [List.length_range] at h
  exact h
theorem lt_line {n : Nat} (h : n ≤ 100000) : n < sizeLine := Nat.lt_of_le_of_lt h (by decide)
theorem lc_rangeF {lo : Int} {n : Nat} {g : TG} {tt : TT} {te : TE} {vs : List Nat} {σ : St} {H1 : Hp} {D : Addr} {Qd : Hp → Prop} (f : Nat → Option V) (nD : H1 D = none) (hn : n ≤ 100000)
    (hs : ∀ (i : Nat) (H : Hp) (N : V → Hp → Prop) (M : Hp → Prop), i < n → Same H1 H → (∀ v H4, f i = some v → Same H H4 → N v H4) → (∀ H4, f i = none → Same H H4 → M H4) → g (.int (lo + (i : Int))) (wipe σ vs) H fun σ2 H2 => wipe σ2 vs = wipe σ vs ∧ tt σ2 H2 fun b H3 => if b = true then te σ2 H3 N else M H3)
    (hd : ∀ H, Same H1 H → H D = some (.lst ((List.range n).filterMap f)) → Qd H) : ∃ W : Nat → Nat → Hp → Prop, (∃ m, W 0 m (upd H1 D (.lst []))) ∧ ∀ i m H, W i m H →
      ((Itr lo n).stop i H ∧ Qd H) ∨ ((Itr lo n).go i H ∧ ∃ Nx : Hp → Prop, (∀ H', Nx H' → ∃ m', m' < m ∧ W (i + 1) m' H') ∧ ∀ x H', (Itr lo n).yld i H x H' → g x (wipe σ vs) H' fun σ2 H2 => wipe σ2 vs = wipe σ vs ∧ tt σ2 H2 fun b H3 =>
        if b = true then te σ2 H3 fun y H4 => ∃ acc, H4 D = some (.lst acc) ∧ acc.length < sizeLine ∧ Nx (upd H4 D (.lst (acc ++ [y]))) else Nx H3) := by
  refine lc_range (lo := lo) (n := n) (fun i H => Same H1 H ∧ H D = some (.lst ((List.range i).filterMap f))) ⟨Same.new (Same.refl H1) nD, upd_same⟩ (fun i H hi p => ?_) (fun H p => hd H p.1 p.2)
  have il : i < n := hi
  have hz := filterMap_range_len f i
  refine hs i H _ _ hi p.1 (fun v H4 e s => ⟨_, s _ _ p.2, lt_line (by omega), ?_, ?_⟩) (fun H4 e s => ⟨?_, ?_⟩)
  · exact Same.mut (Same.trans p.1 s) nD
  · rw [filterMap_range_succ, e]
    exact upd_same
  · exact Same.trans p.1 s
  · rw [filterMap_range_succ, e, s _ _ p.2]
    simp
theorem lc_rangeM {lo : Int} {n : Nat} {g : TG} {tt : TT} {te : TE} {vs : List Nat} {σ : St} {H1 : Hp} {D : Addr} {Qd : Hp → Prop} {τ : Tp} (R : Nat → V → Hp → Prop) (st : ∀ i v H H', R i v H → TK H H' → R i v H') (t : Tape τ H1) (nD : H1 D = none) (hn : n ≤ 100000)
    (hs : ∀ (i : Nat) (H : Hp) (N : V → Hp → Prop) (M : Hp → Prop), i < n → Mv τ H1 H → (∀ v H4, Mv τ H H4 → R i v H4 → N v H4) → g (.int (lo + (i : Int))) (wipe σ vs) H fun σ2 H2 => wipe σ2 vs = wipe σ vs ∧ tt σ2 H2 fun b H3 => if b = true then te σ2 H3 N else M H3)
    (hd : ∀ H acc, Mv τ H1 H → H D = some (.lst acc) → acc.length = n → (∀ (j : Nat) v, acc[j]? = some v → R j v H) → Qd H) : ∃ W : Nat → Nat → Hp → Prop, (∃ m, W 0 m (upd H1 D (.lst []))) ∧ ∀ i m H, W i m H →
      ((Itr lo n).stop i H ∧ Qd H) ∨ ((Itr lo n).go i H ∧ ∃ Nx : Hp → Prop, (∀ H', Nx H' → ∃ m', m' < m ∧ W (i + 1) m' H') ∧ ∀ x H', (Itr lo n).yld i H x H' → g x (wipe σ vs) H' fun σ2 H2 => wipe σ2 vs = wipe σ vs ∧ tt σ2 H2 fun b H3 =>
        if b = true then te σ2 H3 fun y H4 => ∃ acc, H4 D = some (.lst acc) ∧ acc.length < sizeLine ∧ Nx (upd H4 D (.lst (acc ++ [y]))) else Nx H3) := by
  refine lc_range (lo := lo) (n := n) (fun i H => Mv τ H1 H ∧ ∃ acc, H D = some (.lst acc) ∧ acc.length = i ∧ ∀ (j : Nat) v, acc[j]? = some v → R j v H) ⟨(t.mv).new nD, [], upd_same, rfl, fun j v e => by simp at e⟩ (fun i H hi p => ?_) (fun H p => ?_)
  · obtain ⟨m, acc, hD, hlen, hR⟩ := p
    have il : i < n := hi
    refine hs i H _ _ hi m (fun v H4 m4 r => ⟨acc, m4.keep _ _ (t.mv.neF nD) hD, lt_line (by omega), (m.trans m4).mut nD, acc ++ [v], upd_same, by rw [List.length_append, hlen]; rfl, fun j u e => ?_⟩)
    have k1 : TK H4 (upd H4 D (.lst (acc ++ [v]))) := TK.mut (m4.keep _ _ (t.mv.neF nD) hD)
    by_cases hj : j < acc.length
    · rw [List.getElem?_append_left hj] at e
      exact st _ _ _ _ (st _ _ _ _ (hR j u e) m4.tk) k1
    · rw [List.getElem?_append_right (by omega)] at e
      have hj2 : j = i := by
        have q := (List.getElem?_eq_some_iff.mp e).1
        rw [List.length_singleton] at q
        omega
      rw [hj2, hlen, Nat.sub_self] at e
      have e2 : v = u := Option.some.inj e
      rw [← e2, hj2]
      exact st _ _ _ _ r k1
  · obtain ⟨m, acc, hD, hlen, hR⟩ := p
    exact hd H acc m hD hlen hR
theorem lc_listF {K : PySem.W.Frag} {a : Addr} {xs : List V} {g : TG} {tt : TT} {te : TE} {vs : List Nat} {σ : St} {H1 : Hp} {D : Addr} {Qd : Hp → Prop} (f : Nat → Option V) (hx : H1 a = some (.lst xs)) (nD : H1 D = none) (hn : xs.length ≤ 100000)
    (hs : ∀ (i : Nat) (x : V) (H : Hp) (N : V → Hp → Prop) (M : Hp → Prop), xs[i]? = some x → Same H1 H → (∀ v H4, f i = some v → Same H H4 → N v H4) → (∀ H4, f i = none → Same H H4 → M H4) → g x (wipe σ vs) H fun σ2 H2 => wipe σ2 vs = wipe σ vs ∧ tt σ2 H2 fun b H3 => if b = true then te σ2 H3 N else M H3)
    (hd : ∀ H, Same H1 H → H D = some (.lst ((List.range xs.length).filterMap f)) → Qd H) : ∃ W : Nat → Nat → Hp → Prop, (∃ m, W 0 m (upd H1 D (.lst []))) ∧ ∀ i m H, W i m H →
      ((Itl K a).stop i H ∧ Qd H) ∨ ((Itl K a).go i H ∧ ∃ Nx : Hp → Prop, (∀ H', Nx H' → ∃ m', m' < m ∧ W (i + 1) m' H') ∧ ∀ x H', (Itl K a).yld i H x H' → g x (wipe σ vs) H' fun σ2 H2 => wipe σ2 vs = wipe σ vs ∧ tt σ2 H2 fun b H3 =>
        if b = true then te σ2 H3 fun y H4 => ∃ acc, H4 D = some (.lst acc) ∧ acc.length < sizeLine ∧ Nx (upd H4 D (.lst (acc ++ [y]))) else Nx H3) := by
  refine lc_list (K := K) (a := a) (xs := xs) (fun i H => Same H1 H ∧ H D = some (.lst ((List.range i).filterMap f))) ⟨Same.new (Same.refl H1) nD, upd_same⟩ (fun i H _ p => SqL.of (p.1 _ _ hx)) (fun i x H hi p => ?_) (fun H p => hd H p.1 p.2)
  have il : i < xs.length := (List.getElem?_eq_some_iff.mp hi).1
  have hz := filterMap_range_len f i
  refine hs i x H _ _ hi p.1 (fun v H4 e s => ⟨_, s _ _ p.2, lt_line (by omega), ?_, ?_⟩) (fun H4 e s => ⟨?_, ?_⟩)
  · exact Same.mut (Same.trans p.1 s) nD
  · rw [filterMap_range_succ, e]
    exact upd_same
  · exact Same.trans p.1 s
  · rw [filterMap_range_succ, e, s _ _ p.2]
    simp
theorem lc_listM {K : PySem.W.Frag} {a : Addr} {xs : List V} {g : TG} {tt : TT} {te : TE} {vs : List Nat} {σ : St} {H1 : Hp} {D : Addr} {Qd : Hp → Prop} {τ : Tp} (R : Nat → V → Hp → Prop) (st : ∀ i v H H', R i v H → TK H H' → R i v H') (hx : H1 a = some (.lst xs)) (ne_a : a ≠ τ.t) (t : Tape τ H1) (nD : H1 D = none) (hn : xs.length ≤ 100000)
    (hs : ∀ (i : Nat) (x : V) (H : Hp) (N : V → Hp → Prop) (M : Hp → Prop), xs[i]? = some x → Mv τ H1 H → (∀ v H4, Mv τ H H4 → R i v H4 → N v H4) → g x (wipe σ vs) H fun σ2 H2 => wipe σ2 vs = wipe σ vs ∧ tt σ2 H2 fun b H3 => if b = true then te σ2 H3 N else M H3)
    (hd : ∀ H acc, Mv τ H1 H → H D = some (.lst acc) → acc.length = xs.length → (∀ (j : Nat) v, acc[j]? = some v → R j v H) → Qd H) : ∃ W : Nat → Nat → Hp → Prop, (∃ m, W 0 m (upd H1 D (.lst []))) ∧ ∀ i m H, W i m H →
      ((Itl K a).stop i H ∧ Qd H) ∨ ((Itl K a).go i H ∧ ∃ Nx : Hp → Prop, (∀ H', Nx H' → ∃ m', m' < m ∧ W (i + 1) m' H') ∧ ∀ x H', (Itl K a).yld i H x H' → g x (wipe σ vs) H' fun σ2 H2 => wipe σ2 vs = wipe σ vs ∧ tt σ2 H2 fun b H3 =>
        if b = true then te σ2 H3 fun y H4 => ∃ acc, H4 D = some (.lst acc) ∧ acc.length < sizeLine ∧ Nx (upd H4 D (.lst (acc ++ [y]))) else Nx H3) := by
  refine lc_list (K := K) (a := a) (xs := xs) (fun i H => Mv τ H1 H ∧ ∃ acc, H D = some (.lst acc) ∧ acc.length = i ∧ ∀ (j : Nat) v, acc[j]? = some v → R j v H) ⟨(t.mv).new nD, [], upd_same, rfl, fun j v e => by simp at e⟩ (fun i H _ p => SqL.of (p.1.keep _ _ ne_a hx)) (fun i x H hi p => ?_) (fun H p => ?_)
  · obtain ⟨m, acc, hD, hlen, hR⟩ := p
    have il : i < xs.length := (List.getElem?_eq_some_iff.mp hi).1
    refine hs i x H _ _ hi m (fun v H4 m4 r => ⟨acc, m4.keep _ _ (t.mv.neF nD) hD, lt_line (by omega), (m.trans m4).mut nD, acc ++ [v], upd_same, by rw [List.length_append, hlen]; rfl, fun j u e => ?_⟩)
    have k1 : TK H4 (upd H4 D (.lst (acc ++ [v]))) := TK.mut (m4.keep _ _ (t.mv.neF nD) hD)
    by_cases hj : j < acc.length
    · rw [List.getElem?_append_left hj] at e
      exact st _ _ _ _ (st _ _ _ _ (hR j u e) m4.tk) k1
    · rw [List.getElem?_append_right (by omega)] at e
      have hj2 : j = i := by
        have q := (List.getElem?_eq_some_iff.mp e).1
        rw [List.length_singleton] at q
        omega
      rw [hj2, hlen, Nat.sub_self] at e
      have e2 : v = u := Option.some.inj e
      rw [← e2, hj2]
      exact st _ _ _ _ r k1
  · obtain ⟨m, acc, hD, hlen, hR⟩ := p
    exact hd H acc m hD hlen hR
theorem lc_tupF {K : PySem.W.Frag} {a : Addr} {xs : List V} {g : TG} {tt : TT} {te : TE} {vs : List Nat} {σ : St} {H1 : Hp} {D : Addr} {Qd : Hp → Prop} (f : Nat → Option V) (hx : H1 a = some (.tup xs)) (nD : H1 D = none) (hn : xs.length ≤ 100000)
    (hs : ∀ (i : Nat) (x : V) (H : Hp) (N : V → Hp → Prop) (M : Hp → Prop), xs[i]? = some x → Same H1 H → (∀ v H4, f i = some v → Same H H4 → N v H4) → (∀ H4, f i = none → Same H H4 → M H4) → g x (wipe σ vs) H fun σ2 H2 => wipe σ2 vs = wipe σ vs ∧ tt σ2 H2 fun b H3 => if b = true then te σ2 H3 N else M H3)
    (hd : ∀ H, Same H1 H → H D = some (.lst ((List.range xs.length).filterMap f)) → Qd H) : ∃ W : Nat → Nat → Hp → Prop, (∃ m, W 0 m (upd H1 D (.lst []))) ∧ ∀ i m H, W i m H →
      ((Itt K a).stop i H ∧ Qd H) ∨ ((Itt K a).go i H ∧ ∃ Nx : Hp → Prop, (∀ H', Nx H' → ∃ m', m' < m ∧ W (i + 1) m' H') ∧ ∀ x H', (Itt K a).yld i H x H' → g x (wipe σ vs) H' fun σ2 H2 => wipe σ2 vs = wipe σ vs ∧ tt σ2 H2 fun b H3 =>
        if b = true then te σ2 H3 fun y H4 => ∃ acc, H4 D = some (.lst acc) ∧ acc.length < sizeLine ∧ Nx (upd H4 D (.lst (acc ++ [y]))) else Nx H3) := by
  refine lc_tup (K := K) (a := a) (xs := xs) (fun i H => Same H1 H ∧ H D = some (.lst ((List.range i).filterMap f))) ⟨Same.new (Same.refl H1) nD, upd_same⟩ (fun i H _ p => SqT.of (p.1 _ _ hx)) (fun i x H hi p => ?_) (fun H p => hd H p.1 p.2)
  have il : i < xs.length := (List.getElem?_eq_some_iff.mp hi).1
  have hz := filterMap_range_len f i
  refine hs i x H _ _ hi p.1 (fun v H4 e s => ⟨_, s _ _ p.2, lt_line (by omega), ?_, ?_⟩) (fun H4 e s => ⟨?_, ?_⟩)
  · exact Same.mut (Same.trans p.1 s) nD
  · rw [filterMap_range_succ, e]
    exact upd_same
  · exact Same.trans p.1 s
  · rw [filterMap_range_succ, e, s _ _ p.2]
    simp
theorem lc_tupM {K : PySem.W.Frag} {a : Addr} {xs : List V} {g : TG} {tt : TT} {te : TE} {vs : List Nat} {σ : St} {H1 : Hp} {D : Addr} {Qd : Hp → Prop} {τ : Tp} (R : Nat → V → Hp → Prop) (st : ∀ i v H H', R i v H → TK H H' → R i v H') (hx : H1 a = some (.tup xs)) (ne_a : a ≠ τ.t) (t : Tape τ H1) (nD : H1 D = none) (hn : xs.length ≤ 100000)
    (hs : ∀ (i : Nat) (x : V) (H : Hp) (N : V → Hp → Prop) (M : Hp → Prop), xs[i]? = some x → Mv τ H1 H → (∀ v H4, Mv τ H H4 → R i v H4 → N v H4) → g x (wipe σ vs) H fun σ2 H2 => wipe σ2 vs = wipe σ vs ∧ tt σ2 H2 fun b H3 => if b = true then te σ2 H3 N else M H3)
    (hd : ∀ H acc, Mv τ H1 H → H D = some (.lst acc) → acc.length = xs.length → (∀ (j : Nat) v, acc[j]? = some v → R j v H) → Qd H) : ∃ W : Nat → Nat → Hp → Prop, (∃ m, W 0 m (upd H1 D (.lst []))) ∧ ∀ i m H, W i m H →
      ((Itt K a).stop i H ∧ Qd H) ∨ ((Itt K a).go i H ∧ ∃ Nx : Hp → Prop, (∀ H', Nx H' → ∃ m', m' < m ∧ W (i + 1) m' H') ∧ ∀ x H', (Itt K a).yld i H x H' → g x (wipe σ vs) H' fun σ2 H2 => wipe σ2 vs = wipe σ vs ∧ tt σ2 H2 fun b H3 =>
        if b = true then te σ2 H3 fun y H4 => ∃ acc, H4 D = some (.lst acc) ∧ acc.length < sizeLine ∧ Nx (upd H4 D (.lst (acc ++ [y]))) else Nx H3) := by
  refine lc_tup (K := K) (a := a) (xs := xs) (fun i H => Mv τ H1 H ∧ ∃ acc, H D = some (.lst acc) ∧ acc.length = i ∧ ∀ (j : Nat) v, acc[j]? = some v → R j v H) ⟨(t.mv).new nD, [], upd_same, rfl, fun j v e => by simp at e⟩ (fun i H _ p => SqT.of (p.1.keep _ _ ne_a hx)) (fun i x H hi p => ?_) (fun H p => ?_)
  · obtain ⟨m, acc, hD, hlen, hR⟩ := p
    have il : i < xs.length := (List.getElem?_eq_some_iff.mp hi).1
    refine hs i x H _ _ hi m (fun v H4 m4 r => ⟨acc, m4.keep _ _ (t.mv.neF nD) hD, lt_line (by omega), (m.trans m4).mut nD, acc ++ [v], upd_same, by rw [List.length_append, hlen]; rfl, fun j u e => ?_⟩)
    have k1 : TK H4 (upd H4 D (.lst (acc ++ [v]))) := TK.mut (m4.keep _ _ (t.mv.neF nD) hD)
    by_cases hj : j < acc.length
    · rw [List.getElem?_append_left hj] at e
      exact st _ _ _ _ (st _ _ _ _ (hR j u e) m4.tk) k1
    · rw [List.getElem?_append_right (by omega)] at e
      have hj2 : j = i := by
        have q := (List.getElem?_eq_some_iff.mp e).1
        rw [List.length_singleton] at q
        omega
      rw [hj2, hlen, Nat.sub_self] at e
      have e2 : v = u := Option.some.inj e
      rw [← e2, hj2]
      exact st _ _ _ _ r k1
  · obtain ⟨m, acc, hD, hlen, hR⟩ := p
    exact hd H acc m hD hlen hR
/-! ### comprehensions over zip -/
theorem lc_zipLF {K : PySem.W.Frag} {a b : Addr} {xs ys : List V} {g : TG} {tt : TT} {te : TE} {vs : List Nat} {σ : St} {H1 : Hp} {D : Addr} {Qd : Hp → Prop} (f : Nat → Option V) (hx : H1 a = some (.lst xs)) (hy : H1 b = some (.lst ys)) (hl : xs.length = ys.length) (nD : H1 D = none) (hn : xs.length ≤ 100000)
    (hs : ∀ (i : Nat) (x y : V) (Z : Addr) (H : Hp) (N : V → Hp → Prop) (M : Hp → Prop), xs[i]? = some x → ys[i]? = some y → Same H1 H → H Z = some (.tup [x, y]) → (∀ v H4, f i = some v → Same H H4 → N v H4) → (∀ H4, f i = none → Same H H4 → M H4) → g (.ref Z) (wipe σ vs) H fun σ2 H2 => wipe σ2 vs = wipe σ vs ∧ tt σ2 H2 fun b H3 => if b = true then te σ2 H3 N else M H3)
    (hd : ∀ H, Same H1 H → H D = some (.lst ((List.range xs.length).filterMap f)) → Qd H) : ∃ W : Nat → Nat → Hp → Prop, (∃ m, W 0 m (upd H1 D (.lst []))) ∧ ∀ i m H, W i m H →
      ((Itz K a b).stop i H ∧ Qd H) ∨ ((Itz K a b).go i H ∧ ∃ Nx : Hp → Prop, (∀ H', Nx H' → ∃ m', m' < m ∧ W (i + 1) m' H') ∧ ∀ x H', (Itz K a b).yld i H x H' → g x (wipe σ vs) H' fun σ2 H2 => wipe σ2 vs = wipe σ vs ∧ tt σ2 H2 fun b H3 =>
        if b = true then te σ2 H3 fun y H4 => ∃ acc, H4 D = some (.lst acc) ∧ acc.length < sizeLine ∧ Nx (upd H4 D (.lst (acc ++ [y]))) else Nx H3) := by
  refine ⟨fun i m H => m = xs.length - i ∧ i ≤ xs.length ∧ Same H1 H ∧ H D = some (.lst ((List.range i).filterMap f)), ⟨xs.length, rfl, Nat.zero_le _, Same.new (Same.refl H1) nD, upd_same⟩, ?_⟩
  rintro i m H ⟨rfl, hi, s, hD⟩
  have qx : SqL K H a xs := SqL.of (s _ _ hx)
  have qy : SqL K H b ys := SqL.of (s _ _ hy)
  have hz := filterMap_range_len f i
  by_cases hlt : i < xs.length
  · have ex : xs[i]? = some xs[i] := List.getElem?_eq_getElem hlt
    have hlt2 : i < ys.length := by omega
    have ey : ys[i]? = some ys[i] := List.getElem?_eq_getElem hlt2
    refine .inr ⟨⟨xs, ys, _, _, qx, qy, ex, ey⟩, fun H => i < xs.length ∧ Same H1 H ∧ H D = some (.lst ((List.range (i + 1)).filterMap f)), fun H' p' => ⟨xs.length - (i + 1), by omega, rfl, hlt, p'.2⟩, fun v H' y => ?_⟩
    obtain ⟨Z, x', y', rfl, hZ, rfl, f1, f2⟩ := y
    have s1 : Same H (upd H Z (.tup [x', y'])) := Same.new (Same.refl H) hZ
    refine hs i x' y' Z _ _ _ (f1 xs qx) (f2 ys qy) (s.trans s1) upd_same (fun v H4 e s4 => ⟨_, s4 _ _ (s1 _ _ hD), lt_line (by omega), hlt, ?_, ?_⟩) (fun H4 e s4 => ⟨hlt, ?_, ?_⟩)
    · exact Same.mut ((s.trans s1).trans s4) nD
    · rw [filterMap_range_succ, e]
      exact upd_same
    · exact (s.trans s1).trans s4
    · rw [filterMap_range_succ, e, s4 _ _ (s1 _ _ hD)]
      simp
  · have e : i = xs.length := by omega
    subst e
    exact .inl ⟨⟨xs, ys, qx, qy, Or.inl (Nat.le_refl _)⟩, hd H s hD⟩
theorem lc_zipTF {K : PySem.W.Frag} {a b : Addr} {xs ys : List V} {g : TG} {tt : TT} {te : TE} {vs : List Nat} {σ : St} {H1 : Hp} {D : Addr} {Qd : Hp → Prop} (f : Nat → Option V) (hx : H1 a = some (.tup xs)) (hy : H1 b = some (.tup ys)) (hl : xs.length = ys.length) (nD : H1 D = none) (hn : xs.length ≤ 100000)
    (hs : ∀ (i : Nat) (x y : V) (Z : Addr) (H : Hp) (N : V → Hp → Prop) (M : Hp → Prop), xs[i]? = some x → ys[i]? = some y → Same H1 H → H Z = some (.tup [x, y]) → (∀ v H4, f i = some v → Same H H4 → N v H4) → (∀ H4, f i = none → Same H H4 → M H4) → g (.ref Z) (wipe σ vs) H fun σ2 H2 => wipe σ2 vs = wipe σ vs ∧ tt σ2 H2 fun b H3 => if b = true then te σ2 H3 N else M H3)
    (hd : ∀ H, Same H1 H → H D = some (.lst ((List.range xs.length).filterMap f)) → Qd H) : ∃ W : Nat → Nat → Hp → Prop, (∃ m, W 0 m (upd H1 D (.lst []))) ∧ ∀ i m H, W i m H →
      ((RZ.ItzT K a b).stop i H ∧ Qd H) ∨ ((RZ.ItzT K a b).go i H ∧ ∃ Nx : Hp → Prop, (∀ H', Nx H' → ∃ m', m' < m ∧ W (i + 1) m' H') ∧ ∀ x H', (RZ.ItzT K a b).yld i H x H' → g x (wipe σ vs) H' fun σ2 H2 => wipe σ2 vs = wipe σ vs ∧ tt σ2 H2 fun b H3 =>
        if b = true then te σ2 H3 fun y H4 => ∃ acc, H4 D = some (.lst acc) ∧ acc.length < sizeLine ∧ Nx (upd H4 D (.lst (acc ++ [y]))) else Nx H3) := by
  refine ⟨fun i m H => m = xs.length - i ∧ i ≤ xs.length ∧ Same H1 H ∧ H D = some (.lst ((List.range i).filterMap f)), ⟨xs.length, rfl, Nat.zero_le _, Same.new (Same.refl H1) nD, upd_same⟩, ?_⟩
  rintro i m H ⟨rfl, hi, s, hD⟩
  have qx : SqT K H a xs := SqT.of (s _ _ hx)
  have qy : SqT K H b ys := SqT.of (s _ _ hy)
  have hz := filterMap_range_len f i
  by_cases hlt : i < xs.length
  · have ex : xs[i]? = some xs[i] := List.getElem?_eq_getElem hlt
    have hlt2 : i < ys.length := by omega
    have ey : ys[i]? = some ys[i] := List.getElem?_eq_getElem hlt2
    refine .inr ⟨⟨xs, ys, _, _, qx, qy, ex, ey⟩, fun H => i < xs.length ∧ Same H1 H ∧ H D = some (.lst ((List.range (i + 1)).filterMap f)), fun H' p' => ⟨xs.length - (i + 1), by omega, rfl, hlt, p'.2⟩, fun v H' y => ?_⟩
    obtain ⟨Z, x', y', rfl, hZ, rfl, f1, f2⟩ := y
    have s1 : Same H (upd H Z (.tup [x', y'])) := Same.new (Same.refl H) hZ
    refine hs i x' y' Z _ _ _ (f1 xs qx) (f2 ys qy) (s.trans s1) upd_same (fun v H4 e s4 => ⟨_, s4 _ _ (s1 _ _ hD), lt_line (by omega), hlt, ?_, ?_⟩) (fun H4 e s4 => ⟨hlt, ?_, ?_⟩)
    · exact Same.mut ((s.trans s1).trans s4) nD
    · rw [filterMap_range_succ, e]
      exact upd_same
    · exact (s.trans s1).trans s4
    · rw [filterMap_range_succ, e, s4 _ _ (s1 _ _ hD)]
      simp
  · have e : i = xs.length := by omega
    subst e
    exact .inl ⟨⟨xs, ys, qx, qy, Or.inl (Nat.le_refl _)⟩, hd H s hD⟩
/-! comprehensions whose items are new things -/
theorem lc_rangeR {lo : Int} {n : Nat} {g : TG} {tt : TT} {te : TE} {vs : List Nat} {σ : St} {H1 : Hp} {D : Addr} {Qd : Hp → Prop} (R : Nat → V → Hp → Prop) (st : ∀ i v H H', R i v H → TK H H' → R i v H') (nD : H1 D = none) (hn : n ≤ 100000)
    (hs : ∀ (i : Nat) (H : Hp) (N : V → Hp → Prop) (M : Hp → Prop), i < n → Same H1 H → (∀ v H4, Same H H4 → R i v H4 → N v H4) → g (.int (lo + (i : Int))) (wipe σ vs) H fun σ2 H2 => wipe σ2 vs = wipe σ vs ∧ tt σ2 H2 fun b H3 => if b = true then te σ2 H3 N else M H3)
    (hd : ∀ H acc, Same H1 H → H D = some (.lst acc) → acc.length = n → (∀ (j : Nat) v, acc[j]? = some v → R j v H) → Qd H) : ∃ W : Nat → Nat → Hp → Prop, (∃ m, W 0 m (upd H1 D (.lst []))) ∧ ∀ i m H, W i m H →
      ((Itr lo n).stop i H ∧ Qd H) ∨ ((Itr lo n).go i H ∧ ∃ Nx : Hp → Prop, (∀ H', Nx H' → ∃ m', m' < m ∧ W (i + 1) m' H') ∧ ∀ x H', (Itr lo n).yld i H x H' → g x (wipe σ vs) H' fun σ2 H2 => wipe σ2 vs = wipe σ vs ∧ tt σ2 H2 fun b H3 =>
        if b = true then te σ2 H3 fun y H4 => ∃ acc, H4 D = some (.lst acc) ∧ acc.length < sizeLine ∧ Nx (upd H4 D (.lst (acc ++ [y]))) else Nx H3) := by
  refine lc_range (lo := lo) (n := n) (fun i H => Same H1 H ∧ ∃ acc, H D = some (.lst acc) ∧ acc.length = i ∧ ∀ (j : Nat) v, acc[j]? = some v → R j v H) ⟨Same.new (Same.refl H1) nD, [], upd_same, rfl, fun j v e => by simp at e⟩ (fun i H hi p => ?_) (fun H p => ?_)
  · obtain ⟨m, acc, hD, hlen, hR⟩ := p
    have il : i < n := hi
    refine hs i H _ _ hi m (fun v H4 m4 r => ⟨acc, m4 _ _ hD, lt_line (by omega), Same.mut (Same.trans m m4) nD, acc ++ [v], upd_same, by rw [List.length_append, hlen]; rfl, fun j u e => ?_⟩)
    have k1 : TK H4 (upd H4 D (.lst (acc ++ [v]))) := TK.mut (m4 _ _ hD)
    by_cases hj : j < acc.length
    · rw [List.getElem?_append_left hj] at e
      exact st _ _ _ _ (st _ _ _ _ (hR j u e) (Same.tk m4)) k1
    · rw [List.getElem?_append_right (by omega)] at e
      have hj2 : j = i := by
        have q := (List.getElem?_eq_some_iff.mp e).1
        rw [List.length_singleton] at q
        omega
      rw [hj2, hlen, Nat.sub_self] at e
      have e2 : v = u := Option.some.inj e
      rw [← e2, hj2]
      exact st _ _ _ _ r k1
  · obtain ⟨m, acc, hD, hlen, hR⟩ := p
    exact hd H acc m hD hlen hR
theorem lc_listR {K : PySem.W.Frag} {a : Addr} {xs : List V} {g : TG} {tt : TT} {te : TE} {vs : List Nat} {σ : St} {H1 : Hp} {D : Addr} {Qd : Hp → Prop} (R : Nat → V → Hp → Prop) (st : ∀ i v H H', R i v H → TK H H' → R i v H') (hx : H1 a = some (.lst xs)) (nD : H1 D = none) (hn : xs.length ≤ 100000)
    (hs : ∀ (i : Nat) (x : V) (H : Hp) (N : V → Hp → Prop) (M : Hp → Prop), xs[i]? = some x → Same H1 H → (∀ v H4, Same H H4 → R i v H4 → N v H4) → g x (wipe σ vs) H fun σ2 H2 => wipe σ2 vs = wipe σ vs ∧ tt σ2 H2 fun b H3 => if b = true then te σ2 H3 N else M H3)
    (hd : ∀ H acc, Same H1 H → H D = some (.lst acc) → acc.length = xs.length → (∀ (j : Nat) v, acc[j]? = some v → R j v H) → Qd H) : ∃ W : Nat → Nat → Hp → Prop, (∃ m, W 0 m (upd H1 D (.lst []))) ∧ ∀ i m H, W i m H →
      ((Itl K a).stop i H ∧ Qd H) ∨ ((Itl K a).go i H ∧ ∃ Nx : Hp → Prop, (∀ H', Nx H' → ∃ m', m' < m ∧ W (i + 1) m' H') ∧ ∀ x H', (Itl K a).yld i H x H' → g x (wipe σ vs) H' fun σ2 H2 => wipe σ2 vs = wipe σ vs ∧ tt σ2 H2 fun b H3 =>
        if b = true then te σ2 H3 fun y H4 => ∃ acc, H4 D = some (.lst acc) ∧ acc.length < sizeLine ∧ Nx (upd H4 D (.lst (acc ++ [y]))) else Nx H3) := by
  refine lc_list (K := K) (a := a) (xs := xs) (fun i H => Same H1 H ∧ ∃ acc, H D = some (.lst acc) ∧ acc.length = i ∧ ∀ (j : Nat) v, acc[j]? = some v → R j v H) ⟨Same.new (Same.refl H1) nD, [], upd_same, rfl, fun j v e => by simp at e⟩ (fun i H _ p => SqL.of (p.1 _ _ hx)) (fun i x H hi p => ?_) (fun H p => ?_)
  · obtain ⟨m, acc, hD, hlen, hR⟩ := p
    have il : i < xs.length := (List.getElem?_eq_some_iff.mp hi).1
    refine hs i x H _ _ hi m (fun v H4 m4 r => ⟨acc, m4 _ _ hD, lt_line (by omega), Same.mut (Same.trans m m4) nD, acc ++ [v], upd_same, by rw [List.length_append, hlen]; rfl, fun j u e => ?_⟩)
    have k1 : TK H4 (upd H4 D (.lst (acc ++ [v]))) := TK.mut (m4 _ _ hD)
    by_cases hj : j < acc.length
    · rw [List.getElem?_append_left hj] at e
      exact st _ _ _ _ (st _ _ _ _ (hR j u e) (Same.tk m4)) k1
    · rw [List.getElem?_append_right (by omega)] at e
      have hj2 : j = i := by
        have q := (List.getElem?_eq_some_iff.mp e).1
        rw [List.length_singleton] at q
        omega
      rw [hj2, hlen, Nat.sub_self] at e
      have e2 : v = u := Option.some.inj e
      rw [← e2, hj2]
      exact st _ _ _ _ r k1
  · obtain ⟨m, acc, hD, hlen, hR⟩ := p
    exact hd H acc m hD hlen hR
theorem lc_tupR {K : PySem.W.Frag} {a : Addr} {xs : List V} {g : TG} {tt : TT} {te : TE} {vs : List Nat} {σ : St} {H1 : Hp} {D : Addr} {Qd : Hp → Prop} (R : Nat → V → Hp → Prop) (st : ∀ i v H H', R i v H → TK H H' → R i v H') (hx : H1 a = some (.tup xs)) (nD : H1 D = none) (hn : xs.length ≤ 100000)
    (hs : ∀ (i : Nat) (x : V) (H : Hp) (N : V → Hp → Prop) (M : Hp → Prop), xs[i]? = some x → Same H1 H → (∀ v H4, Same H H4 → R i v H4 → N v H4) → g x (wipe σ vs) H fun σ2 H2 => wipe σ2 vs = wipe σ vs ∧ tt σ2 H2 fun b H3 => if b = true then te σ2 H3 N else M H3)
    (hd : ∀ H acc, Same H1 H → H D = some (.lst acc) → acc.length = xs.length → (∀ (j : Nat) v, acc[j]? = some v → R j v H) → Qd H) : ∃ W : Nat → Nat → Hp → Prop, (∃ m, W 0 m (upd H1 D (.lst []))) ∧ ∀ i m H, W i m H →
      ((Itt K a).stop i H ∧ Qd H) ∨ ((Itt K a).go i H ∧ ∃ Nx : Hp → Prop, (∀ H', Nx H' → ∃ m', m' < m ∧ W (i + 1) m' H') ∧ ∀ x H', (Itt K a).yld i H x H' → g x (wipe σ vs) H' fun σ2 H2 => wipe σ2 vs = wipe σ vs ∧ tt σ2 H2 fun b H3 =>
        if b = true then te σ2 H3 fun y H4 => ∃ acc, H4 D = some (.lst acc) ∧ acc.length < sizeLine ∧ Nx (upd H4 D (.lst (acc ++ [y]))) else Nx H3) := by
  refine lc_tup (K := K) (a := a) (xs := xs) (fun i H => Same H1 H ∧ ∃ acc, H D = some (.lst acc) ∧ acc.length = i ∧ ∀ (j : Nat) v, acc[j]? = some v → R j v H) ⟨Same.new (Same.refl H1) nD, [], upd_same, rfl, fun j v e => by simp at e⟩ (fun i H _ p => SqT.of (p.1 _ _ hx)) (fun i x H hi p => ?_) (fun H p => ?_)
  · obtain ⟨m, acc, hD, hlen, hR⟩ := p
    have il : i < xs.length := (List.getElem?_eq_some_iff.mp hi).1
    refine hs i x H _ _ hi m (fun v H4 m4 r => ⟨acc, m4 _ _ hD, lt_line (by omega), Same.mut (Same.trans m m4) nD, acc ++ [v], upd_same, by rw [List.length_append, hlen]; rfl, fun j u e => ?_⟩)
    have k1 : TK H4 (upd H4 D (.lst (acc ++ [v]))) := TK.mut (m4 _ _ hD)
    by_cases hj : j < acc.length
    · rw [List.getElem?_append_left hj] at e
      exact st _ _ _ _ (st _ _ _ _ (hR j u e) (Same.tk m4)) k1
    · rw [List.getElem?_append_right (by omega)] at e
      have hj2 : j = i := by
        have q := (List.getElem?_eq_some_iff.mp e).1
        rw [List.length_singleton] at q
        omega
      rw [hj2, hlen, Nat.sub_self] at e
      have e2 : v = u := Option.some.inj e
      rw [← e2, hj2]
      exact st _ _ _ _ r k1
  · obtain ⟨m, acc, hD, hlen, hR⟩ := p
    exact hd H acc m hD hlen hR
/-! comprehensions within comprehensions -/
theorem blk_in {X : Cx} {s : Shared} {H : Hp} {sc0 sc1 scope : Scope} {cl : List (Str × Addr)} {C : Addr} {env : Env} {fp : List Addr} {N : List Str} {own : List (Str × Nat)} (hN : X.N = N) (hs : env.scope = sc1) (h : blkC N (relS sc0 sc1) scope own = true) :
    BlkOk (X.blk s H sc0 (compEnvC sc0 cl C env) fp).N (X.blk s H sc0 (compEnvC sc0 cl C env) fp).env.scope scope own := by
  subst hN hs
  exact blkOk_by h
theorem pi_tupK {X : Cx} {K : PySem.W.Frag} {tg l : Expr} {tl : TE} (hK : X.K = K) (h : PE X l tl) : PI X tg l (iTup K tl) := by
  subst hK
  exact pi_tup h
theorem pi_listK {X : Cx} {K : PySem.W.Frag} {tg l : Expr} {tl : TE} (hK : X.K = K) (h : PE X l tl) : PI X tg l (iList K tl) := by
  subst hK
  exact pi_list h
theorem pe_fldK {X : Cx} {K : PySem.W.Frag} {e : Expr} {f : Str} {pos : Pos} {ta : TE} (hK : X.K = K) (h : PE X e ta) (hb : attributeBase e f X.env (eval e X.env) = eval e X.env) : PE X (.Attribute e f pos) (tFld K ta f) := by
  subst hK
  exact pe_fld h hb
theorem pg_tupK {X : Cx} {K : PySem.W.Frag} {es : List Expr} {k : Nat} {pos : Pos} {t : TGs} (n : Nat) (hc : X.calm = true) (hK : X.K = K) (h : PGs X es t)
    (hn : (assignEach es X.env).length = n := by rfl) (hst : (assignEach es X.env).findIdx? (·.1) = none := by rfl) : PG X (.Tuple es k pos) (gTup K n t) := by
  subst hK
  exact pg_tup hc h hn hst
/-! ### words -/
theorem tYes_go {σ : L2.St} {H : Hp} {Q : Bool → Hp → Prop} (h : Q true H) : tYes σ H Q := h
local macro_rules | `(tactic| tm_at "fld") => `(tactic| fail "fld")
local macro_rules | `(tactic| tm_at "hp") => `(tactic| first
  | assumption
  | (with_reducible exact upd_same)
  | exact Same.at (by assumption) (by tm_at "hp")
  | exact Mv.atT (by assumption) (by tm_at "hp")
  | exact Mv.at' (by assumption) (by tm_at "hp") (by tm_at "ne")
  | ((rw [upd_ne ?n]) <;> first | (tm_at "hp") | (tm_at "ne") | fail "upd")
  | fail "hp")
local macro_rules | `(tactic| tm_at "ne") => `(tactic| first
  | assumption
  | exact Ne.symm (by assumption)
  | exact Nw.ne (by assumption) (by tm_at "hp")
  | exact Ne.symm (Nw.ne (by assumption) (by tm_at "hp"))
  | fail "ne")
local macro_rules | `(tactic| tm_at "sq") => `(tactic| first
  | assumption
  | exact SqL.of (by tm_at "hp")
  | exact Same.seq (by assumption) (by tm_at "sq")
  | fail "sq")
local macro_rules | `(tactic| tm_at "sqt") => `(tactic| first
  | assumption
  | exact SqT.of (by tm_at "hp")
  | fail "sqt")
local macro_rules | `(tactic| tm_at "len") => `(tactic| first
  | omega
  | ((simp only [List.length_map, List.length_append, List.length_singleton, List.length_cons, List.length_nil, List.length_replicate, List.length_range]); omega)
  | fail "len")
local macro_rules | `(tactic| tm_at "sd") => `(tactic| first
  | decide
  | omega
  | exact ⟨by decide, by decide⟩
  | exact ⟨by omega, by omega⟩
  | exact Or.inr ⟨by decide, by decide⟩
  | exact Or.inl ⟨by omega, by omega⟩
  | exact Or.inl ⟨by decide, by decide⟩
  | exact Or.inr ⟨by omega, by omega⟩
  | exact Or.inl (fmod64 (by decide) (by decide))
  | exact ⟨by decide, by decide, by decide⟩
  | fail "sd")
local macro_rules | `(tactic| tm_at "w") => `(tactic| repeat (first
  | (with_reducible refine iteDY (by omega) ?_)
  | (with_reducible refine iteDN (by omega) ?_)
  | (refine ⟨_, rfl, ?_⟩)
  | (refine ⟨_, _, rfl, rfl, ?_⟩)
  | (refine ⟨_, _, _, _, rfl, rfl, by tm_at "sq", by rfl, ?_⟩)
  | (refine ⟨_, _, _, _, rfl, rfl, by tm_at "hp", by rfl, ?_⟩)
  | (refine ⟨_, _, _, _, rfl, rfl, by tm_at "sqt", by rfl, ?_⟩)
  | (refine ⟨_, _, _, _, rfl, rfl, by tm_at "sqt", atI_nat (by assumption), ?_⟩)
  | (refine ⟨_, _, _, _, rfl, rfl, by tm_at "sq", atI_nat (by assumption), ?_⟩)
  | (refine ⟨_, _, rfl, by tm_at "sqt", rfl, _, _, rfl, _, _, rfl, rfl, ?_⟩)
  | (refine ⟨_, _, rfl, by tm_at "sqt", rfl, _, _, rfl, _, _, rfl, _, _, rfl, rfl, ?_⟩)
  | (refine ⟨_, _, _, _, _, rfl, ClsV.ty _, by assumption, by assumption, ?_⟩)
  | (refine And.intro (rfl : scal _ _ = true) ?_)
  | (with_reducible refine iteET (by rfl) ?_)
  | (with_reducible refine iteEF (by rfl) ?_)
  | (refine And.intro (IntK.int _) ?_)
  | (with_reducible refine tYes_go ?_)
  | (refine And.intro (by (with_reducible refine le_lineB ?_); rfl) ?_)
  | (refine ⟨_, _, rfl, Or.inl ⟨SqL.of (by tm_at "hp"), ?_⟩⟩)
  | (refine And.intro (Or.inl ⟨rfl, _, SqL.of (by tm_at "hp")⟩) ?_)
  | (refine ⟨_, _, _, rfl, rfl, by tm_at "hp", lt_line (by tm_at "len"), ?_⟩)
  | (refine And.intro rfl ?_)
  | (refine Or.inl ⟨_, rfl, ?_⟩)
  | (refine ⟨_, _, rfl, Or.inl (by tm_at "sq"), ?_⟩)
  | (refine ⟨_, _, rfl, Or.inr (by tm_at "sqt"), ?_⟩)
  | (refine And.intro (by tm_at "sd") ?_)
  | (tm_at "fld")
  | fail "w"))
/-! ### lists of whole numbers -/
/-- an item of a list is a whole number -/
def IsI (v : V) : Prop := ∃ i : Int, v = .int i
theorem ints_of {xs : List V} (h : ∀ v ∈ xs, IsI v) : ∃ ns : List Int, xs = ns.map V.int := by
  induction xs with
  | nil => exact ⟨[], rfl⟩
  | cons x r ih =>
    obtain ⟨ns, e⟩ := ih fun v hv => h v (List.mem_cons_of_mem _ hv)
    obtain ⟨i, ei⟩ := h x List.mem_cons_self
    exact ⟨i :: ns, by rw [ei, e]; rfl⟩
theorem ints_at {xs : List V} (h : ∀ (j : Nat) v, xs[j]? = some v → IsI v) : ∃ ns : List Int, xs = ns.map V.int := ints_of fun v hv => by
  obtain ⟨j, hj, e⟩ := List.mem_iff_getElem.mp hv
  exact h j v (by rw [List.getElem?_eq_getElem hj, e])
theorem mem_app {P : V → Prop} {xs : List V} {y : V} (h : ∀ v ∈ xs, P v) (hy : P y) : ∀ v ∈ xs ++ [y], P v := fun v hv => by
  rcases List.mem_append.mp hv with hv | hv
  · exact h v hv
  · rw [List.mem_singleton.mp hv]
    exact hy
theorem len_app {xs : List V} {y : V} {n : Nat} (h : xs.length = n) : (xs ++ [y]).length = n + 1 := by
  rw [List.length_append, h]
  rfl
/-- the item at a place of a list of whole numbers -/
theorem int_here {ns : List Int} {i : Nat} {x : V} (h : (ns.map V.int)[i]? = some x) : ∃ z, ns[i]? = some z ∧ x = .int z ∧ i < ns.length := by
  rw [List.getElem?_map] at h
  cases e : ns[i]? with
  | none => rw [e] at h; cases h
  | some z => rw [e] at h; exact ⟨z, rfl, (Option.some.inj h).symm, (List.getElem?_eq_some_iff.mp e).1⟩
theorem map_snoc (ks : List Int) (k : Int) : ks.map V.int ++ [V.int k] = (ks ++ [k]).map V.int := by rw [List.map_append]; rfl
theorem inV_int (k : Int) (ks : List Int) : inV (.int k) (ks.map V.int) = decide (k ∈ ks) := by
  unfold inV
  rw [List.any_map]
  by_cases h : k ∈ ks
  · rw [decide_eq_true h]
    exact List.any_eq_true.mpr ⟨k, h, beq_self_eq_true k⟩
  · rw [decide_eq_false h]
    refine List.any_eq_false.mpr fun y hy z => h ?_
    have e : y = k := eq_of_beq (show (y == k) = true from z)
    rw [← e]
    exact hy
theorem flat_ints (ks : List Int) : (ks.map V.int).all flatV = true := List.all_eq_true.mpr fun v hv => by
  obtain ⟨i, _, rfl⟩ := List.mem_map.mp hv
  rfl
theorem len_of_same {a b : List Int} (ha : a.Nodup) (hb : b.Nodup) (h : ∀ k, k ∈ a ↔ k ∈ b) : a.length = b.length := ((List.perm_ext_iff_of_nodup ha hb).mpr h).length_eq
theorem dp_ints {K : PySem.W.Frag} {H : Hp} : ∀ ns : List Int, DpAll K H (ns.map V.int) (ns.map PyData.int)
  | [] => .nil
  | n :: r => .cons (.int n) (dp_ints r)
theorem range_items {α : Type} (S : List α) (f : α → V) : (List.range S.length).filterMap (fun i => S[i]?.map f) = S.map f := by
  have key : ∀ n, n ≤ S.length → (List.range n).filterMap (fun i => S[i]?.map f) = (S.take n).map f := by
    intro n
    induction n with
    | zero => intro _; rfl
    | succ n ih =>
      intro h
      rw [filterMap_range_succ, ih (by omega), List.take_add_one, List.map_append]
      rw [List.getElem?_eq_getElem (show n < S.length by omega)]
      rfl
  rw [key _ (Nat.le_refl _), List.take_length]
theorem lay_ints : ∀ ns : List Int, PyData.canLayAll0 (ns.map PyData.int) = true
  | [] => rfl
  | n :: r => by
    show (PyData.canLay0 (.int n) && PyData.canLayAll0 (r.map PyData.int)) = true
    rw [lay_ints r]
    rfl
theorem deep_ints : ∀ ns : List Int, PyData.depthAll (ns.map PyData.int) ≤ 1
  | [] => by simp [PyData.depthAll]
  | n :: r => by
    have ih := deep_ints r
    simp only [List.map_cons, PyData.depthAll, PyData.depth]
    omega
theorem shaped_ints (ns : List Int) : SeqAt.shaped (.tuple (ns.map PyData.int)) = true := by
  have h := deep_ints ns
  have h2 : PyData.depth (.tuple (ns.map PyData.int)) ≤ 64 := by
    simp only [PyData.depth]
    omega
  exact Bool.and_eq_true_iff.mpr ⟨lay_ints ns, decide_eq_true h2⟩
theorem same_ints (ns : List Int) : PyData.eqv (.tuple (ns.map PyData.int)) (.tuple (ns.map PyData.int)) = true := SeqAt.eqv_refl _ (lay_ints ns)
theorem at_map {r : List Int} {i : Int} (h0 : 0 ≤ i) (h : i < (r.length : Int)) : atI (r.map V.int) i = some (.int (r.getD i.toNat 0)) := by
  have hj : i.toNat < r.length := by omega
  refine at_of (j := i.toNat) (by omega) ?_
  rw [List.getElem?_map, List.getElem?_eq_getElem hj, List.getD_eq_getElem?_getD, List.getElem?_eq_getElem hj]
  rfl
/-! ### bits of what each kind is -/
def upBits (acc : List Nat) (n : Nat) (p : List Nat) : Nat := p.foldl (fun f q => f ||| acc.getD q 0) (2 ^ n)
theorem fold_bits (acc : List Nat) (j : Nat) : ∀ (p : List Nat) (f : Nat), (p.foldl (fun f q => f ||| acc.getD q 0) f).testBit j = (f.testBit j || p.any fun q => (acc.getD q 0).testBit j)
  | [], f => by simp
  | q :: r, f => by
    have ih := fold_bits acc j r (f ||| acc.getD q 0)
    rw [List.foldl_cons, ih, Nat.testBit_or, List.any_cons, Bool.or_assoc]
theorem upBits_at (acc : List Nat) (n : Nat) (p : List Nat) (j : Nat) : (upBits acc n p).testBit j = (decide (n = j) || p.any fun q => (acc.getD q 0).testBit j) := by
  unfold upBits
  rw [fold_bits, Nat.testBit_two_pow]
/-! ### books -/
structure InsT (K : PySem.W.Frag) (C : Addr) : Prop where
  ha : PySem.W.findIn K (.ref C) "__class__" = some (some (.builtin "object.__class__"))
  hn : PySem.W.specialIn K (.builtin "object.__class__") "__get__" = some (some (.builtin "getset_descriptor.__get__"))
  htk : PySem.W.takesIn K (.builtin "object.__class__") = some true
  hm : PySem.W.mroIn K C (.type "object") = some true
theorem pb_ne : ¬ (("parents" : Str) = "bits") := by decide +kernel
theorem bp_ne : ¬ (("bits" : Str) = "parents") := by decide +kernel
def bkF (pa lb : Addr) : List (Str × V) := putF "bits" (.ref lb) (putF "parents" (.ref pa) [])
theorem bkF_eq (pa lb : Addr) : bkF pa lb = ([("parents", V.ref pa), ("bits", V.ref lb)] : List (Str × V)) := by
  show (if ("parents" : Str) = "bits" then [(("parents" : Str), V.ref lb)] else (("parents" : Str), V.ref pa) :: putF "bits" (V.ref lb) []) = ([("parents", V.ref pa), ("bits", V.ref lb)] : List (Str × V))
  rw [if_neg pb_ne]
  all_goals rfl
theorem bkF_parents (pa lb : Addr) : (bkF pa lb).lookup ("parents" : Str) = some (.ref pa) := by
  unfold bkF
  rw [lookup_putF, if_neg pb_ne, lookup_putF, if_pos rfl]
theorem bkF_bits (pa lb : Addr) : (bkF pa lb).lookup ("bits" : Str) = some (.ref lb) := by
  unfold bkF
  rw [lookup_putF, if_pos rfl]
theorem bkF_no (pa lb : Addr) {m : Str} (h1 : ¬ m = "bits") (h2 : ¬ m = "parents") : (bkF pa lb).lookup m = none := by
  unfold bkF
  rw [lookup_putF, if_neg h1, lookup_putF, if_neg h2]
  all_goals rfl
theorem bkF_putP (pa lb p : Addr) : putF "parents" (.ref p) (bkF pa lb) = bkF p lb := by
  rw [bkF_eq, bkF_eq]
  show (if ("parents" : Str) = "parents" then (("parents" : Str), V.ref p) :: [(("bits" : Str), V.ref lb)] else _) = ([("parents", V.ref p), ("bits", V.ref lb)] : List (Str × V))
  rw [if_pos rfl]
theorem bkF_putB (pa lb l : Addr) : putF "bits" (.ref l) (bkF pa lb) = bkF pa l := by
  rw [bkF_eq, bkF_eq]
  show (if ("parents" : Str) = "bits" then _ else (("parents" : Str), V.ref pa) :: (if ("bits" : Str) = "bits" then [(("bits" : Str), V.ref l)] else _)) = ([("parents", V.ref pa), ("bits", V.ref l)] : List (Str × V))
  rw [if_neg pb_ne, if_pos rfl]
/-- the fields of a book that is being made: none, or an elder filling's -/
def BkFs (fs : List (Str × V)) : Prop := fs = [] ∨ ∃ pa lb, fs = bkF pa lb
theorem BkFs.put {fs : List (Str × V)} (h : BkFs fs) (p l : Addr) : putF "bits" (.ref l) (putF "parents" (.ref p) fs) = bkF p l := by
  rcases h with rfl | ⟨a, b, rfl⟩
  · rfl
  · rw [bkF_putP, bkF_putB]
theorem BkFs.len {fs : List (Str × V)} (h : BkFs fs) : fs.length < 500 := by
  rcases h with rfl | ⟨a, b, rfl⟩
  · decide
  · rw [bkF_eq]
    show 2 < 500
    decide
theorem BkFs.len1 {fs : List (Str × V)} (h : BkFs fs) (p : Addr) : (putF "parents" (.ref p) fs).length < 1000 := by
  have q := length_putF "parents" (.ref p) fs
  have r := h.len
  omega
theorem BkFs.fill {fs : List (Str × V)} (h : BkFs fs) : fs.lookup ("fill" : Str) = none := by
  rcases h with rfl | ⟨a, b, rfl⟩
  · rfl
  · exact bkF_no _ _ (by decide +kernel) (by decide +kernel)
def natsV (p : List Nat) : List V := p.map fun q : Nat => V.int (q : Int)
/-- parents: a tuple of tuples of numbers -/
def ParL (H : Hp) (vs : List V) (P : List (List Nat)) : Prop := vs.length = P.length ∧ ∀ (j : Nat) p, P[j]? = some p → ∃ a, vs[j]? = some (.ref a) ∧ H a = some (.tup (natsV p))
def ParAt (H : Hp) (pa : Addr) (P : List (List Nat)) : Prop := ∃ vs, H pa = some (.tup vs) ∧ ParL H vs P
theorem ParL.tk {H H' : Hp} {vs : List V} {P : List (List Nat)} (h : ParL H vs P) (k : TK H H') : ParL H' vs P := ⟨h.1, fun j p e => by
  obtain ⟨a, e1, e2⟩ := h.2 j p e
  exact ⟨a, e1, k _ _ e2⟩⟩
theorem ParAt.tk {H H' : Hp} {pa : Addr} {P : List (List Nat)} (h : ParAt H pa P) (k : TK H H') : ParAt H' pa P := by
  obtain ⟨vs, e, l⟩ := h
  exact ⟨vs, k _ _ e, l.tk k⟩
/-- each parent stands ahead -/
def RtP (P : List (List Nat)) : Prop := ∀ (j : Nat) p, P[j]? = some p → ∀ q ∈ p, q < j
/-- the bits of all kinds -/
def bitsOf (P : List (List Nat)) : List Nat := P.foldl (fun acc p => acc ++ [upBits acc acc.length p]) []
def isA (P : List (List Nat)) (x p : Nat) : Bool := ((bitsOf P).getD x 0).testBit p
theorem bitsOf_snoc (P : List (List Nat)) (p : List Nat) : bitsOf (P ++ [p]) = bitsOf P ++ [upBits (bitsOf P) (bitsOf P).length p] := by
  unfold bitsOf
  rw [List.foldl_append]
  rfl
theorem bitsOf_len (P : List (List Nat)) : (bitsOf P).length = P.length := by
  have key : ∀ (r : List (List Nat)) (acc : List Nat), (r.foldl (fun acc p => acc ++ [upBits acc acc.length p]) acc).length = acc.length + r.length := by
    intro r
    induction r with
    | nil => intro acc; simp
    | cons x r ih =>
      intro acc
      rw [List.foldl_cons, ih, List.length_append]
      simp only [List.length_cons, List.length_nil]
      omega
  rw [show bitsOf P = P.foldl (fun acc p => acc ++ [upBits acc acc.length p]) [] from rfl, key]
  simp
/-- a book: its address, its dict, its parents' tuple, its bits' list -/
structure Bk where
  b : Addr
  dx : Addr
  pa : Addr
  lb : Addr
structure BookAt (C : Addr) (H : Hp) (k : Bk) (P : List (List Nat)) : Prop where
  ins : H k.b = some (.ins C k.dx (bkF k.pa k.lb))
  par : ParAt H k.pa P
  bits : H k.lb = some (.lst (natsV (bitsOf P)))
theorem BookAt.same {C : Addr} {H H' : Hp} {k : Bk} {P : List (List Nat)} (h : BookAt C H k P) (s : Same H H') : BookAt C H' k P := ⟨s _ _ h.ins, h.par.tk (Same.tk s), s _ _ h.bits⟩
/-- all but b is kept -/
def But (b : Addr) (H H' : Hp) : Prop := ∀ a o, a ≠ b → H a = some o → H' a = some o
/-- the parents of a kind with a number are right -/
structure OkL (q : List Nat) (m : Nat) : Prop where
  asc : q.Pairwise (· < ·)
  lt : ∀ x ∈ q, x < m
  few : q.length ≤ 6
structure OkP (P : List (List Nat)) : Prop where
  ok : ∀ (j : Nat) q, P[j]? = some q → OkL q j
  few : P.length ≤ 400
theorem OkP.rt {P : List (List Nat)} (h : OkP P) : RtP P := fun j p e q hq => (h.ok j p e).lt q hq
theorem OkP.nil : OkP [] := ⟨fun j q e => by simp at e, by decide⟩
theorem OkP.take {P : List (List Nat)} (h : OkP P) (m : Nat) : OkP (P.take m) := by
  refine ⟨fun j q e => ?_, ?_⟩
  · rw [List.getElem?_take] at e
    split at e
    · exact h.ok j q e
    · cases e
  · have := h.few
    rw [List.length_take]
    omega
theorem natsV_len (q : List Nat) : (natsV q).length = q.length := by unfold natsV; rw [List.length_map]
theorem natsV_int {K : PySem.W.Frag} {H : Hp} (q : List Nat) : ∀ x ∈ natsV q, IntK K H x := fun x hx => by
  unfold natsV at hx
  obtain ⟨n, _, rfl⟩ := List.mem_map.mp hx
  exact IntK.int _
theorem natsV_at {q : List Nat} {i : Nat} {n : Nat} (h : q[i]? = some n) : (natsV q)[i]? = some (.int (n : Int)) := by
  unfold natsV
  rw [List.getElem?_map, h]
  rfl
theorem natsV_here {q : List Nat} {i : Nat} {x : V} (h : (natsV q)[i]? = some x) : ∃ n : Nat, q[i]? = some n ∧ x = .int (n : Int) ∧ i < q.length := by
  unfold natsV at h
  rw [List.getElem?_map] at h
  cases e : q[i]? with
  | none => rw [e] at h; cases h
  | some z => rw [e] at h; exact ⟨z, rfl, (Option.some.inj h).symm, (List.getElem?_eq_some_iff.mp e).1⟩
theorem natsV_snoc (q : List Nat) (n : Nat) : natsV q ++ [V.int (n : Int)] = natsV (q ++ [n]) := by unfold natsV; rw [List.map_append]; rfl
theorem ParL.here {H : Hp} {vs : List V} {P : List (List Nat)} (h : ParL H vs P) {j : Nat} {x : V} (e : vs[j]? = some x) : ∃ a p, x = .ref a ∧ P[j]? = some p ∧ H a = some (.tup (natsV p)) := by
  have hj := (List.getElem?_eq_some_iff.mp e).1
  rw [h.1] at hj
  obtain ⟨a, e1, e2⟩ := h.2 j _ (List.getElem?_eq_getElem hj)
  rw [e] at e1
  exact ⟨a, _, Option.some.inj e1, List.getElem?_eq_getElem hj, e2⟩
theorem ParL.nil {H : Hp} : ParL H [] [] := ⟨rfl, fun j p e => by simp at e⟩
theorem ParL.snoc {H : Hp} {vs : List V} {P : List (List Nat)} (h : ParL H vs P) {a : Addr} {p : List Nat} (e : H a = some (.tup (natsV p))) : ParL H (vs ++ [.ref a]) (P ++ [p]) := by
  refine ⟨by rw [List.length_append, List.length_append, h.1]; rfl, fun j q hq => ?_⟩
  by_cases hj : j < P.length
  · rw [List.getElem?_append_left hj] at hq
    rw [List.getElem?_append_left (by rw [h.1]; exact hj)]
    exact h.2 j q hq
  · rw [List.getElem?_append_right (by omega)] at hq
    have l := (List.getElem?_eq_some_iff.mp hq).1
    rw [List.length_singleton] at l
    have ej : j - P.length = 0 := by omega
    rw [ej] at hq
    have er : p = q := Option.some.inj hq
    rw [List.getElem?_append_right (by rw [h.1]; omega), h.1, ej, ← er]
    exact ⟨a, rfl, e⟩
theorem ParL.take {H : Hp} {vs : List V} {P : List (List Nat)} (h : ParL H vs P) (m : Nat) : ParL H (vs.take m) (P.take m) := by
  refine ⟨by rw [List.length_take, List.length_take, h.1], fun j q hq => ?_⟩
  rw [List.getElem?_take] at hq
  split at hq
  · rename_i hm
    rw [List.getElem?_take_of_lt hm]
    exact h.2 j q hq
  · cases hq
theorem But.same {b : Addr} {H H1 H2 : Hp} (s : Same H H1) (k : But b H1 H2) : But b H H2 := fun a o n e => k a o n (s a o e)
theorem But.new {b : Addr} {H H1 H2 : Hp} (s : Same H H1) (n : H b = none) (k : But b H1 H2) : Same H H2 := fun a o e => k a o (ne_of_none e n) (s a o e)
/-- a book that was made between H and H' -/
structure Made (C : Addr) (H H' : Hp) (k : Bk) (P : List (List Nat)) : Prop where
  same : Same H H'
  here : BookAt C H' k P
  nb : Nw H k.b
  nl : Nw H k.lb
theorem Made.later {C : Addr} {H H1 H2 : Hp} {k : Bk} {P : List (List Nat)} (m : Made C H H1 k P) (s : Same H1 H2) : Made C H H2 k P := ⟨m.same.trans s, m.here.same s, m.nb, m.nl⟩
theorem Made.early {C : Addr} {H H1 H2 : Hp} {k : Bk} {P : List (List Nat)} (s : Same H H1) (m : Made C H1 H2 k P) : Made C H H2 k P := ⟨s.trans m.same, m.here, ⟨s.free m.nb.e⟩, ⟨s.free m.nl.e⟩⟩
theorem BookAt.mv {C : Addr} {H H' : Hp} {k : Bk} {P : List (List Nat)} {τ : Tp} (h : BookAt C H k P) (m : Mv τ H H') (n : k.lb ≠ τ.t) : BookAt C H' k P :=
  ⟨m.keep _ _ (fun e => by obtain ⟨_, _, _, _, z, _⟩ := m.was.here; rw [← e, h.ins] at z; cases z) h.ins, h.par.tk m.tk, m.keep _ _ n h.bits⟩
/-! ### who is what: the plain law -/
theorem bitsOf_take : ∀ (P : List (List Nat)) (m : Nat), bitsOf (P.take m) = (bitsOf P).take m := by
  have key : ∀ (n : Nat) (P : List (List Nat)), P.length = n → ∀ m, bitsOf (P.take m) = (bitsOf P).take m := by
    intro n
    induction n with
    | zero =>
      intro P h m
      have e : P = [] := List.length_eq_zero_iff.mp h
      subst e
      simp [bitsOf]
    | succ n ih =>
      intro P h m
      have hne : P ≠ [] := by intro e; rw [e] at h; cases h
      have e : P = P.dropLast ++ [P.getLast hne] := (List.dropLast_concat_getLast hne).symm
      have hl : P.dropLast.length = n := by rw [List.length_dropLast, h]; rfl
      by_cases hm : m ≤ n
      · rw [e, List.take_append_of_le_length (by omega), ih _ hl, bitsOf_snoc, List.take_append_of_le_length (by rw [bitsOf_len]; omega)]
      · rw [List.take_of_length_le (by omega), List.take_of_length_le (by rw [bitsOf_len]; omega)]
  exact fun P => key P.length P rfl
theorem bitsOf_at (P : List (List Nat)) (j : Nat) (p : List Nat) (h : P[j]? = some p) : (bitsOf P)[j]? = some (upBits ((bitsOf P).take j) j p) := by
  have hj := (List.getElem?_eq_some_iff.mp h).1
  have e : P.take (j + 1) = P.take j ++ [p] := by rw [List.take_add_one, h]; rfl
  have e2 : (bitsOf P).take (j + 1) = (bitsOf P).take j ++ [upBits ((bitsOf P).take j) j p] := by
    have hl : ((bitsOf P).take j).length = j := by rw [List.length_take, bitsOf_len]; omega
    rw [← bitsOf_take, e, bitsOf_snoc, bitsOf_take, hl]
  have e3 : ((bitsOf P).take (j + 1))[j]? = (bitsOf P)[j]? := List.getElem?_take_of_lt (Nat.lt_succ_self j)
  have hl : ((bitsOf P).take j).length = j := by rw [List.length_take, bitsOf_len]; omega
  rw [← e3, e2, List.getElem?_append_right (by omega), hl, Nat.sub_self]
  rfl
theorem upBits_take {acc : List Nat} {j : Nat} {p : List Nat} (h : ∀ q ∈ p, q < j) : upBits (acc.take j) j p = upBits acc j p := by
  unfold upBits
  have key : ∀ (p : List Nat) (f : Nat), (∀ q ∈ p, q < j) → p.foldl (fun f q => f ||| (acc.take j).getD q 0) f = p.foldl (fun f q => f ||| acc.getD q 0) f := by
    intro p
    induction p with
    | nil => intro f _; rfl
    | cons q r ih =>
      intro f hq
      have e : (acc.take j).getD q 0 = acc.getD q 0 := by
        rw [List.getD_eq_getElem?_getD, List.getD_eq_getElem?_getD, List.getElem?_take_of_lt (hq q List.mem_cons_self)]
      rw [List.foldl_cons, List.foldl_cons, e, ih _ fun z hz => hq z (List.mem_cons_of_mem _ hz)]
  exact key p _ h
theorem isA_rec {P : List (List Nat)} (hR : RtP P) {x : Nat} {p : List Nat} (h : P[x]? = some p) (j : Nat) : isA P x j = (decide (x = j) || p.any fun q => isA P q j) := by
  have e : (bitsOf P).getD x 0 = upBits (bitsOf P) x p := by
    rw [List.getD_eq_getElem?_getD, bitsOf_at P x p h, upBits_take (hR x p h)]
    rfl
  unfold isA
  rw [e, upBits_at]
theorem isA_out {P : List (List Nat)} {x : Nat} (h : P.length ≤ x) (j : Nat) : isA P x j = false := by
  unfold isA
  rw [List.getD_eq_getElem?_getD, List.getElem?_eq_none (by rw [bitsOf_len]; exact h)]
  exact Nat.zero_testBit j
theorem isA_lt {P : List (List Nat)} {x j : Nat} (h : isA P x j = true) : x < P.length := by
  by_cases hx : x < P.length
  · exact hx
  · rw [isA_out (by omega)] at h
    cases h
theorem isA_le {P : List (List Nat)} (hR : RtP P) : ∀ {x j : Nat}, isA P x j = true → j ≤ x := by
  intro x
  induction x using Nat.strongRecOn with
  | ind x ih =>
    intro j h
    have hx := isA_lt h
    rw [isA_rec hR (List.getElem?_eq_getElem hx), Bool.or_eq_true, decide_eq_true_eq, List.any_eq_true] at h
    rcases h with h | ⟨q, hq, h⟩
    · omega
    · have l := hR x _ (List.getElem?_eq_getElem hx) q hq
      have := ih q l h
      omega
theorem isA_refl {P : List (List Nat)} (hR : RtP P) {x : Nat} (hx : x < P.length) : isA P x x = true := by
  rw [isA_rec hR (List.getElem?_eq_getElem hx), decide_eq_true rfl]
  rfl
theorem isA_trans {P : List (List Nat)} (hR : RtP P) : ∀ {x y z : Nat}, isA P x y = true → isA P y z = true → isA P x z = true := by
  intro x
  induction x using Nat.strongRecOn with
  | ind x ih =>
    intro y z h h2
    have hx := isA_lt h
    rw [isA_rec hR (List.getElem?_eq_getElem hx), Bool.or_eq_true, decide_eq_true_eq, List.any_eq_true] at h
    rcases h with h | ⟨q, hq, h⟩
    · rw [h]
      exact h2
    · have l := hR x _ (List.getElem?_eq_getElem hx) q hq
      rw [isA_rec hR (List.getElem?_eq_getElem hx), Bool.or_eq_true, List.any_eq_true]
      exact .inr ⟨q, hq, ih q l h h2⟩
theorem isA_take {P : List (List Nat)} {m x : Nat} (h : x < m) (j : Nat) : isA (P.take m) x j = isA P x j := by
  unfold isA
  rw [bitsOf_take, List.getD_eq_getElem?_getD, List.getD_eq_getElem?_getD, List.getElem?_take_of_lt h]
theorem RtP.take {P : List (List Nat)} (h : RtP P) (m : Nat) : RtP (P.take m) := fun j p e q hq => by
  rw [List.getElem?_take] at e
  split at e
  · exact h j p e q hq
  · cases e
theorem RtP.snoc {P : List (List Nat)} (h : RtP P) {p : List Nat} (hp : ∀ q ∈ p, q < P.length) : RtP (P ++ [p]) := fun j r e q hq => by
  by_cases hj : j < P.length
  · rw [List.getElem?_append_left hj] at e
    exact h j r e q hq
  · rw [List.getElem?_append_right (by omega)] at e
    have l := (List.getElem?_eq_some_iff.mp e).1
    rw [List.length_singleton] at l
    have ej : j - P.length = 0 := by omega
    rw [ej] at e
    have er : p = r := Option.some.inj e
    rw [← er] at hq
    have := hp q hq
    omega
/-- forebears, heirs; the lowest of a lot; plain parents -/
def foreB (P : List (List Nat)) (x : Nat) : List Nat := (List.range x).filter fun p => isA P x p
def heirB (P : List (List Nat)) (p : Nat) : List Nat := (List.range P.length).filter fun x => decide (p < x) && isA P x p
def lowB (P : List (List Nat)) (L : List Nat) : List Nat := L.filter fun p => !(L.any fun x => !decide (x = p) && isA P x p)
def plainB (P : List (List Nat)) : List (List Nat) := (List.range P.length).map fun x => lowB P (foreB P x)
theorem plainB_len (P : List (List Nat)) : (plainB P).length = P.length := by
  unfold plainB
  rw [List.length_map, List.length_range]
theorem plainB_at {P : List (List Nat)} {x : Nat} (h : x < P.length) : (plainB P)[x]? = some (lowB P (foreB P x)) := by
  unfold plainB
  rw [List.getElem?_map, List.getElem?_range h]
  rfl
theorem mem_foreB {P : List (List Nat)} {x p : Nat} : p ∈ foreB P x ↔ p < x ∧ isA P x p = true := by
  unfold foreB
  rw [List.mem_filter, List.mem_range]
theorem plainB_rt (P : List (List Nat)) : RtP (plainB P) := fun j p e q hq => by
  have hj := (List.getElem?_eq_some_iff.mp e).1
  rw [plainB_len] at hj
  rw [plainB_at hj] at e
  rw [← Option.some.inj e] at hq
  exact (mem_foreB.mp (List.mem_filter.mp hq).1).1
theorem low_above {P : List (List Nat)} (hR : RtP P) {x p : Nat} (hp : p < x) (h : isA P x p = true) : ∃ q ∈ lowB P (foreB P x), isA P q p = true := by
  have key : ∀ n q, x - q = n → q < x → isA P x q = true → isA P q p = true → ∃ q ∈ lowB P (foreB P x), isA P q p = true := by
    intro n
    induction n using Nat.strongRecOn with
    | ind n ih =>
      intro q hn hq hxq hqp
      by_cases hl : q ∈ lowB P (foreB P x)
      · exact ⟨q, hl, hqp⟩
      · have hf : q ∈ foreB P x := mem_foreB.mpr ⟨hq, hxq⟩
        have ha : ((foreB P x).any fun y => !decide (y = q) && isA P y q) = true := by
          cases e : ((foreB P x).any fun y => !decide (y = q) && isA P y q) with
          | true => rfl
          | false => exact absurd (List.mem_filter.mpr ⟨hf, by simp [e]⟩) hl
        obtain ⟨y, hy, hz⟩ := List.any_eq_true.mp ha
        rw [Bool.and_eq_true, Bool.not_eq_true', decide_eq_false_iff_not] at hz
        have l := isA_le hR hz.2
        obtain ⟨y1, y2⟩ := mem_foreB.mp hy
        exact ih (x - y) (by omega) y rfl y1 y2 (isA_trans hR hz.2 hqp)
  exact key _ p rfl hp h (isA_refl hR (by have := isA_lt h; omega))
theorem isA_plain {P : List (List Nat)} (hR : RtP P) : ∀ (x j : Nat), isA (plainB P) x j = isA P x j := by
  intro x
  induction x using Nat.strongRecOn with
  | ind x ih =>
    intro j
    by_cases hx : x < P.length
    · have l : ∀ q ∈ lowB P (foreB P x), q < x ∧ isA P x q = true := fun q hq => mem_foreB.mp (List.mem_filter.mp hq).1
      rw [isA_rec (plainB_rt P) (plainB_at hx)]
      rw [Bool.eq_iff_iff, Bool.or_eq_true, decide_eq_true_eq, List.any_eq_true]
      constructor
      · rintro (h | ⟨q, hq, h⟩)
        · rw [← h]
          exact isA_refl hR hx
        · rw [ih q (l q hq).1] at h
          exact isA_trans hR (l q hq).2 h
      · intro h
        by_cases e : x = j
        · exact .inl e
        · have := isA_le hR h
          obtain ⟨q, hq, hz⟩ := low_above hR (by omega) h
          exact .inr ⟨q, hq, by rw [ih q (l q hq).1]; exact hz⟩
    · rw [isA_out (P := P) (by omega), isA_out (P := plainB P) (by rw [plainB_len]; omega)]
theorem foreB_plain {P : List (List Nat)} (hR : RtP P) (x : Nat) : foreB (plainB P) x = foreB P x := by
  unfold foreB
  congr 1
  funext j
  rw [isA_plain hR]
theorem lowB_plain {P : List (List Nat)} (hR : RtP P) (L : List Nat) : lowB (plainB P) L = lowB P L := by
  unfold lowB
  congr 1
  funext p
  congr 2
  funext x
  rw [isA_plain hR]
theorem plainB_plainB {P : List (List Nat)} (hR : RtP P) : plainB (plainB P) = plainB P := by
  show (List.range (plainB P).length).map (fun x => lowB (plainB P) (foreB (plainB P) x)) = (List.range P.length).map fun x => lowB P (foreB P x)
  rw [plainB_len]
  congr 1
  funext x
  rw [foreB_plain hR, lowB_plain hR]
/-- 300 in a row, 300 beside one another -/
def chainP (n : Nat) : List (List Nat) := [] :: (List.range n).map fun k => [k]
def wideP (n : Nat) : List (List Nat) := List.replicate n []
theorem chainP_len (n : Nat) : (chainP n).length = n + 1 := by simp [chainP]
theorem chainP_at {n j : Nat} (h : j < n) : (chainP n)[j + 1]? = some [j] := by
  unfold chainP
  rw [List.getElem?_cons_succ, List.getElem?_map, List.getElem?_range h]
  rfl
theorem chainP_rt (n : Nat) : RtP (chainP n) := fun j p e q hq => by
  cases j with
  | zero => rw [show (chainP n)[0]? = some [] from rfl] at e; rw [← Option.some.inj e] at hq; cases hq
  | succ j =>
    have hj := (List.getElem?_eq_some_iff.mp e).1
    rw [chainP_len] at hj
    rw [chainP_at (by omega)] at e
    rw [← Option.some.inj e, List.mem_singleton] at hq
    omega
theorem isA_chain {n : Nat} : ∀ {x : Nat}, x ≤ n → ∀ j, isA (chainP n) x j = decide (j ≤ x)
  | 0, _, j => by
    rw [isA_rec (chainP_rt n) (show (chainP n)[0]? = some [] from rfl)]
    simp only [List.any_nil, Bool.or_false]
    exact decide_eq_decide.mpr (by omega)
  | x + 1, h, j => by
    rw [isA_rec (chainP_rt n) (chainP_at (by omega)), List.any_cons, List.any_nil, Bool.or_false, isA_chain (by omega) j, ← Bool.decide_or]
    exact decide_eq_decide.mpr (by omega)
theorem wideP_rt (n : Nat) : RtP (wideP n) := fun j p e q hq => by
  have := List.mem_of_getElem? e
  rw [List.eq_of_mem_replicate this] at hq
  cases hq
theorem isA_wide {n x : Nat} (h : x < n) (j : Nat) : isA (wideP n) x j = decide (x = j) := by
  rw [isA_rec (wideP_rt n) (p := []) (by unfold wideP; rw [List.getElem?_replicate, if_pos h])]
  simp
/-- the items of a list are tuples of numbers -/
def RN (f : Nat → List Nat) (i : Nat) (v : V) (H : Hp) : Prop := ∃ a, v = .ref a ∧ H a = some (.tup (natsV (f i)))
theorem RN.tk (f : Nat → List Nat) (i : Nat) (v : V) (H H' : Hp) (h : RN f i v H) (k : TK H H') : RN f i v H' := by
  obtain ⟨a, e, x⟩ := h
  exact ⟨a, e, k _ _ x⟩
theorem parL_of {H : Hp} {acc : List V} {n : Nat} {f : Nat → List Nat} (hl : acc.length = n) (h : ∀ (j : Nat) v, acc[j]? = some v → RN f j v H) : ParL H acc ((List.range n).map f) := by
  refine ⟨by rw [hl, List.length_map, List.length_range], fun j p e => ?_⟩
  have hj := (List.getElem?_eq_some_iff.mp e).1
  rw [List.length_map, List.length_range] at hj
  rw [List.getElem?_map, List.getElem?_range hj] at e
  have ep : f j = p := Option.some.inj e
  obtain ⟨a, e1, e2⟩ := h j _ (List.getElem?_eq_getElem (by omega))
  rw [ep] at e2
  exact ⟨a, by rw [List.getElem?_eq_getElem (by omega), e1], e2⟩
/-- the parents of the kind i -/
def RowR (i : Nat) (v : V) (H : Hp) : Prop := ∃ a q, v = .ref a ∧ H a = some (.tup (natsV q)) ∧ OkL q i
theorem RowR.tk {i : Nat} {v : V} {H H' : Hp} (h : RowR i v H) (k : TK H H') : RowR i v H' := by
  obtain ⟨a, q, e, x, o⟩ := h
  exact ⟨a, q, e, k _ _ x, o⟩
theorem rows_of {H : Hp} {acc : List V} {n : Nat} (hn : n ≤ 400) (hl : acc.length = n) (h : ∀ (j : Nat) v, acc[j]? = some v → RowR j v H) : ∃ P, ParL H acc P ∧ OkP P ∧ P.length = n := by
  obtain ⟨f, hf⟩ := Classical.axiomOfChoice (r := fun (j : Nat) (q : List Nat) => j < n → ∃ a, acc[j]? = some (.ref a) ∧ H a = some (.tup (natsV q)) ∧ OkL q j) (fun j => by
    by_cases hj : j < n
    · obtain ⟨a, q, e, x, o⟩ := h j _ (List.getElem?_eq_getElem (by omega))
      exact ⟨q, fun _ => ⟨a, by rw [List.getElem?_eq_getElem (by omega), e], x, o⟩⟩
    · exact ⟨[], fun z => absurd z hj⟩)
  refine ⟨(List.range n).map f, parL_of hl fun j v e => ?_, ⟨fun j q e => ?_, ?_⟩, ?_⟩
  · have hj := (List.getElem?_eq_some_iff.mp e).1
    obtain ⟨a, e1, e2, _⟩ := hf j (by omega)
    rw [e] at e1
    exact ⟨a, Option.some.inj e1, e2⟩
  · have hj := (List.getElem?_eq_some_iff.mp e).1
    rw [List.length_map, List.length_range] at hj
    rw [List.getElem?_map, List.getElem?_range hj] at e
    obtain ⟨_, _, _, o⟩ := hf j hj
    rw [← Option.some.inj e]
    exact o
  · rw [List.length_map, List.length_range]
    exact hn
  · rw [List.length_map, List.length_range]
theorem nats_of {n : Nat} : ∀ {ns : List Int}, ns.Pairwise (· < ·) → (∀ x ∈ ns, ∃ z : Nat, z < n ∧ x = (z : Int)) → ∃ ks : List Nat, ns = ks.map (fun z : Nat => (z : Int)) ∧ (∀ k ∈ ks, k < n) ∧ ks.Pairwise (· < ·)
  | [], _, _ => ⟨[], rfl, (fun k hk => by cases hk), List.Pairwise.nil⟩
  | x :: r, hp, h => by
    obtain ⟨h1, h2⟩ := List.pairwise_cons.mp hp
    obtain ⟨ks, e, hk, hkp⟩ := nats_of h2 fun y hy => h y (List.mem_cons_of_mem _ hy)
    obtain ⟨z, hz, ez⟩ := h x List.mem_cons_self
    refine ⟨z :: ks, by rw [e, ez]; rfl, fun k hk2 => ?_, List.pairwise_cons.mpr ⟨fun k hk2 => ?_, hkp⟩⟩
    · rcases List.mem_cons.mp hk2 with e2 | e2
      · rw [e2]; exact hz
      · exact hk k e2
    · have := h1 (k : Int) (by rw [e]; exact List.mem_map.mpr ⟨k, hk2, rfl⟩)
      omega
theorem nodup_le : ∀ (m : Nat) {ks : List Nat}, ks.Nodup → (∀ k ∈ ks, k < m) → ks.length ≤ m
  | 0, [], _, _ => Nat.le_refl _
  | 0, k :: r, _, h => absurd (h k List.mem_cons_self) (Nat.not_lt_zero _)
  | m + 1, ks, hn, h => by
    by_cases z : m ∈ ks
    · have l := List.length_erase_of_mem z
      have ih := nodup_le m (hn.erase m) fun k hk => by
        have q := (List.Nodup.mem_erase_iff hn).mp hk
        have := h k q.2
        omega
      have := List.length_pos_of_mem z
      omega
    · have ih := nodup_le m hn fun k hk => by
        have := h k hk
        have : k ≠ m := fun e => z (e ▸ hk)
        omega
      omega
/-! ### clauses -/
def optV : Option Int → V
  | none => .non
  | some i => .int i
def ClsL (H : Hp) (vs : List V) (Cs : List (Nat × Int)) : Prop := vs.length = Cs.length ∧ ∀ (j : Nat) c, Cs[j]? = some c → ∃ a, vs[j]? = some (.ref a) ∧ H a = some (.tup [.int (c.1 : Int), .int c.2])
def ClsAt (H : Hp) (a : Addr) (Cs : List (Nat × Int)) : Prop := ∃ vs, H a = some (.tup vs) ∧ ClsL H vs Cs
theorem ClsL.tk {H H' : Hp} {vs : List V} {Cs : List (Nat × Int)} (h : ClsL H vs Cs) (k : TK H H') : ClsL H' vs Cs := ⟨h.1, fun j p e => by
  obtain ⟨a, e1, e2⟩ := h.2 j p e
  exact ⟨a, e1, k _ _ e2⟩⟩
theorem ClsAt.tk {H H' : Hp} {a : Addr} {Cs : List (Nat × Int)} (h : ClsAt H a Cs) (k : TK H H') : ClsAt H' a Cs := by
  obtain ⟨vs, e, l⟩ := h
  exact ⟨vs, k _ _ e, l.tk k⟩
theorem ClsL.here {H : Hp} {vs : List V} {Cs : List (Nat × Int)} (h : ClsL H vs Cs) {j : Nat} {x : V} (e : vs[j]? = some x) : ∃ a c, x = .ref a ∧ Cs[j]? = some c ∧ H a = some (.tup [.int (c.1 : Int), .int c.2]) := by
  have hj := (List.getElem?_eq_some_iff.mp e).1
  rw [h.1] at hj
  obtain ⟨a, e1, e2⟩ := h.2 j _ (List.getElem?_eq_getElem hj)
  rw [e] at e1
  exact ⟨a, _, Option.some.inj e1, List.getElem?_eq_getElem hj, e2⟩
theorem ClsL.take {H : Hp} {vs : List V} {Cs : List (Nat × Int)} (h : ClsL H vs Cs) (m : Nat) : ClsL H (vs.take m) (Cs.take m) := by
  refine ⟨by rw [List.length_take, List.length_take, h.1], fun j q hq => ?_⟩
  rw [List.getElem?_take] at hq
  split at hq
  · rename_i hm
    rw [List.getElem?_take_of_lt hm]
    exact h.2 j q hq
  · cases hq
theorem ClsL.snoc {H : Hp} {vs : List V} {Cs : List (Nat × Int)} (h : ClsL H vs Cs) {a : Addr} {c : Nat × Int} (e : H a = some (.tup [.int (c.1 : Int), .int c.2])) : ClsL H (vs ++ [.ref a]) (Cs ++ [c]) := by
  refine ⟨by rw [List.length_append, List.length_append, h.1]; rfl, fun j q hq => ?_⟩
  by_cases hj : j < Cs.length
  · rw [List.getElem?_append_left hj] at hq
    rw [List.getElem?_append_left (by rw [h.1]; exact hj)]
    exact h.2 j q hq
  · rw [List.getElem?_append_right (by omega)] at hq
    have l := (List.getElem?_eq_some_iff.mp hq).1
    rw [List.length_singleton] at l
    have ej : j - Cs.length = 0 := by omega
    rw [ej] at hq
    have er : c = q := Option.some.inj hq
    rw [List.getElem?_append_right (by rw [h.1]; omega), h.1, ej, ← er]
    exact ⟨a, rfl, e⟩
/-- the first place that is met; the label there -/
def firstB (Cs : List (Nat × Int)) (S : Nat → Bool) : Nat := Cs.findIdx fun c => S c.1
def labB (Cs : List (Nat × Int)) (S : Nat → Bool) : Option Int := (Cs[firstB Cs S]?).map (·.2)
theorem labB_congr {Cs : List (Nat × Int)} {S T : Nat → Bool} (h : ∀ c ∈ Cs, S c.1 = T c.1) : labB Cs S = labB Cs T := by
  have key : ∀ Cs : List (Nat × Int), (∀ c ∈ Cs, S c.1 = T c.1) → firstB Cs S = firstB Cs T := by
    intro Cs
    induction Cs with
    | nil => intro _; rfl
    | cons c r ih =>
      intro h
      have ih := ih fun d hd => h d (List.mem_cons_of_mem _ hd)
      unfold firstB at ih ⊢
      rw [List.findIdx_cons, List.findIdx_cons, h c List.mem_cons_self, ih]
  unfold labB
  rw [key Cs h]
theorem first_drop {Cs : List (Nat × Int)} {S : Nat → Bool} {i : Nat} {c : Nat × Int} (hc : Cs[i]? = some c) (h : firstB Cs S = i + firstB (Cs.drop i) S) : firstB Cs S = if S c.1 then i else (i + 1) + firstB (Cs.drop (i + 1)) S := by
  have il := (List.getElem?_eq_some_iff.mp hc).1
  have hd : Cs.drop i = c :: Cs.drop (i + 1) := by
    rw [List.drop_eq_getElem_cons il]
    rw [List.getElem?_eq_getElem il] at hc
    rw [Option.some.inj hc]
  rw [h, hd]
  unfold firstB
  rw [List.findIdx_cons]
  cases S c.1 with
  | true => rfl
  | false => show i + ((Cs.drop (i + 1)).findIdx (fun c => S c.1) + 1) = _; simp only [Bool.false_eq_true, if_false]; omega
theorem all_true (n : Nat) : (List.range n).filterMap (fun _ => some (V.bl true)) = (List.replicate n true).map V.bl := by
  rw [show (fun _ : Nat => some (V.bl true)) = some ∘ (fun _ : Nat => V.bl true) from rfl, List.filterMap_eq_map, List.map_replicate]
  exact List.eq_replicate_iff.mpr ⟨by rw [List.length_map, List.length_range], fun b hb => by
    obtain ⟨x, _, e⟩ := List.mem_map.mp hb
    exact e.symm⟩
theorem all_id (n : Nat) : (List.replicate n true).all id = true := List.all_eq_true.mpr fun x hx => (List.eq_of_mem_replicate hx)
theorem filter_natsV (p : Nat → Bool) (f : Nat → Nat) (n : Nat) : (List.range n).filterMap (fun i => if p i = true then some (V.int ((f i : Nat) : Int)) else none) = natsV (((List.range n).filter p).map f) := by
  unfold natsV
  induction n with
  | zero => rfl
  | succ n ih =>
    rw [filterMap_range_succ, ih, List.range_succ, List.filter_append, List.map_append, List.map_append]
    congr 1
    rw [List.filter_cons]
    cases p n <;> rfl
theorem filter_nats (p : Nat → Bool) (n : Nat) : (List.range n).filterMap (fun i => if p i = true then some (V.int (i : Int)) else none) = natsV ((List.range n).filter p) := by
  have h := filter_natsV p id n
  rw [List.map_id] at h
  exact h
theorem slice_any {K : PySem.W.Frag} {H : Hp} {a : Addr} {xs : List V} {m : Nat} {Q : VK} (hx : H a = some (.tup xs)) (hm : m ≤ xs.length)
    (k : ∀ p H', Same H H' → H' p = some (.tup (xs.take m)) → Q (.ref p) H') : rSlA K (.ref a) none (some (m : Int)) H Q := by
  have e0 : HT.sIx xs.length 0 none = 0 := rfl
  have e1 : HT.sIx xs.length xs.length (some (m : Int)) = m := by
    rw [HT.sIx_nat]
    omega
  refine ⟨a, xs, rfl, SqT.of hx, fun e => ?_, fun _ p np => ?_⟩
  · rw [e1] at e
    exact k a H (Same.refl H) (by rw [hx, e.2, List.take_length])
  · refine k p _ (Same.new (Same.refl H) np) ?_
    rw [upd_same]
    unfold cutV
    rw [e0, e1]
    rfl
theorem ixn_nat {n j : Nat} (hj : j < n) : ixN n (j : Int) = some j := by
  unfold ixN
  rw [if_pos (by omega), if_pos (by omega)]
  simp
/-! ### words for books -/
local macro_rules | `(tactic| tm_at "fld") => `(tactic| refine ⟨_, _, _, _, _, rfl, by tm_at "hp", by assumption, by assumption, by first | exact bkF_bits _ _ | exact bkF_parents _ _ | fail "fld", ?_⟩)
section
open PySem.Spec PyProof.Rows
/-! ### super().__init__(text) in an own error over an own error over ValueError -/
section
variable {prog : Program} {w : World} {A : Around} {E : Value → Shared → Prop} {hp : Heap} {g : Array GenState} {d : Drawn} {t : Nat} {os : OsState}
variable {nm qn : Str} {C N : Addr} {bs bm sub : List Value} {hdct ab : Bool} {sn : List Str} {col : Option Bool} {dd : Option Addr} {k0 k1 k2 k3 k5 : Option Value}
theorem bound_init {u e t0 : Addr} {vals : List Value} {Q : Value → Shared → Prop} (kC : hp.get? C = some (excClassObj nm qn C N bs bm hdct sn sub ab col dd k0 k1 k2 k3 k5 "ValueError.__new__"))
    (ke : hp.get? e = some (PySem.HandSPX.excO C t0)) (ku : hp.get? u = some (PySem.W.kxs_mw "ValueError.__init__" e)) (few : vals.length ≤ sizeLine)
    (fin : ∀ h2 t2, (∀ b o, b ≠ e → hp.get? b = some o → h2.get? b = some o) → h2.get? e = some (PySem.HandSPX.excO C t2) → Q .none ⟨h2, g, d, t, os⟩) : wpAny (model prog w) A (call (.ref u) vals) Q E ⟨hp, g, d, t, os⟩ := by
  apply wpAny_call
  apply codeAny_of_tree
  change wpAny (model prog w) A.in1 (callAny (.ref u) ⟨vals, []⟩) _ _ _
  unfold callAny
  simp only
  apply wpAny_bind
  refine wpAny_load ku ?_
  have b1 : (Value.type "method-wrapper" == Value.type "method" || Value.type "method-wrapper" == Value.type "builtin_function_or_method" || Value.type "method-wrapper" == Value.type "method-wrapper") = true := by decide
  simp only [PySem.W.kxs_mw, b1, if_true]
  apply PySem.W.KFB.if_so (by decide)
  apply wpAny_bind
  refine PySem.W.check_bound_init F.excBase_ValueError.toExcCallFacts kC ke rfl ?_
  refine wpAny_pure ?_
  refine And.intro (plainId_quiet F.excBase_ValueError.init.plain _) (codeAny_builtin F.excBase_ValueError.initEntry ?_)
  rw [Around.under_plainId F.excBase_ValueError.init.plain _]
  wp_walk
  apply fin (t2 := hp.objs.size)
  · intro b o nb hb
    rw [Heap.get?_update_other _ _ (fun z => nb z.symm)]
    exact Heap.get?_push_of_some _ hb
  · rw [Heap.get?_update_self _ (Heap.get?_push_of_some _ ke) rfl]
    rfl
end
/-- what the written part says of a class and of its own __init__ that calls the one above -/
structure SupC (K : PySem.W.Frag) (mg : Str → Option Value) (prog : Program) (C f cc cda : Addr) (F : NdefX.NF) : Prop where
  ex : OexC K C
  opq : PySem.W.nsIn K cStatics "thirdparty.any" = some none
  sup : PySem.W.ks_superIn K C C "__init__" = some (some (.builtin "ValueError.__init__"))
  subV : PySem.W.subIn K (.ref C) (.type "ValueError") = some true
  mro : PySem.W.mroIn K C (.ref C) = some true
  cell : ∃ cl cld csl, K.lookup cc = some ⟨cl, cld, .cell (some (.ref C)), csl⟩
  code : ∃ ccl cdd vs ccs file tf, K.lookup cda = some ⟨ccl, cdd, .fields vs, ccs⟩ ∧ vs[2]? = some (.str file tf) ∧ ((prog.main.file : Str) == file) = true
  fn : ∃ oc od dV kV doc pm an ctv osl, K.lookup f = some ⟨oc, od, .func (PySem.W.fnX F.name F.qual F.params F.body F.scope F.cl dV kV doc pm an (.ref F.c) ctv), osl⟩
  top : (prog.main.scope.names.lookup ("super" : Str)).isSome = false
  nosup : mg "super" = none
  cl : F.cl = [(("__class__" : Str), cc)]
  c : F.c = cda
  kind : F.scope.kind = .function
  ks : F.scope.names.lookup ("super" : Str) = some .globalImplicit
  kc : F.scope.names.lookup ("__class__" : Str) = some .free
  kself : F.scope.names.lookup ("self" : Str) = some .local
  first : ∃ ar : Arg, (F.params.posonlyargs ++ F.params.args).head? = some ar ∧ ar.arg = ("self" : Str)
section
variable {X : Cx} {C f cc cda L a : Addr} {F : NdefX.NF} {σ : L2.St} {H : Hp} {s : Shared} {Q : Value → Shared → Prop} {E : Value → Shared → Prop} {p0 p1 p2 p3 p4 : Pos} {j : Nat} {msg : Str} {body : List Stmt}
theorem sup_eval (T : SupC X.K X.mg X.prog C f cc cda F) (hE : X.env = NdefX.envF F f L) (I : Inv X [] σ H s) (hN : X.N[0]? = some ("self" : Str)) (hσ : σ[0]? = some (some (.ref a))) (ha : H a = some (exo a C none)) (hb : bootBuiltins "super" = some (.type "super")) {pl : Sem Bool}
    (he : eval (.Call (.Attribute (.Call (.Name "super" p0) [] [] p1) "__init__" p2) [.Constant (.str msg) j p3] [] p4) X.env = (do
      let ov ← attributeBase (.Call (.Name "super" p0) [] [] p1) "__init__" X.env (eval (.Call (.Name "super" p0) [] [] p1) X.env)
      standAt p2.atName
      let (f, first) ← holding [ov] (getMethod ov "__init__" pl)
      callWith p4 f first (backTo p4 (starEach [.Constant (.str msg) j p3] X.env)) []))
    (h : ∀ s', Inv X [] σ H s' → Q .none s') :
    _root_.PySem.wpAt (model X.prog X.w) X.A (.func body X.env) (eval (.Call (.Attribute (.Call (.Name "super" p0) [] [] p1) "__init__" p2) [.Constant (.str msg) j p3] [] p4) X.env) Q X.xe s := by
  have KX := I.kIn
  obtain ⟨cl, cld, csl, lcell⟩ := T.cell
  obtain ⟨ccl, cdd, vs, ccs, file, tf, lcode, hvs, hfile⟩ := T.code
  obtain ⟨oc, od, dV, kV, doc, pm, an, ctv, osl, lfn⟩ := T.fn
  obtain ⟨ar, har, hself⟩ := T.first
  obtain ⟨nm, q, N, bs, bm, sn, sub, ab, col, dd, k0, k1, k2, k3, k5, hC, hbm⟩ := T.ex.cls
  obtain ⟨t1, ho⟩ := exo_at I.hok ha
  have hks : X.env.kindOf "super" = some .globalImplicit := by rw [hE]; exact T.ks
  have hkc : X.env.kindOf "__class__" = some .free := by rw [hE]; exact T.kc
  have hksf : X.env.kindOf "self" = some .local := by rw [hE]; exact T.kself
  have hkd : X.env.scope.kind = .function := I.ok.kind
  have hfu : X.env.func = some f := by rw [hE]
  have hco : X.env.code = .ref cda := by rw [hE, ← T.c]
  have hcl : X.env.cells.lookup ("__class__" : Str) = some cc := by rw [hE]; show F.cl.lookup ("__class__" : Str) = _; rw [T.cl]; rfl
  have hcls : PySem.W.clsIn X.K C = some { name := nm, bases := bs, mro := .ref C :: bm, ns := N, qualname := q, hasDict := true, slotNames := sn, subclasses := sub, abstract := ab, collection := col, hasDel := false } := by unfold PySem.W.clsIn; rw [hC] <;> rfl
  refine PySem.ks_wpAt_MethodCall ?_ he
  refine PySem.ks_wpAt_super_base hks hkc (by decide +kernel) hfu (KX _ _ lfn) rfl har hco (KX _ _ lcode) rfl hvs hfile T.top ?_
  obtain ⟨mb, g1, g2⟩ := I.mod.blt
  refine PySem.W.ks_loadName_global hkd hks (Calls.loadGlobal_builtin (by rw [I.ok.glob]; exact I.mod.glob.keeps I.bk) T.nosup (by rw [I.ok.blt]; exact g1.keeps I.bk) ((g2 "super" (by decide)).trans hb) ⟨rfl, ?_⟩)
  refine wpAny_loadName_free hkd hkc hcl ⟨_, KX _ _ lcell, rfl⟩ ?_
  obtain ⟨m, hns, hloc⟩ := I.loc
  obtain ⟨u, ru, hl⟩ := hloc 0 "self" (.ref a) hN hσ (.inl (by rw [hE]; exact T.kself))
  have hm : m "self" = some (.ref a) := by
    rcases hl with ⟨_, hl⟩ | ⟨hl, _⟩
    · cases ru
      exact hl
    · rw [hksf] at hl
      rcases hl with hl | hl <;> cases hl
  rw [hself]
  refine wpAny_loadName_local hkd hksf hns hm ?_
  have KC := KX _ _ hC
  have ia : PySem.W.InstAt s.heap a { cls := .ref C, dict := none, data := .fields #[.ref t1, .none, .none, .none, .bool false, .none] } C none := ⟨ho, rfl, rfl, trivial⟩
  have ne : a ≠ C := PySem.W.ks_ne KX ia hcls
  have hI : PySem.W.Looks (model X.prog X.w) s.heap (isInstance (.ref a) (.type "ValueError")) true := ia.type.andThen (PySem.W.looks_subIn KX T.subV)
  obtain ⟨hp, g, d, t, os⟩ := s
  refine ks_wpAny_isType_cls KC rfl ⟨rfl, ?_⟩
  refine ks_wpAny_call_super KC rfl ho rfl (fun c e => nomatch e) (PySem.W.looks_mroIn KX T.mro) (fun h1 eso kk => ?_)
  have I1 : Inv X [] σ H ⟨h1, g, d, t, os⟩ := I.kept (t' := t) kk
  have KX1 := I1.kIn
  have ia1 : PySem.W.InstAt h1 a { cls := .ref C, dict := none, data := .fields #[.ref t1, .none, .none, .none, .bool false, .none] } C none := ⟨kk _ _ ho, rfl, rfl, trivial⟩
  have hf : PySem.W.alongIn X.K "__init__" (((Value.ref C :: bm).dropWhile (· != .ref C)).drop 1) = some (some (.builtin "ValueError.__init__")) := by
    have := T.sup
    unfold PySem.W.ks_superIn at this
    rw [hcls] at this
    exact this
  refine PySem.W.kxs_getMethod PySem.W.kxs_ValueError eso (PySem.W.looks_opaque KX1 T.opq) (l₀ := .ref C :: bm) (fun A Q E s k q => wpAny_bind ((PySem.W.looks_clsIn KX1 hcls) A _ E s k (wpAny_pure q))) rfl KX1 hf (ia1.type.andThen (PySem.W.looks_subIn KX1 T.subV)) ne (by decide +kernel) ?_
  have hu0 : (h1.push (PySem.W.kxs_mw "ValueError.__init__" a)).get? h1.objs.size = some (PySem.W.kxs_mw "ValueError.__init__" a) := Heap.get?_push_at rfl rfl
  have I2 : Inv X [] σ H ⟨h1.push (PySem.W.kxs_mw "ValueError.__init__" a), g, d, t + 1, os⟩ := I1.kept (t' := t + 1) fun b o e => Heap.get?_push_of_some _ e
  have fp : FpOk X [] H h1.objs.size := I1.fpOk (Nat.le_refl _) (I1.hok.fresh (Nat.le_refl _))
  have I3 := I2.pinned (fp := [h1.objs.size]) (fun b hb => by rw [List.mem_singleton.mp hb]; exact fp) (fun b hb => by rw [List.mem_singleton.mp hb]; exact ⟨_, hu0, fun v z => nomatch z⟩)
  have pin : (h1.objs.size, PySem.W.kxs_mw "ValueError.__init__" a) ∈ ([] ++ pinsAt [h1.objs.size] (h1.push (PySem.W.kxs_mw "ValueError.__init__" a)) : List (Addr × Obj)) := by
    rw [List.nil_append]
    exact mem_pinsAt (List.mem_singleton.mpr rfl) hu0
  have ap : PA X [.Constant (.str msg) j p3] (tCons (tC (.str msg)) tNil) := pa_cons pe_str pa_nil
  show wpAny (model X.prog X.w) X.A (callWith p4 (.ref h1.objs.size) [] (backTo p4 (starEach [.Constant (.str msg) j p3] X.env)) []) Q X.xe _
  refine PySem.W.kxs_callWith (i := "ValueError.__init__") (x := a) (by rfl) ?_
  show wpAny (model X.prog X.w) X.A (evalArgs (.ref h1.objs.size) true ((false, eval (.Constant (.str msg) j p3) X.env) :: []) []) _ X.xe _
  refine PySem.Calls.evalArgs_plain (wpAny_mono (ap.run p4 _ _ σ H (fun vs H1 => vs = [V.str msg] ∧ H1 = H) I3 ⟨rfl, rfl⟩) (fun us s4 hh => ?_) fun _ _ z => z)
  obtain ⟨vs4, H4, I4, r4, ev, eH⟩ := hh
  subst eH
  have hu4 := (I4.pin _ (List.mem_append_right _ pin)).1
  refine ⟨hu4, ?_⟩
  have I5 : Inv X [] σ H4 s4 := I4.unpinned (pl := pinsAt [h1.objs.size] (h1.push (PySem.W.kxs_mw "ValueError.__init__" a)))
  obtain ⟨t5, ho5⟩ := exo_at I5.hok ha
  obtain ⟨h5, g5, d5, tk5, os5⟩ := s4
  have few : us.length ≤ sizeLine := by
    rw [← r4.length, ev]
    show 1 ≤ sizeLine
    rw [sizeLine_eq]
    omega
  refine bound_init (I5.kIn _ _ hC) ho5 hu4 few fun h6 t6 k6 e6 => ?_
  have J := I5.write (t' := tk5) (x := a) (e := a) (o := exo a C none) (by rw [ha]; exact True.intro) (.inl rfl) k6 ⟨_, e6⟩ (exo_ok e6)
  have eu : upd H4 a (exo a C none) = H4 := by
    funext b
    by_cases hb : b = a
    · rw [hb, upd_same, ha]
    · rw [upd_ne hb]
  rw [eu] at J
  exact h _ J
end
/-- an own __init__ whose first line is super().__init__(text), as a def -/
theorem sup_fn {CX : CXT} {P : Program} {w : World} {K : PySem.W.Frag} {mg : Str → Option Value} {base : Heap} {C f cc cda : Addr} {F : NdefX.NF} {N ps : List Str} {rest : List Stmt} {k : Nat} {sp : Sp} {oc : Value} {od an : Option Addr} {dV kV doc pm ctv : Value} {osl : Array (Option Value)}
    {p0 p1 p2 p3 p4 p5 : Pos} {j : Nat} {msg : Str} {pl : Sem Bool}
    (lk : K.lookup f = some ⟨oc, od, .func (PySem.W.fnX F.name F.qual F.params F.body F.scope F.cl dV kV doc pm an (.ref F.c) ctv), osl⟩) (hcd : PySem.W.codeIn K (.ref F.c) F.qual = true)
    (T : SupC K mg P C f cc cda F) (S : NdefX.NScope N ps [("__class__" : Str)] F.scope) (hN : N[0]? = some ("self" : Str)) (len : ∀ vs H Q E, sp vs H Q E → vs.length = ps.length)
    (hF : F.body = .Expr (.Call (.Attribute (.Call (.Name "super" p0) [] [] p1) "__init__" p2) [.Constant (.str msg) j p3] [] p4) p5 :: rest)
    (he : ∀ L, eval (.Call (.Attribute (.Call (.Name "super" p0) [] [] p1) "__init__" p2) [.Constant (.str msg) j p3] [] p4) (NdefX.envF F f L) = (do
      let ov ← attributeBase (.Call (.Name "super" p0) [] [] p1) "__init__" (NdefX.envF F f L) (eval (.Call (.Name "super" p0) [] [] p1) (NdefX.envF F f L))
      standAt p2.atName
      let (f', first) ← holding [ov] (getMethod ov "__init__" pl)
      callWith p4 f' first (backTo p4 (starEach [.Constant (.str msg) j p3] (NdefX.envF F f L))) []))
    (hi : ∀ L, interactive (NdefX.envF F f L) = false) (hs : ∀ L, swapsWith (.Call (.Attribute (.Call (.Name "super" p0) [] [] p1) "__init__" p2) [.Constant (.str msg) j p3] [] p4) none p5.line (NdefX.envF F f L) = pure false)
    (hb : bootBuiltins "super" = some (.type "super"))
    (hbody : ∀ (A : Around) (outer : List Env) (s : Shared) (H : Hp) (vs : List V) (Q : VK) (E : XK), Room k (A.deeper (NdefX.envF F f s.heap.objs.size)) → sp vs H Q E →
      ∃ a, vs[0]? = some (.ref a) ∧ H a = some (exo a C none) ∧ ∃ t, PSs (NdefX.ncx CX P w K mg base N F f A outer s H E) rest t ∧ t { nx := fun _ H' => Q .non H', rt := Q } (NdefX.startF N vs [none]) H) :
    FnOk P w K mg base CX (k + 1) f (PySem.W.fnX F.name F.qual F.params F.body F.scope F.cl dV kV doc pm an (.ref F.c) ctv) ps sp := by
  refine ⟨len, fun A outer s H args us vs Q E hr e0 hbd r hsp => ?_⟩
  have hl := len _ _ _ _ hsp
  have KX : K.In s.heap := e0.mod.kin.keeps fun b o e => (e0.bs b o e).1
  have lim : s.heap.NoLimit := e0.mod.nolimit.keeps fun b o e => (e0.bs b o e).1
  obtain ⟨cl, cld, csl, lcell⟩ := T.cell
  have bcell := e0.bs _ _ (e0.mod.kin _ _ lcell)
  have cells : NdefX.CellsAt F.cl [("__class__" : Str)] [none] s.heap H := by
    have look : ∀ y c, F.cl.lookup y = some c → y = ("__class__" : Str) ∧ c = cc := fun y c e => by
      rw [T.cl] at e
      by_cases hy : y = ("__class__" : Str)
      · subst hy
        have : some cc = some c := e
        exact ⟨rfl, (Option.some.inj this).symm⟩
      · have : (y == ("__class__" : Str)) = false := by simpa using hy
        simp [List.lookup, this] at e
    refine ⟨rfl, fun y c e => ?_, fun x y c h1 h2 => (look x c h1).1.trans (look y c h2).1.symm, fun i y hy => ?_⟩
    · obtain ⟨_, rfl⟩ := look y c e
      exact ⟨bcell.2, _, _, bcell.1, rfl⟩
    · have hy' : y = ("__class__" : Str) := by
        cases i with
        | zero => exact (Option.some.inj hy).symm
        | succ i => simp at hy
      subst hy'
      refine ⟨cc, by rw [T.cl]; rfl, fun v hv => ?_⟩
      cases i with
      | zero => cases hv
      | succ i => simp at hv
  refine PySem.ks_codeAny_call_defAt (fd := PySem.W.fnX F.name F.qual F.params F.body F.scope F.cl dV kV doc pm an (.ref F.c) ctv) (body := F.body) (binds := ps.zip us) hr.depth (KX _ _ lk) rfl lim (PySem.W.codeRec_of KX hcd) rfl hbd S.nocell (fun ⟨n, _⟩ hy => S.par n (List.of_mem_zip hy).1) (fun h₁ hns kp => ?_) S.co S.gen S.kind
  have I : Inv (NdefX.ncx CX P w K mg base N F f A outer s H E) [] (NdefX.startF N vs [none]) H { s with heap := h₁, toks := s.toks + (ps.zip us).length } := NdefX.inv_startN S hr.hd e0 hl r cells hns kp
  obtain ⟨a, hv0, ha, t, ht, hq⟩ := hbody A outer s H vs Q E (hr.deeper _) hsp
  show _root_.PySem.wpAt (model P w) (A.deeper (NdefX.envF F f s.heap.objs.size)) (.func F.body (NdefX.envF F f s.heap.objs.size)) (execs F.body (NdefX.envF F f s.heap.objs.size)) _ _ _
  have hσ : (NdefX.startF N vs [none])[0]? = some (some (.ref a)) := by
    unfold NdefX.startF
    rw [List.getElem?_append_left (by rw [List.length_map]; exact (List.getElem?_eq_some_iff.mp hv0).1), List.getElem?_map, hv0]
    rfl
  rw [show execs F.body (NdefX.envF F f s.heap.objs.size) = execs (.Expr (.Call (.Attribute (.Call (.Name "super" p0) [] [] p1) "__init__" p2) [.Constant (.str msg) j p3] [] p4) p5 :: rest) (NdefX.envF F f s.heap.objs.size) by rw [hF]]
  refine PySem.ks_wpAt_execs_cons (PySem.ks_wpAt_Expr_any (sup_eval (X := NdefX.ncx CX P w K mg base N F f A outer s H E) (F := F) T rfl I hN hσ ha hb (he _) fun s' J => ?_) (hi _) (hs _))
  refine _root_.PySem.wpAt_of_wpAny ?_
  refine wpAny_mono (ht.run [] s' _ H _ J hq) (fun fl s'' hs => ?_) fun e s'' hs => hs
  have fin : ∀ {σ' : L2.St} {H' : Hp} {v : V} {u : Value}, Inv (NdefX.ncx CX P w K mg base N F f A outer s H E) [] σ' H' s'' → L2.RelV v u → Q v H' → CE outer P w H s Q u s'' :=
    fun {σ' H' v u} J rv q => ⟨v, H', J.os, J.bare, J.base, J.hok, rv, q⟩
  cases fl with
  | ret u =>
    obtain ⟨v, σ', H', J, rv, q⟩ := hs
    exact fin J rv q
  | next =>
    obtain ⟨σ', H', J, q⟩ := hs
    exact fin (v := V.non) (u := Value.none) J rfl q
  | brk =>
    obtain ⟨_, _, _, q⟩ := hs
    exact False.elim q
  | cont =>
    obtain ⟨_, _, _, q⟩ := hs
    exact False.elim q
/-! ### the errors made -/
/-- an error without a field is let go of: the heap is as it was -/
theorem let_go {X : Cx} {pins : List (Addr × Obj)} {σ : L2.St} {H : Hp} {Q : XK} {hp hp2 h2 : Heap} {g1 g2 : Array GenState} {d1 d2 : Drawn} {t1 t2 : Nat} {os1 os2 : OsState} {a C : Addr} (T : Raises X (.ref C)) (I : Inv X pins σ H ⟨hp, g1, d1, t1, os1⟩)
    (ha : hp.objs.size ≤ a) (k : ∀ b o, hp.get? b = some o → hp2.get? b = some o) (un : Un (frs X.stack) [] (upd H a (exo a C none)) (upd H a (exo a C none)) hp2 h2) (hok : HOk X.prog X.w (upd H a (exo a C none)) h2) (ho : os2 = os1) (hb : AllBare g2)
    (q : Q (.ref C) none H) : MkP X pins σ Q (.ref a) ⟨h2, g2, d2, t2, os2⟩ := by
  obtain ⟨t0, hoe⟩ := exo_at hok upd_same
  have hn : H a = none := I.hok.fresh ha
  obtain ⟨G, in1, in2⟩ := restrict h2 fun b => decide (b ≠ a)
  have there : ∀ b, b ≠ a → G.get? b = h2.get? b := fun b nb => in1 b (decide_eq_true nb)
  have gone : G.get? a = none := in2 a (by simp)
  have old : ∀ {b : Addr} {o : Obj}, hp.get? b = some o → b ≠ a := fun {b o} z => Nat.ne_of_lt (Nat.lt_of_lt_of_le (Heap.lt_size z) ha)
  have up : ∀ {b : Addr}, b ≠ a → upd H a (exo a C none) b = H b := fun {b} nb => upd_ne nb
  have U : Un (frs X.stack) [] H H hp G := {
    keep := fun b o z n hf hx => by
      rw [there b (old z)]
      exact un.keep b o (k b o z) (by rw [up (old z)]; exact n) hf hx
    slot := fun b o z n hf hx => by
      rw [there b (old z)]
      exact un.slot b o (k b o z) (by rw [up (old z)]; exact n) hf hx
    free := fun b o z n hx => n
    there := fun b o z hx => by
      rw [there b (old z)]
      exact un.there b o (k b o z) hx
    tups := fun b xs z => z
    frzs := fun b o u z => z
    tbls := fun b ps z => ⟨#[], by rw [z]; simp⟩ }
  have hok3 : HOk X.prog X.w H G := fun b o z => by
    have nb : b ≠ a := ne_of_none z hn
    refine (hok b o (by rw [up nb]; exact z)).stay (fun c v hc y => ?_) (fun c hc => ?_) (fun c xs hc => ?_)
    · have nc : c ≠ a := by
        rcases hc with hc | hc
        · rw [hc]
          exact nb
        · exact fun e => by
            rw [e, upd_same] at hc
            exact exo_own (Option.some.inj hc)
      rw [there c nc]
      exact y
    · have nc : c ≠ a := fun e => by
        rw [e, upd_same] at hc
        exact exo_own (Option.some.inj hc)
      rw [up nc] at hc
      exact hc
    · have nc : c ≠ a := fun e => by
        rw [e, upd_same] at hc
        exact exo_tup (Option.some.inj hc)
      rw [up nc] at hc
      exact hc
  have J : Inv X pins σ H ⟨G, g2, d2, t2, os2⟩ := I.call' (ch := []) ho U hok3 hb (fun b z => absurd z (by simp))
  refine ⟨a, _, _, ⟨G, g2, d2, t2, os2⟩, H, .ref C, none, rfl, J, fun b o z => ?_, gone, hoe, ⟨rfl, rfl⟩, rfl, rfl, hn, rfl, hb, T, q⟩
  by_cases hba : b = a
  · rw [hba, gone] at z
    cases z
  · exact (there b hba).symm.trans z
section
variable {X : Cx} {CX : CXT} {x : Str} {C fI : Addr} {k : Nat} {fd : FuncData} {ps : List Str} {p pos : Pos}
/-- what an __init__ of such an error promises -/
def sp_err (C : Addr) : Sp := fun vs H Q _ => ∃ a, vs = [.ref a] ∧ H a = some (exo a C none) ∧ Q .non H
def sp_errF (C : Addr) (fld : Str) : Sp := fun vs H Q _ => ∃ a v, vs = [.ref a, v] ∧ H a = some (exo a C none) ∧ ∀ dx, H dx = none → dx ≠ a → Q .non (upd (upd H dx (exd dx [(fld, v)])) a (exo a C (some dx)))
/-- X() -/
theorem pmk_n (T : OexC X.K C) (iC : PySem.W.findIn X.K (.ref C) "__init__" = some (some (.ref fI))) (tI : PySem.W.typeIn X.K (.ref fI) = some (.type "function"))
    (F1 : FnOk X.prog X.w X.K X.mg X.base CX k fI fd ps (sp_err C)) (hr : Room (k + 1) X.A) (hb : Binds X.K fd ps []) (hx : Passes CX X (fun _ _ _ => False)) (hg : Gl X x) (hm : X.mg x = some (.ref C))
    (hdb : (x == ("__debug__" : Str)) = false := by decide) : PMk X (.Call (.Name x p) [] [] pos) (fun _ H Q => Q (.ref C) none H) := by
  intro pins s σ H Q I h
  obtain ⟨nm, q, N, bs, bm, sn, sub, ab, col, dd, k0, k1, k2, k3, k5, hC, hbm⟩ := T.cls
  refine wpAny_Call_Name_kw (ld_glob I hg hm ?_ hdb)
  refine PySem.W.callWith_K0 I.kIn T.kC ?_
  show wpAny _ _ (call (.ref C) []) _ _ _
  obtain ⟨hp, g, dr, tk, os⟩ := s
  have up1 : hp.objs.size ≤ hp.objs.size + 1 := Nat.le_succ _
  have kk : ∀ b o, hp.get? b = some o → ((hp.push (PySem.W.kdv_tup [])).push (PySem.HandSPX.excO C hp.objs.size)).get? b = some o := fun b o e => Heap.get?_push_of_some _ (Heap.get?_push_of_some _ e)
  have here : ((hp.push (PySem.W.kdv_tup [])).push (PySem.HandSPX.excO C hp.objs.size)).get? (hp.objs.size + 1) = some (PySem.HandSPX.excO C hp.objs.size) := by heap_get
  have I2 : Inv X pins σ (upd H (hp.objs.size + 1) (exo (hp.objs.size + 1) C none)) ⟨(hp.push (PySem.W.kdv_tup [])).push (PySem.HandSPX.excO C hp.objs.size), g, dr, tk, os⟩ :=
    I.laid (t' := tk) (a := hp.objs.size + 1) (o := exo (hp.objs.size + 1) C none) (h' := (hp.push (PySem.W.kdv_tup [])).push (PySem.HandSPX.excO C hp.objs.size)) kk up1 (exo_ok here)
  have want : sp_err C [V.ref (hp.objs.size + 1)] (upd H (hp.objs.size + 1) (exo (hp.objs.size + 1) C none)) (fun v H2 => v = .non ∧ H2 = upd H (hp.objs.size + 1) (exo (hp.objs.size + 1) C none)) (fun _ _ _ => False) := ⟨_, rfl, upd_same, rfl, rfl⟩
  have r2 : Vals [V.ref (hp.objs.size + 1)] [Value.ref (hp.objs.size + 1)] := .cons rfl .nil
  have hl : ([Value.ref (hp.objs.size + 1)] ++ []).length = ps.length := (F1.len _ _ _ _ want).symm ▸ rfl
  refine wpAny_call (PySem.HandSPX.call_own F.excBase_ValueError (fun Y => PySem.HandSPX.refsVE_contains Y bm hbm) (I.kIn _ _ hC) (PySem.W.looks_findIn I.kIn iC) (fun self => PySem.W.bind_fn I.kIn self tI) (Nat.zero_le _)
    (codeAny_mono (F1.run _ X.stack _ _ ⟨[Value.ref (hp.objs.size + 1)], []⟩ [Value.ref (hp.objs.size + 1)] _ _ (fun _ _ _ => False) (hr.make C [] []) (I2.env0.make C [] []) (hb _ [Value.ref (hp.objs.size + 1)] I2.kIn hl) r2 want) fun r s' hq => ?_))
  cases r with
  | error er => exact hx pins σ _ _ er s' I2 hq
  | ok fl =>
    cases fl with
    | ret u =>
      obtain ⟨v, H2, os2, bare2, un2, hok2, rv, ev, eH⟩ := hq
      subst ev eH
      obtain ⟨h2, g2, d2, t2, os'⟩ := s'
      exact ⟨rv, let_go (raises_own T.exC T.tyC) I up1 kk un2 hok2 os2 bare2 h⟩
    | next => exact False.elim hq
    | brk => exact False.elim hq
    | cont => exact False.elim hq
/-- X(e): what is left to be shown behind e (by pmk_oex) -/
theorem errF_go {fld : Str} {v : V} {H1 : Hp} {Q : XK} (h : ∀ d, H1 d = none → Q (.ref C) (some d) (upd H1 d (.xd [(fld, v)]))) : ([v] : List V).length ≤ 1000 ∧ ∀ a, H1 a = none → sp_errF C fld (V.ref a :: ([v] ++ [])) (upd H1 a (exo a C none))
    (fun v H2 => v = .non ∧ ∃ (d : Addr) (fs : List (Str × V)), H2 a = some (exo a C (some d)) ∧ H2 d = some (exd d fs) ∧ H1 d = none ∧ Q (.ref C) (some d) (upd (del H2 a) d (.xd fs))) (fun _ _ _ => False) := by
  refine ⟨by show 1 ≤ 1000; decide, fun a na => ⟨a, v, rfl, upd_same, fun dx nd ne => ⟨rfl, dx, [(fld, v)], upd_same, ?_, ?_, ?_⟩⟩⟩
  · rw [upd_ne ne, upd_same]
  · rw [upd_ne ne] at nd
    exact nd
  · rw [upd_ne ne] at nd
    have e : upd (del (upd (upd (upd H1 a (exo a C none)) dx (exd dx [(fld, v)])) a (exo a C (some dx))) a) dx (.xd [(fld, v)]) = upd H1 dx (.xd [(fld, v)]) := by
      funext b
      by_cases h1 : b = dx
      · rw [h1, upd_same, upd_same]
      · rw [upd_ne h1, upd_ne h1]
        by_cases h2 : b = a
        · rw [h2, del_same, na]
        · rw [del_ne h2, upd_ne h2, upd_ne h1, upd_ne h2]
    rw [e]
    exact h dx nd
end
/-! ### an error class, its facts -/
def NFo (qual : Str) (st : Stmt) (cc cda : Addr) : NdefX.NF := ⟨"__init__", qual, defArgs st, defBody st, defScope st, [(("__class__" : Str), cc)], cda⟩
structure ErrC (P : Program) (K : PySem.W.Frag) (mg : Str → Option Value) (nm qual : Str) (st : Stmt) (ps : List Str) (C f : Addr) (fd : FuncData) : Prop where
  g : mg nm = some (.ref C)
  all : ∃ (cc cda : Addr) (oc : Value) (od : Option Addr) (dV kV doc pm : Value) (an : Option Addr) (ctv : Value) (osl : Array (Option Value)), fd = PySem.W.fnX "__init__" qual (defArgs st) (defBody st) (defScope st) [(("__class__" : Str), cc)] dV kV doc pm an (.ref cda) ctv ∧
    K.lookup f = some ⟨oc, od, .func fd, osl⟩ ∧ PySem.W.codeIn K (.ref cda) qual = true ∧ SupC K mg P C f cc cda (NFo qual st cc cda)
  ex : OexC K C
  ic : PySem.W.findIn K (.ref C) "__init__" = some (some (.ref f))
  ti : PySem.W.typeIn K (.ref f) = some (.type "function")
  bi : Binds K fd ps []
  xc : ExcC K C
theorem err_mk {P : Program} {K : PySem.W.Frag} {mg : Str → Option Value} {nm qual : Str} {st : Stmt} {ps : List Str} {C f cc cda N : Addr} {n0 q0 : Str} {bs bm sub : List Value} {sn : List Str} {ab : Bool} {col : Option Bool} {dd : Option Addr} {k0 k1 k2 k3 k5 : Option Value}
    {cl : Value} {cld : Option Addr} {csl : Array (Option Value)} {ccl : Value} {cdd : Option Addr} {vs : Array Value} {ccs : Array (Option Value)} {file : Str} {tf : Tok} {oc : Value} {od : Option Addr} {dV kV doc pm : Value} {an : Option Addr} {ctv : Value} {osl : Array (Option Value)}
    (g : mg nm = some (.ref C)) (lc : K.lookup C = some (excClassObj n0 q0 C N bs bm true sn sub ab col dd k0 k1 k2 k3 k5 "ValueError.__new__")) (rv : PySem.HandSPX.refsVE bm = true) (sa : PySem.W.findIn K (.ref C) "__setattr__" = some (some (.builtin "object.__setattr__")))
    (ex : PySem.W.subIn K (.ref C) (.type "BaseException") = some true) (ty : PySem.W.typeIn K (.ref C) = some (.type "type")) (kp : PySem.W.keepIn K (.ref C) = true) (op : PySem.W.nsIn K cStatics "thirdparty.any" = some none)
    (su : PySem.W.ks_superIn K C C "__init__" = some (some (.builtin "ValueError.__init__"))) (sv : PySem.W.subIn K (.ref C) (.type "ValueError") = some true) (mr : PySem.W.mroIn K C (.ref C) = some true)
    (ce : K.lookup cc = some ⟨cl, cld, .cell (some (.ref C)), csl⟩) (co : K.lookup cda = some ⟨ccl, cdd, .fields vs, ccs⟩) (vf : vs[2]? = some (.str file tf)) (ff : ((P.main.file : Str) == file) = true)
    (lf : K.lookup f = some ⟨oc, od, .func (PySem.W.fnX "__init__" qual (defArgs st) (defBody st) (defScope st) [(("__class__" : Str), cc)] dV kV doc pm an (.ref cda) ctv), osl⟩) (cd : PySem.W.codeIn K (.ref cda) qual = true)
    (a : PySem.W.findIn K (.ref C) "__init__" = some (some (.ref f))) (t : PySem.W.typeIn K (.ref f) = some (.type "function")) (tp : (P.main.scope.names.lookup ("super" : Str)).isSome = false) (ns : mg "super" = none)
    (kd : (defScope st).kind = .function) (ks : (defScope st).names.lookup ("super" : Str) = some .globalImplicit) (kc : (defScope st).names.lookup ("__class__" : Str) = some .free) (ksf : (defScope st).names.lookup ("self" : Str) = some .local)
    (fst : ∃ ar : Arg, ((defArgs st).posonlyargs ++ (defArgs st).args).head? = some ar ∧ ar.arg = ("self" : Str))
    (bi : ∀ (us : List Value), us.length = ps.length → bindArgs (PySem.W.fnX "__init__" qual (defArgs st) (defBody st) (defScope st) [(("__class__" : Str), cc)] dV kV doc pm an (.ref cda) ctv) ⟨us, []⟩ = pure (ps.zip us))
    (ga : PySem.W.findIn K (.ref C) "__getattribute__" = some (some (.builtin "BaseException.__getattribute__"))) (gk : PySem.W.findIn K (.ref C) "__getattr__" = some none) (hd : PySem.W.hasDictIn K C = true) (ha : PySem.W.findIn K (.ref C) "__class__" = some (some (.builtin "object.__class__")))
    (hn : PySem.W.specialIn K (.builtin "object.__class__") "__get__" = some (some (.builtin "getset_descriptor.__get__"))) (ht : PySem.W.takesIn K (.builtin "object.__class__") = some true) (hm : PySem.W.mroIn K C (.type "object") = some true) :
    ErrC P K mg nm qual st ps C f (PySem.W.fnX "__init__" qual (defArgs st) (defBody st) (defScope st) [(("__class__" : Str), cc)] dV kV doc pm an (.ref cda) ctv) := by
  have oex : OexC K C := ⟨⟨_, _, _, _, _, _, _, _, _, _, _, _, _, _, _, lc, rv⟩, sa, ex, ty, kp⟩
  exact ⟨g, ⟨cc, cda, oc, od, dV, kV, doc, pm, an, ctv, osl, rfl, lf, cd, ⟨oex, op, su, sv, mr, ⟨_, _, _, ce⟩, ⟨_, _, _, _, _, _, co, vf, ff⟩, ⟨_, _, _, _, _, _, _, _, _, lf⟩, tp, ns, rfl, rfl, kd, ks, kc, ksf, fst⟩⟩, oex, a, t, .all bi, ⟨ga, gk, ex, hd, ha, hn, ht, hm⟩⟩
/-- isinstance(e, c) in a suite, e of a class without fields -/
def rIsG (K : PySem.W.Frag) (a : Addr) (cls : Value) (d : Option Addr) : List V → Hp → VK → Prop := fun xs H Q => ∃ D, cls = .ref D ∧ d = none ∧ ExcC K D ∧ rIsE K D a xs H Q
theorem call_isG {X : Cx} {a : Addr} {oe : Obj} {cls : Value} {d : Option Addr} {pn : List (Addr × Obj)} (hz : Zc cls d oe) (hf : ∃ vs, oe.data = .fields vs) : CallR (X.suite a ((a, oe) :: pn)) (.builtin "isinstance") (rIsG X.K a cls d) := by
  rintro pins s σ H xs us Q I r ⟨D, rfl, rfl, C, h⟩
  exact call_isE C hz hf pins s σ H xs us Q I r h
end
/-! ### things of any kind -/
structure KitC (K : PySem.W.Frag) (C : Addr) : Prop where
  cl : Cls K C
  ty : InsT K C
  i : PySem.W.kitOne K (.ref C) (.type "int") = some false
  b : PySem.W.kitOne K (.ref C) (.type "bool") = some false
  t : PySem.W.kitOne K (.ref C) (.type "tuple") = some false
  l : PySem.W.kitOne K (.ref C) (.type "list") = some false
/-- a thing that is looked at so deep; its address is not z -/
inductive Th (C z : Addr) (H : Hp) : Nat → V → Prop
  | int (n : Nat) (i : Int) : Th C z H n (.int i)
  | bl (n : Nat) (b : Bool) : Th C z H n (.bl b)
  | non (n : Nat) : Th C z H n .non
  | str (n : Nat) (x : Str) : Th C z H n (.str x)
  | lst (n : Nat) (a : Addr) (xs : List V) : a ≠ z → H a = some (.lst xs) → Th C z H n (.ref a)
  | dK (n : Nat) (a : Addr) (xs : List (Key × V)) : a ≠ z → H a = some (.dK xs) → Th C z H n (.ref a)
  | ins (n : Nat) (a dx : Addr) (fs : List (Str × V)) : a ≠ z → H a = some (.ins C dx fs) → Th C z H n (.ref a)
  | tup0 (a : Addr) (xs : List V) : a ≠ z → H a = some (.tup xs) → Th C z H 0 (.ref a)
  | tup (n : Nat) (a : Addr) (xs : List V) : a ≠ z → H a = some (.tup xs) → xs.length ≤ 1000 → (∀ x ∈ xs, Th C z H n x) → Th C z H (n + 1) (.ref a)
section
variable {C z : Addr} {H H' : Hp} {K : PySem.W.Frag}
theorem Th.keep {n : Nat} {v : V} (h : Th C z H n v) (k : ∀ a o, a ≠ z → H a = some o → H' a = some o) : Th C z H' n v := by
  induction h with
  | int n i => exact .int n i
  | bl n b => exact .bl n b
  | non n => exact .non n
  | str n x => exact .str n x
  | lst n a xs h1 h2 => exact .lst n a xs h1 (k _ _ h1 h2)
  | dK n a xs h1 h2 => exact .dK n a xs h1 (k _ _ h1 h2)
  | ins n a dx fs h1 h2 => exact .ins n a dx fs h1 (k _ _ h1 h2)
  | tup0 a xs h1 h2 => exact .tup0 a xs h1 (k _ _ h1 h2)
  | tup n a xs h1 h2 h3 _ ih => exact .tup n a xs h1 (k _ _ h1 h2) h3 ih
theorem Th.same {n : Nat} {v : V} (h : Th C z H n v) (s : Same H H') : Th C z H' n v := h.keep fun a o _ e => s a o e
theorem Th.mv {τ : Tp} {n : Nat} {v : V} (h : Th C τ.t H n v) (m : Mv τ H H') : Th C τ.t H' n v := h.keep m.keep
theorem Th.down {n : Nat} {v : V} (h : Th C z H (n + 1) v) : Th C z H n v := by
  generalize e : n + 1 = m at h
  induction h generalizing n with
  | int _ i => exact .int n i
  | bl _ b => exact .bl n b
  | non _ => exact .non n
  | str _ x => exact .str n x
  | lst _ a xs h1 h2 => exact .lst n a xs h1 h2
  | dK _ a xs h1 h2 => exact .dK n a xs h1 h2
  | ins _ a dx fs h1 h2 => exact .ins n a dx fs h1 h2
  | tup0 a xs h1 h2 => cases e
  | tup m a xs h1 h2 h3 h4 ih =>
    obtain rfl : n = m := by omega
    cases n with
    | zero => exact .tup0 a xs h1 h2
    | succ n => exact .tup n a xs h1 h2 h3 fun x hx => ih x hx rfl
theorem Th.intK (kc : KitC K C) {n : Nat} {v : V} (h : Th C z H n v) : IntK K H v := by
  cases h with
  | int _ i => exact .int i
  | bl _ b => exact .bl b
  | non _ => exact .non
  | str _ x => exact .str x
  | lst _ a xs h1 h2 => exact .lst h2
  | dK _ a xs h1 h2 => exact .dK h2
  | ins _ a dx fs h1 h2 => exact ⟨_, false, false, .base (.ins h2 kc.cl kc.ty.ha kc.ty.hn kc.ty.htk kc.ty.hm), kc.i, kc.b, rfl⟩
  | tup0 a xs h1 h2 => exact .tup h2
  | tup m a xs h1 h2 h3 h4 => exact .tup h2
theorem Th.ty (kc : KitC K C) {n : Nat} {v : V} (h : Th C z H (n + 1) v) : ∃ (t : Value) (bt : Bool), TyX K H v t ∧ PySem.W.kitOne K t (.type "tuple") = some bt ∧
    ((bt = false ∧ ∀ a xs, v = .ref a → H a ≠ some (.tup xs)) ∨ ∃ a xs, v = .ref a ∧ H a = some (.tup xs) ∧ bt = true ∧ xs.length ≤ 1000 ∧ ∀ x ∈ xs, Th C z H n x) := by
  cases h with
  | int _ i => exact ⟨_, false, .base (.int i), kit_ty (by decide +kernel), .inl ⟨rfl, fun a xs e => by cases e⟩⟩
  | bl _ b => exact ⟨_, false, .base (.bl b), kit_ty (by decide +kernel), .inl ⟨rfl, fun a xs e => by cases e⟩⟩
  | non _ => exact ⟨_, false, .base .non, kit_ty (by decide +kernel), .inl ⟨rfl, fun a xs e => by cases e⟩⟩
  | str _ x => exact ⟨_, false, .base (.str x), kit_ty (by decide +kernel), .inl ⟨rfl, fun a xs e => by cases e⟩⟩
  | lst _ a xs h1 h2 => exact ⟨_, false, .base (.lst h2), kit_ty (by decide +kernel), .inl ⟨rfl, fun a xs e => by cases e; rw [h2]; intro z; cases z⟩⟩
  | dK _ a xs h1 h2 => exact ⟨_, false, .base (.dK h2), kit_ty (by decide +kernel), .inl ⟨rfl, fun a xs e => by cases e; rw [h2]; intro z; cases z⟩⟩
  | ins _ a dx fs h1 h2 => exact ⟨_, false, .base (.ins h2 kc.cl kc.ty.ha kc.ty.hn kc.ty.htk kc.ty.hm), kc.t, .inl ⟨rfl, fun a xs e => by cases e; rw [h2]; intro z; cases z⟩⟩
  | tup m a xs h1 h2 h3 h4 => exact ⟨_, true, .base (.tup h2), kit_ty (by decide +kernel), .inr ⟨a, xs, rfl, h2, rfl, h3, h4⟩⟩
end
/-! ### list.count(a flag), a call of an item of a list of defs -/
section
open PySem.Spec PyProof.Rows
variable {X : Cx}
def rCntB (K : PySem.W.Frag) : V → List V → Hp → VK → Prop := fun x xs H Q => ∃ (p : Addr) (bs : List Bool) (b : Bool), x = .ref p ∧ xs = [.bl b] ∧ SqL K H p (bs.map V.bl) ∧ bs.length ≤ 1000 ∧ Q (.int (bs.count b : Nat)) H
theorem dp_bools {K : PySem.W.Frag} {H : Hp} : ∀ bs : List Bool, DpAll K H (bs.map V.bl) (bs.map PyData.bool)
  | [] => .nil
  | b :: r => .cons (.bl b) (dp_bools r)
theorem mt_cntB (hu : X.A.units + 64 < cLine) : MtR X "list.count" (rCntB X.K) := by
  intro pins s σ H x xs v us Q I rx rxs h
  obtain ⟨p, bs, b, rfl, rfl, hs, hl, q⟩ := h
  cases rx
  obtain ⟨u, rfl, ru⟩ := rxs.one
  obtain ⟨its, rv, hl, hz⟩ := I.list hs
  obtain ⟨as, ra⟩ := Dp.readsAll I (bs.map PyData.bool) _ its (dp_bools bs) rv
  obtain ⟨cs, rb⟩ := Dp.reads I (.bool b) (.bl b) u (.bl b) ru
  refine PySem.W.count_list_datum (xs := bs) (x := b) hl.isList ⟨as, ra⟩ ⟨cs, rb⟩ (by show X.A.units + 1 + 0 < cLine; omega) ⟨.int (bs.count b : Nat), H, I.tok _, ⟨s.toks, ?_⟩, q⟩
  have e : (bs.countP fun y => decide (y = b)) = bs.count b := by
    unfold List.count
    congr 1
  rw [e]
theorem pe_bmK {K : PySem.W.Frag} {o e : Expr} {es : List Expr} {to : TE} {t : TA} {name : Str} {apos cpos : Pos} {T id : String} {r : V → List V → Hp → VK → Prop} (hK : X.K = K) (pa : PlainAttrs T) (slot : Slot T name id) (hty : typeOf (.builtin id) = pure (.type "method_descriptor")) (hm : MtR X id r) (ho : PE X o to) (ha : PA X (e :: es) t)
    (hbase : attributeBase o name X.env (eval o X.env) = eval o X.env := by rfl)
    (hfew : ((backTo cpos (starEach (e :: es) X.env)).all (fun x => !x.1) && (backToKw cpos (keywordEach [] X.env)).all (fun x => x.1.isSome)
      && decide ((e :: es).length + ([] : List Keyword).length + (if ([] : List Keyword).isEmpty then 0 else 1) < 30)) = true := by rfl)
    (hline : (apos.endLine == cpos.line) = true := by rfl) (hs : starEach (e :: es) X.env = (false, eval e X.env) :: starEach es X.env := by rfl) (hplain : (backTo cpos (starEach es X.env)).any (·.1) = false := by rfl) :
    PE X (.Call (.Attribute o name apos) (e :: es) [] cpos) (tBM K T r to t) := by
  subst hK
  exact pe_bm pa slot hty hm ho ha hbase hfew hline hs hplain
def tCallE (S : Addr → Sp → Prop) (E : L2.St → XK) (tf : TE) (t : TA) : TE := fun σ H Q => tf σ H fun y H1 => ∃ f sp, y = .ref f ∧ S f sp ∧ t σ H1 fun vs H2 => sp vs H2 Q (E σ)
theorem pe_callE {CX : CXT} {S : Addr → Sp → Prop} {E : L2.St → XK} {tf : TE} {t : TA} {fe e : Expr} {es : List Expr} {pos : Pos}
    (A : ∀ f sp, S f sp → ∃ (k : Nat) (fd : FuncData) (ps : List Str), FnOk X.prog X.w X.K X.mg X.base CX k f fd ps sp ∧ Room k X.A ∧ PySem.W.keepIn X.K (.ref f) = true ∧ Binds X.K fd ps []) (hx : ∀ σ, PassesAt CX X σ (E σ)) (hf : PE X fe tf) (ha : PA X (e :: es) t)
    (ht : eval (.Call fe (e :: es) [] pos) X.env = (do callWith pos (← eval fe X.env) [] (backTo pos (starEach (e :: es) X.env)) (backToKw pos (keywordEach [] X.env))) := by rfl)
    (he : starEach (e :: es) X.env = (false, eval e X.env) :: starEach es X.env := by rfl) (hpl : (backTo pos (starEach es X.env)).any (·.1) = false := by rfl) : PE X (.Call fe (e :: es) [] pos) (tCallE S E tf t) := by
  refine ⟨fun pins s σ H Q I h => ?_⟩
  refine Call_ (thn (hf.run pins s σ H _ I h) fun u s1 ⟨y, H1, I1, ry, f, sp, ey, hS, q⟩ => ?_) ht
  subst ey
  obtain rfl : u = Value.ref f := ry
  obtain ⟨k, fd, ps, F, hr, hk, hb⟩ := A f sp hS
  refine PySem.W.callWith_K (h₀ := X.base) I1.ok.mod.kin hk (thn (ha.run pos pins s1 σ H1 _ I1 q) fun us s2 ⟨vs, H2, I2, r, q2⟩ => ⟨I2.kIn, ?_⟩) he hpl
  exact run_fnS F hr hb (hx σ) I2 r q2
end
/-! ### several except clauses, some with a name -/
section
open PySem.Spec PyProof.Rows
/-- what the clauses wish of an exception: its class, the slot of its name if it has one, the suite -/
def wCl (K : PySem.W.Frag) (Wout : WX) (D : Ends) : List (Value × Option Nat × (Addr → Value → Option Addr → TS)) → WX
  | [] => Wout
  | (c, none, ts) :: r => fun cls d σ H => ∃ b, PySem.W.exmOne K cls c = some b ∧ (b = true → ∀ a, H a = none → ts a cls d D σ H) ∧ (b = false → wCl K Wout D r cls d σ H)
  | (c, some i, ts) :: r => fun cls d σ H => ∃ b, PySem.W.exmOne K cls c = some b ∧
      (b = true → ∀ a, H a = none → ts a cls d { nx := fun σ' H' => D.nx (σ'.set i none) H', rt := D.rt, bk := fun σ' H' => D.bk (σ'.set i none) H', ct := fun σ' H' => D.ct (σ'.set i none) H' } (σ.set i (some (.ref a))) H) ∧ (b = false → wCl K Wout D r cls d σ H)
/-- a suite, whatever exception it is given -/
def SuOk (X : Cx) (st : List Stmt) (ts : Addr → Value → Option Addr → TS) : Prop := ∀ (a : Addr) (oe : Obj) (cls : Value) (d : Option Addr) (pn : List (Addr × Obj)), Zc cls d oe → (∃ vs, oe.data = .fields vs) → PSs (X.suite a ((a, oe) :: pn)) st (ts a cls d)
inductive ClOk (X : Cx) : List ExceptHandler → List (Value × Option Nat × (Addr → Value → Option Addr → TS)) → Prop
  | nil : ClOk X [] []
  | bare {x : Str} {c : Value} {ts : Addr → Value → Option Addr → TS} {b : Stmt} {suite : List Stmt} {np pos' : Pos} {hds : List ExceptHandler} {l : List (Value × Option Nat × (Addr → Value → Option Addr → TS))} (hc : Names X x c) (hsu : SuOk X (b :: suite) ts) (r : ClOk X hds l) :
      ClOk X (.ExceptHandler (some (.Name x np)) none (b :: suite) pos' :: hds) ((c, none, ts) :: l)
  | «as» {x n : Str} {c : Value} {i : Nat} {ts : Addr → Value → Option Addr → TS} {b : Stmt} {suite : List Stmt} {np pos' : Pos} {hds : List ExceptHandler} {l : List (Value × Option Nat × (Addr → Value → Option Addr → TS))} (hN : X.N.Nodup) (hi : X.N[i]? = some n) (hln : X.env.kindOf n = some .local)
      (hc : Names X x c) (hsu : SuOk X (b :: suite) ts) (r : ClOk X hds l) : ClOk X (.ExceptHandler (some (.Name x np)) (some n) (b :: suite) pos' :: hds) ((c, some i, ts) :: l)
section
variable {X : Cx} {body : List Stmt} {h₀ : ExceptHandler} {hds : List ExceptHandler} {l : List (Value × Option Nat × (Addr → Value → Option Addr → TS))} {pos : Pos} {tb : WX → TS} {Wout : WX}
/-- the clauses of a landed exception, one after the other -/
theorem cl_go {a : Addr} {B : Heap} {sI s' : Shared} {pins : List (Addr × Obj)} {σ : L2.St} {H : Hp} {cls : Value} {d : Option Addr} {h3 : Heap} {D : Ends} (ok : X.Ok) (hs : X.stack = X.env :: X.outer) (hf : X.env.frame = some X.env.locals) (tk : Takes X Wout)
    (J : Inv X pins σ H sI) (nb : ∀ b o, sI.heap.get? b = some o → b ∉ frs X.stack → B.get? b = some o) (up : sI.heap.UpToSlots s'.heap) (na : H a = none) (os : s'.os = sI.os) (ag : AllBare s'.gens)
    (fl : HandSPX.FlyingZ B (X.env :: X.outer) a (Zc cls d) h3) (up3 : s'.heap.UpToSlots h3) : ∀ {hds : List ExceptHandler} {l : List (Value × Option Nat × (Addr → Value → Option Addr → TS))}, ClOk X hds l → wCl X.K Wout D l cls d σ H →
      wpAny (model X.prog X.w) X.A (handleBy (.ref a) X.env hds) (SP X pins D) X.xe { s' with heap := h3 } := by
  have J3 : Inv X pins σ H { s' with heap := h3 } := J.landed nb fl.1 (up.trans up3) os ag
  obtain ⟨oe3, vs3, he3, hz3, hd3⟩ := fl.there
  have nfr : a ∉ frs (X.env :: X.outer) := fun hm => by
    obtain ⟨_, o', e', hnf⟩ := fl.2.2.1.mem hm
    rw [he3] at e'
    cases e'
    exact hnf _ hd3
  have nL : a ≠ X.env.locals := fun z => nfr (List.mem_filterMap.mpr ⟨X.env, List.mem_cons_self, by rw [hf, z]⟩)
  have nF : a ∉ X.fs := fun hm => by
    obtain ⟨e, he, q⟩ := List.mem_filterMap.mp hm
    exact nfr (List.mem_filterMap.mpr ⟨e, List.mem_cons_of_mem _ he, q⟩)
  have S3 := J3.suite he3 hd3 na nL nF
  have LT : PySem.W.Looks (model X.prog X.w) h3 (typeOf (.ref a)) cls := fun A Q E s k q => wpAny_typeOf_ref (k _ _ he3) (by rw [hz3.1]; exact q)
  have test : ∀ {x : Str} {c : Value} {np : Pos} {Q : Value → Shared → Prop} {E : Value → Shared → Prop}, Names X x c → Q c { s' with heap := h3 } → wpAny (model X.prog X.w) (X.A.mark (some (.ref a))) (eval (.Name x np) X.env) Q E { s' with heap := h3 } := fun {x c np Q E} hc q => by
    obtain ⟨hg, hdbg, hm | ⟨hm, hv, hnn⟩⟩ := hc
    · exact ld_glob (X := X.suite a ((a, oe3) :: (X.pn ++ pins))) S3 hg hm q hdbg
    · exact ld_blt (X := X.suite a ((a, oe3) :: (X.pn ++ pins))) S3 hg hm hv q hnn hdbg
  intro hds l hk
  induction hk with
  | nil =>
    intro w
    refine wpAny_handleBy_nil ?_
    obtain ⟨_, _, _, oe, vs, T, oT, ts', he, hz, hd, h1, hr⟩ := id fl
    unfold PySem.passOn
    refine wpAny_bind (wpAny_field he hd h1 ?_)
    rw [if_neg (show ¬ ((Value.ref T == Value.none) = true) from by simp)]
    have fin : wpAny (model X.prog X.w) X.A (setFlight (.ref a) X.env.frame) (fun _ s4 => wpAny (model X.prog X.w) X.A (throw (.ref a) : Sem Flow) (SP X pins D) X.xe s4) X.xe { s' with heap := h3 } := by
      rw [hf]
      exact HandSPX.setFlight_upZ fl fun h4 hh4 up4 => wpAny_throw (tk _ _ ⟨a, B, sI, pins, σ, H, cls, d, rfl, J, nb, (up.trans up3).trans up4, .inr (.inr (by rw [hs]; exact hh4)), na, os, ag, w⟩)
    first
      | exact wpAny_bind (wpAny_pure (wpAny_bind fin))
      | exact wpAny_bind fin
  | bare hc hsu r ih =>
    rintro ⟨b, hb1, hyes, hno⟩
    refine wpAny_handleBy_cons (codeAny_handlers_test (test hc ((PySem.W.exm_one (M := model X.prog X.w) J3.kIn LT hb1).here ?_))) (by intro q; cases q)
    cases b with
    | false => exact ih (hno rfl)
    | true =>
      refine codeAny_handlers_suite (HandSPX.lands_againZ fl fun h4 fl4 up4 => ?_)
      obtain ⟨oe4, vs4, he4, hz4, hd4⟩ := fl4.there
      have S4 := (J.landed (s' := { s' with heap := h4 }) nb fl4.1 ((up.trans up3).trans up4) os ag).suite he4 hd4 na nL nF
      refine wpAny_mono ((hsu a oe4 cls d (X.pn ++ pins) hz4 ⟨_, hd4⟩).run [] _ _ H _ S4 (hyes rfl a na)) (fun f s6 hsp => ?_) (fun _ _ z => False.elim z)
      cases f with
      | ret u =>
        obtain ⟨v6, σ6, H6, S6, r6, q6⟩ := hsp
        exact ⟨_, _, _, S6.unsuite ok, r6, q6⟩
      | _ =>
        obtain ⟨σ6, H6, S6, q6⟩ := hsp
        exact ⟨_, _, S6.unsuite ok, q6⟩
  | «as» hN hi hln hc hsu r ih =>
    rintro ⟨b, hb1, hyes, hno⟩
    refine wpAny_handleBy_cons (codeAny_handlers_test (test hc ((PySem.W.exm_one (M := model X.prog X.w) J3.kIn LT hb1).here ?_))) (by intro q; cases q)
    cases b with
    | false => exact ih (hno rfl)
    | true =>
      refine codeAny_handlers_suite_as (HandSPX.lands_againZ fl fun h4 fl4 up4 => ?_)
      obtain ⟨oe4, vs4, he4, hz4, hd4⟩ := fl4.there
      have S4 := (J.landed (s' := { s' with heap := h4 }) nb fl4.1 ((up.trans up3).trans up4) os ag).suite he4 hd4 na nL nF
      refine store_ok (X := X.suite a ((a, oe4) :: (X.pn ++ pins))) (v := .ref a) S4 hN hi (.inl hln) rfl (fun s5 S5 => ?_) (.inr hln)
      refine wpAny_mono ((hsu a oe4 cls d (X.pn ++ pins) hz4 ⟨_, hd4⟩).run [] s5 _ H _ S5 (hyes rfl a na)) (fun f s6 hsp => ?_) (fun _ _ z => False.elim z)
      cases f with
      | ret u =>
        obtain ⟨v6, σ6, H6, S6, r6, q6⟩ := hsp
        exact gone_ok (S6.unsuite ok) hN hi hln fun s7 J7 => ⟨_, _, _, J7, r6, q6⟩
      | _ =>
        obtain ⟨σ6, H6, S6, q6⟩ := hsp
        exact gone_ok (S6.unsuite ok) hN hi hln fun s7 J7 => ⟨_, _, J7, q6⟩
/-- try: body; except X as n: ..; except Y: .. -/
theorem ps_tries (hs : X.stack = X.env :: X.outer) (hf : X.env.frame = some X.env.locals) (tk : Takes X Wout)
    (hb : ∀ (W : WX) (pn : List (Addr × Obj)) (xe : Value → Shared → Prop), Takes (X.tr pn xe) W → PassesOwn (model X.prog X.w) X.A X.env xe → PSs (X.tr pn xe) body (tb W))
    (hh : ClOk X (h₀ :: hds) l) : PS X (.Try body (h₀ :: hds) [] [] pos) (fun D σ H => tb (wCl X.K Wout D l) D σ H) := by
  refine ⟨fun pins s σ H D I h => ?_⟩
  have ok := I.ok
  have hfr : X.A.frames = some (X.env :: X.outer) := by rw [ok.frames, hs]
  refine wpAny_Try_except (wpAny_mono ((hb (wCl X.K Wout D l) (X.pn ++ pins) (fun e s₁ => wpAny (model X.prog X.w) X.A (noteFrame e X.env) (fun _ s₂ => wpAny (model X.prog X.w) X.A (setFlight e none) (fun _ s₃ =>
    wpAny (model X.prog X.w) X.A (handleBy e X.env (h₀ :: hds)) (SP X pins D) X.xe s₃) X.xe s₂) X.xe s₁) (fun u s' xx => ?_) PassesOwn.looking).run [] s σ H D (I.toTry _) h) (fun f s1 hsp => ?_) (fun e s1 he => he))
  · obtain ⟨a, B, sI, pins', σ', H', cls, d, rfl, J', nb, up, sky, na, os, ag, w⟩ := xx
    show wpAny (model X.prog X.w) X.A (noteFrame (.ref a) X.env) _ _ _
    exact Sky.land Zc.steady hfr hf (by rw [← hs]; exact sky) fun h3 fl3 up3 => cl_go ok hs hf tk (J'.ofTry ok) nb up na os ag fl3 up3 hh w
  · cases f with
    | ret u =>
      obtain ⟨v, σ', H', J', r, q⟩ := hsp
      exact ⟨v, σ', H', J'.ofTry ok, r, q⟩
    | next =>
      obtain ⟨σ', H', J', q⟩ := hsp
      exact wpAny_execs_nil ⟨σ', H', J'.ofTry ok, q⟩
    | _ =>
      obtain ⟨σ', H', J', q⟩ := hsp
      exact ⟨σ', H', J'.ofTry ok, q⟩
end
end
theorem lay_bools : ∀ bs : List Bool, PyData.canLayAll0 (bs.map PyData.bool) = true
  | [] => rfl
  | b :: r => by
    show (PyData.canLay0 (.bool b) && PyData.canLayAll0 (r.map PyData.bool)) = true
    rw [lay_bools r]
    rfl
theorem deep_bools : ∀ bs : List Bool, PyData.depthAll (bs.map PyData.bool) ≤ 1
  | [] => by simp [PyData.depthAll]
  | b :: r => by
    have ih := deep_bools r
    simp only [List.map_cons, PyData.depthAll, PyData.depth]
    omega
theorem shaped_listB (bs : List Bool) : SeqAt.shaped (.list (bs.map PyData.bool)) = true := by
  have h := deep_bools bs
  have h2 : PyData.depth (.list (bs.map PyData.bool)) ≤ 64 := by
    simp only [PyData.depth]
    omega
  exact Bool.and_eq_true_iff.mpr ⟨lay_bools bs, decide_eq_true h2⟩
theorem refl_listB (bs : List Bool) : PyData.eqv (.list (bs.map PyData.bool)) (.list (bs.map PyData.bool)) = true := SeqAt.eqv_refl _ (lay_bools bs)
/-- the items that a filter lets, each with something of its own -/
theorem lc_rangeFR {lo : Int} {n : Nat} {g : TG} {tt : TT} {te : TE} {vs : List Nat} {σ : St} {H1 : Hp} {D : Addr} {Qd : Hp → Prop} (f : Nat → Bool) (R : Nat → V → Hp → Prop) (st : ∀ i v H H', R i v H → TK H H' → R i v H') (nD : H1 D = none) (hn : n ≤ 100000)
    (hs : ∀ (i : Nat) (H : Hp) (N : V → Hp → Prop) (M : Hp → Prop), i < n → Same H1 H → (f i = true → ∀ v H4, Same H H4 → R i v H4 → N v H4) → (f i = false → ∀ H4, Same H H4 → M H4) → g (.int (lo + (i : Int))) (wipe σ vs) H fun σ2 H2 => wipe σ2 vs = wipe σ vs ∧ tt σ2 H2 fun b H3 => if b = true then te σ2 H3 N else M H3)
    (hd : ∀ H acc, Same H1 H → H D = some (.lst acc) → acc.length = ((List.range n).filter f).length → (∀ (j : Nat) v, acc[j]? = some v → ∃ p, ((List.range n).filter f)[j]? = some p ∧ R p v H) → Qd H) : ∃ W : Nat → Nat → Hp → Prop, (∃ m, W 0 m (upd H1 D (.lst []))) ∧ ∀ i m H, W i m H →
      ((Itr lo n).stop i H ∧ Qd H) ∨ ((Itr lo n).go i H ∧ ∃ Nx : Hp → Prop, (∀ H', Nx H' → ∃ m', m' < m ∧ W (i + 1) m' H') ∧ ∀ x H', (Itr lo n).yld i H x H' → g x (wipe σ vs) H' fun σ2 H2 => wipe σ2 vs = wipe σ vs ∧ tt σ2 H2 fun b H3 =>
        if b = true then te σ2 H3 fun y H4 => ∃ acc, H4 D = some (.lst acc) ∧ acc.length < sizeLine ∧ Nx (upd H4 D (.lst (acc ++ [y]))) else Nx H3) := by
  refine lc_range (lo := lo) (n := n) (fun i H => Same H1 H ∧ ∃ acc, H D = some (.lst acc) ∧ acc.length = ((List.range i).filter f).length ∧ ∀ (j : Nat) v, acc[j]? = some v → ∃ p, ((List.range i).filter f)[j]? = some p ∧ R p v H) ⟨Same.new (Same.refl H1) nD, [], upd_same, rfl, fun j v e => by simp at e⟩ (fun i H hi p => ?_) (fun H p => ?_)
  · obtain ⟨m, acc, hD, hlen, hR⟩ := p
    have il : i < n := hi
    have fl : ((List.range i).filter f).length ≤ i := by
      have := List.length_filter_le f (List.range i)
      rw [List.length_range] at this
      exact this
    have e1 : (List.range (i + 1)).filter f = (List.range i).filter f ++ (if f i = true then [i] else []) := by
      rw [List.range_succ, List.filter_append]
      congr 1
      cases hf : f i <;> simp [hf]
    refine hs i H _ _ hi m (fun hf v H4 m4 r => ⟨acc, m4 _ _ hD, lt_line (by omega), Same.mut (Same.trans m m4) nD, acc ++ [v], upd_same, ?_, fun j u e => ?_⟩) (fun hf H4 m4 => ⟨Same.trans m m4, acc, m4 _ _ hD, ?_, fun j u e => ?_⟩)
    · rw [e1, if_pos hf, List.length_append, List.length_append, hlen]
      rfl
    · have k1 : TK H4 (upd H4 D (.lst (acc ++ [v]))) := TK.mut (m4 _ _ hD)
      rw [e1, if_pos hf]
      by_cases hj : j < acc.length
      · rw [List.getElem?_append_left hj] at e
        obtain ⟨p, h1, h2⟩ := hR j u e
        exact ⟨p, by rw [List.getElem?_append_left (by omega)]; exact h1, st _ _ _ _ (st _ _ _ _ h2 (Same.tk m4)) k1⟩
      · rw [List.getElem?_append_right (by omega)] at e
        have q := (List.getElem?_eq_some_iff.mp e).1
        rw [List.length_singleton] at q
        have hj2 : j = acc.length := by omega
        rw [hj2, Nat.sub_self] at e
        have e2 : v = u := Option.some.inj e
        rw [← e2, hj2]
        exact ⟨i, by rw [List.getElem?_append_right (by omega), hlen, Nat.sub_self]; rfl, st _ _ _ _ r k1⟩
    · rw [e1, hf, if_neg (by decide), List.append_nil]
      exact hlen
    · rw [e1, hf, if_neg (by decide), List.append_nil]
      obtain ⟨p, h1, h2⟩ := hR j u e
      exact ⟨p, h1, st _ _ _ _ h2 (Same.tk m4)⟩
  · obtain ⟨m, acc, hD, hlen, hR⟩ := p
    exact hd H acc m hD hlen hR
theorem new_hide {H X : Hp} {t : Addr} {o : HO} (s : Same H (upd X t o)) : ∃ H9, upd X t o = H9 ∧ Same H H9 ∧ H9 t = some o := ⟨_, rfl, s, upd_same⟩
theorem alloc_hide {H : Hp} {p : Addr} {o : HO} {R : Hp → Prop} (n : H p = none) (k : ∀ J, Same H J → J p = some o → R J) : R (upd H p o) := k _ (Same.new (Same.refl H) n) upd_same
theorem for_enumL {K : PySem.W.Frag} {a : Addr} {xs : List V} {g : TG} {tb : TS} {D : Ends} {σ : L2.St} {H : Hp} (Pv : Nat → L2.St → Hp → Prop) (h0 : Pv 0 σ H) (hq : ∀ i σ H, Pv i σ H → SqL K H a xs)
    (hs : ∀ (i : Nat) (x : V) (t : Addr) (σ : L2.St) (H : Hp), xs[i]? = some x → Pv i σ H → H t = none → g (.ref t) σ (upd H t (.tup [.int (i : Nat), x])) fun σ2 H2 => tb { D with nx := Pv (i + 1), ct := Pv (i + 1), bk := D.nx } σ2 H2)
    (hd : ∀ σ H, Pv xs.length σ H → D.nx σ H) : ∃ W : Nat → Nat → L2.St → Hp → Prop, (∃ m, W 0 m σ H) ∧ ∀ i m σ H, W i m σ H →
      ((Ite K a).stop i H ∧ D.nx σ H) ∨ ((Ite K a).go i H ∧ ∃ N : L2.St → Hp → Prop, (∀ σ' H', N σ' H' → ∃ m', m' < m ∧ W (i + 1) m' σ' H') ∧ ∀ v H', (Ite K a).yld i H v H' → g v σ H' fun σ2 H2 => tb { D with nx := N, ct := N, bk := D.nx } σ2 H2) := by
  refine ⟨fun i m σ H => m = xs.length - i ∧ i ≤ xs.length ∧ Pv i σ H, ⟨_, rfl, Nat.zero_le _, h0⟩, ?_⟩
  rintro i m σ H ⟨rfl, hi, p⟩
  have q := hq i σ H p
  by_cases lt : i < xs.length
  · refine .inr ⟨⟨xs, _, q, List.getElem?_eq_getElem lt⟩, Pv (i + 1), fun σ' H' p2 => ⟨_, by omega, rfl, lt, p2⟩, fun v H' y => ?_⟩
    obtain ⟨t, x, rfl, nt, rfl, f⟩ := y
    exact hs i x t σ H (f xs q) p nt
  · have e : i = xs.length := by omega
    subst e
    exact .inl ⟨⟨xs, q, Nat.le_refl _⟩, hd σ H p⟩
theorem lc_enumLF {K : PySem.W.Frag} {a : Addr} {xs : List V} {g : TG} {tt : TT} {te : TE} {vs : List Nat} {σ : St} {H1 : Hp} {D : Addr} {Qd : Hp → Prop} (f : Nat → Option V) (hx : H1 a = some (.lst xs)) (nD : H1 D = none) (hn : xs.length ≤ 100000)
    (hs : ∀ (i : Nat) (x : V) (Z : Addr) (H : Hp) (N : V → Hp → Prop) (M : Hp → Prop), xs[i]? = some x → Same H1 H → H Z = some (.tup [.int (i : Nat), x]) → (∀ v H4, f i = some v → Same H H4 → N v H4) → (∀ H4, f i = none → Same H H4 → M H4) → g (.ref Z) (wipe σ vs) H fun σ2 H2 => wipe σ2 vs = wipe σ vs ∧ tt σ2 H2 fun b H3 => if b = true then te σ2 H3 N else M H3)
    (hd : ∀ H, Same H1 H → H D = some (.lst ((List.range xs.length).filterMap f)) → Qd H) : ∃ W : Nat → Nat → Hp → Prop, (∃ m, W 0 m (upd H1 D (.lst []))) ∧ ∀ i m H, W i m H →
      ((Ite K a).stop i H ∧ Qd H) ∨ ((Ite K a).go i H ∧ ∃ Nx : Hp → Prop, (∀ H', Nx H' → ∃ m', m' < m ∧ W (i + 1) m' H') ∧ ∀ x H', (Ite K a).yld i H x H' → g x (wipe σ vs) H' fun σ2 H2 => wipe σ2 vs = wipe σ vs ∧ tt σ2 H2 fun b H3 =>
        if b = true then te σ2 H3 fun y H4 => ∃ acc, H4 D = some (.lst acc) ∧ acc.length < sizeLine ∧ Nx (upd H4 D (.lst (acc ++ [y]))) else Nx H3) := by
  refine ⟨fun i m H => m = xs.length - i ∧ i ≤ xs.length ∧ Same H1 H ∧ H D = some (.lst ((List.range i).filterMap f)), ⟨xs.length, rfl, Nat.zero_le _, Same.new (Same.refl H1) nD, upd_same⟩, ?_⟩
  rintro i m H ⟨rfl, hi, s, hD⟩
  have qx : SqL K H a xs := SqL.of (s _ _ hx)
  have hz := filterMap_range_len f i
  by_cases hlt : i < xs.length
  · have ex : xs[i]? = some xs[i] := List.getElem?_eq_getElem hlt
    refine .inr ⟨⟨xs, _, qx, ex⟩, fun H => i < xs.length ∧ Same H1 H ∧ H D = some (.lst ((List.range (i + 1)).filterMap f)), fun H' p' => ⟨xs.length - (i + 1), by omega, rfl, hlt, p'.2⟩, fun v H' y => ?_⟩
    obtain ⟨Z, x', rfl, hZ, rfl, f1⟩ := y
    have s1 : Same H (upd H Z (.tup [.int (i : Nat), x'])) := Same.new (Same.refl H) hZ
    refine hs i x' Z _ _ _ (f1 xs qx) (s.trans s1) upd_same (fun v H4 e s4 => ⟨_, s4 _ _ (s1 _ _ hD), lt_line (by omega), hlt, ?_, ?_⟩) (fun H4 e s4 => ⟨hlt, ?_, ?_⟩)
    · exact Same.mut ((s.trans s1).trans s4) nD
    · rw [filterMap_range_succ, e]
      exact upd_same
    · exact (s.trans s1).trans s4
    · rw [filterMap_range_succ, e, s4 _ _ (s1 _ _ hD)]
      simp
  · have e : i = xs.length := by omega
    subst e
    exact .inl ⟨⟨xs, qx, Nat.le_refl _⟩, hd H s hD⟩
/-! ### list.count(a number) -/
section
open PySem.Spec PyProof.Rows
variable {X : Cx}
def rCntI (K : PySem.W.Frag) : V → List V → Hp → VK → Prop := fun x xs H Q => ∃ (p : Addr) (bs : List Int) (b : Int), x = .ref p ∧ xs = [.int b] ∧ SqL K H p (bs.map V.int) ∧ bs.length ≤ 100000 ∧ Q (.int (bs.count b : Nat)) H
theorem dp_intsC {K : PySem.W.Frag} {H : Hp} : ∀ bs : List Int, DpAll K H (bs.map V.int) (bs.map PyData.int)
  | [] => .nil
  | b :: r => .cons (.int b) (dp_intsC r)
theorem mt_cntI (hu : X.A.units + 64 < cLine) : MtR X "list.count" (rCntI X.K) := by
  intro pins s σ H x xs v us Q I rx rxs h
  obtain ⟨p, bs, b, rfl, rfl, hs, hl, q⟩ := h
  cases rx
  obtain ⟨u, rfl, ru⟩ := rxs.one
  obtain ⟨its, rv, hl, hz⟩ := I.list hs
  obtain ⟨as, ra⟩ := Dp.readsAll I (bs.map PyData.int) _ its (dp_intsC bs) rv
  obtain ⟨cs, rb⟩ := Dp.reads I (.int b) (.int b) u (.int b) ru
  refine PySem.W.count_list_datum (xs := bs) (x := b) hl.isList ⟨as, ra⟩ ⟨cs, rb⟩ (by show X.A.units + 1 + 0 < cLine; omega) ⟨.int (bs.count b : Nat), H, I.tok _, ⟨s.toks, ?_⟩, q⟩
  have e : (bs.countP fun y => decide (y = b)) = bs.count b := by
    unfold List.count
    congr 1
  rw [e]
end
structure Top (P : Program) (K : PySem.W.Frag) (mg : Str → Option Value) where
  C_KindError : Addr
  g_KindError : mg "KindError" = some (.ref C_KindError)
  C_NoNumber : Addr
  f_NoNumber___init__ : Addr
  fd_NoNumber___init__ : FuncData
  er_NoNumber : ErrC P K mg "NoNumber" "NoNumber.__init__" s_NoNumber___init__ ["self"] C_NoNumber f_NoNumber___init__ fd_NoNumber___init__
  C_NoFields : Addr
  f_NoFields___init__ : Addr
  fd_NoFields___init__ : FuncData
  er_NoFields : ErrC P K mg "NoFields" "NoFields.__init__" s_NoFields___init__ ["self"] C_NoFields f_NoFields___init__ fd_NoFields___init__
  C_NoLaying : Addr
  f_NoLaying___init__ : Addr
  fd_NoLaying___init__ : FuncData
  er_NoLaying : ErrC P K mg "NoLaying" "NoLaying.__init__" s_NoLaying___init__ ["self"] C_NoLaying f_NoLaying___init__ fd_NoLaying___init__
  xm_NoLaying_KindError : PySem.W.exmOne K (.ref C_NoLaying) (.ref C_KindError) = some true
  kt_NoLaying_NoLaying : PySem.W.kitOne K (.ref C_NoLaying) (.ref C_NoLaying) = some true
  kt_NoLaying_ValueError : PySem.W.kitOne K (.ref C_NoLaying) (.type "ValueError") = some true
  C_Book : Addr
  g_Book : mg "Book" = some (.ref C_Book)
  cl_Book : Cls K C_Book
  ty_Book : InsT K C_Book
  n_Book_parents : NoAttr K C_Book "parents"
  n_Book_bits : NoAttr K C_Book "bits"
  kt_Book_int : PySem.W.kitOne K (.ref C_Book) (.type "int") = some false
  kt_Book_bool : PySem.W.kitOne K (.ref C_Book) (.type "bool") = some false
  kt_Book_tuple : PySem.W.kitOne K (.ref C_Book) (.type "tuple") = some false
  kt_Book_list : PySem.W.kitOne K (.ref C_Book) (.type "list") = some false
  c_MOST_KINDS : ∃ t, mg "MOST_KINDS" = some (.int 400 t)
  c_MOST_PARENTS : ∃ t, mg "MOST_PARENTS" = some (.int 6 t)
  c_MOST_BROUGHT : ∃ t, mg "MOST_BROUGHT" = some (.int 6 t)
  c_MOST_ARMS : ∃ t, mg "MOST_ARMS" = some (.int 6 t)
  f_is_integer : Addr
  fd_is_integer : FuncData
  F_is_integer : Fun K "is_integer" "is_integer" s_is_integer f_is_integer fd_is_integer
  b_is_integer : Binds K fd_is_integer ["thing"] []
  g_is_integer : mg "is_integer" = some (.ref f_is_integer)
  f_is_within : Addr
  fd_is_within : FuncData
  F_is_within : Fun K "is_within" "is_within" s_is_within f_is_within fd_is_within
  b_is_within : Binds K fd_is_within ["thing", "least", "most"] []
  g_is_within : mg "is_within" = some (.ref f_is_within)
  f_is_lot : Addr
  fd_is_lot : FuncData
  F_is_lot : Fun K "is_lot" "is_lot" s_is_lot f_is_lot fd_is_lot
  b_is_lot : Binds K fd_is_lot ["thing", "many"] []
  g_is_lot : mg "is_lot" = some (.ref f_is_lot)
  f_are_parents : Addr
  fd_are_parents : FuncData
  F_are_parents : Fun K "are_parents" "are_parents" s_are_parents f_are_parents fd_are_parents
  b_are_parents : Binds K fd_are_parents ["thing", "number"] []
  g_are_parents : mg "are_parents" = some (.ref f_are_parents)
  f_Book_fill : Addr
  fd_Book_fill : FuncData
  F_Book_fill : Fun K "fill" "Book.fill" s_Book_fill f_Book_fill fd_Book_fill
  b_Book_fill : Binds K fd_Book_fill ["self", "parents"] []
  m_Book_fill : Meth K C_Book "fill" f_Book_fill
  f_Book___init__ : Addr
  fd_Book___init__ : FuncData
  F_Book___init__ : Fun K "__init__" "Book.__init__" s_Book___init__ f_Book___init__ fd_Book___init__
  b_Book___init__ : Binds K fd_Book___init__ ["self", "parents"] []
  m_Book___init__ : Meth K C_Book "__init__" f_Book___init__
  M_Book : Mk K C_Book f_Book___init__
  f_is_pair : Addr
  fd_is_pair : FuncData
  F_is_pair : Fun K "is_pair" "is_pair" s_is_pair f_is_pair fd_is_pair
  b_is_pair : Binds K fd_is_pair ["thing"] []
  g_is_pair : mg "is_pair" = some (.ref f_is_pair)
  f_many_of : Addr
  fd_many_of : FuncData
  F_many_of : Fun K "many_of" "many_of" s_many_of f_many_of fd_many_of
  b_many_of : Binds K fd_many_of ["book"] []
  g_many_of : mg "many_of" = some (.ref f_many_of)
  f_is_one : Addr
  fd_is_one : FuncData
  F_is_one : Fun K "is_one" "is_one" s_is_one f_is_one fd_is_one
  b_is_one : Binds K fd_is_one ["book", "x", "p"] []
  g_is_one : mg "is_one" = some (.ref f_is_one)
  f_forebears_of : Addr
  fd_forebears_of : FuncData
  F_forebears_of : Fun K "forebears_of" "forebears_of" s_forebears_of f_forebears_of fd_forebears_of
  b_forebears_of : Binds K fd_forebears_of ["book", "x"] []
  g_forebears_of : mg "forebears_of" = some (.ref f_forebears_of)
  f_check_number : Addr
  fd_check_number : FuncData
  F_check_number : Fun K "check_number" "check_number" s_check_number f_check_number fd_check_number
  b_check_number : Binds K fd_check_number ["thing", "least", "most"] []
  g_check_number : mg "check_number" = some (.ref f_check_number)
  f_check_fields : Addr
  fd_check_fields : FuncData
  F_check_fields : Fun K "check_fields" "check_fields" s_check_fields f_check_fields fd_check_fields
  b_check_fields : Binds K fd_check_fields ["book", "thing"] []
  g_check_fields : mg "check_fields" = some (.ref f_check_fields)
  f_is_place : Addr
  fd_is_place : FuncData
  F_is_place : Fun K "is_place" "is_place" s_is_place f_is_place fd_is_place
  b_is_place : Binds K fd_is_place ["thing", "arms"] []
  g_is_place : mg "is_place" = some (.ref f_is_place)
  f_has_places : Addr
  fd_has_places : FuncData
  F_has_places : Fun K "has_places" "has_places" s_has_places f_has_places fd_has_places
  b_has_places : Binds K fd_has_places ["fields", "arms", "thing"] []
  g_has_places : mg "has_places" = some (.ref f_has_places)
  f_object_places : Addr
  fd_object_places : FuncData
  F_object_places : Fun K "object_places" "object_places" s_object_places f_object_places fd_object_places
  b_object_places : Binds K fd_object_places ["book", "laying_told", "x"] []
  g_object_places : mg "object_places" = some (.ref f_object_places)
  f_hole_in : Addr
  fd_hole_in : FuncData
  F_hole_in : Fun K "hole_in" "hole_in" s_hole_in f_hole_in fd_hole_in
  b_hole_in : Binds K fd_hole_in ["indexes"] []
  g_hole_in : mg "hole_in" = some (.ref f_hole_in)
  f_hole_of : Addr
  fd_hole_of : FuncData
  F_hole_of : Fun K "hole_of" "hole_of" s_hole_of f_hole_of fd_hole_of
  b_hole_of : Binds K fd_hole_of ["book", "laying_told"] []
  g_hole_of : mg "hole_of" = some (.ref f_hole_of)
  f_first_hole : Addr
  fd_first_hole : FuncData
  F_first_hole : Fun K "first_hole" "first_hole" s_first_hole f_first_hole fd_first_hole
  b_first_hole : Binds K fd_first_hole ["book", "fields", "thing"] []
  g_first_hole : mg "first_hole" = some (.ref f_first_hole)
  f_is_laying : Addr
  fd_is_laying : FuncData
  F_is_laying : Fun K "is_laying" "is_laying" s_is_laying f_is_laying fd_is_laying
  b_is_laying : Binds K fd_is_laying ["book", "fields", "arms", "thing"] []
  g_is_laying : mg "is_laying" = some (.ref f_is_laying)
  f__law_hand : Addr
  fd__law_hand : FuncData
  F__law_hand : Fun K "_law_hand" "_law_hand" s__law_hand f__law_hand fd__law_hand
  b__law_hand : Binds K fd__law_hand ["_law_script"] []
  g__law_hand : mg "_law_hand" = some (.ref f__law_hand)
  f__law_draw : Addr
  fd__law_draw : FuncData
  F__law_draw : Fun K "_law_draw" "_law_draw" s__law_draw f__law_draw fd__law_draw
  b__law_draw : Binds K fd__law_draw ["_law_hand_here", "_law_many"] []
  g__law_draw : mg "_law_draw" = some (.ref f__law_draw)
  f__law_is : Addr
  fd__law_is : FuncData
  F__law_is : Fun K "_law_is" "_law_is" s__law_is f__law_is fd__law_is
  b__law_is : Binds K fd__law_is ["_law_told_here", "_law_due"] []
  g__law_is : mg "_law_is" = some (.ref f__law_is)
  f__law_flag : Addr
  fd__law_flag : FuncData
  F__law_flag : Fun K "_law_flag" "_law_flag" s__law_flag f__law_flag fd__law_flag
  b__law_flag : Binds K fd__law_flag ["_law_told_here", "_law_due"] []
  g__law_flag : mg "_law_flag" = some (.ref f__law_flag)
  f__law_deep : Addr
  fd__law_deep : FuncData
  F__law_deep : Fun K "_law_deep" "_law_deep" s__law_deep f__law_deep fd__law_deep
  b__law_deep : Binds K fd__law_deep ["_law_hand_here"] []
  g__law_deep : mg "_law_deep" = some (.ref f__law_deep)
  f__law_parents : Addr
  fd__law_parents : FuncData
  F__law_parents : Fun K "_law_parents" "_law_parents" s__law_parents f__law_parents fd__law_parents
  b__law_parents : Binds K fd__law_parents ["_law_hand_here", "_law_many", "_law_most"] []
  g__law_parents : mg "_law_parents" = some (.ref f__law_parents)
  f__law_sheet : Addr
  fd__law_sheet : FuncData
  F__law_sheet : Fun K "_law_sheet" "_law_sheet" s__law_sheet f__law_sheet fd__law_sheet
  b__law_sheet : Binds K fd__law_sheet ["_law_parents_here"] []
  g__law_sheet : mg "_law_sheet" = some (.ref f__law_sheet)
  f__law_brought : Addr
  fd__law_brought : FuncData
  F__law_brought : Fun K "_law_brought" "_law_brought" s__law_brought f__law_brought fd__law_brought
  b__law_brought : Binds K fd__law_brought ["_law_hand_here", "_law_many", "_law_most"] []
  g__law_brought : mg "_law_brought" = some (.ref f__law_brought)
  f__law_hole : Addr
  fd__law_hole : FuncData
  F__law_hole : Fun K "_law_hole" "_law_hole" s__law_hole f__law_hole fd__law_hole
  b__law_hole : Binds K fd__law_hole ["_law_sheet_here", "_law_told_here", "_law_x"] []
  g__law_hole : mg "_law_hole" = some (.ref f__law_hole)
  f__law_first_hole : Addr
  fd__law_first_hole : FuncData
  F__law_first_hole : Fun K "_law_first_hole" "_law_first_hole" s__law_first_hole f__law_first_hole fd__law_first_hole
  b__law_first_hole : Binds K fd__law_first_hole ["_law_sheet_here", "_law_told_here"] []
  g__law_first_hole : mg "_law_first_hole" = some (.ref f__law_first_hole)
  f__law_poured : Addr
  fd__law_poured : FuncData
  F__law_poured : Fun K "_law_poured" "_law_poured" s__law_poured f__law_poured fd__law_poured
  b__law_poured : Binds K fd__law_poured ["_law_hand_here", "_law_sheet_here", "_law_brought_here", "_law_arms"] []
  g__law_poured : mg "_law_poured" = some (.ref f__law_poured)
  f__law_is_whole : Addr
  fd__law_is_whole : FuncData
  F__law_is_whole : Fun K "_law_is_whole" "_law_is_whole" s__law_is_whole f__law_is_whole fd__law_is_whole
  b__law_is_whole : Binds K fd__law_is_whole ["_law_thing"] []
  g__law_is_whole : mg "_law_is_whole" = some (.ref f__law_is_whole)
  f__law_has_places : Addr
  fd__law_has_places : FuncData
  F__law_has_places : Fun K "_law_has_places" "_law_has_places" s__law_has_places f__law_has_places fd__law_has_places
  b__law_has_places : Binds K fd__law_has_places ["_law_brought_here", "_law_arms", "_law_thing"] []
  g__law_has_places : mg "_law_has_places" = some (.ref f__law_has_places)
  f__law_odd : Addr
  fd__law_odd : FuncData
  F__law_odd : Fun K "_law_odd" "_law_odd" s__law_odd f__law_odd fd__law_odd
  b__law_odd : Binds K fd__law_odd ["_law_hand_here"] []
  g__law_odd : mg "_law_odd" = some (.ref f__law_odd)
  f__law_bent : Addr
  fd__law_bent : FuncData
  F__law_bent : Fun K "_law_bent" "_law_bent" s__law_bent f__law_bent fd__law_bent
  b__law_bent : Binds K fd__law_bent ["_law_hand_here", "_law_thing"] []
  g__law_bent : mg "_law_bent" = some (.ref f__law_bent)
  f__law_told : Addr
  fd__law_told : FuncData
  F__law_told : Fun K "_law_told" "_law_told" s__law_told f__law_told fd__law_told
  b__law_told : Binds K fd__law_told ["_law_book", "_law_brought_here", "_law_thing"] []
  g__law_told : mg "_law_told" = some (.ref f__law_told)
  f_law : Addr
  fd_law : FuncData
  F_law : Fun K "law" "law" s_law f_law fd_law
  b_law : Binds K fd_law ["_law_script"] []
  g_law : mg "law" = some (.ref f_law)
  z_ValueError : mg "ValueError" = none
  z_abs : mg "abs" = none
  z_all : mg "all" = none
  z_bool : mg "bool" = none
  z_enumerate : mg "enumerate" = none
  z_int : mg "int" = none
  z_isinstance : mg "isinstance" = none
  z_len : mg "len" = none
  z_list : mg "list" = none
  z_max : mg "max" = none
  z_min : mg "min" = none
  z_range : mg "range" = none
  z_set : mg "set" = none
  z_sorted : mg "sorted" = none
  z_tuple : mg "tuple" = none
  z_zip : mg "zip" = none
section
variable {P : Program} {w : World} {K : PySem.W.Frag} {mg : Str → Option Value} {base : Heap}
theorem ok_NoNumber___init__ (T : Top P K mg) : FnOk P w K mg base CX0 1 T.f_NoNumber___init__ T.fd_NoNumber___init__ ["self"] (sp_err T.C_NoNumber) := by
  obtain ⟨cc, cda, oc, od, dV, kV, doc, pm, an, ctv, osl, efd, lk, hcd, sup⟩ := T.er_NoNumber.all
  rw [efd] at lk ⊢
  exact sup_fn (k := 0) (N := ["self", "__class__"]) (F := NFo "NoNumber.__init__" s_NoNumber___init__ cc cda) lk hcd sup (NdefX.nscope_by (sc := defScope s_NoNumber___init__) (by decide +kernel)) rfl (fun vs H Q E h => by obtain ⟨a, rfl, _⟩ := h; rfl) rfl (fun L => rfl) (fun L => rfl) (fun L => rfl) (by kernel_rfl) (fun A outer s H vs Q E hr h => by
    obtain ⟨a, rfl, ha, k⟩ := h
    exact ⟨a, rfl, ha, _, pss_nil, k⟩)
theorem ok_NoFields___init__ (T : Top P K mg) : FnOk P w K mg base CX0 1 T.f_NoFields___init__ T.fd_NoFields___init__ ["self"] (sp_err T.C_NoFields) := by
  obtain ⟨cc, cda, oc, od, dV, kV, doc, pm, an, ctv, osl, efd, lk, hcd, sup⟩ := T.er_NoFields.all
  rw [efd] at lk ⊢
  exact sup_fn (k := 0) (N := ["self", "__class__"]) (F := NFo "NoFields.__init__" s_NoFields___init__ cc cda) lk hcd sup (NdefX.nscope_by (sc := defScope s_NoFields___init__) (by decide +kernel)) rfl (fun vs H Q E h => by obtain ⟨a, rfl, _⟩ := h; rfl) rfl (fun L => rfl) (fun L => rfl) (fun L => rfl) (by kernel_rfl) (fun A outer s H vs Q E hr h => by
    obtain ⟨a, rfl, ha, k⟩ := h
    exact ⟨a, rfl, ha, _, pss_nil, k⟩)
theorem ok_NoLaying___init__ (T : Top P K mg) : FnOk P w K mg base CX0 1 T.f_NoLaying___init__ T.fd_NoLaying___init__ ["self"] (sp_err T.C_NoLaying) := by
  obtain ⟨cc, cda, oc, od, dV, kV, doc, pm, an, ctv, osl, efd, lk, hcd, sup⟩ := T.er_NoLaying.all
  rw [efd] at lk ⊢
  exact sup_fn (k := 0) (N := ["self", "__class__"]) (F := NFo "NoLaying.__init__" s_NoLaying___init__ cc cda) lk hcd sup (NdefX.nscope_by (sc := defScope s_NoLaying___init__) (by decide +kernel)) rfl (fun vs H Q E h => by obtain ⟨a, rfl, _⟩ := h; rfl) rfl (fun L => rfl) (fun L => rfl) (fun L => rfl) (by kernel_rfl) (fun A outer s H vs Q E hr h => by
    obtain ⟨a, rfl, ha, k⟩ := h
    exact ⟨a, rfl, ha, _, pss_nil, k⟩)
/-! is_integer -/
def sp_is_integer (K : PySem.W.Frag) : Sp := fun vs H Q _ => ∃ v, vs = [v] ∧ IntK K H v ∧ Q (.bl (isIntB v)) H
theorem sc_is_integer : FnScope ["thing"] ["thing"] (defScope s_is_integer) := ⟨rfl, rfl, rfl, by decide +kernel, rfl, by decide +kernel, by decide +kernel⟩
theorem ok_is_integer (T : Top P K mg) : FnOk P w K mg base CX0 1 T.f_is_integer T.fd_is_integer ["thing"] (sp_is_integer K) := by
  refine T.F_is_integer.ok sc_is_integer (fun vs H Q E h => ?_) (fun cdv A outer s H vs Q E hr h => ?_)
  · obtain ⟨v, rfl, _⟩ := h
    rfl
  · obtain ⟨v, rfl, ⟨t, bi, bb, ht, hi, hb, e⟩, k⟩ := h
    refine ⟨_, (pss_one (ps_ret (pe_and (pe_callB (r := rIsi K) (id := "isinstance") call_isi (by rfl) T.z_isinstance (by decide +kernel) (pa_cons (pv 0) (pa_cons (pe_bltn (v := .ty "int") (u := .type "int") (by rfl) T.z_int (by decide +kernel) rfl) pa_nil))) (pe_one (pe_not (pe_callB (r := rIsi K) (id := "isinstance") call_isi (by rfl) T.z_isinstance (by decide +kernel) (pa_cons (pv 0) (pa_cons (pe_bltn (v := .ty "bool") (u := .type "bool") (by rfl) T.z_bool (by decide +kernel) rfl) pa_nil)))))))), ?_⟩
    tm_at "w"
    cases bi with
    | false =>
      rw [← e] at k
      tm_at "w"
      exact k
    | true =>
      rw [← e] at k
      tm_at "w"
      exact k
/-! is_within -/
def sp_is_within (K : PySem.W.Frag) : Sp := fun vs H Q _ => ∃ (v : V) (lo hi : Int), vs = [v, .int lo, .int hi] ∧ IntK K H v ∧ Q (.bl (withinB v lo hi)) H
theorem sc_is_within : FnScope ["thing", "least", "most"] ["thing", "least", "most"] (defScope s_is_within) := ⟨rfl, rfl, rfl, by decide +kernel, rfl, by decide +kernel, by decide +kernel⟩
theorem ok_is_within (T : Top P K mg) : FnOk P w K mg base CX0 2 T.f_is_within T.fd_is_within ["thing", "least", "most"] (sp_is_within K) := by
  have G_is_integer := ok_is_integer (P := P) (w := w) (base := base) T
  refine T.F_is_within.ok sc_is_within (fun vs H Q E h => ?_) (fun cdv A outer s H vs Q E hr h => ?_)
  · obtain ⟨v, lo, hi, rfl, _⟩ := h
    rfl
  · obtain ⟨v, lo, hi, rfl, hk, k⟩ := h
    refine ⟨_, (pss_one (ps_ret (pe_and (pe_call G_is_integer hr (by rfl) T.g_is_integer T.F_is_integer.kp T.b_is_integer .nil pass0 (pa_cons (pv 0) pa_nil)) (pe_one (pe_chain op_le op_le (pv 1) (pv 0) (pv 2)))))), ?_⟩
    refine ⟨v, rfl, v, rfl, hk, _, rfl, ?_⟩
    cases v with
    | int i =>
      refine iteT ?_
      tm_at "w"
      refine iteD (fun h1 => ?_) (fun h1 => ?_)
      · tm_at "w"
        have e : withinB (.int i) lo hi = decide (i ≤ hi) := by
          show (decide (lo ≤ i) && decide (i ≤ hi)) = _
          rw [decide_eq_true h1, Bool.true_and]
        rw [e] at k
        exact k
      · have e : withinB (.int i) lo hi = false := by
          show (decide (lo ≤ i) && decide (i ≤ hi)) = _
          rw [decide_eq_false h1, Bool.false_and]
        rw [e] at k
        exact k
    | _ =>
      refine iteF ?_
      exact k
/-! is_lot -/
/-- an ascending run of whole numbers above last, below m -/
def lotFrom (m : Int) : Int → List V → Bool
  | _, [] => true
  | last, x :: r => withinB x (last + 1) (m - 1) && lotFrom m (match x with | .int i => i | _ => 0) r
def sp_is_lot (K : PySem.W.Frag) : Sp := fun vs H Q _ => ∃ (v : V) (t : Value) (bt : Bool) (m : Int), vs = [v, .int m] ∧ TyX K H v t ∧ PySem.W.kitOne K t (.type "tuple") = some bt ∧
  ((bt = false ∧ Q (.bl false) H) ∨ ∃ (a : Addr) (xs : List V), v = .ref a ∧ H a = some (.tup xs) ∧ bt = true ∧ (∀ x ∈ xs, IntK K H x) ∧ Q (.bl (lotFrom m (-1) xs)) H)
theorem sc_is_lot : FnScope ["thing", "many", "last", "item"] ["thing", "many"] (defScope s_is_lot) := ⟨rfl, rfl, rfl, by decide +kernel, rfl, by decide +kernel, by decide +kernel⟩
theorem ok_is_lot (T : Top P K mg) : FnOk P w K mg base CX0 3 T.f_is_lot T.fd_is_lot ["thing", "many"] (sp_is_lot K) := by
  have G_is_within := ok_is_within (P := P) (w := w) (base := base) T
  refine T.F_is_lot.ok sc_is_lot (fun vs H Q E h => ?_) (fun cdv A outer s H vs Q E hr h => ?_)
  · obtain ⟨v, t, bt, m, rfl, _⟩ := h
    rfl
  · obtain ⟨v, t, bt, m, rfl, ht, hb, hh⟩ := h
    refine ⟨_, (pss_cons (ps_if (pt_not (pt_val (pe_callB (r := rIsi K) (id := "isinstance") call_isi (by rfl) T.z_isinstance (by decide +kernel) (pa_cons (pv 0) (pa_cons (pe_bltn (v := .ty "tuple") (u := .type "tuple") (by rfl) T.z_tuple (by decide +kernel) rfl) pa_nil))))) (pss_one (ps_ret pe_bl)) pss_nil)
      (pss_cons (ps_set (i := 2) sc_is_lot.nd rfl (Or.inl rfl) (pe_un un_neg pe_int))
      (pss_cons (ps_for PassesOwn.never rfl (pi_tup (pv 0)) (pg_name (i := 3) sc_is_lot.nd rfl (Or.inl rfl))
      (pss_cons (ps_if (pt_not (pt_val (pe_call G_is_within hr (by rfl) T.g_is_within T.F_is_within.kp T.b_is_within .nil pass0 (pa_cons (pv 3) (pa_cons (pe_op op_add (pv 2) pe_int) (pa_cons (pe_op op_sub (pv 1) pe_int) pa_nil)))))) (pss_one (ps_ret pe_bl)) pss_nil)
      (pss_one (ps_set (i := 2) sc_is_lot.nd rfl (Or.inl rfl) (pv 3)))))
      (pss_one (ps_ret pe_bl))))), ?_⟩
    tm_at "w"
    rcases hh with ⟨rfl, k⟩ | ⟨a, xs, rfl, ha, rfl, hi, k⟩
    · tm_at "w"
      exact k
    · tm_at "w"
      refine ⟨⟨_, SqT.of ha⟩, for_tup (K := K) (a := a) (xs := xs) (fun i σ H' => ∃ (last : Int) (x : Option V), σ = [some (.ref a), some (.int m), some (.int last), x] ∧ H' = H ∧ lotFrom m last (xs.drop i) = lotFrom m (-1) xs) ?_ ?_ ?_ ?_⟩
      · exact ⟨-1, none, rfl, rfl, rfl⟩
      · rintro i σ H' _ ⟨_, _, _, rfl, _⟩
        exact SqT.of ha
      · rintro i x σ H' hx ⟨last, y, rfl, rfl, e⟩
        have il := (List.getElem?_eq_some_iff.mp hx).1
        have hd : xs.drop i = x :: xs.drop (i + 1) := by
          rw [List.drop_eq_getElem_cons il]
          rw [List.getElem?_eq_getElem il] at hx
          rw [Option.some.inj hx]
        rw [hd] at e
        tm_at "w"
        refine ⟨_, _, _, rfl, hi x (List.mem_of_getElem? hx), ?_⟩
        tm_at "w"
        refine iteB (fun h => ?_) (fun h => ?_)
        · have h2 : withinB x (last + 1) (m - 1) = false := by simpa using h
          have e2 : lotFrom m (-1) xs = false := by
            rw [← e]
            show (withinB x (last + 1) (m - 1) && _) = false
            rw [h2]
            rfl
          rw [e2] at k
          tm_at "w"
          exact k
        · have h2 : withinB x (last + 1) (m - 1) = true := by simpa using h
          cases x with
          | int z =>
            tm_at "w"
            rw [← e]
            show _ = (withinB (.int z) (last + 1) (m - 1) && lotFrom m z (xs.drop (i + 1)))
            rw [h2, Bool.true_and]
          | _ => cases h2
      · rintro σ H' ⟨last, y, rfl, rfl, e⟩
        rw [List.drop_length] at e
        rw [← e] at k
        tm_at "w"
        exact k
/-! are_parents -/
def sp_are_parents (K : PySem.W.Frag) : Sp := fun vs H Q _ => ∃ (v : V) (t : Value) (bt : Bool) (m : Int), vs = [v, .int m] ∧ TyX K H v t ∧ PySem.W.kitOne K t (.type "tuple") = some bt ∧
  ((bt = false ∧ Q (.bl false) H) ∨ ∃ (a : Addr) (xs : List V), v = .ref a ∧ H a = some (.tup xs) ∧ bt = true ∧ (∀ x ∈ xs, IntK K H x) ∧ Q (.bl (lotFrom m (-1) xs && decide (xs.length ≤ 6))) H)
theorem sc_are_parents : FnScope ["thing", "number"] ["thing", "number"] (defScope s_are_parents) := ⟨rfl, rfl, rfl, by decide +kernel, rfl, by decide +kernel, by decide +kernel⟩
theorem ok_are_parents (T : Top P K mg) : FnOk P w K mg base CX0 4 T.f_are_parents T.fd_are_parents ["thing", "number"] (sp_are_parents K) := by
  have G_is_lot := ok_is_lot (P := P) (w := w) (base := base) T
  refine T.F_are_parents.ok sc_are_parents (fun vs H Q E h => ?_) (fun cdv A outer s H vs Q E hr h => ?_)
  · obtain ⟨v, t, bt, m, rfl, _⟩ := h
    rfl
  · obtain ⟨v, t, bt, m, rfl, ht, hb, hh⟩ := h
    refine ⟨_, (pss_one (ps_ret (pe_and (pe_call G_is_lot hr (by rfl) T.g_is_lot T.F_is_lot.kp T.b_is_lot .nil pass0 (pa_cons (pv 0) (pa_cons (pv 1) pa_nil))) (pe_one (pe_cmpR op_le (pe_callB (r := rLenQ K) (id := "len") call_len_seq (by rfl) T.z_len (by decide +kernel) (pa_cons (pv 0) pa_nil)) (pe_glob (v := .int 6) (by rfl) T.c_MOST_PARENTS.choose_spec ⟨_, rfl⟩) (nomark _)))))), ?_⟩
    tm_at "w"
    rcases hh with ⟨rfl, k⟩ | ⟨a, xs, rfl, ha, rfl, hi, k⟩
    · exact ⟨v, t, false, m, rfl, ht, hb, .inl ⟨rfl, false, rfl, iteF k⟩⟩
    · refine ⟨_, t, true, m, rfl, ht, hb, .inr ⟨a, xs, rfl, ha, rfl, hi, _, rfl, ?_⟩⟩
      refine iteB (fun h => ?_) (fun h => ?_)
      · tm_at "w"
        rw [h, Bool.true_and] at k
        have e : decide ((xs.length : Int) ≤ 6) = decide (xs.length ≤ 6) := decide_eq_decide.mpr (by omega)
        rw [← e] at k
        exact k
      · rw [h] at k
        exact k
/-! Book.fill -/
theorem bitOr_nat (a b : Nat) : Builtin.bitOr (a : Int) (b : Int) = ((a ||| b : Nat) : Int) := by
  rw [Bits.bitOr_pp (by omega) (by omega), Int.toNat_natCast, Int.toNat_natCast]
def sp_Book_fill (C : Addr) (K : PySem.W.Frag) : Sp := fun vs H Q _ => ∃ (b dx pa : Addr) (fs : List (Str × V)) (P : List (List Nat)), vs = [.ref b, .ref pa] ∧ H b = some (.ins C dx fs) ∧ BkFs fs ∧ ParAt H pa P ∧ RtP P ∧ P.length ≤ 1000 ∧
  ∀ lb H', But b H H' → H lb = none → BookAt C H' ⟨b, dx, pa, lb⟩ P → Q .non H'
theorem sc_Book_fill : FnScope ["self", "parents", "number", "item", "found", "parent"] ["self", "parents"] (defScope s_Book_fill) := ⟨rfl, rfl, rfl, by decide +kernel, rfl, by decide +kernel, by decide +kernel⟩
theorem ok_Book_fill (T : Top P K mg) : FnOk P w K mg base CX0 1 T.f_Book_fill T.fd_Book_fill ["self", "parents"] (sp_Book_fill T.C_Book K) := by
  refine T.F_Book_fill.ok sc_Book_fill (fun vs H Q E h => ?_) (fun cdv A outer s H vs Q E hr h => ?_)
  · obtain ⟨b, dx, pa, fs, P, rfl, _⟩ := h
    rfl
  · obtain ⟨b, dx, pa, fs, P, rfl, hb, hf, hP, hR, hn, k⟩ := h
    refine ⟨_, (pss_cons (ps_fld (pv 0) (pv 1) rfl)
      (pss_cons (ps_fld (pv 0) (pe_lst pa_nil) rfl)
      (pss_one (ps_for PassesOwn.never rfl (pi_enumT (by rfl) T.z_enumerate (pa_cons (pv 1) pa_nil)) (pg_tup rfl (pgs_cons (pg_name (i := 2) sc_Book_fill.nd rfl (Or.inl rfl)) (pgs_cons (pg_name (i := 3) sc_Book_fill.nd rfl (Or.inl rfl)) pgs_nil)))
      (pss_cons (ps_set (i := 4) sc_Book_fill.nd rfl (Or.inl rfl) (pe_op op_shl pe_int (pv 2)))
      (pss_cons (ps_for PassesOwn.never rfl (pi_tup (pv 3)) (pg_name (i := 5) sc_Book_fill.nd rfl (Or.inl rfl))
      (pss_one (ps_aug (i := 4) sc_Book_fill.nd rfl (Or.inl rfl) (pe_ix (r := rIxL K) ix_list (pe_fld (pv 0) rfl) (pv 5) (fun _ _ => rfl)) ip_or)))
      (pss_one (ps_expr (pe_bm PySem.F.plainAttrs_list PySem.F.slot_list_append PySem.F.type_list_append mt_append (pe_fld (pv 0) rfl) (pa_cons (pv 4) pa_nil)))))))))), ?_⟩
    have cB := T.cl_Book
    have nB1 := T.n_Book_parents
    have nB2 := T.n_Book_bits
    have hlp := BkFs.len1 hf pa
    have wb : ∀ l, H l = none → b ≠ l := fun l e => ne_of_none hb e
    obtain ⟨vsP, hpa, hlen, hit⟩ := id hP
    have nap : ∀ a xs, H a = some (.tup xs) → a ≠ b := fun a xs e z => by rw [z, hb] at e; cases e
    refine ⟨_, rfl, _, rfl, b, T.C_Book, dx, fs, rfl, hb, T.cl_Book, T.n_Book_parents, Nat.lt_trans (m := 500) hf.len (by decide), ?_⟩
    tm_at "w"
    intro lb nlb0
    have nlb : H lb = none := by
      by_cases z : lb = b
      · rw [z, upd_same] at nlb0
        cases nlb0
      · rw [upd_ne z] at nlb0
        exact nlb0
    have nbl : b ≠ lb := wb lb nlb
    refine ⟨_, rfl, b, T.C_Book, dx, _, rfl, (upd_ne nbl).trans upd_same, T.cl_Book, T.n_Book_bits, hlp, ?_⟩
    rw [hf.put pa lb]
    refine ⟨_, rfl, _, _, rfl, SqT.of (xs := vsP) ((upd_ne (nap _ _ hpa)).trans ((upd_ne (ne_of_none hpa nlb)).trans ((upd_ne (nap _ _ hpa)).trans hpa))), for_enumT (K := K) (a := pa) (xs := vsP) (fun i σ H' => ∃ x y z w, σ = [some (.ref b), some (.ref pa), x, y, z, w] ∧ But b H H' ∧ H' b = some (.ins T.C_Book dx (bkF pa lb)) ∧ H' lb = some (.lst (natsV (bitsOf (P.take i))))) ?_ ?_ ?_ ?_⟩
    · refine ⟨none, none, none, none, rfl, fun a o n e => ?_, upd_same, ?_⟩
      · exact (upd_ne n).trans ((upd_ne (ne_of_none e nlb)).trans ((upd_ne n).trans e))
      · exact (upd_ne nbl.symm).trans upd_same
    · rintro i σ H' ⟨_, _, _, _, rfl, bt, _⟩
      exact SqT.of (bt _ _ (nap _ _ hpa) hpa)
    · rintro i x t σ H' hx ⟨x0, y0, z0, w0, rfl, bt, h1, h2⟩ nt
      obtain ⟨ai, p, rfl, hp, hai⟩ := ParL.here ⟨hlen, hit⟩ hx
      have il := (List.getElem?_eq_some_iff.mp hp).1
      have wt : Nw H' t := ⟨nt⟩
      have hai' : H' ai = some (.tup (natsV p)) := bt _ _ (nap _ _ hai) hai
      tm_at "w"
      have hai2 : upd H' t (.tup [V.int (i : Int), V.ref ai]) ai = some (.tup (natsV p)) := by tm_at "hp"
      have hb2 : upd H' t (.tup [V.int (i : Int), V.ref ai]) b = some (.ins T.C_Book dx (bkF pa lb)) := by tm_at "hp"
      have hl2 : upd H' t (.tup [V.int (i : Int), V.ref ai]) lb = some (.lst (natsV (bitsOf (P.take i)))) := by tm_at "hp"
      have hbl : (bitsOf (P.take i)).length = i := by rw [bitsOf_len, List.length_take]; omega
      refine ⟨⟨_, SqT.of hai2⟩, for_tup (K := K) (a := ai) (xs := natsV p) (fun j σ H2 => ∃ z, σ = [some (.ref b), some (.ref pa), some (.int (i : Int)), some (.ref ai), some (.int (((p.take j).foldl (fun f q => f ||| (bitsOf (P.take i)).getD q 0) (2 ^ i) : Nat) : Int)), z] ∧ H2 = upd H' t (.tup [V.int (i : Int), V.ref ai])) ?_ ?_ ?_ ?_⟩
      · refine ⟨w0, ?_, rfl⟩
        show _ = [some (.ref b), some (.ref pa), some (.int (i : Int)), some (.ref ai), some (.int ((2 ^ i : Nat) : Int)), w0]
        have e : (1 : Int) * 2 ^ ((i : Int)).toNat = ((2 ^ i : Nat) : Int) := by rw [Int.one_mul, Int.toNat_natCast, Int.natCast_pow]; rfl
        rw [← e]
        rfl
      · rintro j σ H2 _ ⟨_, rfl, rfl⟩
        exact SqT.of hai2
      · rintro j y σ H2 hy ⟨z, rfl, rfl⟩
        obtain ⟨q, hq, rfl, _⟩ := natsV_here hy
        have ql : q < i := hR i p hp q (List.mem_of_getElem? hq)
        have hq2 : (natsV (bitsOf (P.take i)))[q]? = some (.int (((bitsOf (P.take i)).getD q 0 : Nat) : Int)) := by
          refine natsV_at ?_
          rw [List.getD_eq_getElem?_getD, List.getElem?_eq_getElem (by omega)]
          rfl
        tm_at "w"
        refine ⟨some (.int (q : Int)), ?_, rfl⟩
        show ([some (.ref b), some (.ref pa), some (.int (i : Int)), some (.ref ai), some (.int (Builtin.bitOr _ _)), some (.int (q : Int))] : L2.St) = _
        rw [bitOr_nat, List.take_add_one, hq, List.foldl_append]
        rfl
      · rintro σ H2 ⟨z, rfl, rfl⟩
        rw [natsV_len, List.take_length]
        tm_at "w"
        refine ⟨_, _, _, rfl, rfl, hl2, lt_line (by rw [natsV_len, hbl]; omega), ?_⟩
        have nlt : lb ≠ t := ne_of_none h2 nt
        refine ⟨_, _, _, _, rfl, fun a o n e => ?_, (upd_ne nbl).trans hb2, ?_⟩
        · have e2 := bt a o n e
          exact (upd_ne (ne_of_none e nlb)).trans ((upd_ne (ne_of_none e2 nt)).trans e2)
        · rw [upd_same, natsV_snoc, List.take_add_one, hp]
          show _ = some (HO.lst (natsV (bitsOf (P.take i ++ [p]))))
          rw [bitsOf_snoc, hbl]
          rfl
    · rintro σ H' ⟨x0, y0, z0, w0, rfl, bt, h1, h2⟩
      rw [hlen, List.take_length] at h2
      exact k lb H' bt nlb ⟨h1, ⟨vsP, bt _ _ (nap _ _ hpa) hpa, hlen, fun j p e => by
        obtain ⟨a, e1, e2⟩ := hit j p e
        exact ⟨a, e1, bt _ _ (nap _ _ e2) e2⟩⟩, h2⟩
/-! Book.__init__ -/
theorem lot_from {m : Int} : ∀ {q : List Nat} {last : Int}, q.Pairwise (· < ·) → (∀ x ∈ q, last < (x : Int) ∧ (x : Int) < m) → lotFrom m last (natsV q) = true
  | [], _, _, _ => rfl
  | x :: r, last, hp, hm => by
    obtain ⟨h1, h2⟩ := List.pairwise_cons.mp hp
    have hx := hm x List.mem_cons_self
    have ih := lot_from (m := m) (q := r) (last := (x : Int)) h2 fun y hy => ⟨by have := h1 y hy; omega, (hm y (List.mem_cons_of_mem _ hy)).2⟩
    show (withinB (.int (x : Int)) (last + 1) (m - 1) && lotFrom m (x : Int) (natsV r)) = true
    rw [ih]
    show ((decide (last + 1 ≤ (x : Int)) && decide ((x : Int) ≤ m - 1)) && true) = true
    rw [decide_eq_true (show last + 1 ≤ (x : Int) by omega), decide_eq_true (show (x : Int) ≤ m - 1 by omega)]
    rfl
theorem OkL.lot {q : List Nat} {m : Nat} (h : OkL q m) : (lotFrom (m : Int) (-1) (natsV q) && decide ((natsV q).length ≤ 6)) = true := by
  rw [lot_from h.asc fun x hx => ⟨by omega, by have := h.lt x hx; omega⟩, natsV_len, decide_eq_true h.few]
  rfl
def sp_Book___init__ (C : Addr) (K : PySem.W.Frag) : Sp := fun vs H Q _ => ∃ (b dx pa : Addr) (P : List (List Nat)), vs = [.ref b, .ref pa] ∧ H b = some (.ins C dx []) ∧ ParAt H pa P ∧ OkP P ∧
  ∀ lb H', But b H H' → H lb = none → BookAt C H' ⟨b, dx, pa, lb⟩ P → Q .non H'
theorem sc_Book___init__ : FnScope ["self", "parents", "number", "item"] ["self", "parents"] (defScope s_Book___init__) := ⟨rfl, rfl, rfl, by decide +kernel, rfl, by decide +kernel, by decide +kernel⟩
theorem ok_Book___init__ (T : Top P K mg) : FnOk P w K mg base CX0 5 T.f_Book___init__ T.fd_Book___init__ ["self", "parents"] (sp_Book___init__ T.C_Book K) := by
  have G_Book_fill := ok_Book_fill (P := P) (w := w) (base := base) T
  have G_are_parents := ok_are_parents (P := P) (w := w) (base := base) T
  refine T.F_Book___init__.ok sc_Book___init__ (fun vs H Q E h => ?_) (fun cdv A outer s H vs Q E hr h => ?_)
  · obtain ⟨b, dx, pa, P, rfl, _⟩ := h
    rfl
  · obtain ⟨b, dx, pa, P, rfl, hb, hP, ok, k⟩ := h
    refine ⟨_, (pss_cons (ps_if (PW.pt (pw_or (pt_not (pt_val (pe_callB (r := rIsi K) (id := "isinstance") call_isi (by rfl) T.z_isinstance (by decide +kernel) (pa_cons (pv 1) (pa_cons (pe_bltn (v := .ty "tuple") (u := .type "tuple") (by rfl) T.z_tuple (by decide +kernel) rfl) pa_nil))))) (pw_or1 (pt_cmpR op_gt (pe_callB (r := rLenQ K) (id := "len") call_len_seq (by rfl) T.z_len (by decide +kernel) (pa_cons (pv 1) pa_nil)) (pe_glob (v := .int 400) (by rfl) T.c_MOST_KINDS.choose_spec ⟨_, rfl⟩) (nomark _))))) (pss_one ps_never) pss_nil)
      (pss_cons (ps_for PassesOwn.never rfl (pi_enumT (by rfl) T.z_enumerate (pa_cons (pv 1) pa_nil)) (pg_tup rfl (pgs_cons (pg_name (i := 2) sc_Book___init__.nd rfl (Or.inl rfl)) (pgs_cons (pg_name (i := 3) sc_Book___init__.nd rfl (Or.inl rfl)) pgs_nil)))
      (pss_one (ps_if (pt_not (pt_val (pe_call G_are_parents hr (by rfl) T.g_are_parents T.F_are_parents.kp T.b_are_parents .nil pass0 (pa_cons (pv 3) (pa_cons (pv 2) pa_nil))))) (pss_one ps_never) pss_nil)))
      (pss_one (ps_expr (pe_meth (pv 0) T.cl_Book T.m_Book_fill G_Book_fill (hr.mono (by decide)) T.b_Book_fill .nil pass0 (pa_cons (pv 1) pa_nil)))))), ?_⟩
    have cB := T.cl_Book
    have nB1 := T.n_Book_parents
    have nB2 := T.n_Book_bits
    obtain ⟨vsP, hpa, hlen, hit⟩ := id hP
    have few := ok.few
    have ty := ty_tup (K := K) hpa
    have tt := tup_tup (K := K)
    tm_at "w"
    refine ⟨_, _, rfl, SqT.of hpa, for_enumT (K := K) (a := pa) (xs := vsP) (fun i σ H' => ∃ x y, σ = [some (.ref b), some (.ref pa), x, y] ∧ Same H H') ?_ ?_ ?_ ?_⟩
    · exact ⟨none, none, rfl, Same.refl H⟩
    · rintro i σ H' ⟨_, _, rfl, s1⟩
      exact SqT.of (s1 _ _ hpa)
    · rintro i x t σ H' hx ⟨x0, y0, rfl, s1⟩ nt
      obtain ⟨ai, p, rfl, hp, hai⟩ := ParL.here ⟨hlen, hit⟩ hx
      have s2 : Same H (upd H' t (.tup [V.int (i : Int), V.ref ai])) := Same.new s1 nt
      have hai2 := s2 _ _ hai
      tm_at "w"
      refine ⟨_, _, true, _, rfl, ty_tup hai2, tup_tup, .inr ⟨ai, natsV p, rfl, hai2, rfl, natsV_int p, ?_⟩⟩
      rw [(ok.ok i p hp).lot]
      refine ⟨_, rfl, iteF ?_⟩
      exact ⟨_, _, rfl, s2⟩
    · rintro σ H' ⟨x0, y0, rfl, s1⟩
      tm_at "w"
      refine ⟨b, dx, [], rfl, s1 _ _ hb, rfl, ?_⟩
      tm_at "w"
      refine ⟨b, dx, pa, [], P, rfl, s1 _ _ hb, .inl rfl, hP.tk (Same.tk s1), ok.rt, by omega, fun lb H2 bt nl at' => ?_⟩
      tm_at "w"
      exact k lb H2 (But.same s1 bt) (Same.free s1 nl) at'
/-- the book that is made of parents -/
theorem mk_book {C : Addr} {K : PySem.W.Frag} {H : Hp} {pa : Addr} {P : List (List Nat)} {Q : Addr → Hp → Prop} {E : XK} (hP : ParAt H pa P) (ok : OkP P)
    (k : ∀ b H', Made C H H' b P → b.pa = pa → Q b.b H') : ∀ x dx, H x = none → H dx = none → dx ≠ x → sp_Book___init__ C K [.ref x, .ref pa] (upd (upd H dx (.own x)) x (.ins C dx [])) (fun v H2 => v = .non ∧ Q x H2) E := by
  intro x dx hx hd ne
  have s1 : Same H (upd (upd H dx (.own x)) x (.ins C dx [])) := Same.mut (Same.new (Same.refl H) hd) hx
  refine ⟨x, dx, pa, P, rfl, upd_same, hP.tk (Same.tk s1), ok, fun lb H' bt nl at' => ⟨rfl, ?_⟩⟩
  exact k ⟨x, dx, pa, lb⟩ H' ⟨But.new s1 hx bt, at', ⟨hx⟩, ⟨Same.free s1 nl⟩⟩ rfl
/-! is_pair -/
theorem within_nat {v : V} {n : Nat} (h : withinB v 0 ((n : Int) - 1) = true) : ∃ x : Nat, v = .int (x : Int) ∧ x < n := by
  cases v with
  | int i =>
    have h : (decide (0 ≤ i) && decide (i ≤ (n : Int) - 1)) = true := h
    rw [Bool.and_eq_true, decide_eq_true_eq, decide_eq_true_eq] at h
    exact ⟨i.toNat, by rw [show ((i.toNat : Nat) : Int) = i by omega], by omega⟩
  | _ => cases h
theorem within_le {v : V} {n : Nat} (h : withinB v 0 (n : Int) = true) : ∃ x : Nat, v = .int (x : Int) ∧ x ≤ n := by
  obtain ⟨x, e, hx⟩ := within_nat (n := n + 1) (v := v) (by rw [show (((n + 1 : Nat) : Int) - 1) = (n : Int) by omega]; exact h)
  exact ⟨x, e, by omega⟩
theorem lot_nats {m : Int} : ∀ {xs : List V} {last : Int}, -1 ≤ last → lotFrom m last xs = true → ∃ q : List Nat, xs = natsV q ∧ q.Pairwise (· < ·) ∧ ∀ x ∈ q, last < (x : Int) ∧ (x : Int) < m
  | [], _, _, _ => ⟨[], rfl, List.Pairwise.nil, fun x hx => by cases hx⟩
  | .int i :: r, last, hl, h => by
    have h : (withinB (.int i) (last + 1) (m - 1) && lotFrom m i r) = true := h
    rw [Bool.and_eq_true] at h
    have h1 : (decide (last + 1 ≤ i) && decide (i ≤ m - 1)) = true := h.1
    rw [Bool.and_eq_true, decide_eq_true_eq, decide_eq_true_eq] at h1
    obtain ⟨q, e, hp, hq⟩ := lot_nats (xs := r) (last := i) (by omega) h.2
    refine ⟨i.toNat :: q, ?_, List.pairwise_cons.mpr ⟨fun y hy => by have := hq y hy; omega, hp⟩, fun x hx => ?_⟩
    · rw [e]
      show _ = V.int ((i.toNat : Nat) : Int) :: natsV q
      rw [show ((i.toNat : Nat) : Int) = i by omega]
    · rcases List.mem_cons.mp hx with e | e
      · rw [e]
        omega
      · have := hq x e
        omega
  | .bl _ :: _, _, _, h => by cases h
  | .non :: _, _, _, h => by cases h
  | .str _ :: _, _, _, h => by cases h
  | .ref _ :: _, _, _, h => by cases h
  | .ty _ :: _, _, _, h => by cases h
  | .flt _ :: _, _, _, h => by cases h
  | .byt _ :: _, _, _, h => by cases h
/-- whether a thing is the parents of a kind with a number -/
def parB (H : Hp) (v : V) (m : Int) : Bool := match v with
  | .ref a => match H a with
    | some (.tup xs) => lotFrom m (-1) xs && decide (xs.length ≤ 6)
    | _ => false
  | _ => false
theorem parB_tup {H : Hp} {a : Addr} {xs : List V} {m : Int} (h : H a = some (.tup xs)) : parB H (.ref a) m = (lotFrom m (-1) xs && decide (xs.length ≤ 6)) := by
  simp only [parB, h]
theorem parB_no {H : Hp} {v : V} {m : Int} (h : ∀ a xs, v = .ref a → H a ≠ some (.tup xs)) : parB H v m = false := by
  unfold parB
  split
  · split
    · rename_i a _ xs e
      exact absurd e (h a xs rfl)
    · rfl
  · rfl
/-- whether a thing is a pair of a kind of a book and a label, and whether one is clauses -/
def twoB (H : Hp) (x : V) : Bool := match x with
  | .ref a => match H a with
    | some (.tup xs) => decide (xs.length = 2)
    | _ => false
  | _ => false
def pairB (H : Hp) (n : Nat) (x : V) : Bool := match x with
  | .ref a => match H a with
    | some (.tup [k, l]) => withinB k 0 ((n : Int) - 1) && isIntB l
    | _ => false
  | _ => false
def clsB (H : Hp) (n : Nat) (v : V) : Bool := match v with
  | .ref a => match H a with
    | some (.tup xs) => decide (xs.length ≤ 40) && xs.all (pairB H n)
    | _ => false
  | _ => false
theorem twoB_tup {H : Hp} {a : Addr} {xs : List V} (h : H a = some (.tup xs)) : twoB H (.ref a) = decide (xs.length = 2) := by
  simp only [twoB, h]
theorem twoB_no {H : Hp} {v : V} (h : ∀ a xs, v = .ref a → H a ≠ some (.tup xs)) : twoB H v = false := by
  unfold twoB
  split
  · split
    · rename_i a _ xs e
      exact absurd e (h a xs rfl)
    · rfl
  · rfl
theorem two_of {H : Hp} {v : V} (h : twoB H v = true) : ∃ a k l, v = .ref a ∧ H a = some (.tup [k, l]) := by
  unfold twoB at h
  split at h
  · split at h
    · rename_i a _ xs e
      match xs, e, of_decide_eq_true h with
      | [k, l], e, _ => exact ⟨a, k, l, rfl, e⟩
    · cases h
  · cases h
theorem pairB_two {H : Hp} {n : Nat} {a : Addr} {k l : V} (h : H a = some (.tup [k, l])) : pairB H n (.ref a) = (withinB k 0 ((n : Int) - 1) && isIntB l) := by
  simp only [pairB, h]
theorem pairB_not {H : Hp} {n : Nat} {v : V} (h : twoB H v = false) : pairB H n v = false := by
  unfold pairB
  split
  · split
    · rename_i a _ k l e
      rw [twoB_tup e] at h
      cases h
    · rfl
  · rfl
theorem clsB_tup {H : Hp} {n : Nat} {a : Addr} {xs : List V} (h : H a = some (.tup xs)) : clsB H n (.ref a) = (decide (xs.length ≤ 40) && xs.all (pairB H n)) := by
  simp only [clsB, h]
theorem clsB_no {H : Hp} {n : Nat} {v : V} (h : ∀ a xs, v = .ref a → H a ≠ some (.tup xs)) : clsB H n v = false := by
  unfold clsB
  split
  · split
    · rename_i a _ xs e
      exact absurd e (h a xs rfl)
    · rfl
  · rfl
theorem pair_of {H : Hp} {n : Nat} {v : V} (h : pairB H n v = true) : ∃ (a : Addr) (c : Nat × Int), v = .ref a ∧ H a = some (.tup [.int (c.1 : Int), .int c.2]) ∧ c.1 < n := by
  have t : twoB H v = true := by
    cases e : twoB H v with
    | true => rfl
    | false =>
      rw [pairB_not e] at h
      cases h
  obtain ⟨a, k, l, rfl, e⟩ := two_of t
  rw [pairB_two e, Bool.and_eq_true] at h
  obtain ⟨x, rfl, hx⟩ := within_nat h.1
  cases l with
  | int i => exact ⟨a, (x, i), rfl, e, hx⟩
  | _ => cases h.2
theorem clsL_of {H : Hp} {n : Nat} : ∀ {xs : List V}, xs.all (pairB H n) = true → ∃ Cs, ClsL H xs Cs ∧ ∀ c ∈ Cs, c.1 < n
  | [], _ => ⟨[], ⟨rfl, fun j c e => by simp at e⟩, fun c hc => by cases hc⟩
  | v :: r, h => by
    rw [List.all_cons, Bool.and_eq_true] at h
    obtain ⟨a, c, rfl, e, l⟩ := pair_of h.1
    obtain ⟨Cs, h1, h2⟩ := clsL_of h.2
    refine ⟨c :: Cs, ⟨by rw [List.length_cons, List.length_cons, h1.1], fun j d hd => ?_⟩, fun d hd => ?_⟩
    · cases j with
      | zero => exact ⟨a, rfl, by rw [← Option.some.inj hd]; exact e⟩
      | succ j => exact h1.2 j d hd
    · rcases List.mem_cons.mp hd with e | e
      · rw [e]; exact l
      · exact h2 d e
theorem cls_of {H : Hp} {n : Nat} {v : V} (h : clsB H n v = true) : ∃ (a : Addr) (Cs : List (Nat × Int)), v = .ref a ∧ ClsAt H a Cs ∧ Cs.length ≤ 40 ∧ ∀ c ∈ Cs, c.1 < n := by
  unfold clsB at h
  split at h
  · split at h
    · rename_i a _ xs e
      rw [Bool.and_eq_true, decide_eq_true_eq] at h
      obtain ⟨Cs, h1, h2⟩ := clsL_of h.2
      exact ⟨a, Cs, rfl, ⟨xs, e, h1⟩, by rw [← h1.1]; exact h.1, h2⟩
    · cases h
  · cases h
theorem pairB_same {C z : Addr} {H H' : Hp} {k n : Nat} {v : V} (h : Th C z H k v) (s : Same H H') : pairB H' n v = pairB H n v := by
  cases h with
  | int _ i => rfl
  | bl _ b => rfl
  | non _ => rfl
  | str _ x => rfl
  | lst _ a xs h1 h2 => simp only [pairB, h2, s _ _ h2]
  | dK _ a xs h1 h2 => simp only [pairB, h2, s _ _ h2]
  | ins _ a dx fs h1 h2 => simp only [pairB, h2, s _ _ h2]
  | tup0 a xs h1 h2 => simp only [pairB, h2, s _ _ h2]
  | tup m a xs h1 h2 h3 h4 => simp only [pairB, h2, s _ _ h2]
theorem twoB_same {C z : Addr} {H H' : Hp} {k : Nat} {v : V} (h : Th C z H k v) (s : Same H H') : twoB H' v = twoB H v := by
  cases h with
  | int _ i => rfl
  | bl _ b => rfl
  | non _ => rfl
  | str _ x => rfl
  | lst _ a xs h1 h2 => simp only [twoB, h2, s _ _ h2]
  | dK _ a xs h1 h2 => simp only [twoB, h2, s _ _ h2]
  | ins _ a dx fs h1 h2 => simp only [twoB, h2, s _ _ h2]
  | tup0 a xs h1 h2 => simp only [twoB, h2, s _ _ h2]
  | tup m a xs h1 h2 h3 h4 => simp only [twoB, h2, s _ _ h2]
theorem all_like {xs : List V} {f g : V → Bool} (h : ∀ x ∈ xs, f x = g x) : xs.all f = xs.all g := by
  induction xs with
  | nil => rfl
  | cons x r ih => rw [List.all_cons, List.all_cons, h x List.mem_cons_self, ih fun y hy => h y (List.mem_cons_of_mem _ hy)]
theorem clsB_same {C z : Addr} {H H' : Hp} {k n : Nat} {v : V} (h : Th C z H (k + 1) v) (s : Same H H') : clsB H' n v = clsB H n v := by
  cases h with
  | int _ i => rfl
  | bl _ b => rfl
  | non _ => rfl
  | str _ x => rfl
  | lst _ a xs h1 h2 => simp only [clsB, h2, s _ _ h2]
  | dK _ a xs h1 h2 => simp only [clsB, h2, s _ _ h2]
  | ins _ a dx fs h1 h2 => simp only [clsB, h2, s _ _ h2]
  | tup m a xs h1 h2 h3 h4 =>
    simp only [clsB, h2, s _ _ h2]
    rw [all_like fun x hx => pairB_same (n := n) (h4 x hx) s]
def sp_is_pair (C : Addr) (K : PySem.W.Frag) : Sp := fun vs H Q _ => ∃ (v : V) (z : Addr), vs = [v] ∧ KitC K C ∧ Th C z H 1 v ∧ Q (.bl (twoB H v)) H
theorem sc_is_pair : FnScope ["thing"] ["thing"] (defScope s_is_pair) := ⟨rfl, rfl, rfl, by decide +kernel, rfl, by decide +kernel, by decide +kernel⟩
theorem ok_is_pair (T : Top P K mg) : FnOk P w K mg base CX0 1 T.f_is_pair T.fd_is_pair ["thing"] (sp_is_pair T.C_Book K) := by
  refine T.F_is_pair.ok sc_is_pair (fun vs H Q E h => ?_) (fun cdv A outer s H vs Q E hr h => ?_)
  · obtain ⟨v, z, rfl, _⟩ := h
    rfl
  · obtain ⟨v, z, rfl, kc, ht, k⟩ := h
    refine ⟨_, (pss_one (ps_ret (pe_and (pe_callB (r := rIsi K) (id := "isinstance") call_isi (by rfl) T.z_isinstance (by decide +kernel) (pa_cons (pv 0) (pa_cons (pe_bltn (v := .ty "tuple") (u := .type "tuple") (by rfl) T.z_tuple (by decide +kernel) rfl) pa_nil))) (pe_one (pe_cmpR op_eq (pe_callB (r := rLenQ K) (id := "len") call_len_seq (by rfl) T.z_len (by decide +kernel) (pa_cons (pv 0) pa_nil)) pe_int (nomark _)))))), ?_⟩
    obtain ⟨t, bt, ty, tt, hh⟩ := ht.ty kc
    rcases hh with ⟨rfl, no⟩ | ⟨a, xs, rfl, ha, rfl, hx, hi⟩
    · rw [twoB_no no] at k
      tm_at "w"
      exact k
    · rw [twoB_tup ha] at k
      tm_at "w"
      have e : decide (V.int (xs.length : Int) = V.int 2) = decide (xs.length = 2) := dec_nat (a := xs.length) (b := 2)
      rw [← e] at k
      exact k
/-! many_of -/
def sp_many_of (C : Addr) (K : PySem.W.Frag) : Sp := fun vs H Q _ => ∃ (l : Bk) (P : List (List Nat)), vs = [.ref l.b] ∧ BookAt C H l P ∧ Q (.int (P.length : Nat)) H
theorem sc_many_of : FnScope ["book"] ["book"] (defScope s_many_of) := ⟨rfl, rfl, rfl, by decide +kernel, rfl, by decide +kernel, by decide +kernel⟩
theorem ok_many_of (T : Top P K mg) : FnOk P w K mg base CX0 1 T.f_many_of T.fd_many_of ["book"] (sp_many_of T.C_Book K) := by
  refine T.F_many_of.ok sc_many_of (fun vs H Q E h => ?_) (fun cdv A outer s H vs Q E hr h => ?_)
  · obtain ⟨l, P, rfl, _⟩ := h
    rfl
  · obtain ⟨l, P, rfl, hl, k⟩ := h
    refine ⟨_, (pss_one (ps_ret (pe_callB (r := rLenQ K) (id := "len") call_len_seq (by rfl) T.z_len (by decide +kernel) (pa_cons (pe_fld (pv 0) rfl) pa_nil)))), ?_⟩
    have cB := T.cl_Book
    have nB1 := T.n_Book_parents
    have nB2 := T.n_Book_bits
    have hli := hl.ins
    obtain ⟨xs, hx, hxl⟩ := id hl.par
    rw [← hxl.1] at k
    tm_at "w"
    exact k
/-! is_one -/
theorem bit_val (b p : Nat) : Builtin.bitAnd ((b : Int) / 2 ^ ((p : Int)).toNat) 1 = if b.testBit p then 1 else 0 := by
  rw [PyProof.Rows.bitAnd_m1, Int.toNat_natCast]
  have e : ((b : Int) / 2 ^ p) % 2 = ((b / 2 ^ p % 2 : Nat) : Int) := by
    rw [Int.natCast_emod, Int.natCast_ediv, Int.natCast_pow]
    rfl
  rw [e, Nat.testBit_eq_decide_div_mod_eq]
  have h : b / 2 ^ p % 2 < 2 := Nat.mod_lt _ (by decide)
  by_cases h1 : b / 2 ^ p % 2 = 1
  · rw [h1]
    rfl
  · have h0 : b / 2 ^ p % 2 = 0 := by omega
    rw [h0]
    rfl
theorem bit_one (b p : Nat) : decide (V.int (Builtin.bitAnd ((b : Int) / 2 ^ ((p : Int)).toNat) 1) = V.int 1) = b.testBit p := by
  rw [bit_val]
  cases b.testBit p
  · exact decide_eq_false (by intro e; cases e)
  · exact decide_eq_true rfl
def sp_is_one (C : Addr) (K : PySem.W.Frag) : Sp := fun vs H Q _ => ∃ (l : Bk) (P : List (List Nat)) (x p : Nat), vs = [.ref l.b, .int x, .int p] ∧ BookAt C H l P ∧ x < P.length ∧ Q (.bl (isA P x p)) H
theorem sc_is_one : FnScope ["book", "x", "p"] ["book", "x", "p"] (defScope s_is_one) := ⟨rfl, rfl, rfl, by decide +kernel, rfl, by decide +kernel, by decide +kernel⟩
theorem ok_is_one (T : Top P K mg) : FnOk P w K mg base CX0 1 T.f_is_one T.fd_is_one ["book", "x", "p"] (sp_is_one T.C_Book K) := by
  refine T.F_is_one.ok sc_is_one (fun vs H Q E h => ?_) (fun cdv A outer s H vs Q E hr h => ?_)
  · obtain ⟨l, P, x, p, rfl, _⟩ := h
    rfl
  · obtain ⟨l, P, x, p, rfl, hl, hx, k⟩ := h
    refine ⟨_, (pss_one (ps_ret (pe_cmpR op_eq (pe_op op_and (pe_op op_shr (pe_ix (r := rIxL K) ix_list (pe_fld (pv 0) rfl) (pv 1) (fun _ _ => rfl)) (pv 2)) pe_int) pe_int (nomark _)))), ?_⟩
    have cB := T.cl_Book
    have nB1 := T.n_Book_parents
    have nB2 := T.n_Book_bits
    have hli := hl.ins
    have hb : (bitsOf P)[x]? = some ((bitsOf P).getD x 0) := by
      rw [List.getD_eq_getElem?_getD, List.getElem?_eq_getElem (by rw [bitsOf_len]; exact hx)]
      rfl
    have hb2 := natsV_at hb
    have hbits := hl.bits
    tm_at "w"
    have e : isA P x p = decide (V.int (Builtin.bitAnd ((((bitsOf P).getD x 0 : Nat) : Int) / 2 ^ ((p : Int)).toNat) 1) = V.int 1) := (bit_one _ _).symm
    rw [e] at k
    exact k
/-! forebears_of -/
def sp_forebears_of (C : Addr) (K : PySem.W.Frag) : Sp := fun vs H Q _ => ∃ (l : Bk) (P : List (List Nat)) (x : Nat), vs = [.ref l.b, .int x] ∧ BookAt C H l P ∧ x < P.length ∧ P.length ≤ 1000 ∧
  ∀ t H', Same H H' → H' t = some (.tup (natsV (foreB P x))) → Q (.ref t) H'
theorem sc_forebears_of : FnScope ["book", "x", "p"] ["book", "x"] (defScope s_forebears_of) := ⟨rfl, rfl, rfl, by decide +kernel, rfl, by decide +kernel, by decide +kernel⟩
theorem ok_forebears_of (T : Top P K mg) : FnOk P w K mg base CX0 2 T.f_forebears_of T.fd_forebears_of ["book", "x"] (sp_forebears_of T.C_Book K) := by
  have G_is_one := ok_is_one (P := P) (w := w) (base := base) T
  refine T.F_forebears_of.ok sc_forebears_of (fun vs H Q E h => ?_) (fun cdv A outer s H vs Q E hr h => ?_)
  · obtain ⟨l, P, x, rfl, _⟩ := h
    rfl
  · obtain ⟨l, P, x, rfl, hl, hx, hn, k⟩ := h
    refine ⟨_, (pss_one (ps_ret (pe_callTy (r := rTupQ K) (T := "tuple") call_tuple_of (by rfl) T.z_tuple (by decide +kernel) (pa_cons (pe_lc (own := [("p", 2)]) (g := gName 2) rfl sc_forebears_of.nd (pi_range1 rfl T.z_range (pa_cons (pv 1) pa_nil)) (blkOk_by (own := [("p", 2)]) (N := ["book", "x", "p"]) (sc := defScope s_forebears_of) (by decide +kernel)) (fun _ _ _ _ _ => (pg_name (i := 2) sc_forebears_of.nd rfl (Or.inl rfl))) (fun _ _ _ _ _ => (pts_one (pt_val (pe_call G_is_one hr (by rfl) T.g_is_one T.F_is_one.kp T.b_is_one .nil pass0 (pa_cons (pv 0) (pa_cons (pv 1) (pa_cons (pv 2) pa_nil))))))) (fun _ _ _ _ _ => (pv 2))) pa_nil)))), ?_⟩
    have cB := T.cl_Book
    have nB1 := T.n_Book_parents
    have nB2 := T.n_Book_bits
    have hli := hl.ins
    tm_at "w"
    intro D nD
    refine lc_rangeF (fun i => if isA P x i = true then some (V.int (i : Int)) else none) nD (by omega) ?_ ?_
    · intro i H' N M hi s1 kN kM
      have hl' := hl.same s1
      rw [Int.zero_add]
      tm_at "w"
      refine ⟨l, P, x, i, rfl, hl', hx, ?_⟩
      refine ⟨_, rfl, ?_⟩
      refine iteB (fun e => ?_) (fun e => ?_)
      · tm_at "w"
        exact kN _ _ (by rw [e]; rfl) (Same.refl H')
      · exact kM _ (by rw [e]; rfl) (Same.refl H')
    · intro H' s1 hD
      rw [Int.toNat_natCast, filter_nats] at hD
      tm_at "w"
      intro t nt
      exact k t _ (Same.new s1 nt) upd_same
/-! check_number -/
def sp_check_number (C_NoNumber : Addr) (K : PySem.W.Frag) : Sp := fun vs H Q E => ∃ (v : V) (lo hi : Int), vs = [v, .int lo, .int hi] ∧ IntK K H v ∧ (withinB v lo hi = true → Q .non H) ∧ (withinB v lo hi = false → E (.ref C_NoNumber) none H)
theorem sc_check_number : FnScope ["thing", "least", "most"] ["thing", "least", "most"] (defScope s_check_number) := ⟨rfl, rfl, rfl, by decide +kernel, rfl, by decide +kernel, by decide +kernel⟩
theorem ok_check_number (T : Top P K mg) : FnOk P w K mg base (L2.CX P w) 3 T.f_check_number T.fd_check_number ["thing", "least", "most"] (sp_check_number T.C_NoNumber K) := by
  have G_NoNumber___init__ := ok_NoNumber___init__ (P := P) (w := w) (base := base) T
  have G_is_within := ok_is_within (P := P) (w := w) (base := base) T
  refine T.F_check_number.okX sc_check_number (fun vs H Q E h => ?_) (fun cdv A outer s H vs Q E hr h => ?_)
  · obtain ⟨v, lo, hi, rfl, _⟩ := h
    rfl
  · obtain ⟨v, lo, hi, rfl, hv, k, ke⟩ := h
    refine ⟨_, (pss_one (ps_if (pt_not (pt_val (pe_call G_is_within hr (by rfl) T.g_is_within T.F_is_within.kp T.b_is_within .nil pass0 (pa_cons (pv 0) (pa_cons (pv 1) (pa_cons (pv 2) pa_nil)))))) (pss_one (ps_raise rfl (takes_of rfl rfl rfl rfl) (pmk_n T.er_NoNumber.ex T.er_NoNumber.ic T.er_NoNumber.ti G_NoNumber___init__ (hr.mono (by decide)) T.er_NoNumber.bi pass0 (by rfl) T.er_NoNumber.g))) pss_nil)), ?_⟩
    tm_at "w"
    refine ⟨v, lo, hi, rfl, hv, ?_⟩
    refine ⟨_, rfl, ?_⟩
    cases e : withinB v lo hi with
    | true =>
      refine iteEF (by rfl) ?_
      exact k e
    | false =>
      refine iteET (by rfl) ?_
      exact ke e
/-! check_fields -/
/-- right fields for n kinds -/
def fldB (H : Hp) (v : V) (n : Nat) : Bool := match v with
  | .ref a => match H a with
    | some (.tup xs) => decide (xs.length = n) && xs.all fun v => withinB v 0 6
    | _ => false
  | _ => false
theorem fldB_tup {H : Hp} {a : Addr} {xs : List V} {n : Nat} (h : H a = some (.tup xs)) : fldB H (.ref a) n = (decide (xs.length = n) && xs.all fun v => withinB v 0 6) := by
  simp only [fldB, h]
theorem fldB_no {H : Hp} {v : V} {n : Nat} (h : ∀ a xs, v = .ref a → H a ≠ some (.tup xs)) : fldB H v n = false := by
  unfold fldB
  split
  · split
    · rename_i a _ xs e
      exact absurd e (h a xs rfl)
    · rfl
  · rfl
theorem fldB_nats {H : Hp} {a : Addr} {F : List Nat} {n : Nat} (h : H a = some (.tup (natsV F))) (hl : F.length = n) (h6 : ∀ x ∈ F, x ≤ 6) : fldB H (.ref a) n = true := by
  rw [fldB_tup h, natsV_len, decide_eq_true hl, Bool.true_and]
  refine List.all_eq_true.mpr fun v hv => ?_
  obtain ⟨x, hx, rfl⟩ := List.mem_map.mp hv
  have := h6 x hx
  show (decide (0 ≤ ((x : Nat) : Int)) && decide (((x : Nat) : Int) ≤ 6)) = true
  rw [decide_eq_true (by omega), decide_eq_true (by omega)]
  rfl
def sp_check_fields (C : Addr) (C_NoFields : Addr) (K : PySem.W.Frag) : Sp := fun vs H Q E => ∃ (l : Bk) (v : V) (P : List (List Nat)) (z : Addr), vs = [.ref l.b, v] ∧ BookAt C H l P ∧ P.length ≤ 400 ∧ KitC K C ∧ Th C z H 1 v ∧
  (fldB H v P.length = true → ∀ H', Same H H' → Q .non H') ∧ (fldB H v P.length = false → ∀ H', Same H H' → E (.ref C_NoFields) none H')
theorem sc_check_fields : FnScope ["book", "thing", "number"] ["book", "thing"] (defScope s_check_fields) := ⟨rfl, rfl, rfl, by decide +kernel, rfl, by decide +kernel, by decide +kernel⟩
theorem ok_check_fields (T : Top P K mg) : FnOk P w K mg base (L2.CX P w) 3 T.f_check_fields T.fd_check_fields ["book", "thing"] (sp_check_fields T.C_Book T.C_NoFields K) := by
  have G_NoFields___init__ := ok_NoFields___init__ (P := P) (w := w) (base := base) T
  have G_is_within := ok_is_within (P := P) (w := w) (base := base) T
  have G_many_of := ok_many_of (P := P) (w := w) (base := base) T
  refine T.F_check_fields.okX sc_check_fields (fun vs H Q E h => ?_) (fun cdv A outer s H vs Q E hr h => ?_)
  · obtain ⟨l, v, P, z, rfl, _⟩ := h
    rfl
  · obtain ⟨l, v, P, z, rfl, hl, few, kc, ht, k, ke⟩ := h
    refine ⟨_, (pss_cons (ps_if (PW.pt (pw_or (pt_not (pt_val (pe_callB (r := rIsi K) (id := "isinstance") call_isi (by rfl) T.z_isinstance (by decide +kernel) (pa_cons (pv 1) (pa_cons (pe_bltn (v := .ty "tuple") (u := .type "tuple") (by rfl) T.z_tuple (by decide +kernel) rfl) pa_nil))))) (pw_or1 (pt_cmpR op_ne (pe_callB (r := rLenQ K) (id := "len") call_len_seq (by rfl) T.z_len (by decide +kernel) (pa_cons (pv 1) pa_nil)) (pe_call G_many_of (hr.mono (by decide)) (by rfl) T.g_many_of T.F_many_of.kp T.b_many_of .nil pass0 (pa_cons (pv 0) pa_nil)) (nomark _))))) (pss_one (ps_raise rfl (takes_of rfl rfl rfl rfl) (pmk_n T.er_NoFields.ex T.er_NoFields.ic T.er_NoFields.ti G_NoFields___init__ (hr.mono (by decide)) T.er_NoFields.bi pass0 (by rfl) T.er_NoFields.g))) pss_nil)
      (pss_one (ps_if (pt_not (pt_val (pe_callB (r := rAll K) (id := "all") (cr_all rfl) (by rfl) T.z_all (by decide +kernel) (pa_cons (pe_lc (own := [("number", 2)]) (g := gName 2) (tt := tYes) rfl sc_check_fields.nd (pi_tup (pv 1)) (blkOk_by (own := [("number", 2)]) (N := ["book", "thing", "number"]) (sc := defScope s_check_fields) (by decide +kernel)) (fun _ _ _ _ _ => (pg_name (i := 2) sc_check_fields.nd rfl (Or.inl rfl))) (fun _ _ _ _ _ => pts_nil) (fun _ _ _ _ _ => (pe_call G_is_within hr (by rfl) T.g_is_within T.F_is_within.kp T.b_is_within .nil pass0 (pa_cons (pv 2) (pa_cons pe_int (pa_cons (pe_glob (v := .int 6) (by rfl) T.c_MOST_BROUGHT.choose_spec ⟨_, rfl⟩) pa_nil)))))) pa_nil)))) (pss_one (ps_raise rfl (takes_of rfl rfl rfl rfl) (pmk_n T.er_NoFields.ex T.er_NoFields.ic T.er_NoFields.ti G_NoFields___init__ (hr.mono (by decide)) T.er_NoFields.bi pass0 (by rfl) T.er_NoFields.g))) pss_nil))), ?_⟩
    obtain ⟨t, bt, ty, tt, hh⟩ := ht.ty kc
    rcases hh with ⟨rfl, no⟩ | ⟨a, xs, rfl, ha, rfl, hx, hi⟩
    · have ke := ke (fldB_no no) H (Same.refl H)
      tm_at "w"
      exact ke
    · rw [fldB_tup ha] at k ke
      tm_at "w"
      refine ⟨l, P, rfl, hl, ?_⟩
      tm_at "w"
      by_cases zl : xs.length = P.length
      · rw [decide_eq_true zl, Bool.true_and] at k ke
        refine iteEF ?_ ?_
        · rw [zl]
          simp
        tm_at "w"
        refine ⟨⟨_, SqT.of ha⟩, fun D nD => lc_tupF (fun i => xs[i]?.map fun v => V.bl (withinB v 0 6)) ha nD (by omega) ?_ ?_⟩
        · intro i x H1 N M hx s1 kN kM
          have xm := List.mem_of_getElem? hx
          have hk := ((hi x xm).same s1).intK kc
          tm_at "w"
          refine ⟨x, 0, 6, rfl, hk, ?_⟩
          exact kN _ _ (by rw [hx]; rfl) (Same.refl H1)
        · intro H1 s1 hD
          rw [range_items] at hD
          have e : xs.map (fun v => V.bl (withinB v 0 6)) = (xs.map fun v => withinB v 0 6).map V.bl := by rw [List.map_map]; rfl
          rw [e] at hD
          tm_at "w"
          refine ⟨_, _, rfl, SqL.of hD, ?_⟩
          have e3 : (xs.map fun v => withinB v 0 6).all id = xs.all fun v => withinB v 0 6 := by rw [List.all_map]; rfl
          rw [e3]
          cases c : xs.all (fun v => withinB v 0 6) with
          | false =>
            tm_at "w"
            exact ke c H1 s1
          | true =>
            tm_at "w"
            exact k c H1 s1
      · rw [decide_eq_false zl, Bool.false_and] at k ke
        refine iteET ?_ ?_
        · simp
          exact fun e => zl (by omega)
        tm_at "w"
        exact ke rfl H (Same.refl H)
/-! is_place -/
/-! ### layings: the plain law -/
/-- xs shows l, item by item -/
def RL {α : Type} (R : V → α → Prop) (xs : List V) (l : List α) : Prop := xs.length = l.length ∧ ∀ (j : Nat) v s, xs[j]? = some v → l[j]? = some s → R v s
theorem RL.nil {α : Type} {R : V → α → Prop} : RL R [] [] := ⟨rfl, fun j v s e _ => by simp at e⟩
theorem RL.cons {α : Type} {R : V → α → Prop} {v : V} {s : α} {xs : List V} {l : List α} (h : R v s) (r : RL R xs l) : RL R (v :: xs) (s :: l) :=
  ⟨by rw [List.length_cons, List.length_cons, r.1], fun j u t e f => by
    cases j with
    | zero =>
      rw [← Option.some.inj e, ← Option.some.inj f]
      exact h
    | succ j => exact r.2 j u t e f⟩
theorem RL.tail {α : Type} {R : V → α → Prop} {v : V} {s : α} {xs : List V} {l : List α} (r : RL R (v :: xs) (s :: l)) : R v s ∧ RL R xs l :=
  ⟨r.2 0 v s rfl rfl, by have := r.1; simp only [List.length_cons] at this; omega, fun j u t e f => r.2 (j + 1) u t e f⟩
theorem RL.inv {α : Type} {R : V → α → Prop} {v : V} {xs : List V} {l : List α} (r : RL R (v :: xs) l) : ∃ s l2, l = s :: l2 ∧ R v s ∧ RL R xs l2 := by
  cases l with
  | nil => cases r.1
  | cons s l2 => exact ⟨s, l2, rfl, r.tail.1, r.tail.2⟩
theorem RL.append {α : Type} {R : V → α → Prop} : ∀ {xs ys : List V} {l m : List α}, RL R xs l → RL R ys m → RL R (xs ++ ys) (l ++ m)
  | [], _, [], _, _, h => h
  | [], _, _ :: _, _, h, _ => by cases h.1
  | _ :: _, _, [], _, h, _ => by cases h.1
  | _ :: _, _, _ :: _, _, h, h2 => RL.cons h.tail.1 (RL.append h.tail.2 h2)
theorem RL.snoc {α : Type} {R : V → α → Prop} {v : V} {s : α} {xs : List V} {l : List α} (r : RL R xs l) (h : R v s) : RL R (xs ++ [v]) (l ++ [s]) := r.append (RL.cons h RL.nil)
theorem RL.imp {α : Type} {R S : V → α → Prop} {xs : List V} {l : List α} (r : RL R xs l) (h : ∀ v s, R v s → S v s) : RL S xs l := ⟨r.1, fun j v s e f => h v s (r.2 j v s e f)⟩
theorem RL.at {α : Type} {R : V → α → Prop} {xs : List V} {l : List α} (r : RL R xs l) {j : Nat} {v : V} (e : xs[j]? = some v) : ∃ s, l[j]? = some s ∧ R v s := by
  have hj := (List.getElem?_eq_some_iff.mp e).1
  rw [r.1] at hj
  exact ⟨_, List.getElem?_eq_getElem hj, r.2 j v _ e (List.getElem?_eq_getElem hj)⟩
theorem RL.at' {α : Type} {R : V → α → Prop} {xs : List V} {l : List α} (r : RL R xs l) {j : Nat} {s : α} (e : l[j]? = some s) : ∃ v, xs[j]? = some v ∧ R v s := by
  have hj := (List.getElem?_eq_some_iff.mp e).1
  rw [← r.1] at hj
  exact ⟨_, List.getElem?_eq_getElem hj, r.2 j _ s (List.getElem?_eq_getElem hj) e⟩
theorem RL.take {α : Type} {R : V → α → Prop} {xs : List V} {l : List α} (r : RL R xs l) (k : Nat) : RL R (xs.take k) (l.take k) :=
  ⟨by rw [List.length_take, List.length_take, r.1], fun j v s e f => by
    rw [List.getElem?_take] at e f
    split at e
    · rename_i c
      rw [if_pos c] at f
      exact r.2 j v s e f
    · cases e⟩
theorem RL.drop {α : Type} {R : V → α → Prop} {xs : List V} {l : List α} (r : RL R xs l) (k : Nat) : RL R (xs.drop k) (l.drop k) :=
  ⟨by rw [List.length_drop, List.length_drop, r.1], fun j v s e f => by
    rw [List.getElem?_drop] at e f
    exact r.2 _ v s e f⟩
/-- a place: an arm and an index; the places of a kind; a laying -/
def SpotV (H : Hp) (v : V) (s : Nat × Nat) : Prop := ∃ c, v = .ref c ∧ H c = some (.tup [.int ((s.1 : Nat) : Int), .int ((s.2 : Nat) : Int)])
def SpotsAt (H : Hp) (v : V) (l : List (Nat × Nat)) : Prop := ∃ b ys, v = .ref b ∧ H b = some (.tup ys) ∧ RL (SpotV H) ys l
def LayAt (H : Hp) (a : Addr) (L : List (List (Nat × Nat))) : Prop := ∃ xs, H a = some (.tup xs) ∧ RL (SpotsAt H) xs L
theorem SpotV.tk {H H' : Hp} {v : V} {s : Nat × Nat} (h : SpotV H v s) (k : TK H H') : SpotV H' v s := by
  obtain ⟨c, e, f⟩ := h
  exact ⟨c, e, k _ _ f⟩
theorem SpotsAt.tk {H H' : Hp} {v : V} {l : List (Nat × Nat)} (h : SpotsAt H v l) (k : TK H H') : SpotsAt H' v l := by
  obtain ⟨b, ys, e, f, g⟩ := h
  exact ⟨b, ys, e, k _ _ f, g.imp fun v s z => z.tk k⟩
theorem LayAt.tk {H H' : Hp} {a : Addr} {L : List (List (Nat × Nat))} (h : LayAt H a L) (k : TK H H') : LayAt H' a L := by
  obtain ⟨xs, f, g⟩ := h
  exact ⟨xs, k _ _ f, g.imp fun v s z => z.tk k⟩
theorem LayAt.at {H : Hp} {a : Addr} {L : List (List (Nat × Nat))} (h : LayAt H a L) {x : Nat} (hx : x < L.length) : ∃ xs b ys, H a = some (.tup xs) ∧ xs.length = L.length ∧ xs[x]? = some (.ref b) ∧ H b = some (.tup ys) ∧ RL (SpotV H) ys (L.getD x []) := by
  obtain ⟨xs, f, g⟩ := h
  obtain ⟨v, e, b, ys, rfl, h1, h2⟩ := g.at' (List.getElem?_eq_getElem hx)
  exact ⟨xs, b, ys, f, g.1, e, h1, by rw [List.getD_eq_getElem?_getD, List.getElem?_eq_getElem hx]; exact h2⟩
/-- all places of an object; its indexes on an arm; the least index that is none or twice -/
def lotS (L : List (List (Nat × Nat))) (q : List Nat) : List (Nat × Nat) := q.flatMap fun p => L.getD p []
def objS (P : List (List Nat)) (L : List (List (Nat × Nat))) (x : Nat) : List (Nat × Nat) := lotS L (foreB P x ++ [x])
def armI (o : List (Nat × Nat)) (a : Nat) : List Nat := (o.filter fun s => decide (s.1 = a)).map (·.2)
def badI (own : List Nat) : Option Nat := (List.range own.length).find? fun t => !decide (own.count t = 1)
def HoleIs (o : List (Nat × Nat)) : Option (Nat × Nat) → Prop
  | none => ∀ a, badI (armI o a) = none
  | some r => badI (armI o r.1) = some r.2 ∧ ∀ b, b < r.1 → badI (armI o b) = none
def FirstIs (P : List (List Nat)) (L : List (List (Nat × Nat))) : Option (Nat × Nat × Nat) → Prop
  | none => ∀ x, x < P.length → HoleIs (objS P L x) none
  | some r => r.1 < P.length ∧ HoleIs (objS P L r.1) (some r.2) ∧ ∀ y, y < r.1 → HoleIs (objS P L y) none
theorem HoleIs.uniq {o : List (Nat × Nat)} : ∀ {r s : Option (Nat × Nat)}, HoleIs o r → HoleIs o s → r = s
  | none, none, _, _ => rfl
  | none, some s, h, h2 => by
    have z := h s.1
    rw [h2.1] at z
    cases z
  | some r, none, h, h2 => by
    have z := h2 r.1
    rw [h.1] at z
    cases z
  | some (a, i), some (b, j), h, h2 => by
    have h1 : badI (armI o a) = some i := h.1
    have h3 : badI (armI o b) = some j := h2.1
    rcases Nat.lt_trichotomy a b with l | l | l
    · have z := h2.2 a l
      rw [h1] at z
      cases z
    · subst l
      rw [h1] at h3
      rw [Option.some.inj h3]
    · have z := h.2 b l
      rw [h3] at z
      cases z
theorem FirstIs.uniq {P : List (List Nat)} {L : List (List (Nat × Nat))} : ∀ {r s : Option (Nat × Nat × Nat)}, FirstIs P L r → FirstIs P L s → r = s
  | none, none, _, _ => rfl
  | none, some s, h, h2 => by cases (h s.1 h2.1).uniq h2.2.1
  | some r, none, h, h2 => by cases (h2 r.1 h.1).uniq h.2.1
  | some (a, r), some (b, s), h, h2 => by
    have h1 : HoleIs (objS P L a) (some r) := h.2.1
    have h3 : HoleIs (objS P L b) (some s) := h2.2.1
    rcases Nat.lt_trichotomy a b with l | l | l
    · cases (h2.2.2 a l).uniq h1
    · subst l
      rw [Option.some.inj (h1.uniq h3)]
    · cases (h.2.2 b l).uniq h3
theorem badI_perm {a b : List Nat} (h : a.Perm b) : badI a = badI b := by
  unfold badI
  rw [h.length_eq]
  congr 1
  funext t
  rw [h.count_eq t]
theorem badI_none {o : List Nat} (h : ∀ t, t < o.length → o.count t = 1) : badI o = none := by
  unfold badI
  rw [List.find?_eq_none]
  intro t ht
  rw [h t (List.mem_range.mp ht)]
  decide
theorem badI_some {o : List Nat} {t : Nat} (h : ∀ i, i < t → o.count i = 1) (ht : t < o.length) (hc : o.count t ≠ 1) : badI o = some t := by
  unfold badI
  rw [List.find?_range_eq_some]
  refine ⟨by rw [decide_eq_false hc]; rfl, List.mem_range.mpr ht, fun j hj => ?_⟩
  rw [h j hj]
  rfl
theorem count_upto {S : List Nat} (hs : S.Pairwise (· ≤ ·)) {t : Nat} (h : ∀ i, i < t → S[i]? = some i) (hn : ∀ v, S[t]? = some v → t ≤ v) {i : Nat} (hi : i < t) : S.count i = 1 := by
  have hl : t ≤ S.length := by
    rcases Nat.lt_or_ge S.length t with l | l
    · have := h S.length l
      rw [List.getElem?_eq_none (Nat.le_refl _)] at this
      cases this
    · exact l
  have e1 : S.take t = List.range t := by
    apply List.ext_getElem?
    intro j
    rw [List.getElem?_take]
    split
    · rename_i c
      rw [h j c, List.getElem?_range c]
    · rename_i c
      rw [List.getElem?_eq_none (by rw [List.length_range]; omega)]
  rw [← List.take_append_drop t S, List.count_append, e1]
  have e2 : (S.drop t).count i = 0 := by
    rw [List.count_eq_zero]
    intro hm
    obtain ⟨j, hj, ej⟩ := List.mem_iff_getElem.mp hm
    rw [List.length_drop] at hj
    rw [List.getElem_drop] at ej
    have h0 : t < S.length := by omega
    have l0 := hn S[t] (List.getElem?_eq_getElem h0)
    have l1 : S[t] ≤ S[t + j] := by
      rcases Nat.eq_zero_or_pos j with z | z
      · subst z
        exact Nat.le_refl _
      · exact List.pairwise_iff_getElem.mp hs t (t + j) h0 (by omega) (by omega)
    omega
  rw [e2, List.nodup_range.count, if_pos (List.mem_range.mpr hi)]
theorem badI_full {S : List Nat} (hs : S.Pairwise (· ≤ ·)) (h : ∀ i, i < S.length → S[i]? = some i) : badI S = none :=
  badI_none fun t ht => count_upto hs (t := S.length) h (fun v e => by rw [List.getElem?_eq_none (Nat.le_refl _)] at e; cases e) ht
theorem badI_at {S : List Nat} (hs : S.Pairwise (· ≤ ·)) {t v : Nat} (h : ∀ i, i < t → S[i]? = some i) (hv : S[t]? = some v) (ne : v ≠ t) : badI S = some (min v t) := by
  have ht := (List.getElem?_eq_some_iff.mp hv).1
  rcases Nat.lt_or_ge t v with l | l
  · rw [Nat.min_eq_right (by omega)]
    refine badI_some (fun i hi => count_upto hs h (fun w e => by rw [hv] at e; cases e; omega) hi) ht fun c => ?_
    have := count_upto hs (t := t) h (fun w e => by rw [hv] at e; cases e; omega) (i := t)
    have hm : t ∈ S := by
      rw [← List.count_pos_iff, c]
      exact Nat.one_pos
    obtain ⟨j, hj, ej⟩ := List.mem_iff_getElem.mp hm
    have ev : S[t] = v := (List.getElem?_eq_some_iff.mp hv).2
    rcases Nat.lt_trichotomy j t with z | z | z
    · have := h j z
      rw [List.getElem?_eq_getElem hj] at this
      have := Option.some.inj this
      omega
    · subst z
      omega
    · have := List.pairwise_iff_getElem.mp hs t j ht hj z
      omega
  · have lt : v < t := by omega
    obtain ⟨u, rfl⟩ : ∃ u, t = u + 1 := ⟨t - 1, by omega⟩
    have hu := h u (by omega)
    have hul := (List.getElem?_eq_some_iff.mp hu).1
    have e1 : S[u] = u := (List.getElem?_eq_some_iff.mp hu).2
    have e2 : S[u + 1] = v := (List.getElem?_eq_some_iff.mp hv).2
    have l2 := List.pairwise_iff_getElem.mp hs u (u + 1) hul ht (by omega)
    obtain rfl : v = u := by omega
    rw [Nat.min_eq_left (by omega)]
    refine badI_some (fun i hi => count_upto hs (t := v) (fun j hj => h j (by omega)) (fun w e => by rw [hu] at e; cases e; omega) hi) hul fun c => ?_
    have d1 : S = S.take v ++ ([v, v] ++ S.drop (v + 2)) := by
      have a1 : S.drop v = v :: S.drop (v + 1) := by rw [List.drop_eq_getElem_cons hul, e1]
      have a2 : S.drop (v + 1) = v :: S.drop (v + 2) := by rw [List.drop_eq_getElem_cons ht, e2]
      rw [show [v, v] ++ S.drop (v + 2) = S.drop v by rw [a1, a2]; rfl, List.take_append_drop]
    rw [d1, List.count_append, List.count_append] at c
    have c2 : List.count v [v, v] = 2 := by simp
    omega
theorem armI_append (o p : List (Nat × Nat)) (a : Nat) : armI (o ++ p) a = armI o a ++ armI p a := by
  unfold armI
  rw [List.filter_append, List.map_append]
theorem armI_perm {o p : List (Nat × Nat)} (h : o.Perm p) (a : Nat) : (armI o a).Perm (armI p a) := (h.filter _).map _
theorem badI_nil : badI [] = none := rfl
theorem badI_range (n : Nat) : badI (List.range n) = none := badI_none fun t ht => by
  rw [List.length_range] at ht
  rw [List.nodup_range.count, if_pos (List.mem_range.mpr ht)]
theorem armI_nil_of {o : List (Nat × Nat)} {a : Nat} (h : ∀ s ∈ o, s.1 ≠ a) : armI o a = [] := by
  unfold armI
  rw [List.filter_eq_nil_iff.mpr fun s hs => by rw [decide_eq_false (h s hs)]; decide]
  rfl
/-- fields put on arms, each behind all that its object has there -/
def Poured (P : List (List Nat)) (L : List (List (Nat × Nat))) : Prop := ∀ x, x < P.length → ∀ a, armI (L.getD x []) a = List.range' (armI (lotS L (foreB P x)) a).length (armI (L.getD x []) a).length
def Mixed (L M : List (List (Nat × Nat))) : Prop := ∀ x, (M.getD x []).Perm (L.getD x [])
theorem foreB_root {P : List (List Nat)} (h : OkP P) {x : Nat} (hx : P[x]? = some []) : foreB P x = [] := by
  unfold foreB
  rw [List.filter_eq_nil_iff]
  intro k hk
  rw [isA_rec h.rt hx]
  have := List.mem_range.mp hk
  rw [decide_eq_false (by omega)]
  exact Bool.false_ne_true
theorem foreB_one {P : List (List Nat)} (h : OkP P) {x p : Nat} (hx : P[x]? = some [p]) : foreB P x = foreB P p ++ [p] := by
  have hp : p < x := h.rt x [p] hx p List.mem_cons_self
  have hpl : p < P.length := by
    have := (List.getElem?_eq_some_iff.mp hx).1
    omega
  unfold foreB
  have e : List.range x = List.range p ++ ([p] ++ List.range' (p + 1) (x - (p + 1))) := by
    rw [List.range_eq_range', List.range_eq_range', ← List.append_assoc]
    rw [show List.range' 0 p ++ [p] = List.range' 0 (p + 1) by rw [List.range'_concat]; simp]
    rw [show List.range' (p + 1) (x - (p + 1)) = List.range' (0 + 1 * (p + 1)) (x - (p + 1)) by congr 1; omega, List.range'_append]
    congr 1
    omega
  rw [e, List.filter_append, List.filter_append]
  have f : ∀ k, k < x → isA P x k = isA P p k := fun k hk => by
    rw [isA_rec h.rt hx, decide_eq_false (by omega)]
    simp
  congr 1
  · exact List.filter_congr fun k hk => f k (by have := List.mem_range.mp hk; omega)
  · have g1 : [p].filter (isA P x) = [p] := by rw [List.filter_cons, f p hp, isA_refl h.rt hpl]; rfl
    have g2 : (List.range' (p + 1) (x - (p + 1))).filter (isA P x) = [] := by
      rw [List.filter_eq_nil_iff]
      intro k hk
      rw [List.mem_range'_1] at hk
      rw [f k (by omega)]
      intro z
      have := isA_le h.rt z
      omega
    rw [g1, g2]
    rfl
theorem lotS_append (L : List (List (Nat × Nat))) (q r : List Nat) : lotS L (q ++ r) = lotS L q ++ lotS L r := List.flatMap_append
theorem lotS_one (L : List (List (Nat × Nat))) (x : Nat) : lotS L [x] = L.getD x [] := by simp [lotS]
theorem lotS_perm {L M : List (List (Nat × Nat))} (h : Mixed L M) : ∀ q : List Nat, (lotS M q).Perm (lotS L q)
  | [] => .refl _
  | x :: r => by
    rw [show x :: r = [x] ++ r from rfl, lotS_append, lotS_append, lotS_one, lotS_one]
    exact (h x).append (lotS_perm h r)
theorem tree_arms {P : List (List Nat)} {L : List (List (Nat × Nat))} (h : OkP P) (one : ∀ p ∈ P, p.length ≤ 1) (hp : Poured P L) : ∀ x, x < P.length → ∀ a, ∃ n, armI (objS P L x) a = List.range n := by
  intro x
  induction x using Nat.strongRecOn with
  | ind x ih =>
    intro hx a
    have ex : P[x]? = some P[x] := List.getElem?_eq_getElem hx
    have hl := one P[x] (List.getElem_mem hx)
    have key : ∃ n, armI (lotS L (foreB P x)) a = List.range n := by
      match hq : P[x], hl with
      | [], _ =>
        rw [hq] at ex
        rw [foreB_root h ex]
        exact ⟨0, rfl⟩
      | [p], _ =>
        rw [hq] at ex
        have hpx : p < x := h.rt x [p] ex p List.mem_cons_self
        rw [foreB_one h ex]
        exact ih p hpx (by omega) a
      | _ :: _ :: _, l => simp at l
    obtain ⟨n, e⟩ := key
    have e2 := hp x hx a
    rw [e, List.length_range] at e2
    unfold objS
    rw [lotS_append, lotS_one, armI_append, e, e2]
    refine ⟨n + (armI (L.getD x []) a).length, ?_⟩
    rw [List.range_eq_range', List.range_eq_range', show List.range' n (armI (L.getD x []) a).length = List.range' (0 + 1 * n) (armI (L.getD x []) a).length by congr 1; omega, List.range'_append]
theorem tree_full {P : List (List Nat)} {L M : List (List (Nat × Nat))} (h : OkP P) (one : ∀ p ∈ P, p.length ≤ 1) (hp : Poured P L) (hm : Mixed L M) : FirstIs P M none := fun x hx a => by
  obtain ⟨n, e⟩ := tree_arms h one hp x hx a
  have p := armI_perm (lotS_perm hm (foreB P x ++ [x])) a
  show badI (armI (lotS M (foreB P x ++ [x])) a) = none
  rw [badI_perm p]
  unfold objS at e
  rw [e, badI_range]
theorem asc_ext : ∀ {a b : List Nat}, a.Pairwise (· < ·) → b.Pairwise (· < ·) → (∀ k, k ∈ a ↔ k ∈ b) → a = b
  | [], [], _, _, _ => rfl
  | [], y :: _, _, _, h => by cases (h y).mpr List.mem_cons_self
  | x :: _, [], _, _, h => by cases (h x).mp List.mem_cons_self
  | x :: r, y :: t, h1, h2, h => by
    obtain ⟨hx, hr⟩ := List.pairwise_cons.mp h1
    obtain ⟨hy, ht⟩ := List.pairwise_cons.mp h2
    have e : x = y := by
      rcases List.mem_cons.mp ((h x).mp List.mem_cons_self) with e | e
      · exact e
      · rcases List.mem_cons.mp ((h y).mpr List.mem_cons_self) with e2 | e2
        · exact e2.symm
        · have := hx y e2
          have := hy x e
          omega
    subst e
    rw [asc_ext hr ht fun k => ⟨fun hk => by
      rcases List.mem_cons.mp ((h k).mp (List.mem_cons_of_mem _ hk)) with e | e
      · have := hx k hk
        omega
      · exact e, fun hk => by
      rcases List.mem_cons.mp ((h k).mpr (List.mem_cons_of_mem _ hk)) with e | e
      · have := hy k hk
        omega
      · exact e⟩]
theorem up_asc (P : List (List Nat)) (x : Nat) : (foreB P x ++ [x]).Pairwise (· < ·) := by
  refine List.pairwise_append.mpr ⟨List.Pairwise.filter _ List.pairwise_lt_range, List.pairwise_singleton _ _, fun a ha b hb => ?_⟩
  rw [List.mem_singleton.mp hb]
  exact (mem_foreB.mp ha).1
theorem mem_up {P : List (List Nat)} (h : RtP P) {x : Nat} (hx : x < P.length) (k : Nat) : k ∈ foreB P x ++ [x] ↔ isA P x k = true := by
  rw [List.mem_append, mem_foreB, List.mem_singleton]
  constructor
  · rintro (⟨_, e⟩ | e)
    · exact e
    · rw [e]
      exact isA_refl h hx
  · intro e
    have := isA_le h e
    by_cases z : k = x
    · exact .inr z
    · exact .inl ⟨by omega, e⟩
theorem foreB_len (P : List (List Nat)) (x : Nat) : (foreB P x).length ≤ x := by
  have h := List.length_filter_le (fun p => isA P x p) (List.range x)
  rw [List.length_range] at h
  exact h
/-- whether a thing is a place on so many arms; a row of so many places; places for all fields -/
def natB (w : V) : Bool := match w with
  | .int i => decide (0 ≤ i)
  | _ => false
def plcB (H : Hp) (m : Int) (v : V) : Bool := match v with
  | .ref a => match H a with
    | some (.tup [u, w]) => withinB u 0 (m - 1) && natB w
    | _ => false
  | _ => false
def plRowB (H : Hp) (m : Int) (n : Nat) (v : V) : Bool := match v with
  | .ref a => match H a with
    | some (.tup ys) => decide (ys.length = n) && ys.all (plcB H m)
    | _ => false
  | _ => false
def plsB (H : Hp) (F : List Nat) (m : Int) (v : V) : Bool := match v with
  | .ref a => match H a with
    | some (.tup xs) => decide (xs.length = F.length) && (List.range F.length).all fun i => plRowB H m (F.getD i 0) (xs.getD i .non)
    | _ => false
  | _ => false
theorem plcB_two {H : Hp} {m : Int} {a : Addr} {k l : V} (h : H a = some (.tup [k, l])) : plcB H m (.ref a) = (withinB k 0 (m - 1) && natB l) := by
  simp only [plcB, h]
theorem plcB_not {H : Hp} {m : Int} {v : V} (h : twoB H v = false) : plcB H m v = false := by
  unfold plcB
  split
  · split
    · rename_i a _ k l e
      rw [twoB_tup e] at h
      cases h
    · rfl
  · rfl
theorem plRowB_tup {H : Hp} {m : Int} {n : Nat} {a : Addr} {ys : List V} (h : H a = some (.tup ys)) : plRowB H m n (.ref a) = (decide (ys.length = n) && ys.all (plcB H m)) := by
  simp only [plRowB, h]
theorem plRowB_no {H : Hp} {m : Int} {n : Nat} {v : V} (h : ∀ a xs, v = .ref a → H a ≠ some (.tup xs)) : plRowB H m n v = false := by
  unfold plRowB
  split
  · split
    · rename_i a _ xs e
      exact absurd e (h a xs rfl)
    · rfl
  · rfl
theorem plsB_tup {H : Hp} {F : List Nat} {m : Int} {a : Addr} {xs : List V} (h : H a = some (.tup xs)) : plsB H F m (.ref a) = (decide (xs.length = F.length) && (List.range F.length).all fun i => plRowB H m (F.getD i 0) (xs.getD i .non)) := by
  simp only [plsB, h]
theorem plsB_no {H : Hp} {F : List Nat} {m : Int} {v : V} (h : ∀ a xs, v = .ref a → H a ≠ some (.tup xs)) : plsB H F m v = false := by
  unfold plsB
  split
  · split
    · rename_i a _ xs e
      exact absurd e (h a xs rfl)
    · rfl
  · rfl
theorem plcB_same {C z : Addr} {H H' : Hp} {k : Nat} {m : Int} {v : V} (h : Th C z H k v) (s : Same H H') : plcB H' m v = plcB H m v := by
  cases h with
  | int _ i => rfl
  | bl _ b => rfl
  | non _ => rfl
  | str _ x => rfl
  | lst _ a xs h1 h2 => simp only [plcB, h2, s _ _ h2]
  | dK _ a xs h1 h2 => simp only [plcB, h2, s _ _ h2]
  | ins _ a dx fs h1 h2 => simp only [plcB, h2, s _ _ h2]
  | tup0 a xs h1 h2 => simp only [plcB, h2, s _ _ h2]
  | tup m a xs h1 h2 h3 h4 => simp only [plcB, h2, s _ _ h2]
theorem plRowB_same {C z : Addr} {H H' : Hp} {k n : Nat} {m : Int} {v : V} (h : Th C z H (k + 1) v) (s : Same H H') : plRowB H' m n v = plRowB H m n v := by
  cases h with
  | int _ i => rfl
  | bl _ b => rfl
  | non _ => rfl
  | str _ x => rfl
  | lst _ a xs h1 h2 => simp only [plRowB, h2, s _ _ h2]
  | dK _ a xs h1 h2 => simp only [plRowB, h2, s _ _ h2]
  | ins _ a dx fs h1 h2 => simp only [plRowB, h2, s _ _ h2]
  | tup _ a xs h1 h2 h3 h4 =>
    simp only [plRowB, h2, s _ _ h2]
    rw [all_like fun x hx => plcB_same (m := m) (h4 x hx) s]
theorem plsB_same {C z : Addr} {H H' : Hp} {F : List Nat} {m : Int} {v : V} (h : Th C z H 3 v) (s : Same H H') : plsB H' F m v = plsB H F m v := by
  cases h with
  | int _ i => rfl
  | bl _ b => rfl
  | non _ => rfl
  | str _ x => rfl
  | lst _ a xs h1 h2 => simp only [plsB, h2, s _ _ h2]
  | dK _ a xs h1 h2 => simp only [plsB, h2, s _ _ h2]
  | ins _ a dx fs h1 h2 => simp only [plsB, h2, s _ _ h2]
  | tup _ a xs h1 h2 h3 h4 =>
    rw [plsB_tup h2, plsB_tup (s _ _ h2)]
    by_cases hl : xs.length = F.length
    · have pt : ∀ i ∈ List.range F.length, plRowB H' m (F.getD i 0) (xs.getD i .non) = plRowB H m (F.getD i 0) (xs.getD i .non) := fun i hi => by
        have hi := List.mem_range.mp hi
        refine plRowB_same (h4 _ ?_) s
        rw [List.getD_eq_getElem?_getD, List.getElem?_eq_getElem (by omega)]
        exact List.getElem_mem _
      congr 1
      rw [Bool.eq_iff_iff, List.all_eq_true, List.all_eq_true]
      exact ⟨fun h i hi => by rw [← pt i hi]; exact h i hi, fun h i hi => by rw [pt i hi]; exact h i hi⟩
    · rw [decide_eq_false hl, Bool.false_and, Bool.false_and]
theorem plc_of {H : Hp} {m : Int} {v : V} (h : plcB H m v = true) : ∃ s : Nat × Nat, SpotV H v s ∧ (s.1 : Int) < m := by
  have t : twoB H v = true := by
    cases e : twoB H v with
    | true => rfl
    | false =>
      rw [plcB_not e] at h
      cases h
  obtain ⟨a, k, l, rfl, e⟩ := two_of t
  rw [plcB_two e, Bool.and_eq_true] at h
  cases k with
  | int i =>
    have h1 : (decide (0 ≤ i) && decide (i ≤ m - 1)) = true := h.1
    rw [Bool.and_eq_true, decide_eq_true_eq, decide_eq_true_eq] at h1
    cases l with
    | int j =>
      have h2 : 0 ≤ j := of_decide_eq_true h.2
      exact ⟨(i.toNat, j.toNat), ⟨a, rfl, by rw [e]; show some (HO.tup [V.int i, V.int j]) = some (HO.tup [V.int ((i.toNat : Nat) : Int), V.int ((j.toNat : Nat) : Int)]); rw [show ((i.toNat : Nat) : Int) = i by omega, show ((j.toNat : Nat) : Int) = j by omega]⟩, by show ((i.toNat : Nat) : Int) < m; omega⟩
    | _ => cases h.2
  | _ => cases h.1
theorem plc_spot {H : Hp} {m : Int} {v : V} {s : Nat × Nat} (h : SpotV H v s) : plcB H m v = decide ((s.1 : Int) < m) := by
  obtain ⟨c, rfl, e⟩ := h
  rw [plcB_two e]
  show ((decide (0 ≤ (s.1 : Int)) && decide ((s.1 : Int) ≤ m - 1)) && decide (0 ≤ (s.2 : Int))) = _
  rw [decide_eq_true (show 0 ≤ (s.1 : Int) by omega), decide_eq_true (show 0 ≤ (s.2 : Int) by omega), Bool.true_and, Bool.and_true]
  exact decide_eq_decide.mpr ⟨fun _ => by omega, fun _ => by omega⟩
theorem plcs_of {H : Hp} {m : Int} : ∀ {ys : List V}, ys.all (plcB H m) = true → ∃ l, RL (SpotV H) ys l ∧ ∀ s ∈ l, (s.1 : Int) < m
  | [], _ => ⟨[], RL.nil, fun s hs => by cases hs⟩
  | v :: r, h => by
    rw [List.all_cons, Bool.and_eq_true] at h
    obtain ⟨s, h1, h2⟩ := plc_of h.1
    obtain ⟨l, h3, h4⟩ := plcs_of h.2
    exact ⟨s :: l, RL.cons h1 h3, fun t ht => by
      rcases List.mem_cons.mp ht with e | e
      · rw [e]
        exact h2
      · exact h4 t e⟩
theorem plcs_spots {H : Hp} {m : Int} : ∀ {ys : List V} {l : List (Nat × Nat)}, RL (SpotV H) ys l → ys.all (plcB H m) = l.all fun s => decide ((s.1 : Int) < m)
  | [], [], _ => rfl
  | [], _ :: _, h => by cases h.1
  | _ :: _, [], h => by cases h.1
  | _ :: _, _ :: _, h => by rw [List.all_cons, List.all_cons, plc_spot h.tail.1, plcs_spots h.tail.2]
/-- the arms of a laying -/
def armsB (L : List (List (Nat × Nat))) (m : Int) : Bool := L.all fun l => l.all fun s => decide ((s.1 : Int) < m)
def Fits (L : List (List (Nat × Nat))) (F : List Nat) : Prop := L.length = F.length ∧ ∀ i, i < F.length → (L.getD i []).length = F.getD i 0
theorem pls_of {H : Hp} {F : List Nat} {m : Int} {v : V} (h : plsB H F m v = true) : ∃ a L, v = .ref a ∧ LayAt H a L ∧ Fits L F ∧ armsB L m = true := by
  unfold plsB at h
  split at h
  · split at h
    · rename_i a _ xs e
      rw [Bool.and_eq_true, decide_eq_true_eq, List.all_eq_true] at h
      obtain ⟨hl, hr⟩ := h
      have row : ∀ i, i < F.length → ∃ l, SpotsAt H (xs.getD i .non) l ∧ l.length = F.getD i 0 ∧ ∀ s ∈ l, (s.1 : Int) < m := fun i hi => by
        have h := hr i (List.mem_range.mpr hi)
        unfold plRowB at h
        split at h
        · split at h
          · rename_i v b hv _ ys eb
            rw [Bool.and_eq_true, decide_eq_true_eq] at h
            obtain ⟨l, h1, h2⟩ := plcs_of h.2
            exact ⟨l, ⟨b, ys, hv, eb, h1⟩, h1.1.symm.trans h.1, h2⟩
          · cases h
        · cases h
      have pick : ∀ n, n ≤ F.length → ∃ L : List (List (Nat × Nat)), L.length = n ∧ ∀ i l, L[i]? = some l → SpotsAt H (xs.getD i .non) l ∧ l.length = F.getD i 0 ∧ ∀ s ∈ l, (s.1 : Int) < m := by
        intro n
        induction n with
        | zero => exact fun _ => ⟨[], rfl, fun i l e => by simp at e⟩
        | succ n ih =>
          intro hn
          obtain ⟨L, h1, h2⟩ := ih (by omega)
          obtain ⟨l, h3⟩ := row n (by omega)
          refine ⟨L ++ [l], by rw [List.length_append, h1]; rfl, fun i u hu => ?_⟩
          by_cases hi : i < L.length
          · rw [List.getElem?_append_left hi] at hu
            exact h2 i u hu
          · rw [List.getElem?_append_right (by omega)] at hu
            have q := (List.getElem?_eq_some_iff.mp hu).1
            rw [List.length_singleton] at q
            have ei : i = n := by omega
            subst ei
            rw [h1, Nat.sub_self] at hu
            rw [← (Option.some.inj hu : l = u)]
            exact h3
      obtain ⟨L, h1, h2⟩ := pick F.length (Nat.le_refl _)
      refine ⟨a, L, rfl, ⟨xs, e, hl.trans h1.symm, fun j v l hv hl' => ?_⟩, ⟨h1, fun i hi => ?_⟩, List.all_eq_true.mpr fun l hl' => List.all_eq_true.mpr fun s hs => ?_⟩
      · have := (h2 j l hl').1
        rw [List.getD_eq_getElem?_getD, hv] at this
        exact this
      · have e2 := List.getElem?_eq_getElem (show i < L.length by omega)
        rw [List.getD_eq_getElem?_getD, e2]
        exact (h2 i _ e2).2.1
      · obtain ⟨j, hj⟩ := List.mem_iff_getElem?.mp hl'
        exact decide_eq_true ((h2 j l hj).2.2 s hs)
    · cases h
  · cases h
theorem pls_lay {H : Hp} {F : List Nat} {m : Int} {a : Addr} {L : List (List (Nat × Nat))} (h : LayAt H a L) (f : Fits L F) : plsB H F m (.ref a) = armsB L m := by
  obtain ⟨xs, e, r⟩ := h
  rw [plsB_tup e, decide_eq_true (r.1.trans f.1), Bool.true_and]
  unfold armsB
  have el : L = (List.range F.length).map fun i => L.getD i [] := by
    refine List.ext_getElem? fun j => ?_
    rw [List.getElem?_map]
    by_cases hj : j < L.length
    · rw [List.getElem?_range (by have := f.1; omega), List.getElem?_eq_getElem hj]
      show _ = some (L.getD j [])
      rw [List.getD_eq_getElem?_getD, List.getElem?_eq_getElem hj]
      rfl
    · rw [List.getElem?_eq_none (by omega), List.getElem?_eq_none (by rw [List.length_range]; have := f.1; omega)]
      rfl
  have e2 : (L.all fun l => l.all fun s => decide ((s.1 : Int) < m)) = (List.range F.length).all fun i => (L.getD i []).all fun s => decide ((s.1 : Int) < m) := by
    conv => lhs; rw [el]
    rw [List.all_map]
    rfl
  rw [e2]
  have pt : ∀ i ∈ List.range F.length, plRowB H m (F.getD i 0) (xs.getD i .non) = (L.getD i []).all fun s => decide ((s.1 : Int) < m) := fun i hi => by
    have hi := List.mem_range.mp hi
    have hL : i < L.length := by have := f.1; omega
    obtain ⟨v, hv, b, ys, rfl, eb, rb⟩ := r.at' (List.getElem?_eq_getElem hL)
    have ex : xs.getD i .non = .ref b := by rw [List.getD_eq_getElem?_getD, hv]; rfl
    have eL : L.getD i [] = L[i] := by rw [List.getD_eq_getElem?_getD, List.getElem?_eq_getElem hL]; rfl
    have fl := f.2 i hi
    rw [eL] at fl ⊢
    rw [ex, plRowB_tup eb, decide_eq_true (by rw [rb.1, fl]), Bool.true_and, plcs_spots rb]
  rw [Bool.eq_iff_iff, List.all_eq_true, List.all_eq_true]
  exact ⟨fun h i hi => by rw [← pt i hi]; exact h i hi, fun h i hi => by rw [pt i hi]; exact h i hi⟩
def sp_is_place (C : Addr) (K : PySem.W.Frag) : Sp := fun vs H Q _ => ∃ (v : V) (m : Int) (z : Addr), vs = [v, .int m] ∧ KitC K C ∧ Th C z H 1 v ∧ Q (.bl (plcB H m v)) H
theorem sc_is_place : FnScope ["thing", "arms"] ["thing", "arms"] (defScope s_is_place) := ⟨rfl, rfl, rfl, by decide +kernel, rfl, by decide +kernel, by decide +kernel⟩
theorem ok_is_place (T : Top P K mg) : FnOk P w K mg base CX0 3 T.f_is_place T.fd_is_place ["thing", "arms"] (sp_is_place T.C_Book K) := by
  have G_is_integer := ok_is_integer (P := P) (w := w) (base := base) T
  have G_is_pair := ok_is_pair (P := P) (w := w) (base := base) T
  have G_is_within := ok_is_within (P := P) (w := w) (base := base) T
  refine T.F_is_place.ok sc_is_place (fun vs H Q E h => ?_) (fun cdv A outer s H vs Q E hr h => ?_)
  · obtain ⟨v, m, z, rfl, _⟩ := h
    rfl
  · obtain ⟨v, m, z, rfl, kc, ht, k⟩ := h
    refine ⟨_, (pss_one (ps_ret (pe_and (pe_call G_is_pair (hr.mono (by decide)) (by rfl) T.g_is_pair T.F_is_pair.kp T.b_is_pair .nil pass0 (pa_cons (pv 0) pa_nil)) (pe_and (pe_call G_is_within hr (by rfl) T.g_is_within T.F_is_within.kp T.b_is_within .nil pass0 (pa_cons (pe_ix (r := rIxT K) ix_tup (pv 0) pe_int (fun _ _ => rfl)) (pa_cons pe_int (pa_cons (pe_op op_sub (pv 1) pe_int) pa_nil)))) (pe_and (pe_call G_is_integer (hr.mono (by decide)) (by rfl) T.g_is_integer T.F_is_integer.kp T.b_is_integer .nil pass0 (pa_cons (pe_ix (r := rIxT K) ix_tup (pv 0) pe_int (fun _ _ => rfl)) pa_nil)) (pe_one (pe_cmpR op_ge (pe_ix (r := rIxT K) ix_tup (pv 0) pe_int (fun _ _ => rfl)) pe_int (nomark _)))))))), ?_⟩
    tm_at "w"
    refine ⟨v, z, rfl, kc, ht, ?_⟩
    refine ⟨_, rfl, ?_⟩
    cases tb : twoB H v with
    | false =>
      rw [plcB_not tb] at k
      refine iteF ?_
      exact k
    | true =>
      obtain ⟨a, u, w, rfl, ha⟩ := two_of tb
      rw [plcB_two ha] at k
      have ku : IntK K H u := by
        cases ht with
        | tup _ _ xs h1 h2 h3 h4 =>
          rw [ha] at h2
          cases h2
          exact (h4 u List.mem_cons_self).intK kc
        | lst _ _ xs h1 h2 => rw [ha] at h2; cases h2
        | dK _ _ xs h1 h2 => rw [ha] at h2; cases h2
        | ins _ _ dx fs h1 h2 => rw [ha] at h2; cases h2
      have kw : IntK K H w := by
        cases ht with
        | tup _ _ xs h1 h2 h3 h4 =>
          rw [ha] at h2
          cases h2
          exact (h4 w (List.mem_cons_of_mem _ List.mem_cons_self)).intK kc
        | lst _ _ xs h1 h2 => rw [ha] at h2; cases h2
        | dK _ _ xs h1 h2 => rw [ha] at h2; cases h2
        | ins _ _ dx fs h1 h2 => rw [ha] at h2; cases h2
      refine iteT ?_
      tm_at "w"
      refine ⟨u, 0, m - 1, rfl, ku, ?_⟩
      refine ⟨_, rfl, ?_⟩
      cases c : withinB u 0 (m - 1) with
      | false =>
        rw [c, Bool.false_and] at k
        refine iteF ?_
        exact k
      | true =>
        rw [c, Bool.true_and] at k
        refine iteT ?_
        cases w with
        | int j =>
          tm_at "w"
          exact k
        | _ =>
          tm_at "w"
          exact k
/-! has_places -/
def sp_has_places (C : Addr) (K : PySem.W.Frag) : Sp := fun vs H Q _ => ∃ (f : Addr) (F : List Nat) (m : Int) (v : V) (z : Addr), vs = [.ref f, .int m, v] ∧ H f = some (.tup (natsV F)) ∧ F.length ≤ 400 ∧ KitC K C ∧ Th C z H 3 v ∧ ∀ H', Same H H' → Q (.bl (plsB H F m v)) H'
theorem sc_has_places : FnScope ["fields", "arms", "thing", "number", "places", "one"] ["fields", "arms", "thing"] (defScope s_has_places) := ⟨rfl, rfl, rfl, by decide +kernel, rfl, by decide +kernel, by decide +kernel⟩
theorem ok_has_places (T : Top P K mg) : FnOk P w K mg base CX0 4 T.f_has_places T.fd_has_places ["fields", "arms", "thing"] (sp_has_places T.C_Book K) := by
  have G_is_place := ok_is_place (P := P) (w := w) (base := base) T
  refine T.F_has_places.ok sc_has_places (fun vs H Q E h => ?_) (fun cdv A outer s H vs Q E hr h => ?_)
  · obtain ⟨f, F, m, v, z, rfl, _⟩ := h
    rfl
  · obtain ⟨f, F, m, v, z, rfl, hf, f400, kc, ht, k⟩ := h
    refine ⟨_, (pss_cons (ps_if (PW.pt (pw_or (pt_not (pt_val (pe_callB (r := rIsi K) (id := "isinstance") call_isi (by rfl) T.z_isinstance (by decide +kernel) (pa_cons (pv 2) (pa_cons (pe_bltn (v := .ty "tuple") (u := .type "tuple") (by rfl) T.z_tuple (by decide +kernel) rfl) pa_nil))))) (pw_or1 (pt_cmpR op_ne (pe_callB (r := rLenQ K) (id := "len") call_len_seq (by rfl) T.z_len (by decide +kernel) (pa_cons (pv 2) pa_nil)) (pe_callB (r := rLenQ K) (id := "len") call_len_seq (by rfl) T.z_len (by decide +kernel) (pa_cons (pv 0) pa_nil)) (nomark _))))) (pss_one (ps_ret pe_bl)) pss_nil)
      (pss_cons (ps_for PassesOwn.never rfl (RZ.pi_zipA (by rfl) T.z_zip (pa_cons (pv 0) (pa_cons (pv 2) pa_nil))) (pg_tup rfl (pgs_cons (pg_name (i := 3) sc_has_places.nd rfl (Or.inl rfl)) (pgs_cons (pg_name (i := 4) sc_has_places.nd rfl (Or.inl rfl)) pgs_nil)))
      (pss_one (ps_if (PW.pt (pw_or (pt_not (pt_val (pe_callB (r := rIsi K) (id := "isinstance") call_isi (by rfl) T.z_isinstance (by decide +kernel) (pa_cons (pv 4) (pa_cons (pe_bltn (v := .ty "tuple") (u := .type "tuple") (by rfl) T.z_tuple (by decide +kernel) rfl) pa_nil))))) (pw_or (pt_cmpR op_ne (pe_callB (r := rLenQ K) (id := "len") call_len_seq (by rfl) T.z_len (by decide +kernel) (pa_cons (pv 4) pa_nil)) (pv 3) (nomark _)) (pw_or1 (pt_not (pt_val (pe_callB (r := rAll K) (id := "all") (cr_all rfl) (by rfl) T.z_all (by decide +kernel) (pa_cons (pe_lc (own := [("one", 5)]) (g := gName 5) (tt := tYes) rfl sc_has_places.nd (pi_tup (pv 4)) (blkOk_by (own := [("one", 5)]) (N := ["fields", "arms", "thing", "number", "places", "one"]) (sc := defScope s_has_places) (by decide +kernel)) (fun _ _ _ _ _ => (pg_name (i := 5) sc_has_places.nd rfl (Or.inl rfl))) (fun _ _ _ _ _ => pts_nil) (fun _ _ _ _ _ => (pe_call G_is_place hr (by rfl) T.g_is_place T.F_is_place.kp T.b_is_place .nil pass0 (pa_cons (pv 5) (pa_cons (pv 1) pa_nil))))) pa_nil)))))))) (pss_one (ps_ret pe_bl)) pss_nil)))
      (pss_one (ps_ret pe_bl)))), ?_⟩
    have fv := natsV_len F
    obtain ⟨t, bt, ty, tt, hh⟩ := ht.ty kc
    rcases hh with ⟨rfl, no⟩ | ⟨a, xs, rfl, ha, rfl, hx, hi⟩
    · rw [plsB_no no] at k
      have k := k H (Same.refl H)
      tm_at "w"
      exact k
    · rw [plsB_tup ha] at k
      tm_at "w"
      by_cases zl : xs.length = F.length
      · rw [decide_eq_true zl, Bool.true_and] at k
        refine iteEF ?_ ?_
        · rw [zl, fv]
          simp
        tm_at "w"
        refine ⟨_, _, _, _, rfl, .inr ⟨SqT.of hf, SqT.of ha, RZ.for_zipT (K := K) (a := f) (b := a) (xs := natsV F) (ys := xs) (by omega) (fun i σ H' => ∃ u w o, Same H H' ∧ ((List.range i).all fun j => plRowB H m (F.getD j 0) (xs.getD j .non)) = true ∧ σ = [some (.ref f), some (.int m), some (.ref a), u, w, o]) ?_ ?_ ?_ ?_⟩⟩
        · exact ⟨_, _, _, Same.refl H, rfl, rfl⟩
        · rintro i σ H' ⟨u, w, o, s1, _, rfl⟩
          exact ⟨SqT.of (s1 _ _ hf), SqT.of (s1 _ _ ha)⟩
        · rintro i x y T1 σ H' hxi hyi ⟨u, w, o, s1, all1, rfl⟩ nT
          obtain ⟨n, hn, rfl, il⟩ := natsV_here hxi
          have s2 := Same.new (o := .tup [V.int (n : Int), y]) s1 nT
          have hy := (hi y (List.mem_of_getElem? hyi)).same s2
          have gF : F.getD i 0 = n := by rw [List.getD_eq_getElem?_getD, hn]; rfl
          have gx : xs.getD i .non = y := by rw [List.getD_eq_getElem?_getD, hyi]; rfl
          have row : plRowB H m (F.getD i 0) (xs.getD i .non) = plRowB (upd H' T1 (.tup [V.int (n : Int), y])) m n y := by
            rw [gF, gx, plRowB_same (hi y (List.mem_of_getElem? hyi)) s2]
          have no : plRowB (upd H' T1 (.tup [V.int (n : Int), y])) m n y = false → ((List.range F.length).all fun j => plRowB H m (F.getD j 0) (xs.getD j .non)) = false := fun e => by
            cases c : ((List.range F.length).all fun j => plRowB H m (F.getD j 0) (xs.getD j .non)) with
            | false => rfl
            | true =>
              have := List.all_eq_true.mp c i (List.mem_range.mpr il)
              rw [row, e] at this
              cases this
          have yes : plRowB (upd H' T1 (.tup [V.int (n : Int), y])) m n y = true → ((List.range (i + 1)).all fun j => plRowB H m (F.getD j 0) (xs.getD j .non)) = true := fun e => by
            rw [List.range_succ, List.all_append, all1]
            simp only [List.all_cons, List.all_nil, Bool.and_true, Bool.true_and]
            rw [row, e]
          obtain ⟨J, e, s3, hJ⟩ := new_hide (Same.new (o := .tup [V.int (n : Int), y]) (Same.refl H') nT)
          rw [e] at row no yes hy s2 ⊢
          obtain ⟨t, bt, ty, tt, hh⟩ := hy.ty kc
          rcases hh with ⟨rfl, no2⟩ | ⟨b, ys, rfl, hb, rfl, hlb, hib⟩
          · have k := k J s2
            rw [no (plRowB_no no2)] at k
            tm_at "w"
            exact k
          · rw [plRowB_tup hb] at no yes
            tm_at "w"
            by_cases zn : ys.length = n
            · rw [decide_eq_true zn, Bool.true_and] at no yes
              refine iteEF ?_ ?_
              · rw [zn]
                simp
              tm_at "w"
              refine ⟨⟨_, SqT.of hb⟩, fun D nD => lc_tupF (fun i => ys[i]?.map fun v => V.bl (plcB J m v)) hb nD (by omega) ?_ ?_⟩
              · intro j x1 H2 N M hx1 s4 kN kM
                have xm := List.mem_of_getElem? hx1
                have hk := (hib x1 xm).same s4
                tm_at "w"
                refine ⟨x1, m, z, rfl, kc, hk, ?_⟩
                rw [plcB_same (hib x1 xm) s4]
                exact kN _ _ (by rw [hx1]; rfl) (Same.refl H2)
              · intro H2 s4 hD
                rw [range_items] at hD
                have e4 : ys.map (fun v => V.bl (plcB J m v)) = (ys.map fun v => plcB J m v).map V.bl := by rw [List.map_map]; rfl
                rw [e4] at hD
                tm_at "w"
                refine ⟨_, _, rfl, SqL.of hD, ?_⟩
                have e3 : (ys.map fun v => plcB J m v).all id = ys.all (plcB J m) := by rw [List.all_map]; rfl
                rw [e3]
                cases c : ys.all (plcB J m) with
                | false =>
                  have k := k H2 (Same.trans s2 s4)
                  rw [no c] at k
                  tm_at "w"
                  exact k
                | true =>
                  tm_at "w"
                  exact ⟨_, _, _, Same.trans s2 s4, yes c, rfl⟩
            · rw [decide_eq_false zn, Bool.false_and] at no
              have k := k J s2
              rw [no rfl] at k
              refine iteET ?_ ?_
              · simp
                exact fun e => zn (by omega)
              tm_at "w"
              exact k
        · rintro σ H' ⟨u, w, o, s1, all1, rfl⟩
          rw [fv] at all1
          have k := k H' s1
          rw [all1] at k
          tm_at "w"
          exact k
      · rw [decide_eq_false zl, Bool.false_and] at k
        have k := k H (Same.refl H)
        refine iteET ?_ ?_
        · rw [fv]
          simp
          exact fun e => zl (by omega)
        tm_at "w"
        exact k
/-! object_places -/
/-! ### dicts from arms to lists of indexes -/
theorem valV_none {kvs : List (Key × V)} {k : Key} : valV kvs k = none ↔ k ∉ kvs.map (·.1) := by
  have e := valV_any k kvs
  constructor
  · intro h hm
    rw [h] at e
    obtain ⟨p, hp, rfl⟩ := List.mem_map.mp hm
    have : (kvs.any fun kv => decide (kv.1 = p.1)) = true := List.any_eq_true.mpr ⟨p, hp, decide_eq_true rfl⟩
    rw [this] at e
    cases e
  · intro h
    cases hv : valV kvs k with
    | none => rfl
    | some v =>
      rw [hv] at e
      obtain ⟨p, hp, e2⟩ := List.any_eq_true.mp e
      exact absurd (List.mem_map.mpr ⟨p, hp, of_decide_eq_true e2⟩) h
theorem valV_here {k : Key} {v : V} : ∀ {kvs : List (Key × V)} {i : Nat}, (kvs.map (·.1)).Nodup → kvs[i]? = some (k, v) → valV kvs k = some v
  | [], i, _, e => by simp at e
  | p :: r, 0, _, e => by
    have e : p = (k, v) := Option.some.inj e
    subst e
    exact valV_pos rfl
  | p :: r, i + 1, n, e => by
    rw [List.map_cons, List.nodup_cons] at n
    have e : r[i]? = some (k, v) := e
    rw [valV_neg fun z => n.1 (by rw [z]; exact List.mem_map.mpr ⟨(k, v), List.mem_of_getElem? e, rfl⟩)]
    exact valV_here n.2 e
theorem nodup_snocK {l : List Key} {k : Key} (h : l.Nodup) (n : k ∉ l) : (l ++ [k]).Nodup := by
  rw [List.nodup_append]
  exact ⟨h, List.nodup_cons.mpr ⟨by simp, List.nodup_nil⟩, fun a ha b hb => by
    rw [List.mem_singleton.mp hb]
    intro z
    rw [z] at ha
    exact n ha⟩
def FdV (H0 H : Hp) (kvs : List (Key × V)) (o : List (Nat × Nat)) : Prop := ∀ k v, valV kvs k = some v → ∃ (a : Nat) (b : Addr), k = .inl (a : Int) ∧ v = .ref b ∧ armI o a ≠ [] ∧ H b = some (.lst (natsV (armI o a))) ∧ H0 b = none
structure FdG (H0 H : Hp) (kvs : List (Key × V)) (o : List (Nat × Nat)) : Prop where
  nd : (kvs.map (·.1)).Nodup
  vals : FdV H0 H kvs o
  no : ∀ a : Nat, valV kvs (.inl (a : Int)) = none → armI o a = []
  inj : ∀ k k' v, valV kvs k = some v → valV kvs k' = some v → k = k'
  len : kvs.length ≤ o.length
theorem FdG.nil {H0 H : Hp} : FdG H0 H [] [] := ⟨List.nodup_nil, (fun k v e => by cases e), (fun _ _ => rfl), (fun k k' v e => by cases e), Nat.le_refl _⟩
theorem armI_one (o : List (Nat × Nat)) (a i : Nat) : armI (o ++ [(a, i)]) a = armI o a ++ [i] := by
  rw [armI_append]
  congr 1
  simp [armI]
theorem armI_other (o : List (Nat × Nat)) {a b : Nat} (i : Nat) (h : b ≠ a) : armI (o ++ [(a, i)]) b = armI o b := by
  rw [armI_append, armI_nil_of (o := [(a, i)]) fun s hs => by rw [List.mem_singleton.mp hs]; exact fun z => h z.symm, List.append_nil]
theorem natsV_snocL (l : List Nat) (i : Nat) : natsV l ++ [V.int (i : Int)] = natsV (l ++ [i]) := by
  unfold natsV
  rw [List.map_append]
  rfl
/-- the arm is there: its list gets one more -/
theorem FdG.more {H0 H H1 : Hp} {kvs : List (Key × V)} {o : List (Nat × Nat)} (g : FdG H0 H kvs o) {a i : Nat} {b : Addr} (hb : valV kvs (.inl (a : Int)) = some (.ref b)) (s : Same H H1) : FdG H0 (upd H1 b (.lst (natsV (armI o a) ++ [.int (i : Int)]))) kvs (o ++ [(a, i)]) := by
  refine ⟨g.nd, fun k v e => ?_, fun c e => ?_, g.inj, by have := g.len; rw [List.length_append]; omega⟩
  · obtain ⟨a', b', rfl, rfl, h1, h2, h3⟩ := g.vals k v e
    by_cases z : a' = a
    · subst z
      rw [hb] at e
      cases e
      refine ⟨a', b, rfl, rfl, by rw [armI_one]; simp, ?_, h3⟩
      rw [upd_same, armI_one, natsV_snocL]
    · have nb : b' ≠ b := fun q => z (by
        subst q
        have := Sum.inl.inj (g.inj _ _ _ e hb)
        omega)
      refine ⟨a', b', rfl, rfl, by rw [armI_other _ _ z]; exact h1, ?_, h3⟩
      rw [upd_ne nb, armI_other _ _ z]
      exact s _ _ h2
  · have z : c ≠ a := fun q => by
      subst q
      rw [hb] at e
      cases e
    rw [armI_other _ _ z]
    exact g.no c e
/-- a new arm -/
theorem FdG.new {H0 H H1 : Hp} {kvs : List (Key × V)} {o : List (Nat × Nat)} (g : FdG H0 H kvs o) {a i : Nat} {E f : Addr} (hn : valV kvs (.inl (a : Int)) = none) (s0 : Same H0 H) (nE : H E = none) (hf : H f = some (.dK kvs)) (s : ∀ b u, b ≠ E → b ≠ f → H b = some u → H1 b = some u) (hE : H1 E = some (.lst [.int (i : Int)])) :
    FdG H0 H1 (putK kvs (.inl (a : Int)) (.ref E)) (o ++ [(a, i)]) := by
  rw [putK_new _ hn]
  have val : ∀ k, valV (kvs ++ [(Sum.inl (a : Int), V.ref E)]) k = if k = .inl (a : Int) then some (.ref E) else valV kvs k := fun k => valV_snoc _ k _ kvs hn
  refine ⟨?_, fun k v e => ?_, fun c e => ?_, fun k k' v e e2 => ?_, by have := g.len; rw [List.length_append, List.length_append]; simp; omega⟩
  · rw [List.map_append]
    exact nodup_snocK g.nd (valV_none.mp hn)
  · rw [val] at e
    split at e
    · rename_i hk
      subst hk
      cases e
      refine ⟨a, E, rfl, rfl, by rw [armI_one]; simp, ?_, Same.free s0 nE⟩
      rw [armI_one, g.no a hn]
      exact hE
    · rename_i hk
      obtain ⟨a', b', rfl, rfl, h1, h2, h3⟩ := g.vals k v e
      have z : a' ≠ a := fun q => hk (by rw [q])
      refine ⟨a', b', rfl, rfl, by rw [armI_other _ _ z]; exact h1, ?_, h3⟩
      rw [armI_other _ _ z]
      exact s _ _ (fun q => by rw [q, nE] at h2; cases h2) (fun q => by rw [q, hf] at h2; cases h2) h2
  · rw [val] at e
    split at e
    · cases e
    · rename_i hk
      have z : c ≠ a := fun q => hk (by rw [q])
      rw [armI_other _ _ z]
      exact g.no c e
  · rw [val] at e e2
    have old : ∀ k v, valV kvs k = some v → v ≠ .ref E := fun k v e q => by
      obtain ⟨a', b', _, q2, _, h2, _⟩ := g.vals k v e
      rw [q] at q2
      cases q2
      rw [nE] at h2
      cases h2
    split at e
    · rename_i h1
      split at e2
      · rename_i h2
        rw [h1, h2]
      · cases e
        exact absurd rfl (old _ _ e2)
    · split at e2
      · cases e2
        exact absurd rfl (old _ _ e)
      · exact g.inj k k' v e e2
theorem lotS_len {L : List (List (Nat × Nat))} (six : ∀ i, (L.getD i []).length ≤ 6) : ∀ q : List Nat, (lotS L q).length ≤ 6 * q.length
  | [] => Nat.le_refl _
  | x :: r => by
    have := six x
    have := lotS_len six r
    rw [show x :: r = [x] ++ r from rfl, lotS_append, lotS_one, List.length_append, List.length_append, List.length_singleton]
    omega
/-- what object_places tells -/
def FndV (H : Hp) (kvs : List (Key × V)) (o : List (Nat × Nat)) : Prop := ∀ k v, valV kvs k = some v → ∃ (a : Nat) (b : Addr) (S : List Nat), k = .inl (a : Int) ∧ v = .ref b ∧ armI o a ≠ [] ∧ H b = some (.lst (natsV S)) ∧ S.Pairwise (· ≤ ·) ∧ S.Perm (armI o a)
structure Fnd (H : Hp) (d : Addr) (kvs : List (Key × V)) (o : List (Nat × Nat)) : Prop where
  at_ : H d = some (.dK kvs)
  nd : (kvs.map (·.1)).Nodup
  vals : FndV H kvs o
  no : ∀ a : Nat, valV kvs (.inl (a : Int)) = none → armI o a = []
theorem FndV.keep {H H' : Hp} {kvs : List (Key × V)} {o : List (Nat × Nat)} (h : FndV H kvs o) (s : ∀ b xs, H b = some (.lst xs) → H' b = some (.lst xs)) : FndV H' kvs o := fun k v e => by
  obtain ⟨a, b, S, h1, h2, h3, h4, h5⟩ := h k v e
  exact ⟨a, b, S, h1, h2, h3, s _ _ h4, h5⟩
theorem Fnd.same {H H' : Hp} {d : Addr} {kvs : List (Key × V)} {o : List (Nat × Nat)} (h : Fnd H d kvs o) (s : Same H H') : Fnd H' d kvs o := ⟨s _ _ h.at_, h.nd, h.vals.keep fun b xs e => s _ _ e, h.no⟩
theorem perm_nats {ns : List Int} {q : List Nat} (h : ns.Perm (q.map fun z : Nat => (z : Int))) (s : ns.Pairwise (· ≤ ·)) : ∃ S : List Nat, ns = (S.map fun z : Nat => (z : Int)) ∧ S.Perm q ∧ S.Pairwise (· ≤ ·) := by
  have e : ns = (ns.map Int.toNat).map fun z : Nat => (z : Int) := by
    rw [List.map_map]
    conv => lhs; rw [← List.map_id ns]
    refine List.map_congr_left fun x hx => ?_
    obtain ⟨z, _, rfl⟩ := List.mem_map.mp (h.mem_iff.mp hx)
    rfl
  refine ⟨ns.map Int.toNat, e, ?_, ?_⟩
  · have := h.map Int.toNat
    rw [List.map_map] at this
    have e2 : (q.map (Int.toNat ∘ fun z : Nat => (z : Int))) = q := by
      conv => rhs; rw [← List.map_id q]
      exact List.map_congr_left fun x _ => rfl
    rw [e2] at this
    exact this
  · rw [List.pairwise_map]
    refine s.imp fun {a b} l => ?_
    omega
/-- a dict comprehension over the keys of a locked dict -/
theorem dc_keysS {d : Addr} {o : Obj} {kv0 : List (Key × V)} {g : TG} {tt : TT} {tk tv : TE} {vs : List Nat} {σ : St} {H1 : Hp} {D : Addr} {Qd : Hp → Prop} (R : Nat → List (Key × V) → Hp → Prop) (h0 : R 0 [] (upd H1 D (.dK []))) (hx : H1 d = some (.frz o (.dK kv0))) (nD : H1 D = none) (hn : kv0.length ≤ 100000)
    (st : ∀ i kvs H k1 k2, R i kvs H → H D = some (.dK k1) → R i kvs (upd H D (.dK k2)))
    (hs : ∀ (i : Nat) (k : Key) (x : V) (H : Hp) (N : V → V → Hp → Prop) (M : Hp → Prop) (kvs : List (Key × V)), kv0[i]? = some (k, x) → Same H1 H → R i kvs H → (∀ z H5, Same H H5 → R (i + 1) (putK kvs k z) H5 → N (kV k) z H5) →
      g (kV k) (wipe σ vs) H fun σ2 H2 => wipe σ2 vs = wipe σ vs ∧ tt σ2 H2 fun b H3 => if b = true then tk σ2 H3 fun y H4 => tv σ2 H4 fun z H5 => N y z H5 else M H3)
    (hd : ∀ H kvs, Same H1 H → H D = some (.dK kvs) → R kv0.length kvs H → Qd H) : ∃ W : Nat → Nat → Hp → Prop, (∃ m, W 0 m (upd H1 D (.dK []))) ∧ ∀ i m H, W i m H →
      ((Itk d o kv0).stop i H ∧ Qd H) ∨ ((Itk d o kv0).go i H ∧ ∃ Nx : Hp → Prop, (∀ H', Nx H' → ∃ m', m' < m ∧ W (i + 1) m' H') ∧ ∀ x H', (Itk d o kv0).yld i H x H' → g x (wipe σ vs) H' fun σ2 H2 => wipe σ2 vs = wipe σ vs ∧ tt σ2 H2 fun b H3 =>
        if b = true then tk σ2 H3 fun y H4 => tv σ2 H4 fun z H5 => ∃ kvs k, y = kV k ∧ H5 D = some (.dK kvs) ∧ kvs.length < sizeLine ∧ Nx (upd H5 D (.dK (putK kvs k z))) else Nx H3) := by
  refine ⟨fun i m H => m = kv0.length - i ∧ i ≤ kv0.length ∧ Same H1 H ∧ ∃ kvs, H D = some (.dK kvs) ∧ kvs.length ≤ i ∧ R i kvs H, ⟨kv0.length, rfl, Nat.zero_le _, Same.new (Same.refl H1) nD, [], upd_same, Nat.le_refl _, h0⟩, ?_⟩
  rintro i m H ⟨rfl, hi, s, kvs, hD, hl, hR⟩
  have qx := s _ _ hx
  by_cases hlt : i < kv0.length
  · refine .inr ⟨walk_keys.goes i H hlt qx, fun H => i < kv0.length ∧ Same H1 H ∧ ∃ kvs, H D = some (.dK kvs) ∧ kvs.length ≤ i + 1 ∧ R (i + 1) kvs H, fun H' p' => ⟨kv0.length - (i + 1), by omega, rfl, hlt, p'.2⟩, fun v H' y => ?_⟩
    obtain ⟨rfl, k, x, ek, rfl⟩ := walk_keys.yields i H v H' hlt qx y
    refine hs i k x _ (fun y z H5 => ∃ kvs k, y = kV k ∧ H5 D = some (.dK kvs) ∧ kvs.length < sizeLine ∧ (i < kv0.length ∧ Same H1 (upd H5 D (.dK (putK kvs k z))) ∧ ∃ kvs2, upd H5 D (.dK (putK kvs k z)) D = some (.dK kvs2) ∧ kvs2.length ≤ i + 1 ∧ R (i + 1) kvs2 (upd H5 D (.dK (putK kvs k z))))) _ kvs ek s hR (fun z H5 s5 r5 => ?_)
    have hl2 := length_putK kvs k z
    exact ⟨kvs, k, rfl, s5 _ _ hD, lt_line (by omega), hlt, Same.mut (s.trans s5) nD, _, upd_same, by omega, st _ _ _ _ _ r5 (s5 _ _ hD)⟩
  · have e : i = kv0.length := by omega
    subst e
    exact .inl ⟨walk_keys.stops H qx, hd H kvs s hD hR⟩
theorem cat_any {K : PySem.W.Frag} {H : Hp} {a b : Addr} {xs ys : List V} {Q : VK} (hx : H a = some (.tup xs)) (hy : H b = some (.tup ys)) (hl : xs.length + ys.length ≤ sizeLine)
    (k : ∀ p H', Same H H' → H' p = some (.tup (xs ++ ys)) → Q (.ref p) H') : rCatA K (.ref a) (.ref b) H Q := by
  refine ⟨a, b, xs, ys, rfl, rfl, SqT.of hx, SqT.of hy, hl, fun e => ?_, fun _ e => ?_, fun _ _ p np => ?_⟩
  · exact k b H (Same.refl H) (by rw [hy, e]; rfl)
  · exact k a H (Same.refl H) (by rw [hx, e, List.append_nil])
  · exact k p _ (Same.new (Same.refl H) np) upd_same
def sp_object_places (C : Addr) (K : PySem.W.Frag) : Sp := fun vs H Q _ => ∃ (l : Bk) (P : List (List Nat)) (a : Addr) (L : List (List (Nat × Nat))) (x : Nat), vs = [.ref l.b, .ref a, .int x] ∧ BookAt C H l P ∧ OkP P ∧ LayAt H a L ∧ L.length = P.length ∧ x < P.length ∧ P.length ≤ 400 ∧ (∀ i, (L.getD i []).length ≤ 6) ∧
  ∀ d kvs H', Same H H' → Fnd H' d kvs (objS P L x) → Q (.ref d) H'
theorem sc_object_places : FnScope ["book", "laying_told", "x", "found", "p", "arm", "index"] ["book", "laying_told", "x"] (defScope s_object_places) := ⟨rfl, rfl, rfl, by decide +kernel, rfl, by decide +kernel, by decide +kernel⟩
theorem ok_object_places (T : Top P K mg) : FnOk P w K mg base CX0 3 T.f_object_places T.fd_object_places ["book", "laying_told", "x"] (sp_object_places T.C_Book K) := by
  have G_forebears_of := ok_forebears_of (P := P) (w := w) (base := base) T
  refine T.F_object_places.ok sc_object_places (fun vs H Q E h => ?_) (fun cdv A outer s H vs Q E hr h => ?_)
  · obtain ⟨l, P, a, L, x, rfl, _⟩ := h
    rfl
  · obtain ⟨l, P, a, L, x, rfl, hl, okP, hL, ll, hx, few, six, k⟩ := h
    refine ⟨_, (pss_cons (ps_set (i := 3) sc_object_places.nd rfl (Or.inr rfl) pe_dnewK)
      (pss_cons (ps_for PassesOwn.never rfl (pi_tup (pe_op op_catA (pe_call G_forebears_of hr (by rfl) T.g_forebears_of T.F_forebears_of.kp T.b_forebears_of .nil pass0 (pa_cons (pv 0) (pa_cons (pv 2) pa_nil))) (pe_tup (pa_cons (pv 2) pa_nil)))) (pg_name (i := 4) sc_object_places.nd rfl (Or.inl rfl))
      (pss_one (ps_for PassesOwn.never rfl (pi_tup (pe_ix (r := rIxT K) ix_tup (pv 1) (pv 4) (fun _ _ => rfl))) (pg_tup rfl (pgs_cons (pg_name (i := 5) sc_object_places.nd rfl (Or.inl rfl)) (pgs_cons (pg_name (i := 6) sc_object_places.nd rfl (Or.inl rfl)) pgs_nil)))
      (pss_one (ps_expr (pe_bm PySem.F.plainAttrs_list PySem.F.slot_list_append PySem.F.type_list_append mt_append (pe_dsetd (pv 3) (pv 5) (pe_lst pa_nil) ⟨by rfl, by rfl, by rfl, by rfl⟩) (pa_cons (pv 6) pa_nil)))))))
      (pss_one (ps_ret (pe_lock (pe_dc (own := [("arm", 5)]) (g := gName 5) (tt := tYes) rfl sc_object_places.nd (pi_keys (pv 3)) (blkOk_by (own := [("arm", 5)]) (N := ["book", "laying_told", "x", "found", "p", "arm", "index"]) (sc := defScope s_object_places) (by decide +kernel)) (fun _ _ _ _ _ => (pg_name (i := 5) sc_object_places.nd rfl (Or.inl rfl))) (fun _ _ _ _ _ => pts_nil) (fun _ _ _ _ _ => (pv 5)) (fun _ _ _ _ _ => (pe_callB (r := rSortedI K) (id := "sorted") cr_sortedI (by rfl) T.z_sorted (by decide +kernel) (pa_cons (pe_dget (Nat.lt_of_le_of_lt (Nat.add_le_add_left (by decide) _) hr.units) (pv 3) (pv 5) (fun _ _ => rfl)) pa_nil))))))))), ?_⟩
    tm_at "w"
    intro f nf
    obtain ⟨H1, e1, s1, hf⟩ := new_hide (Same.new (o := .dK []) (Same.refl H) nf)
    rw [e1]
    have hl1 := hl.same s1
    tm_at "w"
    refine ⟨l, P, x, rfl, hl1, hx, by omega, fun t H2 s2 ht => ?_⟩
    tm_at "w"
    intro p0 np0
    have ht1 := (Same.new (o := .tup [V.int (x : Int)]) (Same.refl H2) np0) _ _ ht
    refine cat_any ht1 upd_same (by rw [natsV_len]; have := lt_line (n := 90000) (by decide); have := foreB_len P x; show (foreB P x).length + 1 ≤ sizeLine; omega) fun q0 H4 s4 hq0 => ?_
    have s24 := Same.trans (Same.new (o := .tup [V.int (x : Int)]) (Same.refl H2) np0) s4
    rw [natsV_snocL] at hq0
    have hf4 := s24 _ _ (s2 _ _ hf)
    have s04 := Same.trans (Same.trans s1 s2) s24
    have qm := fun y (hy : y ∈ foreB P x ++ [x]) => (mem_up okP.rt hx y).mp hy
    have ql : (foreB P x ++ [x]).length ≤ 400 := by have := foreB_len P x; simp; omega
    unfold objS at k
    generalize foreB P x ++ [x] = q at *
    have qv := natsV_len q
    have est : L2.start ["book", "laying_told", "x", "found", "p", "arm", "index"] [V.ref l.b, V.ref a, V.int (x : Int)] = ([some (.ref l.b), some (.ref a), some (.int (x : Int)), none, none, none, none] : L2.St) := rfl
    rw [est]
    refine ⟨q0, rfl, ⟨_, SqT.of hq0⟩, for_tup (K := K) (a := q0) (xs := natsV q) (fun i σ H' => ∃ u v w kvs, (Same H H' ∧ H' q0 = some (.tup (natsV q)) ∧ H' f = some (.dK kvs) ∧ FdG H H' kvs (lotS L (q.take i))) ∧ σ = [some (.ref l.b), some (.ref a), some (.int (x : Int)), some (.ref f), u, v, w]) ?_ ?_ ?_ ?_⟩
    · exact ⟨_, _, _, [], ⟨s04, hq0, hf4, FdG.nil⟩, rfl⟩
    · rintro i σ H' _ ⟨_, _, _, _, ⟨_, h2, _⟩, _⟩
      exact SqT.of h2
    · rintro i v σ H' hv ⟨u0, v0, w0, kvs, ⟨g1, g2, g3, g4⟩, rfl⟩
      obtain ⟨y, hy, rfl, il⟩ := natsV_here hv
      have yl := isA_le okP.rt (qm y (List.mem_of_getElem? hy))
      obtain ⟨xs, b, ys, l1, l2, l3, l4, l5⟩ := hL.at (x := y) (by omega)
      have six' := six y
      have le := l5.1
      have l1' := g1 _ _ l1
      have l4' := g1 _ _ l4
      tm_at "w"
      refine ⟨⟨_, SqT.of l4'⟩, for_tup (K := K) (a := b) (xs := ys) (fun j σ H2 => ∃ v w kv2, (Same H H2 ∧ H2 q0 = some (.tup (natsV q)) ∧ H2 f = some (.dK kv2) ∧ FdG H H2 kv2 (lotS L (q.take i) ++ (L.getD y []).take j)) ∧ σ = [some (.ref l.b), some (.ref a), some (.int (x : Int)), some (.ref f), some (.int (y : Int)), v, w]) ?_ ?_ ?_ ?_⟩
      · refine ⟨_, _, kvs, ⟨g1, g2, g3, ?_⟩, rfl⟩
        rw [List.take_zero, List.append_nil]
        exact g4
      · rintro j σ H2 _ ⟨_, _, _, ⟨h1, _⟩, _⟩
        exact SqT.of (h1 _ _ l4)
      · rintro j v σ H2 hv ⟨v1, w1, kv2, ⟨h1, h2, h3, h4⟩, rfl⟩
        obtain ⟨⟨ar, ix⟩, hs, c, rfl, hc⟩ := l5.at hv
        have hc : H c = some (.tup [V.int (ar : Int), V.int (ix : Int)]) := hc
        have hc2 := h1 _ _ hc
        have nd := h4.nd
        have hlen : kv2.length < sizeLine := by
          have h5 := h4.len
          have h6 := lotS_len six (q.take i)
          have h7 : (q.take i).length ≤ q.length := by rw [List.length_take]; omega
          have h8 : ((L.getD y []).take j).length ≤ (L.getD y []).length := by rw [List.length_take]; omega
          rw [List.length_append] at h5
          have := lt_line (n := 90000) (by decide)
          have : 6 * (q.take i).length ≤ 6 * 400 := Nat.mul_le_mul_left 6 (by omega)
          omega
        have ejs : (L.getD y []).take (j + 1) = (L.getD y []).take j ++ [(ar, ix)] := by rw [List.take_add_one, hs]; rfl
        tm_at "w"
        refine ⟨.inl ⟨kv2, .inl h3⟩, ?_⟩
        tm_at "w"
        intro E nE
        have sE : Same H2 (upd H2 E (.lst [])) := Same.new (Same.refl H2) nE
        refine ⟨kv2, .inl (ar : Int), sE _ _ h3, rfl, hlen, fun v hv => ?_, fun hn => ?_⟩
        · obtain ⟨a', b', ek, rfl, m1, m2, m3⟩ := h4.vals _ _ hv
          obtain rfl : ar = a' := by
            have := Sum.inl.inj ek
            omega
          have m2' := sE _ _ m2
          have lb : (natsV (armI (lotS L (q.take i) ++ (L.getD y []).take j) ar)).length < sizeLine := by
            rw [natsV_len]
            have h6 := lotS_len six (q.take i)
            have h7 : (q.take i).length ≤ q.length := by rw [List.length_take]; omega
            have h8 : ((L.getD y []).take j).length ≤ (L.getD y []).length := by rw [List.length_take]; omega
            have h9 : (armI (lotS L (q.take i) ++ (L.getD y []).take j) ar).length ≤ (lotS L (q.take i) ++ (L.getD y []).take j).length := by
              unfold armI
              rw [List.length_map]
              exact List.length_filter_le _ _
            rw [List.length_append] at h9
            have := lt_line (n := 90000) (by decide)
            have : 6 * (q.take i).length ≤ 6 * 400 := Nat.mul_le_mul_left 6 (by omega)
            omega
          tm_at "w"
          refine ⟨_, _, _, rfl, rfl, m2', lb, ?_⟩
          refine ⟨_, _, kv2, ⟨Same.mut (Same.trans h1 sE) m3, ?_, ?_, ?_⟩, rfl⟩
          · rw [upd_ne (fun z => by rw [z] at h2; rw [h2] at m2; cases m2)]
            exact sE _ _ h2
          · rw [upd_ne (fun z => by rw [z] at h3; rw [h3] at m2; cases m2)]
            exact sE _ _ h3
          · rw [ejs, ← List.append_assoc]
            exact h4.more hv sE
        · have hE : upd (upd H2 E (.lst [])) f (.dK (putK kv2 (.inl (ar : Int)) (.ref E))) E = some (.lst []) := by
            rw [upd_ne (fun z => by rw [z, h3] at nE; cases nE), upd_same]
          have nE0 := Same.free h1 nE
          tm_at "w"
          refine ⟨_, _, putK kv2 (.inl (ar : Int)) (.ref E), ⟨?_, ?_, ?_, ?_⟩, rfl⟩
          · exact Same.mut (Same.mut (Same.trans h1 sE) nf) nE0
          · rw [upd_ne (fun z => by rw [← z, h2] at nE; cases nE), upd_ne (fun z => by rw [z, h3] at h2; cases h2)]
            exact sE _ _ h2
          · rw [upd_ne (fun z => by rw [← z, h3] at nE; cases nE), upd_same]
          · rw [ejs, ← List.append_assoc]
            refine h4.new hn h1 nE h3 (fun b u n1 n2 hb => ?_) upd_same
            rw [upd_ne n1, upd_ne n2]
            exact sE _ _ hb
      · rintro σ H2 ⟨v1, w1, kv2, ⟨h1, h2, h3, h4⟩, rfl⟩
        refine ⟨_, _, _, kv2, ⟨h1, h2, h3, ?_⟩, rfl⟩
        rw [le, List.take_length] at h4
        rw [List.take_add_one, hy]
        show FdG H H2 kv2 (lotS L (q.take i ++ [y]))
        rw [lotS_append, lotS_one]
        exact h4
    · rintro σ H5 ⟨u0, v0, w0, kvs, ⟨g1, g2, g3, g4⟩, rfl⟩
      rw [qv, List.take_length] at g4
      refine ⟨f, .dK kvs, g3, trivial, fun od => ?_⟩
      have hfz : upd H5 f (.frz od (.dK kvs)) f = some (.frz od (.dK kvs)) := upd_same
      refine ⟨_, rfl, f, od, rfl, .inl ⟨kvs, hfz, fun D nD => ?_⟩⟩
      have gl : kvs.length ≤ 100000 := by
        have h5 := g4.len
        have h6 := lotS_len six q
        have : 6 * q.length ≤ 6 * 400 := Nat.mul_le_mul_left 6 (by omega)
        omega
      refine dc_keysS (fun i kn H' => kn.map (·.1) = (kvs.take i).map (·.1) ∧ FndV H' kn (lotS L q)) ⟨rfl, fun k v e => by cases e⟩ hfz nD gl ?_ ?_ ?_
      · rintro i kn H' k1 k2 ⟨e1, e2⟩ hD
        refine ⟨e1, e2.keep fun b xs hb => ?_⟩
        rw [upd_ne (fun z => by rw [z, hD] at hb; cases hb)]
        exact hb
      · rintro i ky v H' N M kn hk s5 ⟨e1, e2⟩ kN
        have hval := valV_here g4.nd hk
        obtain ⟨ar, b, rfl, rfl, m1, m2, m3⟩ := g4.vals _ _ hval
        have mfb : f ≠ b := fun z => by rw [z, m2] at g3; cases g3
        have m2' : H' b = some (.lst (natsV (armI (lotS L q) ar))) := s5 _ _ ((upd_ne (Ne.symm mfb)).trans m2)
        have hdg : DGet H' f (V.int (ar : Int)) (some (V.ref b)) := by
          rw [← hval]
          exact .inl ⟨kvs, .inl (ar : Int), .inr ⟨od, s5 _ _ hfz⟩, rfl, rfl⟩
        tm_at "w"
        refine ⟨f, _, rfl, hdg, ?_⟩
        tm_at "w"
        refine ⟨b, (armI (lotS L q) ar).map fun z : Nat => (z : Int), rfl, SqL.of (by rw [List.map_map]; exact m2'), fun ns p perm srt np => ?_⟩
        obtain ⟨S, rfl, hp, hs⟩ := perm_nats perm srt
        have il : i < kvs.length := (List.getElem?_eq_some_iff.mp hk).1
        have ek : (kvs.take (i + 1)).map (·.1) = (kvs.take i).map (·.1) ++ [Sum.inl (ar : Int)] := by
          rw [List.take_add_one, hk, List.map_append]
          rfl
        have nk : Sum.inl (ar : Int) ∉ (kvs.take i).map (·.1) := by
          have nd := (g4.nd.sublist (List.Sublist.map _ (List.take_sublist (i + 1) kvs)))
          rw [ek, List.nodup_append] at nd
          exact fun hm => nd.2.2 _ hm _ (List.mem_singleton.mpr rfl) rfl
        have vn : valV kn (.inl (ar : Int)) = none := valV_none.mpr (by rw [e1]; exact nk)
        have sp : Same H' (upd H' p (.lst ((S.map fun z : Nat => (z : Int)).map V.int))) := Same.new (Same.refl H') np
        refine kN _ _ sp ⟨?_, fun k2 v2 e => ?_⟩
        · rw [putK_new _ vn, List.map_append, e1, ek]
          rfl
        · rw [putK_new _ vn, valV_snoc _ _ _ _ vn] at e
          split at e
          · rename_i hz
            cases e
            exact ⟨ar, p, S, hz, rfl, m1, by rw [upd_same, List.map_map]; rfl, hs, hp⟩
          · exact (e2.keep fun b xs e => sp _ _ e) k2 v2 e
      · rintro H6 kn s6 hD ⟨e1, e2⟩
        have hf6 := s6 _ _ hfz
        rw [List.take_length] at e1
        have nDf : D ≠ f := fun z => by rw [z, hfz] at nD; cases nD
        refine ⟨hf6, k D kn _ (fun c o hc => ?_) ⟨(upd_ne nDf).trans hD, by rw [e1]; exact g4.nd, e2.keep fun b xs hb => ?_, fun a2 e => ?_⟩⟩
        · have ncf : c ≠ f := fun z => by rw [z, nf] at hc; cases hc
          rw [upd_ne ncf]
          exact s6 _ _ ((upd_ne ncf).trans (g1 _ _ hc))
        · rw [upd_ne (fun z => by rw [z, hf6] at hb; cases hb)]
          exact hb
        · refine g4.no a2 (valV_none.mpr ?_)
          rw [← e1]
          exact valV_none.mp e
/-! hole_in -/
/-- a number or None -/
def optH : Option Nat → V
  | none => .non
  | some i => .int (i : Int)
def sp_hole_in (K : PySem.W.Frag) : Sp := fun vs H Q _ => ∃ (b : Addr) (S : List Nat), vs = [.ref b] ∧ H b = some (.lst (natsV S)) ∧ S.Pairwise (· ≤ ·) ∧ ∀ H', Same H H' → Q (optH (badI S)) H'
theorem sc_hole_in : FnScope ["indexes", "at", "index"] ["indexes"] (defScope s_hole_in) := ⟨rfl, rfl, rfl, by decide +kernel, rfl, by decide +kernel, by decide +kernel⟩
theorem ok_hole_in (T : Top P K mg) : FnOk P w K mg base CX0 1 T.f_hole_in T.fd_hole_in ["indexes"] (sp_hole_in K) := by
  refine T.F_hole_in.ok sc_hole_in (fun vs H Q E h => ?_) (fun cdv A outer s H vs Q E hr h => ?_)
  · obtain ⟨b, S, rfl, _⟩ := h
    rfl
  · obtain ⟨b, S, rfl, hb, hs, k⟩ := h
    refine ⟨_, (pss_cons (ps_for PassesOwn.never rfl (pi_enum (by rfl) T.z_enumerate (pa_cons (pv 0) pa_nil)) (pg_tup rfl (pgs_cons (pg_name (i := 1) sc_hole_in.nd rfl (Or.inl rfl)) (pgs_cons (pg_name (i := 2) sc_hole_in.nd rfl (Or.inl rfl)) pgs_nil)))
      (pss_one (ps_if (pt_cmpR op_ne (pv 2) (pv 1) (nomark _)) (pss_one (ps_ret (pe_callB (id := "min") (call_min2 rfl) (by rfl) T.z_min (by decide +kernel) (pa_cons (pv 2) (pa_cons (pv 1) pa_nil))))) pss_nil)))
      (pss_one (ps_ret pe_non))), ?_⟩
    have sv := natsV_len S
    tm_at "w"
    refine ⟨_, _, rfl, SqL.of hb, for_enumL (K := K) (a := b) (xs := natsV S) (fun i σ H' => ∃ u v, (Same H H' ∧ ∀ j, j < i → S[j]? = some j) ∧ σ = [some (.ref b), u, v]) ?_ ?_ ?_ ?_⟩
    · exact ⟨_, _, ⟨Same.refl H, fun j hj => by omega⟩, rfl⟩
    · rintro i σ H' ⟨_, _, ⟨s1, _⟩, _⟩
      exact SqL.of (s1 _ _ hb)
    · rintro i v t σ H' hv ⟨u0, v0, ⟨s1, h1⟩, rfl⟩ nt
      obtain ⟨y, hy, rfl, il⟩ := natsV_here hv
      have s2 := Same.new (o := .tup [V.int (i : Int), V.int (y : Int)]) s1 nt
      tm_at "w"
      refine iteB (fun z => ?_) (fun z => ?_)
      · have k := k _ s2
        have ne : y ≠ i := fun e => by rw [e] at z; simp at z
        rw [badI_at hs h1 hy ne] at k
        have em : V.int (if (i : Int) < (y : Int) then (i : Int) else (y : Int)) = optH (some (min y i)) := by
          show _ = V.int ((min y i : Nat) : Int)
          congr 1
          split <;> omega
        rw [← em] at k
        tm_at "w"
        exact ⟨(y : Int), (i : Int), rfl, k⟩
      · have eq : y = i := by
          simp at z
          omega
        exact ⟨_, _, ⟨s2, fun j hj => by
          by_cases e : j = i
          · subst e
            rw [hy, eq]
          · exact h1 j (by omega)⟩, rfl⟩
    · rintro σ H' ⟨u0, v0, ⟨s1, h1⟩, rfl⟩
      rw [sv] at h1
      have k := k _ s1
      rw [badI_full hs h1] at k
      tm_at "w"
      exact k
/-! hole_of -/
/-- a place with its kind ahead, or None -/
def HolV (H : Hp) (v : V) (r : Option (Nat × Nat × Nat)) : Prop := match r with
  | none => v = .non
  | some r => ∃ t, v = .ref t ∧ H t = some (.tup [.int (r.1 : Nat), .int (r.2.1 : Nat), .int (r.2.2 : Nat)])
theorem badI_of {S o : List Nat} (h : S.Perm o) : badI S = badI o := badI_perm h
theorem asc_of2 {q : List Nat} (h : q.Pairwise (· ≤ ·)) (n : q.Nodup) : q.Pairwise (· < ·) := (h.and n).imp fun {a b} z => by
  have := z.1
  have := z.2
  omega
theorem Fnd.arms {H : Hp} {d : Addr} {kvs : List (Key × V)} {o : List (Nat × Nat)} (h : Fnd H d kvs o) : ∃ A : List Nat, kvs.map (fun kv => kV kv.1) = natsV A ∧ A.Nodup ∧ (∀ a, a ∈ A ↔ armI o a ≠ []) ∧ ∀ a ∈ A, ∃ b S, valV kvs (.inl (a : Int)) = some (.ref b) ∧ H b = some (.lst (natsV S)) ∧ S.Pairwise (· ≤ ·) ∧ S.Perm (armI o a) := by
  have key : ∀ ks : List Key, (∀ k ∈ ks, ∃ a : Nat, k = .inl (a : Int)) → ∃ A : List Nat, ks = A.map fun a : Nat => (Sum.inl (a : Int) : Key) := by
    intro ks
    induction ks with
    | nil => exact fun _ => ⟨[], rfl⟩
    | cons k r ih =>
      intro hk
      obtain ⟨a, rfl⟩ := hk k List.mem_cons_self
      obtain ⟨A, rfl⟩ := ih fun k' hk' => hk k' (List.mem_cons_of_mem _ hk')
      exact ⟨a :: A, rfl⟩
  obtain ⟨A, eA⟩ := key (kvs.map (·.1)) fun k hk => by
    cases hv : valV kvs k with
    | none => exact absurd hk (valV_none.mp hv)
    | some v =>
      obtain ⟨a, b, S, rfl, _⟩ := h.vals k v hv
      exact ⟨a, rfl⟩
  have mem : ∀ a, a ∈ A ↔ armI o a ≠ [] := fun a => by
    have m : a ∈ A ↔ (Sum.inl (a : Int) : Key) ∈ kvs.map (·.1) := by
      rw [eA]
      constructor
      · exact fun h => List.mem_map.mpr ⟨a, h, rfl⟩
      · intro h
        obtain ⟨c, hc, e⟩ := List.mem_map.mp h
        have := Sum.inl.inj e
        rw [show a = c by omega]
        exact hc
    rw [m]
    constructor
    · intro hm
      cases hv : valV kvs (.inl (a : Int)) with
      | none => exact absurd hm (valV_none.mp hv)
      | some v =>
        obtain ⟨c, b, S, ec, _, hc, _⟩ := h.vals _ v hv
        have := Sum.inl.inj ec
        rw [show a = c by omega]
        exact hc
    · intro hn
      cases hv : valV kvs (.inl (a : Int)) with
      | none => exact absurd (h.no a hv) hn
      | some v => exact Classical.byContradiction fun z => by rw [valV_none.mpr z] at hv; cases hv
  refine ⟨A, ?_, ?_, mem, fun a ha => ?_⟩
  · have : kvs.map (fun kv => kV kv.1) = (kvs.map (·.1)).map kV := by rw [List.map_map]; rfl
    rw [this, eA, List.map_map]
    rfl
  · have nd := h.nd
    rw [eA] at nd
    unfold List.Nodup at nd ⊢
    rw [List.pairwise_map] at nd
    exact nd.imp fun {a b} z e => z (by rw [e])
  · cases hv : valV kvs (.inl (a : Int)) with
    | none => exact absurd (h.no a hv) ((mem a).mp ha)
    | some v =>
      obtain ⟨c, b, S, ec, rfl, _, h3, h4, h5⟩ := h.vals _ v hv
      have := Sum.inl.inj ec
      obtain rfl : a = c := by omega
      exact ⟨b, S, rfl, h3, h4, h5⟩
def sp_hole_of (C : Addr) (K : PySem.W.Frag) : Sp := fun vs H Q _ => ∃ (l : Bk) (P : List (List Nat)) (a : Addr) (L : List (List (Nat × Nat))), vs = [.ref l.b, .ref a] ∧ BookAt C H l P ∧ OkP P ∧ LayAt H a L ∧ L.length = P.length ∧ P.length ≤ 400 ∧ (∀ i, (L.getD i []).length ≤ 6) ∧
  ∀ v r H', Same H H' → FirstIs P L r → HolV H' v r → Q v H'
theorem sc_hole_of : FnScope ["book", "laying_told", "x", "found", "arm", "index"] ["book", "laying_told"] (defScope s_hole_of) := ⟨rfl, rfl, rfl, by decide +kernel, rfl, by decide +kernel, by decide +kernel⟩
theorem ok_hole_of (T : Top P K mg) : FnOk P w K mg base CX0 4 T.f_hole_of T.fd_hole_of ["book", "laying_told"] (sp_hole_of T.C_Book K) := by
  have G_hole_in := ok_hole_in (P := P) (w := w) (base := base) T
  have G_many_of := ok_many_of (P := P) (w := w) (base := base) T
  have G_object_places := ok_object_places (P := P) (w := w) (base := base) T
  refine T.F_hole_of.ok sc_hole_of (fun vs H Q E h => ?_) (fun cdv A outer s H vs Q E hr h => ?_)
  · obtain ⟨l, P, a, L, rfl, _⟩ := h
    rfl
  · obtain ⟨l, P, a, L, rfl, hl, okP, hL, ll, few, six, k⟩ := h
    refine ⟨_, (pss_cons (ps_for PassesOwn.never rfl (pi_range1 rfl T.z_range (pa_cons (pe_call G_many_of (hr.mono (by decide)) (by rfl) T.g_many_of T.F_many_of.kp T.b_many_of .nil pass0 (pa_cons (pv 0) pa_nil)) pa_nil)) (pg_name (i := 2) sc_hole_of.nd rfl (Or.inl rfl))
      (pss_cons (ps_set (i := 3) sc_hole_of.nd rfl (Or.inl rfl) (pe_call G_object_places hr (by rfl) T.g_object_places T.F_object_places.kp T.b_object_places .nil pass0 (pa_cons (pv 0) (pa_cons (pv 1) (pa_cons (pv 2) pa_nil)))))
      (pss_one (ps_for PassesOwn.never rfl (pi_list (pe_callB (id := "sorted") cr_sortedI (by rfl) T.z_sorted (by decide +kernel) (pa_cons (pe_callTy (T := "list") (L2.call_listD rfl) (by rfl) T.z_list (by decide +kernel) (pa_cons (pv 3) pa_nil)) pa_nil))) (pg_name (i := 4) sc_hole_of.nd rfl (Or.inl rfl))
      (pss_cons (ps_set (i := 5) sc_hole_of.nd rfl (Or.inl rfl) (pe_call G_hole_in (hr.mono (by decide)) (by rfl) T.g_hole_in T.F_hole_in.kp T.b_hole_in .nil pass0 (pa_cons (pe_dget (Nat.lt_of_le_of_lt (Nat.add_le_add_left (by decide) _) hr.units) (pv 3) (pv 4) (fun _ _ => rfl)) pa_nil)))
      (pss_one (ps_if (pt_cmpR op_notN (pv 5) pe_non (nomark _)) (pss_one (ps_ret (pe_tup (pa_cons (pv 2) (pa_cons (pv 4) (pa_cons (pv 5) pa_nil)))))) pss_nil)))))))
      (pss_one (ps_ret pe_non))), ?_⟩
    tm_at "w"
    refine ⟨l, P, rfl, hl, ?_⟩
    tm_at "w"
    refine for_range (lo := 0) (n := ((P.length : Nat) : Int).toNat) (fun i σ H' => ∃ u v w x, (Same H H' ∧ ∀ y, y < i → HoleIs (objS P L y) none) ∧ σ = [some (.ref l.b), some (.ref a), u, v, w, x]) ?_ ?_ ?_
    · exact ⟨_, _, _, _, ⟨Same.refl H, fun y hy => by omega⟩, rfl⟩
    · rintro i σ H1 hi ⟨u0, v0, w0, x0, ⟨s1, h1⟩, rfl⟩
      rw [Int.zero_add]
      have hi : i < P.length := by omega
      have hl1 := hl.same s1
      tm_at "w"
      refine ⟨l, P, a, L, i, rfl, hl1, okP, hL.tk (Same.tk s1), ll, hi, few, six, fun d kvs H2 s2 fd => ?_⟩
      have hd := fd.at_
      obtain ⟨A, eA, ndA, memA, atA⟩ := fd.arms
      have s12 := Same.trans s1 s2
      tm_at "w"
      intro p np
      rw [eA]
      have sp : Same H2 (upd H2 p (.lst (natsV A))) := Same.new (Same.refl H2) np
      have s13 := Same.trans s12 sp
      tm_at "w"
      refine ⟨p, A.map fun z : Nat => (z : Int), rfl, SqL.of (by rw [List.map_map]; exact upd_same), fun ns q perm srt nq => ?_⟩
      obtain ⟨S, rfl, hp, hs⟩ := perm_nats perm srt
      obtain ⟨H4, e4, s4, hq⟩ := new_hide (Same.new (o := .lst ((S.map fun z : Nat => (z : Int)).map V.int)) (Same.refl _) nq)
      rw [e4]
      have hq : H4 q = some (.lst (natsV S)) := by rw [hq, List.map_map]; rfl
      have fd4 := (fd.same sp).same s4
      have s14 := Same.trans s13 s4
      have asc : S.Pairwise (· < ·) := asc_of2 hs (hp.nodup_iff.mpr ndA)
      have memS : ∀ a, a ∈ S ↔ armI (objS P L i) a ≠ [] := fun a => hp.mem_iff.trans (memA a)
      have atS := fun a (ha : a ∈ S) => atA a (hp.mem_iff.mp ha)
      have sv := natsV_len S
      refine ⟨q, rfl, ⟨_, SqL.of hq⟩, for_list (K := K) (a := q) (xs := natsV S) (fun j σ H' => ∃ v w, (Same H4 H' ∧ ∀ a ∈ S.take j, badI (armI (objS P L i) a) = none) ∧ σ = [some (.ref l.b), some (.ref a), some (.int (i : Int)), some (.ref d), v, w]) ?_ ?_ ?_ ?_⟩
      · exact ⟨_, _, ⟨Same.refl H4, fun a ha => by simp at ha⟩, rfl⟩
      · rintro j σ H' _ ⟨_, _, ⟨s5, _⟩, _⟩
        exact SqL.of (s5 _ _ hq)
      · rintro j v σ H' hv ⟨v1, w1, ⟨s5, h5⟩, rfl⟩
        obtain ⟨ar, har, rfl, jl⟩ := natsV_here hv
        obtain ⟨b, T1, hval, hb, hT, hP⟩ := atS ar (List.mem_of_getElem? har)
        have hb' := s5 _ _ (s4 _ _ (sp _ _ hb))
        have hdg : DGet H' d (V.int (ar : Int)) (some (V.ref b)) := by
          rw [← hval]
          exact .inl ⟨kvs, .inl (ar : Int), .inl (s5 _ _ fd4.at_), rfl, rfl⟩
        tm_at "w"
        refine ⟨d, _, rfl, hdg, ?_⟩
        tm_at "w"
        refine ⟨b, T1, rfl, hb', hT, fun H6 s6 => ?_⟩
        rw [badI_of hP]
        have s16 := Same.trans s14 (Same.trans s5 s6)
        cases c : badI (armI (objS P L i) ar) with
        | none =>
          tm_at "w"
          refine ⟨_, _, ⟨Same.trans s5 s6, fun a2 ha2 => ?_⟩, rfl⟩
          rw [List.take_add_one, har] at ha2
          rcases List.mem_append.mp ha2 with h | h
          · exact h5 a2 h
          · rw [List.mem_singleton.mp h]
            exact c
        | some ix =>
          tm_at "w"
          intro t nt
          refine k _ (some (i, ar, ix)) _ (Same.new s16 nt) ⟨hi, ⟨c, fun b2 lb => ?_⟩, h1⟩ ⟨t, rfl, upd_same⟩
          have lb : b2 < ar := lb
          cases ce : armI (objS P L i) b2 with
          | nil => rfl
          | cons y r =>
            rw [← ce]
            have hm := (memS b2).mpr (by rw [ce]; simp)
            obtain ⟨j2, hj2⟩ := List.mem_iff_getElem?.mp hm
            refine h5 b2 ?_
            obtain ⟨l2, e2⟩ := List.getElem?_eq_some_iff.mp hj2
            obtain ⟨l1, e1⟩ := List.getElem?_eq_some_iff.mp har
            have lj : j2 < j := by
              rcases Nat.lt_trichotomy j2 j with z | z | z
              · exact z
              · subst z
                omega
              · have := List.pairwise_iff_getElem.mp asc j j2 l1 l2 z
                omega
            exact List.mem_iff_getElem?.mpr ⟨j2, by rw [List.getElem?_take_of_lt lj, hj2]⟩
      · rintro σ H' ⟨v1, w1, ⟨s5, h5⟩, rfl⟩
        rw [sv, List.take_length] at h5
        refine ⟨_, _, _, _, ⟨Same.trans s14 s5, fun y hy => ?_⟩, rfl⟩
        by_cases e : y = i
        · subst e
          intro a2
          cases ce : armI (objS P L y) a2 with
          | nil => rfl
          | cons z r =>
            rw [← ce]
            exact h5 a2 ((memS a2).mpr (by rw [ce]; simp))
        · exact h1 y (by omega)
    · rintro σ H1 ⟨u0, v0, w0, x0, ⟨s1, h1⟩, rfl⟩
      tm_at "w"
      exact k _ none _ s1 (fun x hx => h1 x (by omega)) rfl
/-! first_hole -/
theorem nats_le {m : Nat} : ∀ {xs : List V}, (∀ v ∈ xs, ∃ x : Nat, v = .int (x : Int) ∧ x ≤ m) → ∃ F : List Nat, xs = natsV F ∧ ∀ x ∈ F, x ≤ m
  | [], _ => ⟨[], rfl, fun x hx => by cases hx⟩
  | v :: r, h => by
    obtain ⟨x, rfl, hx⟩ := h v List.mem_cons_self
    obtain ⟨F, rfl, hF⟩ := nats_le fun v hv => h v (List.mem_cons_of_mem _ hv)
    exact ⟨x :: F, rfl, fun y hy => by
      rcases List.mem_cons.mp hy with e | e
      · rw [e]
        exact hx
      · exact hF y e⟩
theorem fld_of {H : Hp} {v : V} {n : Nat} (h : fldB H v n = true) : ∃ f F, v = .ref f ∧ H f = some (.tup (natsV F)) ∧ F.length = n ∧ ∀ x ∈ F, x ≤ 6 := by
  unfold fldB at h
  split at h
  · split at h
    · rename_i a _ xs e
      rw [Bool.and_eq_true, decide_eq_true_eq, List.all_eq_true] at h
      obtain ⟨F, rfl, hF⟩ := nats_le (m := 6) fun v hv => within_le (h.2 v hv)
      exact ⟨a, F, rfl, e, by rw [← natsV_len]; exact h.1, hF⟩
    · cases h
  · cases h
theorem Fits.six {L : List (List (Nat × Nat))} {F : List Nat} (h : Fits L F) (six : ∀ x ∈ F, x ≤ 6) : ∀ i, (L.getD i []).length ≤ 6 := fun i => by
  by_cases hi : i < F.length
  · rw [h.2 i hi]
    have := six (F.getD i 0) (by rw [List.getD_eq_getElem?_getD, List.getElem?_eq_getElem hi]; exact List.getElem_mem hi)
    omega
  · rw [List.getD_eq_getElem?_getD, List.getElem?_eq_none (by have := h.1; omega)]
    exact Nat.zero_le _
def sp_first_hole (C : Addr) (C_NoFields : Addr) (C_NoLaying : Addr) (K : PySem.W.Frag) : Sp := fun vs H Q E => ∃ (l : Bk) (u v : V) (P : List (List Nat)) (z : Addr), vs = [.ref l.b, u, v] ∧ BookAt C H l P ∧ OkP P ∧ P.length ≤ 400 ∧ KitC K C ∧ Th C z H 1 u ∧ Th C z H 3 v ∧
  (fldB H u P.length = false → ∀ H', Same H H' → E (.ref C_NoFields) none H') ∧
  ∀ f F, u = .ref f → H f = some (.tup (natsV F)) → F.length = P.length → (∀ x ∈ F, x ≤ 6) → (plsB H F 6 v = false → ∀ H', Same H H' → E (.ref C_NoLaying) none H') ∧
    ∀ a L, v = .ref a → LayAt H a L → Fits L F → armsB L 6 = true → ∀ w r H', Same H H' → FirstIs P L r → HolV H' w r → Q w H'
theorem sc_first_hole : FnScope ["book", "fields", "thing"] ["book", "fields", "thing"] (defScope s_first_hole) := ⟨rfl, rfl, rfl, by decide +kernel, rfl, by decide +kernel, by decide +kernel⟩
theorem ok_first_hole (T : Top P K mg) : FnOk P w K mg base (L2.CX P w) 5 T.f_first_hole T.fd_first_hole ["book", "fields", "thing"] (sp_first_hole T.C_Book T.C_NoFields T.C_NoLaying K) := by
  have G_NoLaying___init__ := ok_NoLaying___init__ (P := P) (w := w) (base := base) T
  have G_check_fields := ok_check_fields (P := P) (w := w) (base := base) T
  have G_has_places := ok_has_places (P := P) (w := w) (base := base) T
  have G_hole_of := ok_hole_of (P := P) (w := w) (base := base) T
  refine T.F_first_hole.okX sc_first_hole (fun vs H Q E h => ?_) (fun cdv A outer s H vs Q E hr h => ?_)
  · obtain ⟨l, u, v, P, z, rfl, _⟩ := h
    rfl
  · obtain ⟨l, u, v, P, z, rfl, hl, okP, few, kc, hu, hv, ke, k⟩ := h
    refine ⟨_, (pss_cons (ps_expr (pe_callS G_check_fields (hr.mono (by decide)) (by rfl) T.g_check_fields T.F_check_fields.kp T.b_check_fields (fun σ => passAt (takes_of rfl rfl rfl rfl) σ) (by exact (pa_cons (pv 0) (pa_cons (pv 1) pa_nil)))))
      (pss_cons (ps_if (pt_not (pt_val (pe_call G_has_places hr (by rfl) T.g_has_places T.F_has_places.kp T.b_has_places .nil pass0 (pa_cons (pv 1) (pa_cons (pe_glob (v := .int 6) (by rfl) T.c_MOST_ARMS.choose_spec ⟨_, rfl⟩) (pa_cons (pv 2) pa_nil)))))) (pss_one (ps_raise rfl (takes_of rfl rfl rfl rfl) (pmk_n T.er_NoLaying.ex T.er_NoLaying.ic T.er_NoLaying.ti G_NoLaying___init__ (hr.mono (by decide)) T.er_NoLaying.bi pass0 (by rfl) T.er_NoLaying.g))) pss_nil)
      (pss_one (ps_ret (pe_call G_hole_of hr (by rfl) T.g_hole_of T.F_hole_of.kp T.b_hole_of .nil pass0 (pa_cons (pv 0) (pa_cons (pv 2) pa_nil))))))), ?_⟩
    tm_at "w"
    refine ⟨l, u, P, z, rfl, hl, few, kc, hu, fun fb H1 s1 => ?_, fun fb H1 s1 => ke fb H1 s1⟩
    obtain ⟨f, F, rfl, hf, fl, f6⟩ := fld_of fb
    obtain ⟨ke, k⟩ := k f F rfl hf fl f6
    have hv1 := hv.same s1
    have hf1 := s1 _ _ hf
    have hl1 := hl.same s1
    tm_at "w"
    refine ⟨f, F, 6, v, z, rfl, hf1, by omega, kc, hv1, fun H2 s2 => ?_⟩
    have s12 := Same.trans s1 s2
    rw [plsB_same hv s1]
    cases c : plsB H F 6 v with
    | false =>
      have ke := ke c H2 s12
      tm_at "w"
      exact ke
    | true =>
      obtain ⟨a, L, rfl, hL, ft, ar⟩ := pls_of c
      have hl2 := hl1.same s2
      tm_at "w"
      exact ⟨l, P, a, L, rfl, hl2, okP, hL.tk (Same.tk s12), by rw [ft.1, fl], few, ft.six f6, fun w r H3 s3 fi ho => k a L rfl hL ft ar w r H3 (Same.trans s12 s3) fi ho⟩
/-! is_laying -/
def sp_is_laying (C : Addr) (C_NoFields : Addr) (C_NoNumber : Addr) (K : PySem.W.Frag) : Sp := fun vs H Q E => ∃ (l : Bk) (u m v : V) (P : List (List Nat)) (z : Addr), vs = [.ref l.b, u, m, v] ∧ BookAt C H l P ∧ OkP P ∧ P.length ≤ 400 ∧ KitC K C ∧ Th C z H 1 u ∧ Th C z H 1 m ∧ Th C z H 3 v ∧
  (fldB H u P.length = false → ∀ H', Same H H' → E (.ref C_NoFields) none H') ∧ (fldB H u P.length = true → withinB m 1 6 = false → ∀ H', Same H H' → E (.ref C_NoNumber) none H') ∧
  ∀ f F i, u = .ref f → H f = some (.tup (natsV F)) → F.length = P.length → (∀ x ∈ F, x ≤ 6) → m = .int i → 1 ≤ i → i ≤ 6 → (plsB H F i v = false → ∀ H', Same H H' → Q (.bl false) H') ∧
    ∀ a L, v = .ref a → LayAt H a L → Fits L F → armsB L i = true → ∀ r H', Same H H' → FirstIs P L r → Q (.bl (decide (r = none))) H'
theorem within_int {v : V} {i j : Int} (h : withinB v i j = true) : ∃ k : Int, v = .int k ∧ i ≤ k ∧ k ≤ j := by
  cases v with
  | int k =>
    have h : (decide (i ≤ k) && decide (k ≤ j)) = true := h
    rw [Bool.and_eq_true, decide_eq_true_eq, decide_eq_true_eq] at h
    exact ⟨k, rfl, h.1, h.2⟩
  | _ => cases h
theorem sc_is_laying : FnScope ["book", "fields", "arms", "thing"] ["book", "fields", "arms", "thing"] (defScope s_is_laying) := ⟨rfl, rfl, rfl, by decide +kernel, rfl, by decide +kernel, by decide +kernel⟩
theorem ok_is_laying (T : Top P K mg) : FnOk P w K mg base (L2.CX P w) 5 T.f_is_laying T.fd_is_laying ["book", "fields", "arms", "thing"] (sp_is_laying T.C_Book T.C_NoFields T.C_NoNumber K) := by
  have G_check_fields := ok_check_fields (P := P) (w := w) (base := base) T
  have G_check_number := ok_check_number (P := P) (w := w) (base := base) T
  have G_has_places := ok_has_places (P := P) (w := w) (base := base) T
  have G_hole_of := ok_hole_of (P := P) (w := w) (base := base) T
  refine T.F_is_laying.okX sc_is_laying (fun vs H Q E h => ?_) (fun cdv A outer s H vs Q E hr h => ?_)
  · obtain ⟨l, u, m, v, P, z, rfl, _⟩ := h
    rfl
  · obtain ⟨l, u, m, v, P, z, rfl, hl, okP, few, kc, hu, hm, hv, ke, kn, k⟩ := h
    refine ⟨_, (pss_cons (ps_expr (pe_callS G_check_fields (hr.mono (by decide)) (by rfl) T.g_check_fields T.F_check_fields.kp T.b_check_fields (fun σ => passAt (takes_of rfl rfl rfl rfl) σ) (by exact (pa_cons (pv 0) (pa_cons (pv 1) pa_nil)))))
      (pss_cons (ps_expr (pe_callS G_check_number (hr.mono (by decide)) (by rfl) T.g_check_number T.F_check_number.kp T.b_check_number (fun σ => passAt (takes_of rfl rfl rfl rfl) σ) (by exact (pa_cons (pv 2) (pa_cons pe_int (pa_cons (pe_glob (v := .int 6) (by rfl) T.c_MOST_ARMS.choose_spec ⟨_, rfl⟩) pa_nil))))))
      (pss_one (ps_ret (pe_and (pe_call G_has_places hr (by rfl) T.g_has_places T.F_has_places.kp T.b_has_places .nil pass0 (pa_cons (pv 1) (pa_cons (pv 2) (pa_cons (pv 3) pa_nil)))) (pe_one (pe_cmpR op_isN (pe_call G_hole_of hr (by rfl) T.g_hole_of T.F_hole_of.kp T.b_hole_of .nil pass0 (pa_cons (pv 0) (pa_cons (pv 3) pa_nil))) pe_non (nomark _)))))))), ?_⟩
    tm_at "w"
    refine ⟨l, u, P, z, rfl, hl, few, kc, hu, fun fb H1 s1 => ?_, fun fb H1 s1 => ke fb H1 s1⟩
    have hv1 := hv.same s1
    have hl1 := hl.same s1
    have hm1 := (hm.same s1).intK kc
    tm_at "w"
    refine ⟨m, 1, 6, rfl, hm1, fun wm => ?_, fun wm => kn fb wm H1 s1⟩
    obtain ⟨i, rfl, i1, i6⟩ := within_int wm
    obtain ⟨f, F, rfl, hf, fl, f6⟩ := fld_of fb
    obtain ⟨kf, k⟩ := k f F i rfl hf fl f6 rfl i1 i6
    have hf1 := s1 _ _ hf
    tm_at "w"
    refine ⟨f, F, i, v, z, rfl, hf1, by omega, kc, hv1, fun H2 s2 => ?_⟩
    have s12 := Same.trans s1 s2
    rw [plsB_same hv s1]
    cases c : plsB H F i v with
    | false =>
      have kf := kf c H2 s12
      refine ⟨_, rfl, ?_⟩
      refine iteF ?_
      exact kf
    | true =>
      obtain ⟨a, L, rfl, hL, ft, ar⟩ := pls_of c
      have hl2 := hl1.same s2
      refine ⟨_, rfl, ?_⟩
      refine iteT ?_
      tm_at "w"
      refine ⟨l, P, a, L, rfl, hl2, okP, hL.tk (Same.tk s12), by rw [ft.1, fl], few, ft.six f6, fun w r H3 s3 fi ho => ?_⟩
      have k := k a L rfl hL ft ar r H3 (Same.trans s12 s3) fi
      cases r with
      | none =>
        cases ho
        tm_at "w"
        exact k
      | some r =>
        obtain ⟨t, rfl, _⟩ := ho
        tm_at "w"
        exact k
/-! _law_hand -/
def sp__law_hand (K : PySem.W.Frag) : Sp := fun vs H Q _ => ∃ (a : Addr) (ns : List Int), vs = [.ref a] ∧ SqL K H a (ns.map V.int) ∧ ns.length ≤ 63 ∧ ∀ (τ : Tp) (H' : Hp), Same H H' → H τ.t = none → Tape τ H' → Q (.ref τ.t) H'
theorem sc__law_hand : FnScope ["_law_script", "_law_cells", "_law_cell"] ["_law_script"] (defScope s__law_hand) := ⟨rfl, rfl, rfl, by decide +kernel, rfl, by decide +kernel, by decide +kernel⟩
theorem ok__law_hand (T : Top P K mg) : FnOk P w K mg base CX0 1 T.f__law_hand T.fd__law_hand ["_law_script"] (sp__law_hand K) := by
  refine T.F__law_hand.ok sc__law_hand (fun vs H Q E h => ?_) (fun cdv A outer s H vs Q E hr h => ?_)
  · obtain ⟨a, ns, rfl, _⟩ := h
    rfl
  · obtain ⟨a, ns, rfl, hS, h63, k⟩ := h
    refine ⟨_, (pss_cons (ps_setLc (i := 1) (own := [("_law_cell", 2)]) (g := gName 2) (tt := tYes) rfl sc__law_hand.nd rfl rfl (sw_true rfl rfl rfl (by decide +kernel)) (pi_list (pe_slice sl_list (pv 0) po_none (po_some pe_int))) (blkOk_by (own := [("_law_cell", 2)]) (N := ["_law_script", "_law_cells", "_law_cell"]) (sc := defScope s__law_hand) (by decide +kernel)) (fun _ _ _ _ _ => (pg_name (i := 2) sc__law_hand.nd rfl (Or.inl rfl))) (fun _ _ _ _ _ => pts_nil) (fun _ _ _ _ _ => (pe_callB (id := "abs") call_abs (by rfl) T.z_abs (by decide +kernel) (pa_cons (pe_callTy (T := "int") call_int1 (by rfl) T.z_int (by decide +kernel) (pa_cons (pv 2) pa_nil)) pa_nil))))
      (pss_one (ps_ret (pe_lst (pa_cons (pv 1) (pa_cons pe_int (pa_cons pe_int (pa_cons (pe_op op_add pe_int (pe_callB (r := rLenQ K) (id := "len") call_len_seq (by rfl) T.z_len (by decide +kernel) (pa_cons (pv 1) pa_nil))) (pa_cons pe_int pa_nil))))))))), ?_⟩
    tm_at "w"
    refine ⟨_, _, rfl, hS, fun p np => ?_⟩
    have e63 : cutV (ns.map V.int) none (some 63) = ns.map V.int := by
      unfold cutV
      rw [show HT.sIx (ns.map V.int).length 0 none = 0 from rfl, show (some 63 : Option Int) = some ((63 : Nat) : Int) from rfl, HT.sIx_nat, List.length_map, List.drop_zero]
      exact List.take_of_length_le (by rw [List.length_map]; omega)
    rw [e63]
    refine ⟨p, rfl, ⟨_, SqL.of upd_same⟩, fun D nD => lc_listR (fun _ v _ => IsI v) (fun _ _ _ _ h _ => h) upd_same nD (by rw [List.length_map]; omega) ?_ ?_⟩
    · intro i x H1 N M hx s1 kN
      obtain ⟨z, _, rfl, _⟩ := int_here hx
      tm_at "w"
      exact kN _ _ (Same.refl H1) ⟨_, rfl⟩
    · intro H1 acc s1 hD hlen hI
      obtain ⟨ms, rfl⟩ := ints_at hI
      tm_at "w"
      intro t nt
      have wt : Nw _ t := ⟨nt⟩
      have ntl : D ≠ t := ne_of_none hD nt
      have s2 : Same H (upd H1 t (.lst [.ref D, .int 0, .int 0, .int (1 + ((ms.map V.int).length : Int)), .int 0])) := Same.new (Same.trans (Same.new (Same.refl H) np) s1) nt
      exact k ⟨t, D, ms⟩ _ s2 (Same.free (Same.trans (Same.new (Same.refl H) np) s1) nt) ⟨(upd_ne ntl).trans hD, ntl, 0, 0, _, 0, upd_same, by decide⟩
/-! _law_draw -/
def sp__law_draw (K : PySem.W.Frag) : Sp := fun vs H Q _ => ∃ (τ : Tp) (m : Int), vs = [.ref τ.t, .int m] ∧ Tape τ H ∧ 0 < m ∧ m < 1073741824 ∧ ∀ (r : Int) (H' : Hp), Mv τ H H' → 0 ≤ r → r < m → Q (.int r) H'
theorem sc__law_draw : FnScope ["_law_hand_here", "_law_many", "_law_number", "_law_cell", "_law_digit"] ["_law_hand_here", "_law_many"] (defScope s__law_draw) := ⟨rfl, rfl, rfl, by decide +kernel, rfl, by decide +kernel, by decide +kernel⟩
theorem ok__law_draw (T : Top P K mg) : FnOk P w K mg base CX0 1 T.f__law_draw T.fd__law_draw ["_law_hand_here", "_law_many"] (sp__law_draw K) := by
  refine T.F__law_draw.ok sc__law_draw (fun vs H Q E h => ?_) (fun cdv A outer s H vs Q E hr h => ?_)
  · obtain ⟨τ, m, rfl, _⟩ := h
    rfl
  · obtain ⟨τ, m, rfl, m0, hm, hm2, k⟩ := h
    refine ⟨_, (C8.pss_cut (ps_if (PW.pt (pw_and (pt_cmpR op_eq (pe_ix (r := rIxL K) ix_list (pv 0) pe_int (fun _ _ => rfl)) pe_int (nomark _)) (pw_and1 (pt_cmpR op_lt (pe_ix (r := rIxL K) ix_list (pv 0) pe_int (fun _ _ => rfl)) (pe_callB (r := rLenQ K) (id := "len") call_len_seq (by rfl) T.z_len (by decide +kernel) (pa_cons (pe_ix (r := rIxL K) ix_list (pv 0) pe_int (fun _ _ => rfl)) pa_nil)) (nomark _))))) (pss_cons (ps_set (i := 3) sc__law_draw.nd rfl (Or.inl rfl) (pe_ix (r := rIxL K) ix_list (pe_ix (r := rIxL K) ix_list (pv 0) pe_int (fun _ _ => rfl)) (pe_ix (r := rIxL K) ix_list (pv 0) pe_int (fun _ _ => rfl)) (fun _ _ => rfl)))
      (pss_cons (ps_asg (pe_op op_add (pe_ix (r := rIxL K) ix_list (pv 0) pe_int (fun _ _ => rfl)) pe_int) (pg_sub (pv 0) pe_int set_list))
      (pss_cons (ps_asg (pe_op op_modN (pe_callTy (T := "int") call_int1 (by rfl) T.z_int (by decide +kernel) (pa_cons (pe_op op_add (pe_op op_add (pe_op op_mul (pe_ix (r := rIxL K) ix_list (pv 0) pe_int (fun _ _ => rfl)) pe_int) (pv 3)) pe_int) pa_nil)) pe_int) (pg_sub (pv 0) pe_int set_list))
      (pss_one (ps_if (pt_cmpR op_ge (pv 3) (pe_op op_pow pe_int pe_int) (nomark _)) (pss_one (ps_asg (pv 3) (pg_sub (pv 0) pe_int set_list))) pss_nil))))) pss_nil)
      (pss_cons (ps_if (pt_cmpR op_gt (pe_ix (r := rIxL K) ix_list (pv 0) pe_int (fun _ _ => rfl)) pe_int (nomark _)) (pss_cons (ps_set (i := 4) sc__law_draw.nd rfl (Or.inl rfl) (pe_op op_modN (pe_callTy (T := "int") call_int1 (by rfl) T.z_int (by decide +kernel) (pa_cons (pe_ix (r := rIxL K) ix_list (pv 0) pe_int (fun _ _ => rfl)) pa_nil)) (pv 1)))
      (pss_cons (ps_asg (pe_op op_fdivN (pe_ix (r := rIxL K) ix_list (pv 0) pe_int (fun _ _ => rfl)) (pv 1)) (pg_sub (pv 0) pe_int set_list))
      (pss_one (ps_ret (pv 4))))) pss_nil)
      (pss_cons (ps_asg (pe_op op_add (pe_ix (r := rIxL K) ix_list (pv 0) pe_int (fun _ _ => rfl)) pe_int) (pg_sub (pv 0) pe_int set_list))
      (pss_cons (ps_set (i := 2) sc__law_draw.nd rfl (Or.inl rfl) (pe_op op_modN (pe_callTy (T := "int") call_int1 (by rfl) T.z_int (by decide +kernel) (pa_cons (pe_op op_mul (pe_callTy (T := "int") call_int1 (by rfl) T.z_int (by decide +kernel) (pa_cons (pe_op op_add (pe_ix (r := rIxL K) ix_list (pv 0) pe_int (fun _ _ => rfl)) (pe_op op_mul pe_int (pe_ix (r := rIxL K) ix_list (pv 0) pe_int (fun _ _ => rfl)))) pa_nil)) pe_int) pa_nil)) pe_int))
      (pss_cons (ps_set (i := 2) sc__law_draw.nd rfl (Or.inl rfl) (pe_op op_modN (pe_callTy (T := "int") call_int1 (by rfl) T.z_int (by decide +kernel) (pa_cons (pe_op op_mul (pv 2) (pe_op op_add (pe_op op_fdivN (pv 2) pe_int) pe_int)) pa_nil)) pe_int))
      (pss_cons (ps_set (i := 2) sc__law_draw.nd rfl (Or.inl rfl) (pe_op op_modN (pe_callTy (T := "int") call_int1 (by rfl) T.z_int (by decide +kernel) (pa_cons (pe_op op_mul (pv 2) (pe_op op_add (pe_op op_fdivN (pv 2) pe_int) pe_int)) pa_nil)) pe_int))
      (pss_one (ps_ret (pe_op op_modN (pe_callTy (T := "int") call_int1 (by rfl) T.z_int (by decide +kernel) (pa_cons (pe_op op_fdivN (pv 2) pe_int) pa_nil)) (pv 1)))))))))), ?_⟩
    obtain ⟨hl, nlt, i, c, s, n, ht, hi⟩ := id m0
    tm_at "w"
    refine ⟨fun σ H' => ∃ (x : Option V), σ = [some (.ref τ.t), some (.int m), none, x, none] ∧ Mv τ H H', ?_, ?_⟩
    · tm_at "w"
      refine iteI (fun hc => ?_) (fun hc => ?_)
      · tm_at "w"
        refine iteD (fun hc => ?_) (fun hc => ?_)
        · tm_at "w"
          obtain ⟨v, hv⟩ := at_ints hi hc
          refine ⟨_, _, _, _, rfl, rfl, by tm_at "sq", hv, ?_⟩
          tm_at "w"
          refine iteD (fun hd => ?_) (fun hd => ?_)
          · tm_at "w"
            exact ((m0.mv.put rfl (by omega)).put rfl (by omega)).put rfl (by omega)
          · exact ⟨_, rfl, (m0.mv.put rfl (by omega)).put rfl (by omega)⟩
        · exact ⟨none, rfl, m0.mv⟩
      · exact ⟨none, rfl, m0.mv⟩
    · rintro σ H' ⟨x, rfl, m1⟩
      obtain ⟨hl, nlt, i, c, s, n, ht, hi⟩ := m1.now
      tm_at "w"
      refine iteD (fun hc => ?_) (fun hc => ?_)
      · tm_at "w"
        exact k _ _ (m1.put rfl hi) (fmod_in hm).1 (fmod_in hm).2
      · tm_at "w"
        exact k _ _ (m1.put rfl hi) (fmod_in hm).1 (fmod_in hm).2
/-! _law_is -/
/-- two things that are alike through and through, at most so deep -/
inductive Alk (H : Hp) : Nat → V → V → Prop
  | int (n : Nat) (i : Int) : Alk H n (.int i) (.int i)
  | bl (n : Nat) (b : Bool) : Alk H n (.bl b) (.bl b)
  | non (n : Nat) : Alk H n .non .non
  | str (n : Nat) (x : Str) : Alk H n (.str x) (.str x)
  | tup (n : Nat) (a b : Addr) (xs ys : List V) : H a = some (.tup xs) → H b = some (.tup ys) → xs.length = ys.length → xs.length ≤ 100000 → (∀ (i : Nat) x y, xs[i]? = some x → ys[i]? = some y → Alk H n x y) → Alk H (n + 1) (.ref a) (.ref b)
  | lst (n : Nat) (a b : Addr) (xs ys : List V) : H a = some (.lst xs) → H b = some (.lst ys) → xs.length = ys.length → xs.length ≤ 100000 → (∀ (i : Nat) x y, xs[i]? = some x → ys[i]? = some y → Alk H n x y) → Alk H (n + 1) (.ref a) (.ref b)
theorem Alk.same {H H' : Hp} {n : Nat} {x y : V} (h : Alk H n x y) (s : Same H H') : Alk H' n x y := by
  induction h with
  | int n i => exact .int n i
  | bl n b => exact .bl n b
  | non n => exact .non n
  | str n x => exact .str n x
  | tup n a b xs ys ha hb hl hz _ ih => exact .tup n a b xs ys (s _ _ ha) (s _ _ hb) hl hz ih
  | lst n a b xs ys ha hb hl hz _ ih => exact .lst n a b xs ys (s _ _ ha) (s _ _ hb) hl hz ih
theorem Alk.up {H : Hp} {n : Nat} {x y : V} (h : Alk H n x y) : Alk H (n + 1) x y := by
  induction h with
  | int n i => exact .int _ i
  | bl n b => exact .bl _ b
  | non n => exact .non _
  | str n x => exact .str _ x
  | tup n a b xs ys ha hb hl hz _ ih => exact .tup _ a b xs ys ha hb hl hz ih
  | lst n a b xs ys ha hb hl hz _ ih => exact .lst _ a b xs ys ha hb hl hz ih
theorem Alk.nats {H : Hp} {a b : Addr} {q : List Nat} (ha : H a = some (.tup (natsV q))) (hb : H b = some (.tup (natsV q))) (hn : q.length ≤ 100000) : Alk H 1 (.ref a) (.ref b) :=
  .tup 0 a b _ _ ha hb rfl (by rw [natsV_len]; exact hn) fun i x y ex ey => by
    rw [ex] at ey
    rw [← Option.some.inj ey]
    obtain ⟨n, _, rfl, _⟩ := natsV_here ex
    exact .int 0 _
theorem Alk.rows {H : Hp} {a b : Addr} {P : List (List Nat)} (ha : ParAt H a P) (hb : ParAt H b P) (hn : P.length ≤ 1000) (hm : ∀ q ∈ P, q.length ≤ 1000) : Alk H 2 (.ref a) (.ref b) := by
  obtain ⟨xs, ha, la⟩ := ha
  obtain ⟨ys, hb, lb⟩ := hb
  refine .tup 1 a b _ _ ha hb (la.1.trans lb.1.symm) (by rw [la.1]; omega) fun i x y ex ey => ?_
  obtain ⟨u, p, rfl, e1, e2⟩ := la.here ex
  obtain ⟨v, q, rfl, e3, e4⟩ := lb.here ey
  rw [e1] at e3
  rw [← Option.some.inj e3] at e4
  have := hm p (List.mem_of_getElem? e1)
  exact Alk.nats e2 e4 (by omega)
theorem kit2 {K : PySem.W.Frag} {t : Value} {a b : Bool} (h1 : PySem.W.kitOne K t (.type "tuple") = some a) (h2 : PySem.W.kitOne K t (.type "list") = some b) : PySem.W.kitAny K t [.type "tuple", .type "list"] = some (a || b) := by
  refine kitAny_cons h1 (fun e => ?_) (fun e => by rw [e]; rfl)
  rw [e, Bool.false_or]
  refine kitAny_cons h2 (fun e2 => by rw [e2]; rfl) (fun e2 => e2)
theorem int_lst {K : PySem.W.Frag} : PySem.W.kitOne K (.type "int") (.type "list") = some false := kit_ty (by decide +kernel)
theorem bool_lst {K : PySem.W.Frag} : PySem.W.kitOne K (.type "bool") (.type "list") = some false := kit_ty (by decide +kernel)
theorem bool_tup {K : PySem.W.Frag} : PySem.W.kitOne K (.type "bool") (.type "tuple") = some false := kit_ty (by decide +kernel)
theorem tup_lst {K : PySem.W.Frag} : PySem.W.kitOne K (.type "tuple") (.type "list") = some false := kit_ty (by decide +kernel)
theorem lst_lst {K : PySem.W.Frag} : PySem.W.kitOne K (.type "list") (.type "list") = some true := kit_ty (by decide +kernel)
theorem lst_tup {K : PySem.W.Frag} : PySem.W.kitOne K (.type "list") (.type "tuple") = some false := kit_ty (by decide +kernel)
theorem none_tup {K : PySem.W.Frag} : PySem.W.kitOne K (.type "NoneType") (.type "tuple") = some false := kit_ty (by decide +kernel)
theorem none_lst {K : PySem.W.Frag} : PySem.W.kitOne K (.type "NoneType") (.type "list") = some false := kit_ty (by decide +kernel)
theorem none_bool {K : PySem.W.Frag} : PySem.W.kitOne K (.type "NoneType") (.type "bool") = some false := kit_ty (by decide +kernel)
theorem ty_non {K : PySem.W.Frag} {H : Hp} : TyX K H .non (.type "NoneType") := .base .non
theorem ty_lst {K : PySem.W.Frag} {H : Hp} {a : Addr} {xs : List V} (h : H a = some (.lst xs)) : TyX K H (.ref a) (.type "list") := .base (.lst h)
theorem ty_strS {K : PySem.W.Frag} {H : Hp} (x : Str) : TyX K H (.str x) (.type "str") := .base (.str x)
theorem str_tupS {K : PySem.W.Frag} : PySem.W.kitOne K (.type "str") (.type "tuple") = some false := kit_ty (by decide +kernel)
theorem str_lstS {K : PySem.W.Frag} : PySem.W.kitOne K (.type "str") (.type "list") = some false := kit_ty (by decide +kernel)
theorem str_boolS {K : PySem.W.Frag} : PySem.W.kitOne K (.type "str") (.type "bool") = some false := kit_ty (by decide +kernel)
def spI (K : PySem.W.Frag) : Nat → Sp
  | 0 => fun _ _ _ _ => False
  | n + 1 => fun vs H Q _ => ∃ (x y : V), vs = [x, y] ∧ Alk H n x y ∧ ∀ H', Same H H' → Q (.bl true) H'
theorem sc__law_is : FnScope ["_law_told_here", "_law_due", "_law_one", "_law_two"] ["_law_told_here", "_law_due"] (defScope s__law_is) := ⟨rfl, rfl, rfl, by decide +kernel, rfl, by decide +kernel, by decide +kernel⟩
theorem okI0 (T : Top P K mg) : FnOk P w K mg base CX0 1 T.f__law_is T.fd__law_is ["_law_told_here", "_law_due"] (spI K 0) := by
  refine T.F__law_is.ok sc__law_is (fun vs H Q E h => h.elim) (fun cdv A outer s H vs Q E hr h => h.elim)
theorem okI (T : Top P K mg) {lv n : Nat} (G__law_is : FnOk P w K mg base CX0 lv T.f__law_is T.fd__law_is ["_law_told_here", "_law_due"] (spI K n)) : FnOk P w K mg base CX0 (lv + 1) T.f__law_is T.fd__law_is ["_law_told_here", "_law_due"] (spI K (n + 1)) := by
  refine T.F__law_is.ok sc__law_is (fun vs H Q E h => ?_) (fun cdv A outer s H vs Q E hr h => ?_)
  · obtain ⟨x, y, rfl, _⟩ := h
    rfl
  · obtain ⟨x, y, rfl, hA, k⟩ := h
    refine ⟨_, (pss_cons (ps_if (pt_val (pe_callB (id := "isinstance") call_isiT (by rfl) T.z_isinstance (by decide +kernel) (pa_cons (pv 1) (pa_cons (pe_tup (pa_cons (pe_bltn (v := .ty "tuple") (u := .type "tuple") (by rfl) T.z_tuple (by decide +kernel) rfl) (pa_cons (pe_bltn (v := .ty "list") (u := .type "list") (by rfl) T.z_list (by decide +kernel) rfl) pa_nil))) pa_nil)))) (pss_cons (ps_if (PW.pt (pw_or (pt_cmpR op_ne (pe_callB (r := rIsi K) (id := "isinstance") call_isi (by rfl) T.z_isinstance (by decide +kernel) (pa_cons (pv 0) (pa_cons (pe_bltn (v := .ty "tuple") (u := .type "tuple") (by rfl) T.z_tuple (by decide +kernel) rfl) pa_nil))) (pe_callB (r := rIsi K) (id := "isinstance") call_isi (by rfl) T.z_isinstance (by decide +kernel) (pa_cons (pv 1) (pa_cons (pe_bltn (v := .ty "tuple") (u := .type "tuple") (by rfl) T.z_tuple (by decide +kernel) rfl) pa_nil))) (nomark _)) (pw_or1 (pt_not (pt_val (pe_callB (id := "isinstance") call_isiT (by rfl) T.z_isinstance (by decide +kernel) (pa_cons (pv 0) (pa_cons (pe_tup (pa_cons (pe_bltn (v := .ty "tuple") (u := .type "tuple") (by rfl) T.z_tuple (by decide +kernel) rfl) (pa_cons (pe_bltn (v := .ty "list") (u := .type "list") (by rfl) T.z_list (by decide +kernel) rfl) pa_nil))) pa_nil)))))))) (pss_one (ps_ret pe_bl)) pss_nil)
      (pss_one (ps_ret (pe_and (pe_cmpR op_eq (pe_callB (r := rLenQ K) (id := "len") call_len_seq (by rfl) T.z_len (by decide +kernel) (pa_cons (pv 0) pa_nil)) (pe_callB (r := rLenQ K) (id := "len") call_len_seq (by rfl) T.z_len (by decide +kernel) (pa_cons (pv 1) pa_nil)) (nomark _)) (pe_one (pe_callB (r := rAll K) (id := "all") (cr_all rfl) (by rfl) T.z_all (by decide +kernel) (pa_cons (pe_lc (own := [("_law_one", 2), ("_law_two", 3)]) (tt := tYes) rfl sc__law_is.nd (RZ.pi_zipA (by rfl) T.z_zip (pa_cons (pv 0) (pa_cons (pv 1) pa_nil))) (blkOk_by (own := [("_law_one", 2), ("_law_two", 3)]) (N := ["_law_told_here", "_law_due", "_law_one", "_law_two"]) (sc := defScope s__law_is) (by decide +kernel)) (fun _ _ _ _ _ => (pg_tupK (K := K) 2 rfl rfl (pgs_cons (pg_name (i := 2) sc__law_is.nd rfl (Or.inl rfl)) (pgs_cons (pg_name (i := 3) sc__law_is.nd rfl (Or.inl rfl)) pgs_nil)))) (fun _ _ _ _ _ => pts_nil) (fun _ _ _ _ _ => (pe_call G__law_is hr (by rfl) T.g__law_is T.F__law_is.kp T.b__law_is .nil pass0 (pa_cons (pv 2) (pa_cons (pv 3) pa_nil))))) pa_nil))))))) pss_nil)
      (pss_one (ps_ret (pe_and (pe_cmpR op_eq (pe_callB (r := rIsi K) (id := "isinstance") call_isi (by rfl) T.z_isinstance (by decide +kernel) (pa_cons (pv 0) (pa_cons (pe_bltn (v := .ty "bool") (u := .type "bool") (by rfl) T.z_bool (by decide +kernel) rfl) pa_nil))) (pe_callB (r := rIsi K) (id := "isinstance") call_isi (by rfl) T.z_isinstance (by decide +kernel) (pa_cons (pv 1) (pa_cons (pe_bltn (v := .ty "bool") (u := .type "bool") (by rfl) T.z_bool (by decide +kernel) rfl) pa_nil))) (nomark _)) (pe_one (pe_cmpR op_eq (pv 0) (pv 1) (nomark _))))))), ?_⟩
    cases hA with
    | int n i =>
      tm_at "w"
      intro p np
      refine ⟨_, _, _, _, _, _, rfl, upd_same, .cons (.ty _) (.cons (.ty _) .nil), ty_int i, kit2 int_tup int_lst, ?_⟩
      tm_at "w"
      refine ⟨_, _, _, _, _, rfl, ClsV.ty _, ty_int i, int_bool, ?_⟩
      tm_at "w"
      refine ⟨_, _, _, _, _, rfl, ClsV.ty _, ty_int i, int_bool, ?_⟩
      tm_at "w"
      rw [show decide (V.int i = V.int i) = true from decide_eq_true rfl]
      exact k _ (Same.new (Same.refl H) np)
    | bl n b =>
      tm_at "w"
      intro p np
      refine ⟨_, _, _, _, _, _, rfl, upd_same, .cons (.ty _) (.cons (.ty _) .nil), ty_bl b, kit2 bool_tup bool_lst, ?_⟩
      tm_at "w"
      refine ⟨_, _, _, _, _, rfl, ClsV.ty _, ty_bl b, bool_bool, ?_⟩
      tm_at "w"
      refine ⟨_, _, _, _, _, rfl, ClsV.ty _, ty_bl b, bool_bool, ?_⟩
      tm_at "w"
      rw [show decide (V.bl b = V.bl b) = true from decide_eq_true rfl]
      exact k _ (Same.new (Same.refl H) np)
    | non n =>
      tm_at "w"
      intro p np
      refine ⟨_, _, _, _, _, _, rfl, upd_same, .cons (.ty _) (.cons (.ty _) .nil), ty_non, kit2 none_tup none_lst, ?_⟩
      tm_at "w"
      refine ⟨_, _, _, _, _, rfl, ClsV.ty _, ty_non, none_bool, ?_⟩
      tm_at "w"
      refine ⟨_, _, _, _, _, rfl, ClsV.ty _, ty_non, none_bool, ?_⟩
      tm_at "w"
      rw [show decide (V.non = V.non) = true from decide_eq_true rfl]
      exact k _ (Same.new (Same.refl H) np)
    | str n x =>
      tm_at "w"
      intro p np
      refine ⟨_, _, _, _, _, _, rfl, upd_same, .cons (.ty _) (.cons (.ty _) .nil), ty_strS x, kit2 str_tupS str_lstS, ?_⟩
      tm_at "w"
      refine ⟨_, _, _, _, _, rfl, ClsV.ty _, ty_strS x, str_boolS, ?_⟩
      tm_at "w"
      refine ⟨_, _, _, _, _, rfl, ClsV.ty _, ty_strS x, str_boolS, ?_⟩
      tm_at "w"
      rw [show decide (V.str x = V.str x) = true from decide_eq_true rfl]
      exact k _ (Same.new (Same.refl H) np)
    | tup n a b xs ys ha hb hl hz hi =>
      tm_at "w"
      intro p np
      have s1 : Same H (upd H p (.tup [.ty "tuple", .ty "list"])) := Same.new (Same.refl H) np
      refine ⟨_, _, _, _, _, _, rfl, upd_same, .cons (.ty _) (.cons (.ty _) .nil), ty_tup (s1 _ _ hb), kit2 tup_tup tup_lst, ?_⟩
      tm_at "w"
      refine ⟨_, _, _, _, _, rfl, ClsV.ty _, ty_tup (s1 _ _ ha), tup_tup, ?_⟩
      tm_at "w"
      refine ⟨_, _, _, _, _, rfl, ClsV.ty _, ty_tup (s1 _ _ hb), tup_tup, ?_⟩
      tm_at "w"
      intro p2 np2
      have s2 : Same H (upd (upd H p (.tup [.ty "tuple", .ty "list"])) p2 (.tup [.ty "tuple", .ty "list"])) := Same.new s1 np2
      have ha2 := s2 _ _ ha
      have hb2 := s2 _ _ hb
      refine ⟨_, _, _, _, _, _, rfl, upd_same, .cons (.ty _) (.cons (.ty _) .nil), ty_tup ha2, kit2 tup_tup tup_lst, ?_⟩
      tm_at "w"
      refine iteET (decide_eq_true (by rw [hl])) ?_
      tm_at "w"
      refine ⟨_, _, _, _, rfl, .inr ⟨SqT.of ha2, SqT.of hb2, fun D nD => lc_zipTF (fun _ => some (.bl true)) ha2 hb2 hl nD hz ?_ ?_⟩⟩
      · intro i x y Z H3 N M hx hy s3 hZ kN kM
        tm_at "w"
        exact ⟨x, y, rfl, (hi i x y hx hy).same (Same.trans s2 s3), fun H4 s4 => kN _ _ rfl s4⟩
      · intro H3 s3 hD
        rw [all_true] at hD
        tm_at "w"
        refine ⟨_, _, rfl, SqL.of hD, ?_⟩
        rw [all_id]
        exact k _ (Same.trans s2 s3)
    | lst n a b xs ys ha hb hl hz hi =>
      tm_at "w"
      intro p np
      have s1 : Same H (upd H p (.tup [.ty "tuple", .ty "list"])) := Same.new (Same.refl H) np
      refine ⟨_, _, _, _, _, _, rfl, upd_same, .cons (.ty _) (.cons (.ty _) .nil), ty_lst (s1 _ _ hb), kit2 lst_tup lst_lst, ?_⟩
      tm_at "w"
      refine ⟨_, _, _, _, _, rfl, ClsV.ty _, ty_lst (s1 _ _ ha), lst_tup, ?_⟩
      tm_at "w"
      refine ⟨_, _, _, _, _, rfl, ClsV.ty _, ty_lst (s1 _ _ hb), lst_tup, ?_⟩
      tm_at "w"
      intro p2 np2
      have s2 : Same H (upd (upd H p (.tup [.ty "tuple", .ty "list"])) p2 (.tup [.ty "tuple", .ty "list"])) := Same.new s1 np2
      have ha2 := s2 _ _ ha
      have hb2 := s2 _ _ hb
      refine ⟨_, _, _, _, _, _, rfl, upd_same, .cons (.ty _) (.cons (.ty _) .nil), ty_lst ha2, kit2 lst_tup lst_lst, ?_⟩
      tm_at "w"
      refine iteET (decide_eq_true (by rw [hl])) ?_
      tm_at "w"
      refine ⟨_, _, _, _, rfl, .inl ⟨SqL.of ha2, SqL.of hb2, fun D nD => lc_zipLF (fun _ => some (.bl true)) ha2 hb2 hl nD hz ?_ ?_⟩⟩
      · intro i x y Z H3 N M hx hy s3 hZ kN kM
        tm_at "w"
        exact ⟨x, y, rfl, (hi i x y hx hy).same (Same.trans s2 s3), fun H4 s4 => kN _ _ rfl s4⟩
      · intro H3 s3 hD
        rw [all_true] at hD
        tm_at "w"
        refine ⟨_, _, rfl, SqL.of hD, ?_⟩
        rw [all_id]
        exact k _ (Same.trans s2 s3)
def sp__law_is (K : PySem.W.Frag) : Sp := spI K 3
theorem ok__law_is (T : Top P K mg) : FnOk P w K mg base CX0 4 T.f__law_is T.fd__law_is ["_law_told_here", "_law_due"] (sp__law_is K) := okI T (okI T (okI T (okI0 T)))
/-! _law_flag -/
def sp__law_flag (K : PySem.W.Frag) : Sp := fun vs H Q _ => ∃ (b : Bool), vs = [.bl b, .bl b] ∧ Q (.bl true) H
theorem sc__law_flag : FnScope ["_law_told_here", "_law_due"] ["_law_told_here", "_law_due"] (defScope s__law_flag) := ⟨rfl, rfl, rfl, by decide +kernel, rfl, by decide +kernel, by decide +kernel⟩
theorem ok__law_flag (T : Top P K mg) : FnOk P w K mg base CX0 1 T.f__law_flag T.fd__law_flag ["_law_told_here", "_law_due"] (sp__law_flag K) := by
  refine T.F__law_flag.ok sc__law_flag (fun vs H Q E h => ?_) (fun cdv A outer s H vs Q E hr h => ?_)
  · obtain ⟨b, rfl, _⟩ := h
    rfl
  · obtain ⟨b, rfl, k⟩ := h
    refine ⟨_, (pss_one (ps_ret (pe_and (pe_callB (r := rIsi K) (id := "isinstance") call_isi (by rfl) T.z_isinstance (by decide +kernel) (pa_cons (pv 0) (pa_cons (pe_bltn (v := .ty "bool") (u := .type "bool") (by rfl) T.z_bool (by decide +kernel) rfl) pa_nil))) (pe_one (pe_cmpR (op_eqD hr.units) (pv 0) (pv 1) (nomark _)))))), ?_⟩
    have ty := ty_bl (K := K) (H := H) b
    have bb := bool_bool (K := K)
    tm_at "w"
    refine ⟨.bool b, .bool b, .bl b, .bl b, by cases b <;> decide, by cases b <;> decide, ?_⟩
    have e : PyData.eqv (.bool b) (.bool b) = true := by cases b <;> rfl
    rw [e]
    exact k
/-! _law_deep -/
theorem th_ints {C z : Addr} {H : Hp} {a : Addr} {xs : List V} (is : List Int) (d : a ≠ z) (h : H a = some (.tup xs)) (e : xs = is.map V.int) (l : is.length ≤ 1000) : Th C z H 1 (.ref a) := by
  subst e
  refine .tup 0 a _ d h (by rw [List.length_map]; exact l) fun x hx => ?_
  obtain ⟨i, _, rfl⟩ := List.mem_map.mp hx
  exact .int 0 i
theorem rgV_ints (a b : Int) : rgV a b = ((List.range (b - a).toNat).map fun i => a + ((i : Nat) : Int)).map V.int := by
  unfold rgV
  rw [List.map_map]
  rfl
theorem natsV_ints (q : List Nat) : natsV q = (q.map fun i => ((i : Nat) : Int)).map V.int := by
  unfold natsV
  rw [List.map_map]
  rfl
theorem Th.mutL {C z : Addr} {H : Hp} {n : Nat} {v : V} {p : Addr} {xs ys : List V} (h : Th C z H n v) (hp : H p = some (.lst xs)) : Th C z (upd H p (.lst ys)) n v := by
  have ot : ∀ {a : Addr} {o : HO}, H a = some o → (∀ zs, o ≠ .lst zs) → upd H p (.lst ys) a = some o := fun {a o} e ne => by
    refine upd_at (fun eq => ?_) e
    subst eq
    rw [hp] at e
    exact ne _ (Option.some.inj e).symm
  induction h with
  | int n i => exact .int n i
  | bl n b => exact .bl n b
  | non n => exact .non n
  | str n x => exact .str n x
  | lst n a xs2 h1 h2 =>
    by_cases e : a = p
    · subst e
      exact .lst n a ys h1 upd_same
    · exact .lst n a xs2 h1 (upd_at e h2)
  | dK n a xs h1 h2 => exact .dK n a xs h1 (ot h2 fun _ => nofun)
  | ins n a dx fs h1 h2 => exact .ins n a dx fs h1 (ot h2 fun _ => nofun)
  | tup0 a xs h1 h2 => exact .tup0 a xs h1 (ot h2 fun _ => nofun)
  | tup n a xs h1 h2 h3 _ ih => exact .tup n a xs h1 (ot h2 fun _ => nofun) h3 ih
theorem at_in {L : List V} {r : Int} (h0 : 0 ≤ r) (h1 : r < (L.length : Int)) : ∃ v, atI L r = some v ∧ v ∈ L := by
  obtain ⟨j, rfl⟩ : ∃ j : Nat, r = j := ⟨r.toNat, by omega⟩
  have jl : j < L.length := by omega
  exact ⟨L[j], atI_nat (List.getElem?_eq_getElem jl), List.getElem_mem jl⟩
/-! ### things whose tuples are no longer than b -/
/-- a thing that is looked at so deep; its address is not z -/
inductive ThB (b : Nat) (C z : Addr) (H : Hp) : Nat → V → Prop
  | int (n : Nat) (i : Int) : ThB b C z H n (.int i)
  | bl (n : Nat) (q : Bool) : ThB b C z H n (.bl q)
  | non (n : Nat) : ThB b C z H n .non
  | str (n : Nat) (x : Str) : ThB b C z H n (.str x)
  | lst (n : Nat) (a : Addr) (xs : List V) : a ≠ z → H a = some (.lst xs) → ThB b C z H n (.ref a)
  | dK (n : Nat) (a : Addr) (xs : List (Key × V)) : a ≠ z → H a = some (.dK xs) → ThB b C z H n (.ref a)
  | ins (n : Nat) (a dx : Addr) (fs : List (Str × V)) : a ≠ z → H a = some (.ins C dx fs) → ThB b C z H n (.ref a)
  | tup0 (a : Addr) (xs : List V) : a ≠ z → H a = some (.tup xs) → ThB b C z H 0 (.ref a)
  | tup (n : Nat) (a : Addr) (xs : List V) : a ≠ z → H a = some (.tup xs) → xs.length ≤ b → (∀ x ∈ xs, ThB b C z H n x) → ThB b C z H (n + 1) (.ref a)
section
variable {b : Nat} {C z : Addr} {H H' : Hp} {K : PySem.W.Frag}
theorem ThB.keep {n : Nat} {v : V} (h : ThB b C z H n v) (k : ∀ a o, a ≠ z → H a = some o → H' a = some o) : ThB b C z H' n v := by
  induction h with
  | int n i => exact .int n i
  | bl n q => exact .bl n q
  | non n => exact .non n
  | str n x => exact .str n x
  | lst n a xs h1 h2 => exact .lst n a xs h1 (k _ _ h1 h2)
  | dK n a xs h1 h2 => exact .dK n a xs h1 (k _ _ h1 h2)
  | ins n a dx fs h1 h2 => exact .ins n a dx fs h1 (k _ _ h1 h2)
  | tup0 a xs h1 h2 => exact .tup0 a xs h1 (k _ _ h1 h2)
  | tup n a xs h1 h2 h3 _ ih => exact .tup n a xs h1 (k _ _ h1 h2) h3 ih
theorem ThB.same {n : Nat} {v : V} (h : ThB b C z H n v) (s : Same H H') : ThB b C z H' n v := h.keep fun a o _ e => s a o e
theorem ThB.mv {τ : Tp} {n : Nat} {v : V} (h : ThB b C τ.t H n v) (m : Mv τ H H') : ThB b C τ.t H' n v := h.keep m.keep
theorem ThB.down {n : Nat} {v : V} (h : ThB b C z H (n + 1) v) : ThB b C z H n v := by
  generalize e : n + 1 = m at h
  induction h generalizing n with
  | int _ i => exact .int n i
  | bl _ q => exact .bl n q
  | non _ => exact .non n
  | str _ x => exact .str n x
  | lst _ a xs h1 h2 => exact .lst n a xs h1 h2
  | dK _ a xs h1 h2 => exact .dK n a xs h1 h2
  | ins _ a dx fs h1 h2 => exact .ins n a dx fs h1 h2
  | tup0 a xs h1 h2 => cases e
  | tup m a xs h1 h2 h3 h4 ih =>
    obtain rfl : n = m := by omega
    cases n with
    | zero => exact .tup0 a xs h1 h2
    | succ n => exact .tup n a xs h1 h2 h3 fun x hx => ih x hx rfl
theorem ThB.up {b' : Nat} (l : b ≤ b') {n : Nat} {v : V} (h : ThB b C z H n v) : ThB b' C z H n v := by
  induction h with
  | int n i => exact .int n i
  | bl n q => exact .bl n q
  | non n => exact .non n
  | str n x => exact .str n x
  | lst n a xs h1 h2 => exact .lst n a xs h1 h2
  | dK n a xs h1 h2 => exact .dK n a xs h1 h2
  | ins n a dx fs h1 h2 => exact .ins n a dx fs h1 h2
  | tup0 a xs h1 h2 => exact .tup0 a xs h1 h2
  | tup n a xs h1 h2 h3 _ ih => exact .tup n a xs h1 h2 (Nat.le_trans h3 l) ih
theorem ThB.th (l : b ≤ 1000) {n : Nat} {v : V} (h : ThB b C z H n v) : Th C z H n v := by
  induction h with
  | int n i => exact .int n i
  | bl n q => exact .bl n q
  | non n => exact .non n
  | str n x => exact .str n x
  | lst n a xs h1 h2 => exact .lst n a xs h1 h2
  | dK n a xs h1 h2 => exact .dK n a xs h1 h2
  | ins n a dx fs h1 h2 => exact .ins n a dx fs h1 h2
  | tup0 a xs h1 h2 => exact .tup0 a xs h1 h2
  | tup n a xs h1 h2 h3 _ ih => exact .tup n a xs h1 h2 (Nat.le_trans h3 l) ih
/-- a tuple, or something else -/
theorem ThB.ty (kc : KitC K C) {n : Nat} {v : V} (h : ThB b C z H (n + 1) v) : ∃ (t : Value) (bt : Bool), TyX K H v t ∧ PySem.W.kitOne K t (.type "tuple") = some bt ∧
    ((bt = false ∧ ∀ a xs, v = .ref a → H a ≠ some (.tup xs)) ∨ ∃ a xs, v = .ref a ∧ H a = some (.tup xs) ∧ bt = true ∧ xs.length ≤ b ∧ ∀ x ∈ xs, ThB b C z H n x) := by
  cases h with
  | int _ i => exact ⟨_, false, .base (.int i), kit_ty (by decide +kernel), .inl ⟨rfl, fun a xs e => by cases e⟩⟩
  | bl _ q => exact ⟨_, false, .base (.bl q), kit_ty (by decide +kernel), .inl ⟨rfl, fun a xs e => by cases e⟩⟩
  | non _ => exact ⟨_, false, .base .non, kit_ty (by decide +kernel), .inl ⟨rfl, fun a xs e => by cases e⟩⟩
  | str _ x => exact ⟨_, false, .base (.str x), kit_ty (by decide +kernel), .inl ⟨rfl, fun a xs e => by cases e⟩⟩
  | lst _ a xs h1 h2 => exact ⟨_, false, .base (.lst h2), kit_ty (by decide +kernel), .inl ⟨rfl, fun a xs e => by cases e; rw [h2]; intro z; cases z⟩⟩
  | dK _ a xs h1 h2 => exact ⟨_, false, .base (.dK h2), kit_ty (by decide +kernel), .inl ⟨rfl, fun a xs e => by cases e; rw [h2]; intro z; cases z⟩⟩
  | ins _ a dx fs h1 h2 => exact ⟨_, false, .base (.ins h2 kc.cl kc.ty.ha kc.ty.hn kc.ty.htk kc.ty.hm), kc.t, .inl ⟨rfl, fun a xs e => by cases e; rw [h2]; intro z; cases z⟩⟩
  | tup m a xs h1 h2 h3 h4 => exact ⟨_, true, .base (.tup h2), kit_ty (by decide +kernel), .inr ⟨a, xs, rfl, h2, rfl, h3, h4⟩⟩
end
theorem ThB.mutL {b : Nat} {C z : Addr} {H : Hp} {n : Nat} {v : V} {p : Addr} {xs ys : List V} (h : ThB b C z H n v) (hp : H p = some (.lst xs)) : ThB b C z (upd H p (.lst ys)) n v := by
  have ot : ∀ {a : Addr} {o : HO}, H a = some o → (∀ zs, o ≠ .lst zs) → upd H p (.lst ys) a = some o := fun {a o} e ne => by
    refine upd_at (fun eq => ?_) e
    subst eq
    rw [hp] at e
    exact ne _ (Option.some.inj e).symm
  induction h with
  | int n i => exact .int n i
  | bl n q => exact .bl n q
  | non n => exact .non n
  | str n x => exact .str n x
  | lst n a xs2 h1 h2 =>
    by_cases e : a = p
    · subst e
      exact .lst n a ys h1 upd_same
    · exact .lst n a xs2 h1 (upd_at e h2)
  | dK n a xs h1 h2 => exact .dK n a xs h1 (ot h2 fun _ => nofun)
  | ins n a dx fs h1 h2 => exact .ins n a dx fs h1 (ot h2 fun _ => nofun)
  | tup0 a xs h1 h2 => exact .tup0 a xs h1 (ot h2 fun _ => nofun)
  | tup n a xs h1 h2 h3 _ ih => exact .tup n a xs h1 (ot h2 fun _ => nofun) h3 ih
def sp__law_deep (C : Addr) (K : PySem.W.Frag) : Sp := fun vs H Q _ => ∃ (τ : Tp), vs = [.ref τ.t] ∧ Tape τ H ∧ ∀ v H', Mv τ H H' → (∀ n, ThB 1 C τ.t H' n v) → Q v H'
theorem sc__law_deep : FnScope ["_law_hand_here", "_law_found", "_law_turn"] ["_law_hand_here"] (defScope s__law_deep) := ⟨rfl, rfl, rfl, by decide +kernel, rfl, by decide +kernel, by decide +kernel⟩
theorem ok__law_deep (T : Top P K mg) : FnOk P w K mg base CX0 2 T.f__law_deep T.fd__law_deep ["_law_hand_here"] (sp__law_deep T.C_Book K) := by
  have G__law_draw := ok__law_draw (P := P) (w := w) (base := base) T
  refine T.F__law_deep.ok sc__law_deep (fun vs H Q E h => ?_) (fun cdv A outer s H vs Q E hr h => ?_)
  · obtain ⟨τ, rfl, _⟩ := h
    rfl
  · obtain ⟨τ, rfl, m0, k⟩ := h
    refine ⟨_, (pss_cons (ps_set (i := 1) sc__law_deep.nd rfl (Or.inl rfl) (pe_ix (r := rIxL K) ix_list (pe_lst (pa_cons pe_non (pa_cons pe_str (pa_cons (pe_un un_neg pe_int) (pa_cons pe_dnewK pa_nil))))) (pe_call G__law_draw hr (by rfl) T.g__law_draw T.F__law_draw.kp T.b__law_draw .nil pass0 (pa_cons (pv 0) (pa_cons pe_int pa_nil))) (fun _ _ => rfl)))
      (pss_cons (ps_for PassesOwn.never rfl (pi_range1 rfl T.z_range (pa_cons (pe_op op_add pe_int (pe_call G__law_draw hr (by rfl) T.g__law_draw T.F__law_draw.kp T.b__law_draw .nil pass0 (pa_cons (pv 0) (pa_cons pe_int pa_nil)))) pa_nil)) (pg_name (i := 2) sc__law_deep.nd rfl (Or.inl rfl))
      (pss_one (ps_set (i := 1) sc__law_deep.nd rfl (Or.inl rfl) (pe_ix (r := rIxL K) ix_list (pe_lst (pa_cons (pe_tup (pa_cons (pv 1) pa_nil)) (pa_cons (pe_lst (pa_cons (pv 1) pa_nil)) (pa_cons (pe_slice sl_tupA (pe_tup (pa_cons (pv 1) (pa_cons (pv 1) pa_nil))) po_none (po_some pe_int)) (pa_cons (pe_disp (pps_cons pe_int (pv 1) pps_nil) rfl rfl (fun z => nomatch z) (by decide)) pa_nil))))) (pe_call G__law_draw hr (by rfl) T.g__law_draw T.F__law_draw.kp T.b__law_draw .nil pass0 (pa_cons (pv 0) (pa_cons pe_int pa_nil))) (fun _ _ => rfl)))))
      (pss_one (ps_ret (pv 1))))), ?_⟩
    tm_at "w"
    intro pd npd
    have hpd := upd_same (H := H) (a := pd) (o := .dK [])
    have m1 : Mv τ H (upd H pd (.dK [])) := m0.mv.new npd
    have pdt := m0.mv.neN npd
    tm_at "w"
    intro pl npl
    have plt := m1.neN npl
    have m2 := m1.new (o := .lst [.non, .str "a", .int (-1), .ref pd]) npl
    have hpd2 := (Same.new (o := .lst [.non, .str "a", .int (-1), .ref pd]) (Same.refl _) npl) _ _ hpd
    tm_at "w"
    refine ⟨τ, _, rfl, m2.now, by decide, by decide, fun r H3 m3 r0 r1 => ?_⟩
    have hpl3 := m3.keep _ _ plt upd_same
    have hpd3 := m3.keep _ _ pdt hpd2
    obtain ⟨v, ev, hv⟩ : ∃ v, atI [V.non, .str "a", .int (-1), .ref pd] r = some v ∧ ∀ n, ThB 1 T.C_Book τ.t H3 n v := by
      rcases (show r = 0 ∨ r = 1 ∨ r = 2 ∨ r = 3 by omega) with rfl | rfl | rfl | rfl
      · exact ⟨_, rfl, fun n => .non n⟩
      · exact ⟨_, rfl, fun n => .str n _⟩
      · exact ⟨_, rfl, fun n => .int n _⟩
      · exact ⟨_, rfl, fun n => .dK n pd [] pdt hpd3⟩
    refine ⟨_, _, _, _, rfl, rfl, SqL.of hpl3, ev, ?_⟩
    have m03 := m2.trans m3
    tm_at "w"
    refine ⟨τ, _, rfl, m3.now, by decide, by decide, fun r2 H4 m4 _ _ => ?_⟩
    tm_at "w"
    refine for_range (lo := 0) (n := (1 + r2).toNat) (fun i σ H' => ∃ v u, σ = [some (.ref τ.t), some v, u] ∧ Mv τ H H' ∧ ∀ n, ThB 1 T.C_Book τ.t H' n v) ⟨v, _, rfl, m03.trans m4, fun n => (hv n).mv m4⟩ ?_ ?_
    · rintro i σ H5 hi ⟨v, u, rfl, m5, hv⟩
      tm_at "w"
      intro t1 nt1
      have t1t := m5.neN nt1
      have m6 := m5.new (o := .tup [v]) nt1
      obtain ⟨H6, e6, s6, ht1⟩ := new_hide (Same.new (o := .tup [v]) (Same.refl H5) nt1)
      rw [e6] at m6 ⊢
      tm_at "w"
      intro l1 nl1
      have l1t := m6.neN nl1
      have m7 := m6.new (o := .lst [v]) nl1
      obtain ⟨H7, e7, s7, hl1⟩ := new_hide (Same.new (o := .lst [v]) (Same.refl H6) nl1)
      rw [e7] at m7 ⊢
      tm_at "w"
      intro t2 nt2
      have m8 := m7.new (o := .tup [v, v]) nt2
      obtain ⟨H8, e8, s8, ht2⟩ := new_hide (Same.new (o := .tup [v, v]) (Same.refl H7) nt2)
      rw [e8] at m8 ⊢
      unfold tNoPart
      tm_at "w"
      refine slice_any (m := 1) ht2 (by show 1 ≤ 2; decide) fun p3 H9 s9 hp3 => ?_
      have m9 := m8.same s9
      have p3t := m9.now.mv.neT hp3
      tm_at "w"
      intro pd npd
      have pdt := m9.neN npd
      have m10 := m9.new (o := .dK []) npd
      obtain ⟨H10, e10, s10, hpd⟩ := new_hide (Same.new (o := .dK []) (Same.refl H9) npd)
      rw [e10] at m10 ⊢
      tm_at "w"
      refine ⟨[(.inl 0, v)], rfl, by show 1 ≤ 15; decide, ?_⟩
      have m11 : Mv τ H (upd H10 pd (.dK (mergeK [] [(.inl 0, v)]))) := m10.mut (m9.free npd)
      have old : ∀ a o, H9 a = some o → upd H10 pd (.dK (mergeK [] [(.inl 0, v)])) a = some o := fun a o e => (upd_ne (ne_of_none e npd)).trans (s10 _ _ e)
      have t1e := old _ _ (s9 _ _ (s8 _ _ (s7 _ _ ht1)))
      have l1e := old _ _ (s9 _ _ (s8 _ _ hl1))
      have p3e := old _ _ hp3
      have hve : ∀ n, ThB 1 T.C_Book τ.t (upd H10 pd (.dK (mergeK [] [(.inl 0, v)]))) n v := fun n => (hv n).keep fun a o _ e => old a o (s9 _ _ (s8 _ _ (s7 _ _ (s6 _ _ e))))
      have pde := upd_same (H := H10) (a := pd) (o := .dK (mergeK [] [(.inl 0, v)]))
      generalize upd H10 pd (.dK (mergeK [] [(.inl 0, v)])) = H11 at *
      tm_at "w"
      intro pl npl
      have plt := m11.neN npl
      have m12 := m11.new (o := .lst [.ref t1, .ref l1, .ref p3, .ref pd]) npl
      obtain ⟨H12, e12, s12, hpl⟩ := new_hide (Same.new (o := .lst [.ref t1, .ref l1, .ref p3, .ref pd]) (Same.refl H11) npl)
      rw [e12] at m12 ⊢
      tm_at "w"
      refine ⟨τ, _, rfl, m12.now, by decide, by decide, fun r H13 m13 r0 r1 => ?_⟩
      have hpl3 := m13.keep _ _ plt hpl
      have hv13 : ∀ n, ThB 1 T.C_Book τ.t H13 n v := fun n => ((hve n).same s12).mv m13
      have hx1 : ∀ n, ∀ x ∈ [v], ThB 1 T.C_Book τ.t H13 n x := fun n x hx => by
        rw [List.mem_singleton.mp hx]
        exact hv13 n
      have one : ∀ (p : Addr), p ≠ τ.t → H13 p = some (.tup [v]) → ∀ n, ThB 1 T.C_Book τ.t H13 n (.ref p) := by
        intro p h1 h2 n
        cases n with
        | zero => exact .tup0 p _ h1 h2
        | succ n => exact .tup n p _ h1 h2 (by show 1 ≤ 1; decide) (hx1 n)
      obtain ⟨v2, ev2, hv2⟩ : ∃ v2, atI [V.ref t1, .ref l1, .ref p3, .ref pd] r = some v2 ∧ ∀ n, ThB 1 T.C_Book τ.t H13 n v2 := by
        rcases (show r = 0 ∨ r = 1 ∨ r = 2 ∨ r = 3 by omega) with rfl | rfl | rfl | rfl
        · exact ⟨_, rfl, one t1 t1t (m13.keep _ _ t1t (s12 _ _ t1e))⟩
        · exact ⟨_, rfl, fun n => .lst n l1 _ l1t (m13.keep _ _ l1t (s12 _ _ l1e))⟩
        · exact ⟨_, rfl, one p3 p3t (m13.keep _ _ p3t (s12 _ _ p3e))⟩
        · exact ⟨_, rfl, fun n => .dK n pd _ pdt (m13.keep _ _ pdt (s12 _ _ pde))⟩
      refine ⟨_, _, _, _, rfl, rfl, SqL.of hpl3, ev2, ?_⟩
      exact ⟨v2, _, rfl, m12.trans m13, hv2⟩
    · rintro σ H5 ⟨v, u, rfl, m5, hv⟩
      tm_at "w"
      exact k v H5 m5 hv
/-! _law_parents -/
theorem snoc_at {R : Nat → V → Prop} {acc : List V} {x : V} {i : Nat} (hl : acc.length = i) (h : ∀ (j : Nat) v, acc[j]? = some v → R j v) (hx : R i x) : ∀ (j : Nat) v, (acc ++ [x])[j]? = some v → R j v := fun j v e => by
  by_cases hj : j < acc.length
  · rw [List.getElem?_append_left hj] at e
    exact h j v e
  · rw [List.getElem?_append_right (by omega)] at e
    have q := (List.getElem?_eq_some_iff.mp e).1
    rw [List.length_singleton] at q
    have ej : j = i := by omega
    rw [ej, hl, Nat.sub_self] at e
    rw [ej, ← Option.some.inj e]
    exact hx
theorem nats_all {i : Nat} : ∀ {acc : List V}, (∀ v ∈ acc, ∃ z : Int, v = .int z ∧ 0 ≤ z ∧ z < i) → ∃ q : List Nat, q.length = acc.length ∧ (∀ x ∈ q, x < i) ∧ acc = natsV q
  | [], _ => ⟨[], rfl, (fun x hx => by cases hx), rfl⟩
  | v :: r, h => by
    obtain ⟨q, h1, h2, h3⟩ := nats_all fun u hu => h u (List.mem_cons_of_mem _ hu)
    obtain ⟨z, e, z0, z1⟩ := h v List.mem_cons_self
    refine ⟨z.toNat :: q, by rw [List.length_cons, List.length_cons, h1], fun x hx => ?_, ?_⟩
    · rcases List.mem_cons.mp hx with e | e
      · omega
      · exact h2 x e
    · rw [e, h3]
      show V.int z :: natsV q = V.int (z.toNat : Int) :: natsV q
      rw [show (z.toNat : Int) = z by omega]
def sp__law_parents (K : PySem.W.Frag) : Sp := fun vs H Q _ => ∃ (τ : Tp) (n m : Nat), vs = [.ref τ.t, .int n, .int m] ∧ Tape τ H ∧ n ≤ 400 ∧ m ≤ 6 ∧
  ∀ a P H', Mv τ H H' → ParAt H' a P → OkP P → P.length = n → Q (.ref a) H'
theorem sc__law_parents : FnScope ["_law_hand_here", "_law_many", "_law_most", "_law_found", "_law_kind", "_law_some", "_law_turn"] ["_law_hand_here", "_law_many", "_law_most"] (defScope s__law_parents) := ⟨rfl, rfl, rfl, by decide +kernel, rfl, by decide +kernel, by decide +kernel⟩
theorem ok__law_parents (T : Top P K mg) : FnOk P w K mg base CX0 2 T.f__law_parents T.fd__law_parents ["_law_hand_here", "_law_many", "_law_most"] (sp__law_parents K) := by
  have G__law_draw := ok__law_draw (P := P) (w := w) (base := base) T
  refine T.F__law_parents.ok sc__law_parents (fun vs H Q E h => ?_) (fun cdv A outer s H vs Q E hr h => ?_)
  · obtain ⟨τ, n, m, rfl, _⟩ := h
    rfl
  · obtain ⟨τ, n, m, rfl, m0, hn, hm, kk⟩ := h
    refine ⟨_, (pss_cons (ps_set (i := 3) sc__law_parents.nd rfl (Or.inl rfl) (pe_lst pa_nil))
      (pss_cons (ps_for PassesOwn.never rfl (pi_range1 rfl T.z_range (pa_cons (pv 1) pa_nil)) (pg_name (i := 4) sc__law_parents.nd rfl (Or.inr rfl))
      (pss_cons (ps_set (i := 5) sc__law_parents.nd rfl (Or.inl rfl) (pe_ifExp (pt_cmpR op_gt (pv 4) pe_int (nomark _)) (pe_lc (own := [("_law_turn", 6)]) (g := gName 6) (tt := tYes) rfl sc__law_parents.nd (pi_range1 rfl T.z_range (pa_cons (pe_call G__law_draw hr (by rfl) T.g__law_draw T.F__law_draw.kp T.b__law_draw .nil pass0 (pa_cons (pv 0) (pa_cons (pe_op op_add (pv 2) pe_int) pa_nil))) pa_nil)) (blkOk_by (own := [("_law_turn", 6)]) (N := ["_law_hand_here", "_law_many", "_law_most", "_law_found", "_law_kind", "_law_some", "_law_turn"]) (sc := defScope s__law_parents) (by decide +kernel)) (fun _ _ _ _ _ => (pg_name (i := 6) sc__law_parents.nd rfl (Or.inl rfl))) (fun _ _ _ _ _ => pts_nil) (fun _ _ _ _ _ => (pe_call G__law_draw hr (by rfl) T.g__law_draw T.F__law_draw.kp T.b__law_draw .nil pass0 (pa_cons (pv 0) (pa_cons (pv 4) pa_nil))))) (pe_lst pa_nil)))
      (pss_one (ps_expr (pe_bm PySem.F.plainAttrs_list PySem.F.slot_list_append PySem.F.type_list_append mt_append (pv 3) (pa_cons (pe_callTy (r := rTupQ K) (T := "tuple") call_tuple_of (by rfl) T.z_tuple (by decide +kernel) (pa_cons (pe_callB (id := "sorted") (cr_sortedSet rfl) (by rfl) T.z_sorted (by decide +kernel) (pa_cons (pe_callTy (T := "set") (cr_setL rfl) (by rfl) T.z_set (by decide +kernel) (pa_cons (pv 5) pa_nil)) pa_nil)) pa_nil)) pa_nil))))))
      (pss_one (ps_ret (pe_callTy (r := rTupQ K) (T := "tuple") call_tuple_of (by rfl) T.z_tuple (by decide +kernel) (pa_cons (pv 3) pa_nil)))))), ?_⟩
    tm_at "w"
    intro F nF
    have nFt := m0.mv.neN nF
    tm_at "w"
    refine for_range (lo := 0) (n := (n : Int).toNat) (fun i σ H' => ∃ x y z, σ = [some (.ref τ.t), some (.int (n : Int)), some (.int (m : Int)), some (.ref F), x, y, z] ∧ Mv τ H H' ∧ ∃ acc, H' F = some (.lst acc) ∧ acc.length = i ∧ ∀ (j : Nat) v, acc[j]? = some v → RowR j v H') ?_ ?_ ?_
    · exact ⟨none, none, none, rfl, m0.mv.new nF, [], upd_same, rfl, fun j v e => by simp at e⟩
    · rintro i σ H1 hi ⟨x0, y0, z0, rfl, m1, acc, hF1, hacc, hR1⟩
      rw [Int.zero_add]
      tm_at "w"
      refine iteD (fun z => ?_) (fun z => ?_)
      tm_at "w"
      refine ⟨τ, _, rfl, m1.now, by omega, by omega, fun r H2 m2 h0 h1 => ?_⟩
      obtain ⟨r, rfl⟩ : ∃ n : Nat, r = n := ⟨r.toNat, by omega⟩
      tm_at "w"
      intro D nD
      refine lc_rangeM (τ := τ) (fun _ v _ => ∃ z : Int, v = .int z ∧ 0 ≤ z ∧ z < i) (fun _ _ _ _ h _ => h) m2.now nD (by omega) ?_ ?_
      · intro j H3 N M hj m3 kN
        tm_at "w"
        exact ⟨τ, _, rfl, m3.now, by omega, by omega, fun r3 H4 m4 h3 h4 => kN _ _ m4 ⟨r3, rfl, h3, by omega⟩⟩
      intro H3 acc2 m3 hD hlen hR
      rw [Int.toNat_natCast] at hlen
      obtain ⟨q, hql, hqn, rfl⟩ : ∃ q : List Nat, q.length ≤ 6 ∧ (∀ x ∈ q, x < i) ∧ acc2 = natsV q := by
        obtain ⟨q, e1, e2, e3⟩ := nats_all (i := i) (acc := acc2) fun v hv => by
          obtain ⟨j, hj, e⟩ := List.mem_iff_getElem.mp hv
          exact hR j v (by rw [List.getElem?_eq_getElem hj, e])
        exact ⟨q, by omega, e2, e3⟩
      have m13 := m2.trans m3
      rotate_left
      tm_at "w"
      intro D nD
      obtain ⟨q, hql, hqn, eq⟩ : ∃ q : List Nat, q.length ≤ 6 ∧ (∀ x ∈ q, x < i) ∧ ([] : List V) = natsV q := ⟨[], by decide, (fun x hx => by cases hx), rfl⟩
      have hD : upd H1 D (.lst []) D = some (.lst (natsV q)) := by rw [upd_same, eq]
      have m13 := m1.now.mv.new (o := .lst []) nD
      all_goals
        tm_at "w"
        refine ⟨_, q.map fun z : Nat => (z : Int), rfl, SqL.of (by rw [List.map_map]; exact hD), by rw [List.length_map]; omega, fun S c hc _ nS => ?_⟩
        rw [List.length_map] at hc
        refine ⟨S, _, _, rfl, upd_same, by omega, fun ns p hs hmem hlen np => ?_⟩
        obtain ⟨ks, rfl, hks, hkp⟩ := nats_of hs (n := i) fun x hx => by
          have := of_decide_eq_true ((hmem x).mp hx)
          obtain ⟨z, hz, e⟩ := List.mem_map.mp this
          exact ⟨z, hqn z hz, e.symm⟩
        rw [List.length_map] at hlen
        have m15 := ((m1.trans m13).new nS).new (p := p) (o := .lst ((ks.map fun z : Nat => (z : Int)).map V.int)) np
        have m35 := (m13.new nS).new (p := p) (o := .lst ((ks.map fun z : Nat => (z : Int)).map V.int)) np
        tm_at "w"
        intro t nt
        have m16 := m15.new (o := .tup ((ks.map fun z : Nat => (z : Int)).map V.int)) nt
        have m36 := m35.new (o := .tup ((ks.map fun z : Nat => (z : Int)).map V.int)) nt
        have hF6 := m36.keep _ _ nFt hF1
        tm_at "w"
        refine ⟨_, _, _, rfl, m16.mut nF, acc ++ [.ref t], upd_same, len_app hacc, snoc_at hacc (fun j v e => (hR1 j v e).tk (TK.trans m36.tk (TK.mut hF6))) ⟨t, ks, rfl, ?_, ⟨hkp, hks, by omega⟩⟩⟩
        rw [upd_ne (fun e => by rw [e] at nt; rw [m35.keep _ _ nFt hF1] at nt; cases nt), upd_same, List.map_map]
        rfl
    · rintro σ H1 ⟨x0, y0, z0, rfl, m1, acc, hF1, hacc, hR1⟩
      obtain ⟨P, hP, ok, hPl⟩ := rows_of hn (by omega) hR1
      tm_at "w"
      intro t nt
      exact kk t P _ (m1.new nt) ⟨acc, upd_same, hP.tk (TK.new nt)⟩ ok hPl
/-! _law_sheet -/
theorem int_nodup_le {ks : List Int} {m : Nat} (hn : ks.Nodup) (h : ∀ k ∈ ks, 0 ≤ k ∧ k < (m : Int)) : ks.length ≤ m := by
  have l : (ks.map Int.toNat).length ≤ m := nodup_le m (by
    unfold List.Nodup
    rw [List.pairwise_map]
    refine List.Pairwise.imp_of_mem (fun {a b} ha hb z e => z ?_) hn
    have := h a ha
    have := h b hb
    omega) fun k hk => by
    obtain ⟨z, hz, rfl⟩ := List.mem_map.mp hk
    have := h z hz
    omega
  rw [List.length_map] at l
  exact l
/-- for each kind the tuple of all kinds that it is -/
def ShL (H : Hp) (vs : List V) (P : List (List Nat)) (l : Addr) : Prop := ∀ (j : Nat) v, vs[j]? = some v → ∃ b q, v = .ref b ∧ H b = some (.tup (natsV q)) ∧ (∀ k, k ∈ q ↔ isA P j k = true) ∧ q.length ≤ P.length ∧ b ≠ l ∧ q.Pairwise (· < ·)
def ShAt (H : Hp) (l : Addr) (P : List (List Nat)) : Prop := ∃ vs, H l = some (.lst vs) ∧ vs.length = P.length ∧ ShL H vs P l
theorem ShL.tk {H H' : Hp} {vs : List V} {P : List (List Nat)} {l : Addr} (h : ShL H vs P l) (k : TK H H') : ShL H' vs P l := fun j v e => by
  obtain ⟨b, q, e1, e2, e3⟩ := h j v e
  exact ⟨b, q, e1, k _ _ e2, e3⟩
theorem ShAt.same {H H' : Hp} {l : Addr} {P : List (List Nat)} (h : ShAt H l P) (s : Same H H') : ShAt H' l P := by
  obtain ⟨vs, h1, h2, h3⟩ := h
  exact ⟨vs, s _ _ h1, h2, h3.tk (Same.tk s)⟩
theorem ShAt.mv {H H' : Hp} {l : Addr} {P : List (List Nat)} {τ : Tp} (h : ShAt H l P) (m : Mv τ H H') (n : l ≠ τ.t) : ShAt H' l P := by
  obtain ⟨vs, h1, h2, h3⟩ := h
  exact ⟨vs, m.keep _ _ n h1, h2, h3.tk m.tk⟩
theorem ShAt.at {H : Hp} {l : Addr} {P : List (List Nat)} (h : ShAt H l P) {x : Nat} (hx : x < P.length) : ∃ vs b q, H l = some (.lst vs) ∧ vs[x]? = some (.ref b) ∧ H b = some (.tup (natsV q)) ∧ (∀ k, k ∈ q ↔ isA P x k = true) ∧ q.length ≤ P.length := by
  obtain ⟨vs, h1, h2, h3⟩ := h
  obtain ⟨b, q, e1, e2, e3, e4, _⟩ := h3 x _ (List.getElem?_eq_getElem (by omega))
  exact ⟨vs, b, q, h1, by rw [List.getElem?_eq_getElem (by omega), e1], e2, e3, e4⟩
theorem ShAt.up {H : Hp} {l : Addr} {P : List (List Nat)} (h : ShAt H l P) (ok : OkP P) {x : Nat} (hx : x < P.length) : ∃ vs b, H l = some (.lst vs) ∧ vs.length = P.length ∧ vs[x]? = some (.ref b) ∧ H b = some (.tup (natsV (foreB P x ++ [x]))) := by
  obtain ⟨vs, h1, h2, h3⟩ := h
  obtain ⟨b, q, e1, e2, e3, _, _, e4⟩ := h3 x _ (List.getElem?_eq_getElem (by omega))
  refine ⟨vs, b, h1, h2, by rw [List.getElem?_eq_getElem (by omega), e1], ?_⟩
  rw [e2, asc_ext e4 (up_asc P x) fun k => (e3 k).trans (mem_up ok.rt hx k).symm]
def sp__law_sheet (K : PySem.W.Frag) : Sp := fun vs H Q _ => ∃ (a : Addr) (P : List (List Nat)), vs = [.ref a] ∧ ParAt H a P ∧ OkP P ∧ P.length ≤ 63 ∧ ∀ l H', Same H H' → Nw H l → ShAt H' l P → Q (.ref l) H'
theorem sc__law_sheet : FnScope ["_law_parents_here", "_law_found", "_law_kind", "_law_item", "_law_here", "_law_parent"] ["_law_parents_here"] (defScope s__law_sheet) := ⟨rfl, rfl, rfl, by decide +kernel, rfl, by decide +kernel, by decide +kernel⟩
theorem ok__law_sheet (T : Top P K mg) : FnOk P w K mg base CX0 1 T.f__law_sheet T.fd__law_sheet ["_law_parents_here"] (sp__law_sheet K) := by
  refine T.F__law_sheet.ok sc__law_sheet (fun vs H Q E h => ?_) (fun cdv A outer s H vs Q E hr h => ?_)
  · obtain ⟨a, P, rfl, _⟩ := h
    rfl
  · obtain ⟨a, P, rfl, hP, ok, h63, k⟩ := h
    refine ⟨_, (pss_cons (ps_set (i := 1) sc__law_sheet.nd rfl (Or.inl rfl) (pe_lst pa_nil))
      (pss_cons (ps_for PassesOwn.never rfl (pi_enumT (by rfl) T.z_enumerate (pa_cons (pv 0) pa_nil)) (pg_tup rfl (pgs_cons (pg_name (i := 2) sc__law_sheet.nd rfl (Or.inl rfl)) (pgs_cons (pg_name (i := 3) sc__law_sheet.nd rfl (Or.inl rfl)) pgs_nil)))
      (pss_cons (ps_set (i := 4) sc__law_sheet.nd rfl (Or.inl rfl) (pe_lst (pa_cons (pv 2) pa_nil)))
      (pss_cons (ps_for PassesOwn.never rfl (pi_tup (pv 3)) (pg_name (i := 5) sc__law_sheet.nd rfl (Or.inl rfl))
      (pss_one (ps_expr (pe_bm PySem.F.plainAttrs_list PySem.F.slot_list_extend PySem.F.type_list_extend mt_extend (pv 4) (pa_cons (pe_callTy (r := rListQ K) (T := "list") call_list_of (by rfl) T.z_list (by decide +kernel) (pa_cons (pe_ix (r := rIxL K) ix_list (pv 1) (pv 5) (fun _ _ => rfl)) pa_nil)) pa_nil)))))
      (pss_one (ps_expr (pe_bm PySem.F.plainAttrs_list PySem.F.slot_list_append PySem.F.type_list_append mt_append (pv 1) (pa_cons (pe_callTy (r := rTupQ K) (T := "tuple") call_tuple_of (by rfl) T.z_tuple (by decide +kernel) (pa_cons (pe_callB (id := "sorted") (cr_sortedSet rfl) (by rfl) T.z_sorted (by decide +kernel) (pa_cons (pe_callTy (T := "set") (cr_setL rfl) (by rfl) T.z_set (by decide +kernel) (pa_cons (pv 4) pa_nil)) pa_nil)) pa_nil)) pa_nil)))))))
      (pss_one (ps_ret (pv 1))))), ?_⟩
    have hR := ok.rt
    obtain ⟨vsP, hpa, hlen, hit⟩ := id hP
    tm_at "w"
    intro F nF
    have s0 : Same H (upd H F (.lst [])) := Same.new (Same.refl H) nF
    have hpa1 := s0 _ _ hpa
    tm_at "w"
    refine ⟨_, _, rfl, SqT.of hpa1, for_enumT (K := K) (a := a) (xs := vsP) (fun i σ H' => ∃ x y z w, σ = [some (.ref a), some (.ref F), x, y, z, w] ∧ Same H H' ∧ ∃ vs, H' F = some (.lst vs) ∧ vs.length = i ∧ ShL H' vs P F) ?_ ?_ ?_ ?_⟩
    · exact ⟨_, _, _, _, rfl, s0, [], upd_same, rfl, fun j v e => by simp at e⟩
    · rintro i σ H' ⟨_, _, _, _, rfl, s1, _⟩
      exact SqT.of (s1 _ _ hpa)
    · rintro i x t σ H' hx ⟨x0, y0, z0, w0, rfl, s1, vs, hl1, hvl, hfl⟩ nt
      obtain ⟨ai, p, rfl, hp, hai⟩ := ParL.here ⟨hlen, hit⟩ hx
      have il := (List.getElem?_eq_some_iff.mp hp).1
      have p6 := (ok.ok i p hp).few
      have s2 : Same H' (upd H' t (.tup [V.int (i : Int), V.ref ai])) := Same.new (Same.refl H') nt
      have hai2 := s2 _ _ (s1 _ _ hai)
      tm_at "w"
      intro L nL
      have nL0 : H' L = none := Same.free s2 nL
      have s3 : Same H' (upd (upd H' t (.tup [V.int (i : Int), V.ref ai])) L (.lst [V.int (i : Int)])) := Same.new s2 nL
      have hai3 := s3 _ _ (s1 _ _ hai)
      tm_at "w"
      refine ⟨⟨_, SqT.of hai3⟩, for_tup (K := K) (a := ai) (xs := natsV p) (fun j σ H2 => ∃ u, σ = [some (.ref a), some (.ref F), some (.int (i : Int)), some (.ref ai), some (.ref L), u] ∧ Same H' H2 ∧ ∃ S, H2 L = some (.lst (natsV S)) ∧ (∀ k, k ∈ S ↔ k = i ∨ ∃ z ∈ p.take j, isA P z k = true) ∧ S.length ≤ 1 + j * 63) ?_ ?_ ?_ ?_⟩
      · exact ⟨w0, rfl, s3, [i], upd_same, (fun k => ⟨(fun h => .inl (List.mem_singleton.mp h)), (fun h => by
          rcases h with h | ⟨z, hz, _⟩
          · exact List.mem_singleton.mpr h
          · simp at hz)⟩), by show 1 ≤ 1 + 0 * 63; decide⟩
      · rintro j σ H2 _ ⟨_, rfl, s4, _⟩
        exact SqT.of (s4 _ _ (s1 _ _ hai))
      · rintro j v σ H2 hv ⟨u0, rfl, s4, S, hL, hS, hSl⟩
        obtain ⟨q, hq, rfl, jl⟩ := natsV_here hv
        have ql := hR i p hp q (List.mem_of_getElem? hq)
        obtain ⟨aq, w, e1, e2, e3, e4, _⟩ := hfl q _ (List.getElem?_eq_getElem (by omega))
        have hl4 := s4 _ _ hl1
        have hq4 := s4 _ _ e2
        have hvq : vs[q]? = some (.ref aq) := by rw [List.getElem?_eq_getElem (by omega), e1]
        tm_at "w"
        intro M nM
        have hL5 : upd H2 M (.lst (natsV w)) L = some (.lst (natsV S)) := (upd_ne (ne_of_none hL nM)).trans hL
        have s5 := Same.new (o := .lst (natsV w)) s4 nM
        tm_at "w"
        refine ⟨_, _, _, _, rfl, rfl, hL5, upd_same, by rw [natsV_len, natsV_len]; have := lt_line (n := 90000) (by decide); omega, ?_⟩
        refine ⟨_, rfl, Same.mut s5 nL0, S ++ w, by rw [upd_same]; unfold natsV; rw [List.map_append], fun k => ?_, by rw [List.length_append]; omega⟩
        rw [List.mem_append, hS, e3, List.take_add_one, hq]
        constructor
        · rintro ((e | ⟨y, hy, e⟩) | e)
          · exact .inl e
          · exact .inr ⟨y, List.mem_append_left _ hy, e⟩
          · exact .inr ⟨q, List.mem_append_right _ (List.mem_singleton.mpr rfl), e⟩
        · rintro (e | ⟨y, hy, e⟩)
          · exact .inl (.inl e)
          · rcases List.mem_append.mp hy with hy | hy
            · exact .inl (.inr ⟨y, hy, e⟩)
            · rw [show y = q from List.mem_singleton.mp hy] at e
              exact .inr e
      · rintro σ H2 ⟨u0, rfl, s4, S, hL, hS, hSl⟩
        rw [natsV_len, List.take_length] at hS
        rw [natsV_len] at hSl
        have hl4 := s4 _ _ hl1
        tm_at "w"
        refine ⟨_, S.map fun z : Nat => (z : Int), rfl, SqL.of (by rw [List.map_map]; exact hL), by rw [List.length_map]; omega, fun Z c hc hks nZ => ?_⟩
        have hSi : ∀ k, k ∈ S ↔ isA P i k = true := fun k => by
          rw [hS, isA_rec hR hp, Bool.or_eq_true, decide_eq_true_eq, List.any_eq_true]
          exact ⟨fun h => h.imp Eq.symm id, fun h => h.imp Eq.symm id⟩
        have hSn : ∀ k ∈ S, k < P.length := fun k hk => by
          have := isA_le hR ((hSi k).mp hk)
          omega
        have hcn : c ≤ P.length := by
          obtain ⟨ks, h1, h2, h3⟩ := hks
          rw [← h2]
          refine int_nodup_le h1 fun k hk => ?_
          obtain ⟨z, hz, e⟩ := List.mem_map.mp ((h3 k).mp hk)
          have := hSn z hz
          omega
        refine ⟨Z, _, _, rfl, upd_same, by omega, fun ns p2 hs hmem hlen2 np => ?_⟩
        obtain ⟨ks, rfl, hks2, hkp⟩ := nats_of hs (n := P.length) fun x hx => by
          have := of_decide_eq_true ((hmem x).mp hx)
          obtain ⟨z, hz, e⟩ := List.mem_map.mp this
          exact ⟨z, hSn z hz, e.symm⟩
        rw [List.length_map] at hlen2
        have s6 := (Same.new (o := .lst ((ks.map fun z : Nat => (z : Int)).map V.int)) (Same.new s4 nZ) np)
        tm_at "w"
        intro u nu
        have s7 := Same.new (o := .tup ((ks.map fun z : Nat => (z : Int)).map V.int)) s6 nu
        have hl7 := s7 _ _ hl1
        have nuF : u ≠ F := fun e => by rw [e, s6 _ _ hl1] at nu; cases nu
        tm_at "w"
        refine ⟨_, _, _, _, rfl, Same.mut (Same.trans s1 s7) nF, vs ++ [.ref u], upd_same, len_app hvl, snoc_at hvl (hfl.tk (TK.trans (Same.tk s7) (TK.mut hl7))) ⟨u, ks, rfl, ?_, fun k => ?_, by omega, nuF, hkp⟩⟩
        · rw [upd_ne nuF, upd_same, List.map_map]
          rfl
        · rw [← hSi]
          constructor
          · intro h
            have := of_decide_eq_true ((hmem (k : Int)).mp (List.mem_map.mpr ⟨k, h, rfl⟩))
            obtain ⟨z, hz, e⟩ := List.mem_map.mp this
            rw [show k = z by omega]
            exact hz
          · intro h
            have := (hmem (k : Int)).mpr (decide_eq_true (List.mem_map.mpr ⟨k, h, rfl⟩))
            obtain ⟨z, hz, e⟩ := List.mem_map.mp this
            rw [show k = z by omega]
            exact hz
    · rintro σ H' ⟨x0, y0, z0, w0, rfl, s1, vs, hl1, hvl, hfl⟩
      tm_at "w"
      exact k F _ s1 ⟨nF⟩ ⟨vs, hl1, by omega, hfl⟩
/-! _law_brought -/
def sp__law_brought (K : PySem.W.Frag) : Sp := fun vs H Q _ => ∃ (τ : Tp) (n m : Nat), vs = [.ref τ.t, .int n, .int m] ∧ Tape τ H ∧ n ≤ 400 ∧ m ≤ 100 ∧
  ∀ a F H', Mv τ H H' → H' a = some (.tup (natsV F)) → F.length = n → (∀ x ∈ F, x ≤ m) → Q (.ref a) H'
theorem sc__law_brought : FnScope ["_law_hand_here", "_law_many", "_law_most", "_law_kind"] ["_law_hand_here", "_law_many", "_law_most"] (defScope s__law_brought) := ⟨rfl, rfl, rfl, by decide +kernel, rfl, by decide +kernel, by decide +kernel⟩
theorem ok__law_brought (T : Top P K mg) : FnOk P w K mg base CX0 2 T.f__law_brought T.fd__law_brought ["_law_hand_here", "_law_many", "_law_most"] (sp__law_brought K) := by
  have G__law_draw := ok__law_draw (P := P) (w := w) (base := base) T
  refine T.F__law_brought.ok sc__law_brought (fun vs H Q E h => ?_) (fun cdv A outer s H vs Q E hr h => ?_)
  · obtain ⟨τ, n, m, rfl, _⟩ := h
    rfl
  · obtain ⟨τ, n, m, rfl, t0, hn, hm, k⟩ := h
    refine ⟨_, (pss_one (ps_ret (pe_callTy (r := rTupQ K) (T := "tuple") call_tuple_of (by rfl) T.z_tuple (by decide +kernel) (pa_cons (pe_lc (own := [("_law_kind", 3)]) (g := gName 3) (tt := tYes) rfl sc__law_brought.nd (pi_range1 rfl T.z_range (pa_cons (pv 1) pa_nil)) (blkOk_by (own := [("_law_kind", 3)]) (N := ["_law_hand_here", "_law_many", "_law_most", "_law_kind"]) (sc := defScope s__law_brought) (by decide +kernel)) (fun _ _ _ _ _ => (pg_name (i := 3) sc__law_brought.nd rfl (Or.inl rfl))) (fun _ _ _ _ _ => pts_nil) (fun _ _ _ _ _ => (pe_ifExp (pt_cmpR op_eq (pe_call G__law_draw hr (by rfl) T.g__law_draw T.F__law_draw.kp T.b__law_draw .nil pass0 (pa_cons (pv 0) (pa_cons pe_int pa_nil))) pe_int (nomark _)) pe_int (pe_call G__law_draw hr (by rfl) T.g__law_draw T.F__law_draw.kp T.b__law_draw .nil pass0 (pa_cons (pv 0) (pa_cons (pe_op op_add (pv 2) pe_int) pa_nil)))))) pa_nil)))), ?_⟩
    tm_at "w"
    intro D nD
    refine lc_rangeM (fun _ v _ => ∃ x : Nat, v = .int (x : Int) ∧ x ≤ m) (fun _ _ _ _ h _ => h) t0 nD (by omega) ?_ ?_
    · intro i H1 N M hi m1 kN
      tm_at "w"
      refine ⟨τ, _, rfl, m1.now, by decide, by decide, fun r H2 m2 r0 r1 => ?_⟩
      tm_at "w"
      refine iteI (fun z => ?_) (fun z => ?_)
      · tm_at "w"
        exact kN _ _ m2 ⟨0, rfl, Nat.zero_le _⟩
      · tm_at "w"
        refine ⟨τ, _, rfl, m2.now, by omega, by omega, fun r2 H3 m3 r20 r21 => ?_⟩
        exact kN _ _ (m2.trans m3) ⟨r2.toNat, by rw [show ((r2.toNat : Nat) : Int) = r2 by omega], by omega⟩
    · intro H1 acc m1 hD hl hR
      obtain ⟨F, rfl, hF⟩ := nats_le (m := m) fun v hv => by
        obtain ⟨j, hj, e⟩ := List.mem_iff_getElem.mp hv
        exact hR j v (by rw [List.getElem?_eq_getElem hj, e])
      rw [natsV_len] at hl
      tm_at "w"
      intro t nt
      exact k t F _ (m1.new nt) upd_same (by omega) hF
/-! _law_hole -/

theorem range_bind {α β : Type} (l : List α) (g : α → Option β) : (List.range l.length).filterMap (fun j => l[j]?.bind g) = l.filterMap g := by
  have e : (List.range l.length).map (fun j => l[j]?) = l.map some := by
    refine List.ext_getElem? fun j => ?_
    rw [List.getElem?_map, List.getElem?_map]
    by_cases hj : j < l.length
    · rw [List.getElem?_range hj]
      show some l[j]? = _
      rw [List.getElem?_eq_getElem hj]
      rfl
    · rw [List.getElem?_eq_none (show (List.range l.length).length ≤ j by rw [List.length_range]; omega), List.getElem?_eq_none (show l.length ≤ j by omega)]
      rfl
  have e2 : (List.range l.length).filterMap (fun j => l[j]?.bind g) = ((List.range l.length).map fun j => l[j]?).filterMap fun o => o.bind g := by
    rw [List.filterMap_map]
    rfl
  rw [e2, e, List.filterMap_map]
  rfl
theorem armI_fm (o : List (Nat × Nat)) (a : Nat) : o.filterMap (fun s => if s.1 = a then some (V.int ((s.2 : Nat) : Int)) else none) = natsV (armI o a) := by
  unfold armI natsV
  induction o with
  | nil => rfl
  | cons s r ih =>
    rw [List.filterMap_cons, List.filter_cons]
    by_cases z : s.1 = a
    · rw [if_pos z, decide_eq_true z, if_pos rfl, List.map_cons, List.map_cons, ih]
    · rw [if_neg z, decide_eq_false z]
      exact ih
theorem arms_fm (o : List (Nat × Nat)) : o.filterMap (fun s => some (V.int ((s.1 : Nat) : Int))) = natsV (o.map (·.1)) := by
  unfold natsV
  induction o with
  | nil => rfl
  | cons s r ih =>
    rw [List.filterMap_cons, List.map_cons, List.map_cons, ← ih]
theorem count_cast (l : List Nat) (t : Nat) : (l.map fun z : Nat => (z : Int)).count (t : Int) = l.count t := by
  induction l with
  | nil => rfl
  | cons x r ih =>
    rw [List.map_cons, List.count_cons, List.count_cons, ih]
    congr 1
    by_cases z : x = t
    · rw [z]
      simp
    · have h1 : ((x : Int) == (t : Int)) = false := by
        rw [beq_eq_false_iff_ne]
        omega
      have h2 : (x == t) = false := by
        rw [beq_eq_false_iff_ne]
        exact z
      rw [h1, h2]
theorem armI_ne {o : List (Nat × Nat)} {a : Nat} : armI o a ≠ [] ↔ a ∈ o.map (·.1) := by
  unfold armI
  constructor
  · intro h
    cases e : o.filter fun s => decide (s.1 = a) with
    | nil => rw [e] at h; exact absurd rfl h
    | cons s r =>
      have hs : s ∈ o.filter fun s => decide (s.1 = a) := by rw [e]; exact List.mem_cons_self
      obtain ⟨h1, h2⟩ := List.mem_filter.mp hs
      exact List.mem_map.mpr ⟨s, h1, of_decide_eq_true h2⟩
  · intro h e
    obtain ⟨s, h1, h2⟩ := List.mem_map.mp h
    have e2 := List.map_eq_nil_iff.mp e
    have : s ∈ o.filter fun s => decide (s.1 = a) := List.mem_filter.mpr ⟨h1, decide_eq_true h2⟩
    rw [e2] at this
    cases this
def sp__law_hole (K : PySem.W.Frag) : Sp := fun vs H Q _ => ∃ (sh a : Addr) (P : List (List Nat)) (L : List (List (Nat × Nat))) (x : Nat), vs = [.ref sh, .ref a, .int x] ∧ ShAt H sh P ∧ OkP P ∧ LayAt H a L ∧ L.length = P.length ∧ x < P.length ∧ P.length ≤ 400 ∧ (∀ i, (L.getD i []).length ≤ 6) ∧ armsB L 6 = true ∧
  ∀ v r H', Same H H' → HoleIs (objS P L x) r → HolV H' v (r.map fun s => (x, s)) → Q v H'
theorem sc__law_hole : FnScope ["_law_sheet_here", "_law_told_here", "_law_x", "_law_spots", "_law_kind", "_law_arm", "_law_own", "_law_at", "_law_spot"] ["_law_sheet_here", "_law_told_here", "_law_x"] (defScope s__law_hole) := ⟨rfl, rfl, rfl, by decide +kernel, rfl, by decide +kernel, by decide +kernel⟩
theorem ok__law_hole (T : Top P K mg) : FnOk P w K mg base CX0 1 T.f__law_hole T.fd__law_hole ["_law_sheet_here", "_law_told_here", "_law_x"] (sp__law_hole K) := by
  refine T.F__law_hole.ok sc__law_hole (fun vs H Q E h => ?_) (fun cdv A outer s H vs Q E hr h => ?_)
  · obtain ⟨sh, a, P, L, x, rfl, _⟩ := h
    rfl
  · obtain ⟨sh, a, P, L, x, rfl, hsh, okP, hL, ll, hx, few, six, ar6, k⟩ := h
    refine ⟨_, (pss_cons (ps_set (i := 3) sc__law_hole.nd rfl (Or.inl rfl) (pe_lst pa_nil))
      (pss_cons (ps_for PassesOwn.never rfl (pi_tup (pe_ix (r := rIxL K) ix_list (pv 0) (pv 2) (fun _ _ => rfl))) (pg_name (i := 4) sc__law_hole.nd rfl (Or.inl rfl))
      (pss_one (ps_expr (pe_bm PySem.F.plainAttrs_list PySem.F.slot_list_extend PySem.F.type_list_extend mt_extend (pv 3) (pa_cons (pe_callTy (r := rListQ K) (T := "list") call_list_of (by rfl) T.z_list (by decide +kernel) (pa_cons (pe_ix (r := rIxT K) ix_tup (pv 1) (pv 4) (fun _ _ => rfl)) pa_nil)) pa_nil)))))
      (pss_cons (ps_for PassesOwn.never rfl (pi_list (pe_callB (id := "sorted") (cr_sortedSet rfl) (by rfl) T.z_sorted (by decide +kernel) (pa_cons (pe_callTy (T := "set") (cr_setL rfl) (by rfl) T.z_set (by decide +kernel) (pa_cons (pe_lc (own := [("_law_spot", 8)]) (g := gName 8) (tt := tYes) rfl sc__law_hole.nd (pi_list (pv 3)) (blkOk_by (own := [("_law_spot", 8)]) (N := ["_law_sheet_here", "_law_told_here", "_law_x", "_law_spots", "_law_kind", "_law_arm", "_law_own", "_law_at", "_law_spot"]) (sc := defScope s__law_hole) (by decide +kernel)) (fun _ _ _ _ _ => (pg_name (i := 8) sc__law_hole.nd rfl (Or.inl rfl))) (fun _ _ _ _ _ => pts_nil) (fun _ _ _ _ _ => (pe_ix (r := rIxT K) ix_tup (pv 8) pe_int (fun _ _ => rfl)))) pa_nil)) pa_nil))) (pg_name (i := 5) sc__law_hole.nd rfl (Or.inr rfl))
      (pss_cons (ps_setLc (i := 6) (own := [("_law_spot", 8)]) (g := gName 8) rfl sc__law_hole.nd rfl rfl (sw_true rfl rfl rfl (by decide +kernel)) (pi_list (pv 3)) (blkOk_by (own := [("_law_spot", 8)]) (N := ["_law_sheet_here", "_law_told_here", "_law_x", "_law_spots", "_law_kind", "_law_arm", "_law_own", "_law_at", "_law_spot"]) (sc := defScope s__law_hole) (by decide +kernel)) (fun _ _ _ _ _ => (pg_name (i := 8) sc__law_hole.nd rfl (Or.inl rfl))) (fun _ _ _ _ _ => (pts_one (pt_cmpR op_eq (pe_ix (r := rIxT K) ix_tup (pv 8) pe_int (fun _ _ => rfl)) (pv 5) (nomark _)))) (fun _ _ _ _ _ => (pe_ix (r := rIxT K) ix_tup (pv 8) pe_int (fun _ _ => rfl))))
      (pss_one (ps_for PassesOwn.never rfl (pi_range1 rfl T.z_range (pa_cons (pe_callB (r := rLenQ K) (id := "len") call_len_seq (by rfl) T.z_len (by decide +kernel) (pa_cons (pv 6) pa_nil)) pa_nil)) (pg_name (i := 7) sc__law_hole.nd rfl (Or.inl rfl))
      (pss_one (ps_if (pt_cmpR op_ne (pe_bm PySem.F.plainAttrs_list PySem.F.slot_list_count PySem.F.type_list_count (mt_cntI (by exact hr.units)) (pv 6) (pa_cons (pv 7) pa_nil)) pe_int (nomark _)) (pss_one (ps_ret (pe_tup (pa_cons (pv 2) (pa_cons (pv 5) (pa_cons (pv 7) pa_nil)))))) pss_nil))))))
      (pss_one (ps_ret pe_non))))), ?_⟩
    obtain ⟨vs, b, h1, h2, h3, h4⟩ := hsh.up okP hx
    obtain ⟨xs, hxs, hR⟩ := id hL
    have ql : (foreB P x ++ [x]).length ≤ 400 := by have := foreB_len P x; simp; omega
    have qm := fun y (hy : y ∈ foreB P x ++ [x]) => (mem_up okP.rt hx y).mp hy
    tm_at "w"
    intro sp nsp
    have s0 : Same H (upd H sp (.lst [])) := Same.new (Same.refl H) nsp
    have h10 := s0 _ _ h1
    have h40 := s0 _ _ h4
    unfold objS at k
    generalize foreB P x ++ [x] = q at *
    have qv := natsV_len q
    tm_at "w"
    refine ⟨⟨_, SqT.of h40⟩, for_tup (K := K) (a := b) (xs := natsV q) (fun i σ H' => ∃ u c d e f us, (Same H H' ∧ H' sp = some (.lst us) ∧ RL (SpotV H') us (lotS L (q.take i))) ∧ σ = [some (.ref sh), some (.ref a), some (.int (x : Int)), some (.ref sp), u, c, d, e, f]) ?_ ?_ ?_ ?_⟩
    · exact ⟨_, _, _, _, _, [], ⟨s0, upd_same, RL.nil⟩, rfl⟩
    · rintro i σ H' _ ⟨_, _, _, _, _, _, ⟨g1, _⟩, _⟩
      exact SqT.of (g1 _ _ h4)
    · rintro i v σ H' hv ⟨u0, c0, d0, e0, f0, us, ⟨g1, g2, g3⟩, rfl⟩
      obtain ⟨y, hy, rfl, il⟩ := natsV_here hv
      have yl := isA_le okP.rt (qm y (List.mem_of_getElem? hy))
      obtain ⟨xs2, by_, ys, l1, l2, l3, l4, l5⟩ := hL.at (x := y) (by omega)
      have l1' := g1 _ _ l1
      have l4' := g1 _ _ l4
      have six' := six y
      have le := l5.1
      have usl := g3.1
      have lb := lotS_len six (q.take i)
      have h7 : (q.take i).length ≤ q.length := by rw [List.length_take]; omega
      have lb2 : 6 * (q.take i).length ≤ 6 * 400 := Nat.mul_le_mul_left 6 (by omega)
      have lt := lt_line (n := 90000) (by decide)
      tm_at "w"
      intro M nM
      have sM : Same H' (upd H' M (.lst ys)) := Same.new (Same.refl H') nM
      have g2M := sM _ _ g2
      tm_at "w"
      refine ⟨_, _, _, _, rfl, rfl, g2M, upd_same, by omega, ?_⟩
      refine ⟨_, _, _, _, _, us ++ ys, ⟨Same.mut (Same.trans g1 sM) nsp, upd_same, ?_⟩, rfl⟩
      have tk1 : TK H' (upd (upd H' M (.lst ys)) sp (.lst (us ++ ys))) := TK.trans (Same.tk sM) (TK.mut g2M)
      have tk0 : TK H (upd (upd H' M (.lst ys)) sp (.lst (us ++ ys))) := TK.trans (Same.tk g1) tk1
      rw [List.take_add_one, hy]
      show RL _ _ (lotS L (q.take i ++ [y]))
      rw [lotS_append, lotS_one]
      exact (g3.imp fun v s z => z.tk tk1).append (l5.imp fun v s z => z.tk tk0)
    · rintro σ H1 ⟨u0, c0, d0, e0, f0, us, ⟨g1, g2, g3⟩, rfl⟩
      rw [qv, List.take_length] at g3
      have lb := lotS_len six q
      have lb2 : 6 * q.length ≤ 6 * 400 := Nat.mul_le_mul_left 6 (by omega)
      have usl := g3.1
      have am : ∀ s ∈ lotS L q, s.1 < 6 := fun s hs => by
        obtain ⟨p, _, hp⟩ := List.mem_flatMap.mp hs
        by_cases hpl : p < L.length
        · have hp : s ∈ L.getD p [] := hp
          rw [List.getD_eq_getElem?_getD, List.getElem?_eq_getElem hpl] at hp
          have := of_decide_eq_true (List.all_eq_true.mp (List.all_eq_true.mp ar6 _ (List.getElem_mem hpl)) s hp)
          omega
        · have hp : s ∈ L.getD p [] := hp
          rw [List.getD_eq_getElem?_getD, List.getElem?_eq_none (by omega)] at hp
          cases hp
      generalize lotS L q = o at *
      tm_at "w"
      refine ⟨⟨_, SqL.of g2⟩, fun D nD => lc_listF (fun j => o[j]?.bind fun s => some (V.int ((s.1 : Nat) : Int))) g2 nD (by omega) ?_ ?_⟩
      · intro j v H2 N M hv s2 kN kM
        obtain ⟨s, hs, c, rfl, hc⟩ := g3.at hv
        have hc2 := s2 _ _ hc
        tm_at "w"
        exact kN _ _ (by rw [hs]; rfl) (Same.refl H2)
      intro H2 s2 hD
      rw [usl, range_bind, arms_fm] at hD
      tm_at "w"
      refine ⟨D, (o.map (·.1)).map fun z : Nat => (z : Int), rfl, SqL.of (by rw [List.map_map]; exact hD), by rw [List.length_map, List.length_map]; omega, fun Z c hc hks nZ => ?_⟩
      have hc6 : c ≤ 6 := by
        obtain ⟨ks, z1, z2, z3⟩ := hks
        rw [← z2]
        refine int_nodup_le z1 fun k hk => ?_
        obtain ⟨z, hz, e⟩ := List.mem_map.mp ((z3 k).mp hk)
        obtain ⟨s, hs, rfl⟩ := List.mem_map.mp hz
        have := am s hs
        omega
      refine ⟨Z, _, _, rfl, upd_same, by omega, fun ns p2 hs hmem hlen2 np => ?_⟩
      obtain ⟨A, rfl, hA6, hAp⟩ := nats_of hs (n := 6) fun x hx => by
        have := of_decide_eq_true ((hmem x).mp hx)
        obtain ⟨z, hz, e⟩ := List.mem_map.mp this
        obtain ⟨s, hs, rfl⟩ := List.mem_map.mp hz
        exact ⟨s.1, am s hs, e.symm⟩
      have memA : ∀ a, a ∈ A ↔ armI o a ≠ [] := fun a => by
        rw [armI_ne]
        constructor
        · intro h
          have := of_decide_eq_true ((hmem (a : Int)).mp (List.mem_map.mpr ⟨a, h, rfl⟩))
          obtain ⟨z, hz, e⟩ := List.mem_map.mp this
          rw [show a = z by omega]
          exact hz
        · intro h
          have := (hmem (a : Int)).mpr (decide_eq_true (List.mem_map.mpr ⟨a, h, rfl⟩))
          obtain ⟨z, hz, e⟩ := List.mem_map.mp this
          rw [show a = z by omega]
          exact hz
      obtain ⟨H4, e4, s4, hp2⟩ := new_hide (Same.new (o := .lst ((A.map fun z : Nat => (z : Int)).map V.int)) (Same.refl _) np)
      rw [e4]
      have s3 := Same.trans (Same.new s2 nZ) s4
      have hp2 : H4 p2 = some (.lst (natsV A)) := by rw [hp2, List.map_map]; rfl
      have av := natsV_len A
      have g24 := s3 _ _ g2
      have g34 := g3.imp fun v s z => SpotV.tk (H' := H4) z (Same.tk s3)
      have s14 := Same.trans g1 s3
      refine ⟨p2, rfl, ⟨_, SqL.of hp2⟩, for_list (K := K) (a := p2) (xs := natsV A) (fun j σ H' => ∃ c d e f, (Same H4 H' ∧ ∀ a ∈ A.take j, badI (armI o a) = none) ∧ σ = [some (.ref sh), some (.ref a), some (.int (x : Int)), some (.ref sp), u0, c, d, e, f]) ?_ ?_ ?_ ?_⟩
      · exact ⟨_, _, _, _, ⟨Same.refl H4, fun a ha => by simp at ha⟩, rfl⟩
      · rintro j σ H' _ ⟨_, _, _, _, ⟨s5, _⟩, _⟩
        exact SqL.of (s5 _ _ hp2)
      · rintro j v σ H' hv ⟨c1, d1, e1, f1, ⟨s5, h5⟩, rfl⟩
        obtain ⟨ar, har, rfl, jl⟩ := natsV_here hv
        have g25 := s5 _ _ g24
        tm_at "w"
        refine ⟨⟨_, SqL.of g25⟩, fun D2 nD2 => lc_listF (fun j => o[j]?.bind fun s => if s.1 = ar then some (V.int ((s.2 : Nat) : Int)) else none) g25 nD2 (by omega) ?_ ?_⟩
        · intro j v H6 N M hv s6 kN kM
          obtain ⟨⟨sa, si⟩, hs, c, rfl, hc⟩ := g34.at hv
          have hc : H4 c = some (.tup [V.int (sa : Int), V.int (si : Int)]) := hc
          have hc2 := s6 _ _ (s5 _ _ hc)
          tm_at "w"
          refine iteI (fun z => ?_) (fun z => ?_)
          · tm_at "w"
            exact kN _ _ (by rw [hs]; show (if sa = ar then _ else _) = _; rw [if_pos (by omega)]) (Same.refl H6)
          · exact kM _ (by rw [hs]; show (if sa = ar then _ else _) = _; rw [if_neg (by omega)]) (Same.refl H6)
        intro H6 s6 hD2
        rw [usl, range_bind, armI_fm] at hD2
        have ov := natsV_len (armI o ar)
        have ol : (armI o ar).length ≤ o.length := by
          unfold armI
          rw [List.length_map]
          exact List.length_filter_le _ _
        have s16 := Same.trans s14 (Same.trans s5 s6)
        tm_at "w"
        refine for_range (lo := 0) (n := (((natsV (armI o ar)).length : Nat) : Int).toNat) (fun i σ H' => ∃ e f, (Same H6 H' ∧ ∀ t, t < i → (armI o ar).count t = 1) ∧ σ = [some (.ref sh), some (.ref a), some (.int (x : Int)), some (.ref sp), u0, some (.int (ar : Int)), some (.ref D2), e, f]) ?_ ?_ ?_
        · exact ⟨_, _, ⟨Same.refl H6, fun t ht => by omega⟩, rfl⟩
        · rintro i σ H7 hi ⟨e2, f2, ⟨s7, h7⟩, rfl⟩
          rw [Int.zero_add]
          have hi : i < (armI o ar).length := by omega
          have hD7 := s7 _ _ hD2
          tm_at "w"
          refine ⟨D2, (armI o ar).map fun z : Nat => (z : Int), (i : Int), rfl, rfl, SqL.of (by rw [List.map_map]; exact hD7), by rw [List.length_map]; omega, ?_⟩
          rw [count_cast]
          tm_at "w"
          refine iteB (fun z => ?_) (fun z => ?_)
          · have ne : (armI o ar).count i ≠ 1 := fun e => by
              rw [e] at z
              simp at z
            have bad := badI_some (o := armI o ar) h7 hi ne
            tm_at "w"
            intro t nt
            refine k _ (some (ar, i)) _ (Same.new (Same.trans s16 s7) nt) ⟨bad, fun b2 lb => ?_⟩ ⟨t, rfl, upd_same⟩
            have lb : b2 < ar := lb
            cases ce : armI o b2 with
            | nil => rfl
            | cons y r =>
              rw [← ce]
              have hm := (memA b2).mpr (by rw [ce]; simp)
              obtain ⟨j2, hj2⟩ := List.mem_iff_getElem?.mp hm
              refine h5 b2 ?_
              obtain ⟨l2, e2⟩ := List.getElem?_eq_some_iff.mp hj2
              obtain ⟨l1, e1⟩ := List.getElem?_eq_some_iff.mp har
              have lj : j2 < j := by
                rcases Nat.lt_trichotomy j2 j with z | z | z
                · exact z
                · subst z
                  omega
                · have := List.pairwise_iff_getElem.mp hAp j j2 l1 l2 z
                  omega
              exact List.mem_iff_getElem?.mpr ⟨j2, by rw [List.getElem?_take_of_lt lj, hj2]⟩
          · have eq : (armI o ar).count i = 1 := by
              simp at z
              omega
            exact ⟨_, _, ⟨s7, fun t ht => by
              by_cases e : t = i
              · rw [e]
                exact eq
              · exact h7 t (by omega)⟩, rfl⟩
        · rintro σ H7 ⟨e2, f2, ⟨s7, h7⟩, rfl⟩
          refine ⟨_, _, _, _, ⟨Same.trans s5 (Same.trans s6 s7), fun a2 ha2 => ?_⟩, rfl⟩
          rw [List.take_add_one, har] at ha2
          rcases List.mem_append.mp ha2 with h | h
          · exact h5 a2 h
          · rw [List.mem_singleton.mp h]
            exact badI_none fun t ht => h7 t (by omega)
      · rintro σ H' ⟨c1, d1, e1, f1, ⟨s5, h5⟩, rfl⟩
        rw [av, List.take_length] at h5
        tm_at "w"
        refine k _ none _ (Same.trans s14 s5) (fun a2 => ?_) rfl
        cases ce : armI o a2 with
        | nil => rfl
        | cons z r =>
          rw [← ce]
          exact h5 a2 ((memA a2).mpr (by rw [ce]; simp))
/-! _law_first_hole -/
def sp__law_first_hole (K : PySem.W.Frag) : Sp := fun vs H Q _ => ∃ (sh a : Addr) (P : List (List Nat)) (L : List (List (Nat × Nat))), vs = [.ref sh, .ref a] ∧ ShAt H sh P ∧ OkP P ∧ LayAt H a L ∧ L.length = P.length ∧ P.length ≤ 400 ∧ (∀ i, (L.getD i []).length ≤ 6) ∧ armsB L 6 = true ∧
  ∀ v r H', Same H H' → FirstIs P L r → HolV H' v r → Q v H'
theorem sc__law_first_hole : FnScope ["_law_sheet_here", "_law_told_here", "_law_x", "_law_found"] ["_law_sheet_here", "_law_told_here"] (defScope s__law_first_hole) := ⟨rfl, rfl, rfl, by decide +kernel, rfl, by decide +kernel, by decide +kernel⟩
theorem ok__law_first_hole (T : Top P K mg) : FnOk P w K mg base CX0 2 T.f__law_first_hole T.fd__law_first_hole ["_law_sheet_here", "_law_told_here"] (sp__law_first_hole K) := by
  have G__law_hole := ok__law_hole (P := P) (w := w) (base := base) T
  refine T.F__law_first_hole.ok sc__law_first_hole (fun vs H Q E h => ?_) (fun cdv A outer s H vs Q E hr h => ?_)
  · obtain ⟨sh, a, P, L, rfl, _⟩ := h
    rfl
  · obtain ⟨sh, a, P, L, rfl, hsh, okP, hL, ll, few, six, ar6, k⟩ := h
    refine ⟨_, (pss_cons (ps_for PassesOwn.never rfl (pi_range1 rfl T.z_range (pa_cons (pe_callB (r := rLenQ K) (id := "len") call_len_seq (by rfl) T.z_len (by decide +kernel) (pa_cons (pv 0) pa_nil)) pa_nil)) (pg_name (i := 2) sc__law_first_hole.nd rfl (Or.inl rfl))
      (pss_cons (ps_set (i := 3) sc__law_first_hole.nd rfl (Or.inl rfl) (pe_call G__law_hole hr (by rfl) T.g__law_hole T.F__law_hole.kp T.b__law_hole .nil pass0 (pa_cons (pv 0) (pa_cons (pv 1) (pa_cons (pv 2) pa_nil)))))
      (pss_one (ps_if (pt_cmpR op_notN (pv 3) pe_non (nomark _)) (pss_one (ps_ret (pv 3))) pss_nil))))
      (pss_one (ps_ret pe_non))), ?_⟩
    obtain ⟨vs, h1, h2, h3⟩ := id hsh
    tm_at "w"
    refine for_range (lo := 0) (n := ((vs.length : Nat) : Int).toNat) (fun i σ H' => ∃ c d, (Same H H' ∧ ∀ y, y < i → HoleIs (objS P L y) none) ∧ σ = [some (.ref sh), some (.ref a), c, d]) ?_ ?_ ?_
    · exact ⟨_, _, ⟨Same.refl H, fun y hy => by omega⟩, rfl⟩
    · rintro i σ H1 hi ⟨c0, d0, ⟨s1, h1⟩, rfl⟩
      rw [Int.zero_add]
      have hi : i < P.length := by omega
      tm_at "w"
      refine ⟨sh, a, P, L, i, rfl, hsh.same s1, okP, hL.tk (Same.tk s1), ll, hi, few, six, ar6, fun v r H2 s2 hr hv => ?_⟩
      have s12 := Same.trans s1 s2
      cases r with
      | none =>
        cases hv
        tm_at "w"
        exact ⟨_, _, ⟨s12, fun y hy => by
          by_cases e : y = i
          · rw [e]
            exact hr
          · exact h1 y (by omega)⟩, rfl⟩
      | some s =>
        obtain ⟨t, rfl, ht⟩ := id hv
        tm_at "w"
        exact k _ (some (i, s)) _ s12 ⟨hi, hr, h1⟩ hv
    · rintro σ H1 ⟨c0, d0, ⟨s1, h1⟩, rfl⟩
      tm_at "w"
      exact k _ none _ s1 (fun x hx => h1 x (by omega)) rfl
/-! _law_poured -/
/-! ### slices of tuples, told -/
theorem slice_cut {K : PySem.W.Frag} {H : Hp} {a : Addr} {xs ys : List V} {lo hi : Option Int} {Q : VK} (hx : H a = some (.tup xs)) (e : cutV xs lo hi = ys)
    (k : ∀ p H', Same H H' → H' p = some (.tup ys) → Q (.ref p) H') : rSlA K (.ref a) lo hi H Q := by
  refine ⟨a, xs, rfl, SqT.of hx, fun z => k a H (Same.refl H) ?_, fun _ p np => k p _ (Same.new (Same.refl H) np) ?_⟩
  · rw [hx, ← e]
    unfold cutV
    rw [z.1, z.2, List.drop_zero, Nat.sub_zero, List.take_length]
  · rw [upd_same, e]
theorem cutV_take (xs : List V) (m : Nat) : cutV xs none (some (m : Int)) = xs.take m := by
  unfold cutV
  rw [HT.sIx_none, HT.sIx_nat, List.drop_zero, Nat.sub_zero]
  rcases Nat.le_total m xs.length with h | h
  · rw [Nat.min_eq_left h]
  · rw [Nat.min_eq_right h, List.take_length, List.take_of_length_le h]
theorem cutV_drop (xs : List V) (m : Nat) : cutV xs (some (m : Int)) none = xs.drop m := by
  unfold cutV
  rw [HT.sIx_none, HT.sIx_nat]
  rcases Nat.le_total m xs.length with h | h
  · rw [Nat.min_eq_left h, List.take_of_length_le (by rw [List.length_drop]; exact Nat.le_refl _)]
  · rw [Nat.min_eq_right h, Nat.sub_self, List.take_zero, List.drop_eq_nil_of_le h]
theorem cutV_init (xs : List V) (v : V) : cutV (xs ++ [v]) none (some (-1)) = xs := by
  have e : HT.sIx (xs ++ [v]).length (xs ++ [v]).length (some (-1)) = xs.length := by
    show (if (-1 : Int) < 0 then (-1 + ((xs ++ [v]).length : Int)).toNat else min (-1 : Int).toNat (xs ++ [v]).length) = _
    rw [if_pos (by omega), List.length_append, List.length_singleton]
    omega
  unfold cutV
  rw [e, HT.sIx_none, List.drop_zero, Nat.sub_zero, List.take_append_of_le_length (Nat.le_refl _), List.take_length]
theorem tNoPart_at' {σ : St} {H : Hp} {Q : Option Int → Hp → Prop} (h : Q none H) : tNoPart σ H Q := h
theorem tC_at2 {v : V} {σ : St} {H : Hp} {Q : VK} (h : Q v H) : tC v σ H Q := h
/-! ### pouring fields onto arms -/
def PourR (L : List (List (Nat × Nat))) (q : List Nat) (l : List (Nat × Nat)) : Prop := ∀ a, armI l a = List.range' (armI (lotS L q) a).length (armI l a).length
def Pour (P : List (List Nat)) (F : List Nat) (m i : Nat) (L : List (List (Nat × Nat))) : Prop :=
  L.length = i ∧ (∀ j, j < i → (L.getD j []).length = F.getD j 0) ∧ armsB L m = true ∧ ∀ x, x < i → PourR L (foreB P x) (L.getD x [])
theorem getD_left {α : Type} {L M : List α} {j : Nat} {d : α} (h : j < L.length) : (L ++ M).getD j d = L.getD j d := by
  rw [List.getD_eq_getElem?_getD, List.getD_eq_getElem?_getD, List.getElem?_append_left h]
theorem getD_last {α : Type} {L : List α} {x d : α} : (L ++ [x]).getD L.length d = x := by
  rw [List.getD_eq_getElem?_getD, List.getElem?_append_right (Nat.le_refl _), Nat.sub_self]
  rfl
theorem lotS_left {L M : List (List (Nat × Nat))} : ∀ {q : List Nat}, (∀ p ∈ q, p < L.length) → lotS (L ++ M) q = lotS L q
  | [], _ => rfl
  | p :: r, h => by
    rw [show p :: r = [p] ++ r from rfl, lotS_append, lotS_append, lotS_one, lotS_one, getD_left (h p List.mem_cons_self), lotS_left fun z hz => h z (List.mem_cons_of_mem _ hz)]
theorem Pour.snoc {P : List (List Nat)} {F : List Nat} {m i : Nat} {L : List (List (Nat × Nat))} {l : List (Nat × Nat)} (h : Pour P F m i L) (hl : l.length = F.getD i 0) (ha : ∀ s ∈ l, s.1 < m) (hr : PourR L (foreB P i) l) : Pour P F m (i + 1) (L ++ [l]) := by
  obtain ⟨h1, h2, h3, h4⟩ := h
  have fl : ∀ x, x ≤ i → ∀ p ∈ foreB P x, p < L.length := fun x hx p hp => by
    have := (mem_foreB.mp hp).1
    omega
  refine ⟨by rw [List.length_append, h1]; rfl, fun j hj => ?_, ?_, fun x hx a => ?_⟩
  · by_cases e : j = i
    · subst e
      rw [← h1, getD_last, h1]
      exact hl
    · rw [getD_left (by omega)]
      exact h2 j (by omega)
  · unfold armsB at h3 ⊢
    rw [List.all_append, h3, List.all_cons, List.all_nil, Bool.and_true, Bool.true_and]
    exact List.all_eq_true.mpr fun s hs => decide_eq_true (by have := ha s hs; omega)
  · rw [lotS_left (fl x (by omega))]
    by_cases e : x = i
    · subst e
      rw [← h1, getD_last, h1]
      exact hr a
    · rw [getD_left (by omega)]
      exact h4 x (by omega) a
theorem PourR.nil {L : List (List (Nat × Nat))} {q : List Nat} : PourR L q [] := fun a => rfl
theorem PourR.more {L : List (List (Nat × Nat))} {q : List Nat} {l : List (Nat × Nat)} (h : PourR L q l) (a : Nat) : PourR L q (l ++ [(a, (armI l a).length + (armI (lotS L q) a).length)]) := fun b => by
  by_cases e : b = a
  · subst e
    rw [armI_one, List.length_append, List.length_singleton, List.range'_concat, ← h b]
    congr 2
    omega
  · rw [armI_other _ _ e]
    exact h b
theorem arm_len {R : V → Nat × Nat → Prop} {us : List V} {l : List (Nat × Nat)} (h : RL R us l) (a : Nat) : ((List.range us.length).filterMap fun j => l[j]?.bind fun s => if s.1 = a then us[j]? else none).length = (armI l a).length := by
  have e := congrArg List.length (armI_fm l a)
  rw [natsV_len, ← range_bind, List.length_filterMap_eq_countP] at e
  rw [← e, List.length_filterMap_eq_countP, h.1]
  refine List.countP_congr fun j hj => ?_
  have hj := List.mem_range.mp hj
  have hu : us[j]? = some (us[j]'(by have := h.1; omega)) := List.getElem?_eq_getElem _
  rw [List.getElem?_eq_getElem hj, hu]
  show (if l[j].1 = a then some (us[j]'(by have := h.1; omega)) else none).isSome = true ↔ (if l[j].1 = a then some (V.int ((l[j].2 : Nat) : Int)) else none).isSome = true
  by_cases z : l[j].1 = a
  · rw [if_pos z, if_pos z]
    exact Iff.rfl
  · rw [if_neg z, if_neg z]
theorem Pour.all {P : List (List Nat)} {F : List Nat} {m : Nat} {L : List (List (Nat × Nat))} (h : Pour P F m P.length L) (fl : F.length = P.length) : Fits L F ∧ armsB L m = true ∧ Poured P L :=
  ⟨⟨by rw [h.1, fl], fun i hi => h.2.1 i (by omega)⟩, h.2.2.1, fun x hx => h.2.2.2 x hx⟩
def sp__law_poured (K : PySem.W.Frag) : Sp := fun vs H Q _ => ∃ (τ : Tp) (sh f : Addr) (P : List (List Nat)) (F : List Nat) (m : Nat), vs = [.ref τ.t, .ref sh, .ref f, .int m] ∧ Tape τ H ∧ ShAt H sh P ∧ sh ≠ τ.t ∧ OkP P ∧ P.length ≤ 63 ∧ H f = some (.tup (natsV F)) ∧ F.length = P.length ∧ (∀ x ∈ F, x ≤ 6) ∧ 1 ≤ m ∧ m ≤ 6 ∧
  ∀ a L H', Mv τ H H' → LayAt H' a L → Fits L F → armsB L m = true → Poured P L → Q (.ref a) H'
theorem sc__law_poured : FnScope ["_law_hand_here", "_law_sheet_here", "_law_brought_here", "_law_arms", "_law_found", "_law_x", "_law_own", "_law_turn", "_law_arm", "_law_many", "_law_kind", "_law_spot"] ["_law_hand_here", "_law_sheet_here", "_law_brought_here", "_law_arms"] (defScope s__law_poured) := ⟨rfl, rfl, rfl, by decide +kernel, rfl, by decide +kernel, by decide +kernel⟩
theorem ok__law_poured (T : Top P K mg) : FnOk P w K mg base CX0 2 T.f__law_poured T.fd__law_poured ["_law_hand_here", "_law_sheet_here", "_law_brought_here", "_law_arms"] (sp__law_poured K) := by
  have G__law_draw := ok__law_draw (P := P) (w := w) (base := base) T
  refine T.F__law_poured.ok sc__law_poured (fun vs H Q E h => ?_) (fun cdv A outer s H vs Q E hr h => ?_)
  · obtain ⟨τ, sh, f, P, F, m, rfl, _⟩ := h
    rfl
  · obtain ⟨τ, sh, f, P, F, m, rfl, t0, hsh, nsh, okP, few, hf, fl, f6, hm1, hm6, k⟩ := h
    refine ⟨_, (pss_cons (ps_set (i := 4) sc__law_poured.nd rfl (Or.inl rfl) (pe_lst pa_nil))
      (pss_cons (ps_for PassesOwn.never rfl (pi_range1 rfl T.z_range (pa_cons (pe_callB (r := rLenQ K) (id := "len") call_len_seq (by rfl) T.z_len (by decide +kernel) (pa_cons (pv 1) pa_nil)) pa_nil)) (pg_name (i := 5) sc__law_poured.nd rfl (Or.inl rfl))
      (pss_cons (ps_set (i := 6) sc__law_poured.nd rfl (Or.inl rfl) (pe_lst pa_nil))
      (pss_cons (ps_for PassesOwn.never rfl (pi_range1 rfl T.z_range (pa_cons (pe_ix (r := rIxT K) ix_tup (pv 2) (pv 5) (fun _ _ => rfl)) pa_nil)) (pg_name (i := 7) sc__law_poured.nd rfl (Or.inl rfl))
      (pss_cons (ps_set (i := 8) sc__law_poured.nd rfl (Or.inr rfl) (pe_call G__law_draw hr (by rfl) T.g__law_draw T.F__law_draw.kp T.b__law_draw .nil pass0 (pa_cons (pv 0) (pa_cons (pv 3) pa_nil))))
      (pss_cons (ps_set (i := 9) sc__law_poured.nd rfl (Or.inl rfl) (pe_callB (r := rLenQ K) (id := "len") call_len_seq (by rfl) T.z_len (by decide +kernel) (pa_cons (pe_lc (own := [("_law_spot", 11)]) (g := gName 11) rfl sc__law_poured.nd (pi_list (pv 6)) (blkOk_by (own := [("_law_spot", 11)]) (N := ["_law_hand_here", "_law_sheet_here", "_law_brought_here", "_law_arms", "_law_found", "_law_x", "_law_own", "_law_turn", "_law_arm", "_law_many", "_law_kind", "_law_spot"]) (sc := defScope s__law_poured) (by decide +kernel)) (fun _ _ _ _ _ => (pg_name (i := 11) sc__law_poured.nd rfl (Or.inl rfl))) (fun _ _ _ _ _ => (pts_one (pt_cmpR op_eq (pe_ix (r := rIxT K) ix_tup (pv 11) pe_int (fun _ _ => rfl)) (pv 8) (nomark _)))) (fun _ _ _ _ _ => (pv 11))) pa_nil)))
      (pss_cons (ps_for PassesOwn.never rfl (pi_tup (pe_slice sl_tupA (pe_ix (r := rIxL K) ix_list (pv 1) (pv 5) (fun _ _ => rfl)) po_none (po_some (pe_un un_neg pe_int)))) (pg_name (i := 10) sc__law_poured.nd rfl (Or.inl rfl))
      (pss_one (ps_set (i := 9) sc__law_poured.nd rfl (Or.inl rfl) (pe_op op_add (pv 9) (pe_callB (r := rLenQ K) (id := "len") call_len_seq (by rfl) T.z_len (by decide +kernel) (pa_cons (pe_lc (own := [("_law_spot", 11)]) (g := gName 11) rfl sc__law_poured.nd (pi_tup (pe_ix (r := rIxL K) ix_list (pv 4) (pv 10) (fun _ _ => rfl))) (blkOk_by (own := [("_law_spot", 11)]) (N := ["_law_hand_here", "_law_sheet_here", "_law_brought_here", "_law_arms", "_law_found", "_law_x", "_law_own", "_law_turn", "_law_arm", "_law_many", "_law_kind", "_law_spot"]) (sc := defScope s__law_poured) (by decide +kernel)) (fun _ _ _ _ _ => (pg_name (i := 11) sc__law_poured.nd rfl (Or.inl rfl))) (fun _ _ _ _ _ => (pts_one (pt_cmpR op_eq (pe_ix (r := rIxT K) ix_tup (pv 11) pe_int (fun _ _ => rfl)) (pv 8) (nomark _)))) (fun _ _ _ _ _ => (pv 11))) pa_nil))))))
      (pss_one (ps_expr (pe_bm PySem.F.plainAttrs_list PySem.F.slot_list_append PySem.F.type_list_append mt_append (pv 6) (pa_cons (pe_tup (pa_cons (pv 8) (pa_cons (pv 9) pa_nil))) pa_nil))))))))
      (pss_one (ps_expr (pe_bm PySem.F.plainAttrs_list PySem.F.slot_list_append PySem.F.type_list_append mt_append (pv 4) (pa_cons (pe_callTy (r := rTupQ K) (T := "tuple") call_tuple_of (by rfl) T.z_tuple (by decide +kernel) (pa_cons (pv 6) pa_nil)) pa_nil)))))))
      (pss_one (ps_ret (pe_callTy (r := rTupQ K) (T := "tuple") call_tuple_of (by rfl) T.z_tuple (by decide +kernel) (pa_cons (pv 4) pa_nil)))))), ?_⟩
    obtain ⟨vs, h1, h2, h3⟩ := id hsh
    have fv := natsV_len F
    tm_at "w"
    intro G nG
    have nGt := t0.mv.neN nG
    have m0 := t0.mv.new (o := .lst []) nG
    have h10 := m0.keep _ _ nsh h1
    tm_at "w"
    refine for_range (lo := 0) (n := ((vs.length : Nat) : Int).toNat) (fun i σ H' => ∃ c d e f2 g u2 w2 gs L, (Mv τ H H' ∧ H' G = some (.lst gs) ∧ RL (SpotsAt H') gs L ∧ Pour P F m i L) ∧ σ = [some (.ref τ.t), some (.ref sh), some (.ref f), some (.int (m : Int)), some (.ref G), c, d, e, f2, g, u2, w2]) ?_ ?_ ?_
    · exact ⟨_, _, _, _, _, _, _, [], [], ⟨m0, upd_same, RL.nil, rfl, (fun j hj => by omega), rfl, (fun x hx => by omega)⟩, rfl⟩
    · rintro i σ H1 hi ⟨c0, d0, e0, f0, g0, u0, w0, gs, L, ⟨m1, hG1, rl1, po⟩, rfl⟩
      rw [Int.zero_add]
      have hi : i < P.length := by omega
      obtain ⟨vs2, b, b1, b2, b3, b4⟩ := hsh.up okP hi
      have fG : F[i]? = some (F.getD i 0) := by
        rw [List.getD_eq_getElem?_getD, List.getElem?_eq_getElem (by omega)]
        rfl
      have fi6 : F.getD i 0 ≤ 6 := f6 _ (List.mem_of_getElem? fG)
      generalize F.getD i 0 = n at fG fi6
      tm_at "w"
      intro w nw
      have nwt := m1.neN nw
      have nw0 := m1.free nw
      have m2 := m1.new (o := .lst []) nw
      have hf2 := m2.atT hf
      have nGw : G ≠ w := fun e => by rw [← e, hG1] at nw; cases nw
      have hFi : (natsV F)[i]? = some (.int (n : Int)) := by
        unfold natsV
        rw [List.getElem?_map, fG]
        rfl
      tm_at "w"
      have h3' := h3
      refine for_range (lo := 0) (n := ((n : Nat) : Int).toNat) (fun t σ H' => ∃ g7 a8 m9 k10 s11 us l, (Mv τ H H' ∧ H' G = some (.lst gs) ∧ RL (SpotsAt H') gs L ∧ H' w = some (.lst us) ∧ RL (SpotV H') us l ∧ l.length = t ∧ (∀ s ∈ l, s.1 < m) ∧ PourR L (foreB P i) l) ∧ σ = [some (.ref τ.t), some (.ref sh), some (.ref f), some (.int (m : Int)), some (.ref G), some (.int (i : Int)), some (.ref w), g7, a8, m9, k10, s11]) ?_ ?_ ?_
      · exact ⟨_, _, _, _, _, [], [], ⟨m2, (upd_ne nGw).trans hG1, rl1.imp fun v s z => z.tk (TK.new nw), upd_same, RL.nil, rfl, (fun s hs => by cases hs), PourR.nil⟩, rfl⟩
      · rintro t σ H3 ht ⟨g7, a8, m9, k10, s11, us, l, ⟨m3, hG3, rl3, hw3, ru3, lt3, ar3, pr3⟩, rfl⟩
        rw [Int.zero_add]
        have ht : t < n := by omega
        have usl := ru3.1
        tm_at "w"
        refine ⟨τ, _, rfl, m3.now, by omega, by omega, fun r H4 m4 r0 r1 => ?_⟩
        obtain ⟨ar, rfl⟩ : ∃ k : Nat, r = k := ⟨r.toNat, by omega⟩
        have m34 := m3.trans m4
        have nGt' : G ≠ τ.t := nGt
        have hG4 := m4.keep _ _ nGt hG3
        have hw4 := m4.keep _ _ nwt hw3
        have rl4 := rl3.imp fun v s z => SpotsAt.tk (H' := H4) z m4.tk
        have ru4 := ru3.imp fun v s z => SpotV.tk (H' := H4) z m4.tk
        tm_at "w"
        refine ⟨⟨_, SqL.of hw4⟩, fun D nD => lc_listF (fun j => l[j]?.bind fun s => if s.1 = ar then us[j]? else none) hw4 nD (by omega) ?_ ?_⟩
        · intro j v H6 N M hv s6 kN kM
          obtain ⟨⟨sa, si⟩, hs, c, rfl, hc⟩ := ru4.at hv
          have hc : H4 c = some (.tup [V.int (sa : Int), V.int (si : Int)]) := hc
          have hc2 := s6 _ _ hc
          tm_at "w"
          refine iteI (fun z => ?_) (fun z => ?_)
          · tm_at "w"
            exact kN _ _ (by rw [hs]; show (if sa = ar then _ else _) = _; rw [if_pos (by omega), hv]) (Same.refl H6)
          · exact kM _ (by rw [hs]; show (if sa = ar then _ else _) = _; rw [if_neg (by omega)]) (Same.refl H6)
        intro H6 s6 hD
        have dl := arm_len ru4 ar
        generalize (List.range us.length).filterMap (fun j => l[j]?.bind fun s => if s.1 = ar then us[j]? else none) = ds at hD dl
        have m36 := m34.same s6
        have b16 := m36.keep _ _ nsh b1
        have b46 := m36.atT b4
        tm_at "w"
        refine slice_cut (ys := natsV (foreB P i)) b46 (by rw [← natsV_snocL]; exact cutV_init _ _) fun p7 H7 s7 hp7 => ?_
        have m37 := m36.same s7
        have s47 := Same.trans s6 s7
        have hG7 := s47 _ _ hG4
        have hw7 := s47 _ _ hw4
        have rl7 := rl4.imp fun v s z => SpotsAt.tk (H' := H7) z (Same.tk s47)
        have ru7 := ru4.imp fun v s z => SpotV.tk (H' := H7) z (Same.tk s47)
        have pv := natsV_len (foreB P i)
        have fle := foreB_len P i
        have Ll := po.1
        have gsl := rl7.1
        rw [dl]
        refine ⟨p7, rfl, ⟨_, SqT.of hp7⟩, for_tup (K := K) (a := p7) (xs := natsV (foreB P i)) (fun j σ H' => ∃ k10 s11, (Same H7 H') ∧ σ = [some (.ref τ.t), some (.ref sh), some (.ref f), some (.int (m : Int)), some (.ref G), some (.int (i : Int)), some (.ref w), some (.int (t : Int)), some (.int (ar : Int)), some (.int (((armI l ar).length + (armI (lotS L ((foreB P i).take j)) ar).length : Nat) : Int)), k10, s11]) ?_ ?_ ?_ ?_⟩
        · exact ⟨_, _, Same.refl H7, rfl⟩
        · rintro j σ H' _ ⟨_, _, s8, _⟩
          exact SqT.of (s8 _ _ hp7)
        · rintro j v σ H8 hv ⟨k10, s11, s8, rfl⟩
          obtain ⟨y, hy, rfl, jl⟩ := natsV_here hv
          have yl := (mem_foreB.mp (List.mem_of_getElem? hy)).1
          have eLy : L[y]? = some (L.getD y []) := by
            rw [List.getD_eq_getElem?_getD, List.getElem?_eq_getElem (by omega)]
            rfl
          obtain ⟨v2, hv2, by_, ys, rfl, hby, rys⟩ := rl7.at' eLy
          have hG8 := s8 _ _ hG7
          have hby8 := s8 _ _ hby
          have ysl := rys.1
          have lyl : (L.getD y []).length = F.getD y 0 := po.2.1 y (by omega)
          have fy6 : F.getD y 0 ≤ 6 := by
            refine f6 _ ?_
            rw [List.getD_eq_getElem?_getD, List.getElem?_eq_getElem (by omega)]
            exact List.getElem_mem _
          tm_at "w"
          refine ⟨⟨_, SqT.of hby8⟩, fun D9 nD9 => lc_tupF (fun j => (L.getD y [])[j]?.bind fun s => if s.1 = ar then ys[j]? else none) hby8 nD9 (by omega) ?_ ?_⟩
          · intro j2 v H9 N M hv s9 kN kM
            obtain ⟨⟨sa, si⟩, hs, c, rfl, hc⟩ := rys.at hv
            have hc : H7 c = some (.tup [V.int (sa : Int), V.int (si : Int)]) := hc
            have hc2 := s9 _ _ (s8 _ _ hc)
            tm_at "w"
            refine iteI (fun z => ?_) (fun z => ?_)
            · tm_at "w"
              exact kN _ _ (by rw [hs]; show (if sa = ar then _ else _) = _; rw [if_pos (by omega), hv]) (Same.refl H9)
            · exact kM _ (by rw [hs]; show (if sa = ar then _ else _) = _; rw [if_neg (by omega)]) (Same.refl H9)
          intro H9 s9 hD9
          have dl9 := arm_len rys ar
          generalize (List.range ys.length).filterMap (fun j => (L.getD y [])[j]?.bind fun s => if s.1 = ar then ys[j]? else none) = d9 at hD9 dl9
          tm_at "w"
          rw [dl9]
          refine ⟨some (.int (y : Int)), s11, Same.trans s8 s9, ?_⟩
          have e9 : (armI (lotS L ((foreB P i).take (j + 1))) ar).length = (armI (lotS L ((foreB P i).take j)) ar).length + (armI (L.getD y []) ar).length := by
            rw [List.take_add_one, hy]
            show (armI (lotS L ((foreB P i).take j ++ [y])) ar).length = _
            rw [lotS_append, lotS_one, armI_append, List.length_append]
          rw [e9]
          simp only [List.set_cons_zero, List.set_cons_succ]
          rw [show (((armI l ar).length + (armI (lotS L ((foreB P i).take j)) ar).length : Nat) : Int) + ((armI (L.getD y []) ar).length : Int) = (((armI l ar).length + ((armI (lotS L ((foreB P i).take j)) ar).length + (armI (L.getD y []) ar).length) : Nat) : Int) by omega]
        · rintro σ H8 ⟨k10, s11, s8, rfl⟩
          rw [pv, List.take_length]
          have m38 := m37.same s8
          have hw8 := s8 _ _ hw7
          tm_at "w"
          intro p np
          have hw9 := (Same.new (o := .tup [V.int (ar : Int), V.int (((armI l ar).length + (armI (lotS L (foreB P i)) ar).length : Nat) : Int)]) (Same.refl H8) np) _ _ hw8
          have s8p := Same.new (o := .tup [V.int (ar : Int), V.int (((armI l ar).length + (armI (lotS L (foreB P i)) ar).length : Nat) : Int)]) s8 np
          have hp9 : upd H8 p (.tup [V.int (ar : Int), V.int (((armI l ar).length + (armI (lotS L (foreB P i)) ar).length : Nat) : Int)]) p = some _ := upd_same
          have npw : p ≠ w := fun e => by rw [e, hw8] at np; cases np
          have nGp := s8p _ _ hG7
          have us6 : us.length < sizeLine := by have := lt_line (n := 90000) (by decide); omega
          generalize hJ : upd H8 p (.tup [V.int (ar : Int), V.int (((armI l ar).length + (armI (lotS L (foreB P i)) ar).length : Nat) : Int)]) = J at hw9 s8p hp9 nGp
          have mJ : Mv τ H J := by
            rw [← hJ]
            exact m38.new np
          tm_at "w"
          have tk : TK H7 (upd J w (.lst (us ++ [.ref p]))) := TK.trans (Same.tk s8p) (TK.mut hw9)
          refine ⟨_, _, _, _, _, us ++ [.ref p], l ++ [(ar, (armI l ar).length + (armI (lotS L (foreB P i)) ar).length)], ⟨mJ.mut nw0, (upd_ne nGw).trans nGp, rl7.imp fun v s z => z.tk tk, upd_same, (ru7.imp fun v s z => z.tk tk).snoc ⟨p, rfl, (upd_ne npw).trans hp9⟩, by rw [List.length_append, lt3]; rfl, fun s hs => ?_, pr3.more ar⟩, rfl⟩
          rcases List.mem_append.mp hs with h | h
          · exact ar3 s h
          · rw [List.mem_singleton.mp h]
            show ar < m
            omega
      · rintro σ H3 ⟨g7, a8, m9, k10, s11, us, l, ⟨m3, hG3, rl3, hw3, ru3, lt3, ar3, pr3⟩, rfl⟩
        have lt3 : l.length = n := by omega
        have usl := ru3.1
        tm_at "w"
        intro t nt
        have hG4 := (Same.new (o := .tup us) (Same.refl H3) nt) _ _ hG3
        have gl : gs.length < sizeLine := by
          have := lt_line (n := 90000) (by decide)
          have := rl3.1
          have := po.1
          omega
        have ntG : t ≠ G := fun e => by rw [e, hG3] at nt; cases nt
        tm_at "w"
        unfold tNil
        refine ⟨_, _, _, rfl, rfl, hG4, gl, ?_⟩
        have tk : TK H3 (upd (upd H3 t (.tup us)) G (.lst (gs ++ [.ref t]))) := TK.trans (TK.new nt) (TK.mut hG4)
        refine ⟨_, _, _, _, _, _, _, gs ++ [.ref t], L ++ [l], ⟨(m3.new nt).mut nG, upd_same, (rl3.imp fun v s z => SpotsAt.tk z tk).snoc ⟨t, us, rfl, (upd_ne ntG).trans upd_same, ru3.imp fun v s z => z.tk tk⟩, po.snoc (by rw [lt3, List.getD_eq_getElem?_getD, fG]; rfl) ar3 pr3⟩, rfl⟩
    · rintro σ H1 ⟨c0, d0, e0, f0, g0, u0, w0, gs, L, ⟨m1, hG1, rl1, po⟩, rfl⟩
      have ev : ((vs.length : Nat) : Int).toNat = P.length := by omega
      rw [ev] at po
      obtain ⟨ft, ar, pr⟩ := po.all fl
      tm_at "w"
      intro t nt
      exact k t L _ (m1.new nt) ⟨gs, upd_same, rl1.imp fun v s z => SpotsAt.tk (H' := _) z (TK.new nt)⟩ ft ar pr
/-! _law_is_whole -/
def sp__law_is_whole (K : PySem.W.Frag) : Sp := fun vs H Q _ => ∃ v, vs = [v] ∧ IntK K H v ∧ Q (.bl (isIntB v)) H
theorem sc__law_is_whole : FnScope ["_law_thing"] ["_law_thing"] (defScope s__law_is_whole) := ⟨rfl, rfl, rfl, by decide +kernel, rfl, by decide +kernel, by decide +kernel⟩
theorem ok__law_is_whole (T : Top P K mg) : FnOk P w K mg base CX0 1 T.f__law_is_whole T.fd__law_is_whole ["_law_thing"] (sp__law_is_whole K) := by
  refine T.F__law_is_whole.ok sc__law_is_whole (fun vs H Q E h => ?_) (fun cdv A outer s H vs Q E hr h => ?_)
  · obtain ⟨v, rfl, _⟩ := h
    rfl
  · obtain ⟨v, rfl, ⟨t, bi, bb, ht, hi, hb, e⟩, k⟩ := h
    refine ⟨_, (pss_one (ps_ret (pe_and (pe_callB (r := rIsi K) (id := "isinstance") call_isi (by rfl) T.z_isinstance (by decide +kernel) (pa_cons (pv 0) (pa_cons (pe_bltn (v := .ty "int") (u := .type "int") (by rfl) T.z_int (by decide +kernel) rfl) pa_nil))) (pe_one (pe_not (pe_callB (r := rIsi K) (id := "isinstance") call_isi (by rfl) T.z_isinstance (by decide +kernel) (pa_cons (pv 0) (pa_cons (pe_bltn (v := .ty "bool") (u := .type "bool") (by rfl) T.z_bool (by decide +kernel) rfl) pa_nil)))))))), ?_⟩
    tm_at "w"
    cases bi with
    | false =>
      rw [← e] at k
      tm_at "w"
      exact k
    | true =>
      rw [← e] at k
      tm_at "w"
      exact k
/-! _law_has_places -/
def sp__law_has_places (C : Addr) (K : PySem.W.Frag) : Sp := fun vs H Q _ => ∃ (f : Addr) (F : List Nat) (m : Int) (v : V) (z : Addr), vs = [.ref f, .int m, v] ∧ H f = some (.tup (natsV F)) ∧ F.length ≤ 400 ∧ KitC K C ∧ Th C z H 3 v ∧ ∀ H', Same H H' → Q (.bl (plsB H F m v)) H'
theorem sc__law_has_places : FnScope ["_law_brought_here", "_law_arms", "_law_thing", "_law_number", "_law_spots", "_law_spot", "_law_one"] ["_law_brought_here", "_law_arms", "_law_thing"] (defScope s__law_has_places) := ⟨rfl, rfl, rfl, by decide +kernel, rfl, by decide +kernel, by decide +kernel⟩
theorem ok__law_has_places (T : Top P K mg) : FnOk P w K mg base CX0 2 T.f__law_has_places T.fd__law_has_places ["_law_brought_here", "_law_arms", "_law_thing"] (sp__law_has_places T.C_Book K) := by
  have G__law_is_whole := ok__law_is_whole (P := P) (w := w) (base := base) T
  refine T.F__law_has_places.ok sc__law_has_places (fun vs H Q E h => ?_) (fun cdv A outer s H vs Q E hr h => ?_)
  · obtain ⟨f, F, m, v, z, rfl, _⟩ := h
    rfl
  · obtain ⟨f, F, m, v, z, rfl, hf, f400, kc, ht, k⟩ := h
    refine ⟨_, (pss_cons (ps_if (PW.pt (pw_or (pt_not (pt_val (pe_callB (r := rIsi K) (id := "isinstance") call_isi (by rfl) T.z_isinstance (by decide +kernel) (pa_cons (pv 2) (pa_cons (pe_bltn (v := .ty "tuple") (u := .type "tuple") (by rfl) T.z_tuple (by decide +kernel) rfl) pa_nil))))) (pw_or1 (pt_cmpR op_ne (pe_callB (r := rLenQ K) (id := "len") call_len_seq (by rfl) T.z_len (by decide +kernel) (pa_cons (pv 2) pa_nil)) (pe_callB (r := rLenQ K) (id := "len") call_len_seq (by rfl) T.z_len (by decide +kernel) (pa_cons (pv 0) pa_nil)) (nomark _))))) (pss_one (ps_ret pe_bl)) pss_nil)
      (pss_cons (ps_for PassesOwn.never rfl (RZ.pi_zipA (by rfl) T.z_zip (pa_cons (pv 0) (pa_cons (pv 2) pa_nil))) (pg_tup rfl (pgs_cons (pg_name (i := 3) sc__law_has_places.nd rfl (Or.inl rfl)) (pgs_cons (pg_name (i := 4) sc__law_has_places.nd rfl (Or.inl rfl)) pgs_nil)))
      (pss_cons (ps_if (PW.pt (pw_or (pt_not (pt_val (pe_callB (r := rIsi K) (id := "isinstance") call_isi (by rfl) T.z_isinstance (by decide +kernel) (pa_cons (pv 4) (pa_cons (pe_bltn (v := .ty "tuple") (u := .type "tuple") (by rfl) T.z_tuple (by decide +kernel) rfl) pa_nil))))) (pw_or1 (pt_cmpR op_ne (pe_callB (r := rLenQ K) (id := "len") call_len_seq (by rfl) T.z_len (by decide +kernel) (pa_cons (pv 4) pa_nil)) (pv 3) (nomark _))))) (pss_one (ps_ret pe_bl)) pss_nil)
      (pss_one (ps_for PassesOwn.never rfl (pi_tup (pv 4)) (pg_name (i := 5) sc__law_has_places.nd rfl (Or.inl rfl))
      (pss_cons (ps_if (PW.pt (pw_or (pt_not (pt_val (pe_callB (r := rIsi K) (id := "isinstance") call_isi (by rfl) T.z_isinstance (by decide +kernel) (pa_cons (pv 5) (pa_cons (pe_bltn (v := .ty "tuple") (u := .type "tuple") (by rfl) T.z_tuple (by decide +kernel) rfl) pa_nil))))) (pw_or (pt_cmpR op_ne (pe_callB (r := rLenQ K) (id := "len") call_len_seq (by rfl) T.z_len (by decide +kernel) (pa_cons (pv 5) pa_nil)) pe_int (nomark _)) (pw_or1 (pt_not (pt_val (pe_callB (r := rAll K) (id := "all") (cr_all rfl) (by rfl) T.z_all (by decide +kernel) (pa_cons (pe_lc (own := [("_law_one", 6)]) (g := gName 6) (tt := tYes) rfl sc__law_has_places.nd (pi_tup (pv 5)) (blkOk_by (own := [("_law_one", 6)]) (N := ["_law_brought_here", "_law_arms", "_law_thing", "_law_number", "_law_spots", "_law_spot", "_law_one"]) (sc := defScope s__law_has_places) (by decide +kernel)) (fun _ _ _ _ _ => (pg_name (i := 6) sc__law_has_places.nd rfl (Or.inl rfl))) (fun _ _ _ _ _ => pts_nil) (fun _ _ _ _ _ => (pe_call G__law_is_whole hr (by rfl) T.g__law_is_whole T.F__law_is_whole.kp T.b__law_is_whole .nil pass0 (pa_cons (pv 6) pa_nil)))) pa_nil)))))))) (pss_one (ps_ret pe_bl)) pss_nil)
      (pss_one (ps_if (PW.pt (pw_or (pt_not (pt_chain op_le op_lt pe_int (pe_ix (r := rIxT K) ix_tup (pv 5) pe_int (fun _ _ => rfl)) (pv 1))) (pw_or1 (pt_cmpR op_lt (pe_ix (r := rIxT K) ix_tup (pv 5) pe_int (fun _ _ => rfl)) pe_int (nomark _))))) (pss_one (ps_ret pe_bl)) pss_nil)))))))
      (pss_one (ps_ret pe_bl)))), ?_⟩
    have fv := natsV_len F
    obtain ⟨t, bt, ty, tt, hh⟩ := ht.ty kc
    rcases hh with ⟨rfl, no⟩ | ⟨a, xs, rfl, ha, rfl, hx, hi⟩
    · rw [plsB_no no] at k
      have k := k H (Same.refl H)
      tm_at "w"
      exact k
    · rw [plsB_tup ha] at k
      tm_at "w"
      by_cases zl : xs.length = F.length
      · rw [decide_eq_true zl, Bool.true_and] at k
        refine iteEF ?_ ?_
        · rw [zl, fv]
          simp
        tm_at "w"
        refine ⟨_, _, _, _, rfl, .inr ⟨SqT.of hf, SqT.of ha, RZ.for_zipT (K := K) (a := f) (b := a) (xs := natsV F) (ys := xs) (by omega) (fun i σ H' => ∃ u w x y, Same H H' ∧ ((List.range i).all fun j => plRowB H m (F.getD j 0) (xs.getD j .non)) = true ∧ σ = [some (.ref f), some (.int m), some (.ref a), u, w, x, y]) ?_ ?_ ?_ ?_⟩⟩
        · exact ⟨_, _, _, _, Same.refl H, rfl, rfl⟩
        · rintro i σ H' ⟨u, w, o, o2, s1, _, rfl⟩
          exact ⟨SqT.of (s1 _ _ hf), SqT.of (s1 _ _ ha)⟩
        · rintro i x y T1 σ H' hxi hyi ⟨u, w, o, o2, s1, all1, rfl⟩ nT
          obtain ⟨n, hn, rfl, il⟩ := natsV_here hxi
          have s2 := Same.new (o := .tup [V.int (n : Int), y]) s1 nT
          have hy := (hi y (List.mem_of_getElem? hyi)).same s2
          have gF : F.getD i 0 = n := by rw [List.getD_eq_getElem?_getD, hn]; rfl
          have gx : xs.getD i .non = y := by rw [List.getD_eq_getElem?_getD, hyi]; rfl
          have row : plRowB H m (F.getD i 0) (xs.getD i .non) = plRowB (upd H' T1 (.tup [V.int (n : Int), y])) m n y := by
            rw [gF, gx, plRowB_same (hi y (List.mem_of_getElem? hyi)) s2]
          have no : plRowB (upd H' T1 (.tup [V.int (n : Int), y])) m n y = false → ((List.range F.length).all fun j => plRowB H m (F.getD j 0) (xs.getD j .non)) = false := fun e => by
            cases c : ((List.range F.length).all fun j => plRowB H m (F.getD j 0) (xs.getD j .non)) with
            | false => rfl
            | true =>
              have := List.all_eq_true.mp c i (List.mem_range.mpr il)
              rw [row, e] at this
              cases this
          have yes : plRowB (upd H' T1 (.tup [V.int (n : Int), y])) m n y = true → ((List.range (i + 1)).all fun j => plRowB H m (F.getD j 0) (xs.getD j .non)) = true := fun e => by
            rw [List.range_succ, List.all_append, all1]
            simp only [List.all_cons, List.all_nil, Bool.and_true, Bool.true_and]
            rw [row, e]
          obtain ⟨J, e, s3, hJ⟩ := new_hide (Same.new (o := .tup [V.int (n : Int), y]) (Same.refl H') nT)
          rw [e] at row no yes hy s2 ⊢
          obtain ⟨t, bt, ty, tt, hh⟩ := hy.ty kc
          rcases hh with ⟨rfl, no2⟩ | ⟨b, ys, rfl, hb, rfl, hlb, hib⟩
          · have k := k J s2
            rw [no (plRowB_no no2)] at k
            tm_at "w"
            exact k
          · rw [plRowB_tup hb] at no yes
            tm_at "w"
            by_cases zn : ys.length = n
            · rw [decide_eq_true zn, Bool.true_and] at no yes
              refine iteEF ?_ ?_
              · rw [zn]
                simp
              tm_at "w"
              have bad : ∀ v ∈ ys, plcB J m v = false → ∀ J2, Same J J2 → Q (.bl false) J2 := fun v hv e J2 s4 => by
                have k := k J2 (Same.trans s2 s4)
                rw [no (by
                  cases c : ys.all (plcB J m) with
                  | false => rfl
                  | true =>
                    have := List.all_eq_true.mp c v hv
                    rw [e] at this
                    cases this)] at k
                exact k
              refine ⟨⟨_, SqT.of hb⟩, for_tup (K := K) (a := b) (xs := ys) (fun j σ H' => ∃ x y, Same J H' ∧ (ys.take j).all (plcB J m) = true ∧ σ = [some (.ref f), some (.int m), some (.ref a), some (.int (n : Int)), some (.ref b), x, y]) ?_ ?_ ?_ ?_⟩
              · exact ⟨_, _, Same.refl J, rfl, rfl⟩
              · rintro j σ H2 _ ⟨_, _, s4, _⟩
                exact SqT.of (s4 _ _ hb)
              · rintro j v σ H2 hv ⟨o, o2, s4, all2, rfl⟩
                have vm := List.mem_of_getElem? hv
                have hv2 := (hib v vm).same s4
                have bad := bad v vm
                have good : plcB J m v = true → (ys.take (j + 1)).all (plcB J m) = true := fun e => by
                  rw [List.take_add_one, hv, List.all_append, all2]
                  simp only [Option.toList_some, List.all_cons, List.all_nil, Bool.and_true, Bool.true_and]
                  exact e
                have same := plcB_same (m := m) (hib v vm) s4
                rw [← same] at bad good
                obtain ⟨t, bt, ty, tt, hh⟩ := hv2.ty kc
                rcases hh with ⟨rfl, no3⟩ | ⟨c, zs, rfl, hc, rfl, hlc, hic⟩
                · have bad := bad (plcB_not (twoB_no no3)) H2 s4
                  tm_at "w"
                  exact bad
                · tm_at "w"
                  by_cases z2 : zs.length = 2
                  · refine iteEF ?_ ?_
                    · rw [z2]
                      simp
                    match zs, z2, hc, hic with
                    | [p, q], _, hc, hic =>
                      rw [plcB_two hc] at bad good
                      have kp := (hic p List.mem_cons_self).intK kc
                      have kq := (hic q (List.mem_cons_of_mem _ List.mem_cons_self)).intK kc
                      have ip : ∀ v ∈ [p, q], IntK K H2 v := fun v hv => by
                        simp only [List.mem_cons, List.not_mem_nil, or_false] at hv
                        rcases hv with rfl | rfl
                        · exact kp
                        · exact kq
                      tm_at "w"
                      refine ⟨⟨_, SqT.of hc⟩, fun D nD => lc_tupF (fun i => [p, q][i]?.map fun v => V.bl (isIntB v)) hc nD (by show 2 ≤ 100000; decide) ?_ ?_⟩
                      · intro j2 x1 H5 N M hx1 s5 kN kM
                        have xm := List.mem_of_getElem? hx1
                        have hk : IntK K H5 x1 := ((hic x1 xm).same s5).intK kc
                        tm_at "w"
                        exact kN _ _ (by rw [hx1]; rfl) (Same.refl H5)
                      intro H5 s5 hD
                      rw [range_items] at hD
                      have s45 := Same.trans s4 s5
                      have hc5 := s5 _ _ hc
                      tm_at "w"
                      refine ⟨_, [isIntB p, isIntB q], rfl, SqL.of hD, ?_⟩
                      cases p with
                      | int i1 =>
                        cases q with
                        | int j1 =>
                          have e1 : (([isIntB (.int i1), isIntB (.int j1)] : List Bool).all id) = true := rfl
                          rw [e1]
                          have e2 : (withinB (.int i1) 0 (m - 1) && natB (.int j1)) = ((decide (0 ≤ i1) && decide (i1 ≤ m - 1)) && decide (0 ≤ j1)) := rfl
                          rw [e2] at bad good
                          tm_at "w"
                          refine iteD (fun y1 => ?_) (fun y1 => ?_)
                          · tm_at "w"
                            by_cases y2 : i1 < m
                            · refine iteEF (b := !decide (i1 < m)) (by rw [decide_eq_true y2]; rfl) ?_
                              tm_at "w"
                              refine iteD (fun y3 => ?_) (fun y3 => ?_)
                              · have bad := bad (by rw [decide_eq_false (show ¬ 0 ≤ j1 by omega), Bool.and_false]) H5 s45
                                tm_at "w"
                                exact bad
                              · exact ⟨_, _, s45, good (by rw [decide_eq_true y1, decide_eq_true (show i1 ≤ m - 1 by omega), decide_eq_true (show 0 ≤ j1 by omega)]; rfl), rfl⟩
                            · refine iteET (b := !decide (i1 < m)) (by rw [decide_eq_false y2]; rfl) ?_
                              have bad := bad (by rw [decide_eq_false (show ¬ i1 ≤ m - 1 by omega), Bool.and_false, Bool.false_and]) H5 s45
                              tm_at "w"
                              exact bad
                          · refine ⟨_, rfl, ?_⟩
                            refine iteET (b := !false) rfl ?_
                            have bad := bad (by rw [decide_eq_false y1, Bool.false_and, Bool.false_and]) H5 s45
                            tm_at "w"
                            exact bad
                        | _ =>
                          have bad := bad (by rw [Bool.and_comm]; rfl) H5 s45
                          tm_at "w"
                          exact bad
                      | _ =>
                        have bad := bad rfl H5 s45
                        tm_at "w"
                        exact bad
                  · have tb : twoB H2 (.ref c) = false := by rw [twoB_tup hc, decide_eq_false z2]
                    have bad := bad (plcB_not tb) H2 s4
                    refine iteET ?_ ?_
                    · simp
                      exact fun e => z2 (by omega)
                    tm_at "w"
                    exact bad
              · rintro σ H2 ⟨o, o2, s4, all2, rfl⟩
                rw [List.take_length] at all2
                exact ⟨_, _, _, _, Same.trans s2 s4, yes all2, rfl⟩
            · rw [decide_eq_false zn, Bool.false_and] at no
              have k := k J s2
              rw [no rfl] at k
              refine iteET ?_ ?_
              · simp
                exact fun e => zn (by omega)
              tm_at "w"
              exact k
        · rintro σ H' ⟨u, w, o, o2, s1, all1, rfl⟩
          rw [fv] at all1
          have k := k H' s1
          rw [all1] at k
          tm_at "w"
          exact k
      · rw [decide_eq_false zl, Bool.false_and] at k
        have k := k H (Same.refl H)
        refine iteET ?_ ?_
        · rw [fv]
          simp
          exact fun e => zl (by omega)
        tm_at "w"
        exact k
/-! _law_odd -/
theorem one_book {C z : Addr} {H : Hp} {a b c : Addr} (h : H a = some (.tup [.ref b, .ref c])) (hb : H b = some (.tup [])) (hc : H c = some (.tup [.int 0])) : ParAt H a [[], [0]] := by
  refine ⟨_, h, rfl, fun j q e => ?_⟩
  match j, e with
  | 0, e => exact ⟨b, rfl, by rw [← Option.some.inj e]; exact hb⟩
  | 1, e => exact ⟨c, rfl, by rw [← Option.some.inj e]; exact hc⟩
def sp__law_odd (C : Addr) (K : PySem.W.Frag) : Sp := fun vs H Q _ => ∃ (τ : Tp), vs = [.ref τ.t] ∧ Tape τ H ∧ ∀ v H', Mv τ H H' → (∀ n, ThB 1 C τ.t H' n v) → Q v H'
theorem sc__law_odd : FnScope ["_law_hand_here", "_law_odds"] ["_law_hand_here"] (defScope s__law_odd) := ⟨rfl, rfl, rfl, by decide +kernel, rfl, by decide +kernel, by decide +kernel⟩
theorem ok__law_odd (T : Top P K mg) : FnOk P w K mg base CX0 7 T.f__law_odd T.fd__law_odd ["_law_hand_here"] (sp__law_odd T.C_Book K) := by
  have G_Book___init__ := ok_Book___init__ (P := P) (w := w) (base := base) T
  have G__law_deep := ok__law_deep (P := P) (w := w) (base := base) T
  have G__law_draw := ok__law_draw (P := P) (w := w) (base := base) T
  refine T.F__law_odd.ok sc__law_odd (fun vs H Q E h => ?_) (fun cdv A outer s H vs Q E hr h => ?_)
  · obtain ⟨τ, rfl, _⟩ := h
    rfl
  · obtain ⟨τ, rfl, m0, k⟩ := h
    refine ⟨_, (pss_cons (ps_set (i := 1) sc__law_odd.nd rfl (Or.inl rfl) (pe_lst (pa_cons pe_non (pa_cons pe_bl (pa_cons pe_bl (pa_cons (pe_un un_neg pe_int) (pa_cons pe_str (pa_cons (pe_tup (pa_cons pe_int pa_nil)) (pa_cons (pe_lst (pa_cons pe_int pa_nil)) (pa_cons pe_dnewK (pa_cons (pe_op op_pow pe_int pe_int) (pa_cons (pe_make T.M_Book G_Book___init__ hr (by rfl) T.g_Book T.b_Book___init__ .nil pass0 (pa_cons (pe_tup (pa_cons (pe_tup pa_nil) (pa_cons (pe_tup (pa_cons pe_int pa_nil)) pa_nil))) pa_nil)) (pa_cons (pe_call G__law_deep (hr.mono (by decide)) (by rfl) T.g__law_deep T.F__law_deep.kp T.b__law_deep .nil pass0 (pa_cons (pv 0) pa_nil)) (pa_cons pe_int (pa_cons (pe_tup pa_nil) pa_nil)))))))))))))))
      (pss_one (ps_ret (pe_ix (r := rIxL K) ix_list (pv 1) (pe_call G__law_draw (hr.mono (by decide)) (by rfl) T.g__law_draw T.F__law_draw.kp T.b__law_draw .nil pass0 (pa_cons (pv 0) (pa_cons pe_int pa_nil))) (fun _ _ => rfl))))), ?_⟩
    tm_at "w"
    intro o1 no1
    obtain ⟨H1, e1, s1, ho1⟩ := new_hide (Same.new (o := .tup [.int 0]) (Same.refl H) no1)
    rw [e1]
    have tp1 := m0.same s1
    have do1 := m0.mv.neN no1
    tm_at "w"
    intro o2 no2
    obtain ⟨H2, e2, s2, ho2⟩ := new_hide (Same.new (o := .lst [.int 0]) (Same.refl H1) no2)
    rw [e2]
    have tp2 := tp1.same s2
    have do2 := tp1.mv.neN no2
    tm_at "w"
    intro o3 no3
    obtain ⟨H3, e3, s3, ho3⟩ := new_hide (Same.new (o := .dK []) (Same.refl H2) no3)
    rw [e3]
    have tp3 := tp2.same s3
    have do3 := tp2.mv.neN no3
    tm_at "w"
    intro o4 no4
    obtain ⟨H4, e4, s4, ho4⟩ := new_hide (Same.new (o := .tup []) (Same.refl H3) no4)
    rw [e4]
    have tp4 := tp3.same s4
    have do4 := tp3.mv.neN no4
    tm_at "w"
    intro o5 no5
    obtain ⟨H5, e5, s5, ho5⟩ := new_hide (Same.new (o := .tup [.int 0]) (Same.refl H4) no5)
    rw [e5]
    have tp5 := tp4.same s5
    have do5 := tp4.mv.neN no5
    tm_at "w"
    intro o6 no6
    obtain ⟨H6, e6, s6, ho6⟩ := new_hide (Same.new (o := .tup [.ref o4, .ref o5]) (Same.refl H5) no6)
    rw [e6]
    have tp6 := tp5.same s6
    have do6 := tp5.mv.neN no6
    tm_at "w"
    have ok2 : OkP [[], [0]] := by
      refine ⟨fun j q e => ?_, by decide⟩
      match j, e with
      | 0, e =>
        obtain rfl : [] = q := Option.some.inj e
        exact ⟨List.Pairwise.nil, nofun, by decide⟩
      | 1, e =>
        obtain rfl : [0] = q := Option.some.inj e
        exact ⟨List.pairwise_singleton _ _, (fun x hx => by rw [List.mem_singleton.mp hx]; decide), by decide⟩
    refine mk_book (one_book (C := T.C_Book) (z := τ.t) ho6 (s6 _ _ (s5 _ _ ho4)) (s6 _ _ ho5)) ok2 fun b H7 mk _ => ?_
    have tp7 := tp6.same mk.same
    have nb : b.b ≠ τ.t := tp6.mv.neN mk.nb.e
    have hb7 := mk.here.ins
    tm_at "w"
    intro v H8 m8 hv
    have s67 := mk.same
    have ho1' := m8.keep _ _ do1 (s67 _ _ (s6 _ _ (s5 _ _ (s4 _ _ (s3 _ _ (s2 _ _ ho1))))))
    have ho2' := m8.keep _ _ do2 (s67 _ _ (s6 _ _ (s5 _ _ (s4 _ _ (s3 _ _ ho2)))))
    have ho3' := m8.keep _ _ do3 (s67 _ _ (s6 _ _ (s5 _ _ (s4 _ _ ho3))))
    have hb8 := m8.keep _ _ nb hb7
    tm_at "w"
    intro o8 no8
    have d8 := m8.now.mv.neN no8
    obtain ⟨H8b, e8b, s8b, ho8⟩ := new_hide (Same.new (o := .tup []) (Same.refl H8) no8)
    rw [e8b]
    have m8 := m8.same s8b
    have ho1' := s8b _ _ ho1'
    have ho2' := s8b _ _ ho2'
    have ho3' := s8b _ _ ho3'
    have hb8 := s8b _ _ hb8
    have hv := fun n => (hv n).same s8b
    tm_at "w"
    intro o7 no7
    have d7 := m8.now.mv.neN no7
    show gName 1 _ _ (upd H8b o7 (.lst [.non, .bl true, .bl false, .int (-1), .str "0", .ref o1, .ref o2, .ref o3, .int ((10 : Int) ^ (30 : Int).toNat), .ref b.b, v, .int 6, .ref o8])) _
    obtain ⟨H9, e9, s9, ho7⟩ := new_hide (Same.new (o := .lst [.non, .bl true, .bl false, .int (-1), .str "0", .ref o1, .ref o2, .ref o3, .int ((10 : Int) ^ (30 : Int).toNat), .ref b.b, v, .int 6, .ref o8]) (Same.refl H8b) no7)
    rw [e9]
    have tp9 := m8.now.same s9
    tm_at "w"
    refine ⟨τ, _, rfl, tp9, by decide, by decide, fun r H10 m10 r0 r1 => ?_⟩
    have m710 := (m8.same s9).trans m10
    have one : ∀ (p : Addr), p ≠ τ.t → H10 p = some (.tup [.int 0]) → ∀ n, ThB 1 T.C_Book τ.t H10 n (.ref p) := by
      intro p h1 h2 n
      cases n with
      | zero => exact .tup0 p _ h1 h2
      | succ n => exact .tup n p _ h1 h2 (by show 1 ≤ 1; decide) (fun x hx => by rw [List.mem_singleton.mp hx]; exact .int n 0)
    have all : ∀ x ∈ ([.non, .bl true, .bl false, .int (-1), .str "0", .ref o1, .ref o2, .ref o3, .int ((10 : Int) ^ (30 : Int).toNat), .ref b.b, v, .int 6, .ref o8] : List V), ∀ n, ThB 1 T.C_Book τ.t H10 n x := by
      intro x hx n
      simp only [List.mem_cons, List.not_mem_nil, or_false] at hx
      rcases hx with rfl | rfl | rfl | rfl | rfl | rfl | rfl | rfl | rfl | rfl | rfl | rfl | rfl
      · exact .non n
      · exact .bl n _
      · exact .bl n _
      · exact .int n _
      · exact .str n _
      · exact one _ do1 (m10.keep _ _ do1 (s9 _ _ ho1')) n
      · exact .lst n _ _ do2 (m10.keep _ _ do2 (s9 _ _ ho2'))
      · exact .dK n _ _ do3 (m10.keep _ _ do3 (s9 _ _ ho3'))
      · exact .int n _
      · exact .ins n _ _ _ nb (m10.keep _ _ nb (s9 _ _ hb8))
      · exact ((hv n).same s9).mv m10
      · exact .int n _
      · have h8 := m10.keep _ _ d8 (s9 _ _ ho8)
        cases n with
        | zero => exact .tup0 o8 _ d8 h8
        | succ n => exact .tup n o8 _ d8 h8 (by show 0 ≤ 1; decide) (fun x hx => by cases hx)
    obtain ⟨v2, ev2, hv2⟩ := at_in (L := [.non, .bl true, .bl false, .int (-1), .str "0", .ref o1, .ref o2, .ref o3, .int ((10 : Int) ^ (30 : Int).toNat), .ref b.b, v, .int 6, .ref o8]) r0 r1
    refine ⟨_, _, _, _, rfl, rfl, SqL.of (m10.keep _ _ d7 ho7), ev2, ?_⟩
    refine k _ _ ?_ (all v2 hv2)
    exact ⟨m0, fun a o ne e => m710.keep a o ne (s67 _ _ (s6 _ _ (s5 _ _ (s4 _ _ (s3 _ _ (s2 _ _ (s1 _ _ e))))))), m710.now⟩
/-! _law_bent -/
/-! ### many things at once -/
def atomB : V → Bool
  | .int _ => true
  | .bl _ => true
  | .non => true
  | .str _ => true
  | _ => false
theorem atom_th {b : Nat} {C z : Addr} {H : Hp} {x : V} (h : atomB x = true) (n : Nat) : ThB b C z H n x := by
  cases x with
  | int i => exact .int n i
  | bl q => exact .bl n q
  | non => exact .non n
  | str s => exact .str n s
  | _ => cases h
def AllTh (b : Nat) (C : Addr) (τ : Tp) (J : Hp) (L : List V) : Prop := ∀ x ∈ L, ∀ n, ThB b C τ.t J n x
section
variable {b : Nat} {C : Addr} {τ : Tp} {J J' : Hp} {L : List V} {p : Addr} {xs : List V}
theorem AllTh.same (A : AllTh b C τ J L) (s : Same J J') : AllTh b C τ J' L := fun x hx n => (A x hx n).same s
theorem AllTh.mv (A : AllTh b C τ J L) (m : Mv τ J J') : AllTh b C τ J' L := fun x hx n => (A x hx n).mv m
theorem AllTh.cons {v : V} (A : AllTh b C τ J L) (h : ∀ n, ThB b C τ.t J n v) : AllTh b C τ J (v :: L) := fun x hx n => by
  rcases List.mem_cons.mp hx with rfl | hx
  · exact h n
  · exact A x hx n
theorem AllTh.it (A : AllTh b C τ J L) (hi : ∀ x ∈ xs, x ∈ L ∨ atomB x = true) : ∀ x ∈ xs, ∀ n, ThB b C τ.t J n x := fun x hx n => by
  rcases hi x hx with h | h
  · exact A x h n
  · exact atom_th h n
theorem thb_tup (h : J p = some (.tup xs)) (np : p ≠ τ.t) (hl : xs.length ≤ b) (hi : ∀ x ∈ xs, ∀ n, ThB b C τ.t J n x) : ∀ n, ThB b C τ.t J n (.ref p) := fun n => by
  cases n with
  | zero => exact .tup0 p xs np h
  | succ n => exact .tup n p xs np h hl fun x hx => hi x hx n
theorem AllTh.tup (A : AllTh b C τ J L) (s : Same J J') (h : J' p = some (.tup xs)) (np : p ≠ τ.t) (hi : ∀ x ∈ xs, x ∈ L ∨ atomB x = true) (hl : xs.length ≤ b) : AllTh b C τ J' (.ref p :: L) :=
  (A.same s).cons (thb_tup h np hl ((A.same s).it hi))
theorem AllTh.lst (A : AllTh b C τ J L) (s : Same J J') (h : J' p = some (.lst xs)) (np : p ≠ τ.t) : AllTh b C τ J' (.ref p :: L) := (A.same s).cons fun n => .lst n p xs np h
theorem AllTh.dK {kv : List (Key × V)} (A : AllTh b C τ J L) (s : Same J J') (h : J' p = some (.dK kv)) (np : p ≠ τ.t) : AllTh b C τ J' (.ref p :: L) := (A.same s).cons fun n => .dK n p kv np h
theorem thb_items {a : Addr} {z : Addr} (h : ∀ n, ThB b C z J n (.ref a)) (ha : J a = some (.tup xs)) : xs.length ≤ b ∧ ∀ x ∈ xs, ∀ n, ThB b C z J n x := by
  have key : ∀ n, xs.length ≤ b ∧ ∀ x ∈ xs, ThB b C z J n x := fun n => by
    cases h (n + 1) with
    | lst _ _ ys h1 h2 => rw [ha] at h2; cases h2
    | dK _ _ ys h1 h2 => rw [ha] at h2; cases h2
    | ins _ _ dx fs h1 h2 => rw [ha] at h2; cases h2
    | tup _ _ ys h1 h2 h3 h4 =>
      rw [ha] at h2
      cases h2
      exact ⟨h3, h4⟩
  exact ⟨(key 0).1, fun x hx n => (key n).2 x hx⟩
theorem put_all {P : V → Prop} {ys : List V} {k : Nat} {w : V} (h : ∀ x ∈ ys, P x) (hw : P w) : ∀ x ∈ (ys.take k ++ [w]) ++ ys.drop (k + 1), P x := fun x hx => by
  rcases List.mem_append.mp hx with hx | hx
  · rcases List.mem_append.mp hx with hx | hx
    · exact h x (List.mem_of_mem_take hx)
    · rw [List.mem_singleton.mp hx]
      exact hw
  · exact h x (List.mem_of_mem_drop hx)
theorem put_len {ys : List V} {k : Nat} {w : V} (h : k < ys.length) : ((ys.take k ++ [w]) ++ ys.drop (k + 1)).length = ys.length := by
  rw [List.length_append, List.length_append, List.length_take, List.length_drop, List.length_singleton]
  omega
end
theorem AllTh.mutL {b : Nat} {C : Addr} {τ : Tp} {J : Hp} {L : List V} {p : Addr} {xs ys : List V} (A : AllTh b C τ J L) (h : J p = some (.lst xs)) : AllTh b C τ (upd J p (.lst ys)) L := fun x hx n => (A x hx n).mutL h
theorem max3 (r : Int) : ∃ j : Nat, (if r - 3 > 0 then r - 3 else 0) = (j : Int) ∧ ((j : Int) = 0 ∨ (j : Int) = r - 3) := by
  by_cases h : r - 3 > 0
  · exact ⟨(r - 3).toNat, by rw [if_pos h]; omega, .inr (by omega)⟩
  · exact ⟨0, by rw [if_neg h]; rfl, .inl rfl⟩
theorem cat_list {H : Hp} {a b : Addr} {xs ys : List V} {Q : VK} (hx : H a = some (.lst xs)) (hy : H b = some (.lst ys)) (hl : xs.length + ys.length ≤ sizeLine)
    (k : ∀ p H', Same H H' → H p = none → H' p = some (.lst (xs ++ ys)) → Q (.ref p) H') : rCat (.ref a) (.ref b) H Q :=
  ⟨a, b, xs, ys, rfl, rfl, hx, hy, hl, fun p np => k p _ (Same.new (Same.refl H) np) np upd_same⟩
def sp__law_bent (C : Addr) (K : PySem.W.Frag) : Sp := fun vs H Q _ => ∃ (τ : Tp) (v : V) (b : Nat), vs = [.ref τ.t, v] ∧ Tape τ H ∧ KitC K C ∧ 3 ≤ b ∧ b ≤ 100 ∧ (∀ n, ThB b C τ.t H n v) ∧ ∀ v' H', Mv τ H H' → (∀ n, ThB (b + 1) C τ.t H' n v') → Q v' H'
theorem sc__law_bent : FnScope ["_law_hand_here", "_law_thing", "_law_at", "_law_spots", "_law_place", "_law_spot", "_law_odds", "_law_items"] ["_law_hand_here", "_law_thing"] (defScope s__law_bent) := ⟨rfl, rfl, rfl, by decide +kernel, rfl, by decide +kernel, by decide +kernel⟩
theorem ok__law_bent (T : Top P K mg) : FnOk P w K mg base CX0 8 T.f__law_bent T.fd__law_bent ["_law_hand_here", "_law_thing"] (sp__law_bent T.C_Book K) := by
  have G__law_draw := ok__law_draw (P := P) (w := w) (base := base) T
  have G__law_odd := ok__law_odd (P := P) (w := w) (base := base) T
  refine T.F__law_bent.ok sc__law_bent (fun vs H Q E h => ?_) (fun cdv A outer s H vs Q E hr h => ?_)
  · obtain ⟨τ, v, b, rfl, _⟩ := h
    rfl
  · obtain ⟨τ, v, b, rfl, t0, kc, b3, b100, hv, k⟩ := h
    refine ⟨_, (pss_cons (ps_if (PW.pt (pw_or (pt_not (pt_val (pe_callB (r := rIsi K) (id := "isinstance") call_isi (by rfl) T.z_isinstance (by decide +kernel) (pa_cons (pv 1) (pa_cons (pe_bltn (v := .ty "tuple") (u := .type "tuple") (by rfl) T.z_tuple (by decide +kernel) rfl) pa_nil))))) (pw_or (pt_cmpR op_eq (pe_callB (r := rLenQ K) (id := "len") call_len_seq (by rfl) T.z_len (by decide +kernel) (pa_cons (pv 1) pa_nil)) pe_int (nomark _)) (pw_or1 (pt_cmpR op_eq (pe_call G__law_draw (hr.mono (by decide)) (by rfl) T.g__law_draw T.F__law_draw.kp T.b__law_draw .nil pass0 (pa_cons (pv 0) (pa_cons pe_int pa_nil))) pe_int (nomark _)))))) (pss_one (ps_ret (pe_ix (r := rIxL K) ix_list (pe_lst (pa_cons (pv 1) (pa_cons pe_non (pa_cons pe_str (pa_cons (pe_lst (pa_cons (pv 1) pa_nil)) (pa_cons (pe_call G__law_odd hr (by rfl) T.g__law_odd T.F__law_odd.kp T.b__law_odd .nil pass0 (pa_cons (pv 0) pa_nil)) (pa_cons (pe_tup (pa_cons (pv 1) pa_nil)) pa_nil))))))) (pe_call G__law_draw (hr.mono (by decide)) (by rfl) T.g__law_draw T.F__law_draw.kp T.b__law_draw .nil pass0 (pa_cons (pv 0) (pa_cons pe_int pa_nil))) (fun _ _ => rfl)))) pss_nil)
      (pss_cons (ps_set (i := 2) sc__law_bent.nd rfl (Or.inl rfl) (pe_call G__law_draw (hr.mono (by decide)) (by rfl) T.g__law_draw T.F__law_draw.kp T.b__law_draw .nil pass0 (pa_cons (pv 0) (pa_cons (pe_callB (r := rLenQ K) (id := "len") call_len_seq (by rfl) T.z_len (by decide +kernel) (pa_cons (pv 1) pa_nil)) pa_nil))))
      (pss_cons (ps_set (i := 3) sc__law_bent.nd rfl (Or.inl rfl) (pe_ix (r := rIxT K) ix_tup (pv 1) (pv 2) (fun _ _ => rfl)))
      (pss_cons (ps_if (PW.pt (pw_or (pt_not (pt_val (pe_callB (r := rIsi K) (id := "isinstance") call_isi (by rfl) T.z_isinstance (by decide +kernel) (pa_cons (pv 3) (pa_cons (pe_bltn (v := .ty "tuple") (u := .type "tuple") (by rfl) T.z_tuple (by decide +kernel) rfl) pa_nil))))) (pw_or (pt_cmpR op_eq (pe_callB (r := rLenQ K) (id := "len") call_len_seq (by rfl) T.z_len (by decide +kernel) (pa_cons (pv 3) pa_nil)) pe_int (nomark _)) (pw_or1 (pt_cmpR op_eq (pe_call G__law_draw (hr.mono (by decide)) (by rfl) T.g__law_draw T.F__law_draw.kp T.b__law_draw .nil pass0 (pa_cons (pv 0) (pa_cons pe_int pa_nil))) pe_int (nomark _)))))) (pss_cons (ps_set (i := 7) sc__law_bent.nd rfl (Or.inl rfl) (pe_lst (pa_cons (pv 3) (pa_cons pe_non (pa_cons (pe_lst (pa_cons (pv 3) pa_nil)) (pa_cons (pe_tup (pa_cons (pe_tup (pa_cons pe_int (pa_cons pe_int pa_nil))) pa_nil)) (pa_cons (pe_tup pa_nil) (pa_cons (pe_call G__law_odd hr (by rfl) T.g__law_odd T.F__law_odd.kp T.b__law_odd .nil pass0 (pa_cons (pv 0) pa_nil)) pa_nil))))))))
      (pss_one (ps_ret (pe_op op_catA (pe_op op_catA (pe_slice sl_tupA (pv 1) po_none (po_some (pv 2))) (pe_tup (pa_cons (pe_ix (r := rIxL K) ix_list (pv 7) (pe_call G__law_draw (hr.mono (by decide)) (by rfl) T.g__law_draw T.F__law_draw.kp T.b__law_draw .nil pass0 (pa_cons (pv 0) (pa_cons pe_int pa_nil))) (fun _ _ => rfl)) pa_nil))) (pe_slice sl_tupA (pv 1) (po_some (pe_op op_add (pv 2) pe_int)) po_none))))) pss_nil)
      (pss_cons (ps_set (i := 4) sc__law_bent.nd rfl (Or.inl rfl) (pe_call G__law_draw (hr.mono (by decide)) (by rfl) T.g__law_draw T.F__law_draw.kp T.b__law_draw .nil pass0 (pa_cons (pv 0) (pa_cons (pe_callB (r := rLenQ K) (id := "len") call_len_seq (by rfl) T.z_len (by decide +kernel) (pa_cons (pv 3) pa_nil)) pa_nil))))
      (pss_cons (ps_set (i := 5) sc__law_bent.nd rfl (Or.inl rfl) (pe_ix (r := rIxT K) ix_tup (pv 3) (pv 4) (fun _ _ => rfl)))
      (pss_cons (ps_set (i := 6) sc__law_bent.nd rfl (Or.inl rfl) (pe_lst (pa_cons (pe_tup (pa_cons pe_int (pa_cons pe_int pa_nil))) (pa_cons (pe_lst (pa_cons pe_int (pa_cons pe_int pa_nil))) (pa_cons (pe_tup (pa_cons pe_int (pa_cons pe_int pa_nil))) (pa_cons (pe_tup (pa_cons pe_int (pa_cons pe_int pa_nil))) (pa_cons (pe_tup (pa_cons pe_int (pa_cons (pe_un un_neg pe_int) pa_nil))) (pa_cons (pe_tup (pa_cons pe_bl (pa_cons pe_int pa_nil))) (pa_cons (pe_tup (pa_cons pe_int (pa_cons pe_bl pa_nil))) (pa_cons (pe_tup (pa_cons pe_int pa_nil)) (pa_cons (pe_tup (pa_cons pe_int (pa_cons pe_int (pa_cons pe_int pa_nil)))) (pa_cons (pe_call G__law_odd hr (by rfl) T.g__law_odd T.F__law_odd.kp T.b__law_odd .nil pass0 (pa_cons (pv 0) pa_nil)) (pa_cons (pe_tup (pa_cons (pe_call G__law_odd hr (by rfl) T.g__law_odd T.F__law_odd.kp T.b__law_odd .nil pass0 (pa_cons (pv 0) pa_nil)) (pa_cons pe_int pa_nil))) pa_nil)))))))))))))
      (pss_cons (ps_set (i := 6) sc__law_bent.nd rfl (Or.inl rfl) (pe_op op_cat (pv 6) (pe_lst (pa_cons (pe_tup (pa_cons pe_int (pa_cons (pe_call G__law_odd hr (by rfl) T.g__law_odd T.F__law_odd.kp T.b__law_odd .nil pass0 (pa_cons (pv 0) pa_nil)) pa_nil))) (pa_cons (pv 5) pa_nil)))))
      (pss_cons (ps_set (i := 7) sc__law_bent.nd rfl (Or.inl rfl) (pe_lst (pa_cons (pe_op op_catA (pe_op op_catA (pe_slice sl_tupA (pv 3) po_none (po_some (pv 4))) (pe_tup (pa_cons (pe_ix (r := rIxL K) ix_list (pv 6) (pe_call G__law_draw (hr.mono (by decide)) (by rfl) T.g__law_draw T.F__law_draw.kp T.b__law_draw .nil pass0 (pa_cons (pv 0) (pa_cons pe_int pa_nil))) (fun _ _ => rfl)) pa_nil))) (pe_slice sl_tupA (pv 3) (po_some (pe_op op_add (pv 4) pe_int)) po_none)) (pa_cons (pe_op op_catA (pv 3) (pe_tup (pa_cons (pv 5) pa_nil))) (pa_cons (pe_slice sl_tupA (pv 3) (po_some pe_int) po_none) pa_nil)))))
      (pss_cons (ps_expr (pe_bm PySem.F.plainAttrs_list PySem.F.slot_list_append PySem.F.type_list_append mt_append (pv 7) (pa_cons (pe_callTy (r := rListQ K) (T := "list") call_list_of (by rfl) T.z_list (by decide +kernel) (pa_cons (pv 3) pa_nil)) pa_nil)))
      (pss_one (ps_ret (pe_op op_catA (pe_op op_catA (pe_slice sl_tupA (pv 1) po_none (po_some (pv 2))) (pe_tup (pa_cons (pe_ix (r := rIxL K) ix_list (pv 7) (pe_callB (id := "max") (call_max2 rfl) (by rfl) T.z_max (by decide +kernel) (pa_cons pe_int (pa_cons (pe_op op_sub (pe_call G__law_draw (hr.mono (by decide)) (by rfl) T.g__law_draw T.F__law_draw.kp T.b__law_draw .nil pass0 (pa_cons (pv 0) (pa_cons pe_int pa_nil))) pe_int) pa_nil))) (fun _ _ => rfl)) pa_nil))) (pe_slice sl_tupA (pv 1) (po_some (pe_op op_add (pv 2) pe_int)) po_none)))))))))))))), ?_⟩
    have est : L2.start ["_law_hand_here", "_law_thing", "_law_at", "_law_spots", "_law_place", "_law_spot", "_law_odds", "_law_items"] [V.ref τ.t, v] = ([some (.ref τ.t), some v, none, none, none, none, none, none] : L2.St) := rfl
    rw [est]
    clear est
    have AT : AllTh (b + 1) T.C_Book τ H [v] := fun x hx n => by
      rw [List.mem_singleton.mp hx]
      exact (hv n).up (by omega)
    obtain ⟨t, bt, ty, tt, hh⟩ := (hv 1).ty kc
    rcases hh with ⟨rfl, no⟩ | ⟨a, xs, rfl, ha, rfl, hxl, _⟩
    · tm_at "w"
      tm_at "w"
      intro u1 nu1
      obtain ⟨K1, eK1, sK1, hu1⟩ := new_hide (Same.new (o := .lst [v]) (Same.refl H) nu1)
      rw [eK1]
      clear eK1
      have du1 := t0.mv.neN nu1
      have AT := AT.lst sK1 hu1 du1
      have m := t0.mv.same sK1
      clear sK1 nu1 hu1 du1
      tm_at "w"
      refine ⟨m.now, fun vo K2 mK2 hvo => ?_⟩
      have AT := AT.mv mK2
      have m := m.trans mK2
      have AT := AT.cons fun n => (hvo n).up (show 1 ≤ b + 1 by omega)
      clear mK2 hvo
      tm_at "w"
      intro u2 nu2
      obtain ⟨K3, eK3, sK3, hu2⟩ := new_hide (Same.new (o := .tup [v]) (Same.refl K2) nu2)
      rw [eK3]
      clear eK3
      have du2 := m.neN nu2
      have AT := AT.tup sK3 hu2 du2 (fun x hx => by rw [List.mem_singleton.mp hx]; simp [atomB]) (by show 1 ≤ _; omega)
      have m := m.same sK3
      clear sK3 nu2 hu2 du2
      tm_at "w"
      intro u3 nu3
      obtain ⟨K4, eK4, sK4, hu3⟩ := new_hide (Same.new (o := .lst [v, .non, .str "laying", .ref u1, vo, .ref u2]) (Same.refl K3) nu3)
      rw [eK4]
      clear eK4
      have du3 := m.neN nu3
      have AT := AT.lst sK4 hu3 du3
      have m := m.same sK4
      clear sK4 nu3
      tm_at "w"
      refine ⟨τ, _, rfl, m.now, by decide, by decide, fun r6 K5 mK5 r60 r61 => ?_⟩
      have AT := AT.mv mK5
      have m := m.trans mK5
      have hu3 := mK5.keep _ _ du3 hu3
      clear mK5
      obtain ⟨vz, evz, hvz⟩ := at_in r60 (show r6 < (([v, .non, .str "laying", .ref u1, vo, .ref u2] : List V).length : Int) from r61)
      refine ⟨_, _, _, _, rfl, rfl, SqL.of hu3, evz, ?_⟩
      refine k _ _ m ?_
      have hi := AT.it (xs := [v, .non, .str "laying", .ref u1, vo, .ref u2]) (fun x hx => by simp only [List.mem_cons, List.not_mem_nil, or_false] at hx; rcases hx with rfl | rfl | rfl | rfl | rfl | rfl <;> simp [atomB])
      exact hi vz hvz
    · have na := t0.mv.neT ha
      obtain ⟨_, hit⟩ := thb_items hv ha
      by_cases z0 : xs.length = 0
      · tm_at "w"
        refine iteET (by rw [z0]; rfl) ?_
        refine iteT ?_
        tm_at "w"
        intro u1 nu1
        obtain ⟨K1, eK1, sK1, hu1⟩ := new_hide (Same.new (o := .lst [.ref a]) (Same.refl H) nu1)
        rw [eK1]
        clear eK1
        have du1 := t0.mv.neN nu1
        have AT := AT.lst sK1 hu1 du1
        have m := t0.mv.same sK1
        clear sK1 nu1 hu1 du1
        tm_at "w"
        refine ⟨m.now, fun vo K2 mK2 hvo => ?_⟩
        have AT := AT.mv mK2
        have m := m.trans mK2
        have AT := AT.cons fun n => (hvo n).up (show 1 ≤ b + 1 by omega)
        clear mK2 hvo
        tm_at "w"
        intro u2 nu2
        obtain ⟨K3, eK3, sK3, hu2⟩ := new_hide (Same.new (o := .tup [.ref a]) (Same.refl K2) nu2)
        rw [eK3]
        clear eK3
        have du2 := m.neN nu2
        have AT := AT.tup sK3 hu2 du2 (fun x hx => by rw [List.mem_singleton.mp hx]; simp [atomB]) (by show 1 ≤ _; omega)
        have m := m.same sK3
        clear sK3 nu2 hu2 du2
        tm_at "w"
        intro u3 nu3
        obtain ⟨K4, eK4, sK4, hu3⟩ := new_hide (Same.new (o := .lst [.ref a, .non, .str "laying", .ref u1, vo, .ref u2]) (Same.refl K3) nu3)
        rw [eK4]
        clear eK4
        have du3 := m.neN nu3
        have AT := AT.lst sK4 hu3 du3
        have m := m.same sK4
        clear sK4 nu3
        tm_at "w"
        refine ⟨τ, _, rfl, m.now, by decide, by decide, fun r6 K5 mK5 r60 r61 => ?_⟩
        have AT := AT.mv mK5
        have m := m.trans mK5
        have hu3 := mK5.keep _ _ du3 hu3
        clear mK5
        obtain ⟨vz, evz, hvz⟩ := at_in r60 (show r6 < (([.ref a, .non, .str "laying", .ref u1, vo, .ref u2] : List V).length : Int) from r61)
        refine ⟨_, _, _, _, rfl, rfl, SqL.of hu3, evz, ?_⟩
        refine k _ _ m ?_
        have hi := AT.it (xs := [.ref a, .non, .str "laying", .ref u1, vo, .ref u2]) (fun x hx => by simp only [List.mem_cons, List.not_mem_nil, or_false] at hx; rcases hx with rfl | rfl | rfl | rfl | rfl | rfl <;> simp [atomB])
        exact hi vz hvz
      · tm_at "w"
        refine iteEF (by rw [decide_eq_false (fun e => z0 (by have := V.int.inj e; omega))]) ?_
        tm_at "w"
        refine ⟨τ, _, rfl, t0.mv.now, by decide, by decide, fun q6 K1 mK1 q60 q61 => ?_⟩
        have AT := AT.mv mK1
        have m := t0.mv.trans mK1
        have ha := mK1.keep _ _ na ha
        clear mK1
        tm_at "w"
        refine iteI (fun z1 => ?_) (fun z1 => ?_)
        · tm_at "w"
          intro u1 nu1
          obtain ⟨K1, eK1, sK1, hu1⟩ := new_hide (Same.new (o := .lst [.ref a]) (Same.refl K1) nu1)
          rw [eK1]
          clear eK1
          have du1 := m.neN nu1
          have AT := AT.lst sK1 hu1 du1
          have m := m.same sK1
          clear sK1 nu1 hu1 du1
          tm_at "w"
          refine ⟨m.now, fun vo K2 mK2 hvo => ?_⟩
          have AT := AT.mv mK2
          have m := m.trans mK2
          have AT := AT.cons fun n => (hvo n).up (show 1 ≤ b + 1 by omega)
          clear mK2 hvo
          tm_at "w"
          intro u2 nu2
          obtain ⟨K3, eK3, sK3, hu2⟩ := new_hide (Same.new (o := .tup [.ref a]) (Same.refl K2) nu2)
          rw [eK3]
          clear eK3
          have du2 := m.neN nu2
          have AT := AT.tup sK3 hu2 du2 (fun x hx => by rw [List.mem_singleton.mp hx]; simp [atomB]) (by show 1 ≤ _; omega)
          have m := m.same sK3
          clear sK3 nu2 hu2 du2
          tm_at "w"
          intro u3 nu3
          obtain ⟨K4, eK4, sK4, hu3⟩ := new_hide (Same.new (o := .lst [.ref a, .non, .str "laying", .ref u1, vo, .ref u2]) (Same.refl K3) nu3)
          rw [eK4]
          clear eK4
          have du3 := m.neN nu3
          have AT := AT.lst sK4 hu3 du3
          have m := m.same sK4
          clear sK4 nu3
          tm_at "w"
          refine ⟨τ, _, rfl, m.now, by decide, by decide, fun r6 K5 mK5 r60 r61 => ?_⟩
          have AT := AT.mv mK5
          have m := m.trans mK5
          have hu3 := mK5.keep _ _ du3 hu3
          clear mK5
          obtain ⟨vz, evz, hvz⟩ := at_in r60 (show r6 < (([.ref a, .non, .str "laying", .ref u1, vo, .ref u2] : List V).length : Int) from r61)
          refine ⟨_, _, _, _, rfl, rfl, SqL.of hu3, evz, ?_⟩
          refine k _ _ m ?_
          have hi := AT.it (xs := [.ref a, .non, .str "laying", .ref u1, vo, .ref u2]) (fun x hx => by simp only [List.mem_cons, List.not_mem_nil, or_false] at hx; rcases hx with rfl | rfl | rfl | rfl | rfl | rfl <;> simp [atomB])
          exact hi vz hvz
        · tm_at "w"
          refine ⟨τ, _, rfl, m.now, by omega, by omega, fun r K2 mK2 r0 r1 => ?_⟩
          obtain ⟨at_, rfl⟩ : ∃ n : Nat, r = n := ⟨r.toNat, by omega⟩
          have AT := AT.mv mK2
          have m := m.trans mK2
          have ha := mK2.keep _ _ na ha
          have al : at_ < xs.length := by omega
          have hat := List.getElem?_eq_getElem al
          have hsp := hit _ (List.getElem_mem al)
          have AT := AT.cons fun n => ((hsp n).mv m).up (show b ≤ b + 1 by omega)
          generalize xs[at_] = sp at hat hsp AT
          tm_at "w"
          obtain ⟨t, bt, ty, tt, hh⟩ := ((hsp 1).mv m).ty kc
          rcases hh with ⟨rfl, no⟩ | ⟨b2, ys, rfl, hb2, rfl, hyl, _⟩
          · tm_at "w"
            tm_at "w"
            try simp only [List.set_cons_zero, List.set_cons_succ]
            intro v1 nv1
            obtain ⟨K3, eK3, sK3, hv1⟩ := new_hide (Same.new (o := .lst [sp]) (Same.refl K2) nv1)
            rw [eK3]
            clear eK3
            have dv1 := m.neN nv1
            have AT := AT.lst sK3 hv1 dv1
            have m := m.same sK3
            have ha := sK3 _ _ ha
            clear sK3 nv1 hv1 dv1
            tm_at "w"
            intro v2 nv2
            obtain ⟨K4, eK4, sK4, hv2⟩ := new_hide (Same.new (o := .tup [.int 0, .int 0]) (Same.refl K3) nv2)
            rw [eK4]
            clear eK4
            have dv2 := m.neN nv2
            have AT := AT.tup sK4 hv2 dv2 (fun x hx => by simp only [List.mem_cons, List.not_mem_nil, or_false] at hx; rcases hx with rfl | rfl <;> simp [atomB]) (by show 2 ≤ _; omega)
            have m := m.same sK4
            have ha := sK4 _ _ ha
            clear sK4 nv2 hv2 dv2
            tm_at "w"
            intro v3 nv3
            obtain ⟨K5, eK5, sK5, hv3⟩ := new_hide (Same.new (o := .tup [.ref v2]) (Same.refl K4) nv3)
            rw [eK5]
            clear eK5
            have dv3 := m.neN nv3
            have AT := AT.tup sK5 hv3 dv3 (fun x hx => by rw [List.mem_singleton.mp hx]; simp [atomB]) (by show 1 ≤ _; omega)
            have m := m.same sK5
            have ha := sK5 _ _ ha
            clear sK5 nv3 hv3 dv3
            tm_at "w"
            intro v4 nv4
            obtain ⟨K6, eK6, sK6, hv4⟩ := new_hide (Same.new (o := .tup []) (Same.refl K5) nv4)
            rw [eK6]
            clear eK6
            have dv4 := m.neN nv4
            have AT := AT.tup sK6 hv4 dv4 (fun x hx => by cases hx) (by show 0 ≤ _; omega)
            have m := m.same sK6
            have ha := sK6 _ _ ha
            clear sK6 nv4 hv4 dv4
            tm_at "w"
            refine ⟨m.now, fun vo K7 mK7 hvo => ?_⟩
            have AT := AT.mv mK7
            have m := m.trans mK7
            have ha := mK7.keep _ _ na ha
            have AT := AT.cons fun n => (hvo n).up (show 1 ≤ b + 1 by omega)
            clear mK7 hvo
            tm_at "w"
            intro v5 nv5
            show gName 7 _ _ (upd K7 v5 (.lst [sp, .non, .ref v1, .ref v3, .ref v4, vo])) _
            obtain ⟨K8, eK8, sK8, hv5⟩ := new_hide (Same.new (o := .lst [sp, .non, .ref v1, .ref v3, .ref v4, vo]) (Same.refl K7) nv5)
            rw [eK8]
            clear eK8
            have dv5 := m.neN nv5
            have AT := AT.lst sK8 hv5 dv5
            have m := m.same sK8
            have ha := sK8 _ _ ha
            clear sK8 nv5
            have hi := AT.it (xs := [sp, .non, .ref v1, .ref v3, .ref v4, vo]) (fun x hx => by simp only [List.mem_cons, List.not_mem_nil, or_false] at hx; rcases hx with rfl | rfl | rfl | rfl | rfl | rfl <;> simp [atomB])
            clear AT
            tm_at "w"
            simp only [List.set_cons_zero, List.set_cons_succ]
            refine slice_cut (ys := xs.take at_) ha (cutV_take _ _) fun c1 X1 x1 hc1 => ?_
            have hi := fun y hy n => (hi y hy n).same x1
            have m := m.same x1
            have ha := x1 _ _ ha
            have hv5 := x1 _ _ hv5
            tm_at "w"
            refine ⟨τ, _, rfl, m.now, by decide, by decide, fun r7 X2 x2 r70 r71 => ?_⟩
            have hi := fun y hy n => (hi y hy n).mv x2
            have m := m.trans x2
            have ha := x2.keep _ _ na ha
            have hv5 := x2.keep _ _ dv5 hv5
            have hc1 := x2.atT hc1
            obtain ⟨vz, evz, hvz⟩ := at_in r70 (show r7 < (([sp, .non, .ref v1, .ref v3, .ref v4, vo] : List V).length : Int) from r71)
            have hz := hi vz hvz
            clear hi
            refine ⟨_, _, _, _, rfl, rfl, SqL.of hv5, evz, ?_⟩
            tm_at "w"
            intro c2 nc2
            obtain ⟨X3, ex3, x3, hc2⟩ := new_hide (Same.new (o := .tup [vz]) (Same.refl _) nc2)
            rw [ex3]
            clear ex3
            refine cat_any (x3 _ _ hc1) hc2 (by rw [List.length_take]; have := lt_line (n := 90000) (by decide); show _ + 1 ≤ _; omega) fun c3 X4 x4 hc3 => ?_
            have ha := x4 _ _ (x3 _ _ ha)
            tm_at "w"
            tm_at "w"
            refine tNoPart_at' ?_
            refine slice_cut (ys := xs.drop (at_ + 1)) ha (by rw [show ((at_ : Int) + 1) = ((at_ + 1 : Nat) : Int) by omega]; exact cutV_drop _ _) fun c4 X5 x5 hc4 => ?_
            refine cat_any (x5 _ _ hc3) hc4 (by rw [List.length_append, List.length_take, List.length_drop]; have := lt_line (n := 90000) (by decide); show _ + 1 + _ ≤ _; omega) fun c5 X6 x6 hc5 => ?_
            have x36 := Same.trans x3 (Same.trans x4 (Same.trans x5 x6))
            have m := m.same x36
            refine k _ _ m (thb_tup hc5 (m.now.mv.neT hc5) (by rw [put_len al]; omega) (put_all (P := fun x => ∀ n, ThB (b + 1) T.C_Book τ.t X6 n x) (fun x hx n => ((hit x hx n).mv m).up (by omega)) fun n => (hz n).same x36))
          · have nb2 := m.now.mv.neT hb2
            obtain ⟨_, hit2⟩ := thb_items (fun n => (hsp n).mv m) hb2
            by_cases z2 : ys.length = 0
            · tm_at "w"
              refine iteET (by rw [z2]; rfl) ?_
              refine iteT ?_
              tm_at "w"
              try simp only [List.set_cons_zero, List.set_cons_succ]
              intro v1 nv1
              obtain ⟨K3, eK3, sK3, hv1⟩ := new_hide (Same.new (o := .lst [.ref b2]) (Same.refl K2) nv1)
              rw [eK3]
              clear eK3
              have dv1 := m.neN nv1
              have AT := AT.lst sK3 hv1 dv1
              have m := m.same sK3
              have ha := sK3 _ _ ha
              clear sK3 nv1 hv1 dv1
              tm_at "w"
              intro v2 nv2
              obtain ⟨K4, eK4, sK4, hv2⟩ := new_hide (Same.new (o := .tup [.int 0, .int 0]) (Same.refl K3) nv2)
              rw [eK4]
              clear eK4
              have dv2 := m.neN nv2
              have AT := AT.tup sK4 hv2 dv2 (fun x hx => by simp only [List.mem_cons, List.not_mem_nil, or_false] at hx; rcases hx with rfl | rfl <;> simp [atomB]) (by show 2 ≤ _; omega)
              have m := m.same sK4
              have ha := sK4 _ _ ha
              clear sK4 nv2 hv2 dv2
              tm_at "w"
              intro v3 nv3
              obtain ⟨K5, eK5, sK5, hv3⟩ := new_hide (Same.new (o := .tup [.ref v2]) (Same.refl K4) nv3)
              rw [eK5]
              clear eK5
              have dv3 := m.neN nv3
              have AT := AT.tup sK5 hv3 dv3 (fun x hx => by rw [List.mem_singleton.mp hx]; simp [atomB]) (by show 1 ≤ _; omega)
              have m := m.same sK5
              have ha := sK5 _ _ ha
              clear sK5 nv3 hv3 dv3
              tm_at "w"
              intro v4 nv4
              obtain ⟨K6, eK6, sK6, hv4⟩ := new_hide (Same.new (o := .tup []) (Same.refl K5) nv4)
              rw [eK6]
              clear eK6
              have dv4 := m.neN nv4
              have AT := AT.tup sK6 hv4 dv4 (fun x hx => by cases hx) (by show 0 ≤ _; omega)
              have m := m.same sK6
              have ha := sK6 _ _ ha
              clear sK6 nv4 hv4 dv4
              tm_at "w"
              refine ⟨m.now, fun vo K7 mK7 hvo => ?_⟩
              have AT := AT.mv mK7
              have m := m.trans mK7
              have ha := mK7.keep _ _ na ha
              have AT := AT.cons fun n => (hvo n).up (show 1 ≤ b + 1 by omega)
              clear mK7 hvo
              tm_at "w"
              intro v5 nv5
              show gName 7 _ _ (upd K7 v5 (.lst [.ref b2, .non, .ref v1, .ref v3, .ref v4, vo])) _
              obtain ⟨K8, eK8, sK8, hv5⟩ := new_hide (Same.new (o := .lst [.ref b2, .non, .ref v1, .ref v3, .ref v4, vo]) (Same.refl K7) nv5)
              rw [eK8]
              clear eK8
              have dv5 := m.neN nv5
              have AT := AT.lst sK8 hv5 dv5
              have m := m.same sK8
              have ha := sK8 _ _ ha
              clear sK8 nv5
              have hi := AT.it (xs := [.ref b2, .non, .ref v1, .ref v3, .ref v4, vo]) (fun x hx => by simp only [List.mem_cons, List.not_mem_nil, or_false] at hx; rcases hx with rfl | rfl | rfl | rfl | rfl | rfl <;> simp [atomB])
              clear AT
              tm_at "w"
              simp only [List.set_cons_zero, List.set_cons_succ]
              refine slice_cut (ys := xs.take at_) ha (cutV_take _ _) fun c1 X1 x1 hc1 => ?_
              have hi := fun y hy n => (hi y hy n).same x1
              have m := m.same x1
              have ha := x1 _ _ ha
              have hv5 := x1 _ _ hv5
              tm_at "w"
              refine ⟨τ, _, rfl, m.now, by decide, by decide, fun r7 X2 x2 r70 r71 => ?_⟩
              have hi := fun y hy n => (hi y hy n).mv x2
              have m := m.trans x2
              have ha := x2.keep _ _ na ha
              have hv5 := x2.keep _ _ dv5 hv5
              have hc1 := x2.atT hc1
              obtain ⟨vz, evz, hvz⟩ := at_in r70 (show r7 < (([.ref b2, .non, .ref v1, .ref v3, .ref v4, vo] : List V).length : Int) from r71)
              have hz := hi vz hvz
              clear hi
              refine ⟨_, _, _, _, rfl, rfl, SqL.of hv5, evz, ?_⟩
              tm_at "w"
              intro c2 nc2
              obtain ⟨X3, ex3, x3, hc2⟩ := new_hide (Same.new (o := .tup [vz]) (Same.refl _) nc2)
              rw [ex3]
              clear ex3
              refine cat_any (x3 _ _ hc1) hc2 (by rw [List.length_take]; have := lt_line (n := 90000) (by decide); show _ + 1 ≤ _; omega) fun c3 X4 x4 hc3 => ?_
              have ha := x4 _ _ (x3 _ _ ha)
              tm_at "w"
              tm_at "w"
              refine tNoPart_at' ?_
              refine slice_cut (ys := xs.drop (at_ + 1)) ha (by rw [show ((at_ : Int) + 1) = ((at_ + 1 : Nat) : Int) by omega]; exact cutV_drop _ _) fun c4 X5 x5 hc4 => ?_
              refine cat_any (x5 _ _ hc3) hc4 (by rw [List.length_append, List.length_take, List.length_drop]; have := lt_line (n := 90000) (by decide); show _ + 1 + _ ≤ _; omega) fun c5 X6 x6 hc5 => ?_
              have x36 := Same.trans x3 (Same.trans x4 (Same.trans x5 x6))
              have m := m.same x36
              refine k _ _ m (thb_tup hc5 (m.now.mv.neT hc5) (by rw [put_len al]; omega) (put_all (P := fun x => ∀ n, ThB (b + 1) T.C_Book τ.t X6 n x) (fun x hx n => ((hit x hx n).mv m).up (by omega)) fun n => (hz n).same x36))
            · tm_at "w"
              refine iteEF (by rw [decide_eq_false (fun e => z2 (by have := V.int.inj e; omega))]) ?_
              tm_at "w"
              have AY : AllTh (b + 1) T.C_Book τ K2 ys := fun x hx n => (hit2 x hx n).up (by omega)
              refine ⟨τ, _, rfl, m.now, by decide, by decide, fun q4 K3 mK3 q40 q41 => ?_⟩
              have AT := AT.mv mK3
              have AY := AY.mv mK3
              have m := m.trans mK3
              have ha := mK3.keep _ _ na ha
              have hb2 := mK3.keep _ _ nb2 hb2
              clear mK3
              tm_at "w"
              refine iteI (fun z3 => ?_) (fun z3 => ?_)
              · tm_at "w"
                try simp only [List.set_cons_zero, List.set_cons_succ]
                intro v1 nv1
                obtain ⟨K4, eK4, sK4, hv1⟩ := new_hide (Same.new (o := .lst [.ref b2]) (Same.refl K3) nv1)
                rw [eK4]
                clear eK4
                have dv1 := m.neN nv1
                have AT := AT.lst sK4 hv1 dv1
                have m := m.same sK4
                have ha := sK4 _ _ ha
                have hb2 := sK4 _ _ hb2
                have AY := AY.same sK4
                clear sK4 nv1 hv1 dv1
                tm_at "w"
                intro v2 nv2
                obtain ⟨K5, eK5, sK5, hv2⟩ := new_hide (Same.new (o := .tup [.int 0, .int 0]) (Same.refl K4) nv2)
                rw [eK5]
                clear eK5
                have dv2 := m.neN nv2
                have AT := AT.tup sK5 hv2 dv2 (fun x hx => by simp only [List.mem_cons, List.not_mem_nil, or_false] at hx; rcases hx with rfl | rfl <;> simp [atomB]) (by show 2 ≤ _; omega)
                have m := m.same sK5
                have ha := sK5 _ _ ha
                have hb2 := sK5 _ _ hb2
                have AY := AY.same sK5
                clear sK5 nv2 hv2 dv2
                tm_at "w"
                intro v3 nv3
                obtain ⟨K6, eK6, sK6, hv3⟩ := new_hide (Same.new (o := .tup [.ref v2]) (Same.refl K5) nv3)
                rw [eK6]
                clear eK6
                have dv3 := m.neN nv3
                have AT := AT.tup sK6 hv3 dv3 (fun x hx => by rw [List.mem_singleton.mp hx]; simp [atomB]) (by show 1 ≤ _; omega)
                have m := m.same sK6
                have ha := sK6 _ _ ha
                have hb2 := sK6 _ _ hb2
                have AY := AY.same sK6
                clear sK6 nv3 hv3 dv3
                tm_at "w"
                intro v4 nv4
                obtain ⟨K7, eK7, sK7, hv4⟩ := new_hide (Same.new (o := .tup []) (Same.refl K6) nv4)
                rw [eK7]
                clear eK7
                have dv4 := m.neN nv4
                have AT := AT.tup sK7 hv4 dv4 (fun x hx => by cases hx) (by show 0 ≤ _; omega)
                have m := m.same sK7
                have ha := sK7 _ _ ha
                have hb2 := sK7 _ _ hb2
                have AY := AY.same sK7
                clear sK7 nv4 hv4 dv4
                tm_at "w"
                refine ⟨m.now, fun vo K8 mK8 hvo => ?_⟩
                have AT := AT.mv mK8
                have AY := AY.mv mK8
                have m := m.trans mK8
                have ha := mK8.keep _ _ na ha
                have hb2 := mK8.keep _ _ nb2 hb2
                have AT := AT.cons fun n => (hvo n).up (show 1 ≤ b + 1 by omega)
                clear mK8 hvo
                tm_at "w"
                intro v5 nv5
                show gName 7 _ _ (upd K8 v5 (.lst [.ref b2, .non, .ref v1, .ref v3, .ref v4, vo])) _
                obtain ⟨K9, eK9, sK9, hv5⟩ := new_hide (Same.new (o := .lst [.ref b2, .non, .ref v1, .ref v3, .ref v4, vo]) (Same.refl K8) nv5)
                rw [eK9]
                clear eK9
                have dv5 := m.neN nv5
                have AT := AT.lst sK9 hv5 dv5
                have m := m.same sK9
                have ha := sK9 _ _ ha
                have hb2 := sK9 _ _ hb2
                have AY := AY.same sK9
                clear sK9 nv5
                have hi := AT.it (xs := [.ref b2, .non, .ref v1, .ref v3, .ref v4, vo]) (fun x hx => by simp only [List.mem_cons, List.not_mem_nil, or_false] at hx; rcases hx with rfl | rfl | rfl | rfl | rfl | rfl <;> simp [atomB])
                clear AT
                tm_at "w"
                simp only [List.set_cons_zero, List.set_cons_succ]
                refine slice_cut (ys := xs.take at_) ha (cutV_take _ _) fun c1 X1 x1 hc1 => ?_
                have hi := fun y hy n => (hi y hy n).same x1
                have m := m.same x1
                have ha := x1 _ _ ha
                have hv5 := x1 _ _ hv5
                tm_at "w"
                refine ⟨τ, _, rfl, m.now, by decide, by decide, fun r7 X2 x2 r70 r71 => ?_⟩
                have hi := fun y hy n => (hi y hy n).mv x2
                have m := m.trans x2
                have ha := x2.keep _ _ na ha
                have hv5 := x2.keep _ _ dv5 hv5
                have hc1 := x2.atT hc1
                obtain ⟨vz, evz, hvz⟩ := at_in r70 (show r7 < (([.ref b2, .non, .ref v1, .ref v3, .ref v4, vo] : List V).length : Int) from r71)
                have hz := hi vz hvz
                clear hi
                refine ⟨_, _, _, _, rfl, rfl, SqL.of hv5, evz, ?_⟩
                tm_at "w"
                intro c2 nc2
                obtain ⟨X3, ex3, x3, hc2⟩ := new_hide (Same.new (o := .tup [vz]) (Same.refl _) nc2)
                rw [ex3]
                clear ex3
                refine cat_any (x3 _ _ hc1) hc2 (by rw [List.length_take]; have := lt_line (n := 90000) (by decide); show _ + 1 ≤ _; omega) fun c3 X4 x4 hc3 => ?_
                have ha := x4 _ _ (x3 _ _ ha)
                tm_at "w"
                tm_at "w"
                refine tNoPart_at' ?_
                refine slice_cut (ys := xs.drop (at_ + 1)) ha (by rw [show ((at_ : Int) + 1) = ((at_ + 1 : Nat) : Int) by omega]; exact cutV_drop _ _) fun c4 X5 x5 hc4 => ?_
                refine cat_any (x5 _ _ hc3) hc4 (by rw [List.length_append, List.length_take, List.length_drop]; have := lt_line (n := 90000) (by decide); show _ + 1 + _ ≤ _; omega) fun c5 X6 x6 hc5 => ?_
                have x36 := Same.trans x3 (Same.trans x4 (Same.trans x5 x6))
                have m := m.same x36
                refine k _ _ m (thb_tup hc5 (m.now.mv.neT hc5) (by rw [put_len al]; omega) (put_all (P := fun x => ∀ n, ThB (b + 1) T.C_Book τ.t X6 n x) (fun x hx n => ((hit x hx n).mv m).up (by omega)) fun n => (hz n).same x36))
              · tm_at "w"
                refine ⟨τ, _, rfl, m.now, by omega, by omega, fun r K4 mK4 w0 w1 => ?_⟩
                obtain ⟨pl, rfl⟩ : ∃ n : Nat, r = n := ⟨r.toNat, by omega⟩
                have AT := AT.mv mK4
                have AY := AY.mv mK4
                have m := m.trans mK4
                have ha := mK4.keep _ _ na ha
                have hb2 := mK4.keep _ _ nb2 hb2
                have pll : pl < ys.length := by omega
                have hpl := List.getElem?_eq_getElem pll
                have hsq := AY _ (List.getElem_mem pll)
                have AT := AT.cons hsq
                clear mK4 hit2
                generalize ys[pl] = sq at hpl hsq AT
                simp only [List.set_cons_zero, List.set_cons_succ]
                tm_at "w"
                intro w1 nw1
                obtain ⟨K5, eK5, sK5, hw1⟩ := new_hide (Same.new (o := .tup [.int 0, .int 0]) (Same.refl K4) nw1)
                rw [eK5]
                clear eK5
                have dw1 := m.neN nw1
                have AT := AT.tup sK5 hw1 dw1 (fun x hx => by simp only [List.mem_cons, List.not_mem_nil, or_false] at hx; rcases hx with rfl | rfl <;> simp [atomB]) (by show 2 ≤ _; omega)
                have m := m.same sK5
                have ha := sK5 _ _ ha
                have hb2 := sK5 _ _ hb2
                have AY := AY.same sK5
                clear sK5 nw1 hw1 dw1
                tm_at "w"
                intro w2 nw2
                obtain ⟨K6, eK6, sK6, hw2⟩ := new_hide (Same.new (o := .lst [.int 0, .int 0]) (Same.refl K5) nw2)
                rw [eK6]
                clear eK6
                have dw2 := m.neN nw2
                have AT := AT.lst sK6 hw2 dw2
                have m := m.same sK6
                have ha := sK6 _ _ ha
                have hb2 := sK6 _ _ hb2
                have AY := AY.same sK6
                clear sK6 nw2 hw2 dw2
                tm_at "w"
                intro w3 nw3
                obtain ⟨K7, eK7, sK7, hw3⟩ := new_hide (Same.new (o := .tup [.int 5, .int 0]) (Same.refl K6) nw3)
                rw [eK7]
                clear eK7
                have dw3 := m.neN nw3
                have AT := AT.tup sK7 hw3 dw3 (fun x hx => by simp only [List.mem_cons, List.not_mem_nil, or_false] at hx; rcases hx with rfl | rfl <;> simp [atomB]) (by show 2 ≤ _; omega)
                have m := m.same sK7
                have ha := sK7 _ _ ha
                have hb2 := sK7 _ _ hb2
                have AY := AY.same sK7
                clear sK7 nw3 hw3 dw3
                tm_at "w"
                intro w4 nw4
                obtain ⟨K8, eK8, sK8, hw4⟩ := new_hide (Same.new (o := .tup [.int 6, .int 0]) (Same.refl K7) nw4)
                rw [eK8]
                clear eK8
                have dw4 := m.neN nw4
                have AT := AT.tup sK8 hw4 dw4 (fun x hx => by simp only [List.mem_cons, List.not_mem_nil, or_false] at hx; rcases hx with rfl | rfl <;> simp [atomB]) (by show 2 ≤ _; omega)
                have m := m.same sK8
                have ha := sK8 _ _ ha
                have hb2 := sK8 _ _ hb2
                have AY := AY.same sK8
                clear sK8 nw4 hw4 dw4
                tm_at "w"
                intro w5 nw5
                show tCons _ _ _ (upd K8 w5 (.tup [.int 0, .int (-1)])) _
                obtain ⟨K9, eK9, sK9, hw5⟩ := new_hide (Same.new (o := .tup [.int 0, .int (-1)]) (Same.refl K8) nw5)
                rw [eK9]
                clear eK9
                have dw5 := m.neN nw5
                have AT := AT.tup sK9 hw5 dw5 (fun x hx => by simp only [List.mem_cons, List.not_mem_nil, or_false] at hx; rcases hx with rfl | rfl <;> simp [atomB]) (by show 2 ≤ _; omega)
                have m := m.same sK9
                have ha := sK9 _ _ ha
                have hb2 := sK9 _ _ hb2
                have AY := AY.same sK9
                clear sK9 nw5 hw5 dw5
                tm_at "w"
                intro w6 nw6
                obtain ⟨K10, eK10, sK10, hw6⟩ := new_hide (Same.new (o := .tup [.bl true, .int 0]) (Same.refl K9) nw6)
                rw [eK10]
                clear eK10
                have dw6 := m.neN nw6
                have AT := AT.tup sK10 hw6 dw6 (fun x hx => by simp only [List.mem_cons, List.not_mem_nil, or_false] at hx; rcases hx with rfl | rfl <;> simp [atomB]) (by show 2 ≤ _; omega)
                have m := m.same sK10
                have ha := sK10 _ _ ha
                have hb2 := sK10 _ _ hb2
                have AY := AY.same sK10
                clear sK10 nw6 hw6 dw6
                tm_at "w"
                intro w7 nw7
                obtain ⟨K11, eK11, sK11, hw7⟩ := new_hide (Same.new (o := .tup [.int 0, .bl false]) (Same.refl K10) nw7)
                rw [eK11]
                clear eK11
                have dw7 := m.neN nw7
                have AT := AT.tup sK11 hw7 dw7 (fun x hx => by simp only [List.mem_cons, List.not_mem_nil, or_false] at hx; rcases hx with rfl | rfl <;> simp [atomB]) (by show 2 ≤ _; omega)
                have m := m.same sK11
                have ha := sK11 _ _ ha
                have hb2 := sK11 _ _ hb2
                have AY := AY.same sK11
                clear sK11 nw7 hw7 dw7
                tm_at "w"
                intro w8 nw8
                obtain ⟨K12, eK12, sK12, hw8⟩ := new_hide (Same.new (o := .tup [.int 0]) (Same.refl K11) nw8)
                rw [eK12]
                clear eK12
                have dw8 := m.neN nw8
                have AT := AT.tup sK12 hw8 dw8 (fun x hx => by rw [List.mem_singleton.mp hx]; simp [atomB]) (by show 1 ≤ _; omega)
                have m := m.same sK12
                have ha := sK12 _ _ ha
                have hb2 := sK12 _ _ hb2
                have AY := AY.same sK12
                clear sK12 nw8 hw8 dw8
                tm_at "w"
                intro w9 nw9
                obtain ⟨K13, eK13, sK13, hw9⟩ := new_hide (Same.new (o := .tup [.int 0, .int 0, .int 0]) (Same.refl K12) nw9)
                rw [eK13]
                clear eK13
                have dw9 := m.neN nw9
                have AT := AT.tup sK13 hw9 dw9 (fun x hx => by simp only [List.mem_cons, List.not_mem_nil, or_false] at hx; rcases hx with rfl | rfl | rfl <;> simp [atomB]) (by show 3 ≤ _; omega)
                have m := m.same sK13
                have ha := sK13 _ _ ha
                have hb2 := sK13 _ _ hb2
                have AY := AY.same sK13
                clear sK13 nw9 hw9 dw9
                tm_at "w"
                refine ⟨m.now, fun o1 K14 mK14 ho1 => ?_⟩
                have AT := AT.mv mK14
                have AY := AY.mv mK14
                have m := m.trans mK14
                have ha := mK14.keep _ _ na ha
                have hb2 := mK14.keep _ _ nb2 hb2
                have AT := AT.cons fun n => (ho1 n).up (show 1 ≤ b + 1 by omega)
                clear mK14 ho1
                tm_at "w"
                refine ⟨m.now, fun o2 K15 mK15 ho2 => ?_⟩
                have AT := AT.mv mK15
                have AY := AY.mv mK15
                have m := m.trans mK15
                have ha := mK15.keep _ _ na ha
                have hb2 := mK15.keep _ _ nb2 hb2
                have AT := AT.cons fun n => (ho2 n).up (show 1 ≤ b + 1 by omega)
                clear mK15 ho2
                tm_at "w"
                intro w11 nw11
                obtain ⟨K16, eK16, sK16, hw11⟩ := new_hide (Same.new (o := .tup [o2, .int 0]) (Same.refl K15) nw11)
                rw [eK16]
                clear eK16
                have dw11 := m.neN nw11
                have AT := AT.tup sK16 hw11 dw11 (fun x hx => by simp only [List.mem_cons, List.not_mem_nil, or_false] at hx; rcases hx with rfl | rfl <;> simp [atomB]) (by show 2 ≤ _; omega)
                have m := m.same sK16
                have ha := sK16 _ _ ha
                have hb2 := sK16 _ _ hb2
                have AY := AY.same sK16
                clear sK16 nw11 hw11 dw11
                tm_at "w"
                intro w12 nw12
                show gName 6 _ _ (upd K16 w12 (.lst [.ref w1, .ref w2, .ref w3, .ref w4, .ref w5, .ref w6, .ref w7, .ref w8, .ref w9, o1, .ref w11])) _
                obtain ⟨K17, eK17, sK17, hw12⟩ := new_hide (Same.new (o := .lst [.ref w1, .ref w2, .ref w3, .ref w4, .ref w5, .ref w6, .ref w7, .ref w8, .ref w9, o1, .ref w11]) (Same.refl K16) nw12)
                rw [eK17]
                clear eK17
                have dw12 := m.neN nw12
                have AT := AT.lst sK17 hw12 dw12
                have m := m.same sK17
                have ha := sK17 _ _ ha
                have hb2 := sK17 _ _ hb2
                have AY := AY.same sK17
                clear sK17 nw12
                simp only [List.set_cons_zero, List.set_cons_succ]
                tm_at "w"
                refine ⟨m.now, fun o3 K18 mK18 ho3 => ?_⟩
                have AT := AT.mv mK18
                have AY := AY.mv mK18
                have m := m.trans mK18
                have ha := mK18.keep _ _ na ha
                have hb2 := mK18.keep _ _ nb2 hb2
                have hw12 := mK18.keep _ _ dw12 hw12
                have AT := AT.cons fun n => (ho3 n).up (show 1 ≤ b + 1 by omega)
                clear mK18 ho3
                tm_at "w"
                intro w13 nw13
                obtain ⟨K19, eK19, sK19, hw13⟩ := new_hide (Same.new (o := .tup [.int 0, o3]) (Same.refl K18) nw13)
                rw [eK19]
                clear eK19
                have dw13 := m.neN nw13
                have AT := AT.tup sK19 hw13 dw13 (fun x hx => by simp only [List.mem_cons, List.not_mem_nil, or_false] at hx; rcases hx with rfl | rfl <;> simp [atomB]) (by show 2 ≤ _; omega)
                have m := m.same sK19
                have ha := sK19 _ _ ha
                have hb2 := sK19 _ _ hb2
                have hw12 := sK19 _ _ hw12
                have AY := AY.same sK19
                clear sK19 nw13 hw13 dw13
                tm_at "w"
                intro w14 nw14
                obtain ⟨K20, eK20, sK20, hw14⟩ := new_hide (Same.new (o := .lst [.ref w13, sq]) (Same.refl K19) nw14)
                rw [eK20]
                clear eK20
                have dw14 := m.neN nw14
                have AT := AT.lst sK20 hw14 dw14
                have m := m.same sK20
                have ha := sK20 _ _ ha
                have hb2 := sK20 _ _ hb2
                have hw12 := sK20 _ _ hw12
                have AY := AY.same sK20
                clear sK20 nw14
                refine cat_list hw12 hw14 (by have := lt_line (n := 90000) (by decide); show 11 + 2 ≤ _; omega) fun w15 Y1 y1 nw15 hw15 => ?_
                have dw15 := m.neN nw15
                have AT := AT.same y1
                have AY := AY.same y1
                have m := m.same y1
                have ha := y1 _ _ ha
                have hb2 := y1 _ _ hb2
                have hw12 := y1 _ _ hw12
                clear y1 hw12 hw14 nw15
                have hi := AT.it (xs := [.ref w1, .ref w2, .ref w3, .ref w4, .ref w5, .ref w6, .ref w7, .ref w8, .ref w9, o1, .ref w11] ++ [.ref w13, sq]) (fun x hx => by simp only [List.mem_append, List.mem_cons, List.not_mem_nil, or_false] at hx; rcases hx with (rfl | rfl | rfl | rfl | rfl | rfl | rfl | rfl | rfl | rfl | rfl) | (rfl | rfl) <;> simp [atomB])
                have hl13 : ([.ref w1, .ref w2, .ref w3, .ref w4, .ref w5, .ref w6, .ref w7, .ref w8, .ref w9, o1, .ref w11] ++ [.ref w13, sq] : List V).length = 13 := rfl
                have AT : AllTh (b + 1) T.C_Book τ Y1 [sq] := fun x hx n => AT x (by rw [List.mem_singleton.mp hx]; simp) n
                generalize [.ref w1, .ref w2, .ref w3, .ref w4, .ref w5, .ref w6, .ref w7, .ref w8, .ref w9, o1, .ref w11] ++ [.ref w13, sq] = odds at hi hl13 hw15
                simp only [List.set_cons_zero, List.set_cons_succ]
                tm_at "w"
                refine slice_cut (ys := ys.take pl) hb2 (cutV_take _ _) fun c1 X1 x1 hc1 => ?_
                have hi := fun y hy n => (hi y hy n).same x1
                have AT := AT.same x1
                have AY := AY.same x1
                have m := m.same x1
                have ha := x1 _ _ ha
                have hb2 := x1 _ _ hb2
                have hw15 := x1 _ _ hw15
                clear x1
                tm_at "w"
                refine ⟨τ, _, rfl, m.now, by decide, by decide, fun r8 X2 x2 r80 r81 => ?_⟩
                have hi := fun y hy n => (hi y hy n).mv x2
                have AT := AT.mv x2
                have AY := AY.mv x2
                have m := m.trans x2
                have ha := x2.keep _ _ na ha
                have hb2 := x2.keep _ _ nb2 hb2
                have hw15 := x2.keep _ _ dw15 hw15
                have hc1 := x2.atT hc1
                clear x2
                obtain ⟨vz, evz, hvz⟩ := at_in r80 (show r8 < (odds.length : Int) by omega)
                have hz := hi vz hvz
                clear hi
                refine ⟨_, _, _, _, rfl, rfl, SqL.of hw15, evz, ?_⟩
                tm_at "w"
                intro c2 nc2
                obtain ⟨X3, ex3, x3, hc2⟩ := new_hide (Same.new (o := .tup [vz]) (Same.refl X2) nc2)
                rw [ex3]
                clear ex3
                refine cat_any (x3 _ _ hc1) hc2 (by rw [List.length_take]; have := lt_line (n := 90000) (by decide); show _ + 1 ≤ _; omega) fun c3 X4 x4 hc3 => ?_
                have x34 := Same.trans x3 x4
                have AT := AT.same x34
                have AY := AY.same x34
                have m := m.same x34
                have ha := x34 _ _ ha
                have hb2 := x34 _ _ hb2
                have hz := fun n => (hz n).same x34
                clear x3 x4 x34 hc1 hc2 nc2 hw15
                tm_at "w"
                refine tNoPart_at' ?_
                refine slice_cut (ys := ys.drop (pl + 1)) hb2 (by rw [show ((pl : Int) + 1) = ((pl + 1 : Nat) : Int) by omega]; exact cutV_drop _ _) fun c4 X5 x5 hc4 => ?_
                refine cat_any (x5 _ _ hc3) hc4 (by rw [List.length_append, List.length_take, List.length_drop]; have := lt_line (n := 90000) (by decide); show _ + 1 + _ ≤ _; omega) fun c5 X6 x6 hc5 => ?_
                have x56 := Same.trans x5 x6
                have AT := AT.same x56
                have AY := AY.same x56
                have m := m.same x56
                have ha := x56 _ _ ha
                have hb2 := x56 _ _ hb2
                have hz := fun n => (hz n).same x56
                have AT := AT.cons (thb_tup hc5 (m.now.mv.neT hc5) (by rw [put_len pll]; omega) (put_all (P := fun x => ∀ n, ThB (b + 1) T.C_Book τ.t X6 n x) AY hz))
                clear hz x5 x6 x56 hc3 hc4 hc5
                tm_at "w"
                intro c6 nc6
                obtain ⟨X7, ex7, x7, hc6⟩ := new_hide (Same.new (o := .tup [sq]) (Same.refl X6) nc6)
                rw [ex7]
                clear ex7
                refine cat_any (x7 _ _ hb2) hc6 (by have := lt_line (n := 90000) (by decide); show _ + 1 ≤ _; omega) fun c7 X8 x8 hc7 => ?_
                have x78 := Same.trans x7 x8
                have AT := AT.same x78
                have AY := AY.same x78
                have m := m.same x78
                have ha := x78 _ _ ha
                have hb2 := x78 _ _ hb2
                clear x7 x8 x78 hc6 nc6
                have AT := AT.cons (thb_tup hc7 (m.now.mv.neT hc7) (by rw [List.length_append]; show _ + 1 ≤ _; omega) (fun x hx n => by rcases List.mem_append.mp hx with hx | hx; exact AY x hx n; exact AT x (by rw [List.mem_singleton.mp hx]; simp) n))
                tm_at "w"
                refine tNoPart_at' ?_
                refine slice_cut (ys := ys.drop 1) hb2 (cutV_drop _ 1) fun c8 X9 x9 hc8 => ?_
                have AT := AT.same x9
                have AY := AY.same x9
                have m := m.same x9
                have ha := x9 _ _ ha
                have hb2 := x9 _ _ hb2
                have AT := AT.cons (thb_tup hc8 (m.now.mv.neT hc8) (by rw [List.length_drop]; omega) (fun x hx n => AY x (List.mem_of_mem_drop hx) n))
                clear AY x9 hc8 hc7
                tm_at "w"
                intro w16 nw16
                show gName 7 _ _ (upd X9 w16 (.lst [.ref c5, .ref c7, .ref c8])) _
                obtain ⟨K21, eK21, sK21, hw16⟩ := new_hide (Same.new (o := .lst [.ref c5, .ref c7, .ref c8]) (Same.refl X9) nw16)
                rw [eK21]
                clear eK21
                have dw16 := m.neN nw16
                have fw16 := m.free nw16
                have AT := AT.lst sK21 hw16 dw16
                have m := m.same sK21
                have ha := sK21 _ _ ha
                have hb2 := sK21 _ _ hb2
                clear sK21 nw16
                simp only [List.set_cons_zero, List.set_cons_succ]
                tm_at "w"
                intro l nl
                obtain ⟨Z1, ez1, z1, hl⟩ := new_hide (Same.new (o := .lst ys) (Same.refl K21) nl)
                rw [ez1]
                clear ez1
                have dl := m.neN nl
                have AT := AT.lst z1 hl dl
                have m := m.same z1
                have ha := z1 _ _ ha
                have hw16 := z1 _ _ hw16
                tm_at "w"
                have hI : upd Z1 w16 (.lst ([V.ref c5, V.ref c7, V.ref c8] ++ [V.ref l])) w16 = some (.lst ([V.ref c5, V.ref c7, V.ref c8] ++ [V.ref l])) := upd_same
                have ha : upd Z1 w16 (.lst ([V.ref c5, V.ref c7, V.ref c8] ++ [V.ref l])) a = some (.tup xs) := (upd_ne (fun e => by rw [e, hw16] at ha; cases ha)).trans ha
                have AT := AT.mutL hw16 (ys := [V.ref c5, V.ref c7, V.ref c8] ++ [V.ref l])
                have m : Mv τ H (upd Z1 w16 (.lst ([V.ref c5, V.ref c7, V.ref c8] ++ [V.ref l]))) := m.mut fw16
                clear hl dl hw16 nl
                revert hI ha AT m
                generalize upd Z1 w16 (.lst ([V.ref c5, V.ref c7, V.ref c8] ++ [V.ref l])) = Z2
                intro hI ha AT m
                have hi : ∀ x ∈ [V.ref c5, V.ref c7, V.ref c8] ++ [V.ref l], ∀ n, ThB (b + 1) T.C_Book τ.t Z2 n x := fun x hx n => AT x (by simp only [List.mem_append, List.mem_cons, List.not_mem_nil, or_false] at hx ⊢; rcases hx with (rfl | rfl | rfl) | rfl <;> simp) n
                have il : ([V.ref c5, V.ref c7, V.ref c8] ++ [V.ref l] : List V).length = 4 := rfl
                generalize [V.ref c5, V.ref c7, V.ref c8] ++ [V.ref l] = its at hi il hI
                clear AT
                tm_at "w"
                refine slice_cut (ys := xs.take at_) ha (cutV_take _ _) fun c1 V1 v1 hc1 => ?_
                have hi := fun y hy n => (hi y hy n).same v1
                have m := m.same v1
                have ha := v1 _ _ ha
                have hI := v1 _ _ hI
                tm_at "w"
                refine ⟨τ, _, rfl, m.now, by decide, by decide, fun r9 V2 v2 r90 r91 => ?_⟩
                have hi := fun y hy n => (hi y hy n).mv v2
                have m := m.trans v2
                have ha := v2.keep _ _ na ha
                have hI := v2.keep _ _ dw16 hI
                have hc1 := v2.atT hc1
                tm_at "w"
                refine ⟨0, r9 - 3, rfl, ?_⟩
                obtain ⟨jj, ej, ej2⟩ := max3 r9
                obtain ⟨vz, evz, hvz⟩ := at_in (L := its) (r := (jj : Int)) (by omega) (by omega)
                rw [ej]
                have hz := hi vz hvz
                clear hi
                refine ⟨_, _, _, _, rfl, rfl, SqL.of hI, evz, ?_⟩
                tm_at "w"
                intro c2 nc2
                obtain ⟨X3, ex3, x3, hc2⟩ := new_hide (Same.new (o := .tup [vz]) (Same.refl _) nc2)
                rw [ex3]
                clear ex3
                refine cat_any (x3 _ _ hc1) hc2 (by rw [List.length_take]; have := lt_line (n := 90000) (by decide); show _ + 1 ≤ _; omega) fun c3 X4 x4 hc3 => ?_
                have ha := x4 _ _ (x3 _ _ ha)
                tm_at "w"
                tm_at "w"
                refine tNoPart_at' ?_
                refine slice_cut (ys := xs.drop (at_ + 1)) ha (by rw [show ((at_ : Int) + 1) = ((at_ + 1 : Nat) : Int) by omega]; exact cutV_drop _ _) fun c4 X5 x5 hc4 => ?_
                refine cat_any (x5 _ _ hc3) hc4 (by rw [List.length_append, List.length_take, List.length_drop]; have := lt_line (n := 90000) (by decide); show _ + 1 + _ ≤ _; omega) fun c5 X6 x6 hc5 => ?_
                have x36 := Same.trans x3 (Same.trans x4 (Same.trans x5 x6))
                have m := m.same x36
                refine k _ _ m (thb_tup hc5 (m.now.mv.neT hc5) (by rw [put_len al]; omega) (put_all (P := fun x => ∀ n, ThB (b + 1) T.C_Book τ.t X6 n x) (fun x hx n => ((hit x hx n).mv m).up (by omega)) fun n => (hz n).same x36))
/-! _law_told -/
theorem RL.uniq {α : Type} {R : V → α → Prop} (u : ∀ v s t, R v s → R v t → s = t) {xs : List V} {l m : List α} (h : RL R xs l) (g : RL R xs m) : l = m := by
  refine List.ext_getElem? fun j => ?_
  by_cases hj : j < xs.length
  · have e := List.getElem?_eq_getElem hj
    obtain ⟨s, h1, h2⟩ := h.at e
    obtain ⟨t, h3, h4⟩ := g.at e
    rw [h1, h3, u _ _ _ h2 h4]
  · rw [List.getElem?_eq_none (by have := h.1; omega), List.getElem?_eq_none (by have := g.1; omega)]
theorem SpotV.uniq {H : Hp} (v : V) (s t : Nat × Nat) (h : SpotV H v s) (g : SpotV H v t) : s = t := by
  obtain ⟨c, rfl, h1⟩ := h
  obtain ⟨d, e, g1⟩ := g
  cases e
  rw [h1] at g1
  have e := HO.tup.inj (Option.some.inj g1)
  have e1 := V.int.inj (List.cons.inj e).1
  have e2 := V.int.inj (List.cons.inj (List.cons.inj e).2).1
  have e3 : s.1 = t.1 := by omega
  have e4 : s.2 = t.2 := by omega
  exact Prod.ext e3 e4
theorem SpotsAt.uniq {H : Hp} (v : V) (l m : List (Nat × Nat)) (h : SpotsAt H v l) (g : SpotsAt H v m) : l = m := by
  obtain ⟨b, ys, rfl, h1, h2⟩ := h
  obtain ⟨c, zs, e, g1, g2⟩ := g
  cases e
  rw [h1] at g1
  have e := HO.tup.inj (Option.some.inj g1)
  subst e
  exact RL.uniq SpotV.uniq h2 g2
theorem LayAt.uniq {H : Hp} {a : Addr} {L M : List (List (Nat × Nat))} (h : LayAt H a L) (g : LayAt H a M) : L = M := by
  obtain ⟨xs, h1, h2⟩ := h
  obtain ⟨ys, g1, g2⟩ := g
  rw [h1] at g1
  have e := HO.tup.inj (Option.some.inj g1)
  subst e
  exact RL.uniq SpotsAt.uniq h2 g2
theorem LayAt.th {C : Addr} {τ : Tp} {H : Hp} {a : Addr} {L : List (List (Nat × Nat))} (t : Tape τ H) (h : LayAt H a L) (few : L.length ≤ 1000) (six : ∀ i, (L.getD i []).length ≤ 6) : Th C τ.t H 3 (.ref a) := by
  obtain ⟨xs, h1, h2⟩ := h
  refine .tup 2 a _ (t.mv.neT h1) h1 (by rw [h2.1]; exact few) fun v hv => ?_
  obtain ⟨j, hj⟩ := List.mem_iff_getElem?.mp hv
  obtain ⟨l, hl, b, ys, rfl, h3, h4⟩ := h2.at hj
  have h6 := six j
  rw [List.getD_eq_getElem?_getD, hl] at h6
  have h6 : l.length ≤ 6 := h6
  refine .tup 1 b _ (t.mv.neT h3) h3 (by rw [h4.1]; omega) fun u hu => ?_
  obtain ⟨i, hi⟩ := List.mem_iff_getElem?.mp hu
  obtain ⟨s, hs, c, rfl, h5⟩ := h4.at hi
  refine .tup 0 c _ (t.mv.neT h5) h5 (by show 2 ≤ 1000; decide) fun w hw => ?_
  simp only [List.mem_cons, List.not_mem_nil, or_false] at hw
  rcases hw with rfl | rfl
  · exact .int 0 _
  · exact .int 0 _
theorem RL.choose {α : Type} {R : V → α → Prop} {A : Nat → α → Prop} : ∀ {xs : List V} {k : Nat}, (∀ (j : Nat) v, xs[j]? = some v → ∃ s, A (k + j) s ∧ R v s) → ∃ l, RL R xs l ∧ ∀ j s, l[j]? = some s → A (k + j) s
  | [], _, _ => ⟨[], RL.nil, fun j s e => by simp at e⟩
  | v :: r, k, h => by
    obtain ⟨s, h1, h2⟩ := h 0 v rfl
    obtain ⟨l, h3, h4⟩ := RL.choose (xs := r) (k := k + 1) (A := A) (R := R) fun j u e => by
      obtain ⟨t, h5, h6⟩ := h (j + 1) u e
      exact ⟨t, by rw [show k + 1 + j = k + (j + 1) by omega]; exact h5, h6⟩
    refine ⟨s :: l, RL.cons h2 h3, fun j t e => ?_⟩
    cases j with
    | zero =>
      rw [← Option.some.inj e]
      exact h1
    | succ j =>
      rw [show k + (j + 1) = k + 1 + j by omega]
      exact h4 j t e
theorem mixed_of {L M : List (List (Nat × Nat))} (hl : M.length = L.length) (h : ∀ (j : Nat) (l : List (Nat × Nat)), M[j]? = some l → l.Perm (L.getD j [])) : Mixed L M := fun x => by
  by_cases hx : x < M.length
  · have e := List.getElem?_eq_getElem hx
    rw [List.getD_eq_getElem?_getD, e]
    exact h x _ e
  · rw [List.getD_eq_getElem?_getD, List.getD_eq_getElem?_getD, List.getElem?_eq_none (by omega), List.getElem?_eq_none (by omega)]
theorem mixed_fits {L M : List (List (Nat × Nat))} {F : List Nat} (h : Mixed L M) (hl : M.length = L.length) (f : Fits L F) : Fits M F := ⟨hl.trans f.1, fun i hi => (h i).length_eq.trans (f.2 i hi)⟩
theorem arms_get {L : List (List (Nat × Nat))} {m : Int} : armsB L m = true ↔ ∀ x, ∀ s ∈ L.getD x [], (s.1 : Int) < m := by
  unfold armsB
  constructor
  · intro h x s hs
    by_cases hx : x < L.length
    · rw [List.getD_eq_getElem?_getD, List.getElem?_eq_getElem hx] at hs
      exact of_decide_eq_true (List.all_eq_true.mp (List.all_eq_true.mp h _ (List.getElem_mem hx)) s hs)
    · rw [List.getD_eq_getElem?_getD, List.getElem?_eq_none (by omega)] at hs
      cases hs
  · intro h
    refine List.all_eq_true.mpr fun l hl => List.all_eq_true.mpr fun s hs => decide_eq_true ?_
    obtain ⟨x, hx⟩ := List.mem_iff_getElem?.mp hl
    refine h x s ?_
    rw [List.getD_eq_getElem?_getD, hx]
    exact hs
theorem mixed_arms {L M : List (List (Nat × Nat))} {m : Int} (h : Mixed L M) (a : armsB L m = true) : armsB M m = true := arms_get.mpr fun x s hs => arms_get.mp a x s ((h x).mem_iff.mp hs)
theorem arms_mono {L : List (List (Nat × Nat))} {m k : Int} (h : armsB L m = true) (l : m ≤ k) : armsB L k = true := arms_get.mpr fun x s hs => by
  have := arms_get.mp h x s hs
  omega
theorem HolV.alk {H : Hp} {v w : V} {r : Option (Nat × Nat × Nat)} (h : HolV H v r) (g : HolV H w r) : Alk H 1 v w := by
  cases r with
  | none =>
    cases h
    cases g
    exact .non 1
  | some r =>
    obtain ⟨t, rfl, h⟩ := h
    obtain ⟨u, rfl, g⟩ := g
    refine .tup 0 t u _ _ h g rfl (by show 3 ≤ 100000; decide) fun i x y ex ey => ?_
    rw [ex] at ey
    rw [← Option.some.inj ey]
    rcases i with _ | _ | _ | i
    · rw [← Option.some.inj ex]
      exact .int 0 _
    · rw [← Option.some.inj ex]
      exact .int 0 _
    · rw [← Option.some.inj ex]
      exact .int 0 _
    · simp at ex
theorem HolV.same {H H' : Hp} {v : V} {r : Option (Nat × Nat × Nat)} (h : HolV H v r) (s : Same H H') : HolV H' v r := by
  cases r with
  | none => exact h
  | some r =>
    obtain ⟨t, rfl, h⟩ := h
    exact ⟨t, rfl, s _ _ h⟩
theorem HolV.none {H : Hp} {v : V} {r : Option (Nat × Nat × Nat)} (h : HolV H v r) : decide (v = .non) = decide (r = none) := by
  cases r with
  | none =>
    cases h
    rfl
  | some r =>
    obtain ⟨t, rfl, _⟩ := h
    rfl
/-- the greatest arm of a row -/
def maxA (l : List (Nat × Nat)) : Nat := (l.map (·.1)).max?.getD 0
theorem maxA_is {l : List (Nat × Nat)} {k : Int} (h : k ∈ (l.map (·.1)).map fun z : Nat => (z : Int)) (g : ∀ y ∈ (l.map (·.1)).map (fun z : Nat => (z : Int)), y ≤ k) : k = (maxA l : Int) := by
  obtain ⟨n, hn, rfl⟩ := List.mem_map.mp h
  have e : (l.map (·.1)).max? = some n := by
    rw [List.max?_eq_some_iff]
    refine ⟨hn, fun b hb => ?_⟩
    have := g _ (List.mem_map.mpr ⟨b, hb, rfl⟩)
    omega
  show (n : Int) = (((l.map (·.1)).max?.getD 0 : Nat) : Int)
  rw [e]
  rfl
theorem maxA_mem {l : List (Nat × Nat)} (h : 0 < l.length) : ∃ s ∈ l, s.1 = maxA l := by
  cases e : (l.map (·.1)).max? with
  | none =>
    rw [List.max?_eq_none_iff] at e
    have := congrArg List.length e
    rw [List.length_map] at this
    simp at this
    rw [this] at h
    cases h
  | some n =>
    have := (List.max?_eq_some_iff.mp e).1
    obtain ⟨s, h1, h2⟩ := List.mem_map.mp this
    refine ⟨s, h1, ?_⟩
    show s.1 = (l.map (·.1)).max?.getD 0
    rw [e, h2]
    rfl
def usedF (l : List (Nat × Nat)) : Option V := if decide (0 < l.length) = true then some (V.int ((maxA l : Int) + 1)) else none
theorem used_vs : ∀ {L : List (List (Nat × Nat))}, ∃ q : List Nat, L.filterMap usedF = natsV q ∧ (∀ u ∈ q, ∃ l ∈ L, 0 < l.length ∧ u = maxA l + 1) ∧ q.length ≤ L.length
  | [] => ⟨[], rfl, (fun u hu => by cases hu), Nat.le_refl _⟩
  | l :: r => by
    obtain ⟨q, e, h, hl⟩ := used_vs (L := r)
    rw [List.filterMap_cons]
    unfold usedF
    by_cases z : 0 < l.length
    · rw [decide_eq_true z, if_pos rfl]
      refine ⟨(maxA l + 1) :: q, ?_, fun u hu => ?_, by simp only [List.length_cons]; omega⟩
      · show V.int ((maxA l : Int) + 1) :: r.filterMap usedF = V.int (((maxA l + 1 : Nat)) : Int) :: natsV q
        rw [e]
        rfl
      · rcases List.mem_cons.mp hu with rfl | hu
        · exact ⟨l, List.mem_cons_self, z, rfl⟩
        · obtain ⟨l2, h1, h2⟩ := h u hu
          exact ⟨l2, List.mem_cons_of_mem _ h1, h2⟩
    · rw [decide_eq_false z, if_neg Bool.false_ne_true]
      refine ⟨q, e, fun u hu => ?_, by simp only [List.length_cons]; omega⟩
      obtain ⟨l2, h1, h2⟩ := h u hu
      exact ⟨l2, List.mem_cons_of_mem _ h1, h2⟩
theorem natsV_inj' : ∀ {a b : List Nat}, natsV a = natsV b → a = b
  | [], [], _ => rfl
  | [], _ :: _, h => by cases h
  | _ :: _, [], h => by cases h
  | x :: r, y :: q, h => by
    have h1 := V.int.inj (List.cons.inj h).1
    have h2 := natsV_inj' (List.cons.inj h).2
    rw [h2, show x = y by omega]
theorem nats_th {C : Addr} {τ : Tp} {H : Hp} {g : Addr} {G : List Nat} (t : Tape τ H) (h : H g = some (.tup (natsV G))) (l : G.length ≤ 1000) : Th C τ.t H 1 (.ref g) :=
  .tup 0 g _ (t.mv.neT h) h (by rw [natsV_len]; exact l) fun y hy => (by obtain ⟨n, _, rfl⟩ := List.mem_map.mp hy; exact .int 0 _)
def sp__law_told (C : Addr) (K : PySem.W.Frag) : Sp := fun vs H Q _ => ∃ (l : Bk) (P : List (List Nat)) (f : Addr) (F : List Nat) (v : V) (z : Addr), vs = [.ref l.b, .ref f, v] ∧ BookAt C H l P ∧ OkP P ∧ P.length ≤ 400 ∧ KitC K C ∧ H f = some (.tup (natsV F)) ∧ F.length = P.length ∧ (∀ x ∈ F, x ≤ 6) ∧ f ≠ z ∧ Th C z H 3 v ∧
  (plsB H F 6 v = false → ∀ H', Same H H' → Q (.str "laying") H') ∧
  ∀ a L, v = .ref a → LayAt H a L → Fits L F → armsB L 6 = true → ∀ t w r H', Same H H' → FirstIs P L r → HolV H' w r → H' t = some (.tup [.str "told", w]) → Q (.ref t) H'
theorem sc__law_told : FnScope ["_law_book", "_law_brought_here", "_law_thing", "_law_word", "e"] ["_law_book", "_law_brought_here", "_law_thing"] (defScope s__law_told) := ⟨rfl, rfl, rfl, by decide +kernel, rfl, by decide +kernel, by decide +kernel⟩
theorem ok__law_told (T : Top P K mg) : FnOk P w K mg base CX0 6 T.f__law_told T.fd__law_told ["_law_book", "_law_brought_here", "_law_thing"] (sp__law_told T.C_Book K) := by
  have G_first_hole := ok_first_hole (P := P) (w := w) (base := base) T
  refine T.F__law_told.ok sc__law_told (fun vs H Q E h => ?_) (fun cdv A outer s H vs Q E hr h => ?_)
  · obtain ⟨l, P, f, F, v, z, rfl, _⟩ := h
    rfl
  · obtain ⟨l, P, f, F, v, z, rfl, hl, okP, few, kc, hf, fl, f6, nfz, hv, ke, k⟩ := h
    refine ⟨_, (pss_cons (ps_set (i := 3) sc__law_told.nd rfl (Or.inl rfl) pe_str)
      (pss_cons (ps_try_as (i := 4) (Wout := fun _ _ _ _ => False) rfl rfl sc__law_told.nd rfl rfl ⟨rfl, by decide, .inl T.g_KindError⟩ takes0 (fun W pn xe tk _ => (pss_one (ps_set (i := 3) sc__law_told.nd rfl (Or.inl rfl) (pe_tup (pa_cons pe_str (pa_cons (pe_callS G_first_hole hr (by rfl) T.g_first_hole T.F_first_hole.kp T.b_first_hole (fun σ => passAt tk σ) (by exact (pa_cons (pv 0) (pa_cons (pv 1) (pa_cons (pv 2) pa_nil))))) pa_nil)))))) (fun xa xo xc xd pn hz hf => (by exact (pss_one (ps_if (PW.pt (pw_and (pt_val (pe_callB (r := rIsG K xa xc xd) (id := "isinstance") (call_isG hz hf) (by rfl) T.z_isinstance (by decide +kernel) (pa_cons (pv 4) (pa_cons (pe_glob (v := .ref T.C_NoLaying) (by rfl) T.er_NoLaying.g rfl) pa_nil)))) (pw_and1 (pt_val (pe_callB (r := rIsG K xa xc xd) (id := "isinstance") (call_isG hz hf) (by rfl) T.z_isinstance (by decide +kernel) (pa_cons (pv 4) (pa_cons (pe_bltn (v := .ty "ValueError") (u := .type "ValueError") (by rfl) T.z_ValueError (by decide +kernel) rfl) pa_nil))))))) (pss_one (ps_set (i := 3) sc__law_told.nd rfl (Or.inl rfl) pe_str)) pss_nil)))))
      (pss_one (ps_ret (pv 3))))), ?_⟩
    have hu : Th T.C_Book z H 1 (.ref f) := .tup 0 f _ nfz hf (by rw [natsV_len]; omega) fun y hy => (by obtain ⟨n, _, rfl⟩ := List.mem_map.mp hy; exact .int 0 _)
    tm_at "w"
    refine ⟨l, .ref f, v, P, z, rfl, hl, okP, few, kc, hu, hv, fun e => ?_, fun f' F' ef hF' fl' f6' => ?_⟩
    · rw [fldB_nats hf fl f6] at e
      cases e
    cases ef
    rw [hf] at hF'
    obtain rfl := natsV_inj' (HO.tup.inj (Option.some.inj hF'))
    refine ⟨fun e H1 s1 => ?_, fun a L ea hL ft ar w r H1 s1 fi ho => ?_⟩
    · have ke := ke e
      refine ⟨true, T.xm_NoLaying_KindError, fun _ xa hxa => ?_, fun q => nomatch q⟩
      tm_at "w"
      refine ⟨T.er_NoLaying.xc, _, _, true, rfl, (fun u r => r), T.kt_NoLaying_NoLaying, ?_⟩
      tm_at "w"
      refine ⟨T.er_NoLaying.xc, _, _, true, rfl, (fun u r => r), T.kt_NoLaying_ValueError, ?_⟩
      tm_at "w"
      exact ke _ s1
    · tm_at "w"
      intro t nt
      tm_at "w"
      refine k a L ea hL ft ar t w r _ (Same.new s1 nt) fi (ho.same (Same.new (Same.refl H1) nt)) upd_same
/-! law -/
def sp_law (K : PySem.W.Frag) : Sp := fun vs H Q _ => ∃ (a : Addr) (ns : List Int), vs = [.ref a] ∧ SqL K H a (ns.map V.int) ∧ ns.length ≤ 63 ∧ ∀ H', Q (.bl true) H'
theorem lay_thb {C : Addr} {τ : Tp} {H : Hp} {a : Addr} {L : List (List (Nat × Nat))} (t : Tape τ H) (h : LayAt H a L) (few : L.length ≤ 6) (six : ∀ i, (L.getD i []).length ≤ 6) : ∀ n, ThB 6 C τ.t H n (.ref a) := by
  obtain ⟨xs, h1, h2⟩ := h
  refine thb_tup h1 (t.mv.neT h1) (by rw [h2.1]; exact few) fun v hv => ?_
  obtain ⟨j, hj⟩ := List.mem_iff_getElem?.mp hv
  obtain ⟨l, hl, b, ys, rfl, h3, h4⟩ := h2.at hj
  have h6 := six j
  rw [List.getD_eq_getElem?_getD, hl] at h6
  have h6 : l.length ≤ 6 := h6
  refine thb_tup h3 (t.mv.neT h3) (by rw [h4.1]; omega) fun u hu => ?_
  obtain ⟨i, hi⟩ := List.mem_iff_getElem?.mp hu
  obtain ⟨s, hs, c, rfl, h5⟩ := h4.at hi
  refine thb_tup h5 (t.mv.neT h5) (by show 2 ≤ 6; decide) fun w hw => ?_
  simp only [List.mem_cons, List.not_mem_nil, or_false] at hw
  rcases hw with rfl | rfl
  · exact fun n => .int n _
  · exact fun n => .int n _
/-- what is due -/
def Due (J J2 : Hp) (P : List (List Nat)) (F : List Nat) (v d : V) : Prop := (plsB J F 6 v = false ∧ d = .str "laying") ∨
  ∃ a L r w t, plsB J F 6 v = true ∧ v = .ref a ∧ LayAt J a L ∧ FirstIs P L r ∧ HolV J2 w r ∧ d = .ref t ∧ J2 t = some (.tup [.str "told", w])
def Full (J : Hp) (P : List (List Nat)) (F : List Nat) (m : Nat) (v f : V) : Prop := (plsB J F m v = false ∧ f = .bl false) ∨
  ∃ a L r, plsB J F m v = true ∧ v = .ref a ∧ LayAt J a L ∧ FirstIs P L r ∧ f = .bl (decide (r = none))
theorem told_alk {H : Hp} {t u : Addr} {x y : V} {r : Option (Nat × Nat × Nat)} (h1 : H t = some (.tup [.str "told", x])) (h2 : H u = some (.tup [.str "told", y])) (hx : HolV H x r) (hy : HolV H y r) : Alk H 2 (.ref t) (.ref u) :=
  .tup 1 t u _ _ h1 h2 rfl (by show 2 ≤ 100000; decide) fun i a b ea eb => by
    rcases i with _ | _ | i
    · rw [← Option.some.inj ea, ← Option.some.inj eb]
      exact .str 1 _
    · rw [← Option.some.inj ea, ← Option.some.inj eb]
      exact hx.alk hy
    · simp at ea
theorem sc_law : FnScope ["_law_script", "_law_hand_here", "_law_turn", "_law_many", "_law_parents_here", "_law_sheet_here", "_law_book", "_law_brought_here", "_law_arms", "_law_thing", "_law_again", "_law_due", "_law_full"] ["_law_script"] (defScope s_law) := ⟨rfl, rfl, rfl, by decide +kernel, rfl, by decide +kernel, by decide +kernel⟩
theorem ok_law (T : Top P K mg) : FnOk P w K mg base CX0 9 T.f_law T.fd_law ["_law_script"] (sp_law K) := by
  have G_Book___init__ := ok_Book___init__ (P := P) (w := w) (base := base) T
  have G__law_bent := ok__law_bent (P := P) (w := w) (base := base) T
  have G__law_brought := ok__law_brought (P := P) (w := w) (base := base) T
  have G__law_draw := ok__law_draw (P := P) (w := w) (base := base) T
  have G__law_first_hole := ok__law_first_hole (P := P) (w := w) (base := base) T
  have G__law_flag := ok__law_flag (P := P) (w := w) (base := base) T
  have G__law_hand := ok__law_hand (P := P) (w := w) (base := base) T
  have G__law_has_places := ok__law_has_places (P := P) (w := w) (base := base) T
  have G__law_is := ok__law_is (P := P) (w := w) (base := base) T
  have G__law_parents := ok__law_parents (P := P) (w := w) (base := base) T
  have G__law_poured := ok__law_poured (P := P) (w := w) (base := base) T
  have G__law_sheet := ok__law_sheet (P := P) (w := w) (base := base) T
  have G__law_told := ok__law_told (P := P) (w := w) (base := base) T
  have G_is_laying := ok_is_laying (P := P) (w := w) (base := base) T
  refine T.F_law.ok sc_law (fun vs H Q E h => ?_) (fun cdv A outer s H vs Q E hr h => ?_)
  · obtain ⟨a, ns, rfl, _⟩ := h
    rfl
  · obtain ⟨a, ns, rfl, hS, hlen, k⟩ := h
    refine ⟨_, (pss_cons (ps_set (i := 1) sc_law.nd rfl (Or.inl rfl) (pe_call G__law_hand (hr.mono (by decide)) (by rfl) T.g__law_hand T.F__law_hand.kp T.b__law_hand .nil pass0 (pa_cons (pv 0) pa_nil)))
      (pss_cons (ps_for PassesOwn.never rfl (pi_range1 rfl T.z_range (pa_cons pe_int pa_nil)) (pg_name (i := 2) sc_law.nd rfl (Or.inl rfl))
      (pss_cons (ps_set (i := 3) sc_law.nd rfl (Or.inl rfl) (pe_call G__law_draw (hr.mono (by decide)) (by rfl) T.g__law_draw T.F__law_draw.kp T.b__law_draw .nil pass0 (pa_cons (pv 1) (pa_cons pe_int pa_nil))))
      (pss_cons (ps_set (i := 4) sc_law.nd rfl (Or.inl rfl) (pe_call G__law_parents (hr.mono (by decide)) (by rfl) T.g__law_parents T.F__law_parents.kp T.b__law_parents .nil pass0 (pa_cons (pv 1) (pa_cons (pv 3) (pa_cons pe_int pa_nil)))))
      (pss_cons (ps_set (i := 5) sc_law.nd rfl (Or.inl rfl) (pe_call G__law_sheet (hr.mono (by decide)) (by rfl) T.g__law_sheet T.F__law_sheet.kp T.b__law_sheet .nil pass0 (pa_cons (pv 4) pa_nil)))
      (pss_cons (ps_set (i := 6) sc_law.nd rfl (Or.inl rfl) (pe_make T.M_Book G_Book___init__ (hr.mono (by decide)) (by rfl) T.g_Book T.b_Book___init__ .nil pass0 (pa_cons (pv 4) pa_nil)))
      (pss_cons (ps_set (i := 7) sc_law.nd rfl (Or.inl rfl) (pe_call G__law_brought (hr.mono (by decide)) (by rfl) T.g__law_brought T.F__law_brought.kp T.b__law_brought .nil pass0 (pa_cons (pv 1) (pa_cons (pv 3) (pa_cons pe_int pa_nil)))))
      (pss_cons (ps_set (i := 8) sc_law.nd rfl (Or.inl rfl) (pe_op op_add pe_int (pe_call G__law_draw (hr.mono (by decide)) (by rfl) T.g__law_draw T.F__law_draw.kp T.b__law_draw .nil pass0 (pa_cons (pv 1) (pa_cons pe_int pa_nil)))))
      (pss_cons (ps_set (i := 9) sc_law.nd rfl (Or.inl rfl) (pe_call G__law_poured (hr.mono (by decide)) (by rfl) T.g__law_poured T.F__law_poured.kp T.b__law_poured .nil pass0 (pa_cons (pv 1) (pa_cons (pv 5) (pa_cons (pv 7) (pa_cons (pv 8) pa_nil))))))
      (pss_one (ps_for PassesOwn.never rfl (pi_range1 rfl T.z_range (pa_cons pe_int pa_nil)) (pg_name (i := 10) sc_law.nd rfl (Or.inl rfl))
      (pss_cons (ps_set (i := 11) sc_law.nd rfl (Or.inl rfl) pe_str)
      (C8.pss_cut (ps_if (pt_val (pe_call G__law_has_places (hr.mono (by decide)) (by rfl) T.g__law_has_places T.F__law_has_places.kp T.b__law_has_places .nil pass0 (pa_cons (pv 7) (pa_cons pe_int (pa_cons (pv 9) pa_nil))))) (pss_one (ps_set (i := 11) sc_law.nd rfl (Or.inl rfl) (pe_tup (pa_cons pe_str (pa_cons (pe_call G__law_first_hole (hr.mono (by decide)) (by rfl) T.g__law_first_hole T.F__law_first_hole.kp T.b__law_first_hole .nil pass0 (pa_cons (pv 5) (pa_cons (pv 9) pa_nil))) pa_nil))))) pss_nil)
      (C8.pss_cut (ps_if (pt_not (pt_val (pe_call G__law_is (hr.mono (by decide)) (by rfl) T.g__law_is T.F__law_is.kp T.b__law_is .nil pass0 (pa_cons (pe_call G__law_told (hr.mono (by decide)) (by rfl) T.g__law_told T.F__law_told.kp T.b__law_told .nil pass0 (pa_cons (pv 6) (pa_cons (pv 7) (pa_cons (pv 9) pa_nil)))) (pa_cons (pv 11) pa_nil))))) (pss_one (ps_ret pe_bl)) pss_nil)
      (C8.pss_cut (ps_set (i := 12) sc_law.nd rfl (Or.inl rfl) (pe_and (pe_call G__law_has_places (hr.mono (by decide)) (by rfl) T.g__law_has_places T.F__law_has_places.kp T.b__law_has_places .nil pass0 (pa_cons (pv 7) (pa_cons (pv 8) (pa_cons (pv 9) pa_nil)))) (pe_one (pe_cmpR op_isN (pe_call G__law_first_hole (hr.mono (by decide)) (by rfl) T.g__law_first_hole T.F__law_first_hole.kp T.b__law_first_hole .nil pass0 (pa_cons (pv 5) (pa_cons (pv 9) pa_nil))) pe_non (nomark _)))))
      (C8.pss_cut (ps_if (pt_not (pt_val (pe_call G__law_flag (hr.mono (by decide)) (by rfl) T.g__law_flag T.F__law_flag.kp T.b__law_flag .nil pass0 (pa_cons (pe_callS G_is_laying (hr.mono (by decide)) (by rfl) T.g_is_laying T.F_is_laying.kp T.b_is_laying (fun σ => passAt takes0 σ) (by exact (pa_cons (pv 6) (pa_cons (pv 7) (pa_cons (pv 8) (pa_cons (pv 9) pa_nil)))))) (pa_cons (pv 12) pa_nil))))) (pss_one (ps_ret pe_bl)) pss_nil)
      (pss_one (ps_set (i := 9) sc_law.nd rfl (Or.inl rfl) (pe_call G__law_bent hr (by rfl) T.g__law_bent T.F__law_bent.kp T.b__law_bent .nil pass0 (pa_cons (pv 1) (pa_cons (pv 9) pa_nil))))))))))))))))))))
      (pss_one (ps_ret pe_bl)))), ?_⟩
    have kc : KitC K T.C_Book := ⟨T.cl_Book, T.ty_Book, T.kt_Book_int, T.kt_Book_bool, T.kt_Book_tuple, T.kt_Book_list⟩
    tm_at "w"
    refine ⟨a, ns, rfl, hS, hlen, fun τ H1 s1 _ m1 => ?_⟩
    have est : L2.start ["_law_script", "_law_hand_here", "_law_turn", "_law_many", "_law_parents_here", "_law_sheet_here", "_law_book", "_law_brought_here", "_law_arms", "_law_thing", "_law_again", "_law_due", "_law_full"] [V.ref a] = ([some (.ref a), none, none, none, none, none, none, none, none, none, none, none, none] : L2.St) := rfl
    rw [est]
    tm_at "w"
    refine for_range (lo := 0) (n := (5 : Int).toNat) (fun i σ H' => ∃ (v2 v3 v4 v5 v6 v7 v8 v9 v10 v11 v12 : Option V), Tape τ H' ∧ σ = [some (.ref a), some (.ref τ.t), v2, v3, v4, v5, v6, v7, v8, v9, v10, v11, v12]) ⟨none, none, none, none, none, none, none, none, none, none, none, m1, rfl⟩ ?_ ?_
    · clear hS hlen s1 m1 est
      rintro i σ H2 hi ⟨v2, v3, v4, v5, v6, v7, v8, v9, v10, v11, v12, m2, rfl⟩
      tm_at "w"
      refine ⟨τ, _, rfl, m2, by decide, by decide, fun r H4 m4 h4 h4' => ?_⟩
      obtain ⟨n, rfl⟩ : ∃ n : Nat, r = n := ⟨r.toNat, by omega⟩
      have n6 : n ≤ 6 := by omega
      have t4 := m4.now
      clear m4 h4 h4' m2
      simp only [List.set_cons_zero, List.set_cons_succ]
      tm_at "w"
      refine ⟨τ, n, 2, rfl, t4, by omega, by decide, fun ra P H6 m6 hA okP hPn => ?_⟩
      subst hPn
      have t6 := m6.now
      clear m6 t4
      simp only [List.set_cons_zero, List.set_cons_succ]
      tm_at "w"
      refine ⟨ra, P, rfl, hA, okP, by omega, fun sh H7 s7 nsh hsh => ?_⟩
      have nsht : sh ≠ τ.t := t6.mv.neN nsh.e
      have hA7 := hA.tk (Same.tk s7)
      have t7 := t6.same s7
      clear s7 nsh hA t6
      simp only [List.set_cons_zero, List.set_cons_succ]
      tm_at "w"
      refine mk_book hA7 okP fun b H8 mk8 _ => ?_
      have hb8 := mk8.here
      have hsh8 := hsh.same mk8.same
      have t8 := t7.same mk8.same
      clear hsh hA7
      simp only [List.set_cons_zero, List.set_cons_succ]
      tm_at "w"
      refine ⟨τ, P.length, 3, rfl, t8, by omega, by decide, fun fa F H9 m9 hF fl f3 => ?_⟩
      have nbt : b.lb ≠ τ.t := t7.mv.neN mk8.nl.e
      have hb9 := hb8.mv m9 nbt
      have hsh9 := hsh8.mv m9 nsht
      have t9 := m9.now
      simp only [List.set_cons_zero, List.set_cons_succ]
      tm_at "w"
      refine ⟨τ, _, rfl, t9, by decide, by decide, fun r6 H10 m10 h6 h6' => ?_⟩
      obtain ⟨m, hm, m1, m6⟩ : ∃ m : Nat, 1 + r6 = (m : Int) ∧ 1 ≤ m ∧ m ≤ 6 := ⟨(1 + r6).toNat, by omega, by omega, by omega⟩
      have hF10 := m10.atT hF
      have hsh10 := hsh9.mv m10 nsht
      have t10 := m10.now
      tm_at "w"
      rw [show (fun i j : Int => V.int (i + j)) 1 r6 = V.int (m : Int) from by show V.int (1 + r6) = _; rw [hm]]
      have hb10 := hb9.mv m10 nbt
      clear hm h6 h6' t9 hsh9 hb8 hsh8 mk8 t7 t8 m9 hb9 m10
      simp only [List.set_cons_zero, List.set_cons_succ]
      tm_at "w"
      refine ⟨τ, sh, fa, P, F, m, rfl, t10, hsh10, nsht, okP, by omega, hF10, fl, fun x hx => by have := f3 x hx; omega, m1, m6, fun la L H11 m11 hL ft ar po => ?_⟩
      have hF11 := m11.atT hF10
      have hsh11 := hsh10.mv m11 nsht
      have hb11 := hb10.mv m11 nbt
      have t11 := m11.now
      have f6 : ∀ x ∈ F, x ≤ 6 := fun x hx => by have := f3 x hx; omega
      have th0 := lay_thb (C := T.C_Book) t11 hL (by rw [ft.1]; omega) (ft.six f6)
      have nfa := t11.mv.neT hF11
      clear m11 hF10 hsh10 hb10 t10 hF f3 hL ft ar po
      simp only [List.set_cons_zero, List.set_cons_succ]
      tm_at "w"
      refine for_range (lo := 0) (n := (3 : Int).toNat) (fun j σ J => ∃ (v : V) (v10 v11 v12 : Option V), Mv τ H11 J ∧ (∀ n, ThB (6 + j) T.C_Book τ.t J n v) ∧ σ = [some (.ref a), some (.ref τ.t), some (.int (0 + (i : Int))), some (.int (P.length : Int)), some (.ref ra), some (.ref sh), some (.ref b.b), some (.ref fa), some (.int (m : Int)), some v, v10, v11, v12]) ⟨_, _, _, _, t11.mv, th0, rfl⟩ ?_ ?_
      · rintro j σ J hj ⟨v, w10, w11, w12, mJ, hv, rfl⟩
        have hj3 : j < 3 := hj
        have hF := mJ.atT hF11
        have hsh := hsh11.mv mJ nsht
        have hb := hb11.mv mJ nbt
        have tJ := mJ.now
        have h3 := (hv 3).th (by omega)
        tm_at "w"
        refine ⟨fun σ J2 => ∃ (d : V) (v12 : Option V), Same J J2 ∧ Due J J2 P F v d ∧ σ = [some (.ref a), some (.ref τ.t), some (.int (0 + (i : Int))), some (.int (P.length : Int)), some (.ref ra), some (.ref sh), some (.ref b.b), some (.ref fa), some (.int (m : Int)), some v, some (.int (0 + (j : Int))), some d, v12], ?_, ?_⟩
        · tm_at "w"
          refine ⟨fa, F, 6, v, τ.t, rfl, hF, by omega, kc, h3, fun J1 s1 => ?_⟩
          refine ⟨_, rfl, ?_⟩
          cases c : plsB J F 6 v with
          | false =>
            refine iteF ?_
            tm_at "w"
            exact ⟨_, _, s1, .inl ⟨c, rfl⟩, rfl⟩
          | true =>
            obtain ⟨a', L, rfl, hL, ft, ar⟩ := pls_of c
            refine iteT ?_
            tm_at "w"
            refine ⟨sh, a', P, L, rfl, hsh.same s1, okP, hL.tk (Same.tk s1), by rw [ft.1, fl], by omega, ft.six f6, ar, fun w r J2 s2 fi ho => ?_⟩
            tm_at "w"
            intro t nt
            exact ⟨_, _, Same.new (Same.trans s1 s2) nt, .inr ⟨a', L, r, w, t, c, rfl, hL, fi, ho.same (Same.new (Same.refl J2) nt), rfl, upd_same⟩, rfl⟩
        · rintro σ J2 ⟨d, w12, s2, hd, rfl⟩
          tm_at "w"
          refine ⟨fun σ J3 => ∃ (v11 v12 : Option V), Same J J3 ∧ σ = [some (.ref a), some (.ref τ.t), some (.int (0 + (i : Int))), some (.int (P.length : Int)), some (.ref ra), some (.ref sh), some (.ref b.b), some (.ref fa), some (.int (m : Int)), some v, some (.int (0 + (j : Int))), v11, v12], ?_, ?_⟩
          · tm_at "w"
            refine ⟨b, P, fa, F, v, τ.t, rfl, hb.same s2, okP, by omega, kc, s2 _ _ hF, fl, f6, nfa, h3.same s2, fun e J3 s3 => ?_, fun a' L ea hL ft ar t w r J3 s3 fi ho ht => ?_⟩
            · rw [plsB_same h3 s2] at e
              rcases hd with ⟨_, rfl⟩ | ⟨a2, L2, r2, w2, t2, e2, _⟩
              · tm_at "w"
                refine ⟨_, _, rfl, .str 2 _, fun J4 s4 => ?_⟩
                tm_at "w"
                exact ⟨_, _, Same.trans s2 (Same.trans s3 s4), rfl⟩
              · rw [e] at e2
                cases e2
            · subst ea
              have e : plsB J2 F 6 (.ref a') = true := by rw [pls_lay hL ft]; exact ar
              rw [plsB_same h3 s2] at e
              rcases hd with ⟨e2, rfl⟩ | ⟨a2, L2, r2, w2, t2, _, ea2, hL2, fi2, ho2, rfl, ht2⟩
              · rw [e] at e2
                cases e2
              · cases ea2
                obtain rfl := LayAt.uniq hL (hL2.tk (Same.tk s2))
                obtain rfl := fi.uniq fi2
                tm_at "w"
                refine ⟨_, _, rfl, told_alk ht (s3 _ _ ht2) ho (ho2.same s3), fun J4 s4 => ?_⟩
                tm_at "w"
                exact ⟨_, _, Same.trans s2 (Same.trans s3 s4), rfl⟩
          · clear hd s2
            rintro σ J3 ⟨w11, w12, s3, rfl⟩
            tm_at "w"
            refine ⟨fun σ J4 => ∃ (v11 : Option V) (f : V), Same J J4 ∧ Full J P F m v f ∧ σ = [some (.ref a), some (.ref τ.t), some (.int (0 + (i : Int))), some (.int (P.length : Int)), some (.ref ra), some (.ref sh), some (.ref b.b), some (.ref fa), some (.int (m : Int)), some v, some (.int (0 + (j : Int))), v11, some f], ?_, ?_⟩
            · tm_at "w"
              refine ⟨fa, F, (m : Int), v, τ.t, rfl, s3 _ _ hF, by omega, kc, h3.same s3, fun J4 s4 => ?_⟩
              have s34 := Same.trans s3 s4
              rw [plsB_same h3 s3]
              refine ⟨_, rfl, ?_⟩
              cases c : plsB J F m v with
              | false =>
                refine iteF ?_
                exact ⟨_, _, s34, .inl ⟨c, rfl⟩, rfl⟩
              | true =>
                obtain ⟨a', L, rfl, hL, ft, ar⟩ := pls_of c
                refine iteT ?_
                tm_at "w"
                refine ⟨sh, a', P, L, rfl, hsh.same s34, okP, hL.tk (Same.tk s34), by rw [ft.1, fl], by omega, ft.six f6, arms_mono ar (by omega), fun w r J5 s5 fi ho => ?_⟩
                tm_at "w"
                exact ⟨_, _, Same.trans s34 s5, .inr ⟨a', L, r, c, rfl, hL, fi, by rw [ho.none]⟩, rfl⟩
            · rintro σ J4 ⟨w11, f, s4, hf, rfl⟩
              tm_at "w"
              refine ⟨fun σ J5 => ∃ (v11 v12 : Option V), Same J J5 ∧ σ = [some (.ref a), some (.ref τ.t), some (.int (0 + (i : Int))), some (.int (P.length : Int)), some (.ref ra), some (.ref sh), some (.ref b.b), some (.ref fa), some (.int (m : Int)), some v, some (.int (0 + (j : Int))), v11, v12], ?_, ?_⟩
              · tm_at "w"
                refine ⟨b, .ref fa, .int (m : Int), v, P, τ.t, rfl, hb.same s4, okP, by omega, kc, nats_th (tJ.same s4) (s4 _ _ hF) (by omega), .int 1 _, h3.same s4, fun e => ?_, fun _ e => ?_, fun f' F' i' ef hF' fl' f6' ei i1 i6 => ?_⟩
                · rw [fldB_nats (s4 _ _ hF) fl f6] at e
                  cases e
                · have e : (decide (1 ≤ (m : Int)) && decide ((m : Int) ≤ 6)) = false := e
                  rw [decide_eq_true (by omega), decide_eq_true (by omega)] at e
                  cases e
                cases ef
                cases ei
                rw [s4 _ _ hF] at hF'
                obtain rfl := natsV_inj' (HO.tup.inj (Option.some.inj hF'))
                refine ⟨fun e J5 s5 => ?_, fun a' L ea hL ft ar r J5 s5 fi => ?_⟩
                · rw [plsB_same h3 s4] at e
                  rcases hf with ⟨_, rfl⟩ | ⟨a2, L2, r2, e2, _⟩
                  · tm_at "w"
                    exact ⟨_, _, Same.trans s4 s5, rfl⟩
                  · rw [e] at e2
                    cases e2
                · subst ea
                  have e : plsB J4 F m (.ref a') = true := by rw [pls_lay hL ft]; exact ar
                  rw [plsB_same h3 s4] at e
                  rcases hf with ⟨e2, rfl⟩ | ⟨a2, L2, r2, _, ea2, hL2, fi2, rfl⟩
                  · rw [e] at e2
                    cases e2
                  · cases ea2
                    obtain rfl := LayAt.uniq hL (hL2.tk (Same.tk s4))
                    obtain rfl := fi.uniq fi2
                    tm_at "w"
                    exact ⟨_, _, Same.trans s4 s5, rfl⟩
              · rintro σ J5 ⟨w11, w12, s5, rfl⟩
                tm_at "w"
                refine ⟨τ, v, 6 + j, rfl, tJ.same s5, kc, by omega, by omega, fun n => (hv n).same s5, fun v' J6 m6 hv' => ?_⟩
                tm_at "w"
                exact ⟨_, _, _, _, (mJ.same s5).trans m6, hv', rfl⟩
      · rintro σ J ⟨v, w10, w11, w12, mJ, _, rfl⟩
        exact ⟨_, _, _, _, _, _, _, _, _, _, _, mJ.now, rfl⟩
    · rintro σ H2 ⟨v2, v3, v4, v5, v6, v7, v8, v9, v10, v11, v12, m2, rfl⟩
      tm_at "w"
      exact k H2
end
theorem all_mk {l : PySem.W.OpenLaw} {w : World} {K : PySem.W.Frag} {h : Heap} {mg : Str → Option Value} {fa : Addr} (X : K.In h) (G : h.Ns mainGlobals mg) (hfa : mg "law" = some (.ref fa))
    {t_MOST_ARMS : Tok}
    {t_MOST_BROUGHT : Tok}
    {t_MOST_PARENTS : Tok}
    {t_MOST_KINDS : Tok}
    {C_Book : Addr}
    {C_NoLaying fe_NoLaying cc_NoLaying cda_NoLaying N_NoLaying : Addr} {n0_NoLaying q0_NoLaying : Str} {bs_NoLaying bm_NoLaying sub_NoLaying : List Value} {sn_NoLaying : List Str} {ab_NoLaying : Bool} {col_NoLaying : Option Bool} {dd_NoLaying cld_NoLaying cdd_NoLaying od_NoLaying an_NoLaying : Option Addr} {k0_NoLaying k1_NoLaying k2_NoLaying k3_NoLaying k5_NoLaying : Option Value} {cl_NoLaying ccl_NoLaying oc_NoLaying kV_NoLaying doc_NoLaying pm_NoLaying ctv_NoLaying : Value} {csl_NoLaying ccs_NoLaying osl_NoLaying : Array (Option Value)} {vs_NoLaying : Array Value} {file_NoLaying : Str} {tf_NoLaying : Tok}
    {C_NoFields fe_NoFields cc_NoFields cda_NoFields N_NoFields : Addr} {n0_NoFields q0_NoFields : Str} {bs_NoFields bm_NoFields sub_NoFields : List Value} {sn_NoFields : List Str} {ab_NoFields : Bool} {col_NoFields : Option Bool} {dd_NoFields cld_NoFields cdd_NoFields od_NoFields an_NoFields : Option Addr} {k0_NoFields k1_NoFields k2_NoFields k3_NoFields k5_NoFields : Option Value} {cl_NoFields ccl_NoFields oc_NoFields kV_NoFields doc_NoFields pm_NoFields ctv_NoFields : Value} {csl_NoFields ccs_NoFields osl_NoFields : Array (Option Value)} {vs_NoFields : Array Value} {file_NoFields : Str} {tf_NoFields : Tok}
    {C_NoNumber fe_NoNumber cc_NoNumber cda_NoNumber N_NoNumber : Addr} {n0_NoNumber q0_NoNumber : Str} {bs_NoNumber bm_NoNumber sub_NoNumber : List Value} {sn_NoNumber : List Str} {ab_NoNumber : Bool} {col_NoNumber : Option Bool} {dd_NoNumber cld_NoNumber cdd_NoNumber od_NoNumber an_NoNumber : Option Addr} {k0_NoNumber k1_NoNumber k2_NoNumber k3_NoNumber k5_NoNumber : Option Value} {cl_NoNumber ccl_NoNumber oc_NoNumber kV_NoNumber doc_NoNumber pm_NoNumber ctv_NoNumber : Value} {csl_NoNumber ccs_NoNumber osl_NoNumber : Array (Option Value)} {vs_NoNumber : Array Value} {file_NoNumber : Str} {tf_NoNumber : Tok}
    {C_KindError : Addr}
    {od0 an0 : Option Addr} {sl0 : Array (Option Value)} {oc0 kV0 dc0 pm0 cd0 ct0 : Value} {f0 : Addr}
    {od1 an1 : Option Addr} {sl1 : Array (Option Value)} {oc1 kV1 dc1 pm1 cd1 ct1 : Value} {f1 : Addr}
    {od2 an2 : Option Addr} {sl2 : Array (Option Value)} {oc2 kV2 dc2 pm2 cd2 ct2 : Value} {f2 : Addr}
    {od3 an3 : Option Addr} {sl3 : Array (Option Value)} {oc3 kV3 dc3 pm3 cd3 ct3 : Value} {f3 : Addr}
    {od4 an4 : Option Addr} {sl4 : Array (Option Value)} {oc4 kV4 dc4 pm4 cd4 ct4 : Value} {f4 : Addr}
    {od5 an5 : Option Addr} {sl5 : Array (Option Value)} {oc5 kV5 dc5 pm5 cd5 ct5 : Value} {f5 : Addr}
    {od6 an6 : Option Addr} {sl6 : Array (Option Value)} {oc6 kV6 dc6 pm6 cd6 ct6 : Value} {f6 : Addr}
    {od7 an7 : Option Addr} {sl7 : Array (Option Value)} {oc7 kV7 dc7 pm7 cd7 ct7 : Value} {f7 : Addr}
    {od8 an8 : Option Addr} {sl8 : Array (Option Value)} {oc8 kV8 dc8 pm8 cd8 ct8 : Value} {f8 : Addr}
    {od9 an9 : Option Addr} {sl9 : Array (Option Value)} {oc9 kV9 dc9 pm9 cd9 ct9 : Value} {f9 : Addr}
    {od10 an10 : Option Addr} {sl10 : Array (Option Value)} {oc10 kV10 dc10 pm10 cd10 ct10 : Value} {f10 : Addr}
    {od11 an11 : Option Addr} {sl11 : Array (Option Value)} {oc11 kV11 dc11 pm11 cd11 ct11 : Value} {f11 : Addr}
    {od12 an12 : Option Addr} {sl12 : Array (Option Value)} {oc12 kV12 dc12 pm12 cd12 ct12 : Value} {f12 : Addr}
    {od13 an13 : Option Addr} {sl13 : Array (Option Value)} {oc13 kV13 dc13 pm13 cd13 ct13 : Value} {f13 : Addr}
    {od14 an14 : Option Addr} {sl14 : Array (Option Value)} {oc14 kV14 dc14 pm14 cd14 ct14 : Value} {f14 : Addr}
    {od15 an15 : Option Addr} {sl15 : Array (Option Value)} {oc15 kV15 dc15 pm15 cd15 ct15 : Value} {f15 : Addr}
    {od16 an16 : Option Addr} {sl16 : Array (Option Value)} {oc16 kV16 dc16 pm16 cd16 ct16 : Value} {f16 : Addr}
    {od17 an17 : Option Addr} {sl17 : Array (Option Value)} {oc17 kV17 dc17 pm17 cd17 ct17 : Value} {f17 : Addr}
    {od18 an18 : Option Addr} {sl18 : Array (Option Value)} {oc18 kV18 dc18 pm18 cd18 ct18 : Value} {f18 : Addr}
    {od19 an19 : Option Addr} {sl19 : Array (Option Value)} {oc19 kV19 dc19 pm19 cd19 ct19 : Value} {f19 : Addr}
    {od20 an20 : Option Addr} {sl20 : Array (Option Value)} {oc20 kV20 dc20 pm20 cd20 ct20 : Value} {f20 : Addr}
    {od21 an21 : Option Addr} {sl21 : Array (Option Value)} {oc21 kV21 dc21 pm21 cd21 ct21 : Value} {f21 : Addr}
    {od22 an22 : Option Addr} {sl22 : Array (Option Value)} {oc22 kV22 dc22 pm22 cd22 ct22 : Value} {f22 : Addr}
    {od23 an23 : Option Addr} {sl23 : Array (Option Value)} {oc23 kV23 dc23 pm23 cd23 ct23 : Value} {f23 : Addr}
    {od24 an24 : Option Addr} {sl24 : Array (Option Value)} {oc24 kV24 dc24 pm24 cd24 ct24 : Value} {f24 : Addr}
    {od25 an25 : Option Addr} {sl25 : Array (Option Value)} {oc25 kV25 dc25 pm25 cd25 ct25 : Value} {f25 : Addr}
    {od26 an26 : Option Addr} {sl26 : Array (Option Value)} {oc26 kV26 dc26 pm26 cd26 ct26 : Value} {f26 : Addr}
    {od27 an27 : Option Addr} {sl27 : Array (Option Value)} {oc27 kV27 dc27 pm27 cd27 ct27 : Value} {f27 : Addr}
    {od28 an28 : Option Addr} {sl28 : Array (Option Value)} {oc28 kV28 dc28 pm28 cd28 ct28 : Value} {f28 : Addr}
    {od29 an29 : Option Addr} {sl29 : Array (Option Value)} {oc29 kV29 dc29 pm29 cd29 ct29 : Value} {f29 : Addr}
    {od30 an30 : Option Addr} {sl30 : Array (Option Value)} {oc30 kV30 dc30 pm30 cd30 ct30 : Value} {f30 : Addr}
    {od31 an31 : Option Addr} {sl31 : Array (Option Value)} {oc31 kV31 dc31 pm31 cd31 ct31 : Value} {f31 : Addr}
    {od32 an32 : Option Addr} {sl32 : Array (Option Value)} {oc32 kV32 dc32 pm32 cd32 ct32 : Value} {f32 : Addr}
    {od33 an33 : Option Addr} {sl33 : Array (Option Value)} {oc33 kV33 dc33 pm33 cd33 ct33 : Value} {f33 : Addr}
    {od34 an34 : Option Addr} {sl34 : Array (Option Value)} {oc34 kV34 dc34 pm34 cd34 ct34 : Value} {f34 : Addr}
    {od35 an35 : Option Addr} {sl35 : Array (Option Value)} {oc35 kV35 dc35 pm35 cd35 ct35 : Value} {f35 : Addr}
    (gk_KindError : PySem.W.nsIn K mainGlobals "KindError" = some (some (.ref C_KindError)))
    (op_X : PySem.W.nsIn K cStatics "thirdparty.any" = some none) (tp_X : (l.prog.main.scope.names.lookup ("super" : Str)).isSome = false) (hn_X : PySem.W.specialIn K (.builtin "object.__class__") "__get__" = some (some (.builtin "getset_descriptor.__get__"))) (ht_X : PySem.W.takesIn K (.builtin "object.__class__") = some true) (ns_X : PySem.W.nsIn K mainGlobals "super" = some none)
    (gc_NoNumber : PySem.W.nsIn K mainGlobals "NoNumber" = some (some (.ref C_NoNumber)))
    (lc_NoNumber : K.lookup C_NoNumber = some (excClassObj n0_NoNumber q0_NoNumber C_NoNumber N_NoNumber bs_NoNumber bm_NoNumber true sn_NoNumber sub_NoNumber ab_NoNumber col_NoNumber dd_NoNumber k0_NoNumber k1_NoNumber k2_NoNumber k3_NoNumber k5_NoNumber "ValueError.__new__"))
    (rv_NoNumber : PySem.HandSPX.refsVE bm_NoNumber = true)
    (sa_NoNumber : PySem.W.findIn K (.ref C_NoNumber) "__setattr__" = some (some (.builtin "object.__setattr__")))
    (ex_NoNumber : PySem.W.subIn K (.ref C_NoNumber) (.type "BaseException") = some true)
    (ty_NoNumber : PySem.W.typeIn K (.ref C_NoNumber) = some (.type "type"))
    (kp_NoNumber : PySem.W.keepIn K (.ref C_NoNumber) = true)
    (su_NoNumber : PySem.W.ks_superIn K C_NoNumber C_NoNumber "__init__" = some (some (.builtin "ValueError.__init__")))
    (sv_NoNumber : PySem.W.subIn K (.ref C_NoNumber) (.type "ValueError") = some true)
    (mr_NoNumber : PySem.W.mroIn K C_NoNumber (.ref C_NoNumber) = some true)
    (a_NoNumber : PySem.W.findIn K (.ref C_NoNumber) "__init__" = some (some (.ref fe_NoNumber)))
    (t_NoNumber : PySem.W.typeIn K (.ref fe_NoNumber) = some (.type "function"))
    (lf_NoNumber : K.lookup fe_NoNumber = some ⟨oc_NoNumber, od_NoNumber, .func (PySem.W.fnX "__init__" "NoNumber.__init__" (defArgs s_NoNumber___init__) (defBody s_NoNumber___init__) (defScope s_NoNumber___init__) [(("__class__" : Str), cc_NoNumber)] .none kV_NoNumber doc_NoNumber pm_NoNumber an_NoNumber (.ref cda_NoNumber) ctv_NoNumber), osl_NoNumber⟩)
    (cd_NoNumber : PySem.W.codeIn K (.ref cda_NoNumber) "NoNumber.__init__" = true)
    (ce_NoNumber : K.lookup cc_NoNumber = some ⟨cl_NoNumber, cld_NoNumber, .cell (some (.ref C_NoNumber)), csl_NoNumber⟩)
    (co_NoNumber : K.lookup cda_NoNumber = some ⟨ccl_NoNumber, cdd_NoNumber, .fields vs_NoNumber, ccs_NoNumber⟩)
    (vf_NoNumber : vs_NoNumber[2]? = some (.str file_NoNumber tf_NoNumber))
    (ff_NoNumber : ((l.prog.main.file : Str) == file_NoNumber) = true)
    (ga_NoNumber : PySem.W.findIn K (.ref C_NoNumber) "__getattribute__" = some (some (.builtin "BaseException.__getattribute__")))
    (gk_NoNumber : PySem.W.findIn K (.ref C_NoNumber) "__getattr__" = some none)
    (hd_NoNumber : PySem.W.hasDictIn K C_NoNumber = true)
    (ha_NoNumber : PySem.W.findIn K (.ref C_NoNumber) "__class__" = some (some (.builtin "object.__class__")))
    (hm_NoNumber : PySem.W.mroIn K C_NoNumber (.type "object") = some true)
    (gc_NoFields : PySem.W.nsIn K mainGlobals "NoFields" = some (some (.ref C_NoFields)))
    (lc_NoFields : K.lookup C_NoFields = some (excClassObj n0_NoFields q0_NoFields C_NoFields N_NoFields bs_NoFields bm_NoFields true sn_NoFields sub_NoFields ab_NoFields col_NoFields dd_NoFields k0_NoFields k1_NoFields k2_NoFields k3_NoFields k5_NoFields "ValueError.__new__"))
    (rv_NoFields : PySem.HandSPX.refsVE bm_NoFields = true)
    (sa_NoFields : PySem.W.findIn K (.ref C_NoFields) "__setattr__" = some (some (.builtin "object.__setattr__")))
    (ex_NoFields : PySem.W.subIn K (.ref C_NoFields) (.type "BaseException") = some true)
    (ty_NoFields : PySem.W.typeIn K (.ref C_NoFields) = some (.type "type"))
    (kp_NoFields : PySem.W.keepIn K (.ref C_NoFields) = true)
    (su_NoFields : PySem.W.ks_superIn K C_NoFields C_NoFields "__init__" = some (some (.builtin "ValueError.__init__")))
    (sv_NoFields : PySem.W.subIn K (.ref C_NoFields) (.type "ValueError") = some true)
    (mr_NoFields : PySem.W.mroIn K C_NoFields (.ref C_NoFields) = some true)
    (a_NoFields : PySem.W.findIn K (.ref C_NoFields) "__init__" = some (some (.ref fe_NoFields)))
    (t_NoFields : PySem.W.typeIn K (.ref fe_NoFields) = some (.type "function"))
    (lf_NoFields : K.lookup fe_NoFields = some ⟨oc_NoFields, od_NoFields, .func (PySem.W.fnX "__init__" "NoFields.__init__" (defArgs s_NoFields___init__) (defBody s_NoFields___init__) (defScope s_NoFields___init__) [(("__class__" : Str), cc_NoFields)] .none kV_NoFields doc_NoFields pm_NoFields an_NoFields (.ref cda_NoFields) ctv_NoFields), osl_NoFields⟩)
    (cd_NoFields : PySem.W.codeIn K (.ref cda_NoFields) "NoFields.__init__" = true)
    (ce_NoFields : K.lookup cc_NoFields = some ⟨cl_NoFields, cld_NoFields, .cell (some (.ref C_NoFields)), csl_NoFields⟩)
    (co_NoFields : K.lookup cda_NoFields = some ⟨ccl_NoFields, cdd_NoFields, .fields vs_NoFields, ccs_NoFields⟩)
    (vf_NoFields : vs_NoFields[2]? = some (.str file_NoFields tf_NoFields))
    (ff_NoFields : ((l.prog.main.file : Str) == file_NoFields) = true)
    (ga_NoFields : PySem.W.findIn K (.ref C_NoFields) "__getattribute__" = some (some (.builtin "BaseException.__getattribute__")))
    (gk_NoFields : PySem.W.findIn K (.ref C_NoFields) "__getattr__" = some none)
    (hd_NoFields : PySem.W.hasDictIn K C_NoFields = true)
    (ha_NoFields : PySem.W.findIn K (.ref C_NoFields) "__class__" = some (some (.builtin "object.__class__")))
    (hm_NoFields : PySem.W.mroIn K C_NoFields (.type "object") = some true)
    (gc_NoLaying : PySem.W.nsIn K mainGlobals "NoLaying" = some (some (.ref C_NoLaying)))
    (lc_NoLaying : K.lookup C_NoLaying = some (excClassObj n0_NoLaying q0_NoLaying C_NoLaying N_NoLaying bs_NoLaying bm_NoLaying true sn_NoLaying sub_NoLaying ab_NoLaying col_NoLaying dd_NoLaying k0_NoLaying k1_NoLaying k2_NoLaying k3_NoLaying k5_NoLaying "ValueError.__new__"))
    (rv_NoLaying : PySem.HandSPX.refsVE bm_NoLaying = true)
    (sa_NoLaying : PySem.W.findIn K (.ref C_NoLaying) "__setattr__" = some (some (.builtin "object.__setattr__")))
    (ex_NoLaying : PySem.W.subIn K (.ref C_NoLaying) (.type "BaseException") = some true)
    (ty_NoLaying : PySem.W.typeIn K (.ref C_NoLaying) = some (.type "type"))
    (kp_NoLaying : PySem.W.keepIn K (.ref C_NoLaying) = true)
    (su_NoLaying : PySem.W.ks_superIn K C_NoLaying C_NoLaying "__init__" = some (some (.builtin "ValueError.__init__")))
    (sv_NoLaying : PySem.W.subIn K (.ref C_NoLaying) (.type "ValueError") = some true)
    (mr_NoLaying : PySem.W.mroIn K C_NoLaying (.ref C_NoLaying) = some true)
    (a_NoLaying : PySem.W.findIn K (.ref C_NoLaying) "__init__" = some (some (.ref fe_NoLaying)))
    (t_NoLaying : PySem.W.typeIn K (.ref fe_NoLaying) = some (.type "function"))
    (lf_NoLaying : K.lookup fe_NoLaying = some ⟨oc_NoLaying, od_NoLaying, .func (PySem.W.fnX "__init__" "NoLaying.__init__" (defArgs s_NoLaying___init__) (defBody s_NoLaying___init__) (defScope s_NoLaying___init__) [(("__class__" : Str), cc_NoLaying)] .none kV_NoLaying doc_NoLaying pm_NoLaying an_NoLaying (.ref cda_NoLaying) ctv_NoLaying), osl_NoLaying⟩)
    (cd_NoLaying : PySem.W.codeIn K (.ref cda_NoLaying) "NoLaying.__init__" = true)
    (ce_NoLaying : K.lookup cc_NoLaying = some ⟨cl_NoLaying, cld_NoLaying, .cell (some (.ref C_NoLaying)), csl_NoLaying⟩)
    (co_NoLaying : K.lookup cda_NoLaying = some ⟨ccl_NoLaying, cdd_NoLaying, .fields vs_NoLaying, ccs_NoLaying⟩)
    (vf_NoLaying : vs_NoLaying[2]? = some (.str file_NoLaying tf_NoLaying))
    (ff_NoLaying : ((l.prog.main.file : Str) == file_NoLaying) = true)
    (ga_NoLaying : PySem.W.findIn K (.ref C_NoLaying) "__getattribute__" = some (some (.builtin "BaseException.__getattribute__")))
    (gk_NoLaying : PySem.W.findIn K (.ref C_NoLaying) "__getattr__" = some none)
    (hd_NoLaying : PySem.W.hasDictIn K C_NoLaying = true)
    (ha_NoLaying : PySem.W.findIn K (.ref C_NoLaying) "__class__" = some (some (.builtin "object.__class__")))
    (hm_NoLaying : PySem.W.mroIn K C_NoLaying (.type "object") = some true)
    (xm_NoLaying_KindError : PySem.W.exmOne K (.ref C_NoLaying) (.ref C_KindError) = some true)
    (kt_NoLaying_NoLaying : PySem.W.kitOne K (.ref C_NoLaying) (.ref C_NoLaying) = some true)
    (kt_NoLaying_ValueError : PySem.W.kitOne K (.ref C_NoLaying) (.type "ValueError") = some true)
    (gc_Book : PySem.W.nsIn K mainGlobals "Book" = some (some (.ref C_Book))) (pg_Book : PySem.W.plainGet K C_Book Str.empty = true) (hd_Book : PySem.W.hasDictIn K C_Book = true) (po_Book : PySem.W.plainOver K C_Book = true) (sa_Book : PySem.W.findIn K (.ref C_Book) "__setattr__" = some (some (.builtin "object.__setattr__"))) (mk_Book : PySem.W.makesIn K C_Book = true) (kc_Book : PySem.W.keepIn K (.ref C_Book) = true) (ta_Book : PySem.W.findIn K (.ref C_Book) "__class__" = some (some (.builtin "object.__class__"))) (tn_Book : PySem.W.specialIn K (.builtin "object.__class__") "__get__" = some (some (.builtin "getset_descriptor.__get__"))) (tt_Book : PySem.W.takesIn K (.builtin "object.__class__") = some true) (tm_Book : PySem.W.mroIn K C_Book (.type "object") = some true)
    (n_Book_parents : PySem.W.findIn K (.ref C_Book) "parents" = some none)
    (n_Book_bits : PySem.W.findIn K (.ref C_Book) "bits" = some none)
    (kt_Book_int : PySem.W.kitOne K (.ref C_Book) (.type "int") = some false)
    (kt_Book_bool : PySem.W.kitOne K (.ref C_Book) (.type "bool") = some false)
    (kt_Book_tuple : PySem.W.kitOne K (.ref C_Book) (.type "tuple") = some false)
    (kt_Book_list : PySem.W.kitOne K (.ref C_Book) (.type "list") = some false)
    (k_MOST_KINDS : PySem.W.nsIn K mainGlobals "MOST_KINDS" = some (some (.int 400 t_MOST_KINDS)))
    (k_MOST_PARENTS : PySem.W.nsIn K mainGlobals "MOST_PARENTS" = some (some (.int 6 t_MOST_PARENTS)))
    (k_MOST_BROUGHT : PySem.W.nsIn K mainGlobals "MOST_BROUGHT" = some (some (.int 6 t_MOST_BROUGHT)))
    (k_MOST_ARMS : PySem.W.nsIn K mainGlobals "MOST_ARMS" = some (some (.int 6 t_MOST_ARMS)))
    (a0 : PySem.W.nsIn K mainGlobals "is_integer" = some (some (.ref f0)))
    (l0 : K.lookup f0 = some ⟨oc0, od0, .func (PySem.W.fnOf "is_integer" "is_integer" (defArgs s_is_integer) (defBody s_is_integer) (defScope s_is_integer) .none kV0 dc0 pm0 an0 cd0 ct0), sl0⟩) (c0 : PySem.W.codeIn K cd0 "is_integer" = true) (k0 : PySem.W.keepIn K (.ref f0) = true)
    (a1 : PySem.W.nsIn K mainGlobals "is_within" = some (some (.ref f1)))
    (l1 : K.lookup f1 = some ⟨oc1, od1, .func (PySem.W.fnOf "is_within" "is_within" (defArgs s_is_within) (defBody s_is_within) (defScope s_is_within) .none kV1 dc1 pm1 an1 cd1 ct1), sl1⟩) (c1 : PySem.W.codeIn K cd1 "is_within" = true) (k1 : PySem.W.keepIn K (.ref f1) = true)
    (a2 : PySem.W.nsIn K mainGlobals "is_lot" = some (some (.ref f2)))
    (l2 : K.lookup f2 = some ⟨oc2, od2, .func (PySem.W.fnOf "is_lot" "is_lot" (defArgs s_is_lot) (defBody s_is_lot) (defScope s_is_lot) .none kV2 dc2 pm2 an2 cd2 ct2), sl2⟩) (c2 : PySem.W.codeIn K cd2 "is_lot" = true) (k2 : PySem.W.keepIn K (.ref f2) = true)
    (a3 : PySem.W.nsIn K mainGlobals "are_parents" = some (some (.ref f3)))
    (l3 : K.lookup f3 = some ⟨oc3, od3, .func (PySem.W.fnOf "are_parents" "are_parents" (defArgs s_are_parents) (defBody s_are_parents) (defScope s_are_parents) .none kV3 dc3 pm3 an3 cd3 ct3), sl3⟩) (c3 : PySem.W.codeIn K cd3 "are_parents" = true) (k3 : PySem.W.keepIn K (.ref f3) = true)
    (a4 : PySem.W.findIn K (.ref C_Book) "fill" = some (some (.ref f4))) (i4 : PySem.W.isFn K (.ref f4) = true)
    (l4 : K.lookup f4 = some ⟨oc4, od4, .func (PySem.W.fnOf "fill" "Book.fill" (defArgs s_Book_fill) (defBody s_Book_fill) (defScope s_Book_fill) .none kV4 dc4 pm4 an4 cd4 ct4), sl4⟩) (c4 : PySem.W.codeIn K cd4 "Book.fill" = true) (k4 : PySem.W.keepIn K (.ref f4) = true)
    (a5 : PySem.W.findIn K (.ref C_Book) "__init__" = some (some (.ref f5))) (i5 : PySem.W.isFn K (.ref f5) = true)
    (l5 : K.lookup f5 = some ⟨oc5, od5, .func (PySem.W.fnOf "__init__" "Book.__init__" (defArgs s_Book___init__) (defBody s_Book___init__) (defScope s_Book___init__) .none kV5 dc5 pm5 an5 cd5 ct5), sl5⟩) (c5 : PySem.W.codeIn K cd5 "Book.__init__" = true) (k5 : PySem.W.keepIn K (.ref f5) = true)
    (a6 : PySem.W.nsIn K mainGlobals "is_pair" = some (some (.ref f6)))
    (l6 : K.lookup f6 = some ⟨oc6, od6, .func (PySem.W.fnOf "is_pair" "is_pair" (defArgs s_is_pair) (defBody s_is_pair) (defScope s_is_pair) .none kV6 dc6 pm6 an6 cd6 ct6), sl6⟩) (c6 : PySem.W.codeIn K cd6 "is_pair" = true) (k6 : PySem.W.keepIn K (.ref f6) = true)
    (a7 : PySem.W.nsIn K mainGlobals "many_of" = some (some (.ref f7)))
    (l7 : K.lookup f7 = some ⟨oc7, od7, .func (PySem.W.fnOf "many_of" "many_of" (defArgs s_many_of) (defBody s_many_of) (defScope s_many_of) .none kV7 dc7 pm7 an7 cd7 ct7), sl7⟩) (c7 : PySem.W.codeIn K cd7 "many_of" = true) (k7 : PySem.W.keepIn K (.ref f7) = true)
    (a8 : PySem.W.nsIn K mainGlobals "is_one" = some (some (.ref f8)))
    (l8 : K.lookup f8 = some ⟨oc8, od8, .func (PySem.W.fnOf "is_one" "is_one" (defArgs s_is_one) (defBody s_is_one) (defScope s_is_one) .none kV8 dc8 pm8 an8 cd8 ct8), sl8⟩) (c8 : PySem.W.codeIn K cd8 "is_one" = true) (k8 : PySem.W.keepIn K (.ref f8) = true)
    (a9 : PySem.W.nsIn K mainGlobals "forebears_of" = some (some (.ref f9)))
    (l9 : K.lookup f9 = some ⟨oc9, od9, .func (PySem.W.fnOf "forebears_of" "forebears_of" (defArgs s_forebears_of) (defBody s_forebears_of) (defScope s_forebears_of) .none kV9 dc9 pm9 an9 cd9 ct9), sl9⟩) (c9 : PySem.W.codeIn K cd9 "forebears_of" = true) (k9 : PySem.W.keepIn K (.ref f9) = true)
    (a10 : PySem.W.nsIn K mainGlobals "check_number" = some (some (.ref f10)))
    (l10 : K.lookup f10 = some ⟨oc10, od10, .func (PySem.W.fnOf "check_number" "check_number" (defArgs s_check_number) (defBody s_check_number) (defScope s_check_number) .none kV10 dc10 pm10 an10 cd10 ct10), sl10⟩) (c10 : PySem.W.codeIn K cd10 "check_number" = true) (k10 : PySem.W.keepIn K (.ref f10) = true)
    (a11 : PySem.W.nsIn K mainGlobals "check_fields" = some (some (.ref f11)))
    (l11 : K.lookup f11 = some ⟨oc11, od11, .func (PySem.W.fnOf "check_fields" "check_fields" (defArgs s_check_fields) (defBody s_check_fields) (defScope s_check_fields) .none kV11 dc11 pm11 an11 cd11 ct11), sl11⟩) (c11 : PySem.W.codeIn K cd11 "check_fields" = true) (k11 : PySem.W.keepIn K (.ref f11) = true)
    (a12 : PySem.W.nsIn K mainGlobals "is_place" = some (some (.ref f12)))
    (l12 : K.lookup f12 = some ⟨oc12, od12, .func (PySem.W.fnOf "is_place" "is_place" (defArgs s_is_place) (defBody s_is_place) (defScope s_is_place) .none kV12 dc12 pm12 an12 cd12 ct12), sl12⟩) (c12 : PySem.W.codeIn K cd12 "is_place" = true) (k12 : PySem.W.keepIn K (.ref f12) = true)
    (a13 : PySem.W.nsIn K mainGlobals "has_places" = some (some (.ref f13)))
    (l13 : K.lookup f13 = some ⟨oc13, od13, .func (PySem.W.fnOf "has_places" "has_places" (defArgs s_has_places) (defBody s_has_places) (defScope s_has_places) .none kV13 dc13 pm13 an13 cd13 ct13), sl13⟩) (c13 : PySem.W.codeIn K cd13 "has_places" = true) (k13 : PySem.W.keepIn K (.ref f13) = true)
    (a14 : PySem.W.nsIn K mainGlobals "object_places" = some (some (.ref f14)))
    (l14 : K.lookup f14 = some ⟨oc14, od14, .func (PySem.W.fnOf "object_places" "object_places" (defArgs s_object_places) (defBody s_object_places) (defScope s_object_places) .none kV14 dc14 pm14 an14 cd14 ct14), sl14⟩) (c14 : PySem.W.codeIn K cd14 "object_places" = true) (k14 : PySem.W.keepIn K (.ref f14) = true)
    (a15 : PySem.W.nsIn K mainGlobals "hole_in" = some (some (.ref f15)))
    (l15 : K.lookup f15 = some ⟨oc15, od15, .func (PySem.W.fnOf "hole_in" "hole_in" (defArgs s_hole_in) (defBody s_hole_in) (defScope s_hole_in) .none kV15 dc15 pm15 an15 cd15 ct15), sl15⟩) (c15 : PySem.W.codeIn K cd15 "hole_in" = true) (k15 : PySem.W.keepIn K (.ref f15) = true)
    (a16 : PySem.W.nsIn K mainGlobals "hole_of" = some (some (.ref f16)))
    (l16 : K.lookup f16 = some ⟨oc16, od16, .func (PySem.W.fnOf "hole_of" "hole_of" (defArgs s_hole_of) (defBody s_hole_of) (defScope s_hole_of) .none kV16 dc16 pm16 an16 cd16 ct16), sl16⟩) (c16 : PySem.W.codeIn K cd16 "hole_of" = true) (k16 : PySem.W.keepIn K (.ref f16) = true)
    (a17 : PySem.W.nsIn K mainGlobals "first_hole" = some (some (.ref f17)))
    (l17 : K.lookup f17 = some ⟨oc17, od17, .func (PySem.W.fnOf "first_hole" "first_hole" (defArgs s_first_hole) (defBody s_first_hole) (defScope s_first_hole) .none kV17 dc17 pm17 an17 cd17 ct17), sl17⟩) (c17 : PySem.W.codeIn K cd17 "first_hole" = true) (k17 : PySem.W.keepIn K (.ref f17) = true)
    (a18 : PySem.W.nsIn K mainGlobals "is_laying" = some (some (.ref f18)))
    (l18 : K.lookup f18 = some ⟨oc18, od18, .func (PySem.W.fnOf "is_laying" "is_laying" (defArgs s_is_laying) (defBody s_is_laying) (defScope s_is_laying) .none kV18 dc18 pm18 an18 cd18 ct18), sl18⟩) (c18 : PySem.W.codeIn K cd18 "is_laying" = true) (k18 : PySem.W.keepIn K (.ref f18) = true)
    (a19 : PySem.W.nsIn K mainGlobals "_law_hand" = some (some (.ref f19)))
    (l19 : K.lookup f19 = some ⟨oc19, od19, .func (PySem.W.fnOf "_law_hand" "_law_hand" (defArgs s__law_hand) (defBody s__law_hand) (defScope s__law_hand) .none kV19 dc19 pm19 an19 cd19 ct19), sl19⟩) (c19 : PySem.W.codeIn K cd19 "_law_hand" = true) (k19 : PySem.W.keepIn K (.ref f19) = true)
    (a20 : PySem.W.nsIn K mainGlobals "_law_draw" = some (some (.ref f20)))
    (l20 : K.lookup f20 = some ⟨oc20, od20, .func (PySem.W.fnOf "_law_draw" "_law_draw" (defArgs s__law_draw) (defBody s__law_draw) (defScope s__law_draw) .none kV20 dc20 pm20 an20 cd20 ct20), sl20⟩) (c20 : PySem.W.codeIn K cd20 "_law_draw" = true) (k20 : PySem.W.keepIn K (.ref f20) = true)
    (a21 : PySem.W.nsIn K mainGlobals "_law_is" = some (some (.ref f21)))
    (l21 : K.lookup f21 = some ⟨oc21, od21, .func (PySem.W.fnOf "_law_is" "_law_is" (defArgs s__law_is) (defBody s__law_is) (defScope s__law_is) .none kV21 dc21 pm21 an21 cd21 ct21), sl21⟩) (c21 : PySem.W.codeIn K cd21 "_law_is" = true) (k21 : PySem.W.keepIn K (.ref f21) = true)
    (a22 : PySem.W.nsIn K mainGlobals "_law_flag" = some (some (.ref f22)))
    (l22 : K.lookup f22 = some ⟨oc22, od22, .func (PySem.W.fnOf "_law_flag" "_law_flag" (defArgs s__law_flag) (defBody s__law_flag) (defScope s__law_flag) .none kV22 dc22 pm22 an22 cd22 ct22), sl22⟩) (c22 : PySem.W.codeIn K cd22 "_law_flag" = true) (k22 : PySem.W.keepIn K (.ref f22) = true)
    (a23 : PySem.W.nsIn K mainGlobals "_law_deep" = some (some (.ref f23)))
    (l23 : K.lookup f23 = some ⟨oc23, od23, .func (PySem.W.fnOf "_law_deep" "_law_deep" (defArgs s__law_deep) (defBody s__law_deep) (defScope s__law_deep) .none kV23 dc23 pm23 an23 cd23 ct23), sl23⟩) (c23 : PySem.W.codeIn K cd23 "_law_deep" = true) (k23 : PySem.W.keepIn K (.ref f23) = true)
    (a24 : PySem.W.nsIn K mainGlobals "_law_parents" = some (some (.ref f24)))
    (l24 : K.lookup f24 = some ⟨oc24, od24, .func (PySem.W.fnOf "_law_parents" "_law_parents" (defArgs s__law_parents) (defBody s__law_parents) (defScope s__law_parents) .none kV24 dc24 pm24 an24 cd24 ct24), sl24⟩) (c24 : PySem.W.codeIn K cd24 "_law_parents" = true) (k24 : PySem.W.keepIn K (.ref f24) = true)
    (a25 : PySem.W.nsIn K mainGlobals "_law_sheet" = some (some (.ref f25)))
    (l25 : K.lookup f25 = some ⟨oc25, od25, .func (PySem.W.fnOf "_law_sheet" "_law_sheet" (defArgs s__law_sheet) (defBody s__law_sheet) (defScope s__law_sheet) .none kV25 dc25 pm25 an25 cd25 ct25), sl25⟩) (c25 : PySem.W.codeIn K cd25 "_law_sheet" = true) (k25 : PySem.W.keepIn K (.ref f25) = true)
    (a26 : PySem.W.nsIn K mainGlobals "_law_brought" = some (some (.ref f26)))
    (l26 : K.lookup f26 = some ⟨oc26, od26, .func (PySem.W.fnOf "_law_brought" "_law_brought" (defArgs s__law_brought) (defBody s__law_brought) (defScope s__law_brought) .none kV26 dc26 pm26 an26 cd26 ct26), sl26⟩) (c26 : PySem.W.codeIn K cd26 "_law_brought" = true) (k26 : PySem.W.keepIn K (.ref f26) = true)
    (a27 : PySem.W.nsIn K mainGlobals "_law_hole" = some (some (.ref f27)))
    (l27 : K.lookup f27 = some ⟨oc27, od27, .func (PySem.W.fnOf "_law_hole" "_law_hole" (defArgs s__law_hole) (defBody s__law_hole) (defScope s__law_hole) .none kV27 dc27 pm27 an27 cd27 ct27), sl27⟩) (c27 : PySem.W.codeIn K cd27 "_law_hole" = true) (k27 : PySem.W.keepIn K (.ref f27) = true)
    (a28 : PySem.W.nsIn K mainGlobals "_law_first_hole" = some (some (.ref f28)))
    (l28 : K.lookup f28 = some ⟨oc28, od28, .func (PySem.W.fnOf "_law_first_hole" "_law_first_hole" (defArgs s__law_first_hole) (defBody s__law_first_hole) (defScope s__law_first_hole) .none kV28 dc28 pm28 an28 cd28 ct28), sl28⟩) (c28 : PySem.W.codeIn K cd28 "_law_first_hole" = true) (k28 : PySem.W.keepIn K (.ref f28) = true)
    (a29 : PySem.W.nsIn K mainGlobals "_law_poured" = some (some (.ref f29)))
    (l29 : K.lookup f29 = some ⟨oc29, od29, .func (PySem.W.fnOf "_law_poured" "_law_poured" (defArgs s__law_poured) (defBody s__law_poured) (defScope s__law_poured) .none kV29 dc29 pm29 an29 cd29 ct29), sl29⟩) (c29 : PySem.W.codeIn K cd29 "_law_poured" = true) (k29 : PySem.W.keepIn K (.ref f29) = true)
    (a30 : PySem.W.nsIn K mainGlobals "_law_is_whole" = some (some (.ref f30)))
    (l30 : K.lookup f30 = some ⟨oc30, od30, .func (PySem.W.fnOf "_law_is_whole" "_law_is_whole" (defArgs s__law_is_whole) (defBody s__law_is_whole) (defScope s__law_is_whole) .none kV30 dc30 pm30 an30 cd30 ct30), sl30⟩) (c30 : PySem.W.codeIn K cd30 "_law_is_whole" = true) (k30 : PySem.W.keepIn K (.ref f30) = true)
    (a31 : PySem.W.nsIn K mainGlobals "_law_has_places" = some (some (.ref f31)))
    (l31 : K.lookup f31 = some ⟨oc31, od31, .func (PySem.W.fnOf "_law_has_places" "_law_has_places" (defArgs s__law_has_places) (defBody s__law_has_places) (defScope s__law_has_places) .none kV31 dc31 pm31 an31 cd31 ct31), sl31⟩) (c31 : PySem.W.codeIn K cd31 "_law_has_places" = true) (k31 : PySem.W.keepIn K (.ref f31) = true)
    (a32 : PySem.W.nsIn K mainGlobals "_law_odd" = some (some (.ref f32)))
    (l32 : K.lookup f32 = some ⟨oc32, od32, .func (PySem.W.fnOf "_law_odd" "_law_odd" (defArgs s__law_odd) (defBody s__law_odd) (defScope s__law_odd) .none kV32 dc32 pm32 an32 cd32 ct32), sl32⟩) (c32 : PySem.W.codeIn K cd32 "_law_odd" = true) (k32 : PySem.W.keepIn K (.ref f32) = true)
    (a33 : PySem.W.nsIn K mainGlobals "_law_bent" = some (some (.ref f33)))
    (l33 : K.lookup f33 = some ⟨oc33, od33, .func (PySem.W.fnOf "_law_bent" "_law_bent" (defArgs s__law_bent) (defBody s__law_bent) (defScope s__law_bent) .none kV33 dc33 pm33 an33 cd33 ct33), sl33⟩) (c33 : PySem.W.codeIn K cd33 "_law_bent" = true) (k33 : PySem.W.keepIn K (.ref f33) = true)
    (a34 : PySem.W.nsIn K mainGlobals "_law_told" = some (some (.ref f34)))
    (l34 : K.lookup f34 = some ⟨oc34, od34, .func (PySem.W.fnOf "_law_told" "_law_told" (defArgs s__law_told) (defBody s__law_told) (defScope s__law_told) .none kV34 dc34 pm34 an34 cd34 ct34), sl34⟩) (c34 : PySem.W.codeIn K cd34 "_law_told" = true) (k34 : PySem.W.keepIn K (.ref f34) = true)
    (a35 : PySem.W.nsIn K mainGlobals "law" = some (some (.ref f35)))
    (l35 : K.lookup f35 = some ⟨oc35, od35, .func (PySem.W.fnOf "law" "law" (defArgs s_law) (defBody s_law) (defScope s_law) .none kV35 dc35 pm35 an35 cd35 ct35), sl35⟩) (c35 : PySem.W.codeIn K cd35 "law" = true) (k35 : PySem.W.keepIn K (.ref f35) = true)
    (z_ValueError : PySem.W.nsIn K mainGlobals "ValueError" = some none)
    (z_abs : PySem.W.nsIn K mainGlobals "abs" = some none)
    (z_all : PySem.W.nsIn K mainGlobals "all" = some none)
    (z_bool : PySem.W.nsIn K mainGlobals "bool" = some none)
    (z_enumerate : PySem.W.nsIn K mainGlobals "enumerate" = some none)
    (z_int : PySem.W.nsIn K mainGlobals "int" = some none)
    (z_isinstance : PySem.W.nsIn K mainGlobals "isinstance" = some none)
    (z_len : PySem.W.nsIn K mainGlobals "len" = some none)
    (z_list : PySem.W.nsIn K mainGlobals "list" = some none)
    (z_max : PySem.W.nsIn K mainGlobals "max" = some none)
    (z_min : PySem.W.nsIn K mainGlobals "min" = some none)
    (z_range : PySem.W.nsIn K mainGlobals "range" = some none)
    (z_set : PySem.W.nsIn K mainGlobals "set" = some none)
    (z_sorted : PySem.W.nsIn K mainGlobals "sorted" = some none)
    (z_tuple : PySem.W.nsIn K mainGlobals "tuple" = some none)
    (z_zip : PySem.W.nsIn K mainGlobals "zip" = some none) :
    ∃ fd : FuncData, (∀ (s : Shared) (v : Value), BindsTo s fd ⟨[v], []⟩ [("_law_script", v)]) ∧ ∀ base : Heap, K.In base → base.Ns mainGlobals mg → FnOk l.prog w K mg base CX0 9 fa fd ["_law_script"] (sp_law K) := by
  have e := hfa.symm.trans (PySem.W.mg_of X G a35)
  cases e
  exact ⟨_, fun s v => .of_eq rfl, fun base _ _ => ok_law {
    C_KindError := C_KindError, g_KindError := PySem.W.mg_of X G gk_KindError,
    C_NoNumber := C_NoNumber, f_NoNumber___init__ := fe_NoNumber, fd_NoNumber___init__ := _, er_NoNumber := err_mk (PySem.W.mg_of X G gc_NoNumber) lc_NoNumber rv_NoNumber sa_NoNumber ex_NoNumber ty_NoNumber kp_NoNumber op_X su_NoNumber sv_NoNumber mr_NoNumber ce_NoNumber co_NoNumber vf_NoNumber ff_NoNumber lf_NoNumber cd_NoNumber a_NoNumber t_NoNumber tp_X (PySem.W.mg_none_of X G ns_X) rfl rfl rfl rfl ⟨_, rfl, rfl⟩ (fun us hl => match us, hl with | [_], _ => rfl) ga_NoNumber gk_NoNumber hd_NoNumber ha_NoNumber hn_X ht_X hm_NoNumber,
    C_NoFields := C_NoFields, f_NoFields___init__ := fe_NoFields, fd_NoFields___init__ := _, er_NoFields := err_mk (PySem.W.mg_of X G gc_NoFields) lc_NoFields rv_NoFields sa_NoFields ex_NoFields ty_NoFields kp_NoFields op_X su_NoFields sv_NoFields mr_NoFields ce_NoFields co_NoFields vf_NoFields ff_NoFields lf_NoFields cd_NoFields a_NoFields t_NoFields tp_X (PySem.W.mg_none_of X G ns_X) rfl rfl rfl rfl ⟨_, rfl, rfl⟩ (fun us hl => match us, hl with | [_], _ => rfl) ga_NoFields gk_NoFields hd_NoFields ha_NoFields hn_X ht_X hm_NoFields,
    C_NoLaying := C_NoLaying, f_NoLaying___init__ := fe_NoLaying, fd_NoLaying___init__ := _, er_NoLaying := err_mk (PySem.W.mg_of X G gc_NoLaying) lc_NoLaying rv_NoLaying sa_NoLaying ex_NoLaying ty_NoLaying kp_NoLaying op_X su_NoLaying sv_NoLaying mr_NoLaying ce_NoLaying co_NoLaying vf_NoLaying ff_NoLaying lf_NoLaying cd_NoLaying a_NoLaying t_NoLaying tp_X (PySem.W.mg_none_of X G ns_X) rfl rfl rfl rfl ⟨_, rfl, rfl⟩ (fun us hl => match us, hl with | [_], _ => rfl) ga_NoLaying gk_NoLaying hd_NoLaying ha_NoLaying hn_X ht_X hm_NoLaying,
    xm_NoLaying_KindError := xm_NoLaying_KindError,
    kt_NoLaying_NoLaying := kt_NoLaying_NoLaying,
    kt_NoLaying_ValueError := kt_NoLaying_ValueError,
    C_Book := C_Book, g_Book := PySem.W.mg_of X G gc_Book, cl_Book := ⟨pg_Book, hd_Book, po_Book, sa_Book⟩, ty_Book := ⟨ta_Book, tn_Book, tt_Book, tm_Book⟩,
    n_Book_parents := n_Book_parents,
    n_Book_bits := n_Book_bits,
    kt_Book_int := kt_Book_int,
    kt_Book_bool := kt_Book_bool,
    kt_Book_tuple := kt_Book_tuple,
    kt_Book_list := kt_Book_list,
    c_MOST_KINDS := ⟨_, PySem.W.mg_of X G k_MOST_KINDS⟩,
    c_MOST_PARENTS := ⟨_, PySem.W.mg_of X G k_MOST_PARENTS⟩,
    c_MOST_BROUGHT := ⟨_, PySem.W.mg_of X G k_MOST_BROUGHT⟩,
    c_MOST_ARMS := ⟨_, PySem.W.mg_of X G k_MOST_ARMS⟩,
    f_is_integer := f0, fd_is_integer := _, F_is_integer := (fun_mk (st := s_is_integer) l0 c0 k0), b_is_integer := (fun_mk (st := s_is_integer) l0 c0 k0).binds (ps := ["thing"]) (fun _ _ _ _ _ _ us hl => match us, hl with | [_], _ => rfl), g_is_integer := PySem.W.mg_of X G a0,
    f_is_within := f1, fd_is_within := _, F_is_within := (fun_mk (st := s_is_within) l1 c1 k1), b_is_within := (fun_mk (st := s_is_within) l1 c1 k1).binds (ps := ["thing", "least", "most"]) (fun _ _ _ _ _ _ us hl => match us, hl with | [_, _, _], _ => rfl), g_is_within := PySem.W.mg_of X G a1,
    f_is_lot := f2, fd_is_lot := _, F_is_lot := (fun_mk (st := s_is_lot) l2 c2 k2), b_is_lot := (fun_mk (st := s_is_lot) l2 c2 k2).binds (ps := ["thing", "many"]) (fun _ _ _ _ _ _ us hl => match us, hl with | [_, _], _ => rfl), g_is_lot := PySem.W.mg_of X G a2,
    f_are_parents := f3, fd_are_parents := _, F_are_parents := (fun_mk (st := s_are_parents) l3 c3 k3), b_are_parents := (fun_mk (st := s_are_parents) l3 c3 k3).binds (ps := ["thing", "number"]) (fun _ _ _ _ _ _ us hl => match us, hl with | [_, _], _ => rfl), g_are_parents := PySem.W.mg_of X G a3,
    f_Book_fill := f4, fd_Book_fill := _, F_Book_fill := (fun_mk (st := s_Book_fill) l4 c4 k4), b_Book_fill := (fun_mk (st := s_Book_fill) l4 c4 k4).binds (ps := ["self", "parents"]) (fun _ _ _ _ _ _ us hl => match us, hl with | [_, _], _ => rfl), m_Book_fill := ⟨a4, i4, k4⟩,
    f_Book___init__ := f5, fd_Book___init__ := _, F_Book___init__ := (fun_mk (st := s_Book___init__) l5 c5 k5), b_Book___init__ := (fun_mk (st := s_Book___init__) l5 c5 k5).binds (ps := ["self", "parents"]) (fun _ _ _ _ _ _ us hl => match us, hl with | [_, _], _ => rfl), m_Book___init__ := ⟨a5, i5, k5⟩, M_Book := ⟨mk_Book, a5, i5, kc_Book⟩,
    f_is_pair := f6, fd_is_pair := _, F_is_pair := (fun_mk (st := s_is_pair) l6 c6 k6), b_is_pair := (fun_mk (st := s_is_pair) l6 c6 k6).binds (ps := ["thing"]) (fun _ _ _ _ _ _ us hl => match us, hl with | [_], _ => rfl), g_is_pair := PySem.W.mg_of X G a6,
    f_many_of := f7, fd_many_of := _, F_many_of := (fun_mk (st := s_many_of) l7 c7 k7), b_many_of := (fun_mk (st := s_many_of) l7 c7 k7).binds (ps := ["book"]) (fun _ _ _ _ _ _ us hl => match us, hl with | [_], _ => rfl), g_many_of := PySem.W.mg_of X G a7,
    f_is_one := f8, fd_is_one := _, F_is_one := (fun_mk (st := s_is_one) l8 c8 k8), b_is_one := (fun_mk (st := s_is_one) l8 c8 k8).binds (ps := ["book", "x", "p"]) (fun _ _ _ _ _ _ us hl => match us, hl with | [_, _, _], _ => rfl), g_is_one := PySem.W.mg_of X G a8,
    f_forebears_of := f9, fd_forebears_of := _, F_forebears_of := (fun_mk (st := s_forebears_of) l9 c9 k9), b_forebears_of := (fun_mk (st := s_forebears_of) l9 c9 k9).binds (ps := ["book", "x"]) (fun _ _ _ _ _ _ us hl => match us, hl with | [_, _], _ => rfl), g_forebears_of := PySem.W.mg_of X G a9,
    f_check_number := f10, fd_check_number := _, F_check_number := (fun_mk (st := s_check_number) l10 c10 k10), b_check_number := (fun_mk (st := s_check_number) l10 c10 k10).binds (ps := ["thing", "least", "most"]) (fun _ _ _ _ _ _ us hl => match us, hl with | [_, _, _], _ => rfl), g_check_number := PySem.W.mg_of X G a10,
    f_check_fields := f11, fd_check_fields := _, F_check_fields := (fun_mk (st := s_check_fields) l11 c11 k11), b_check_fields := (fun_mk (st := s_check_fields) l11 c11 k11).binds (ps := ["book", "thing"]) (fun _ _ _ _ _ _ us hl => match us, hl with | [_, _], _ => rfl), g_check_fields := PySem.W.mg_of X G a11,
    f_is_place := f12, fd_is_place := _, F_is_place := (fun_mk (st := s_is_place) l12 c12 k12), b_is_place := (fun_mk (st := s_is_place) l12 c12 k12).binds (ps := ["thing", "arms"]) (fun _ _ _ _ _ _ us hl => match us, hl with | [_, _], _ => rfl), g_is_place := PySem.W.mg_of X G a12,
    f_has_places := f13, fd_has_places := _, F_has_places := (fun_mk (st := s_has_places) l13 c13 k13), b_has_places := (fun_mk (st := s_has_places) l13 c13 k13).binds (ps := ["fields", "arms", "thing"]) (fun _ _ _ _ _ _ us hl => match us, hl with | [_, _, _], _ => rfl), g_has_places := PySem.W.mg_of X G a13,
    f_object_places := f14, fd_object_places := _, F_object_places := (fun_mk (st := s_object_places) l14 c14 k14), b_object_places := (fun_mk (st := s_object_places) l14 c14 k14).binds (ps := ["book", "laying_told", "x"]) (fun _ _ _ _ _ _ us hl => match us, hl with | [_, _, _], _ => rfl), g_object_places := PySem.W.mg_of X G a14,
    f_hole_in := f15, fd_hole_in := _, F_hole_in := (fun_mk (st := s_hole_in) l15 c15 k15), b_hole_in := (fun_mk (st := s_hole_in) l15 c15 k15).binds (ps := ["indexes"]) (fun _ _ _ _ _ _ us hl => match us, hl with | [_], _ => rfl), g_hole_in := PySem.W.mg_of X G a15,
    f_hole_of := f16, fd_hole_of := _, F_hole_of := (fun_mk (st := s_hole_of) l16 c16 k16), b_hole_of := (fun_mk (st := s_hole_of) l16 c16 k16).binds (ps := ["book", "laying_told"]) (fun _ _ _ _ _ _ us hl => match us, hl with | [_, _], _ => rfl), g_hole_of := PySem.W.mg_of X G a16,
    f_first_hole := f17, fd_first_hole := _, F_first_hole := (fun_mk (st := s_first_hole) l17 c17 k17), b_first_hole := (fun_mk (st := s_first_hole) l17 c17 k17).binds (ps := ["book", "fields", "thing"]) (fun _ _ _ _ _ _ us hl => match us, hl with | [_, _, _], _ => rfl), g_first_hole := PySem.W.mg_of X G a17,
    f_is_laying := f18, fd_is_laying := _, F_is_laying := (fun_mk (st := s_is_laying) l18 c18 k18), b_is_laying := (fun_mk (st := s_is_laying) l18 c18 k18).binds (ps := ["book", "fields", "arms", "thing"]) (fun _ _ _ _ _ _ us hl => match us, hl with | [_, _, _, _], _ => rfl), g_is_laying := PySem.W.mg_of X G a18,
    f__law_hand := f19, fd__law_hand := _, F__law_hand := (fun_mk (st := s__law_hand) l19 c19 k19), b__law_hand := (fun_mk (st := s__law_hand) l19 c19 k19).binds (ps := ["_law_script"]) (fun _ _ _ _ _ _ us hl => match us, hl with | [_], _ => rfl), g__law_hand := PySem.W.mg_of X G a19,
    f__law_draw := f20, fd__law_draw := _, F__law_draw := (fun_mk (st := s__law_draw) l20 c20 k20), b__law_draw := (fun_mk (st := s__law_draw) l20 c20 k20).binds (ps := ["_law_hand_here", "_law_many"]) (fun _ _ _ _ _ _ us hl => match us, hl with | [_, _], _ => rfl), g__law_draw := PySem.W.mg_of X G a20,
    f__law_is := f21, fd__law_is := _, F__law_is := (fun_mk (st := s__law_is) l21 c21 k21), b__law_is := (fun_mk (st := s__law_is) l21 c21 k21).binds (ps := ["_law_told_here", "_law_due"]) (fun _ _ _ _ _ _ us hl => match us, hl with | [_, _], _ => rfl), g__law_is := PySem.W.mg_of X G a21,
    f__law_flag := f22, fd__law_flag := _, F__law_flag := (fun_mk (st := s__law_flag) l22 c22 k22), b__law_flag := (fun_mk (st := s__law_flag) l22 c22 k22).binds (ps := ["_law_told_here", "_law_due"]) (fun _ _ _ _ _ _ us hl => match us, hl with | [_, _], _ => rfl), g__law_flag := PySem.W.mg_of X G a22,
    f__law_deep := f23, fd__law_deep := _, F__law_deep := (fun_mk (st := s__law_deep) l23 c23 k23), b__law_deep := (fun_mk (st := s__law_deep) l23 c23 k23).binds (ps := ["_law_hand_here"]) (fun _ _ _ _ _ _ us hl => match us, hl with | [_], _ => rfl), g__law_deep := PySem.W.mg_of X G a23,
    f__law_parents := f24, fd__law_parents := _, F__law_parents := (fun_mk (st := s__law_parents) l24 c24 k24), b__law_parents := (fun_mk (st := s__law_parents) l24 c24 k24).binds (ps := ["_law_hand_here", "_law_many", "_law_most"]) (fun _ _ _ _ _ _ us hl => match us, hl with | [_, _, _], _ => rfl), g__law_parents := PySem.W.mg_of X G a24,
    f__law_sheet := f25, fd__law_sheet := _, F__law_sheet := (fun_mk (st := s__law_sheet) l25 c25 k25), b__law_sheet := (fun_mk (st := s__law_sheet) l25 c25 k25).binds (ps := ["_law_parents_here"]) (fun _ _ _ _ _ _ us hl => match us, hl with | [_], _ => rfl), g__law_sheet := PySem.W.mg_of X G a25,
    f__law_brought := f26, fd__law_brought := _, F__law_brought := (fun_mk (st := s__law_brought) l26 c26 k26), b__law_brought := (fun_mk (st := s__law_brought) l26 c26 k26).binds (ps := ["_law_hand_here", "_law_many", "_law_most"]) (fun _ _ _ _ _ _ us hl => match us, hl with | [_, _, _], _ => rfl), g__law_brought := PySem.W.mg_of X G a26,
    f__law_hole := f27, fd__law_hole := _, F__law_hole := (fun_mk (st := s__law_hole) l27 c27 k27), b__law_hole := (fun_mk (st := s__law_hole) l27 c27 k27).binds (ps := ["_law_sheet_here", "_law_told_here", "_law_x"]) (fun _ _ _ _ _ _ us hl => match us, hl with | [_, _, _], _ => rfl), g__law_hole := PySem.W.mg_of X G a27,
    f__law_first_hole := f28, fd__law_first_hole := _, F__law_first_hole := (fun_mk (st := s__law_first_hole) l28 c28 k28), b__law_first_hole := (fun_mk (st := s__law_first_hole) l28 c28 k28).binds (ps := ["_law_sheet_here", "_law_told_here"]) (fun _ _ _ _ _ _ us hl => match us, hl with | [_, _], _ => rfl), g__law_first_hole := PySem.W.mg_of X G a28,
    f__law_poured := f29, fd__law_poured := _, F__law_poured := (fun_mk (st := s__law_poured) l29 c29 k29), b__law_poured := (fun_mk (st := s__law_poured) l29 c29 k29).binds (ps := ["_law_hand_here", "_law_sheet_here", "_law_brought_here", "_law_arms"]) (fun _ _ _ _ _ _ us hl => match us, hl with | [_, _, _, _], _ => rfl), g__law_poured := PySem.W.mg_of X G a29,
    f__law_is_whole := f30, fd__law_is_whole := _, F__law_is_whole := (fun_mk (st := s__law_is_whole) l30 c30 k30), b__law_is_whole := (fun_mk (st := s__law_is_whole) l30 c30 k30).binds (ps := ["_law_thing"]) (fun _ _ _ _ _ _ us hl => match us, hl with | [_], _ => rfl), g__law_is_whole := PySem.W.mg_of X G a30,
    f__law_has_places := f31, fd__law_has_places := _, F__law_has_places := (fun_mk (st := s__law_has_places) l31 c31 k31), b__law_has_places := (fun_mk (st := s__law_has_places) l31 c31 k31).binds (ps := ["_law_brought_here", "_law_arms", "_law_thing"]) (fun _ _ _ _ _ _ us hl => match us, hl with | [_, _, _], _ => rfl), g__law_has_places := PySem.W.mg_of X G a31,
    f__law_odd := f32, fd__law_odd := _, F__law_odd := (fun_mk (st := s__law_odd) l32 c32 k32), b__law_odd := (fun_mk (st := s__law_odd) l32 c32 k32).binds (ps := ["_law_hand_here"]) (fun _ _ _ _ _ _ us hl => match us, hl with | [_], _ => rfl), g__law_odd := PySem.W.mg_of X G a32,
    f__law_bent := f33, fd__law_bent := _, F__law_bent := (fun_mk (st := s__law_bent) l33 c33 k33), b__law_bent := (fun_mk (st := s__law_bent) l33 c33 k33).binds (ps := ["_law_hand_here", "_law_thing"]) (fun _ _ _ _ _ _ us hl => match us, hl with | [_, _], _ => rfl), g__law_bent := PySem.W.mg_of X G a33,
    f__law_told := f34, fd__law_told := _, F__law_told := (fun_mk (st := s__law_told) l34 c34 k34), b__law_told := (fun_mk (st := s__law_told) l34 c34 k34).binds (ps := ["_law_book", "_law_brought_here", "_law_thing"]) (fun _ _ _ _ _ _ us hl => match us, hl with | [_, _, _], _ => rfl), g__law_told := PySem.W.mg_of X G a34,
    f_law := _, fd_law := _, F_law := (fun_mk (st := s_law) l35 c35 k35), b_law := (fun_mk (st := s_law) l35 c35 k35).binds (ps := ["_law_script"]) (fun _ _ _ _ _ _ us hl => match us, hl with | [_], _ => rfl), g_law := PySem.W.mg_of X G a35,
    z_ValueError := PySem.W.mg_none_of X G z_ValueError,
    z_abs := PySem.W.mg_none_of X G z_abs,
    z_all := PySem.W.mg_none_of X G z_all,
    z_bool := PySem.W.mg_none_of X G z_bool,
    z_enumerate := PySem.W.mg_none_of X G z_enumerate,
    z_int := PySem.W.mg_none_of X G z_int,
    z_isinstance := PySem.W.mg_none_of X G z_isinstance,
    z_len := PySem.W.mg_none_of X G z_len,
    z_list := PySem.W.mg_none_of X G z_list,
    z_max := PySem.W.mg_none_of X G z_max,
    z_min := PySem.W.mg_none_of X G z_min,
    z_range := PySem.W.mg_none_of X G z_range,
    z_set := PySem.W.mg_none_of X G z_set,
    z_sorted := PySem.W.mg_none_of X G z_sorted,
    z_tuple := PySem.W.mg_none_of X G z_tuple,
    z_zip := PySem.W.mg_none_of X G z_zip }⟩
end Lk
open PySem PySem.W PyProof.Rows
set_option maxHeartbeats 0 in
theorem PySem.Challenge.cw_latekinds_k58_layings_judged_and_spoiled_holds : PySem.Challenge.rw_latekinds_k58_layings_judged_and_spoiled.Holds := by
  w_on; o_law; k_head; (case hw => w_witness2)
  k_fill
  refine L2.walk_of (l := PySem.Challenge.rw_latekinds_k58_layings_judged_and_spoiled) (n := 63) (k := 9) (x := "_law_script") (CX := fun _ => L2.CX0) (sp := fun w => Lk.sp_law _) rfl (by decide) rfl ⟨rfl, by decide, by decide⟩ (fun w h Y => PySem.W.kIn_of Y) ?F (fun _ _ a ns hl _ hS => ⟨a, ns, rfl, hS, hl, fun _ => rfl⟩) (fun _ _ _ _ _ h => h)
  case F =>
    intro w mg fa h KX G hmg
    refine' Lk.all_mk KX G hmg ?gk_KindError ?op_X ?tp_X ?hn_X ?ht_X ?ns_X ?gc_NoNumber ?lc_NoNumber ?rv_NoNumber ?sa_NoNumber ?ex_NoNumber ?ty_NoNumber ?kp_NoNumber ?su_NoNumber ?sv_NoNumber ?mr_NoNumber ?a_NoNumber ?t_NoNumber ?lf_NoNumber ?cd_NoNumber ?ce_NoNumber ?co_NoNumber ?vf_NoNumber ?ff_NoNumber ?ga_NoNumber ?gk_NoNumber ?hd_NoNumber ?ha_NoNumber ?hm_NoNumber ?gc_NoFields ?lc_NoFields ?rv_NoFields ?sa_NoFields ?ex_NoFields ?ty_NoFields ?kp_NoFields ?su_NoFields ?sv_NoFields ?mr_NoFields ?a_NoFields ?t_NoFields ?lf_NoFields ?cd_NoFields ?ce_NoFields ?co_NoFields ?vf_NoFields ?ff_NoFields ?ga_NoFields ?gk_NoFields ?hd_NoFields ?ha_NoFields ?hm_NoFields ?gc_NoLaying ?lc_NoLaying ?rv_NoLaying ?sa_NoLaying ?ex_NoLaying ?ty_NoLaying ?kp_NoLaying ?su_NoLaying ?sv_NoLaying ?mr_NoLaying ?a_NoLaying ?t_NoLaying ?lf_NoLaying ?cd_NoLaying ?ce_NoLaying ?co_NoLaying ?vf_NoLaying ?ff_NoLaying ?ga_NoLaying ?gk_NoLaying ?hd_NoLaying ?ha_NoLaying ?hm_NoLaying ?xm_NoLaying_KindError ?kt_NoLaying_NoLaying ?kt_NoLaying_ValueError ?gc_Book ?pg_Book ?hd_Book ?po_Book ?sa_Book ?mk_Book ?kc_Book ?ta_Book ?tn_Book ?tt_Book ?tm_Book ?n_Book_parents ?n_Book_bits ?kt_Book_int ?kt_Book_bool ?kt_Book_tuple ?kt_Book_list ?k_MOST_KINDS ?k_MOST_PARENTS ?k_MOST_BROUGHT ?k_MOST_ARMS ?a0 ?l0 ?c0 ?k0 ?a1 ?l1 ?c1 ?k1 ?a2 ?l2 ?c2 ?k2 ?a3 ?l3 ?c3 ?k3 ?a4 ?i4 ?l4 ?c4 ?k4 ?a5 ?i5 ?l5 ?c5 ?k5 ?a6 ?l6 ?c6 ?k6 ?a7 ?l7 ?c7 ?k7 ?a8 ?l8 ?c8 ?k8 ?a9 ?l9 ?c9 ?k9 ?a10 ?l10 ?c10 ?k10 ?a11 ?l11 ?c11 ?k11 ?a12 ?l12 ?c12 ?k12 ?a13 ?l13 ?c13 ?k13 ?a14 ?l14 ?c14 ?k14 ?a15 ?l15 ?c15 ?k15 ?a16 ?l16 ?c16 ?k16 ?a17 ?l17 ?c17 ?k17 ?a18 ?l18 ?c18 ?k18 ?a19 ?l19 ?c19 ?k19 ?a20 ?l20 ?c20 ?k20 ?a21 ?l21 ?c21 ?k21 ?a22 ?l22 ?c22 ?k22 ?a23 ?l23 ?c23 ?k23 ?a24 ?l24 ?c24 ?k24 ?a25 ?l25 ?c25 ?k25 ?a26 ?l26 ?c26 ?k26 ?a27 ?l27 ?c27 ?k27 ?a28 ?l28 ?c28 ?k28 ?a29 ?l29 ?c29 ?k29 ?a30 ?l30 ?c30 ?k30 ?a31 ?l31 ?c31 ?k31 ?a32 ?l32 ?c32 ?k32 ?a33 ?l33 ?c33 ?k33 ?a34 ?l34 ?c34 ?k34 ?a35 ?l35 ?c35 ?k35 ?z_ValueError ?z_abs ?z_all ?z_bool ?z_enumerate ?z_int ?z_isinstance ?z_len ?z_list ?z_max ?z_min ?z_range ?z_set ?z_sorted ?z_tuple ?z_zip
    (case gk_KindError => k_is)
    (case op_X => k_is)
    (case tp_X => first | rfl | decide +kernel)
    (case hn_X => k_is)
    (case ht_X => k_is)
    (case ns_X => k_is)
    (case gc_NoNumber => k_is)
    (case lc_NoNumber => k_is)
    (case rv_NoNumber => first | rfl | decide +kernel)
    (case sa_NoNumber => k_is)
    (case ex_NoNumber => k_is)
    (case ty_NoNumber => k_is)
    (case kp_NoNumber => k_is)
    (case su_NoNumber => ks_is)
    (case sv_NoNumber => k_is)
    (case mr_NoNumber => k_is)
    (case a_NoNumber => k_is)
    (case t_NoNumber => k_is)
    (case lf_NoNumber => k_is)
    (case cd_NoNumber => k_is)
    (case ce_NoNumber => k_is)
    (case co_NoNumber => k_is)
    (case vf_NoNumber => rfl)
    (case ff_NoNumber => first | rfl | decide +kernel)
    (case ga_NoNumber => k_is)
    (case gk_NoNumber => k_is)
    (case hd_NoNumber => k_is)
    (case ha_NoNumber => k_is)
    (case hm_NoNumber => k_is)
    (case gc_NoFields => k_is)
    (case lc_NoFields => k_is)
    (case rv_NoFields => first | rfl | decide +kernel)
    (case sa_NoFields => k_is)
    (case ex_NoFields => k_is)
    (case ty_NoFields => k_is)
    (case kp_NoFields => k_is)
    (case su_NoFields => ks_is)
    (case sv_NoFields => k_is)
    (case mr_NoFields => k_is)
    (case a_NoFields => k_is)
    (case t_NoFields => k_is)
    (case lf_NoFields => k_is)
    (case cd_NoFields => k_is)
    (case ce_NoFields => k_is)
    (case co_NoFields => k_is)
    (case vf_NoFields => rfl)
    (case ff_NoFields => first | rfl | decide +kernel)
    (case ga_NoFields => k_is)
    (case gk_NoFields => k_is)
    (case hd_NoFields => k_is)
    (case ha_NoFields => k_is)
    (case hm_NoFields => k_is)
    (case gc_NoLaying => k_is)
    (case lc_NoLaying => k_is)
    (case rv_NoLaying => first | rfl | decide +kernel)
    (case sa_NoLaying => k_is)
    (case ex_NoLaying => k_is)
    (case ty_NoLaying => k_is)
    (case kp_NoLaying => k_is)
    (case su_NoLaying => ks_is)
    (case sv_NoLaying => k_is)
    (case mr_NoLaying => k_is)
    (case a_NoLaying => k_is)
    (case t_NoLaying => k_is)
    (case lf_NoLaying => k_is)
    (case cd_NoLaying => k_is)
    (case ce_NoLaying => k_is)
    (case co_NoLaying => k_is)
    (case vf_NoLaying => rfl)
    (case ff_NoLaying => first | rfl | decide +kernel)
    (case ga_NoLaying => k_is)
    (case gk_NoLaying => k_is)
    (case hd_NoLaying => k_is)
    (case ha_NoLaying => k_is)
    (case hm_NoLaying => k_is)
    (case xm_NoLaying_KindError => kts_exm)
    (case kt_NoLaying_NoLaying => kit_is)
    (case gc_Book => k_is)
    (case pg_Book => k_is)
    (case hd_Book => k_is)
    (case po_Book => k_is)
    (case sa_Book => k_is)
    (case mk_Book => k_is)
    (case kc_Book => k_is)
    (case ta_Book => k_is)
    (case tn_Book => k_is)
    (case tt_Book => k_is)
    (case tm_Book => k_is)
    (case n_Book_parents => k_is)
    (case n_Book_bits => k_is)
    (case a0 => k_is)
    (case l0 => k_is)
    (case c0 => k_is)
    (case k0 => k_is)
    (case a1 => k_is)
    (case l1 => k_is)
    (case c1 => k_is)
    (case k1 => k_is)
    (case a2 => k_is)
    (case l2 => k_is)
    (case c2 => k_is)
    (case k2 => k_is)
    (case a3 => k_is)
    (case l3 => k_is)
    (case c3 => k_is)
    (case k3 => k_is)
    (case a4 => k_is)
    (case i4 => k_is)
    (case l4 => k_is)
    (case c4 => k_is)
    (case k4 => k_is)
    (case a5 => k_is)
    (case i5 => k_is)
    (case l5 => k_is)
    (case c5 => k_is)
    (case k5 => k_is)
    (case a6 => k_is)
    (case l6 => k_is)
    (case c6 => k_is)
    (case k6 => k_is)
    (case a7 => k_is)
    (case l7 => k_is)
    (case c7 => k_is)
    (case k7 => k_is)
    (case a8 => k_is)
    (case l8 => k_is)
    (case c8 => k_is)
    (case k8 => k_is)
    (case a9 => k_is)
    (case l9 => k_is)
    (case c9 => k_is)
    (case k9 => k_is)
    (case a10 => k_is)
    (case l10 => k_is)
    (case c10 => k_is)
    (case k10 => k_is)
    (case a11 => k_is)
    (case l11 => k_is)
    (case c11 => k_is)
    (case k11 => k_is)
    (case a12 => k_is)
    (case l12 => k_is)
    (case c12 => k_is)
    (case k12 => k_is)
    (case a13 => k_is)
    (case l13 => k_is)
    (case c13 => k_is)
    (case k13 => k_is)
    (case a14 => k_is)
    (case l14 => k_is)
    (case c14 => k_is)
    (case k14 => k_is)
    (case a15 => k_is)
    (case l15 => k_is)
    (case c15 => k_is)
    (case k15 => k_is)
    (case a16 => k_is)
    (case l16 => k_is)
    (case c16 => k_is)
    (case k16 => k_is)
    (case a17 => k_is)
    (case l17 => k_is)
    (case c17 => k_is)
    (case k17 => k_is)
    (case a18 => k_is)
    (case l18 => k_is)
    (case c18 => k_is)
    (case k18 => k_is)
    (case a19 => k_is)
    (case l19 => k_is)
    (case c19 => k_is)
    (case k19 => k_is)
    (case a20 => k_is)
    (case l20 => k_is)
    (case c20 => k_is)
    (case k20 => k_is)
    (case a21 => k_is)
    (case l21 => k_is)
    (case c21 => k_is)
    (case k21 => k_is)
    (case a22 => k_is)
    (case l22 => k_is)
    (case c22 => k_is)
    (case k22 => k_is)
    (case a23 => k_is)
    (case l23 => k_is)
    (case c23 => k_is)
    (case k23 => k_is)
    (case a24 => k_is)
    (case l24 => k_is)
    (case c24 => k_is)
    (case k24 => k_is)
    (case a25 => k_is)
    (case l25 => k_is)
    (case c25 => k_is)
    (case k25 => k_is)
    (case a26 => k_is)
    (case l26 => k_is)
    (case c26 => k_is)
    (case k26 => k_is)
    (case a27 => k_is)
    (case l27 => k_is)
    (case c27 => k_is)
    (case k27 => k_is)
    (case a28 => k_is)
    (case l28 => k_is)
    (case c28 => k_is)
    (case k28 => k_is)
    (case a29 => k_is)
    (case l29 => k_is)
    (case c29 => k_is)
    (case k29 => k_is)
    (case a30 => k_is)
    (case l30 => k_is)
    (case c30 => k_is)
    (case k30 => k_is)
    (case a31 => k_is)
    (case l31 => k_is)
    (case c31 => k_is)
    (case k31 => k_is)
    (case a32 => k_is)
    (case l32 => k_is)
    (case c32 => k_is)
    (case k32 => k_is)
    (case a33 => k_is)
    (case l33 => k_is)
    (case c33 => k_is)
    (case k33 => k_is)
    (case a34 => k_is)
    (case l34 => k_is)
    (case c34 => k_is)
    (case k34 => k_is)
    (case a35 => k_is)
    (case l35 => k_is)
    (case c35 => k_is)
    (case k35 => k_is)
    (case kt_NoLaying_ValueError => kit_is)
    (case kt_Book_int => kit_is)
    (case kt_Book_bool => kit_is)
    (case kt_Book_tuple => kit_is)
    (case kt_Book_list => kit_is)
    (case k_MOST_KINDS => k_is)
    (case k_MOST_PARENTS => k_is)
    (case k_MOST_BROUGHT => k_is)
    (case k_MOST_ARMS => k_is)
    (case z_ValueError => k_is)
    (case z_abs => k_is)
    (case z_all => k_is)
    (case z_bool => k_is)
    (case z_enumerate => k_is)
    (case z_int => k_is)
    (case z_isinstance => k_is)
    (case z_len => k_is)
    (case z_list => k_is)
    (case z_max => k_is)
    (case z_min => k_is)
    (case z_range => k_is)
    (case z_set => k_is)
    (case z_sorted => k_is)
    (case z_tuple => k_is)
    (case z_zip => k_is)
#print axioms PySem.Challenge.cw_latekinds_k58_layings_judged_and_spoiled_holds
