import PyProof.Rows.All
import Wide.All
import OpenK.AllK
import Wide.FinOn
import HandS.ForMost
import HandS.IsInst
import HandS.Rev
import HandS.Wide
import HandS.SortInts
import HandS.TupAny
import HandS.Codes
import HandS.SetFor
import KE.KDictList
import PySem.Challenge.RW_latekinds_k15_slots_of_a_scheme
set_option Elab.async false
set_option linter.all false
set_option maxRecDepth 100000
set_option maxHeartbeats 4000000
namespace Lk
open PySem L2
def top (i : Nat) : Stmt := PySem.Challenge.pw_latekinds_k15_slots_of_a_scheme.main.body.getD i (.Pass ⟨0, 0, 0, 0⟩)
abbrev s_is_integer : Stmt := top 4
abbrev s_is_triple : Stmt := top 5
abbrev s_is_given : Stmt := top 7
abbrev s_has_form : Stmt := top 8
abbrev s_check_scheme : Stmt := top 9
abbrev s_slots_of : Stmt := top 10
abbrev s_many_slots : Stmt := top 11
abbrev s__law_tape : Stmt := top 13
abbrev s__law_pick : Stmt := top 14
abbrev s__law_great : Stmt := top 15
abbrev s__law_unlike : Stmt := top 17
abbrev s__law_menu : Stmt := top 16
abbrev s__law_is_right : Stmt := top 18
abbrev s_law : Stmt := top 19
/-! ### what is kept -/
theorem Same.at {H H' : Hp} {a : Addr} {o : HO} (e : Same H H') (h : H a = some o) : H' a = some o := e a o h
theorem Same.new {H H' : Hp} {p : Addr} {o : HO} (e : Same H H') (h : H' p = none) : Same H (upd H' p o) := fun b u z => by
  have z2 := e b u z
  rw [upd_ne (ne_of_none z2 h)]
  exact z2
theorem Same.mut {H H' : Hp} {p : Addr} {o : HO} (e : Same H H') (h : H p = none) : Same H (upd H' p o) := fun b u z => by
  rw [upd_ne (ne_of_none z h)]
  exact e b u z
theorem upd_at {H : Hp} {p a : Addr} {o u : HO} (n : a ≠ p) (h : H a = some u) : upd H p o a = some u := by
  rw [upd_ne n]
  exact h
theorem upd_at' {H : Hp} {p a : Addr} {o u : HO} (h : H a = some u) (n : a ≠ p) : upd H p o a = some u := upd_at n h
/-- the readings of len, list(..), tuple(..) by name -/
def rLenQ (K : PySem.W.Frag) : List V → Hp → VK → Prop := fun xs H Q => ∃ p ys, xs = [.ref p] ∧ (SqL K H p ys ∨ SqT K H p ys) ∧ Q (.int ys.length) H
def rListQ (K : PySem.W.Frag) : List V → Hp → VK → Prop := fun xs H Q => ∃ p ys, xs = [.ref p] ∧ (SqL K H p ys ∨ SqT K H p ys) ∧ ∀ l, H l = none → Q (.ref l) (upd H l (.lst ys))
def rTupQ (K : PySem.W.Frag) : List V → Hp → VK → Prop := fun xs H Q => ∃ p ys, xs = [.ref p] ∧ ((SqL K H p ys ∧ ∀ l, H l = none → Q (.ref l) (upd H l (.tup ys))) ∨ (SqT K H p ys ∧ Q (.ref p) H))
/-- new in H -/
structure Nw (H : Hp) (p : Addr) : Prop where
  e : H p = none
theorem Nw.ne {H : Hp} {a p : Addr} {o : HO} (w : Nw H p) (h : H a = some o) : a ≠ p := ne_of_none h w.e
/-- a tape: its address, its list's, the list -/
structure Tp where
  t : Addr
  l : Addr
  ns : List Int
structure Tape (τ : Tp) (H : Hp) : Prop where
  list : H τ.l = some (.lst (τ.ns.map V.int))
  ne : τ.l ≠ τ.t
  here : ∃ i c s n : Int, H τ.t = some (.lst [.ref τ.l, .int i, .int c, .int s, .int n]) ∧ 0 ≤ i
/-- all but the tape is kept, the tape is a tape -/
structure Mv (τ : Tp) (H0 H : Hp) : Prop where
  was : Tape τ H0
  keep : ∀ a o, a ≠ τ.t → H0 a = some o → H a = some o
  now : Tape τ H
structure Mz (τ : Tp) (H0 H : Hp) : Prop where
  mv : Mv τ H0 H
section
variable {τ : Tp} {H0 H H1 H2 : Hp} {p a : Addr} {o : HO}
theorem Tape.mv (h : Tape τ H) : Mv τ H H := ⟨h, fun _ _ _ e => e, h⟩
theorem Tape.mz (h : Tape τ H) : Mz τ H H := ⟨h.mv⟩
theorem Mv.self (m : Mv τ H0 H) : Mv τ H H := m.now.mv
theorem Mv.trans (m : Mv τ H0 H1) (k : Mv τ H1 H2) : Mv τ H0 H2 := ⟨m.was, fun a o n e => k.keep a o n (m.keep a o n e), k.now⟩
theorem Mz.trans (m : Mz τ H0 H1) (k : Mv τ H1 H2) : Mz τ H0 H2 := ⟨m.mv.trans k⟩
theorem Tape.new (h : Tape τ H) (n : H p = none) : Tape τ (upd H p o) := by
  obtain ⟨h1, h2, i, c, s, k, h3, h4⟩ := h
  exact ⟨upd_at (ne_of_none h1 n) h1, h2, i, c, s, k, upd_at (ne_of_none h3 n) h3, h4⟩
theorem Mv.new (m : Mv τ H0 H) (n : H p = none) : Mv τ H0 (upd H p o) := ⟨m.was, fun a u e z => upd_at (ne_of_none (m.keep a u e z) n) (m.keep a u e z), m.now.new n⟩
theorem Mz.new (m : Mz τ H0 H) (n : H p = none) : Mz τ H0 (upd H p o) := ⟨m.mv.new n⟩
theorem Mv.neF (m : Mv τ H0 H) (n : H0 p = none) : p ≠ τ.t := fun e => by
  obtain ⟨_, _, _, _, h, _⟩ := m.was.here
  rw [e, h] at n
  cases n
theorem Mv.neN (m : Mv τ H0 H) (n : H p = none) : p ≠ τ.t := fun e => by
  obtain ⟨_, _, _, _, h, _⟩ := m.now.here
  rw [e, h] at n
  cases n
theorem Mv.mut (m : Mv τ H0 H) (n : H0 p = none) : Mv τ H0 (upd H p o) := by
  obtain ⟨i, c, s, k, h3, h4⟩ := m.now.here
  have n1 : τ.l ≠ p := ne_of_none m.was.list n
  exact ⟨m.was, fun a u e z => upd_at (ne_of_none z n) (m.keep a u e z), upd_at n1 m.now.list, m.now.ne, i, c, s, k, upd_at (m.neF n).symm h3, h4⟩
theorem Mz.mut (m : Mz τ H0 H) (n : H0 p = none) : Mz τ H0 (upd H p o) := ⟨m.mv.mut n⟩
theorem Mv.free (m : Mv τ H0 H) (n : H p = none) : H0 p = none := by
  cases e : H0 p with
  | none => rfl
  | some o =>
    by_cases z : p = τ.t
    · obtain ⟨_, _, _, _, h, _⟩ := m.now.here
      rw [z, h] at n
      cases n
    · rw [m.keep p o z e] at n
      cases n
theorem Mz.free (m : Mz τ H0 H) (n : H p = none) : H0 p = none := m.mv.free n
theorem Mv.at (m : Mv τ H0 H) (n : a ≠ τ.t) (h : H0 a = some o) : H a = some o := m.keep a o n h
theorem Mv.at' (m : Mv τ H0 H) (h : H0 a = some o) (n : a ≠ τ.t) : H a = some o := m.keep a o n h
theorem Mz.at (m : Mz τ H0 H) (n : a ≠ τ.t) (h : H0 a = some o) : H a = some o := m.mv.keep a o n h
theorem Mv.neT {xs : List V} (m : Mv τ H0 H) (h : H a = some (.tup xs)) : a ≠ τ.t := fun e => by
  obtain ⟨_, _, _, _, z, _⟩ := m.now.here
  rw [e, z] at h
  cases h
theorem Mv.neT0 {xs : List V} (m : Mv τ H0 H) (h : H0 a = some (.tup xs)) : a ≠ τ.t := m.was.mv.neT h
theorem Mv.atT {xs : List V} (m : Mv τ H0 H) (h : H0 a = some (.tup xs)) : H a = some (.tup xs) := m.keep a _ (m.neT0 h) h
theorem Tape.same (h : Tape τ H) (s : Same H H1) : Tape τ H1 := by
  obtain ⟨h1, h2, i, c, s', k, h3, h4⟩ := h
  exact ⟨s _ _ h1, h2, i, c, s', k, s _ _ h3, h4⟩
theorem Mv.same (m : Mv τ H0 H) (s : Same H H1) : Mv τ H0 H1 := by
  obtain ⟨h1, h2, i, c, s', k, h3, h4⟩ := m.now
  exact ⟨m.was, fun a o e z => s a o (m.keep a o e z), s _ _ h1, h2, i, c, s', k, s _ _ h3, h4⟩
theorem Mz.same (m : Mz τ H0 H) (s : Same H H1) : Mz τ H0 H1 := ⟨m.mv.same s⟩
end
theorem iteD {c A B : Prop} [Decidable c] (h1 : c → A) (h2 : ¬ c → B) : if decide c = true then A else B := by
  by_cases h : c
  · rw [decide_eq_true h]
    exact iteT (h1 h)
  · rw [decide_eq_false h]
    exact iteF (h2 h)
theorem iteDY {c A B : Prop} [Decidable c] (h : c) (h1 : A) : if decide c = true then A else B := by
  rw [decide_eq_true h]
  exact iteT h1
theorem iteDN {c A B : Prop} [Decidable c] (h : ¬ c) (h1 : B) : if decide c = true then A else B := by
  rw [decide_eq_false h]
  exact iteF h1
theorem iteET {b : Bool} {A B : Prop} (h : b = true) (k : A) : if b = true then A else B := by
  rw [h]
  exact iteT k
theorem iteEF {b : Bool} {A B : Prop} (h : b = false) (k : B) : if b = true then A else B := by
  rw [h]
  exact iteF k
theorem iteB {b : Bool} {A B : Prop} (h1 : b = true → A) (h2 : b = false → B) : if b = true then A else B := by
  cases b with
  | true => exact iteT (h1 rfl)
  | false => exact iteF (h2 rfl)
theorem fmod_in {x m : Int} (h : 0 < m) : 0 ≤ x.fmod m ∧ x.fmod m < m := by
  rw [Int.fmod_eq_emod_of_nonneg x (Int.le_of_lt h)]
  exact ⟨Int.emod_nonneg x (by omega), Int.emod_lt_of_pos x h⟩
theorem Mv.put {τ : Tp} {H0 H : Hp} (m : Mv τ H0 H) {xs : List V} {i c s n : Int} (e : xs = [.ref τ.l, .int i, .int c, .int s, .int n]) (h : 0 ≤ i) : Mv τ H0 (upd H τ.t (.lst xs)) := by
  subst e
  exact ⟨m.was, fun a o k z => upd_at k (m.keep a o k z), upd_at m.now.ne m.now.list, m.now.ne, i, c, s, n, upd_same, h⟩
theorem le_lineB {n : Nat} (h : Nat.ble n 100000 = true) : n ≤ sizeLine := Nat.le_trans (Nat.le_of_ble_eq_true h) (by decide)
theorem fmod64 {x m : Int} (h : 0 < m) (h2 : m ≤ 2 ^ 64) : -(2 ^ 64) < x.fmod m ∧ x.fmod m < 2 ^ 64 := by
  have q := fmod_in (x := x) h
  omega
theorem at_ints {ns : List Int} {i : Int} (h0 : 0 ≤ i) (h : i < ((ns.map V.int).length : Int)) : ∃ v : Int, atI (ns.map V.int) i = some (.int v) := by
  rw [List.length_map] at h
  have hj : i.toNat < ns.length := by omega
  refine ⟨ns[i.toNat], at_of (j := i.toNat) (by omega) ?_⟩
  rw [List.getElem?_map, List.getElem?_eq_getElem hj]
  rfl
theorem dec_int {a b : Int} : decide (V.int a = V.int b) = decide (a = b) := by
  by_cases h : a = b
  · rw [decide_eq_true h, h, decide_eq_true rfl]
  · rw [decide_eq_false h, decide_eq_false fun e => h (V.int.inj e)]
theorem dec_nat {a b : Nat} : decide (V.int (a : Int) = V.int (b : Int)) = decide (a = b) := by
  rw [dec_int]
  exact decide_eq_decide.mpr Int.ofNat_inj
theorem iteI {a b : Int} {A B : Prop} (h1 : a = b → A) (h2 : ¬ a = b → B) : if decide (V.int a = V.int b) = true then A else B := by
  rw [dec_int]
  exact iteD h1 h2
/-! ### kinds of things -/
def isIntB : V → Bool
  | .int _ => true
  | _ => false
def withinB (v : V) (lo hi : Int) : Bool := match v with
  | .int i => decide (lo ≤ i) && decide (i ≤ hi)
  | _ => false
structure IntK (K : PySem.W.Frag) (H : Hp) (v : V) : Prop where
  ex : ∃ (t : Value) (bi bb : Bool), TyX K H v t ∧ PySem.W.kitOne K t (.type "int") = some bi ∧ PySem.W.kitOne K t (.type "bool") = some bb ∧ (bi && !bb) = isIntB v
section
variable {K : PySem.W.Frag} {H : Hp}
theorem IntK.int (i : Int) : IntK K H (.int i) := ⟨_, true, false, .base (.int i), kit_ty (by decide +kernel), kit_ty (by decide +kernel), rfl⟩
theorem IntK.bl (b : Bool) : IntK K H (.bl b) := ⟨_, true, true, .base (.bl b), kit_ty (by decide +kernel), kit_ty (by decide +kernel), rfl⟩
theorem IntK.non : IntK K H .non := ⟨_, false, false, .base .non, kit_ty (by decide +kernel), kit_ty (by decide +kernel), rfl⟩
theorem IntK.str (s : Str) : IntK K H (.str s) := ⟨_, false, false, .base (.str s), kit_ty (by decide +kernel), kit_ty (by decide +kernel), rfl⟩
theorem IntK.tup {a : Addr} {xs : List V} (h : H a = some (.tup xs)) : IntK K H (.ref a) := ⟨_, false, false, .base (.tup h), kit_ty (by decide +kernel), kit_ty (by decide +kernel), rfl⟩
theorem IntK.lst {a : Addr} {xs : List V} (h : H a = some (.lst xs)) : IntK K H (.ref a) := ⟨_, false, false, .base (.lst h), kit_ty (by decide +kernel), kit_ty (by decide +kernel), rfl⟩
theorem IntK.dK {a : Addr} {xs : List (Key × V)} (h : H a = some (.dK xs)) : IntK K H (.ref a) := ⟨_, false, false, .base (.dK h), kit_ty (by decide +kernel), kit_ty (by decide +kernel), rfl⟩
theorem ty_tup {a : Addr} {xs : List V} (h : H a = some (.tup xs)) : TyX K H (.ref a) (.type "tuple") := .base (.tup h)
theorem ty_int (i : Int) : TyX K H (.int i) (.type "int") := .base (.int i)
theorem ty_bl (b : Bool) : TyX K H (.bl b) (.type "bool") := .base (.bl b)
theorem tup_tup : PySem.W.kitOne K (.type "tuple") (.type "tuple") = some true := kit_ty (by decide +kernel)
theorem int_tup : PySem.W.kitOne K (.type "int") (.type "tuple") = some false := kit_ty (by decide +kernel)
theorem int_int : PySem.W.kitOne K (.type "int") (.type "int") = some true := kit_ty (by decide +kernel)
theorem int_bool : PySem.W.kitOne K (.type "int") (.type "bool") = some false := kit_ty (by decide +kernel)
theorem bool_bool : PySem.W.kitOne K (.type "bool") (.type "bool") = some true := kit_ty (by decide +kernel)
end
/-- tuples stay -/
def TK (H H' : Hp) : Prop := ∀ a xs, H a = some (.tup xs) → H' a = some (.tup xs)
theorem Same.tk {H H' : Hp} (s : Same H H') : TK H H' := fun a _ h => s a _ h
theorem Mv.tk {τ : Tp} {H H' : Hp} (m : Mv τ H H') : TK H H' := fun a _ h => m.keep a _ (m.neT0 h) h
theorem TK.trans {H H1 H2 : Hp} (a : TK H H1) (b : TK H1 H2) : TK H H2 := fun x xs h => b x xs (a x xs h)
theorem TK.mut {H : Hp} {p : Addr} {o : HO} {ys : List V} (h : H p = some (.lst ys)) : TK H (upd H p o) := fun a xs e => upd_at (ne_of e h (by intro z; cases z)) e
theorem TK.new {H : Hp} {p : Addr} {o : HO} (h : H p = none) : TK H (upd H p o) := fun a xs e => upd_at (ne_of_none e h) e
/-! ### schemes -/
abbrev Tr := Int × Int × List Int
def Trip (H : Hp) (v : V) (e : Tr) : Prop := ∃ (p q : Addr), v = .ref p ∧ H p = some (.tup [.int e.1, .int e.2.1, .ref q]) ∧ H q = some (.tup (e.2.2.map V.int))
def SchAt (H : Hp) (a : Addr) (S : List Tr) : Prop := ∃ vs : List V, H a = some (.tup vs) ∧ vs.length = S.length ∧ ∀ (i : Nat) (e : Tr), S[i]? = some e → ∃ v, vs[i]? = some v ∧ Trip H v e
theorem Trip.tk {H H' : Hp} {v : V} {e : Tr} (h : Trip H v e) (k : TK H H') : Trip H' v e := by
  obtain ⟨p, q, e1, e2, e3⟩ := h
  exact ⟨p, q, e1, k _ _ e2, k _ _ e3⟩
theorem SchAt.tk {H H' : Hp} {a : Addr} {S : List Tr} (h : SchAt H a S) (k : TK H H') : SchAt H' a S := by
  obtain ⟨vs, h1, h2, h3⟩ := h
  refine ⟨vs, k _ _ h1, h2, fun i e he => ?_⟩
  obtain ⟨v, hv, ht⟩ := h3 i e he
  exact ⟨v, hv, ht.tk k⟩
theorem SchAt.at {H : Hp} {a : Addr} {S : List Tr} (h : SchAt H a S) {i : Nat} {e : Tr} (he : S[i]? = some e) : ∃ vs p q, H a = some (.tup vs) ∧ vs.length = S.length ∧ vs[i]? = some (.ref p) ∧ H p = some (.tup [.int e.1, .int e.2.1, .ref q]) ∧ H q = some (.tup (e.2.2.map V.int)) := by
  obtain ⟨vs, h1, h2, h3⟩ := h
  obtain ⟨v, hv, p, q, e1, e2, e3⟩ := h3 i e he
  exact ⟨vs, p, q, h1, h2, by rw [hv, e1], e2, e3⟩
def saysB (ex ep : Tr) : Bool := decide (ep.1 < (ex.2.2.length : Int)) && decide (ep.2.1 ≤ ex.2.2.getD ep.1.toNat 0)
def Good (e : Tr) : Prop := 0 ≤ e.1 ∧ e.2.2.length ≤ 1000
def GoodT (v : V) (H : Hp) : Prop := ∃ e, Good e ∧ Trip H v e
theorem GoodT.tk {v : V} {H H' : Hp} (h : GoodT v H) (k : TK H H') : GoodT v H' := by
  obtain ⟨e, g, t⟩ := h
  exact ⟨e, g, t.tk k⟩
theorem sch_of {H : Hp} {a : Addr} : ∀ {vs : List V}, (∀ v ∈ vs, GoodT v H) → ∃ S : List Tr, S.length = vs.length ∧ (∀ e ∈ S, Good e) ∧ ∀ (i : Nat) (e : Tr), S[i]? = some e → ∃ v, vs[i]? = some v ∧ Trip H v e
  | [], _ => ⟨[], rfl, (fun e h => by cases h), (fun i e h => by simp at h)⟩
  | v :: r, h => by
    obtain ⟨S, h1, h2, h3⟩ := sch_of (a := a) (vs := r) fun u hu => h u (List.mem_cons_of_mem _ hu)
    obtain ⟨e, g, t⟩ := h v List.mem_cons_self
    refine ⟨e :: S, by rw [List.length_cons, List.length_cons, h1], fun x hx => ?_, fun i x hx => ?_⟩
    · rcases List.mem_cons.mp hx with rfl | hx
      · exact g
      · exact h2 x hx
    · cases i with
      | zero =>
        have q : e = x := Option.some.inj hx
        exact ⟨v, rfl, q ▸ t⟩
      | succ i => exact h3 i x hx
/-- a list of triples' addresses -/
structure ScL (H : Hp) (vs : List V) (S : List Tr) : Prop where
  len : vs.length = S.length
  item : ∀ (i : Nat) (e : Tr), S[i]? = some e → ∃ v, vs[i]? = some v ∧ Trip H v e
theorem ScL.nil {H : Hp} : ScL H [] [] := ⟨rfl, fun i e h => by simp at h⟩
theorem ScL.tk {H H' : Hp} {vs : List V} {S : List Tr} (h : ScL H vs S) (k : TK H H') : ScL H' vs S := ⟨h.len, fun i e he => by
  obtain ⟨v, hv, ht⟩ := h.item i e he
  exact ⟨v, hv, ht.tk k⟩⟩
theorem ScL.snoc {H : Hp} {vs : List V} {S : List Tr} {v : V} {e : Tr} (h : ScL H vs S) (t : Trip H v e) : ScL H (vs ++ [v]) (S ++ [e]) := by
  refine ⟨by rw [List.length_append, List.length_append, h.len]; rfl, fun i x hx => ?_⟩
  by_cases hi : i < S.length
  · rw [List.getElem?_append_left hi] at hx
    obtain ⟨u, hu, ht⟩ := h.item i x hx
    exact ⟨u, by rw [List.getElem?_append_left (by rw [h.len]; exact hi)]; exact hu, ht⟩
  · rw [List.getElem?_append_right (by omega)] at hx
    have q := (List.getElem?_eq_some_iff.mp hx).1
    rw [List.length_singleton] at q
    have e0 : i - S.length = 0 := by omega
    rw [e0] at hx
    have ex : e = x := Option.some.inj hx
    refine ⟨v, ?_, ex ▸ t⟩
    rw [List.getElem?_append_right (by rw [h.len]; omega), h.len, e0]
    rfl
theorem ScL.sch {H : Hp} {a : Addr} {vs : List V} {S : List Tr} (h : ScL H vs S) (ha : H a = some (.tup vs)) : SchAt H a S := ⟨vs, ha, h.len, h.item⟩
theorem ScL.rev {H : Hp} {vs : List V} {S : List Tr} (h : ScL H vs S) : ScL H vs.reverse S.reverse := by
  refine ⟨by rw [List.length_reverse, List.length_reverse, h.len], fun i e he => ?_⟩
  have il : i < S.length := by
    have q := (List.getElem?_eq_some_iff.mp he).1
    rw [List.length_reverse] at q
    exact q
  rw [List.getElem?_reverse il] at he
  obtain ⟨v, hv, ht⟩ := h.item _ _ he
  exact ⟨v, by rw [List.getElem?_reverse (by rw [h.len]; exact il), h.len]; exact hv, ht⟩
/-! ### len(set(a tuple of whole numbers)); list(reversed(a list)) -/
section
open PySem.Spec PyProof.Rows
variable {X : Cx}
def tLenSetU (K : PySem.W.Frag) (ta : TE) : TE := fun σ H Q => ta σ H fun x H1 => ∃ (l : Addr) (ns : List Int), x = .ref l ∧ SqT K H1 l (ns.map V.int) ∧ ns.length ≤ 4000 ∧ ∀ ks : List Int, ks.Nodup → (∀ k, k ∈ ks ↔ k ∈ ns) → Q (.int (ks.length : Nat)) H1
theorem pe_lenSetU {a : Expr} {ta : TE} {p p2 q pos : Pos} (hg : Gl X "len") (hm : X.mg "len" = none) (hg2 : Gl X "set") (hm2 : X.mg "set" = none) (ha : PE X a ta) (calm : X.calm = true := by rfl)
    (na : starEach [a] X.env = (false, eval a X.env) :: starEach [] X.env := by rfl) : PE X (.Call (.Name "len" p) [.Call (.Name "set" p2) [a] [] q] [] pos) (tLenSetU X.K ta) := by
  constructor
  intro pins s σ H Q I h
  refine Call_ (ld_blt I hg hm boot_len (PyProof.Rows.callWith_builtin1 (PyProof.Rows.args_cons ?_ rfl) rfl rfl))
  refine Call_ (ld_blt I hg2 hm2 PyProof.Rows.boot_set (PyProof.Rows.callWith_type1 (PyProof.Rows.args_cons (thn (ha.run pins s σ H _ I h) fun v s1 ⟨x, H1, I1, r1, q1⟩ => PyProof.Rows.args_nil ?_) na) na rfl))
  obtain ⟨l, ns, ex, hq, hl, done⟩ := q1
  subst ex
  obtain rfl : v = Value.ref l := r1
  obtain ⟨its, rv, pt, hz⟩ := I1.tuple hq
  have hi : PyProof.Rows.IntsAre its.toArray.toList ns := by simpa using ints_of_vals rv
  refine call_set_tupI ns (I1.ok.hd calm) (show s1.heap.IsTuple l its.toArray from pt) hi (by unfold scanBound; omega) fun h' tk c R1 hcn kp => PyProof.Rows.args_nil ?_
  obtain ⟨o, es, ep, t, ho, hex, hdt, g, nd, mem, hb, hf, hn, hr, hl2⟩ := R1
  have I2 : Inv X pins σ H1 { s1 with heap := h', toks := tk } := I1.kept kp
  have le : (es.toList.map keyOf).length = es.size := by rw [List.length_map, Array.length_toList]
  refine call_len_set ho hex hdt hf (by omega) ⟨.int es.size, H1, I2.tok _, ⟨_, rfl⟩, ?_⟩
  rw [← le]
  exact done _ nd fun k => by rw [← mem k, decide_eq_true_eq]
end
/-! ### list(reversed(a list)) -/
section
open PySem.Spec PyProof.Rows PySem.Calls
section
variable {prog : Program} {w : World} {A : Around} {E : Value → Shared → Prop} {s : Shared}
theorem call_list_rit {it l : Addr} {items : Array Value} {Q : Value → Shared → Prop} (calm : A.handled = none) (hit : s.heap.IsRevIter it l ((items.size : Int) - 1)) (hl : s.heap.IsList l items) (ne : l ≠ it) (fits : items.size ≤ sizeLine)
    (fin : ∀ (h' : Heap) (tk : Nat) (acc : Array Value) (c : Nat), (∀ b o, b ≠ it → s.heap.get? b = some o → h'.get? b = some o) → h'.get? s.heap.objs.size = some { cls := .type "list", dict := none, data := .seq acc c, slots := #[] } →
      ItemsOf (fun i v => items[items.size - 1 - i]? = some v) acc items.size → Q (.ref s.heap.objs.size) { s with heap := h', toks := tk }) : wpAny (model prog w) A (call (.type "list") [.ref it]) Q E s := by
  obtain ⟨oi, hoi, _⟩ := id hit
  obtain ⟨ol, hol, _⟩ := id hl
  have n1 : s.heap.objs.size ≠ it := Nat.ne_of_gt (Heap.lt_size hoi)
  have n2 : s.heap.objs.size ≠ l := Nat.ne_of_gt (Heap.lt_size hol)
  refine callType_codes (Q₁ := fun z s1 => z = .ref s.heap.objs.size ∧ s1 = { s with heap := s.heap.push { cls := .type "list", data := .seq #[] } }) PySem.F.called_list (PySem.F.typeCall_list_1 _) PySem.F.entry_list_init (code_list_new _ ⟨rfl, rfl⟩) (fun z s1 hz => ?_)
  obtain ⟨rfl, rfl⟩ := hz
  have g0 : (s.heap.push { cls := .type "list", data := .seq #[] }).get? s.heap.objs.size = some { cls := .type "list", data := .seq #[] } := Heap.get?_push_size _ rfl
  refine ⟨⟨_, g0, rfl⟩, PySem.F.args_list_init_2 _ _, ?_⟩
  show wpAny _ _ (do let was ← Builtin.List.listItems (.ref s.heap.objs.size)
                     Builtin.List.listUpdate (.ref s.heap.objs.size) (fun _ => #[])
                     letGo was.toList.reverse
                     Builtin.List.listExtendWith (.ref s.heap.objs.size) (.ref it) .none) _ _ _
  refine wpAny_bind ?_
  unfold Builtin.List.listItems
  refine wpAny_bind (wpAny_seqItems g0 rfl (wpAny_pure ?_))
  show wpAny _ _ (updateSeq s.heap.objs.size (fun _ => #[]) >>= fun _ =>
    letGo (#[] : Array Value).toList.reverse >>= fun _ => Builtin.List.listExtendWith (.ref s.heap.objs.size) (.ref it) .none) _ _ _
  refine wpAny_bind (wpAny_updateSeq g0 rfl ?_)
  have g1 := Heap.get?_update_self (Obj.mapSeq (fun _ => (#[] : Array Value))) g0 rfl
  have stay : ∀ b o, s.heap.get? b = some o → ((s.heap.push { cls := .type "list", data := .seq #[] }).update s.heap.objs.size (Obj.mapSeq (fun _ => (#[] : Array Value)))).get? b = some o := fun b o e =>
    (Heap.get?_update_other _ _ (Nat.ne_of_gt (Heap.lt_size e))).trans (Heap.get?_push_of_some _ e)
  refine wpAny_bind (wpAny_letGo ?_)
  obtain ⟨hp, hhp⟩ : ∃ hp, hp = (s.heap.push { cls := .type "list", data := .seq #[] }).update s.heap.objs.size (Obj.mapSeq (fun _ => (#[] : Array Value))) := ⟨_, rfl⟩
  simp only [← hhp] at g1 stay ⊢
  have hit1 : hp.IsRevIter it l ((items.size : Int) - 1) := hit.at fun o e => stay it o e
  have hl1 : hp.IsList l items := hl.at fun o e => stay l o e
  have W := (Walks.listRev (prog := prog) (w := w) (A := A.in1.in1) (by simpa using calm) it l ne items).toS
  have same : Builtin.List.listSameRef (.ref s.heap.objs.size) (.ref it) = false := by simp [Builtin.List.listSameRef, n1]
  have T1 : ({ s with heap := hp } : Shared).TypeIs (.ref it) "list_reverseiterator" := Heap.IsRevIter.typeIs (s := { s with heap := hp }) hit1
  unfold Builtin.List.listExtendWith
  refine wpAny_bind (wpAny_typeOf T1 ?_)
  rw [if_neg (show ¬ _ = true from by rw [same]; decide)]
  refine wpAny_bind (wpAny_pyIter_revIter (s := { s with heap := hp }) hit1 (wpAny_bind (wpAny_holding ?_)))
  unfold Builtin.List.listLengthHint
  refine wpAny_bind (wpAny_specialOf T1 RT.nolen_lri ?_)
  show wpAny _ _ (specialOf (Value.ref it) (Str.ofString "__length_hint__") >>= _) _ _ { s with heap := hp }
  refine wpAny_bind (wpAny_specialOf T1 RT.hint_lri ?_)
  generalize hid : ("list_reverseiterator.__length_hint__" : String) = theId
  wp_delta
  rw [show splitId theId = some ("list_reverseiterator", "__length_hint__") from by subst hid; decide +kernel]
  subst hid
  refine wpAny_bind (wpAny_isInstance (T := "list_reverseiterator") (b := true) T1 (by rw [isSubtype_type]; kernel_rfl) (wpAny_pure ?_))
  rw [if_neg (by decide)]
  have at0 : ((items.size : Nat) : Int) - 1 - ((0 : Nat) : Int) = (items.size : Int) - 1 := by omega
  have nf : s.heap.objs.size ∉ [it, l] := by
    intro z
    rcases List.mem_cons.mp z with z | z
    · exact n1 z
    · exact n2 (List.mem_singleton.mp z)
  refine wpAny_pure ⟨plainId_quiet PySem.F.plain_extend_loop _, codeAny_extend_loopS W fits _ nf _ items.size 0 _ _ _ rfl (Nat.zero_le _) ⟨Nat.zero_le _, by rw [at0]; exact hit1, hl1⟩ g1 (ItemsOf.nil _) (fun s2 acc c mv hs2 its => ?_)⟩
  rw [Moved.eq_with mv]
  refine ⟨rfl, fin s2.heap s2.toks acc c (fun b o hb e => mv.heap b o (fun z => ?_) (stay b o e)) hs2 its⟩
  rcases List.mem_cons.mp z with z | z
  · exact absurd (Heap.lt_size e) (by rw [z]; exact Nat.lt_irrefl _)
  · exact hb (List.mem_singleton.mp z)
end
section
variable {X : Cx}
def tListRev (K : PySem.W.Frag) (te : TE) : TE := fun σ H Q => te σ H fun v H1 => ∃ (a : Addr) (xs : List V), v = .ref a ∧ SqL K H1 a xs ∧ ∀ q, H1 q = none → Q (.ref q) (upd H1 q (.lst xs.reverse))
theorem vals_back {xs : List V} {its : List Value} {acc : Array Value} (r : Vals xs its) (h : ItemsOf (fun i v => its.toArray[its.toArray.size - 1 - i]? = some v) acc its.toArray.size) : Vals xs.reverse acc.toList := RT.vals_rev r h
theorem pe_listRev {e : Expr} {te : TE} {p p2 pos pos2 : Pos} (hg : Gl X "list") (hm : X.mg "list" = none) (hg2 : Gl X "reversed") (hm2 : X.mg "reversed" = none) (he : PE X e te) (calm : X.calm = true := by rfl)
    (hs : starEach [e] X.env = (false, eval e X.env) :: starEach [] X.env := by rfl)
    (hs2 : starEach [.Call (.Name "reversed" p2) [e] [] pos2] X.env = (false, eval (.Call (.Name "reversed" p2) [e] [] pos2) X.env) :: starEach [] X.env := by rfl) :
    PE X (.Call (.Name "list" p) [.Call (.Name "reversed" p2) [e] [] pos2] [] pos) (tListRev X.K te) := by
  constructor
  intro pins s σ H Q I h
  refine Call_ (ld_blt I hg hm PyProof.Rows.boot_list (PyProof.Rows.callWith_type1 (args_cons ?_ hs2) hs2 rfl))
  refine Call_ (ld_blt I hg2 hm2 PyProof.Rows.boot_reversed (PyProof.Rows.callWith_type1 (args_cons (thn (he.run pins s σ H _ I h) fun u s1 ⟨v, H1, I1, r1, q1⟩ => args_nil ?_) hs) hs rfl))
  obtain ⟨a, xs, ev, hq, q⟩ := q1
  subst ev
  obtain rfl : u = Value.ref a := r1
  obtain ⟨its, rv, pl, hz⟩ := I1.list hq
  refine call_reversed_list pl.isList (args_nil ?_)
  have I2 : Inv X pins σ H1 { s1 with heap := s1.heap.push (revObj a ((its.toArray.size : Int) - 1)) } := I1.kept (t' := s1.toks) (fun b o e => Heap.get?_push_of_some _ e)
  obtain ⟨f0, f1, f2, f3, f4, f5⟩ := I1.fpOk (H' := H1) (b := s1.heap.objs.size) (Nat.le_refl _) (I1.hok.fresh (Nat.le_refl _))
  obtain ⟨ol, hol, _⟩ := id pl.isList
  have small : its.toArray.size ≤ sizeLine := by rw [List.size_toArray, ← rv.length]; exact hz
  have hsz : (s1.heap.push (revObj a ((its.toArray.size : Int) - 1))).objs.size = s1.heap.objs.size + 1 := Heap.size_push ..
  refine call_list_rit (s := { s1 with heap := s1.heap.push (revObj a ((its.toArray.size : Int) - 1)) }) (I1.ok.hd calm) ⟨_, Heap.get?_push_size _ rfl, rfl, rfl⟩ (pl.isList.push _) (Nat.ne_of_lt (Heap.lt_size hol)) small (fun h' tk acc c hk hnew hi => ?_)
  have kp : ∀ b o, s1.heap.get? b = some o → h'.get? b = some o := fun b o e => hk b o (Nat.ne_of_lt (Heap.lt_size e)) (Heap.get?_push_of_some _ e)
  have le : s1.heap.objs.size ≤ (s1.heap.push (revObj a ((its.toArray.size : Int) - 1))).objs.size := by rw [hsz]; exact Nat.le_succ _
  refine ⟨.ref (s1.heap.push (revObj a ((its.toArray.size : Int) - 1))).objs.size, _, I1.laid (t' := tk) (o := .lst xs.reverse) kp le ⟨by rw [List.length_reverse]; exact hz, acc.toList, c, vals_back rv hi, ?_⟩, rfl, q _ (I1.hok.fresh le)⟩
  rw [Array.toArray_toList]
  exact hnew
end
end
/-! ### comprehensions -/
theorem filterMap_range_succ {α : Type} (f : Nat → Option α) (n : Nat) : (List.range (n + 1)).filterMap f = (List.range n).filterMap f ++ (f n).toList := by
  rw [List.range_succ, List.filterMap_append]
  cases e : f n with
  | none => simp [e]
  | some v => simp [e]
theorem filterMap_range_len {α : Type} (f : Nat → Option α) (n : Nat) : ((List.range n).filterMap f).length ≤ n := by
  have h := List.length_filterMap_le f (List.range n)
  rw [List.length_range] at h
  exact h
theorem lt_line {n : Nat} (h : n ≤ 100000) : n < sizeLine := Nat.lt_of_le_of_lt h (by decide)
theorem lc_rangeF {lo : Int} {n : Nat} {g : TG} {tt : TT} {te : TE} {vs : List Nat} {σ : St} {H1 : Hp} {D : Addr} {Qd : Hp → Prop} (f : Nat → Option V) (nD : H1 D = none) (hn : n ≤ 100000)
    (hs : ∀ (i : Nat) (H : Hp) (N : V → Hp → Prop) (M : Hp → Prop), i < n → Same H1 H → (∀ v H4, f i = some v → Same H H4 → N v H4) → (∀ H4, f i = none → Same H H4 → M H4) → g (.int (lo + (i : Int))) (wipe σ vs) H fun σ2 H2 => wipe σ2 vs = wipe σ vs ∧ tt σ2 H2 fun b H3 => if b = true then te σ2 H3 N else M H3)
    (hd : ∀ H, Same H1 H → H D = some (.lst ((List.range n).filterMap f)) → Qd H) : ∃ W : Nat → Nat → Hp → Prop, (∃ m, W 0 m (upd H1 D (.lst []))) ∧ ∀ i m H, W i m H →
      ((Itr lo n).stop i H ∧ Qd H) ∨ ((Itr lo n).go i H ∧ ∃ Nx : Hp → Prop, (∀ H', Nx H' → ∃ m', m' < m ∧ W (i + 1) m' H') ∧ ∀ x H', (Itr lo n).yld i H x H' → g x (wipe σ vs) H' fun σ2 H2 => wipe σ2 vs = wipe σ vs ∧ tt σ2 H2 fun b H3 =>
        if b = true then te σ2 H3 fun y H4 => ∃ acc, H4 D = some (.lst acc) ∧ acc.length < sizeLine ∧ Nx (upd H4 D (.lst (acc ++ [y]))) else Nx H3) := by
  refine lc_range (lo := lo) (n := n) (fun i H => Same H1 H ∧ H D = some (.lst ((List.range i).filterMap f))) ⟨Same.new (Same.refl H1) nD, upd_same⟩ (fun i H hi p => ?_) (fun H p => hd H p.1 p.2)
  have il : i < n := hi
  have hz := filterMap_range_len f i
  refine hs i H _ _ hi p.1 (fun v H4 e s => ⟨_, s _ _ p.2, lt_line (by omega), ?_, ?_⟩) (fun H4 e s => ⟨?_, ?_⟩)
  · exact Same.mut (Same.trans p.1 s) nD
  · rw [filterMap_range_succ, e]
    exact upd_same
  · exact Same.trans p.1 s
  · rw [filterMap_range_succ, e, s _ _ p.2]
    simp
theorem lc_rangeM {lo : Int} {n : Nat} {g : TG} {tt : TT} {te : TE} {vs : List Nat} {σ : St} {H1 : Hp} {D : Addr} {Qd : Hp → Prop} {τ : Tp} (R : Nat → V → Hp → Prop) (st : ∀ i v H H', R i v H → TK H H' → R i v H') (t : Tape τ H1) (nD : H1 D = none) (hn : n ≤ 100000)
    (hs : ∀ (i : Nat) (H : Hp) (N : V → Hp → Prop) (M : Hp → Prop), i < n → Mv τ H1 H → (∀ v H4, Mv τ H H4 → R i v H4 → N v H4) → g (.int (lo + (i : Int))) (wipe σ vs) H fun σ2 H2 => wipe σ2 vs = wipe σ vs ∧ tt σ2 H2 fun b H3 => if b = true then te σ2 H3 N else M H3)
    (hd : ∀ H acc, Mv τ H1 H → H D = some (.lst acc) → acc.length = n → (∀ (j : Nat) v, acc[j]? = some v → R j v H) → Qd H) : ∃ W : Nat → Nat → Hp → Prop, (∃ m, W 0 m (upd H1 D (.lst []))) ∧ ∀ i m H, W i m H →
      ((Itr lo n).stop i H ∧ Qd H) ∨ ((Itr lo n).go i H ∧ ∃ Nx : Hp → Prop, (∀ H', Nx H' → ∃ m', m' < m ∧ W (i + 1) m' H') ∧ ∀ x H', (Itr lo n).yld i H x H' → g x (wipe σ vs) H' fun σ2 H2 => wipe σ2 vs = wipe σ vs ∧ tt σ2 H2 fun b H3 =>
        if b = true then te σ2 H3 fun y H4 => ∃ acc, H4 D = some (.lst acc) ∧ acc.length < sizeLine ∧ Nx (upd H4 D (.lst (acc ++ [y]))) else Nx H3) := by
  refine lc_range (lo := lo) (n := n) (fun i H => Mv τ H1 H ∧ ∃ acc, H D = some (.lst acc) ∧ acc.length = i ∧ ∀ (j : Nat) v, acc[j]? = some v → R j v H) ⟨(t.mv).new nD, [], upd_same, rfl, fun j v e => by simp at e⟩ (fun i H hi p => ?_) (fun H p => ?_)
  · obtain ⟨m, acc, hD, hlen, hR⟩ := p
    have il : i < n := hi
    refine hs i H _ _ hi m (fun v H4 m4 r => ⟨acc, m4.keep _ _ (t.mv.neF nD) hD, lt_line (by omega), (m.trans m4).mut nD, acc ++ [v], upd_same, by rw [List.length_append, hlen]; rfl, fun j u e => ?_⟩)
    have k1 : TK H4 (upd H4 D (.lst (acc ++ [v]))) := TK.mut (m4.keep _ _ (t.mv.neF nD) hD)
    by_cases hj : j < acc.length
    · rw [List.getElem?_append_left hj] at e
      exact st _ _ _ _ (st _ _ _ _ (hR j u e) m4.tk) k1
    · rw [List.getElem?_append_right (by omega)] at e
      have hj2 : j = i := by
        have q := (List.getElem?_eq_some_iff.mp e).1
        rw [List.length_singleton] at q
        omega
      rw [hj2, hlen, Nat.sub_self] at e
      have e2 : v = u := Option.some.inj e
      rw [← e2, hj2]
      exact st _ _ _ _ r k1
  · obtain ⟨m, acc, hD, hlen, hR⟩ := p
    exact hd H acc m hD hlen hR
theorem lc_listF {K : PySem.W.Frag} {a : Addr} {xs : List V} {g : TG} {tt : TT} {te : TE} {vs : List Nat} {σ : St} {H1 : Hp} {D : Addr} {Qd : Hp → Prop} (f : Nat → Option V) (hx : H1 a = some (.lst xs)) (nD : H1 D = none) (hn : xs.length ≤ 100000)
    (hs : ∀ (i : Nat) (x : V) (H : Hp) (N : V → Hp → Prop) (M : Hp → Prop), xs[i]? = some x → Same H1 H → (∀ v H4, f i = some v → Same H H4 → N v H4) → (∀ H4, f i = none → Same H H4 → M H4) → g x (wipe σ vs) H fun σ2 H2 => wipe σ2 vs = wipe σ vs ∧ tt σ2 H2 fun b H3 => if b = true then te σ2 H3 N else M H3)
    (hd : ∀ H, Same H1 H → H D = some (.lst ((List.range xs.length).filterMap f)) → Qd H) : ∃ W : Nat → Nat → Hp → Prop, (∃ m, W 0 m (upd H1 D (.lst []))) ∧ ∀ i m H, W i m H →
      ((Itl K a).stop i H ∧ Qd H) ∨ ((Itl K a).go i H ∧ ∃ Nx : Hp → Prop, (∀ H', Nx H' → ∃ m', m' < m ∧ W (i + 1) m' H') ∧ ∀ x H', (Itl K a).yld i H x H' → g x (wipe σ vs) H' fun σ2 H2 => wipe σ2 vs = wipe σ vs ∧ tt σ2 H2 fun b H3 =>
        if b = true then te σ2 H3 fun y H4 => ∃ acc, H4 D = some (.lst acc) ∧ acc.length < sizeLine ∧ Nx (upd H4 D (.lst (acc ++ [y]))) else Nx H3) := by
  refine lc_list (K := K) (a := a) (xs := xs) (fun i H => Same H1 H ∧ H D = some (.lst ((List.range i).filterMap f))) ⟨Same.new (Same.refl H1) nD, upd_same⟩ (fun i H _ p => SqL.of (p.1 _ _ hx)) (fun i x H hi p => ?_) (fun H p => hd H p.1 p.2)
  have il : i < xs.length := (List.getElem?_eq_some_iff.mp hi).1
  have hz := filterMap_range_len f i
  refine hs i x H _ _ hi p.1 (fun v H4 e s => ⟨_, s _ _ p.2, lt_line (by omega), ?_, ?_⟩) (fun H4 e s => ⟨?_, ?_⟩)
  · exact Same.mut (Same.trans p.1 s) nD
  · rw [filterMap_range_succ, e]
    exact upd_same
  · exact Same.trans p.1 s
  · rw [filterMap_range_succ, e, s _ _ p.2]
    simp
theorem lc_listM {K : PySem.W.Frag} {a : Addr} {xs : List V} {g : TG} {tt : TT} {te : TE} {vs : List Nat} {σ : St} {H1 : Hp} {D : Addr} {Qd : Hp → Prop} {τ : Tp} (R : Nat → V → Hp → Prop) (st : ∀ i v H H', R i v H → TK H H' → R i v H') (hx : H1 a = some (.lst xs)) (ne_a : a ≠ τ.t) (t : Tape τ H1) (nD : H1 D = none) (hn : xs.length ≤ 100000)
    (hs : ∀ (i : Nat) (x : V) (H : Hp) (N : V → Hp → Prop) (M : Hp → Prop), xs[i]? = some x → Mv τ H1 H → (∀ v H4, Mv τ H H4 → R i v H4 → N v H4) → g x (wipe σ vs) H fun σ2 H2 => wipe σ2 vs = wipe σ vs ∧ tt σ2 H2 fun b H3 => if b = true then te σ2 H3 N else M H3)
    (hd : ∀ H acc, Mv τ H1 H → H D = some (.lst acc) → acc.length = xs.length → (∀ (j : Nat) v, acc[j]? = some v → R j v H) → Qd H) : ∃ W : Nat → Nat → Hp → Prop, (∃ m, W 0 m (upd H1 D (.lst []))) ∧ ∀ i m H, W i m H →
      ((Itl K a).stop i H ∧ Qd H) ∨ ((Itl K a).go i H ∧ ∃ Nx : Hp → Prop, (∀ H', Nx H' → ∃ m', m' < m ∧ W (i + 1) m' H') ∧ ∀ x H', (Itl K a).yld i H x H' → g x (wipe σ vs) H' fun σ2 H2 => wipe σ2 vs = wipe σ vs ∧ tt σ2 H2 fun b H3 =>
        if b = true then te σ2 H3 fun y H4 => ∃ acc, H4 D = some (.lst acc) ∧ acc.length < sizeLine ∧ Nx (upd H4 D (.lst (acc ++ [y]))) else Nx H3) := by
  refine lc_list (K := K) (a := a) (xs := xs) (fun i H => Mv τ H1 H ∧ ∃ acc, H D = some (.lst acc) ∧ acc.length = i ∧ ∀ (j : Nat) v, acc[j]? = some v → R j v H) ⟨(t.mv).new nD, [], upd_same, rfl, fun j v e => by simp at e⟩ (fun i H _ p => SqL.of (p.1.keep _ _ ne_a hx)) (fun i x H hi p => ?_) (fun H p => ?_)
  · obtain ⟨m, acc, hD, hlen, hR⟩ := p
    have il : i < xs.length := (List.getElem?_eq_some_iff.mp hi).1
    refine hs i x H _ _ hi m (fun v H4 m4 r => ⟨acc, m4.keep _ _ (t.mv.neF nD) hD, lt_line (by omega), (m.trans m4).mut nD, acc ++ [v], upd_same, by rw [List.length_append, hlen]; rfl, fun j u e => ?_⟩)
    have k1 : TK H4 (upd H4 D (.lst (acc ++ [v]))) := TK.mut (m4.keep _ _ (t.mv.neF nD) hD)
    by_cases hj : j < acc.length
    · rw [List.getElem?_append_left hj] at e
      exact st _ _ _ _ (st _ _ _ _ (hR j u e) m4.tk) k1
    · rw [List.getElem?_append_right (by omega)] at e
      have hj2 : j = i := by
        have q := (List.getElem?_eq_some_iff.mp e).1
        rw [List.length_singleton] at q
        omega
      rw [hj2, hlen, Nat.sub_self] at e
      have e2 : v = u := Option.some.inj e
      rw [← e2, hj2]
      exact st _ _ _ _ r k1
  · obtain ⟨m, acc, hD, hlen, hR⟩ := p
    exact hd H acc m hD hlen hR
theorem lc_tupF {K : PySem.W.Frag} {a : Addr} {xs : List V} {g : TG} {tt : TT} {te : TE} {vs : List Nat} {σ : St} {H1 : Hp} {D : Addr} {Qd : Hp → Prop} (f : Nat → Option V) (hx : H1 a = some (.tup xs)) (nD : H1 D = none) (hn : xs.length ≤ 100000)
    (hs : ∀ (i : Nat) (x : V) (H : Hp) (N : V → Hp → Prop) (M : Hp → Prop), xs[i]? = some x → Same H1 H → (∀ v H4, f i = some v → Same H H4 → N v H4) → (∀ H4, f i = none → Same H H4 → M H4) → g x (wipe σ vs) H fun σ2 H2 => wipe σ2 vs = wipe σ vs ∧ tt σ2 H2 fun b H3 => if b = true then te σ2 H3 N else M H3)
    (hd : ∀ H, Same H1 H → H D = some (.lst ((List.range xs.length).filterMap f)) → Qd H) : ∃ W : Nat → Nat → Hp → Prop, (∃ m, W 0 m (upd H1 D (.lst []))) ∧ ∀ i m H, W i m H →
      ((Itt K a).stop i H ∧ Qd H) ∨ ((Itt K a).go i H ∧ ∃ Nx : Hp → Prop, (∀ H', Nx H' → ∃ m', m' < m ∧ W (i + 1) m' H') ∧ ∀ x H', (Itt K a).yld i H x H' → g x (wipe σ vs) H' fun σ2 H2 => wipe σ2 vs = wipe σ vs ∧ tt σ2 H2 fun b H3 =>
        if b = true then te σ2 H3 fun y H4 => ∃ acc, H4 D = some (.lst acc) ∧ acc.length < sizeLine ∧ Nx (upd H4 D (.lst (acc ++ [y]))) else Nx H3) := by
  refine lc_tup (K := K) (a := a) (xs := xs) (fun i H => Same H1 H ∧ H D = some (.lst ((List.range i).filterMap f))) ⟨Same.new (Same.refl H1) nD, upd_same⟩ (fun i H _ p => SqT.of (p.1 _ _ hx)) (fun i x H hi p => ?_) (fun H p => hd H p.1 p.2)
  have il : i < xs.length := (List.getElem?_eq_some_iff.mp hi).1
  have hz := filterMap_range_len f i
  refine hs i x H _ _ hi p.1 (fun v H4 e s => ⟨_, s _ _ p.2, lt_line (by omega), ?_, ?_⟩) (fun H4 e s => ⟨?_, ?_⟩)
  · exact Same.mut (Same.trans p.1 s) nD
  · rw [filterMap_range_succ, e]
    exact upd_same
  · exact Same.trans p.1 s
  · rw [filterMap_range_succ, e, s _ _ p.2]
    simp
theorem lc_tupM {K : PySem.W.Frag} {a : Addr} {xs : List V} {g : TG} {tt : TT} {te : TE} {vs : List Nat} {σ : St} {H1 : Hp} {D : Addr} {Qd : Hp → Prop} {τ : Tp} (R : Nat → V → Hp → Prop) (st : ∀ i v H H', R i v H → TK H H' → R i v H') (hx : H1 a = some (.tup xs)) (ne_a : a ≠ τ.t) (t : Tape τ H1) (nD : H1 D = none) (hn : xs.length ≤ 100000)
    (hs : ∀ (i : Nat) (x : V) (H : Hp) (N : V → Hp → Prop) (M : Hp → Prop), xs[i]? = some x → Mv τ H1 H → (∀ v H4, Mv τ H H4 → R i v H4 → N v H4) → g x (wipe σ vs) H fun σ2 H2 => wipe σ2 vs = wipe σ vs ∧ tt σ2 H2 fun b H3 => if b = true then te σ2 H3 N else M H3)
    (hd : ∀ H acc, Mv τ H1 H → H D = some (.lst acc) → acc.length = xs.length → (∀ (j : Nat) v, acc[j]? = some v → R j v H) → Qd H) : ∃ W : Nat → Nat → Hp → Prop, (∃ m, W 0 m (upd H1 D (.lst []))) ∧ ∀ i m H, W i m H →
      ((Itt K a).stop i H ∧ Qd H) ∨ ((Itt K a).go i H ∧ ∃ Nx : Hp → Prop, (∀ H', Nx H' → ∃ m', m' < m ∧ W (i + 1) m' H') ∧ ∀ x H', (Itt K a).yld i H x H' → g x (wipe σ vs) H' fun σ2 H2 => wipe σ2 vs = wipe σ vs ∧ tt σ2 H2 fun b H3 =>
        if b = true then te σ2 H3 fun y H4 => ∃ acc, H4 D = some (.lst acc) ∧ acc.length < sizeLine ∧ Nx (upd H4 D (.lst (acc ++ [y]))) else Nx H3) := by
  refine lc_tup (K := K) (a := a) (xs := xs) (fun i H => Mv τ H1 H ∧ ∃ acc, H D = some (.lst acc) ∧ acc.length = i ∧ ∀ (j : Nat) v, acc[j]? = some v → R j v H) ⟨(t.mv).new nD, [], upd_same, rfl, fun j v e => by simp at e⟩ (fun i H _ p => SqT.of (p.1.keep _ _ ne_a hx)) (fun i x H hi p => ?_) (fun H p => ?_)
  · obtain ⟨m, acc, hD, hlen, hR⟩ := p
    have il : i < xs.length := (List.getElem?_eq_some_iff.mp hi).1
    refine hs i x H _ _ hi m (fun v H4 m4 r => ⟨acc, m4.keep _ _ (t.mv.neF nD) hD, lt_line (by omega), (m.trans m4).mut nD, acc ++ [v], upd_same, by rw [List.length_append, hlen]; rfl, fun j u e => ?_⟩)
    have k1 : TK H4 (upd H4 D (.lst (acc ++ [v]))) := TK.mut (m4.keep _ _ (t.mv.neF nD) hD)
    by_cases hj : j < acc.length
    · rw [List.getElem?_append_left hj] at e
      exact st _ _ _ _ (st _ _ _ _ (hR j u e) m4.tk) k1
    · rw [List.getElem?_append_right (by omega)] at e
      have hj2 : j = i := by
        have q := (List.getElem?_eq_some_iff.mp e).1
        rw [List.length_singleton] at q
        omega
      rw [hj2, hlen, Nat.sub_self] at e
      have e2 : v = u := Option.some.inj e
      rw [← e2, hj2]
      exact st _ _ _ _ r k1
  · obtain ⟨m, acc, hD, hlen, hR⟩ := p
    exact hd H acc m hD hlen hR
/-! ### words -/
theorem tYes_go {σ : L2.St} {H : Hp} {Q : Bool → Hp → Prop} (h : Q true H) : tYes σ H Q := h
local macro_rules | `(tactic| tm_at "hp") => `(tactic| first
  | assumption
  | (with_reducible exact upd_same)
  | exact Same.at (by assumption) (by tm_at "hp")
  | exact Mv.atT (by assumption) (by tm_at "hp")
  | exact Mv.at' (by assumption) (by tm_at "hp") (by tm_at "ne")
  | ((rw [upd_ne ?n]) <;> first | (tm_at "hp") | (tm_at "ne") | fail "upd")
  | fail "hp")
local macro_rules | `(tactic| tm_at "ne") => `(tactic| first
  | assumption
  | exact Ne.symm (by assumption)
  | exact Nw.ne (by assumption) (by tm_at "hp")
  | exact Ne.symm (Nw.ne (by assumption) (by tm_at "hp"))
  | fail "ne")
local macro_rules | `(tactic| tm_at "sq") => `(tactic| first
  | assumption
  | exact SqL.of (by tm_at "hp")
  | exact Same.seq (by assumption) (by tm_at "sq")
  | fail "sq")
local macro_rules | `(tactic| tm_at "sqt") => `(tactic| first
  | assumption
  | exact SqT.of (by tm_at "hp")
  | fail "sqt")
local macro_rules | `(tactic| tm_at "len") => `(tactic| first
  | omega
  | ((simp only [List.length_map, List.length_append, List.length_singleton, List.length_cons, List.length_nil, List.length_replicate, List.length_range]); omega)
  | fail "len")
local macro_rules | `(tactic| tm_at "sd") => `(tactic| first
  | decide
  | omega
  | exact ⟨by decide, by decide⟩
  | exact ⟨by omega, by omega⟩
  | exact Or.inr ⟨by decide, by decide⟩
  | exact Or.inl ⟨by omega, by omega⟩
  | exact Or.inl ⟨by decide, by decide⟩
  | exact Or.inr ⟨by omega, by omega⟩
  | exact Or.inl (fmod64 (by decide) (by decide))
  | exact ⟨by decide, by decide, by decide⟩
  | fail "sd")
local macro_rules | `(tactic| tm_at "w") => `(tactic| repeat (first
  | (with_reducible refine iteDY (by omega) ?_)
  | (with_reducible refine iteDN (by omega) ?_)
  | (refine ⟨_, rfl, ?_⟩)
  | (refine ⟨_, _, rfl, rfl, ?_⟩)
  | (refine ⟨_, _, _, _, rfl, rfl, by tm_at "sq", by rfl, ?_⟩)
  | (refine ⟨_, _, _, _, rfl, rfl, by tm_at "hp", by rfl, ?_⟩)
  | (refine ⟨_, _, _, _, rfl, rfl, by tm_at "sqt", by rfl, ?_⟩)
  | (refine ⟨_, _, _, _, rfl, rfl, by tm_at "sqt", atI_nat (by assumption), ?_⟩)
  | (refine ⟨_, _, _, _, rfl, rfl, by tm_at "sq", atI_nat (by assumption), ?_⟩)
  | (refine ⟨_, _, rfl, by tm_at "sqt", rfl, _, _, rfl, _, _, rfl, rfl, ?_⟩)
  | (refine ⟨_, _, rfl, by tm_at "sqt", rfl, _, _, rfl, _, _, rfl, _, _, rfl, rfl, ?_⟩)
  | (refine ⟨_, _, _, _, _, rfl, ClsV.ty _, by assumption, by assumption, ?_⟩)
  | (refine And.intro (rfl : scal _ _ = true) ?_)
  | (with_reducible refine iteET (by rfl) ?_)
  | (with_reducible refine iteEF (by rfl) ?_)
  | (refine And.intro (IntK.int _) ?_)
  | (with_reducible refine tYes_go ?_)
  | (refine And.intro (by (with_reducible refine le_lineB ?_); rfl) ?_)
  | (refine ⟨_, _, rfl, Or.inl ⟨SqL.of (by tm_at "hp"), ?_⟩⟩)
  | (refine And.intro (Or.inl ⟨rfl, _, SqL.of (by tm_at "hp")⟩) ?_)
  | (refine ⟨_, _, _, rfl, rfl, by tm_at "hp", lt_line (by tm_at "len"), ?_⟩)
  | (refine And.intro rfl ?_)
  | (refine Or.inl ⟨_, rfl, ?_⟩)
  | (refine ⟨_, _, rfl, Or.inl (by tm_at "sq"), ?_⟩)
  | (refine ⟨_, _, rfl, Or.inr (by tm_at "sqt"), ?_⟩)
  | (refine And.intro (by tm_at "sd") ?_)
  | fail "w"))
/-! ### lists of whole numbers -/
/-- an item of a list is a whole number -/
def IsI (v : V) : Prop := ∃ i : Int, v = .int i
theorem ints_of {xs : List V} (h : ∀ v ∈ xs, IsI v) : ∃ ns : List Int, xs = ns.map V.int := by
  induction xs with
  | nil => exact ⟨[], rfl⟩
  | cons x r ih =>
    obtain ⟨ns, e⟩ := ih fun v hv => h v (List.mem_cons_of_mem _ hv)
    obtain ⟨i, ei⟩ := h x List.mem_cons_self
    exact ⟨i :: ns, by rw [ei, e]; rfl⟩
theorem ints_at {xs : List V} (h : ∀ (j : Nat) v, xs[j]? = some v → IsI v) : ∃ ns : List Int, xs = ns.map V.int := ints_of fun v hv => by
  obtain ⟨j, hj, e⟩ := List.mem_iff_getElem.mp hv
  exact h j v (by rw [List.getElem?_eq_getElem hj, e])
theorem mem_app {P : V → Prop} {xs : List V} {y : V} (h : ∀ v ∈ xs, P v) (hy : P y) : ∀ v ∈ xs ++ [y], P v := fun v hv => by
  rcases List.mem_append.mp hv with hv | hv
  · exact h v hv
  · rw [List.mem_singleton.mp hv]
    exact hy
theorem len_app {xs : List V} {y : V} {n : Nat} (h : xs.length = n) : (xs ++ [y]).length = n + 1 := by
  rw [List.length_append, h]
  rfl
/-- the item at a place of a list of whole numbers -/
theorem int_here {ns : List Int} {i : Nat} {x : V} (h : (ns.map V.int)[i]? = some x) : ∃ z, ns[i]? = some z ∧ x = .int z ∧ i < ns.length := by
  rw [List.getElem?_map] at h
  cases e : ns[i]? with
  | none => rw [e] at h; cases h
  | some z => rw [e] at h; exact ⟨z, rfl, (Option.some.inj h).symm, (List.getElem?_eq_some_iff.mp e).1⟩
theorem map_snoc (ks : List Int) (k : Int) : ks.map V.int ++ [V.int k] = (ks ++ [k]).map V.int := by rw [List.map_append]; rfl
theorem inV_int (k : Int) (ks : List Int) : inV (.int k) (ks.map V.int) = decide (k ∈ ks) := by
  unfold inV
  rw [List.any_map]
  by_cases h : k ∈ ks
  · rw [decide_eq_true h]
    exact List.any_eq_true.mpr ⟨k, h, beq_self_eq_true k⟩
  · rw [decide_eq_false h]
    refine List.any_eq_false.mpr fun y hy z => h ?_
    have e : y = k := eq_of_beq (show (y == k) = true from z)
    rw [← e]
    exact hy
theorem flat_ints (ks : List Int) : (ks.map V.int).all flatV = true := List.all_eq_true.mpr fun v hv => by
  obtain ⟨i, _, rfl⟩ := List.mem_map.mp hv
  rfl
theorem len_of_same {a b : List Int} (ha : a.Nodup) (hb : b.Nodup) (h : ∀ k, k ∈ a ↔ k ∈ b) : a.length = b.length := ((List.perm_ext_iff_of_nodup ha hb).mpr h).length_eq
theorem dp_ints {K : PySem.W.Frag} {H : Hp} : ∀ ns : List Int, DpAll K H (ns.map V.int) (ns.map PyData.int)
  | [] => .nil
  | n :: r => .cons (.int n) (dp_ints r)
theorem range_items {α : Type} (S : List α) (f : α → V) : (List.range S.length).filterMap (fun i => S[i]?.map f) = S.map f := by
  have key : ∀ n, n ≤ S.length → (List.range n).filterMap (fun i => S[i]?.map f) = (S.take n).map f := by
    intro n
    induction n with
    | zero => intro _; rfl
    | succ n ih =>
      intro h
      rw [filterMap_range_succ, ih (by omega), List.take_add_one, List.map_append]
      rw [List.getElem?_eq_getElem (show n < S.length by omega)]
      rfl
  rw [key _ (Nat.le_refl _), List.take_length]
theorem lay_ints : ∀ ns : List Int, PyData.canLayAll0 (ns.map PyData.int) = true
  | [] => rfl
  | n :: r => by
    show (PyData.canLay0 (.int n) && PyData.canLayAll0 (r.map PyData.int)) = true
    rw [lay_ints r]
    rfl
theorem deep_ints : ∀ ns : List Int, PyData.depthAll (ns.map PyData.int) ≤ 1
  | [] => by simp [PyData.depthAll]
  | n :: r => by
    have ih := deep_ints r
    simp only [List.map_cons, PyData.depthAll, PyData.depth]
    omega
theorem shaped_ints (ns : List Int) : SeqAt.shaped (.tuple (ns.map PyData.int)) = true := by
  have h := deep_ints ns
  have h2 : PyData.depth (.tuple (ns.map PyData.int)) ≤ 64 := by
    simp only [PyData.depth]
    omega
  exact Bool.and_eq_true_iff.mpr ⟨lay_ints ns, decide_eq_true h2⟩
theorem same_ints (ns : List Int) : PyData.eqv (.tuple (ns.map PyData.int)) (.tuple (ns.map PyData.int)) = true := SeqAt.eqv_refl _ (lay_ints ns)
theorem at_map {r : List Int} {i : Int} (h0 : 0 ≤ i) (h : i < (r.length : Int)) : atI (r.map V.int) i = some (.int (r.getD i.toNat 0)) := by
  have hj : i.toNat < r.length := by omega
  refine at_of (j := i.toNat) (by omega) ?_
  rw [List.getElem?_map, List.getElem?_eq_getElem hj, List.getD_eq_getElem?_getD, List.getElem?_eq_getElem hj]
  rfl
structure Top (K : PySem.W.Frag) (mg : Str → Option Value) where
  f_is_integer : Addr
  fd_is_integer : FuncData
  F_is_integer : Fun K "is_integer" "is_integer" s_is_integer f_is_integer fd_is_integer
  b_is_integer : Binds K fd_is_integer ["thing"] []
  g_is_integer : mg "is_integer" = some (.ref f_is_integer)
  f_is_triple : Addr
  fd_is_triple : FuncData
  F_is_triple : Fun K "is_triple" "is_triple" s_is_triple f_is_triple fd_is_triple
  b_is_triple : Binds K fd_is_triple ["thing"] []
  g_is_triple : mg "is_triple" = some (.ref f_is_triple)
  f_is_given : Addr
  fd_is_given : FuncData
  F_is_given : Fun K "is_given" "is_given" s_is_given f_is_given fd_is_given
  b_is_given : Binds K fd_is_given ["thing"] []
  g_is_given : mg "is_given" = some (.ref f_is_given)
  f_has_form : Addr
  fd_has_form : FuncData
  F_has_form : Fun K "has_form" "has_form" s_has_form f_has_form fd_has_form
  b_has_form : Binds K fd_has_form ["thing"] []
  g_has_form : mg "has_form" = some (.ref f_has_form)
  f_check_scheme : Addr
  fd_check_scheme : FuncData
  F_check_scheme : Fun K "check_scheme" "check_scheme" s_check_scheme f_check_scheme fd_check_scheme
  b_check_scheme : Binds K fd_check_scheme ["thing"] []
  g_check_scheme : mg "check_scheme" = some (.ref f_check_scheme)
  f_slots_of : Addr
  fd_slots_of : FuncData
  F_slots_of : Fun K "slots_of" "slots_of" s_slots_of f_slots_of fd_slots_of
  b_slots_of : Binds K fd_slots_of ["scheme"] []
  g_slots_of : mg "slots_of" = some (.ref f_slots_of)
  f_many_slots : Addr
  fd_many_slots : FuncData
  F_many_slots : Fun K "many_slots" "many_slots" s_many_slots f_many_slots fd_many_slots
  b_many_slots : Binds K fd_many_slots ["scheme"] []
  g_many_slots : mg "many_slots" = some (.ref f_many_slots)
  f__law_tape : Addr
  fd__law_tape : FuncData
  F__law_tape : Fun K "_law_tape" "_law_tape" s__law_tape f__law_tape fd__law_tape
  b__law_tape : Binds K fd__law_tape ["_law_script"] []
  g__law_tape : mg "_law_tape" = some (.ref f__law_tape)
  f__law_pick : Addr
  fd__law_pick : FuncData
  F__law_pick : Fun K "_law_pick" "_law_pick" s__law_pick f__law_pick fd__law_pick
  b__law_pick : Binds K fd__law_pick ["_law_tape_here", "_law_many"] []
  g__law_pick : mg "_law_pick" = some (.ref f__law_pick)
  f__law_great : Addr
  fd__law_great : FuncData
  F__law_great : Fun K "_law_great" "_law_great" s__law_great f__law_great fd__law_great
  b__law_great : Binds K fd__law_great ["_law_tape_here"] []
  g__law_great : mg "_law_great" = some (.ref f__law_great)
  f__law_unlike : Addr
  fd__law_unlike : FuncData
  F__law_unlike : Fun K "_law_unlike" "_law_unlike" s__law_unlike f__law_unlike fd__law_unlike
  b__law_unlike : Binds K fd__law_unlike ["_law_slots"] []
  g__law_unlike : mg "_law_unlike" = some (.ref f__law_unlike)
  f__law_menu : Addr
  fd__law_menu : FuncData
  F__law_menu : Fun K "_law_menu" "_law_menu" s__law_menu f__law_menu fd__law_menu
  b__law_menu : Binds K fd__law_menu ["_law_tape_here"] []
  g__law_menu : mg "_law_menu" = some (.ref f__law_menu)
  f__law_is_right : Addr
  fd__law_is_right : FuncData
  F__law_is_right : Fun K "_law_is_right" "_law_is_right" s__law_is_right f__law_is_right fd__law_is_right
  b__law_is_right : Binds K fd__law_is_right ["_law_scheme", "_law_slots"] []
  g__law_is_right : mg "_law_is_right" = some (.ref f__law_is_right)
  f_law : Addr
  fd_law : FuncData
  F_law : Fun K "law" "law" s_law f_law fd_law
  b_law : Binds K fd_law ["_law_script"] []
  g_law : mg "law" = some (.ref f_law)
  z_abs : mg "abs" = none
  z_all : mg "all" = none
  z_bool : mg "bool" = none
  z_int : mg "int" = none
  z_isinstance : mg "isinstance" = none
  z_len : mg "len" = none
  z_list : mg "list" = none
  z_range : mg "range" = none
  z_reversed : mg "reversed" = none
  z_set : mg "set" = none
  z_tuple : mg "tuple" = none
section
variable {P : Program} {w : World} {K : PySem.W.Frag} {mg : Str → Option Value} {base : Heap}
/-! is_integer -/
def sp_is_integer (K : PySem.W.Frag) : Sp := fun vs H Q _ => ∃ v, vs = [v] ∧ IntK K H v ∧ Q (.bl (isIntB v)) H
theorem sc_is_integer : FnScope ["thing"] ["thing"] (defScope s_is_integer) := ⟨rfl, rfl, rfl, by decide +kernel, rfl, by decide +kernel, by decide +kernel⟩
theorem ok_is_integer (T : Top K mg) : FnOk P w K mg base CX0 1 T.f_is_integer T.fd_is_integer ["thing"] (sp_is_integer K) := by
  refine T.F_is_integer.ok sc_is_integer (fun vs H Q E h => ?_) (fun cdv A outer s H vs Q E hr h => ?_)
  · obtain ⟨v, rfl, _⟩ := h
    rfl
  · obtain ⟨v, rfl, ⟨t, bi, bb, ht, hi, hb, e⟩, k⟩ := h
    refine ⟨_, (pss_one (ps_ret (pe_and (pe_callB (r := rIsi K) (id := "isinstance") call_isi (by rfl) T.z_isinstance (by decide +kernel) (pa_cons (pv 0) (pa_cons (pe_bltn (v := .ty "int") (u := .type "int") (by rfl) T.z_int (by decide +kernel) rfl) pa_nil))) (pe_one (pe_not (pe_callB (r := rIsi K) (id := "isinstance") call_isi (by rfl) T.z_isinstance (by decide +kernel) (pa_cons (pv 0) (pa_cons (pe_bltn (v := .ty "bool") (u := .type "bool") (by rfl) T.z_bool (by decide +kernel) rfl) pa_nil)))))))), ?_⟩
    tm_at "w"
    cases bi with
    | false =>
      rw [← e] at k
      tm_at "w"
      exact k
    | true =>
      rw [← e] at k
      tm_at "w"
      exact k
/-! is_triple -/
def sp_is_triple (K : PySem.W.Frag) : Sp := fun vs H Q _ => ∃ (p : Addr) (xs : List V), vs = [.ref p] ∧ H p = some (.tup xs) ∧ Q (.bl (decide (xs.length = 3))) H
theorem sc_is_triple : FnScope ["thing"] ["thing"] (defScope s_is_triple) := ⟨rfl, rfl, rfl, by decide +kernel, rfl, by decide +kernel, by decide +kernel⟩
theorem ok_is_triple (T : Top K mg) : FnOk P w K mg base CX0 1 T.f_is_triple T.fd_is_triple ["thing"] (sp_is_triple K) := by
  refine T.F_is_triple.ok sc_is_triple (fun vs H Q E h => ?_) (fun cdv A outer s H vs Q E hr h => ?_)
  · obtain ⟨p, xs, rfl, _⟩ := h
    rfl
  · obtain ⟨p, xs, rfl, hp, k⟩ := h
    refine ⟨_, (pss_one (ps_ret (pe_and (pe_callB (r := rIsi K) (id := "isinstance") call_isi (by rfl) T.z_isinstance (by decide +kernel) (pa_cons (pv 0) (pa_cons (pe_bltn (v := .ty "tuple") (u := .type "tuple") (by rfl) T.z_tuple (by decide +kernel) rfl) pa_nil))) (pe_one (pe_cmpR op_eq (pe_callB (r := rLenQ K) (id := "len") call_len_seq (by rfl) T.z_len (by decide +kernel) (pa_cons (pv 0) pa_nil)) pe_int (nomark _)))))), ?_⟩
    have ht := ty_tup (K := K) hp
    have h2 := tup_tup (K := K)
    tm_at "w"
    show Q (.bl (decide (V.int (xs.length : Int) = V.int ((3 : Nat) : Int)))) H
    rw [dec_nat]
    exact k
/-! is_given -/
theorem all_true (n : Nat) : (List.range n).filterMap (fun _ => some (V.bl true)) = (List.replicate n true).map V.bl := by
  rw [show (fun _ : Nat => some (V.bl true)) = some ∘ (fun _ : Nat => V.bl true) from rfl, List.filterMap_eq_map, List.map_replicate]
  exact List.eq_replicate_iff.mpr ⟨by rw [List.length_map, List.length_range], fun b hb => by
    obtain ⟨x, _, e⟩ := List.mem_map.mp hb
    exact e.symm⟩
theorem all_id (n : Nat) : (List.replicate n true).all id = true := List.all_eq_true.mpr fun x hx => (List.eq_of_mem_replicate hx)
def sp_is_given (K : PySem.W.Frag) : Sp := fun vs H Q _ => ∃ (v : V) (e : Tr), vs = [v] ∧ Trip H v e ∧ 0 ≤ e.1 ∧ e.2.2.length ≤ 1000 ∧ ∀ H', Same H H' → Q (.bl true) H'
theorem sc_is_given : FnScope ["thing", "entry"] ["thing"] (defScope s_is_given) := ⟨rfl, rfl, rfl, by decide +kernel, rfl, by decide +kernel, by decide +kernel⟩
theorem ok_is_given (T : Top K mg) : FnOk P w K mg base CX0 2 T.f_is_given T.fd_is_given ["thing"] (sp_is_given K) := by
  have G_is_integer := ok_is_integer (P := P) (w := w) (base := base) T
  have G_is_triple := ok_is_triple (P := P) (w := w) (base := base) T
  refine T.F_is_given.ok sc_is_given (fun vs H Q E h => ?_) (fun cdv A outer s H vs Q E hr h => ?_)
  · obtain ⟨v, e, rfl, _⟩ := h
    rfl
  · obtain ⟨v, ⟨s, n, r⟩, rfl, ⟨p, q, rfl, hp, hq⟩, h0, hl, k⟩ := h
    refine ⟨_, (pss_cons (ps_if (PW.pt (pw_or (pt_not (pt_val (pe_call G_is_triple hr (by rfl) T.g_is_triple T.F_is_triple.kp T.b_is_triple .nil pass0 (pa_cons (pv 0) pa_nil)))) (pw_or (pt_not (pt_val (pe_call G_is_integer hr (by rfl) T.g_is_integer T.F_is_integer.kp T.b_is_integer .nil pass0 (pa_cons (pe_ix (r := rIxT K) ix_tup (pv 0) pe_int (fun _ _ => rfl)) pa_nil)))) (pw_or (pt_cmpR op_lt (pe_ix (r := rIxT K) ix_tup (pv 0) pe_int (fun _ _ => rfl)) pe_int (nomark _)) (pw_or1 (pt_not (pt_val (pe_call G_is_integer hr (by rfl) T.g_is_integer T.F_is_integer.kp T.b_is_integer .nil pass0 (pa_cons (pe_ix (r := rIxT K) ix_tup (pv 0) pe_int (fun _ _ => rfl)) pa_nil))))))))) (pss_one (ps_ret pe_bl)) pss_nil)
      (pss_one (ps_ret (pe_and (pe_callB (r := rIsi K) (id := "isinstance") call_isi (by rfl) T.z_isinstance (by decide +kernel) (pa_cons (pe_ix (r := rIxT K) ix_tup (pv 0) pe_int (fun _ _ => rfl)) (pa_cons (pe_bltn (v := .ty "tuple") (u := .type "tuple") (by rfl) T.z_tuple (by decide +kernel) rfl) pa_nil))) (pe_one (pe_callB (r := rAll K) (id := "all") (cr_all rfl) (by rfl) T.z_all (by decide +kernel) (pa_cons (pe_lc (own := [("entry", 1)]) (g := gName 1) (tt := tYes) rfl sc_is_given.nd (pi_tup (pe_ix (r := rIxT K) ix_tup (pv 0) pe_int (fun _ _ => rfl))) (blkOk_by (own := [("entry", 1)]) (N := ["thing", "entry"]) (sc := defScope s_is_given) (by decide +kernel)) (fun _ _ _ _ _ => (pg_name (i := 1) sc_is_given.nd rfl (Or.inl rfl))) (fun _ _ _ _ _ => pts_nil) (fun _ _ _ _ _ => (pe_call G_is_integer hr (by rfl) T.g_is_integer T.F_is_integer.kp T.b_is_integer .nil pass0 (pa_cons (pv 1) pa_nil)))) pa_nil))))))), ?_⟩
    have ht := ty_tup (K := K) hq
    have h2 := tup_tup (K := K)
    refine ⟨_, rfl, p, _, rfl, hp, true, rfl, ?_⟩
    tm_at "w"
    refine ⟨⟨_, SqT.of hq⟩, fun D nD => lc_tupF (fun _ => some (.bl true)) hq nD (by rw [List.length_map]; exact Nat.le_trans hl (by decide)) ?_ ?_⟩
    · intro i x H' N M hx s1 kN kM
      obtain ⟨z, rfl⟩ : ∃ z, x = V.int z := by
        rw [List.getElem?_map] at hx
        cases e : r[i]? with
        | none => rw [e] at hx; cases hx
        | some z => rw [e] at hx; exact ⟨z, (Option.some.inj hx).symm⟩
      tm_at "w"
      exact kN _ _ rfl (Same.refl H')
    · intro H' s1 hD
      rw [all_true] at hD
      tm_at "w"
      refine ⟨_, _, rfl, SqL.of hD, ?_⟩
      rw [all_id]
      exact k _ s1
/-! has_form -/
def sp_has_form (K : PySem.W.Frag) : Sp := fun vs H Q _ => ∃ (a : Addr) (S : List Tr), vs = [.ref a] ∧ SchAt H a S ∧ (∀ e ∈ S, 0 ≤ e.1 ∧ e.2.2.length ≤ 1000) ∧ S.length ≤ 1000 ∧ ∀ H', Same H H' → Q (.bl true) H'
theorem sc_has_form : FnScope ["thing", "item"] ["thing"] (defScope s_has_form) := ⟨rfl, rfl, rfl, by decide +kernel, rfl, by decide +kernel, by decide +kernel⟩
theorem ok_has_form (T : Top K mg) : FnOk P w K mg base CX0 3 T.f_has_form T.fd_has_form ["thing"] (sp_has_form K) := by
  have G_is_given := ok_is_given (P := P) (w := w) (base := base) T
  refine T.F_has_form.ok sc_has_form (fun vs H Q E h => ?_) (fun cdv A outer s H vs Q E hr h => ?_)
  · obtain ⟨a, S, rfl, _⟩ := h
    rfl
  · obtain ⟨a, S, rfl, ⟨vs, ha, hl, hv⟩, h0, hn, k⟩ := h
    refine ⟨_, (pss_one (ps_ret (pe_and (pe_callB (r := rIsi K) (id := "isinstance") call_isi (by rfl) T.z_isinstance (by decide +kernel) (pa_cons (pv 0) (pa_cons (pe_bltn (v := .ty "tuple") (u := .type "tuple") (by rfl) T.z_tuple (by decide +kernel) rfl) pa_nil))) (pe_one (pe_callB (r := rAll K) (id := "all") (cr_all rfl) (by rfl) T.z_all (by decide +kernel) (pa_cons (pe_lc (own := [("item", 1)]) (g := gName 1) (tt := tYes) rfl sc_has_form.nd (pi_tup (pv 0)) (blkOk_by (own := [("item", 1)]) (N := ["thing", "item"]) (sc := defScope s_has_form) (by decide +kernel)) (fun _ _ _ _ _ => (pg_name (i := 1) sc_has_form.nd rfl (Or.inl rfl))) (fun _ _ _ _ _ => pts_nil) (fun _ _ _ _ _ => (pe_call G_is_given hr (by rfl) T.g_is_given T.F_is_given.kp T.b_is_given .nil pass0 (pa_cons (pv 1) pa_nil)))) pa_nil)))))), ?_⟩
    have ht := ty_tup (K := K) ha
    have h2 := tup_tup (K := K)
    tm_at "w"
    refine ⟨⟨_, SqT.of ha⟩, fun D nD => lc_tupF (fun _ => some (.bl true)) ha nD (by omega) ?_ ?_⟩
    · intro i x H' N M hx s1 kN kM
      have il : i < S.length := by
        have q := (List.getElem?_eq_some_iff.mp hx).1
        omega
      obtain ⟨v, hv1, p, q, rfl, hp, hq⟩ := hv i _ (List.getElem?_eq_getElem il)
      have ev : x = .ref p := Option.some.inj (hx.symm.trans hv1)
      subst ev
      have hm := h0 _ (List.getElem_mem il)
      tm_at "w"
      refine ⟨_, _, rfl, ⟨p, q, rfl, by tm_at "hp", by tm_at "hp"⟩, hm.1, hm.2, fun H2 s2 => kN _ _ rfl s2⟩
    · intro H' s1 hD
      rw [all_true] at hD
      tm_at "w"
      refine ⟨_, _, rfl, SqL.of hD, ?_⟩
      rw [all_id]
      exact k _ s1
/-! check_scheme -/
def sp_check_scheme (K : PySem.W.Frag) : Sp := fun vs H Q _ => ∃ (a : Addr) (S : List Tr), vs = [.ref a] ∧ SchAt H a S ∧ (∀ e ∈ S, 0 ≤ e.1 ∧ e.2.2.length ≤ 1000) ∧ S.length ≤ 1000 ∧ ∀ H', Same H H' → Q .non H'
theorem sc_check_scheme : FnScope ["thing"] ["thing"] (defScope s_check_scheme) := ⟨rfl, rfl, rfl, by decide +kernel, rfl, by decide +kernel, by decide +kernel⟩
theorem ok_check_scheme (T : Top K mg) : FnOk P w K mg base CX0 4 T.f_check_scheme T.fd_check_scheme ["thing"] (sp_check_scheme K) := by
  have G_has_form := ok_has_form (P := P) (w := w) (base := base) T
  refine T.F_check_scheme.ok sc_check_scheme (fun vs H Q E h => ?_) (fun cdv A outer s H vs Q E hr h => ?_)
  · obtain ⟨a, S, rfl, _⟩ := h
    rfl
  · obtain ⟨a, S, rfl, hS, h0, hn, k⟩ := h
    refine ⟨_, (pss_one (ps_if (pt_not (pt_val (pe_call G_has_form hr (by rfl) T.g_has_form T.F_has_form.kp T.b_has_form .nil pass0 (pa_cons (pv 0) pa_nil)))) (pss_one ps_never) pss_nil)), ?_⟩
    refine ⟨_, rfl, a, S, rfl, hS, h0, hn, fun H' s => ?_⟩
    tm_at "w"
    exact k _ s
/-! slots_of -/
def sp_slots_of (K : PySem.W.Frag) : Sp := fun vs H Q _ => ∃ (a : Addr) (S : List Tr), vs = [.ref a] ∧ SchAt H a S ∧ (∀ e ∈ S, Good e) ∧ S.length ≤ 1000 ∧ ∀ (r : Addr) H', Same H H' → H r = none → H' r = some (.tup ((S.map (·.1)).map V.int)) → Q (.ref r) H'
theorem sc_slots_of : FnScope ["scheme", "item"] ["scheme"] (defScope s_slots_of) := ⟨rfl, rfl, rfl, by decide +kernel, rfl, by decide +kernel, by decide +kernel⟩
theorem ok_slots_of (T : Top K mg) : FnOk P w K mg base CX0 5 T.f_slots_of T.fd_slots_of ["scheme"] (sp_slots_of K) := by
  have G_check_scheme := ok_check_scheme (P := P) (w := w) (base := base) T
  refine T.F_slots_of.ok sc_slots_of (fun vs H Q E h => ?_) (fun cdv A outer s H vs Q E hr h => ?_)
  · obtain ⟨a, S, rfl, _⟩ := h
    rfl
  · obtain ⟨a, S, rfl, hS, hg, hn, k⟩ := h
    refine ⟨_, (pss_cons (ps_expr (pe_call G_check_scheme hr (by rfl) T.g_check_scheme T.F_check_scheme.kp T.b_check_scheme .nil pass0 (pa_cons (pv 0) pa_nil)))
      (pss_one (ps_ret (pe_callTy (r := rTupQ K) (T := "tuple") call_tuple_of (by rfl) T.z_tuple (by decide +kernel) (pa_cons (pe_lc (own := [("item", 1)]) (g := gName 1) (tt := tYes) rfl sc_slots_of.nd (pi_tup (pv 0)) (blkOk_by (own := [("item", 1)]) (N := ["scheme", "item"]) (sc := defScope s_slots_of) (by decide +kernel)) (fun _ _ _ _ _ => (pg_name (i := 1) sc_slots_of.nd rfl (Or.inl rfl))) (fun _ _ _ _ _ => pts_nil) (fun _ _ _ _ _ => (pe_ix (r := rIxT K) ix_tup (pv 1) pe_int (fun _ _ => rfl)))) pa_nil))))), ?_⟩
    refine ⟨_, rfl, a, S, rfl, hS, hg, hn, fun H1 s1 => ?_⟩
    obtain ⟨vs, ha, hl, hv⟩ := hS.tk (Same.tk s1)
    tm_at "w"
    refine ⟨⟨_, SqT.of ha⟩, fun D nD => lc_tupF (fun i => S[i]?.map fun e => V.int e.1) ha nD (by omega) ?_ ?_⟩
    · intro i x H' N M hx s2 kN kM
      have il : i < S.length := by
        have q := (List.getElem?_eq_some_iff.mp hx).1
        omega
      obtain ⟨v, hv1, p, q, rfl, hp, hq⟩ := hv i _ (List.getElem?_eq_getElem il)
      have ev : x = .ref p := Option.some.inj (hx.symm.trans hv1)
      subst ev
      tm_at "w"
      exact kN _ _ (by rw [List.getElem?_eq_getElem il]; rfl) (Same.refl H')
    · intro H' s2 hD
      have e : (List.range vs.length).filterMap (fun i => S[i]?.map fun e => V.int e.1) = (S.map (·.1)).map V.int := by
        rw [hl, List.map_map]
        exact range_items S _
      rw [e] at hD
      tm_at "w"
      intro r nr
      have s3 : Same H H' := Same.trans s1 s2
      exact k r _ (Same.new s3 nr) (s3.free nr) upd_same
/-! many_slots -/
def sp_many_slots (K : PySem.W.Frag) : Sp := fun vs H Q _ => ∃ (a : Addr) (S : List Tr), vs = [.ref a] ∧ SchAt H a S ∧ (∀ e ∈ S, Good e) ∧ S.length ≤ 1000 ∧ ∀ (ks : List Int) H', Same H H' → ks.Nodup → (∀ k, k ∈ ks ↔ k ∈ S.map (·.1)) → Q (.int (ks.length : Nat)) H'
theorem sc_many_slots : FnScope ["scheme"] ["scheme"] (defScope s_many_slots) := ⟨rfl, rfl, rfl, by decide +kernel, rfl, by decide +kernel, by decide +kernel⟩
theorem ok_many_slots (T : Top K mg) : FnOk P w K mg base CX0 6 T.f_many_slots T.fd_many_slots ["scheme"] (sp_many_slots K) := by
  have G_slots_of := ok_slots_of (P := P) (w := w) (base := base) T
  refine T.F_many_slots.ok sc_many_slots (fun vs H Q E h => ?_) (fun cdv A outer s H vs Q E hr h => ?_)
  · obtain ⟨a, S, rfl, _⟩ := h
    rfl
  · obtain ⟨a, S, rfl, hS, hg, hn, k⟩ := h
    refine ⟨_, (pss_one (ps_ret (pe_lenSetU (by rfl) T.z_len (by rfl) T.z_set (pe_call G_slots_of hr (by rfl) T.g_slots_of T.F_slots_of.kp T.b_slots_of .nil pass0 (pa_cons (pv 0) pa_nil))))), ?_⟩
    refine ⟨_, rfl, a, S, rfl, hS, hg, hn, fun r H1 s1 _ hr1 => ?_⟩
    exact ⟨r, _, rfl, SqT.of hr1, by rw [List.length_map]; omega, fun ks nd hm => k ks _ s1 nd hm⟩
/-! _law_tape -/
def sp__law_tape (K : PySem.W.Frag) : Sp := fun vs H Q _ => ∃ (a : Addr) (ns : List Int), vs = [.ref a] ∧ SqL K H a (ns.map V.int) ∧ ∀ (τ : Tp) (H' : Hp), τ.ns = ns → Same H H' → H τ.t = none → Tape τ H' → Q (.ref τ.t) H'
theorem sc__law_tape : FnScope ["_law_script"] ["_law_script"] (defScope s__law_tape) := ⟨rfl, rfl, rfl, by decide +kernel, rfl, by decide +kernel, by decide +kernel⟩
theorem ok__law_tape (T : Top K mg) : FnOk P w K mg base CX0 1 T.f__law_tape T.fd__law_tape ["_law_script"] (sp__law_tape K) := by
  refine T.F__law_tape.ok sc__law_tape (fun vs H Q E h => ?_) (fun cdv A outer s H vs Q E hr h => ?_)
  · obtain ⟨a, ns, rfl, _⟩ := h
    rfl
  · obtain ⟨a, ns, rfl, hS, k⟩ := h
    refine ⟨_, (pss_one (ps_ret (pe_lst (pa_cons (pe_callTy (r := rListQ K) (T := "list") call_list_of (by rfl) T.z_list (by decide +kernel) (pa_cons (pv 0) pa_nil)) (pa_cons pe_int (pa_cons pe_int (pa_cons pe_int (pa_cons pe_int pa_nil)))))))), ?_⟩
    refine ⟨_, rfl, a, _, rfl, .inl hS, fun l nl => ⟨by show 5 ≤ sizeLine; decide, fun t nt => ?_⟩⟩
    have wt : Nw _ t := ⟨nt⟩
    have ntl : l ≠ t := ne_of_none upd_same nt
    have s1 : Same H (upd H l (.lst (ns.map V.int))) := Same.new (Same.refl H) nl
    exact k ⟨t, l, ns⟩ _ rfl (Same.new s1 nt) (s1.free nt) ⟨by tm_at "hp", ntl, 0, 0, 1, 0, upd_same, by decide⟩
/-! _law_pick -/
def sp__law_pick (K : PySem.W.Frag) : Sp := fun vs H Q _ => ∃ (τ : Tp) (m : Int), vs = [.ref τ.t, .int m] ∧ Tape τ H ∧ 0 < m ∧ m < 1073741824 ∧ ∀ (r : Int) (H' : Hp), Mv τ H H' → 0 ≤ r → r < m → Q (.int r) H'
theorem sc__law_pick : FnScope ["_law_tape_here", "_law_many", "_law_cell", "_law_mixed", "_law_digit"] ["_law_tape_here", "_law_many"] (defScope s__law_pick) := ⟨rfl, rfl, rfl, by decide +kernel, rfl, by decide +kernel, by decide +kernel⟩
theorem ok__law_pick (T : Top K mg) : FnOk P w K mg base CX0 1 T.f__law_pick T.fd__law_pick ["_law_tape_here", "_law_many"] (sp__law_pick K) := by
  refine T.F__law_pick.ok sc__law_pick (fun vs H Q E h => ?_) (fun cdv A outer s H vs Q E hr h => ?_)
  · obtain ⟨τ, m, rfl, _⟩ := h
    rfl
  · obtain ⟨τ, m, rfl, m0, hm, hm2, k⟩ := h
    refine ⟨_, (pss_cons (ps_if (pt_cmpR op_gt (pe_ix (r := rIxL K) ix_list (pv 0) pe_int (fun _ _ => rfl)) pe_int (nomark _)) (pss_cons (ps_set (i := 4) sc__law_pick.nd rfl (Or.inl rfl) (pe_op op_modN (pe_callTy (T := "int") call_int1 (by rfl) T.z_int (by decide +kernel) (pa_cons (pe_ix (r := rIxL K) ix_list (pv 0) pe_int (fun _ _ => rfl)) pa_nil)) (pv 1)))
      (pss_cons (ps_asg (pe_op op_fdivN (pe_ix (r := rIxL K) ix_list (pv 0) pe_int (fun _ _ => rfl)) (pv 1)) (pg_sub (pv 0) pe_int set_list))
      (pss_one (ps_ret (pv 4))))) pss_nil)
      (pss_cons (ps_asg (pe_op op_add (pe_ix (r := rIxL K) ix_list (pv 0) pe_int (fun _ _ => rfl)) pe_int) (pg_sub (pv 0) pe_int set_list))
      (pss_cons (ps_set (i := 2) sc__law_pick.nd rfl (Or.inl rfl) pe_int)
      (C8.pss_cut (ps_if (pt_cmpR op_lt (pe_ix (r := rIxL K) ix_list (pv 0) pe_int (fun _ _ => rfl)) (pe_callB (r := rLenQ K) (id := "len") call_len_seq (by rfl) T.z_len (by decide +kernel) (pa_cons (pe_ix (r := rIxL K) ix_list (pv 0) pe_int (fun _ _ => rfl)) pa_nil)) (nomark _)) (pss_cons (ps_set (i := 2) sc__law_pick.nd rfl (Or.inl rfl) (pe_ix (r := rIxL K) ix_list (pe_ix (r := rIxL K) ix_list (pv 0) pe_int (fun _ _ => rfl)) (pe_ix (r := rIxL K) ix_list (pv 0) pe_int (fun _ _ => rfl)) (fun _ _ => rfl)))
      (pss_one (ps_asg (pe_op op_add (pe_ix (r := rIxL K) ix_list (pv 0) pe_int (fun _ _ => rfl)) pe_int) (pg_sub (pv 0) pe_int set_list)))) pss_nil)
      (pss_cons (ps_if (pt_cmpR op_ge (pv 2) (pe_op op_pow pe_int pe_int) (nomark _)) (pss_cons (ps_asg (pe_op op_fdivN (pv 2) (pv 1)) (pg_sub (pv 0) pe_int set_list))
      (pss_one (ps_ret (pe_op op_modN (pe_callTy (T := "int") call_int1 (by rfl) T.z_int (by decide +kernel) (pa_cons (pv 2) pa_nil)) (pv 1))))) pss_nil)
      (pss_cons (ps_set (i := 3) sc__law_pick.nd rfl (Or.inl rfl) (pe_op op_modN (pe_callTy (T := "int") call_int1 (by rfl) T.z_int (by decide +kernel) (pa_cons (pe_op op_add (pe_op op_add (pe_op op_mul (pe_ix (r := rIxL K) ix_list (pv 0) pe_int (fun _ _ => rfl)) pe_int) (pe_op op_modN (pe_callTy (T := "int") call_int1 (by rfl) T.z_int (by decide +kernel) (pa_cons (pv 2) pa_nil)) pe_int)) (pe_op op_mul (pe_ix (r := rIxL K) ix_list (pv 0) pe_int (fun _ _ => rfl)) pe_int)) pa_nil)) pe_int))
      (pss_cons (ps_set (i := 3) sc__law_pick.nd rfl (Or.inl rfl) (pe_op op_modN (pe_callTy (T := "int") call_int1 (by rfl) T.z_int (by decide +kernel) (pa_cons (pe_op op_mul (pv 3) (pe_op op_add (pe_op op_fdivN (pv 3) pe_int) pe_int)) pa_nil)) pe_int))
      (pss_cons (ps_asg (pv 3) (pg_sub (pv 0) pe_int set_list))
      (pss_one (ps_ret (pe_op op_modN (pe_callTy (T := "int") call_int1 (by rfl) T.z_int (by decide +kernel) (pa_cons (pe_op op_fdivN (pv 3) pe_int) pa_nil)) (pv 1)))))))))))), ?_⟩
    obtain ⟨hl, nlt, i, c, s, n, ht, hi⟩ := id m0
    tm_at "w"
    refine iteD (fun hc => ?_) (fun hc => ?_)
    · tm_at "w"
      exact k _ _ (m0.mv.put rfl hi) (fmod_in hm).1 (fmod_in hm).2
    · tm_at "w"
      refine ⟨fun σ H' => ∃ v : Int, σ = [some (.ref τ.t), some (.int m), some (.int v), none, none] ∧ Mv τ H H', ?_, ?_⟩
      · tm_at "w"
        refine iteD (fun hc => ?_) (fun hc => ?_)
        · tm_at "w"
          obtain ⟨v, hv⟩ := at_ints hi hc
          refine ⟨_, _, _, _, rfl, rfl, by tm_at "sq", hv, ?_⟩
          tm_at "w"
          exact (m0.mv.put rfl hi).put rfl (by omega)
        · exact ⟨_, rfl, m0.mv.put rfl hi⟩
      · rintro σ H' ⟨v, rfl, m1⟩
        obtain ⟨hl, nlt, i, c, s, n, ht, hi⟩ := m1.now
        tm_at "w"
        refine iteD (fun hc => ?_) (fun hc => ?_)
        · tm_at "w"
          exact k _ _ (m1.put rfl hi) (fmod_in hm).1 (fmod_in hm).2
        · tm_at "w"
          exact k _ _ (m1.put rfl hi) (fmod_in hm).1 (fmod_in hm).2
/-! _law_great -/
def sp__law_great (K : PySem.W.Frag) : Sp := fun vs H Q _ => ∃ (τ : Tp), vs = [.ref τ.t] ∧ Tape τ H ∧ ∀ (r : Int) (H' : Hp), Mv τ H H' → Q (.int r) H'
theorem sc__law_great : FnScope ["_law_tape_here", "_law_found", "_law_again"] ["_law_tape_here"] (defScope s__law_great) := ⟨rfl, rfl, rfl, by decide +kernel, rfl, by decide +kernel, by decide +kernel⟩
theorem ok__law_great (T : Top K mg) : FnOk P w K mg base CX0 2 T.f__law_great T.fd__law_great ["_law_tape_here"] (sp__law_great K) := by
  have G__law_pick := ok__law_pick (P := P) (w := w) (base := base) T
  refine T.F__law_great.ok sc__law_great (fun vs H Q E h => ?_) (fun cdv A outer s H vs Q E hr h => ?_)
  · obtain ⟨τ, rfl, _⟩ := h
    rfl
  · obtain ⟨τ, rfl, m0, k⟩ := h
    refine ⟨_, (pss_cons (ps_if (pt_cmpR op_gt (pe_call G__law_pick hr (by rfl) T.g__law_pick T.F__law_pick.kp T.b__law_pick .nil pass0 (pa_cons (pv 0) (pa_cons pe_int pa_nil))) pe_int (nomark _)) (pss_one (ps_ret (pe_op op_sub (pe_call G__law_pick hr (by rfl) T.g__law_pick T.F__law_pick.kp T.b__law_pick .nil pass0 (pa_cons (pv 0) (pa_cons pe_int pa_nil))) pe_int))) pss_nil)
      (pss_cons (ps_set (i := 1) sc__law_great.nd rfl (Or.inl rfl) pe_int)
      (pss_cons (ps_for PassesOwn.never rfl (pi_range1 rfl T.z_range (pa_cons (pe_op op_add pe_int (pe_call G__law_pick hr (by rfl) T.g__law_pick T.F__law_pick.kp T.b__law_pick .nil pass0 (pa_cons (pv 0) (pa_cons pe_int pa_nil)))) pa_nil)) (pg_name (i := 2) sc__law_great.nd rfl (Or.inl rfl))
      (pss_one (ps_set (i := 1) sc__law_great.nd rfl (Or.inl rfl) (pe_op op_add (pe_op op_mul (pv 1) (pe_op op_pow pe_int pe_int)) (pe_call G__law_pick hr (by rfl) T.g__law_pick T.F__law_pick.kp T.b__law_pick .nil pass0 (pa_cons (pv 0) (pa_cons (pe_op op_pow pe_int pe_int) pa_nil)))))))
      (pss_one (ps_ret (pe_op op_mul (pv 1) (pe_op op_sub pe_int (pe_op op_mul pe_int (pe_call G__law_pick hr (by rfl) T.g__law_pick T.F__law_pick.kp T.b__law_pick .nil pass0 (pa_cons (pv 0) (pa_cons pe_int pa_nil))))))))))), ?_⟩
    tm_at "w"
    refine ⟨τ, _, rfl, m0, by decide, by decide, fun r1 H1 m1 r0 r2 => ?_⟩
    tm_at "w"
    refine iteD (fun h1 => ?_) (fun h1 => ?_)
    · tm_at "w"
      refine ⟨τ, _, rfl, m1.now, by decide, by decide, fun r3 H2 m2 _ _ => ?_⟩
      tm_at "w"
      exact k _ _ (m1.trans m2)
    · tm_at "w"
      refine ⟨τ, _, rfl, m1.now, by decide, by decide, fun r3 H2 m2 _ _ => ?_⟩
      tm_at "w"
      refine for_range (lo := 0) (n := (1 + r3).toNat) (fun i σ H' => ∃ (f : Int) (v : Option V), σ = [some (.ref τ.t), some (.int f), v] ∧ Mv τ H H') ⟨0, none, rfl, m1.trans m2⟩ ?_ ?_
      · rintro i σ H' hi ⟨f, v, rfl, m⟩
        tm_at "w"
        refine ⟨τ, _, rfl, m.now, by decide, by decide, fun r4 H3 m3 _ _ => ?_⟩
        tm_at "w"
        exact ⟨_, _, rfl, m.trans m3⟩
      · rintro σ H' ⟨f, v, rfl, m⟩
        tm_at "w"
        refine ⟨τ, _, rfl, m.now, by decide, by decide, fun r4 H3 m3 _ _ => ?_⟩
        tm_at "w"
        exact k _ _ (m.trans m3)
/-! _law_unlike -/
def sp__law_unlike (K : PySem.W.Frag) : Sp := fun vs H Q _ => ∃ (a : Addr) (ns : List Int), vs = [.ref a] ∧ H a = some (.lst (ns.map V.int)) ∧ ns.length ≤ 1000 ∧ ∀ (ks : List Int) H', Same H H' → ks.Nodup → (∀ k, k ∈ ks ↔ k ∈ ns) → Q (.int (ks.length : Nat)) H'
theorem sc__law_unlike : FnScope ["_law_slots", "_law_seen", "_law_slot"] ["_law_slots"] (defScope s__law_unlike) := ⟨rfl, rfl, rfl, by decide +kernel, rfl, by decide +kernel, by decide +kernel⟩
theorem ok__law_unlike (T : Top K mg) : FnOk P w K mg base CX0 1 T.f__law_unlike T.fd__law_unlike ["_law_slots"] (sp__law_unlike K) := by
  refine T.F__law_unlike.ok sc__law_unlike (fun vs H Q E h => ?_) (fun cdv A outer s H vs Q E hr h => ?_)
  · obtain ⟨a, ns, rfl, _⟩ := h
    rfl
  · obtain ⟨a, ns, rfl, ha, hn, k⟩ := h
    refine ⟨_, (pss_cons (ps_set (i := 1) sc__law_unlike.nd rfl (Or.inl rfl) (pe_lst pa_nil))
      (pss_cons (ps_for PassesOwn.never rfl (pi_list (pv 0)) (pg_name (i := 2) sc__law_unlike.nd rfl (Or.inl rfl))
      (pss_one (ps_if (pt_cmpR op_notIn_seq (pv 2) (pv 1) (by rfl)) (pss_one (ps_expr (pe_bm PySem.F.plainAttrs_list PySem.F.slot_list_append PySem.F.type_list_append mt_append (pv 1) (pa_cons (pv 2) pa_nil)))) pss_nil)))
      (pss_one (ps_ret (pe_callB (r := rLenQ K) (id := "len") call_len_seq (by rfl) T.z_len (by decide +kernel) (pa_cons (pv 1) pa_nil)))))), ?_⟩
    tm_at "w"
    intro D nD
    have wD : Nw _ D := ⟨nD⟩
    have aD : a ≠ D := ne_of_none ha nD
    tm_at "w"
    refine ⟨⟨_, SqL.of (by tm_at "hp")⟩, for_list (K := K) (a := a) (xs := ns.map V.int) (fun i σ H' => ∃ (v : Option V) (ks : List Int), σ = [some (.ref a), some (.ref D), v] ∧ Same H H' ∧ H' D = some (.lst (ks.map V.int)) ∧ ks.length ≤ i ∧ ks.Nodup ∧ ∀ k, k ∈ ks ↔ k ∈ ns.take i) ?_ ?_ ?_ ?_⟩
    · exact ⟨none, [], rfl, Same.new (Same.refl H) nD, upd_same, Nat.le_refl _, List.nodup_nil, fun k => by simp⟩
    · rintro i σ H' _ ⟨_, _, _, s1, _⟩
      exact SqL.of (s1 _ _ ha)
    · rintro i x σ H' hx ⟨v, ks, rfl, s1, hD, hl, nd, hm⟩
      obtain ⟨z, hz, rfl, il⟩ := int_here hx
      tm_at "w"
      by_cases hk : z ∈ ks
      · have hi : inV (.int z) (ks.map V.int) = true := by
          rw [inV_int]
          exact decide_eq_true hk
        refine ⟨flat_ints ks, _, rfl, iteEF (show (!inV (.int z) (ks.map V.int)) = false by rw [hi]; rfl) ?_⟩
        refine ⟨_, ks, rfl, s1, hD, by omega, nd, fun k => ?_⟩
        rw [List.take_add_one, hz, hm]
        simp only [Option.toList_some, List.mem_append, List.mem_singleton]
        constructor
        · exact .inl
        · rintro (h | rfl)
          · exact h
          · exact (hm _).mp hk
      · have hi : inV (.int z) (ks.map V.int) = false := by
          rw [inV_int]
          exact decide_eq_false hk
        refine ⟨flat_ints ks, _, rfl, iteET (show (!inV (.int z) (ks.map V.int)) = true by rw [hi]; rfl) ?_⟩
        tm_at "w"
        refine ⟨_, ks ++ [z], rfl, Same.mut s1 nD, by rw [← map_snoc]; exact upd_same, ?_, ?_, fun k => ?_⟩
        · rw [List.length_append, List.length_singleton]
          omega
        · exact List.nodup_append.mpr ⟨nd, by simp, fun x hx y hy e => hk (by rw [List.mem_singleton.mp hy] at e; rw [← e]; exact hx)⟩
        · rw [List.take_add_one, hz]
          simp only [Option.toList_some, List.mem_append, hm]
    · rintro σ H' ⟨v, ks, rfl, s1, hD, hl, nd, hm⟩
      have e : ns.take (ns.map V.int).length = ns := by rw [List.length_map]; exact List.take_length
      rw [e] at hm
      tm_at "w"
      rw [List.length_map]
      exact k ks _ s1 nd hm
/-! _law_menu -/
def sp__law_menu (K : PySem.W.Frag) : Sp := fun vs H Q _ => ∃ (τ : Tp), vs = [.ref τ.t] ∧ Tape τ H ∧ ∀ (p : Addr) (ns : List Int) (H' : Hp), Mv τ H H' → H p = none → H' p = some (.lst (ns.map V.int)) → 0 < ns.length → ns.length ≤ 100 → (∀ n ∈ ns, 0 ≤ n) → Q (.ref p) H'
theorem pos_snoc {ns : List Int} {n : Int} (h : ∀ n ∈ ns, 0 ≤ n) (hn : 0 ≤ n) : ∀ k ∈ ns ++ [n], 0 ≤ k := fun k hk => by
  rcases List.mem_append.mp hk with hk | hk
  · exact h k hk
  · rw [List.mem_singleton.mp hk]
    exact hn
theorem sc__law_menu : FnScope ["_law_tape_here", "_law_found", "_law_again", "_law_slot"] ["_law_tape_here"] (defScope s__law_menu) := ⟨rfl, rfl, rfl, by decide +kernel, rfl, by decide +kernel, by decide +kernel⟩
theorem ok__law_menu (T : Top K mg) : FnOk P w K mg base CX0 3 T.f__law_menu T.fd__law_menu ["_law_tape_here"] (sp__law_menu K) := by
  have G__law_great := ok__law_great (P := P) (w := w) (base := base) T
  have G__law_pick := ok__law_pick (P := P) (w := w) (base := base) T
  refine T.F__law_menu.ok sc__law_menu (fun vs H Q E h => ?_) (fun cdv A outer s H vs Q E hr h => ?_)
  · obtain ⟨τ, rfl, _⟩ := h
    rfl
  · obtain ⟨τ, rfl, m0, k⟩ := h
    refine ⟨_, (pss_cons (ps_set (i := 1) sc__law_menu.nd rfl (Or.inl rfl) (pe_lst pa_nil))
      (pss_cons (ps_for PassesOwn.never rfl (pi_range1 rfl T.z_range (pa_cons (pe_op op_add pe_int (pe_call G__law_pick (hr.mono (by decide)) (by rfl) T.g__law_pick T.F__law_pick.kp T.b__law_pick .nil pass0 (pa_cons (pv 0) (pa_cons pe_int pa_nil)))) pa_nil)) (pg_name (i := 2) sc__law_menu.nd rfl (Or.inl rfl))
      (pss_cons (ps_set (i := 3) sc__law_menu.nd rfl (Or.inl rfl) (pe_callB (id := "abs") call_abs (by rfl) T.z_abs (by decide +kernel) (pa_cons (pe_call G__law_great hr (by rfl) T.g__law_great T.F__law_great.kp T.b__law_great .nil pass0 (pa_cons (pv 0) pa_nil)) pa_nil)))
      (pss_cons (ps_expr (pe_bm PySem.F.plainAttrs_list PySem.F.slot_list_append PySem.F.type_list_append mt_append (pv 1) (pa_cons (pv 3) pa_nil)))
      (pss_one (ps_if (pt_cmpR op_eq (pe_call G__law_pick (hr.mono (by decide)) (by rfl) T.g__law_pick T.F__law_pick.kp T.b__law_pick .nil pass0 (pa_cons (pv 0) (pa_cons pe_int pa_nil))) pe_int (nomark _)) (pss_one (ps_expr (pe_bm PySem.F.plainAttrs_list PySem.F.slot_list_append PySem.F.type_list_append mt_append (pv 1) (pa_cons (pe_op op_add (pv 3) pe_int) pa_nil)))) pss_nil)))))
      (pss_one (ps_ret (pv 1))))), ?_⟩
    tm_at "w"
    intro D nD
    have nDt := m0.mv.neN nD
    tm_at "w"
    refine ⟨τ, _, rfl, m0.new nD, by decide, by decide, fun r1 H1 m1 h1 h1' => ?_⟩
    have e0 : H1 D = some (.lst []) := by tm_at "hp"
    tm_at "w"
    refine for_range (lo := 0) (n := (1 + r1).toNat) (fun i σ H' => ∃ (v2 v3 : Option V) (ns : List Int), σ = [some (.ref τ.t), some (.ref D), v2, v3] ∧ Mv τ H H' ∧ H' D = some (.lst (ns.map V.int)) ∧ i ≤ ns.length ∧ ns.length ≤ 2 * i ∧ ∀ n ∈ ns, 0 ≤ n) ?_ ?_ ?_
    · exact ⟨none, none, [], rfl, (m0.mv.new nD).trans m1, e0, Nat.le_refl _, Nat.le_refl _, fun n hn => by cases hn⟩
    · rintro i σ H2 hi ⟨v2, v3, ns, rfl, m2, hD, hl, hl2, hp⟩
      tm_at "w"
      refine ⟨m2.now, fun r3 H3 m3 => ?_⟩
      have hr : 0 ≤ (if r3 < 0 then -r3 else r3) := by split <;> omega
      obtain ⟨sl, hsl⟩ : ∃ sl, sl = (if r3 < 0 then -r3 else r3) := ⟨_, rfl⟩
      rw [← hsl] at hr
      tm_at "w"
      rw [← hsl]
      have hM := ((m2.trans m3).mut (o := .lst (ns.map V.int ++ [.int sl])) nD)
      have hD3 : (upd H3 D (.lst (ns.map V.int ++ [.int sl]))) D = some (.lst ((ns ++ [sl]).map V.int)) := by rw [← map_snoc]; exact upd_same
      refine ⟨τ, _, rfl, hM.now, by decide, by decide, fun r4 H4 m4 h4 h4' => ?_⟩
      have hD4 : H4 D = some (.lst ((ns ++ [sl]).map V.int)) := by tm_at "hp"
      have hl4 : (ns ++ [sl]).length = ns.length + 1 := by rw [List.length_append]; rfl
      tm_at "w"
      refine iteI (fun _ => ?_) (fun _ => ?_)
      · tm_at "w"
        refine ⟨_, _, (ns ++ [sl]) ++ [sl + 1], rfl, (hM.trans m4).mut nD, by simp only [List.map_append, List.map_cons, List.map_nil]; exact upd_same, ?_, ?_, pos_snoc (pos_snoc hp hr) (by omega)⟩
        · rw [List.length_append, hl4, List.length_singleton]; omega
        · rw [List.length_append, hl4, List.length_singleton]; omega
      · exact ⟨_, _, ns ++ [sl], rfl, hM.trans m4, hD4, by omega, by omega, pos_snoc hp hr⟩
    · rintro σ H2 ⟨v2, v3, ns, rfl, m2, hD, hl, hl2, hp⟩
      tm_at "w"
      exact k D ns _ m2 nD hD (by omega) (by omega) hp
/-! _law_is_right -/
def sp__law_is_right (K : PySem.W.Frag) : Sp := fun vs H Q _ => ∃ (a b : Addr) (S : List Tr), vs = [.ref a, .ref b] ∧ SchAt H a S ∧ (∀ e ∈ S, Good e) ∧ S.length ≤ 1000 ∧ H b = some (.lst ((S.map (·.1)).map V.int)) ∧ ∀ H', Same H H' → Q (.bl true) H'
theorem sc__law_is_right : FnScope ["_law_scheme", "_law_slots", "_law_told", "_law_many", "_law_one"] ["_law_scheme", "_law_slots"] (defScope s__law_is_right) := ⟨rfl, rfl, rfl, by decide +kernel, rfl, by decide +kernel, by decide +kernel⟩
theorem ok__law_is_right (T : Top K mg) : FnOk P w K mg base CX0 7 T.f__law_is_right T.fd__law_is_right ["_law_scheme", "_law_slots"] (sp__law_is_right K) := by
  have G__law_unlike := ok__law_unlike (P := P) (w := w) (base := base) T
  have G_many_slots := ok_many_slots (P := P) (w := w) (base := base) T
  have G_slots_of := ok_slots_of (P := P) (w := w) (base := base) T
  refine T.F__law_is_right.ok sc__law_is_right (fun vs H Q E h => ?_) (fun cdv A outer s H vs Q E hr h => ?_)
  · obtain ⟨a, b, S, rfl, _⟩ := h
    rfl
  · obtain ⟨a, b, S, rfl, hS, hg, hn, hb, k⟩ := h
    refine ⟨_, (pss_cons (ps_set (i := 2) sc__law_is_right.nd rfl (Or.inl rfl) (pe_call G_slots_of (hr.mono (by decide)) (by rfl) T.g_slots_of T.F_slots_of.kp T.b_slots_of .nil pass0 (pa_cons (pv 0) pa_nil)))
      (pss_cons (ps_if (PW.pt (pw_or (pt_not (pt_val (pe_callB (r := rIsi K) (id := "isinstance") call_isi (by rfl) T.z_isinstance (by decide +kernel) (pa_cons (pv 2) (pa_cons (pe_bltn (v := .ty "tuple") (u := .type "tuple") (by rfl) T.z_tuple (by decide +kernel) rfl) pa_nil))))) (pw_or1 (pt_not (pt_val (pe_callB (r := rAll K) (id := "all") (cr_all rfl) (by rfl) T.z_all (by decide +kernel) (pa_cons (pe_lc (own := [("_law_one", 4)]) (g := gName 4) (tt := tYes) rfl sc__law_is_right.nd (pi_tup (pv 2)) (blkOk_by (own := [("_law_one", 4)]) (N := ["_law_scheme", "_law_slots", "_law_told", "_law_many", "_law_one"]) (sc := defScope s__law_is_right) (by decide +kernel)) (fun _ _ _ _ _ => (pg_name (i := 4) sc__law_is_right.nd rfl (Or.inl rfl))) (fun _ _ _ _ _ => pts_nil) (fun _ _ _ _ _ => (pe_and (pe_callB (r := rIsi K) (id := "isinstance") call_isi (by rfl) T.z_isinstance (by decide +kernel) (pa_cons (pv 4) (pa_cons (pe_bltn (v := .ty "int") (u := .type "int") (by rfl) T.z_int (by decide +kernel) rfl) pa_nil))) (pe_one (pe_not (pe_callB (r := rIsi K) (id := "isinstance") call_isi (by rfl) T.z_isinstance (by decide +kernel) (pa_cons (pv 4) (pa_cons (pe_bltn (v := .ty "bool") (u := .type "bool") (by rfl) T.z_bool (by decide +kernel) rfl) pa_nil)))))))) pa_nil))))))) (pss_one (ps_ret pe_bl)) pss_nil)
      (pss_cons (ps_set (i := 3) sc__law_is_right.nd rfl (Or.inl rfl) (pe_call G_many_slots hr (by rfl) T.g_many_slots T.F_many_slots.kp T.b_many_slots .nil pass0 (pa_cons (pv 0) pa_nil)))
      (pss_cons (ps_if (PW.pt (pw_or (pt_not (pt_val (pe_callB (r := rIsi K) (id := "isinstance") call_isi (by rfl) T.z_isinstance (by decide +kernel) (pa_cons (pv 3) (pa_cons (pe_bltn (v := .ty "int") (u := .type "int") (by rfl) T.z_int (by decide +kernel) rfl) pa_nil))))) (pw_or1 (pt_val (pe_callB (r := rIsi K) (id := "isinstance") call_isi (by rfl) T.z_isinstance (by decide +kernel) (pa_cons (pv 3) (pa_cons (pe_bltn (v := .ty "bool") (u := .type "bool") (by rfl) T.z_bool (by decide +kernel) rfl) pa_nil))))))) (pss_one (ps_ret pe_bl)) pss_nil)
      (pss_one (ps_ret (pe_and (pe_cmpR (op_eqD hr.units) (pv 2) (pe_callTy (r := rTupQ K) (T := "tuple") call_tuple_of (by rfl) T.z_tuple (by decide +kernel) (pa_cons (pv 1) pa_nil)) (nomark _)) (pe_one (pe_cmpR op_eq (pv 3) (pe_call G__law_unlike (hr.mono (by decide)) (by rfl) T.g__law_unlike T.F__law_unlike.kp T.b__law_unlike .nil pass0 (pa_cons (pv 1) pa_nil)) (nomark _)))))))))), ?_⟩
    tm_at "w"
    refine ⟨a, S, rfl, hS, hg, hn, fun r H1 s1 nr hr1 => ?_⟩
    have hl : (S.map (·.1)).length ≤ 1000 := by rw [List.length_map]; exact hn
    have ht := ty_tup (K := K) hr1
    have h2 := tup_tup (K := K)
    tm_at "w"
    refine ⟨⟨_, SqT.of hr1⟩, fun D nD => lc_tupF (fun _ => some (.bl true)) hr1 nD (by rw [List.length_map]; omega) ?_ ?_⟩
    · intro i x H' N M hx s2 kN kM
      obtain ⟨z, _, rfl, _⟩ := int_here hx
      have ti := ty_int (K := K) (H := H') z
      have i1 := int_int (K := K)
      have i2 := int_bool (K := K)
      tm_at "w"
      exact kN _ _ rfl (Same.refl H')
    · intro H2 s2 hD
      rw [all_true] at hD
      tm_at "w"
      refine ⟨_, _, rfl, SqL.of hD, ?_⟩
      rw [all_id]
      have s12 := Same.trans s1 s2
      tm_at "w"
      refine ⟨a, S, rfl, hS.tk (Same.tk s12), hg, hn, fun ks H3 s3 nd hm => ?_⟩
      have ti := ty_int (K := K) (H := H3) (ks.length : Nat)
      have i1 := int_int (K := K)
      have i2 := int_bool (K := K)
      have hb3 : H3 b = some (.lst ((S.map (·.1)).map V.int)) := s3 _ _ (s12 _ _ hb)
      have hr3 := s3 _ _ (s2 _ _ hr1)
      tm_at "w"
      intro q nq
      have wq : Nw _ q := ⟨nq⟩
      refine ⟨_, _, .tup (SqT.of (by tm_at "hp")) (dp_ints _), .tup (SqT.of upd_same) (dp_ints _), shaped_ints _, shaped_ints _, ?_⟩
      rw [same_ints]
      tm_at "w"
      refine ⟨b, S.map (·.1), rfl, by tm_at "hp", hl, fun ks2 H4 s4 nd2 hm2 => ?_⟩
      tm_at "w"
      have e : ks.length = ks2.length := len_of_same nd nd2 fun z => (hm z).trans (hm2 z).symm
      rw [e, decide_eq_true rfl]
      have s13 : Same H (upd H3 q (.tup ((S.map (·.1)).map V.int))) := Same.new (Same.trans s12 s3) nq
      exact k _ (Same.trans s13 s4)
/-! law -/
def sp_law (K : PySem.W.Frag) : Sp := fun vs H Q _ => ∃ (a : Addr) (ns : List Int), vs = [.ref a] ∧ SqL K H a (ns.map V.int) ∧ ns.length ≤ 63 ∧ ∀ H', Q (.bl true) H'
theorem Good.rev {S : List Tr} (h : ∀ e ∈ S, Good e) : ∀ e ∈ S.reverse, Good e := fun e he => h e (List.mem_reverse.mp he)
/-- the scheme of the same slots, all numbers 0, all rows empty -/
def bareS (sl : List Int) : List Tr := sl.map fun s => (s, 0, [])
theorem bareS_slots (sl : List Int) : (bareS sl).map (·.1) = sl := by
  unfold bareS
  rw [List.map_map]
  exact List.map_id'' (fun _ => rfl) sl
theorem sc_law : FnScope ["_law_script", "_law_tape_here", "_law_again", "_law_many", "_law_menu_here", "_law_slots", "_law_found", "_law_slot", "_law_row", "_law_turn"] ["_law_script"] (defScope s_law) := ⟨rfl, rfl, rfl, by decide +kernel, rfl, by decide +kernel, by decide +kernel⟩
theorem ok_law (T : Top K mg) : FnOk P w K mg base CX0 8 T.f_law T.fd_law ["_law_script"] (sp_law K) := by
  have G__law_great := ok__law_great (P := P) (w := w) (base := base) T
  have G__law_is_right := ok__law_is_right (P := P) (w := w) (base := base) T
  have G__law_menu := ok__law_menu (P := P) (w := w) (base := base) T
  have G__law_pick := ok__law_pick (P := P) (w := w) (base := base) T
  have G__law_tape := ok__law_tape (P := P) (w := w) (base := base) T
  refine T.F_law.ok sc_law (fun vs H Q E h => ?_) (fun cdv A outer s H vs Q E hr h => ?_)
  · obtain ⟨a, ns, rfl, _⟩ := h
    rfl
  · obtain ⟨a, ns, rfl, hS, hlen, k⟩ := h
    refine ⟨_, (pss_cons (ps_set (i := 1) sc_law.nd rfl (Or.inr rfl) (pe_call G__law_tape (hr.mono (by decide)) (by rfl) T.g__law_tape T.F__law_tape.kp T.b__law_tape .nil pass0 (pa_cons (pv 0) pa_nil)))
      (pss_cons (ps_for PassesOwn.never rfl (pi_range1 rfl T.z_range (pa_cons pe_int pa_nil)) (pg_name (i := 2) sc_law.nd rfl (Or.inl rfl))
      (pss_cons (ps_set (i := 3) sc_law.nd rfl (Or.inl rfl) (pe_call G__law_pick (hr.mono (by decide)) (by rfl) T.g__law_pick T.F__law_pick.kp T.b__law_pick .nil pass0 (pa_cons (pv 1) (pa_cons pe_int pa_nil))))
      (C8.pss_cut (ps_if (pt_cmpR op_eq (pe_call G__law_pick (hr.mono (by decide)) (by rfl) T.g__law_pick T.F__law_pick.kp T.b__law_pick .nil pass0 (pa_cons (pv 1) (pa_cons pe_int pa_nil))) pe_int (nomark _)) (pss_one (ps_set (i := 3) sc_law.nd rfl (Or.inl rfl) (pe_op op_add pe_int (pe_call G__law_pick (hr.mono (by decide)) (by rfl) T.g__law_pick T.F__law_pick.kp T.b__law_pick .nil pass0 (pa_cons (pv 1) (pa_cons pe_int pa_nil)))))) pss_nil)
      (pss_cons (ps_set (i := 4) sc_law.nd rfl (Or.inr rfl) (pe_call G__law_menu (hr.mono (by decide)) (by rfl) T.g__law_menu T.F__law_menu.kp T.b__law_menu .nil pass0 (pa_cons (pv 1) pa_nil)))
      (pss_cons (ps_setLc (i := 5) (own := [("_law_turn", 9)]) (g := gName 9) (tt := tYes) rfl sc_law.nd rfl rfl (sw_true rfl rfl rfl (by decide +kernel)) (pi_range1 rfl T.z_range (pa_cons (pv 3) pa_nil)) (blkOk_by (own := [("_law_turn", 9)]) (N := ["_law_script", "_law_tape_here", "_law_again", "_law_many", "_law_menu_here", "_law_slots", "_law_found", "_law_slot", "_law_row", "_law_turn"]) (sc := defScope s_law) (by decide +kernel)) (fun _ _ _ _ _ => (pg_name (i := 9) sc_law.nd rfl (Or.inl rfl))) (fun _ _ _ _ _ => pts_nil) (fun _ _ _ _ _ => (pe_ix (r := rIxL K) ix_list (pv 4) (pe_call G__law_pick (hr.mono (by decide)) (by rfl) T.g__law_pick T.F__law_pick.kp T.b__law_pick .nil pass0 (pa_cons (pv 1) (pa_cons (pe_callB (r := rLenQ K) (id := "len") call_len_seq (by rfl) T.z_len (by decide +kernel) (pa_cons (pv 4) pa_nil)) pa_nil))) (fun _ _ => rfl))))
      (pss_cons (ps_set (i := 6) sc_law.nd rfl (Or.inl rfl) (pe_lst pa_nil))
      (pss_cons (ps_for PassesOwn.never rfl (pi_list (pv 5)) (pg_name (i := 7) sc_law.nd rfl (Or.inl rfl))
      (pss_cons (ps_setLc (i := 8) (own := [("_law_turn", 9)]) (g := gName 9) (tt := tYes) rfl sc_law.nd rfl rfl (sw_true rfl rfl rfl (by decide +kernel)) (pi_range1 rfl T.z_range (pa_cons (pe_call G__law_pick (hr.mono (by decide)) (by rfl) T.g__law_pick T.F__law_pick.kp T.b__law_pick .nil pass0 (pa_cons (pv 1) (pa_cons pe_int pa_nil))) pa_nil)) (blkOk_by (own := [("_law_turn", 9)]) (N := ["_law_script", "_law_tape_here", "_law_again", "_law_many", "_law_menu_here", "_law_slots", "_law_found", "_law_slot", "_law_row", "_law_turn"]) (sc := defScope s_law) (by decide +kernel)) (fun _ _ _ _ _ => (pg_name (i := 9) sc_law.nd rfl (Or.inl rfl))) (fun _ _ _ _ _ => pts_nil) (fun _ _ _ _ _ => (pe_call G__law_great (hr.mono (by decide)) (by rfl) T.g__law_great T.F__law_great.kp T.b__law_great .nil pass0 (pa_cons (pv 1) pa_nil))))
      (pss_one (ps_expr (pe_bm PySem.F.plainAttrs_list PySem.F.slot_list_append PySem.F.type_list_append mt_append (pv 6) (pa_cons (pe_tup (pa_cons (pv 7) (pa_cons (pe_call G__law_great (hr.mono (by decide)) (by rfl) T.g__law_great T.F__law_great.kp T.b__law_great .nil pass0 (pa_cons (pv 1) pa_nil)) (pa_cons (pe_callTy (r := rTupQ K) (T := "tuple") call_tuple_of (by rfl) T.z_tuple (by decide +kernel) (pa_cons (pv 8) pa_nil)) pa_nil)))) pa_nil))))))
      (pss_cons (ps_if (pt_not (pt_val (pe_call G__law_is_right hr (by rfl) T.g__law_is_right T.F__law_is_right.kp T.b__law_is_right .nil pass0 (pa_cons (pe_callTy (r := rTupQ K) (T := "tuple") call_tuple_of (by rfl) T.z_tuple (by decide +kernel) (pa_cons (pv 6) pa_nil)) (pa_cons (pv 5) pa_nil))))) (pss_one (ps_ret pe_bl)) pss_nil)
      (pss_cons (ps_if (pt_not (pt_val (pe_call G__law_is_right hr (by rfl) T.g__law_is_right T.F__law_is_right.kp T.b__law_is_right .nil pass0 (pa_cons (pe_callTy (r := rTupQ K) (T := "tuple") call_tuple_of (by rfl) T.z_tuple (by decide +kernel) (pa_cons (pe_listRev (by rfl) T.z_list (by rfl) T.z_reversed (pv 6)) pa_nil)) (pa_cons (pe_listRev (by rfl) T.z_list (by rfl) T.z_reversed (pv 5)) pa_nil))))) (pss_one (ps_ret pe_bl)) pss_nil)
      (pss_one (ps_if (pt_not (pt_val (pe_call G__law_is_right hr (by rfl) T.g__law_is_right T.F__law_is_right.kp T.b__law_is_right .nil pass0 (pa_cons (pe_callTy (r := rTupQ K) (T := "tuple") call_tuple_of (by rfl) T.z_tuple (by decide +kernel) (pa_cons (pe_lc (own := [("_law_slot", 7)]) (g := gName 7) (tt := tYes) rfl sc_law.nd (pi_list (pv 5)) (blkOk_by (own := [("_law_slot", 7)]) (N := ["_law_script", "_law_tape_here", "_law_again", "_law_many", "_law_menu_here", "_law_slots", "_law_found", "_law_slot", "_law_row", "_law_turn"]) (sc := defScope s_law) (by decide +kernel)) (fun _ _ _ _ _ => (pg_name (i := 7) sc_law.nd rfl (Or.inl rfl))) (fun _ _ _ _ _ => pts_nil) (fun _ _ _ _ _ => (pe_tup (pa_cons (pv 7) (pa_cons pe_int (pa_cons (pe_tup pa_nil) pa_nil)))))) pa_nil)) (pa_cons (pv 5) pa_nil))))) (pss_one (ps_ret pe_bl)) pss_nil)))))))))))
      (pss_one (ps_ret pe_bl)))), ?_⟩
    tm_at "w"
    refine ⟨a, ns, rfl, hS, fun τ H1 _ s1 _ m1 => ?_⟩
    tm_at "w"
    refine for_range (lo := 0) (n := (3 : Int).toNat) (fun i σ H' => ∃ (v2 v3 v4 v5 v6 v7 v8 v9 : Option V), σ = [some (.ref a), some (.ref τ.t), v2, v3, v4, v5, v6, v7, v8, v9] ∧ Tape τ H') ?_ ?_ ?_
    · exact ⟨_, _, _, _, _, _, _, _, rfl, m1⟩
    · rintro i σ H2 hi ⟨v2, v3, v4, v5, v6, v7, v8, v9, rfl, m2⟩
      tm_at "w"
      refine ⟨τ, _, rfl, m2, by decide, by decide, fun r3 H3 m3 h3 h3' => ?_⟩
      tm_at "w"
      refine ⟨fun σ H' => ∃ (n : Nat) (v2 : Option V), σ = [some (.ref a), some (.ref τ.t), v2, some (.int n), v4, v5, v6, v7, v8, v9] ∧ Tape τ H' ∧ n ≤ 60, ?_, ?_⟩
      · tm_at "w"
        refine ⟨τ, _, rfl, m3.now, by decide, by decide, fun r4 H4 m4 _ _ => ?_⟩
        tm_at "w"
        refine iteI (fun _ => ?_) (fun _ => ?_)
        · tm_at "w"
          refine ⟨τ, _, rfl, m4.now, by decide, by decide, fun r5 H5 m5 h5 h5' => ?_⟩
          tm_at "w"
          obtain ⟨n, rfl⟩ : ∃ n : Nat, r5 = n := ⟨r5.toNat, by omega⟩
          exact ⟨13 + n, _, rfl, m5.now, by omega⟩
        · obtain ⟨n, rfl⟩ : ∃ n : Nat, r3 = n := ⟨r3.toNat, by omega⟩
          exact ⟨n, _, rfl, m4.now, by omega⟩
      · rintro σ H4 ⟨n, v2, rfl, m4, hn⟩
        tm_at "w"
        refine fun M mn H5 m5 nM hM hM0 hM1 hMp => ?_
        have nMt := m4.mv.neN nM
        tm_at "w"
        intro D nD
        have nDt := m5.neN nD
        have nD4 := m5.free nD
        refine lc_rangeM (τ := τ) (fun _ v _ => ∃ z : Int, v = .int z ∧ 0 ≤ z) (fun _ _ _ _ h _ => h) m5.now nD (by omega) ?_ ?_
        · intro j H6 N _ hj m6 kN
          have hM6 : H6 M = some (.lst (mn.map V.int)) := by tm_at "hp"
          tm_at "w"
          refine ⟨τ, _, rfl, m6.now, by rw [List.length_map]; omega, by rw [List.length_map]; omega, fun r7 H7 m7 h7 h7' => ?_⟩
          rw [List.length_map] at h7'
          have hM7 : H7 M = some (.lst (mn.map V.int)) := by tm_at "hp"
          refine ⟨_, _, _, _, rfl, rfl, by tm_at "sq", at_map h7 h7', kN _ _ m7 ⟨_, rfl, ?_⟩⟩
          have q : r7.toNat < mn.length := by omega
          rw [List.getD_eq_getElem?_getD, List.getElem?_eq_getElem q]
          exact hMp _ (List.getElem_mem q)
        · intro H6 acc m6 hD hlen6 hI
          obtain ⟨sl, rfl⟩ := ints_at fun j v hv => by
            obtain ⟨z, hz, _⟩ := hI j v hv
            exact ⟨z, hz⟩
          have hpos : ∀ z ∈ sl, 0 ≤ z := fun z hz => by
            obtain ⟨j, hj, e⟩ := List.mem_iff_getElem.mp hz
            obtain ⟨y, hy, hy0⟩ := hI j (.int z) (by rw [List.getElem?_map, List.getElem?_eq_getElem hj, e]; rfl)
            have ey : z = y := V.int.inj hy
            rw [ey]
            exact hy0
          rw [List.length_map] at hlen6
          have m46 := m5.trans m6
          tm_at "w"
          intro F nF
          have nFt := m6.neN nF
          have nFD : F ≠ D := (ne_of_none hD nF).symm
          have nF4 := m46.free nF
          tm_at "w"
          refine ⟨⟨_, SqL.of (by tm_at "hp")⟩, for_list (K := K) (a := D) (xs := sl.map V.int) (fun i σ H' => ∃ (v7 v8 v9 : Option V) (vs : List V) (S : List Tr), σ = [some (.ref a), some (.ref τ.t), v2, some (.int n), some (.ref M), some (.ref D), some (.ref F), v7, v8, v9] ∧ Mv τ H4 H' ∧ H' D = some (.lst (sl.map V.int)) ∧ H' F = some (.lst vs) ∧ ScL H' vs S ∧ (∀ e ∈ S, Good e) ∧ S.map (·.1) = sl.take i) ?_ ?_ ?_ ?_⟩
          · exact ⟨_, _, _, [], [], rfl, m46.new nF, by tm_at "hp", upd_same, ScL.nil, (fun e he => by cases he), by simp⟩
          · rintro j σ H' _ ⟨_, _, _, _, _, _, _, h, _⟩
            exact SqL.of h
          · rintro j x σ H7 hx ⟨v7, v8, v9, vs, S, rfl, m7, hD7, hF7, hSL, hg, hsl⟩
            obtain ⟨z, hz, rfl, il⟩ := int_here hx
            have hSj : S.length = j := by
              have q := congrArg List.length hsl
              rw [List.length_map, List.length_take] at q
              omega
            tm_at "w"
            refine ⟨τ, _, rfl, m7.now, by decide, by decide, fun r8 H8 m8 h8 h8' => ?_⟩
            tm_at "w"
            intro R nR
            have nRt := m8.neN nR
            refine lc_rangeM (τ := τ) (fun _ v _ => IsI v) (fun _ _ _ _ h _ => h) m8.now nR (by omega) ?_ ?_
            · intro i3 H9 N _ hi3 m9 kN
              tm_at "w"
              refine ⟨m9.now, fun r H10 m10 => kN _ _ m10 ⟨r, rfl⟩⟩
            · intro H9 acc m9 hR9 hlen9 hI9
              obtain ⟨row, rfl⟩ := ints_at hI9
              rw [List.length_map] at hlen9
              have hF9 : H9 F = some (.lst vs) := by tm_at "hp"
              tm_at "w"
              refine ⟨m9.now, fun r10 H10 m10 => ?_⟩
              have hR10 : H10 R = some (.lst (row.map V.int)) := by tm_at "hp"
              have hF10 : H10 F = some (.lst vs) := by tm_at "hp"
              tm_at "w"
              intro q nq
              have wq : Nw _ q := ⟨nq⟩
              tm_at "w"
              intro p np
              have wp : Nw _ p := ⟨np⟩
              have hlv : vs.length ≤ 100 := by rw [hSL.len, hSj]; omega
              tm_at "w"
              obtain ⟨HH, hHH⟩ : ∃ HH, HH = upd (upd H10 q (.tup (row.map V.int))) p (.tup [.int z, .int r10, .ref q]) := ⟨_, rfl⟩
              have k2 : TK H10 HH := hHH ▸ (TK.new nq).trans (TK.new np)
              have m11 : Mv τ H4 HH := hHH ▸ ((((m7.trans m8).trans m9).trans m10).new nq).new np
              have hF11 : HH F = some (.lst vs) := hHH ▸ (by tm_at "hp")
              have hD11 : HH D = some (.lst (sl.map V.int)) := hHH ▸ (by tm_at "hp")
              have t : Trip HH (.ref p) (z, r10, row) := ⟨p, q, rfl, hHH ▸ upd_same, hHH ▸ (by tm_at "hp")⟩
              have kk : TK H7 HH := ((m8.tk.trans m9.tk).trans m10.tk).trans k2
              have kF : TK HH (upd HH F (.lst (vs ++ [.ref p]))) := TK.mut hF11
              rw [← hHH]
              refine ⟨_, _, _, _, S ++ [(z, r10, row)], rfl, m11.mut nF4, by tm_at "hp", upd_same, ((hSL.tk kk).snoc t).tk kF, fun e he => ?_, ?_⟩
              · rcases List.mem_append.mp he with he | he
                · exact hg e he
                · rw [List.mem_singleton.mp he]
                  exact ⟨hpos z (List.mem_of_getElem? hz), by show row.length ≤ 1000; omega⟩
              · rw [List.map_append, hsl, List.take_add_one, hz]
                rfl
          · rintro σ H7 ⟨v7, v8, v9, vs, S, rfl, m7, hD7, hF7, hSL, hg, hsl⟩
            rw [List.length_map, List.take_length] at hsl
            have hSn : S.length = n := by
              have q := congrArg List.length hsl
              rw [List.length_map] at q
              omega
            have hSq : S.length ≤ 1000 := by omega
            rw [← hsl] at hD7
            tm_at "w"
            intro t1 nt1
            have w1 : Nw _ t1 := ⟨nt1⟩
            have m8 : Mz τ H4 (upd H7 t1 (.tup vs)) := ⟨m7.new nt1⟩
            have hD8 : (upd H7 t1 (.tup vs)) D = some (.lst ((S.map (·.1)).map V.int)) := by tm_at "hp"
            have hF8 : (upd H7 t1 (.tup vs)) F = some (.lst vs) := by tm_at "hp"
            have hS8 := (hSL.tk (TK.new nt1 (o := .tup vs))).sch upd_same
            tm_at "w"
            refine ⟨t1, D, S, rfl, hS8, hg, hSq, hD8, fun H9 s9 => ?_⟩
            have hF9 := s9 _ _ hF8
            have hD9 := s9 _ _ hD8
            have hL9 := (hSL.tk (TK.new nt1 (o := .tup vs))).tk (Same.tk s9)
            have m9 := m8.same s9
            tm_at "w"
            refine ⟨F, vs, rfl, .inl (.inl hF9), fun t2 nt2 => ?_⟩
            have w2 : Nw _ t2 := ⟨nt2⟩
            have m10 := m9.new nt2 (o := .lst vs.reverse)
            have hD10 : (upd H9 t2 (.lst vs.reverse)) D = some (.lst ((S.map (·.1)).map V.int)) := by tm_at "hp"
            have hL10 := hL9.tk (TK.new nt2 (o := .lst vs.reverse))
            tm_at "w"
            intro t3 nt3
            have w3 : Nw _ t3 := ⟨nt3⟩
            have m11 := m10.new nt3 (o := .tup vs.reverse)
            have hD11 : (upd (upd H9 t2 (.lst vs.reverse)) t3 (.tup vs.reverse)) D = some (.lst ((S.map (·.1)).map V.int)) := by tm_at "hp"
            have hS11 := ((hL10.tk (TK.new nt3 (o := .tup vs.reverse))).rev).sch upd_same
            tm_at "w"
            refine ⟨D, _, rfl, .inl (.inl hD11), fun t4 nt4 => ?_⟩
            have w4 : Nw _ t4 := ⟨nt4⟩
            have m12 := m11.new nt4 (o := .lst ((S.map (·.1)).map V.int).reverse)
            have e4 : ((S.map (·.1)).map V.int).reverse = (S.reverse.map (·.1)).map V.int := by rw [List.map_reverse, List.map_reverse]
            have hD12 : (upd (upd (upd H9 t2 (.lst vs.reverse)) t3 (.tup vs.reverse)) t4 (.lst ((S.map (·.1)).map V.int).reverse)) D = some (.lst ((S.map (·.1)).map V.int)) := by tm_at "hp"
            have hS12 := hS11.tk (TK.new nt4 (o := .lst ((S.map (·.1)).map V.int).reverse))
            tm_at "w"
            refine ⟨t3, t4, S.reverse, rfl, hS12, Good.rev hg, by rw [List.length_reverse]; exact hSq, by rw [← e4]; exact upd_same, fun H13 s13 => ?_⟩
            have hD13 := s13 _ _ hD12
            have m13 := m12.same s13
            rw [hsl] at hD13
            tm_at "w"
            refine ⟨⟨_, SqL.of hD13⟩, fun G nG => ?_⟩
            refine lc_listM (τ := τ) (fun j v H => ∀ z, sl[j]? = some z → Trip H v (z, 0, [])) (fun _ _ _ _ h kk z hz => (h z hz).tk kk) hD13 nDt m13.mv.now nG (by rw [List.length_map]; omega) ?_ ?_
            · intro j x H14 N _ hx m14 kN
              obtain ⟨z, hz, rfl, il⟩ := int_here hx
              tm_at "w"
              intro q nq
              have wq : Nw _ q := ⟨nq⟩
              tm_at "w"
              intro p np
              have wp : Nw _ p := ⟨np⟩
              refine kN _ _ ((m14.now.mv.new nq).new np) fun y hy => ?_
              have ey : z = y := Option.some.inj (hz.symm.trans hy)
              rw [← ey]
              exact ⟨p, q, rfl, upd_same, upd_at (wp.ne upd_same) upd_same⟩
            · intro H14 acc m14 hG hlenG hI
              rw [List.length_map] at hlenG
              have hLG : ScL H14 acc (bareS sl) := by
                refine ⟨by rw [hlenG]; exact (List.length_map ..).symm, fun j e he => ?_⟩
                have he2 : (sl.map fun s => ((s, 0, []) : Tr))[j]? = some e := he
                rw [List.getElem?_map] at he2
                cases ez : sl[j]? with
                | none => rw [ez] at he2; cases he2
                | some z =>
                  rw [ez] at he2
                  have ee := Option.some.inj he2
                  have jl : j < acc.length := by rw [hlenG]; exact (List.getElem?_eq_some_iff.mp ez).1
                  rw [← ee]
                  exact ⟨acc[j], List.getElem?_eq_getElem jl, hI j _ (List.getElem?_eq_getElem jl) z ez⟩
              have hD14 : H14 D = some (.lst (sl.map V.int)) := m14.keep _ _ nDt hD13
              refine ⟨_, _, rfl, Or.inl ⟨SqL.of hG, ?_⟩⟩
              intro t5 nt5
              have w5 : Nw _ t5 := ⟨nt5⟩
              have m15 : Mz τ H4 (upd H14 t5 (.tup acc)) := (m13.trans m14).new nt5
              refine ⟨_, rfl, ?_⟩
              refine ⟨t5, D, bareS sl, rfl, (hLG.tk (TK.new nt5)).sch upd_same, fun e he => ?_, ?_, ?_, fun H16 s16 => ?_⟩
              · obtain ⟨z, hz, rfl⟩ := List.mem_map.mp he
                exact ⟨hpos z hz, Nat.zero_le _⟩
              · unfold bareS
                rw [List.length_map]
                omega
              · rw [bareS_slots]
                exact upd_at (w5.ne hD14) hD14
              · refine ⟨_, rfl, iteF ?_⟩
                exact ⟨_, _, _, _, _, _, _, _, rfl, (m15.same s16).mv.now⟩
    · rintro σ H2 ⟨v2, v3, v4, v5, v6, v7, v8, v9, rfl, m2⟩
      tm_at "w"
      exact k _
end
theorem all_mk {l : PySem.W.OpenLaw} {w : World} {K : PySem.W.Frag} {h : Heap} {mg : Str → Option Value} {fa : Addr} (X : K.In h) (G : h.Ns mainGlobals mg) (hfa : mg "law" = some (.ref fa))
    {od0 an0 : Option Addr} {sl0 : Array (Option Value)} {oc0 kV0 dc0 pm0 cd0 ct0 : Value} {f0 : Addr}
    {od1 an1 : Option Addr} {sl1 : Array (Option Value)} {oc1 kV1 dc1 pm1 cd1 ct1 : Value} {f1 : Addr}
    {od2 an2 : Option Addr} {sl2 : Array (Option Value)} {oc2 kV2 dc2 pm2 cd2 ct2 : Value} {f2 : Addr}
    {od3 an3 : Option Addr} {sl3 : Array (Option Value)} {oc3 kV3 dc3 pm3 cd3 ct3 : Value} {f3 : Addr}
    {od4 an4 : Option Addr} {sl4 : Array (Option Value)} {oc4 kV4 dc4 pm4 cd4 ct4 : Value} {f4 : Addr}
    {od5 an5 : Option Addr} {sl5 : Array (Option Value)} {oc5 kV5 dc5 pm5 cd5 ct5 : Value} {f5 : Addr}
    {od6 an6 : Option Addr} {sl6 : Array (Option Value)} {oc6 kV6 dc6 pm6 cd6 ct6 : Value} {f6 : Addr}
    {od7 an7 : Option Addr} {sl7 : Array (Option Value)} {oc7 kV7 dc7 pm7 cd7 ct7 : Value} {f7 : Addr}
    {od8 an8 : Option Addr} {sl8 : Array (Option Value)} {oc8 kV8 dc8 pm8 cd8 ct8 : Value} {f8 : Addr}
    {od9 an9 : Option Addr} {sl9 : Array (Option Value)} {oc9 kV9 dc9 pm9 cd9 ct9 : Value} {f9 : Addr}
    {od10 an10 : Option Addr} {sl10 : Array (Option Value)} {oc10 kV10 dc10 pm10 cd10 ct10 : Value} {f10 : Addr}
    {od11 an11 : Option Addr} {sl11 : Array (Option Value)} {oc11 kV11 dc11 pm11 cd11 ct11 : Value} {f11 : Addr}
    {od12 an12 : Option Addr} {sl12 : Array (Option Value)} {oc12 kV12 dc12 pm12 cd12 ct12 : Value} {f12 : Addr}
    {od13 an13 : Option Addr} {sl13 : Array (Option Value)} {oc13 kV13 dc13 pm13 cd13 ct13 : Value} {f13 : Addr}
    (a0 : PySem.W.nsIn K mainGlobals "is_integer" = some (some (.ref f0)))
    (l0 : K.lookup f0 = some ⟨oc0, od0, .func (PySem.W.fnOf "is_integer" "is_integer" (defArgs s_is_integer) (defBody s_is_integer) (defScope s_is_integer) .none kV0 dc0 pm0 an0 cd0 ct0), sl0⟩) (c0 : PySem.W.codeIn K cd0 "is_integer" = true) (k0 : PySem.W.keepIn K (.ref f0) = true)
    (a1 : PySem.W.nsIn K mainGlobals "is_triple" = some (some (.ref f1)))
    (l1 : K.lookup f1 = some ⟨oc1, od1, .func (PySem.W.fnOf "is_triple" "is_triple" (defArgs s_is_triple) (defBody s_is_triple) (defScope s_is_triple) .none kV1 dc1 pm1 an1 cd1 ct1), sl1⟩) (c1 : PySem.W.codeIn K cd1 "is_triple" = true) (k1 : PySem.W.keepIn K (.ref f1) = true)
    (a2 : PySem.W.nsIn K mainGlobals "is_given" = some (some (.ref f2)))
    (l2 : K.lookup f2 = some ⟨oc2, od2, .func (PySem.W.fnOf "is_given" "is_given" (defArgs s_is_given) (defBody s_is_given) (defScope s_is_given) .none kV2 dc2 pm2 an2 cd2 ct2), sl2⟩) (c2 : PySem.W.codeIn K cd2 "is_given" = true) (k2 : PySem.W.keepIn K (.ref f2) = true)
    (a3 : PySem.W.nsIn K mainGlobals "has_form" = some (some (.ref f3)))
    (l3 : K.lookup f3 = some ⟨oc3, od3, .func (PySem.W.fnOf "has_form" "has_form" (defArgs s_has_form) (defBody s_has_form) (defScope s_has_form) .none kV3 dc3 pm3 an3 cd3 ct3), sl3⟩) (c3 : PySem.W.codeIn K cd3 "has_form" = true) (k3 : PySem.W.keepIn K (.ref f3) = true)
    (a4 : PySem.W.nsIn K mainGlobals "check_scheme" = some (some (.ref f4)))
    (l4 : K.lookup f4 = some ⟨oc4, od4, .func (PySem.W.fnOf "check_scheme" "check_scheme" (defArgs s_check_scheme) (defBody s_check_scheme) (defScope s_check_scheme) .none kV4 dc4 pm4 an4 cd4 ct4), sl4⟩) (c4 : PySem.W.codeIn K cd4 "check_scheme" = true) (k4 : PySem.W.keepIn K (.ref f4) = true)
    (a5 : PySem.W.nsIn K mainGlobals "slots_of" = some (some (.ref f5)))
    (l5 : K.lookup f5 = some ⟨oc5, od5, .func (PySem.W.fnOf "slots_of" "slots_of" (defArgs s_slots_of) (defBody s_slots_of) (defScope s_slots_of) .none kV5 dc5 pm5 an5 cd5 ct5), sl5⟩) (c5 : PySem.W.codeIn K cd5 "slots_of" = true) (k5 : PySem.W.keepIn K (.ref f5) = true)
    (a6 : PySem.W.nsIn K mainGlobals "many_slots" = some (some (.ref f6)))
    (l6 : K.lookup f6 = some ⟨oc6, od6, .func (PySem.W.fnOf "many_slots" "many_slots" (defArgs s_many_slots) (defBody s_many_slots) (defScope s_many_slots) .none kV6 dc6 pm6 an6 cd6 ct6), sl6⟩) (c6 : PySem.W.codeIn K cd6 "many_slots" = true) (k6 : PySem.W.keepIn K (.ref f6) = true)
    (a7 : PySem.W.nsIn K mainGlobals "_law_tape" = some (some (.ref f7)))
    (l7 : K.lookup f7 = some ⟨oc7, od7, .func (PySem.W.fnOf "_law_tape" "_law_tape" (defArgs s__law_tape) (defBody s__law_tape) (defScope s__law_tape) .none kV7 dc7 pm7 an7 cd7 ct7), sl7⟩) (c7 : PySem.W.codeIn K cd7 "_law_tape" = true) (k7 : PySem.W.keepIn K (.ref f7) = true)
    (a8 : PySem.W.nsIn K mainGlobals "_law_pick" = some (some (.ref f8)))
    (l8 : K.lookup f8 = some ⟨oc8, od8, .func (PySem.W.fnOf "_law_pick" "_law_pick" (defArgs s__law_pick) (defBody s__law_pick) (defScope s__law_pick) .none kV8 dc8 pm8 an8 cd8 ct8), sl8⟩) (c8 : PySem.W.codeIn K cd8 "_law_pick" = true) (k8 : PySem.W.keepIn K (.ref f8) = true)
    (a9 : PySem.W.nsIn K mainGlobals "_law_great" = some (some (.ref f9)))
    (l9 : K.lookup f9 = some ⟨oc9, od9, .func (PySem.W.fnOf "_law_great" "_law_great" (defArgs s__law_great) (defBody s__law_great) (defScope s__law_great) .none kV9 dc9 pm9 an9 cd9 ct9), sl9⟩) (c9 : PySem.W.codeIn K cd9 "_law_great" = true) (k9 : PySem.W.keepIn K (.ref f9) = true)
    (a10 : PySem.W.nsIn K mainGlobals "_law_unlike" = some (some (.ref f10)))
    (l10 : K.lookup f10 = some ⟨oc10, od10, .func (PySem.W.fnOf "_law_unlike" "_law_unlike" (defArgs s__law_unlike) (defBody s__law_unlike) (defScope s__law_unlike) .none kV10 dc10 pm10 an10 cd10 ct10), sl10⟩) (c10 : PySem.W.codeIn K cd10 "_law_unlike" = true) (k10 : PySem.W.keepIn K (.ref f10) = true)
    (a11 : PySem.W.nsIn K mainGlobals "_law_menu" = some (some (.ref f11)))
    (l11 : K.lookup f11 = some ⟨oc11, od11, .func (PySem.W.fnOf "_law_menu" "_law_menu" (defArgs s__law_menu) (defBody s__law_menu) (defScope s__law_menu) .none kV11 dc11 pm11 an11 cd11 ct11), sl11⟩) (c11 : PySem.W.codeIn K cd11 "_law_menu" = true) (k11 : PySem.W.keepIn K (.ref f11) = true)
    (a12 : PySem.W.nsIn K mainGlobals "_law_is_right" = some (some (.ref f12)))
    (l12 : K.lookup f12 = some ⟨oc12, od12, .func (PySem.W.fnOf "_law_is_right" "_law_is_right" (defArgs s__law_is_right) (defBody s__law_is_right) (defScope s__law_is_right) .none kV12 dc12 pm12 an12 cd12 ct12), sl12⟩) (c12 : PySem.W.codeIn K cd12 "_law_is_right" = true) (k12 : PySem.W.keepIn K (.ref f12) = true)
    (a13 : PySem.W.nsIn K mainGlobals "law" = some (some (.ref f13)))
    (l13 : K.lookup f13 = some ⟨oc13, od13, .func (PySem.W.fnOf "law" "law" (defArgs s_law) (defBody s_law) (defScope s_law) .none kV13 dc13 pm13 an13 cd13 ct13), sl13⟩) (c13 : PySem.W.codeIn K cd13 "law" = true) (k13 : PySem.W.keepIn K (.ref f13) = true)
    (z_abs : PySem.W.nsIn K mainGlobals "abs" = some none)
    (z_all : PySem.W.nsIn K mainGlobals "all" = some none)
    (z_bool : PySem.W.nsIn K mainGlobals "bool" = some none)
    (z_int : PySem.W.nsIn K mainGlobals "int" = some none)
    (z_isinstance : PySem.W.nsIn K mainGlobals "isinstance" = some none)
    (z_len : PySem.W.nsIn K mainGlobals "len" = some none)
    (z_list : PySem.W.nsIn K mainGlobals "list" = some none)
    (z_range : PySem.W.nsIn K mainGlobals "range" = some none)
    (z_reversed : PySem.W.nsIn K mainGlobals "reversed" = some none)
    (z_set : PySem.W.nsIn K mainGlobals "set" = some none)
    (z_tuple : PySem.W.nsIn K mainGlobals "tuple" = some none) :
    ∃ fd : FuncData, (∀ (s : Shared) (v : Value), BindsTo s fd ⟨[v], []⟩ [("_law_script", v)]) ∧ ∀ base : Heap, K.In base → base.Ns mainGlobals mg → FnOk l.prog w K mg base CX0 8 fa fd ["_law_script"] (sp_law K) := by
  have e := hfa.symm.trans (PySem.W.mg_of X G a13)
  cases e
  exact ⟨_, fun s v => .of_eq rfl, fun base _ _ => ok_law {
    f_is_integer := f0, fd_is_integer := _, F_is_integer := (fun_mk (st := s_is_integer) l0 c0 k0), b_is_integer := (fun_mk (st := s_is_integer) l0 c0 k0).binds (ps := ["thing"]) (fun _ _ _ _ _ _ us hl => match us, hl with | [_], _ => rfl), g_is_integer := PySem.W.mg_of X G a0,
    f_is_triple := f1, fd_is_triple := _, F_is_triple := (fun_mk (st := s_is_triple) l1 c1 k1), b_is_triple := (fun_mk (st := s_is_triple) l1 c1 k1).binds (ps := ["thing"]) (fun _ _ _ _ _ _ us hl => match us, hl with | [_], _ => rfl), g_is_triple := PySem.W.mg_of X G a1,
    f_is_given := f2, fd_is_given := _, F_is_given := (fun_mk (st := s_is_given) l2 c2 k2), b_is_given := (fun_mk (st := s_is_given) l2 c2 k2).binds (ps := ["thing"]) (fun _ _ _ _ _ _ us hl => match us, hl with | [_], _ => rfl), g_is_given := PySem.W.mg_of X G a2,
    f_has_form := f3, fd_has_form := _, F_has_form := (fun_mk (st := s_has_form) l3 c3 k3), b_has_form := (fun_mk (st := s_has_form) l3 c3 k3).binds (ps := ["thing"]) (fun _ _ _ _ _ _ us hl => match us, hl with | [_], _ => rfl), g_has_form := PySem.W.mg_of X G a3,
    f_check_scheme := f4, fd_check_scheme := _, F_check_scheme := (fun_mk (st := s_check_scheme) l4 c4 k4), b_check_scheme := (fun_mk (st := s_check_scheme) l4 c4 k4).binds (ps := ["thing"]) (fun _ _ _ _ _ _ us hl => match us, hl with | [_], _ => rfl), g_check_scheme := PySem.W.mg_of X G a4,
    f_slots_of := f5, fd_slots_of := _, F_slots_of := (fun_mk (st := s_slots_of) l5 c5 k5), b_slots_of := (fun_mk (st := s_slots_of) l5 c5 k5).binds (ps := ["scheme"]) (fun _ _ _ _ _ _ us hl => match us, hl with | [_], _ => rfl), g_slots_of := PySem.W.mg_of X G a5,
    f_many_slots := f6, fd_many_slots := _, F_many_slots := (fun_mk (st := s_many_slots) l6 c6 k6), b_many_slots := (fun_mk (st := s_many_slots) l6 c6 k6).binds (ps := ["scheme"]) (fun _ _ _ _ _ _ us hl => match us, hl with | [_], _ => rfl), g_many_slots := PySem.W.mg_of X G a6,
    f__law_tape := f7, fd__law_tape := _, F__law_tape := (fun_mk (st := s__law_tape) l7 c7 k7), b__law_tape := (fun_mk (st := s__law_tape) l7 c7 k7).binds (ps := ["_law_script"]) (fun _ _ _ _ _ _ us hl => match us, hl with | [_], _ => rfl), g__law_tape := PySem.W.mg_of X G a7,
    f__law_pick := f8, fd__law_pick := _, F__law_pick := (fun_mk (st := s__law_pick) l8 c8 k8), b__law_pick := (fun_mk (st := s__law_pick) l8 c8 k8).binds (ps := ["_law_tape_here", "_law_many"]) (fun _ _ _ _ _ _ us hl => match us, hl with | [_, _], _ => rfl), g__law_pick := PySem.W.mg_of X G a8,
    f__law_great := f9, fd__law_great := _, F__law_great := (fun_mk (st := s__law_great) l9 c9 k9), b__law_great := (fun_mk (st := s__law_great) l9 c9 k9).binds (ps := ["_law_tape_here"]) (fun _ _ _ _ _ _ us hl => match us, hl with | [_], _ => rfl), g__law_great := PySem.W.mg_of X G a9,
    f__law_unlike := f10, fd__law_unlike := _, F__law_unlike := (fun_mk (st := s__law_unlike) l10 c10 k10), b__law_unlike := (fun_mk (st := s__law_unlike) l10 c10 k10).binds (ps := ["_law_slots"]) (fun _ _ _ _ _ _ us hl => match us, hl with | [_], _ => rfl), g__law_unlike := PySem.W.mg_of X G a10,
    f__law_menu := f11, fd__law_menu := _, F__law_menu := (fun_mk (st := s__law_menu) l11 c11 k11), b__law_menu := (fun_mk (st := s__law_menu) l11 c11 k11).binds (ps := ["_law_tape_here"]) (fun _ _ _ _ _ _ us hl => match us, hl with | [_], _ => rfl), g__law_menu := PySem.W.mg_of X G a11,
    f__law_is_right := f12, fd__law_is_right := _, F__law_is_right := (fun_mk (st := s__law_is_right) l12 c12 k12), b__law_is_right := (fun_mk (st := s__law_is_right) l12 c12 k12).binds (ps := ["_law_scheme", "_law_slots"]) (fun _ _ _ _ _ _ us hl => match us, hl with | [_, _], _ => rfl), g__law_is_right := PySem.W.mg_of X G a12,
    f_law := _, fd_law := _, F_law := (fun_mk (st := s_law) l13 c13 k13), b_law := (fun_mk (st := s_law) l13 c13 k13).binds (ps := ["_law_script"]) (fun _ _ _ _ _ _ us hl => match us, hl with | [_], _ => rfl), g_law := PySem.W.mg_of X G a13,
    z_abs := PySem.W.mg_none_of X G z_abs,
    z_all := PySem.W.mg_none_of X G z_all,
    z_bool := PySem.W.mg_none_of X G z_bool,
    z_int := PySem.W.mg_none_of X G z_int,
    z_isinstance := PySem.W.mg_none_of X G z_isinstance,
    z_len := PySem.W.mg_none_of X G z_len,
    z_list := PySem.W.mg_none_of X G z_list,
    z_range := PySem.W.mg_none_of X G z_range,
    z_reversed := PySem.W.mg_none_of X G z_reversed,
    z_set := PySem.W.mg_none_of X G z_set,
    z_tuple := PySem.W.mg_none_of X G z_tuple }⟩
end Lk
open PySem PySem.W PyProof.Rows
set_option maxHeartbeats 0 in
theorem PySem.Challenge.cw_latekinds_k15_slots_of_a_scheme_holds : PySem.Challenge.rw_latekinds_k15_slots_of_a_scheme.Holds := by
  w_on; o_law; k_head; (case hw => w_witness2)
  k_fill
  refine L2.walk_of (l := PySem.Challenge.rw_latekinds_k15_slots_of_a_scheme) (n := 63) (k := 8) (x := "_law_script") (CX := fun _ => L2.CX0) (sp := fun w => Lk.sp_law _) rfl (by decide) rfl ⟨rfl, by decide, by decide⟩ (fun w h Y => PySem.W.kIn_of Y) ?F (fun _ _ a ns hl _ hS => ⟨a, ns, rfl, hS, hl, fun _ => rfl⟩) (fun _ _ _ _ _ h => h)
  case F =>
    intro w mg fa h KX G hmg
    refine' Lk.all_mk KX G hmg ?a0 ?l0 ?c0 ?k0 ?a1 ?l1 ?c1 ?k1 ?a2 ?l2 ?c2 ?k2 ?a3 ?l3 ?c3 ?k3 ?a4 ?l4 ?c4 ?k4 ?a5 ?l5 ?c5 ?k5 ?a6 ?l6 ?c6 ?k6 ?a7 ?l7 ?c7 ?k7 ?a8 ?l8 ?c8 ?k8 ?a9 ?l9 ?c9 ?k9 ?a10 ?l10 ?c10 ?k10 ?a11 ?l11 ?c11 ?k11 ?a12 ?l12 ?c12 ?k12 ?a13 ?l13 ?c13 ?k13 ?z_abs ?z_all ?z_bool ?z_int ?z_isinstance ?z_len ?z_list ?z_range ?z_reversed ?z_set ?z_tuple
    (case a0 => k_is)
    (case l0 => k_is)
    (case c0 => k_is)
    (case k0 => k_is)
    (case a1 => k_is)
    (case l1 => k_is)
    (case c1 => k_is)
    (case k1 => k_is)
    (case a2 => k_is)
    (case l2 => k_is)
    (case c2 => k_is)
    (case k2 => k_is)
    (case a3 => k_is)
    (case l3 => k_is)
    (case c3 => k_is)
    (case k3 => k_is)
    (case a4 => k_is)
    (case l4 => k_is)
    (case c4 => k_is)
    (case k4 => k_is)
    (case a5 => k_is)
    (case l5 => k_is)
    (case c5 => k_is)
    (case k5 => k_is)
    (case a6 => k_is)
    (case l6 => k_is)
    (case c6 => k_is)
    (case k6 => k_is)
    (case a7 => k_is)
    (case l7 => k_is)
    (case c7 => k_is)
    (case k7 => k_is)
    (case a8 => k_is)
    (case l8 => k_is)
    (case c8 => k_is)
    (case k8 => k_is)
    (case a9 => k_is)
    (case l9 => k_is)
    (case c9 => k_is)
    (case k9 => k_is)
    (case a10 => k_is)
    (case l10 => k_is)
    (case c10 => k_is)
    (case k10 => k_is)
    (case a11 => k_is)
    (case l11 => k_is)
    (case c11 => k_is)
    (case k11 => k_is)
    (case a12 => k_is)
    (case l12 => k_is)
    (case c12 => k_is)
    (case k12 => k_is)
    (case a13 => k_is)
    (case l13 => k_is)
    (case c13 => k_is)
    (case k13 => k_is)
    (case z_abs => k_is)
    (case z_all => k_is)
    (case z_bool => k_is)
    (case z_int => k_is)
    (case z_isinstance => k_is)
    (case z_len => k_is)
    (case z_list => k_is)
    (case z_range => k_is)
    (case z_reversed => k_is)
    (case z_set => k_is)
    (case z_tuple => k_is)
#print axioms PySem.Challenge.cw_latekinds_k15_slots_of_a_scheme_holds
