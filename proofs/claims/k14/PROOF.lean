import PyProof.Rows.All
import Wide.All
import OpenK.AllK
import Wide.FinOn
import HandS.ForMost
import HandS.IsInst
import HandS.Rev
import HandS.Wide
import HandS.SortInts
import HandS.TupAny
import HandS.Codes
import PySem.Challenge.RW_latekinds_k14_what_a_scheme_says
set_option Elab.async false
set_option linter.all false
set_option maxRecDepth 100000
set_option maxHeartbeats 4000000
namespace Lk
open PySem L2
def top (i : Nat) : Stmt := PySem.Challenge.pw_latekinds_k14_what_a_scheme_says.main.body.getD i (.Pass ⟨0, 0, 0, 0⟩)
abbrev s_is_integer : Stmt := top 5
abbrev s_is_within : Stmt := top 6
abbrev s_is_triple : Stmt := top 7
abbrev s_check_kind_of : Stmt := top 8
abbrev s_is_given : Stmt := top 10
abbrev s_has_form : Stmt := top 11
abbrev s_check_scheme : Stmt := top 12
abbrev s_told : Stmt := top 13
abbrev s_says : Stmt := top 14
abbrev s__law_tape : Stmt := top 16
abbrev s__law_pick : Stmt := top 17
abbrev s__law_great : Stmt := top 18
abbrev s__law_scheme : Stmt := top 19
abbrev s__law_due : Stmt := top 20
abbrev s__law_is_right : Stmt := top 21
abbrev s_law : Stmt := top 22
/-! ### what is kept -/
theorem Same.at {H H' : Hp} {a : Addr} {o : HO} (e : Same H H') (h : H a = some o) : H' a = some o := e a o h
theorem Same.new {H H' : Hp} {p : Addr} {o : HO} (e : Same H H') (h : H' p = none) : Same H (upd H' p o) := fun b u z => by
  have z2 := e b u z
  rw [upd_ne (ne_of_none z2 h)]
  exact z2
theorem Same.mut {H H' : Hp} {p : Addr} {o : HO} (e : Same H H') (h : H p = none) : Same H (upd H' p o) := fun b u z => by
  rw [upd_ne (ne_of_none z h)]
  exact e b u z
theorem upd_at {H : Hp} {p a : Addr} {o u : HO} (n : a ≠ p) (h : H a = some u) : upd H p o a = some u := by
  rw [upd_ne n]
  exact h
theorem upd_at' {H : Hp} {p a : Addr} {o u : HO} (h : H a = some u) (n : a ≠ p) : upd H p o a = some u := upd_at n h
/-- new in H -/
structure Nw (H : Hp) (p : Addr) : Prop where
  e : H p = none
theorem Nw.ne {H : Hp} {a p : Addr} {o : HO} (w : Nw H p) (h : H a = some o) : a ≠ p := ne_of_none h w.e
/-- a tape: its address, its list's, the list -/
structure Tp where
  t : Addr
  l : Addr
  ns : List Int
structure Tape (τ : Tp) (H : Hp) : Prop where
  list : H τ.l = some (.lst (τ.ns.map V.int))
  ne : τ.l ≠ τ.t
  here : ∃ i c s n : Int, H τ.t = some (.lst [.ref τ.l, .int i, .int c, .int s, .int n]) ∧ 0 ≤ i
/-- all but the tape is kept, the tape is a tape -/
structure Mv (τ : Tp) (H0 H : Hp) : Prop where
  was : Tape τ H0
  keep : ∀ a o, a ≠ τ.t → H0 a = some o → H a = some o
  now : Tape τ H
structure Mz (τ : Tp) (H0 H : Hp) : Prop where
  mv : Mv τ H0 H
section
variable {τ : Tp} {H0 H H1 H2 : Hp} {p a : Addr} {o : HO}
theorem Tape.mv (h : Tape τ H) : Mv τ H H := ⟨h, fun _ _ _ e => e, h⟩
theorem Tape.mz (h : Tape τ H) : Mz τ H H := ⟨h.mv⟩
theorem Mv.self (m : Mv τ H0 H) : Mv τ H H := m.now.mv
theorem Mv.trans (m : Mv τ H0 H1) (k : Mv τ H1 H2) : Mv τ H0 H2 := ⟨m.was, fun a o n e => k.keep a o n (m.keep a o n e), k.now⟩
theorem Mz.trans (m : Mz τ H0 H1) (k : Mv τ H1 H2) : Mz τ H0 H2 := ⟨m.mv.trans k⟩
theorem Tape.new (h : Tape τ H) (n : H p = none) : Tape τ (upd H p o) := by
  obtain ⟨h1, h2, i, c, s, k, h3, h4⟩ := h
  exact ⟨upd_at (ne_of_none h1 n) h1, h2, i, c, s, k, upd_at (ne_of_none h3 n) h3, h4⟩
theorem Mv.new (m : Mv τ H0 H) (n : H p = none) : Mv τ H0 (upd H p o) := ⟨m.was, fun a u e z => upd_at (ne_of_none (m.keep a u e z) n) (m.keep a u e z), m.now.new n⟩
theorem Mz.new (m : Mz τ H0 H) (n : H p = none) : Mz τ H0 (upd H p o) := ⟨m.mv.new n⟩
theorem Mv.neF (m : Mv τ H0 H) (n : H0 p = none) : p ≠ τ.t := fun e => by
  obtain ⟨_, _, _, _, h, _⟩ := m.was.here
  rw [e, h] at n
  cases n
theorem Mv.neN (m : Mv τ H0 H) (n : H p = none) : p ≠ τ.t := fun e => by
  obtain ⟨_, _, _, _, h, _⟩ := m.now.here
  rw [e, h] at n
  cases n
theorem Mv.mut (m : Mv τ H0 H) (n : H0 p = none) : Mv τ H0 (upd H p o) := by
  obtain ⟨i, c, s, k, h3, h4⟩ := m.now.here
  have n1 : τ.l ≠ p := ne_of_none m.was.list n
  exact ⟨m.was, fun a u e z => upd_at (ne_of_none z n) (m.keep a u e z), upd_at n1 m.now.list, m.now.ne, i, c, s, k, upd_at (m.neF n).symm h3, h4⟩
theorem Mz.mut (m : Mz τ H0 H) (n : H0 p = none) : Mz τ H0 (upd H p o) := ⟨m.mv.mut n⟩
theorem Mv.free (m : Mv τ H0 H) (n : H p = none) : H0 p = none := by
  cases e : H0 p with
  | none => rfl
  | some o =>
    by_cases z : p = τ.t
    · obtain ⟨_, _, _, _, h, _⟩ := m.now.here
      rw [z, h] at n
      cases n
    · rw [m.keep p o z e] at n
      cases n
theorem Mz.free (m : Mz τ H0 H) (n : H p = none) : H0 p = none := m.mv.free n
theorem Mv.at (m : Mv τ H0 H) (n : a ≠ τ.t) (h : H0 a = some o) : H a = some o := m.keep a o n h
theorem Mv.at' (m : Mv τ H0 H) (h : H0 a = some o) (n : a ≠ τ.t) : H a = some o := m.keep a o n h
theorem Mz.at (m : Mz τ H0 H) (n : a ≠ τ.t) (h : H0 a = some o) : H a = some o := m.mv.keep a o n h
theorem Mv.neT {xs : List V} (m : Mv τ H0 H) (h : H a = some (.tup xs)) : a ≠ τ.t := fun e => by
  obtain ⟨_, _, _, _, z, _⟩ := m.now.here
  rw [e, z] at h
  cases h
theorem Mv.neT0 {xs : List V} (m : Mv τ H0 H) (h : H0 a = some (.tup xs)) : a ≠ τ.t := m.was.mv.neT h
theorem Mv.atT {xs : List V} (m : Mv τ H0 H) (h : H0 a = some (.tup xs)) : H a = some (.tup xs) := m.keep a _ (m.neT0 h) h
theorem Tape.same (h : Tape τ H) (s : Same H H1) : Tape τ H1 := by
  obtain ⟨h1, h2, i, c, s', k, h3, h4⟩ := h
  exact ⟨s _ _ h1, h2, i, c, s', k, s _ _ h3, h4⟩
theorem Mv.same (m : Mv τ H0 H) (s : Same H H1) : Mv τ H0 H1 := by
  obtain ⟨h1, h2, i, c, s', k, h3, h4⟩ := m.now
  exact ⟨m.was, fun a o e z => s a o (m.keep a o e z), s _ _ h1, h2, i, c, s', k, s _ _ h3, h4⟩
theorem Mz.same (m : Mz τ H0 H) (s : Same H H1) : Mz τ H0 H1 := ⟨m.mv.same s⟩
end
theorem iteD {c A B : Prop} [Decidable c] (h1 : c → A) (h2 : ¬ c → B) : if decide c = true then A else B := by
  by_cases h : c
  · rw [decide_eq_true h]
    exact iteT (h1 h)
  · rw [decide_eq_false h]
    exact iteF (h2 h)
theorem iteDY {c A B : Prop} [Decidable c] (h : c) (h1 : A) : if decide c = true then A else B := by
  rw [decide_eq_true h]
  exact iteT h1
theorem iteDN {c A B : Prop} [Decidable c] (h : ¬ c) (h1 : B) : if decide c = true then A else B := by
  rw [decide_eq_false h]
  exact iteF h1
theorem iteET {b : Bool} {A B : Prop} (h : b = true) (k : A) : if b = true then A else B := by
  rw [h]
  exact iteT k
theorem iteEF {b : Bool} {A B : Prop} (h : b = false) (k : B) : if b = true then A else B := by
  rw [h]
  exact iteF k
theorem iteB {b : Bool} {A B : Prop} (h1 : b = true → A) (h2 : b = false → B) : if b = true then A else B := by
  cases b with
  | true => exact iteT (h1 rfl)
  | false => exact iteF (h2 rfl)
theorem fmod_in {x m : Int} (h : 0 < m) : 0 ≤ x.fmod m ∧ x.fmod m < m := by
  rw [Int.fmod_eq_emod_of_nonneg x (Int.le_of_lt h)]
  exact ⟨Int.emod_nonneg x (by omega), Int.emod_lt_of_pos x h⟩
theorem Mv.put {τ : Tp} {H0 H : Hp} (m : Mv τ H0 H) {xs : List V} {i c s n : Int} (e : xs = [.ref τ.l, .int i, .int c, .int s, .int n]) (h : 0 ≤ i) : Mv τ H0 (upd H τ.t (.lst xs)) := by
  subst e
  exact ⟨m.was, fun a o k z => upd_at k (m.keep a o k z), upd_at m.now.ne m.now.list, m.now.ne, i, c, s, n, upd_same, h⟩
theorem le_lineB {n : Nat} (h : Nat.ble n 100000 = true) : n ≤ sizeLine := Nat.le_trans (Nat.le_of_ble_eq_true h) (by decide)
theorem fmod64 {x m : Int} (h : 0 < m) (h2 : m ≤ 2 ^ 64) : -(2 ^ 64) < x.fmod m ∧ x.fmod m < 2 ^ 64 := by
  have q := fmod_in (x := x) h
  omega
theorem at_ints {ns : List Int} {i : Int} (h0 : 0 ≤ i) (h : i < ((ns.map V.int).length : Int)) : ∃ v : Int, atI (ns.map V.int) i = some (.int v) := by
  rw [List.length_map] at h
  have hj : i.toNat < ns.length := by omega
  refine ⟨ns[i.toNat], at_of (j := i.toNat) (by omega) ?_⟩
  rw [List.getElem?_map, List.getElem?_eq_getElem hj]
  rfl
theorem dec_int {a b : Int} : decide (V.int a = V.int b) = decide (a = b) := by
  by_cases h : a = b
  · rw [decide_eq_true h, h, decide_eq_true rfl]
  · rw [decide_eq_false h, decide_eq_false fun e => h (V.int.inj e)]
theorem dec_nat {a b : Nat} : decide (V.int (a : Int) = V.int (b : Int)) = decide (a = b) := by
  rw [dec_int]
  exact decide_eq_decide.mpr Int.ofNat_inj
theorem iteI {a b : Int} {A B : Prop} (h1 : a = b → A) (h2 : ¬ a = b → B) : if decide (V.int a = V.int b) = true then A else B := by
  rw [dec_int]
  exact iteD h1 h2
/-! ### kinds of things -/
def isIntB : V → Bool
  | .int _ => true
  | _ => false
def withinB (v : V) (lo hi : Int) : Bool := match v with
  | .int i => decide (lo ≤ i) && decide (i ≤ hi)
  | _ => false
structure IntK (K : PySem.W.Frag) (H : Hp) (v : V) : Prop where
  ex : ∃ (t : Value) (bi bb : Bool), TyX K H v t ∧ PySem.W.kitOne K t (.type "int") = some bi ∧ PySem.W.kitOne K t (.type "bool") = some bb ∧ (bi && !bb) = isIntB v
section
variable {K : PySem.W.Frag} {H : Hp}
theorem IntK.int (i : Int) : IntK K H (.int i) := ⟨_, true, false, .base (.int i), kit_ty (by decide +kernel), kit_ty (by decide +kernel), rfl⟩
theorem IntK.bl (b : Bool) : IntK K H (.bl b) := ⟨_, true, true, .base (.bl b), kit_ty (by decide +kernel), kit_ty (by decide +kernel), rfl⟩
theorem IntK.non : IntK K H .non := ⟨_, false, false, .base .non, kit_ty (by decide +kernel), kit_ty (by decide +kernel), rfl⟩
theorem IntK.str (s : Str) : IntK K H (.str s) := ⟨_, false, false, .base (.str s), kit_ty (by decide +kernel), kit_ty (by decide +kernel), rfl⟩
theorem IntK.tup {a : Addr} {xs : List V} (h : H a = some (.tup xs)) : IntK K H (.ref a) := ⟨_, false, false, .base (.tup h), kit_ty (by decide +kernel), kit_ty (by decide +kernel), rfl⟩
theorem IntK.lst {a : Addr} {xs : List V} (h : H a = some (.lst xs)) : IntK K H (.ref a) := ⟨_, false, false, .base (.lst h), kit_ty (by decide +kernel), kit_ty (by decide +kernel), rfl⟩
theorem IntK.dK {a : Addr} {xs : List (Key × V)} (h : H a = some (.dK xs)) : IntK K H (.ref a) := ⟨_, false, false, .base (.dK h), kit_ty (by decide +kernel), kit_ty (by decide +kernel), rfl⟩
theorem ty_tup {a : Addr} {xs : List V} (h : H a = some (.tup xs)) : TyX K H (.ref a) (.type "tuple") := .base (.tup h)
theorem ty_int (i : Int) : TyX K H (.int i) (.type "int") := .base (.int i)
theorem ty_bl (b : Bool) : TyX K H (.bl b) (.type "bool") := .base (.bl b)
theorem tup_tup : PySem.W.kitOne K (.type "tuple") (.type "tuple") = some true := kit_ty (by decide +kernel)
theorem int_tup : PySem.W.kitOne K (.type "int") (.type "tuple") = some false := kit_ty (by decide +kernel)
theorem int_int : PySem.W.kitOne K (.type "int") (.type "int") = some true := kit_ty (by decide +kernel)
theorem int_bool : PySem.W.kitOne K (.type "int") (.type "bool") = some false := kit_ty (by decide +kernel)
theorem bool_bool : PySem.W.kitOne K (.type "bool") (.type "bool") = some true := kit_ty (by decide +kernel)
end
/-- tuples stay -/
def TK (H H' : Hp) : Prop := ∀ a xs, H a = some (.tup xs) → H' a = some (.tup xs)
theorem Same.tk {H H' : Hp} (s : Same H H') : TK H H' := fun a _ h => s a _ h
theorem Mv.tk {τ : Tp} {H H' : Hp} (m : Mv τ H H') : TK H H' := fun a _ h => m.keep a _ (m.neT0 h) h
theorem TK.trans {H H1 H2 : Hp} (a : TK H H1) (b : TK H1 H2) : TK H H2 := fun x xs h => b x xs (a x xs h)
theorem TK.mut {H : Hp} {p : Addr} {o : HO} {ys : List V} (h : H p = some (.lst ys)) : TK H (upd H p o) := fun a xs e => upd_at (ne_of e h (by intro z; cases z)) e
theorem TK.new {H : Hp} {p : Addr} {o : HO} (h : H p = none) : TK H (upd H p o) := fun a xs e => upd_at (ne_of_none e h) e
/-! ### schemes -/
abbrev Tr := Int × Int × List Int
def Trip (H : Hp) (v : V) (e : Tr) : Prop := ∃ (p q : Addr), v = .ref p ∧ H p = some (.tup [.int e.1, .int e.2.1, .ref q]) ∧ H q = some (.tup (e.2.2.map V.int))
def SchAt (H : Hp) (a : Addr) (S : List Tr) : Prop := ∃ vs : List V, H a = some (.tup vs) ∧ vs.length = S.length ∧ ∀ (i : Nat) (e : Tr), S[i]? = some e → ∃ v, vs[i]? = some v ∧ Trip H v e
theorem Trip.tk {H H' : Hp} {v : V} {e : Tr} (h : Trip H v e) (k : TK H H') : Trip H' v e := by
  obtain ⟨p, q, e1, e2, e3⟩ := h
  exact ⟨p, q, e1, k _ _ e2, k _ _ e3⟩
theorem SchAt.tk {H H' : Hp} {a : Addr} {S : List Tr} (h : SchAt H a S) (k : TK H H') : SchAt H' a S := by
  obtain ⟨vs, h1, h2, h3⟩ := h
  refine ⟨vs, k _ _ h1, h2, fun i e he => ?_⟩
  obtain ⟨v, hv, ht⟩ := h3 i e he
  exact ⟨v, hv, ht.tk k⟩
theorem SchAt.at {H : Hp} {a : Addr} {S : List Tr} (h : SchAt H a S) {i : Nat} {e : Tr} (he : S[i]? = some e) : ∃ vs p q, H a = some (.tup vs) ∧ vs.length = S.length ∧ vs[i]? = some (.ref p) ∧ H p = some (.tup [.int e.1, .int e.2.1, .ref q]) ∧ H q = some (.tup (e.2.2.map V.int)) := by
  obtain ⟨vs, h1, h2, h3⟩ := h
  obtain ⟨v, hv, p, q, e1, e2, e3⟩ := h3 i e he
  exact ⟨vs, p, q, h1, h2, by rw [hv, e1], e2, e3⟩
def saysB (ex ep : Tr) : Bool := decide (ep.1 < (ex.2.2.length : Int)) && decide (ep.2.1 ≤ ex.2.2.getD ep.1.toNat 0)
def Good (e : Tr) : Prop := 0 ≤ e.1 ∧ e.2.2.length ≤ 1000
def GoodT (v : V) (H : Hp) : Prop := ∃ e, Good e ∧ Trip H v e
theorem GoodT.tk {v : V} {H H' : Hp} (h : GoodT v H) (k : TK H H') : GoodT v H' := by
  obtain ⟨e, g, t⟩ := h
  exact ⟨e, g, t.tk k⟩
theorem sch_of {H : Hp} {a : Addr} : ∀ {vs : List V}, (∀ v ∈ vs, GoodT v H) → ∃ S : List Tr, S.length = vs.length ∧ (∀ e ∈ S, Good e) ∧ ∀ (i : Nat) (e : Tr), S[i]? = some e → ∃ v, vs[i]? = some v ∧ Trip H v e
  | [], _ => ⟨[], rfl, (fun e h => by cases h), (fun i e h => by simp at h)⟩
  | v :: r, h => by
    obtain ⟨S, h1, h2, h3⟩ := sch_of (a := a) (vs := r) fun u hu => h u (List.mem_cons_of_mem _ hu)
    obtain ⟨e, g, t⟩ := h v List.mem_cons_self
    refine ⟨e :: S, by rw [List.length_cons, List.length_cons, h1], fun x hx => ?_, fun i x hx => ?_⟩
    · rcases List.mem_cons.mp hx with rfl | hx
      · exact g
      · exact h2 x hx
    · cases i with
      | zero =>
        have q : e = x := Option.some.inj hx
        exact ⟨v, rfl, q ▸ t⟩
      | succ i => exact h3 i x hx
/-! ### comprehensions -/
theorem filterMap_range_succ {α : Type} (f : Nat → Option α) (n : Nat) : (List.range (n + 1)).filterMap f = (List.range n).filterMap f ++ (f n).toList := by
  rw [List.range_succ, List.filterMap_append]
  cases e : f n with
  | none => simp [e]
  | some v => simp [e]
theorem filterMap_range_len {α : Type} (f : Nat → Option α) (n : Nat) : ((List.range n).filterMap f).length ≤ n := by
  have h := List.length_filterMap_le f (List.range n)
  rw [List.length_range] at h
  exact h
theorem lt_line {n : Nat} (h : n ≤ 100000) : n < sizeLine := Nat.lt_of_le_of_lt h (by decide)
theorem lc_rangeF {lo : Int} {n : Nat} {g : TG} {tt : TT} {te : TE} {vs : List Nat} {σ : St} {H1 : Hp} {D : Addr} {Qd : Hp → Prop} (f : Nat → Option V) (nD : H1 D = none) (hn : n ≤ 100000)
    (hs : ∀ (i : Nat) (H : Hp) (N : V → Hp → Prop) (M : Hp → Prop), i < n → Same H1 H → (∀ v H4, f i = some v → Same H H4 → N v H4) → (∀ H4, f i = none → Same H H4 → M H4) → g (.int (lo + (i : Int))) (wipe σ vs) H fun σ2 H2 => wipe σ2 vs = wipe σ vs ∧ tt σ2 H2 fun b H3 => if b = true then te σ2 H3 N else M H3)
    (hd : ∀ H, Same H1 H → H D = some (.lst ((List.range n).filterMap f)) → Qd H) : ∃ W : Nat → Nat → Hp → Prop, (∃ m, W 0 m (upd H1 D (.lst []))) ∧ ∀ i m H, W i m H →
      ((Itr lo n).stop i H ∧ Qd H) ∨ ((Itr lo n).go i H ∧ ∃ Nx : Hp → Prop, (∀ H', Nx H' → ∃ m', m' < m ∧ W (i + 1) m' H') ∧ ∀ x H', (Itr lo n).yld i H x H' → g x (wipe σ vs) H' fun σ2 H2 => wipe σ2 vs = wipe σ vs ∧ tt σ2 H2 fun b H3 =>
        if b = true then te σ2 H3 fun y H4 => ∃ acc, H4 D = some (.lst acc) ∧ acc.length < sizeLine ∧ Nx (upd H4 D (.lst (acc ++ [y]))) else Nx H3) := by
  refine lc_range (lo := lo) (n := n) (fun i H => Same H1 H ∧ H D = some (.lst ((List.range i).filterMap f))) ⟨Same.new (Same.refl H1) nD, upd_same⟩ (fun i H hi p => ?_) (fun H p => hd H p.1 p.2)
  have il : i < n := hi
  have hz := filterMap_range_len f i
  refine hs i H _ _ hi p.1 (fun v H4 e s => ⟨_, s _ _ p.2, lt_line (by omega), ?_, ?_⟩) (fun H4 e s => ⟨?_, ?_⟩)
  · exact Same.mut (Same.trans p.1 s) nD
  · rw [filterMap_range_succ, e]
    exact upd_same
  · exact Same.trans p.1 s
  · rw [filterMap_range_succ, e, s _ _ p.2]
    simp
theorem lc_rangeM {lo : Int} {n : Nat} {g : TG} {tt : TT} {te : TE} {vs : List Nat} {σ : St} {H1 : Hp} {D : Addr} {Qd : Hp → Prop} {τ : Tp} (R : Nat → V → Hp → Prop) (st : ∀ i v H H', R i v H → TK H H' → R i v H') (t : Tape τ H1) (nD : H1 D = none) (hn : n ≤ 100000)
    (hs : ∀ (i : Nat) (H : Hp) (N : V → Hp → Prop) (M : Hp → Prop), i < n → Mv τ H1 H → (∀ v H4, Mv τ H H4 → R i v H4 → N v H4) → g (.int (lo + (i : Int))) (wipe σ vs) H fun σ2 H2 => wipe σ2 vs = wipe σ vs ∧ tt σ2 H2 fun b H3 => if b = true then te σ2 H3 N else M H3)
    (hd : ∀ H acc, Mv τ H1 H → H D = some (.lst acc) → acc.length = n → (∀ (j : Nat) v, acc[j]? = some v → R j v H) → Qd H) : ∃ W : Nat → Nat → Hp → Prop, (∃ m, W 0 m (upd H1 D (.lst []))) ∧ ∀ i m H, W i m H →
      ((Itr lo n).stop i H ∧ Qd H) ∨ ((Itr lo n).go i H ∧ ∃ Nx : Hp → Prop, (∀ H', Nx H' → ∃ m', m' < m ∧ W (i + 1) m' H') ∧ ∀ x H', (Itr lo n).yld i H x H' → g x (wipe σ vs) H' fun σ2 H2 => wipe σ2 vs = wipe σ vs ∧ tt σ2 H2 fun b H3 =>
        if b = true then te σ2 H3 fun y H4 => ∃ acc, H4 D = some (.lst acc) ∧ acc.length < sizeLine ∧ Nx (upd H4 D (.lst (acc ++ [y]))) else Nx H3) := by
  refine lc_range (lo := lo) (n := n) (fun i H => Mv τ H1 H ∧ ∃ acc, H D = some (.lst acc) ∧ acc.length = i ∧ ∀ (j : Nat) v, acc[j]? = some v → R j v H) ⟨(t.mv).new nD, [], upd_same, rfl, fun j v e => by simp at e⟩ (fun i H hi p => ?_) (fun H p => ?_)
  · obtain ⟨m, acc, hD, hlen, hR⟩ := p
    have il : i < n := hi
    refine hs i H _ _ hi m (fun v H4 m4 r => ⟨acc, m4.keep _ _ (t.mv.neF nD) hD, lt_line (by omega), (m.trans m4).mut nD, acc ++ [v], upd_same, by rw [List.length_append, hlen]; rfl, fun j u e => ?_⟩)
    have k1 : TK H4 (upd H4 D (.lst (acc ++ [v]))) := TK.mut (m4.keep _ _ (t.mv.neF nD) hD)
    by_cases hj : j < acc.length
    · rw [List.getElem?_append_left hj] at e
      exact st _ _ _ _ (st _ _ _ _ (hR j u e) m4.tk) k1
    · rw [List.getElem?_append_right (by omega)] at e
      have hj2 : j = i := by
        have q := (List.getElem?_eq_some_iff.mp e).1
        rw [List.length_singleton] at q
        omega
      rw [hj2, hlen, Nat.sub_self] at e
      have e2 : v = u := Option.some.inj e
      rw [← e2, hj2]
      exact st _ _ _ _ r k1
  · obtain ⟨m, acc, hD, hlen, hR⟩ := p
    exact hd H acc m hD hlen hR
theorem lc_listF {K : PySem.W.Frag} {a : Addr} {xs : List V} {g : TG} {tt : TT} {te : TE} {vs : List Nat} {σ : St} {H1 : Hp} {D : Addr} {Qd : Hp → Prop} (f : Nat → Option V) (hx : H1 a = some (.lst xs)) (nD : H1 D = none) (hn : xs.length ≤ 100000)
    (hs : ∀ (i : Nat) (x : V) (H : Hp) (N : V → Hp → Prop) (M : Hp → Prop), xs[i]? = some x → Same H1 H → (∀ v H4, f i = some v → Same H H4 → N v H4) → (∀ H4, f i = none → Same H H4 → M H4) → g x (wipe σ vs) H fun σ2 H2 => wipe σ2 vs = wipe σ vs ∧ tt σ2 H2 fun b H3 => if b = true then te σ2 H3 N else M H3)
    (hd : ∀ H, Same H1 H → H D = some (.lst ((List.range xs.length).filterMap f)) → Qd H) : ∃ W : Nat → Nat → Hp → Prop, (∃ m, W 0 m (upd H1 D (.lst []))) ∧ ∀ i m H, W i m H →
      ((Itl K a).stop i H ∧ Qd H) ∨ ((Itl K a).go i H ∧ ∃ Nx : Hp → Prop, (∀ H', Nx H' → ∃ m', m' < m ∧ W (i + 1) m' H') ∧ ∀ x H', (Itl K a).yld i H x H' → g x (wipe σ vs) H' fun σ2 H2 => wipe σ2 vs = wipe σ vs ∧ tt σ2 H2 fun b H3 =>
        if b = true then te σ2 H3 fun y H4 => ∃ acc, H4 D = some (.lst acc) ∧ acc.length < sizeLine ∧ Nx (upd H4 D (.lst (acc ++ [y]))) else Nx H3) := by
  refine lc_list (K := K) (a := a) (xs := xs) (fun i H => Same H1 H ∧ H D = some (.lst ((List.range i).filterMap f))) ⟨Same.new (Same.refl H1) nD, upd_same⟩ (fun i H _ p => SqL.of (p.1 _ _ hx)) (fun i x H hi p => ?_) (fun H p => hd H p.1 p.2)
  have il : i < xs.length := (List.getElem?_eq_some_iff.mp hi).1
  have hz := filterMap_range_len f i
  refine hs i x H _ _ hi p.1 (fun v H4 e s => ⟨_, s _ _ p.2, lt_line (by omega), ?_, ?_⟩) (fun H4 e s => ⟨?_, ?_⟩)
  · exact Same.mut (Same.trans p.1 s) nD
  · rw [filterMap_range_succ, e]
    exact upd_same
  · exact Same.trans p.1 s
  · rw [filterMap_range_succ, e, s _ _ p.2]
    simp
theorem lc_listM {K : PySem.W.Frag} {a : Addr} {xs : List V} {g : TG} {tt : TT} {te : TE} {vs : List Nat} {σ : St} {H1 : Hp} {D : Addr} {Qd : Hp → Prop} {τ : Tp} (R : Nat → V → Hp → Prop) (st : ∀ i v H H', R i v H → TK H H' → R i v H') (hx : H1 a = some (.lst xs)) (ne_a : a ≠ τ.t) (t : Tape τ H1) (nD : H1 D = none) (hn : xs.length ≤ 100000)
    (hs : ∀ (i : Nat) (x : V) (H : Hp) (N : V → Hp → Prop) (M : Hp → Prop), xs[i]? = some x → Mv τ H1 H → (∀ v H4, Mv τ H H4 → R i v H4 → N v H4) → g x (wipe σ vs) H fun σ2 H2 => wipe σ2 vs = wipe σ vs ∧ tt σ2 H2 fun b H3 => if b = true then te σ2 H3 N else M H3)
    (hd : ∀ H acc, Mv τ H1 H → H D = some (.lst acc) → acc.length = xs.length → (∀ (j : Nat) v, acc[j]? = some v → R j v H) → Qd H) : ∃ W : Nat → Nat → Hp → Prop, (∃ m, W 0 m (upd H1 D (.lst []))) ∧ ∀ i m H, W i m H →
      ((Itl K a).stop i H ∧ Qd H) ∨ ((Itl K a).go i H ∧ ∃ Nx : Hp → Prop, (∀ H', Nx H' → ∃ m', m' < m ∧ W (i + 1) m' H') ∧ ∀ x H', (Itl K a).yld i H x H' → g x (wipe σ vs) H' fun σ2 H2 => wipe σ2 vs = wipe σ vs ∧ tt σ2 H2 fun b H3 =>
        if b = true then te σ2 H3 fun y H4 => ∃ acc, H4 D = some (.lst acc) ∧ acc.length < sizeLine ∧ Nx (upd H4 D (.lst (acc ++ [y]))) else Nx H3) := by
  refine lc_list (K := K) (a := a) (xs := xs) (fun i H => Mv τ H1 H ∧ ∃ acc, H D = some (.lst acc) ∧ acc.length = i ∧ ∀ (j : Nat) v, acc[j]? = some v → R j v H) ⟨(t.mv).new nD, [], upd_same, rfl, fun j v e => by simp at e⟩ (fun i H _ p => SqL.of (p.1.keep _ _ ne_a hx)) (fun i x H hi p => ?_) (fun H p => ?_)
  · obtain ⟨m, acc, hD, hlen, hR⟩ := p
    have il : i < xs.length := (List.getElem?_eq_some_iff.mp hi).1
    refine hs i x H _ _ hi m (fun v H4 m4 r => ⟨acc, m4.keep _ _ (t.mv.neF nD) hD, lt_line (by omega), (m.trans m4).mut nD, acc ++ [v], upd_same, by rw [List.length_append, hlen]; rfl, fun j u e => ?_⟩)
    have k1 : TK H4 (upd H4 D (.lst (acc ++ [v]))) := TK.mut (m4.keep _ _ (t.mv.neF nD) hD)
    by_cases hj : j < acc.length
    · rw [List.getElem?_append_left hj] at e
      exact st _ _ _ _ (st _ _ _ _ (hR j u e) m4.tk) k1
    · rw [List.getElem?_append_right (by omega)] at e
      have hj2 : j = i := by
        have q := (List.getElem?_eq_some_iff.mp e).1
        rw [List.length_singleton] at q
        omega
      rw [hj2, hlen, Nat.sub_self] at e
      have e2 : v = u := Option.some.inj e
      rw [← e2, hj2]
      exact st _ _ _ _ r k1
  · obtain ⟨m, acc, hD, hlen, hR⟩ := p
    exact hd H acc m hD hlen hR
theorem lc_tupF {K : PySem.W.Frag} {a : Addr} {xs : List V} {g : TG} {tt : TT} {te : TE} {vs : List Nat} {σ : St} {H1 : Hp} {D : Addr} {Qd : Hp → Prop} (f : Nat → Option V) (hx : H1 a = some (.tup xs)) (nD : H1 D = none) (hn : xs.length ≤ 100000)
    (hs : ∀ (i : Nat) (x : V) (H : Hp) (N : V → Hp → Prop) (M : Hp → Prop), xs[i]? = some x → Same H1 H → (∀ v H4, f i = some v → Same H H4 → N v H4) → (∀ H4, f i = none → Same H H4 → M H4) → g x (wipe σ vs) H fun σ2 H2 => wipe σ2 vs = wipe σ vs ∧ tt σ2 H2 fun b H3 => if b = true then te σ2 H3 N else M H3)
    (hd : ∀ H, Same H1 H → H D = some (.lst ((List.range xs.length).filterMap f)) → Qd H) : ∃ W : Nat → Nat → Hp → Prop, (∃ m, W 0 m (upd H1 D (.lst []))) ∧ ∀ i m H, W i m H →
      ((Itt K a).stop i H ∧ Qd H) ∨ ((Itt K a).go i H ∧ ∃ Nx : Hp → Prop, (∀ H', Nx H' → ∃ m', m' < m ∧ W (i + 1) m' H') ∧ ∀ x H', (Itt K a).yld i H x H' → g x (wipe σ vs) H' fun σ2 H2 => wipe σ2 vs = wipe σ vs ∧ tt σ2 H2 fun b H3 =>
        if b = true then te σ2 H3 fun y H4 => ∃ acc, H4 D = some (.lst acc) ∧ acc.length < sizeLine ∧ Nx (upd H4 D (.lst (acc ++ [y]))) else Nx H3) := by
  refine lc_tup (K := K) (a := a) (xs := xs) (fun i H => Same H1 H ∧ H D = some (.lst ((List.range i).filterMap f))) ⟨Same.new (Same.refl H1) nD, upd_same⟩ (fun i H _ p => SqT.of (p.1 _ _ hx)) (fun i x H hi p => ?_) (fun H p => hd H p.1 p.2)
  have il : i < xs.length := (List.getElem?_eq_some_iff.mp hi).1
  have hz := filterMap_range_len f i
  refine hs i x H _ _ hi p.1 (fun v H4 e s => ⟨_, s _ _ p.2, lt_line (by omega), ?_, ?_⟩) (fun H4 e s => ⟨?_, ?_⟩)
  · exact Same.mut (Same.trans p.1 s) nD
  · rw [filterMap_range_succ, e]
    exact upd_same
  · exact Same.trans p.1 s
  · rw [filterMap_range_succ, e, s _ _ p.2]
    simp
theorem lc_tupM {K : PySem.W.Frag} {a : Addr} {xs : List V} {g : TG} {tt : TT} {te : TE} {vs : List Nat} {σ : St} {H1 : Hp} {D : Addr} {Qd : Hp → Prop} {τ : Tp} (R : Nat → V → Hp → Prop) (st : ∀ i v H H', R i v H → TK H H' → R i v H') (hx : H1 a = some (.tup xs)) (ne_a : a ≠ τ.t) (t : Tape τ H1) (nD : H1 D = none) (hn : xs.length ≤ 100000)
    (hs : ∀ (i : Nat) (x : V) (H : Hp) (N : V → Hp → Prop) (M : Hp → Prop), xs[i]? = some x → Mv τ H1 H → (∀ v H4, Mv τ H H4 → R i v H4 → N v H4) → g x (wipe σ vs) H fun σ2 H2 => wipe σ2 vs = wipe σ vs ∧ tt σ2 H2 fun b H3 => if b = true then te σ2 H3 N else M H3)
    (hd : ∀ H acc, Mv τ H1 H → H D = some (.lst acc) → acc.length = xs.length → (∀ (j : Nat) v, acc[j]? = some v → R j v H) → Qd H) : ∃ W : Nat → Nat → Hp → Prop, (∃ m, W 0 m (upd H1 D (.lst []))) ∧ ∀ i m H, W i m H →
      ((Itt K a).stop i H ∧ Qd H) ∨ ((Itt K a).go i H ∧ ∃ Nx : Hp → Prop, (∀ H', Nx H' → ∃ m', m' < m ∧ W (i + 1) m' H') ∧ ∀ x H', (Itt K a).yld i H x H' → g x (wipe σ vs) H' fun σ2 H2 => wipe σ2 vs = wipe σ vs ∧ tt σ2 H2 fun b H3 =>
        if b = true then te σ2 H3 fun y H4 => ∃ acc, H4 D = some (.lst acc) ∧ acc.length < sizeLine ∧ Nx (upd H4 D (.lst (acc ++ [y]))) else Nx H3) := by
  refine lc_tup (K := K) (a := a) (xs := xs) (fun i H => Mv τ H1 H ∧ ∃ acc, H D = some (.lst acc) ∧ acc.length = i ∧ ∀ (j : Nat) v, acc[j]? = some v → R j v H) ⟨(t.mv).new nD, [], upd_same, rfl, fun j v e => by simp at e⟩ (fun i H _ p => SqT.of (p.1.keep _ _ ne_a hx)) (fun i x H hi p => ?_) (fun H p => ?_)
  · obtain ⟨m, acc, hD, hlen, hR⟩ := p
    have il : i < xs.length := (List.getElem?_eq_some_iff.mp hi).1
    refine hs i x H _ _ hi m (fun v H4 m4 r => ⟨acc, m4.keep _ _ (t.mv.neF nD) hD, lt_line (by omega), (m.trans m4).mut nD, acc ++ [v], upd_same, by rw [List.length_append, hlen]; rfl, fun j u e => ?_⟩)
    have k1 : TK H4 (upd H4 D (.lst (acc ++ [v]))) := TK.mut (m4.keep _ _ (t.mv.neF nD) hD)
    by_cases hj : j < acc.length
    · rw [List.getElem?_append_left hj] at e
      exact st _ _ _ _ (st _ _ _ _ (hR j u e) m4.tk) k1
    · rw [List.getElem?_append_right (by omega)] at e
      have hj2 : j = i := by
        have q := (List.getElem?_eq_some_iff.mp e).1
        rw [List.length_singleton] at q
        omega
      rw [hj2, hlen, Nat.sub_self] at e
      have e2 : v = u := Option.some.inj e
      rw [← e2, hj2]
      exact st _ _ _ _ r k1
  · obtain ⟨m, acc, hD, hlen, hR⟩ := p
    exact hd H acc m hD hlen hR
/-! ### words -/
theorem tYes_go {σ : L2.St} {H : Hp} {Q : Bool → Hp → Prop} (h : Q true H) : tYes σ H Q := h
local macro_rules | `(tactic| tm_at "hp") => `(tactic| first
  | assumption
  | (with_reducible exact upd_same)
  | exact Same.at (by assumption) (by tm_at "hp")
  | exact Mv.atT (by assumption) (by tm_at "hp")
  | exact Mv.at' (by assumption) (by tm_at "hp") (by tm_at "ne")
  | ((rw [upd_ne ?n]) <;> first | (tm_at "hp") | (tm_at "ne") | fail "upd")
  | fail "hp")
local macro_rules | `(tactic| tm_at "ne") => `(tactic| first
  | assumption
  | exact Ne.symm (by assumption)
  | exact Nw.ne (by assumption) (by tm_at "hp")
  | exact Ne.symm (Nw.ne (by assumption) (by tm_at "hp"))
  | fail "ne")
local macro_rules | `(tactic| tm_at "sq") => `(tactic| first
  | assumption
  | exact SqL.of (by tm_at "hp")
  | exact Same.seq (by assumption) (by tm_at "sq")
  | fail "sq")
local macro_rules | `(tactic| tm_at "sqt") => `(tactic| first
  | assumption
  | exact SqT.of (by tm_at "hp")
  | fail "sqt")
local macro_rules | `(tactic| tm_at "sd") => `(tactic| first
  | decide
  | omega
  | exact ⟨by decide, by decide⟩
  | exact ⟨by omega, by omega⟩
  | exact Or.inr ⟨by decide, by decide⟩
  | exact Or.inl ⟨by omega, by omega⟩
  | exact Or.inl ⟨by decide, by decide⟩
  | exact Or.inr ⟨by omega, by omega⟩
  | exact Or.inl (fmod64 (by decide) (by decide))
  | exact ⟨by decide, by decide, by decide⟩
  | fail "sd")
local macro_rules | `(tactic| tm_at "w") => `(tactic| repeat (first
  | (with_reducible refine iteDY (by omega) ?_)
  | (with_reducible refine iteDN (by omega) ?_)
  | (refine ⟨_, rfl, ?_⟩)
  | (refine ⟨_, _, rfl, rfl, ?_⟩)
  | (refine ⟨_, _, _, _, rfl, rfl, by tm_at "sq", by rfl, ?_⟩)
  | (refine ⟨_, _, _, _, rfl, rfl, by tm_at "hp", by rfl, ?_⟩)
  | (refine ⟨_, _, _, _, rfl, rfl, by tm_at "sqt", by rfl, ?_⟩)
  | (refine ⟨_, _, _, _, rfl, rfl, by tm_at "sqt", atI_nat (by assumption), ?_⟩)
  | (refine ⟨_, _, _, _, rfl, rfl, by tm_at "sq", atI_nat (by assumption), ?_⟩)
  | (refine ⟨_, _, rfl, by tm_at "sqt", rfl, _, _, rfl, _, _, rfl, rfl, ?_⟩)
  | (refine ⟨_, _, rfl, by tm_at "sqt", rfl, _, _, rfl, _, _, rfl, _, _, rfl, rfl, ?_⟩)
  | (refine ⟨_, _, _, _, _, rfl, ClsV.ty _, by assumption, by assumption, ?_⟩)
  | (refine And.intro (rfl : scal _ _ = true) ?_)
  | (with_reducible refine iteET (by rfl) ?_)
  | (with_reducible refine iteEF (by rfl) ?_)
  | (refine And.intro (IntK.int _) ?_)
  | (with_reducible refine tYes_go ?_)
  | (refine And.intro (by (with_reducible refine le_lineB ?_); rfl) ?_)
  | (refine ⟨_, _, rfl, Or.inl ⟨SqL.of (by tm_at "hp"), ?_⟩⟩)
  | (refine And.intro (Or.inl ⟨rfl, _, SqL.of (by tm_at "hp")⟩) ?_)
  | (refine ⟨_, _, _, rfl, rfl, by tm_at "hp", lt_line (by omega), ?_⟩)
  | (refine And.intro rfl ?_)
  | (refine Or.inl ⟨_, rfl, ?_⟩)
  | (refine ⟨_, _, rfl, Or.inl (by tm_at "sq"), ?_⟩)
  | (refine ⟨_, _, rfl, Or.inr (by tm_at "sqt"), ?_⟩)
  | (refine And.intro (by tm_at "sd") ?_)
  | fail "w"))
structure Top (K : PySem.W.Frag) (mg : Str → Option Value) where
  f_is_integer : Addr
  fd_is_integer : FuncData
  F_is_integer : Fun K "is_integer" "is_integer" s_is_integer f_is_integer fd_is_integer
  b_is_integer : Binds K fd_is_integer ["thing"] []
  g_is_integer : mg "is_integer" = some (.ref f_is_integer)
  f_is_within : Addr
  fd_is_within : FuncData
  F_is_within : Fun K "is_within" "is_within" s_is_within f_is_within fd_is_within
  b_is_within : Binds K fd_is_within ["thing", "least", "most"] []
  g_is_within : mg "is_within" = some (.ref f_is_within)
  f_is_triple : Addr
  fd_is_triple : FuncData
  F_is_triple : Fun K "is_triple" "is_triple" s_is_triple f_is_triple fd_is_triple
  b_is_triple : Binds K fd_is_triple ["thing"] []
  g_is_triple : mg "is_triple" = some (.ref f_is_triple)
  f_check_kind_of : Addr
  fd_check_kind_of : FuncData
  F_check_kind_of : Fun K "check_kind_of" "check_kind_of" s_check_kind_of f_check_kind_of fd_check_kind_of
  b_check_kind_of : Binds K fd_check_kind_of ["thing", "many"] []
  g_check_kind_of : mg "check_kind_of" = some (.ref f_check_kind_of)
  f_is_given : Addr
  fd_is_given : FuncData
  F_is_given : Fun K "is_given" "is_given" s_is_given f_is_given fd_is_given
  b_is_given : Binds K fd_is_given ["thing"] []
  g_is_given : mg "is_given" = some (.ref f_is_given)
  f_has_form : Addr
  fd_has_form : FuncData
  F_has_form : Fun K "has_form" "has_form" s_has_form f_has_form fd_has_form
  b_has_form : Binds K fd_has_form ["thing"] []
  g_has_form : mg "has_form" = some (.ref f_has_form)
  f_check_scheme : Addr
  fd_check_scheme : FuncData
  F_check_scheme : Fun K "check_scheme" "check_scheme" s_check_scheme f_check_scheme fd_check_scheme
  b_check_scheme : Binds K fd_check_scheme ["thing"] []
  g_check_scheme : mg "check_scheme" = some (.ref f_check_scheme)
  f_told : Addr
  fd_told : FuncData
  F_told : Fun K "told" "told" s_told f_told fd_told
  b_told : Binds K fd_told ["scheme", "x", "p"] []
  g_told : mg "told" = some (.ref f_told)
  f_says : Addr
  fd_says : FuncData
  F_says : Fun K "says" "says" s_says f_says fd_says
  b_says : Binds K fd_says ["scheme", "x", "p"] []
  g_says : mg "says" = some (.ref f_says)
  f__law_tape : Addr
  fd__law_tape : FuncData
  F__law_tape : Fun K "_law_tape" "_law_tape" s__law_tape f__law_tape fd__law_tape
  b__law_tape : Binds K fd__law_tape ["_law_script"] []
  g__law_tape : mg "_law_tape" = some (.ref f__law_tape)
  f__law_pick : Addr
  fd__law_pick : FuncData
  F__law_pick : Fun K "_law_pick" "_law_pick" s__law_pick f__law_pick fd__law_pick
  b__law_pick : Binds K fd__law_pick ["_law_tape_here", "_law_many"] []
  g__law_pick : mg "_law_pick" = some (.ref f__law_pick)
  f__law_great : Addr
  fd__law_great : FuncData
  F__law_great : Fun K "_law_great" "_law_great" s__law_great f__law_great fd__law_great
  b__law_great : Binds K fd__law_great ["_law_tape_here"] []
  g__law_great : mg "_law_great" = some (.ref f__law_great)
  f__law_scheme : Addr
  fd__law_scheme : FuncData
  F__law_scheme : Fun K "_law_scheme" "_law_scheme" s__law_scheme f__law_scheme fd__law_scheme
  b__law_scheme : Binds K fd__law_scheme ["_law_tape_here", "_law_many"] []
  g__law_scheme : mg "_law_scheme" = some (.ref f__law_scheme)
  f__law_due : Addr
  fd__law_due : FuncData
  F__law_due : Fun K "_law_due" "_law_due" s__law_due f__law_due fd__law_due
  b__law_due : Binds K fd__law_due ["_law_scheme_here", "_law_x", "_law_p"] []
  g__law_due : mg "_law_due" = some (.ref f__law_due)
  f__law_is_right : Addr
  fd__law_is_right : FuncData
  F__law_is_right : Fun K "_law_is_right" "_law_is_right" s__law_is_right f__law_is_right fd__law_is_right
  b__law_is_right : Binds K fd__law_is_right ["_law_scheme_here", "_law_x", "_law_p"] []
  g__law_is_right : mg "_law_is_right" = some (.ref f__law_is_right)
  f_law : Addr
  fd_law : FuncData
  F_law : Fun K "law" "law" s_law f_law fd_law
  b_law : Binds K fd_law ["_law_script"] []
  g_law : mg "law" = some (.ref f_law)
  z_abs : mg "abs" = none
  z_all : mg "all" = none
  z_bool : mg "bool" = none
  z_int : mg "int" = none
  z_isinstance : mg "isinstance" = none
  z_len : mg "len" = none
  z_list : mg "list" = none
  z_range : mg "range" = none
  z_tuple : mg "tuple" = none
section
variable {P : Program} {w : World} {K : PySem.W.Frag} {mg : Str → Option Value} {base : Heap}
/-! is_integer -/
def sp_is_integer (K : PySem.W.Frag) : Sp := fun vs H Q _ => ∃ v, vs = [v] ∧ IntK K H v ∧ Q (.bl (isIntB v)) H
theorem sc_is_integer : FnScope ["thing"] ["thing"] (defScope s_is_integer) := ⟨rfl, rfl, rfl, by decide +kernel, rfl, by decide +kernel, by decide +kernel⟩
theorem ok_is_integer (T : Top K mg) : FnOk P w K mg base CX0 1 T.f_is_integer T.fd_is_integer ["thing"] (sp_is_integer K) := by
  refine T.F_is_integer.ok sc_is_integer (fun vs H Q E h => ?_) (fun cdv A outer s H vs Q E hr h => ?_)
  · obtain ⟨v, rfl, _⟩ := h
    rfl
  · obtain ⟨v, rfl, ⟨t, bi, bb, ht, hi, hb, e⟩, k⟩ := h
    refine ⟨_, (pss_one (ps_ret (pe_and (pe_callB call_isi (by rfl) T.z_isinstance (by decide +kernel) (pa_cons (pv 0) (pa_cons (pe_bltn (v := .ty "int") (u := .type "int") (by rfl) T.z_int (by decide +kernel) rfl) pa_nil))) (pe_one (pe_not (pe_callB call_isi (by rfl) T.z_isinstance (by decide +kernel) (pa_cons (pv 0) (pa_cons (pe_bltn (v := .ty "bool") (u := .type "bool") (by rfl) T.z_bool (by decide +kernel) rfl) pa_nil)))))))), ?_⟩
    tm_at "w"
    cases bi with
    | false =>
      rw [← e] at k
      tm_at "w"
      exact k
    | true =>
      rw [← e] at k
      tm_at "w"
      exact k
/-! is_within -/
def sp_is_within (K : PySem.W.Frag) : Sp := fun vs H Q _ => ∃ (v : V) (lo hi : Int), vs = [v, .int lo, .int hi] ∧ IntK K H v ∧ Q (.bl (withinB v lo hi)) H
theorem sc_is_within : FnScope ["thing", "least", "most"] ["thing", "least", "most"] (defScope s_is_within) := ⟨rfl, rfl, rfl, by decide +kernel, rfl, by decide +kernel, by decide +kernel⟩
theorem ok_is_within (T : Top K mg) : FnOk P w K mg base CX0 2 T.f_is_within T.fd_is_within ["thing", "least", "most"] (sp_is_within K) := by
  have G_is_integer := ok_is_integer (P := P) (w := w) (base := base) T
  refine T.F_is_within.ok sc_is_within (fun vs H Q E h => ?_) (fun cdv A outer s H vs Q E hr h => ?_)
  · obtain ⟨v, lo, hi, rfl, _⟩ := h
    rfl
  · obtain ⟨v, lo, hi, rfl, hk, k⟩ := h
    refine ⟨_, (pss_one (ps_ret (pe_and (pe_call G_is_integer hr (by rfl) T.g_is_integer T.F_is_integer.kp T.b_is_integer .nil pass0 (pa_cons (pv 0) pa_nil)) (pe_one (pe_chain op_le op_le (pv 1) (pv 0) (pv 2)))))), ?_⟩
    refine ⟨v, rfl, v, rfl, hk, _, rfl, ?_⟩
    cases v with
    | int i =>
      refine iteT ?_
      tm_at "w"
      refine iteD (fun h1 => ?_) (fun h1 => ?_)
      · tm_at "w"
        have e : withinB (.int i) lo hi = decide (i ≤ hi) := by
          show (decide (lo ≤ i) && decide (i ≤ hi)) = _
          rw [decide_eq_true h1, Bool.true_and]
        rw [e] at k
        exact k
      · have e : withinB (.int i) lo hi = false := by
          show (decide (lo ≤ i) && decide (i ≤ hi)) = _
          rw [decide_eq_false h1, Bool.false_and]
        rw [e] at k
        exact k
    | _ =>
      refine iteF ?_
      exact k
/-! is_triple -/
def sp_is_triple (K : PySem.W.Frag) : Sp := fun vs H Q _ => ∃ (p : Addr) (xs : List V), vs = [.ref p] ∧ H p = some (.tup xs) ∧ Q (.bl (decide (xs.length = 3))) H
theorem sc_is_triple : FnScope ["thing"] ["thing"] (defScope s_is_triple) := ⟨rfl, rfl, rfl, by decide +kernel, rfl, by decide +kernel, by decide +kernel⟩
theorem ok_is_triple (T : Top K mg) : FnOk P w K mg base CX0 1 T.f_is_triple T.fd_is_triple ["thing"] (sp_is_triple K) := by
  refine T.F_is_triple.ok sc_is_triple (fun vs H Q E h => ?_) (fun cdv A outer s H vs Q E hr h => ?_)
  · obtain ⟨p, xs, rfl, _⟩ := h
    rfl
  · obtain ⟨p, xs, rfl, hp, k⟩ := h
    refine ⟨_, (pss_one (ps_ret (pe_and (pe_callB call_isi (by rfl) T.z_isinstance (by decide +kernel) (pa_cons (pv 0) (pa_cons (pe_bltn (v := .ty "tuple") (u := .type "tuple") (by rfl) T.z_tuple (by decide +kernel) rfl) pa_nil))) (pe_one (pe_cmpR op_eq (pe_callB call_len_seq (by rfl) T.z_len (by decide +kernel) (pa_cons (pv 0) pa_nil)) pe_int (nomark _)))))), ?_⟩
    have ht := ty_tup (K := K) hp
    have h2 := tup_tup (K := K)
    tm_at "w"
    show Q (.bl (decide (V.int (xs.length : Int) = V.int ((3 : Nat) : Int)))) H
    rw [dec_nat]
    exact k
/-! check_kind_of -/
def sp_check_kind_of (K : PySem.W.Frag) : Sp := fun vs H Q _ => ∃ (i m : Int), vs = [.int i, .int m] ∧ 0 ≤ i ∧ i < m ∧ Q .non H
theorem sc_check_kind_of : FnScope ["thing", "many"] ["thing", "many"] (defScope s_check_kind_of) := ⟨rfl, rfl, rfl, by decide +kernel, rfl, by decide +kernel, by decide +kernel⟩
theorem ok_check_kind_of (T : Top K mg) : FnOk P w K mg base CX0 3 T.f_check_kind_of T.fd_check_kind_of ["thing", "many"] (sp_check_kind_of K) := by
  have G_is_within := ok_is_within (P := P) (w := w) (base := base) T
  refine T.F_check_kind_of.ok sc_check_kind_of (fun vs H Q E h => ?_) (fun cdv A outer s H vs Q E hr h => ?_)
  · obtain ⟨i, m, rfl, _⟩ := h
    rfl
  · obtain ⟨i, m, rfl, h0, h1, k⟩ := h
    refine ⟨_, (pss_one (ps_if (pt_not (pt_val (pe_call G_is_within hr (by rfl) T.g_is_within T.F_is_within.kp T.b_is_within .nil pass0 (pa_cons (pv 0) (pa_cons pe_int (pa_cons (pe_op op_sub (pv 1) pe_int) pa_nil)))))) (pss_one ps_never) pss_nil)), ?_⟩
    tm_at "w"
    refine ⟨_, _, _, rfl, .int _, ?_⟩
    have e : withinB (.int i) 0 (m - 1) = true := by
      show (decide (0 ≤ i) && decide (i ≤ m - 1)) = true
      rw [decide_eq_true h0, decide_eq_true (show i ≤ m - 1 by omega)]
      rfl
    rw [e]
    refine ⟨_, rfl, ?_⟩
    exact iteF k
/-! is_given -/
theorem all_true (n : Nat) : (List.range n).filterMap (fun _ => some (V.bl true)) = (List.replicate n true).map V.bl := by
  rw [show (fun _ : Nat => some (V.bl true)) = some ∘ (fun _ : Nat => V.bl true) from rfl, List.filterMap_eq_map, List.map_replicate]
  exact List.eq_replicate_iff.mpr ⟨by rw [List.length_map, List.length_range], fun b hb => by
    obtain ⟨x, _, e⟩ := List.mem_map.mp hb
    exact e.symm⟩
theorem all_id (n : Nat) : (List.replicate n true).all id = true := List.all_eq_true.mpr fun x hx => (List.eq_of_mem_replicate hx)
def sp_is_given (K : PySem.W.Frag) : Sp := fun vs H Q _ => ∃ (v : V) (e : Tr), vs = [v] ∧ Trip H v e ∧ 0 ≤ e.1 ∧ e.2.2.length ≤ 1000 ∧ ∀ H', Same H H' → Q (.bl true) H'
theorem sc_is_given : FnScope ["thing", "entry"] ["thing"] (defScope s_is_given) := ⟨rfl, rfl, rfl, by decide +kernel, rfl, by decide +kernel, by decide +kernel⟩
theorem ok_is_given (T : Top K mg) : FnOk P w K mg base CX0 2 T.f_is_given T.fd_is_given ["thing"] (sp_is_given K) := by
  have G_is_integer := ok_is_integer (P := P) (w := w) (base := base) T
  have G_is_triple := ok_is_triple (P := P) (w := w) (base := base) T
  refine T.F_is_given.ok sc_is_given (fun vs H Q E h => ?_) (fun cdv A outer s H vs Q E hr h => ?_)
  · obtain ⟨v, e, rfl, _⟩ := h
    rfl
  · obtain ⟨v, ⟨s, n, r⟩, rfl, ⟨p, q, rfl, hp, hq⟩, h0, hl, k⟩ := h
    refine ⟨_, (pss_cons (ps_if (PW.pt (pw_or (pt_not (pt_val (pe_call G_is_triple hr (by rfl) T.g_is_triple T.F_is_triple.kp T.b_is_triple .nil pass0 (pa_cons (pv 0) pa_nil)))) (pw_or (pt_not (pt_val (pe_call G_is_integer hr (by rfl) T.g_is_integer T.F_is_integer.kp T.b_is_integer .nil pass0 (pa_cons (pe_ix ix_tup (pv 0) pe_int (fun _ _ => rfl)) pa_nil)))) (pw_or (pt_cmpR op_lt (pe_ix ix_tup (pv 0) pe_int (fun _ _ => rfl)) pe_int (nomark _)) (pw_or1 (pt_not (pt_val (pe_call G_is_integer hr (by rfl) T.g_is_integer T.F_is_integer.kp T.b_is_integer .nil pass0 (pa_cons (pe_ix ix_tup (pv 0) pe_int (fun _ _ => rfl)) pa_nil))))))))) (pss_one (ps_ret pe_bl)) pss_nil)
      (pss_one (ps_ret (pe_and (pe_callB call_isi (by rfl) T.z_isinstance (by decide +kernel) (pa_cons (pe_ix ix_tup (pv 0) pe_int (fun _ _ => rfl)) (pa_cons (pe_bltn (v := .ty "tuple") (u := .type "tuple") (by rfl) T.z_tuple (by decide +kernel) rfl) pa_nil))) (pe_one (pe_callB (cr_all rfl) (by rfl) T.z_all (by decide +kernel) (pa_cons (pe_lc (own := [("entry", 1)]) (g := gName 1) (tt := tYes) rfl sc_is_given.nd (pi_tup (pe_ix ix_tup (pv 0) pe_int (fun _ _ => rfl))) (blkOk_by (own := [("entry", 1)]) (N := ["thing", "entry"]) (sc := defScope s_is_given) (by decide +kernel)) (fun _ _ _ _ _ => (pg_name (i := 1) sc_is_given.nd rfl (Or.inl rfl))) (fun _ _ _ _ _ => pts_nil) (fun _ _ _ _ _ => (pe_call G_is_integer hr (by rfl) T.g_is_integer T.F_is_integer.kp T.b_is_integer .nil pass0 (pa_cons (pv 1) pa_nil)))) pa_nil))))))), ?_⟩
    have ht := ty_tup (K := K) hq
    have h2 := tup_tup (K := K)
    refine ⟨_, rfl, p, _, rfl, hp, true, rfl, ?_⟩
    tm_at "w"
    refine ⟨⟨_, SqT.of hq⟩, fun D nD => lc_tupF (fun _ => some (.bl true)) hq nD (by rw [List.length_map]; exact Nat.le_trans hl (by decide)) ?_ ?_⟩
    · intro i x H' N M hx s1 kN kM
      obtain ⟨z, rfl⟩ : ∃ z, x = V.int z := by
        rw [List.getElem?_map] at hx
        cases e : r[i]? with
        | none => rw [e] at hx; cases hx
        | some z => rw [e] at hx; exact ⟨z, (Option.some.inj hx).symm⟩
      tm_at "w"
      exact kN _ _ rfl (Same.refl H')
    · intro H' s1 hD
      rw [all_true] at hD
      tm_at "w"
      refine ⟨_, _, rfl, SqL.of hD, ?_⟩
      rw [all_id]
      exact k _ s1
/-! has_form -/
def sp_has_form (K : PySem.W.Frag) : Sp := fun vs H Q _ => ∃ (a : Addr) (S : List Tr), vs = [.ref a] ∧ SchAt H a S ∧ (∀ e ∈ S, 0 ≤ e.1 ∧ e.2.2.length ≤ 1000) ∧ S.length ≤ 1000 ∧ ∀ H', Same H H' → Q (.bl true) H'
theorem sc_has_form : FnScope ["thing", "item"] ["thing"] (defScope s_has_form) := ⟨rfl, rfl, rfl, by decide +kernel, rfl, by decide +kernel, by decide +kernel⟩
theorem ok_has_form (T : Top K mg) : FnOk P w K mg base CX0 3 T.f_has_form T.fd_has_form ["thing"] (sp_has_form K) := by
  have G_is_given := ok_is_given (P := P) (w := w) (base := base) T
  refine T.F_has_form.ok sc_has_form (fun vs H Q E h => ?_) (fun cdv A outer s H vs Q E hr h => ?_)
  · obtain ⟨a, S, rfl, _⟩ := h
    rfl
  · obtain ⟨a, S, rfl, ⟨vs, ha, hl, hv⟩, h0, hn, k⟩ := h
    refine ⟨_, (pss_one (ps_ret (pe_and (pe_callB call_isi (by rfl) T.z_isinstance (by decide +kernel) (pa_cons (pv 0) (pa_cons (pe_bltn (v := .ty "tuple") (u := .type "tuple") (by rfl) T.z_tuple (by decide +kernel) rfl) pa_nil))) (pe_one (pe_callB (cr_all rfl) (by rfl) T.z_all (by decide +kernel) (pa_cons (pe_lc (own := [("item", 1)]) (g := gName 1) (tt := tYes) rfl sc_has_form.nd (pi_tup (pv 0)) (blkOk_by (own := [("item", 1)]) (N := ["thing", "item"]) (sc := defScope s_has_form) (by decide +kernel)) (fun _ _ _ _ _ => (pg_name (i := 1) sc_has_form.nd rfl (Or.inl rfl))) (fun _ _ _ _ _ => pts_nil) (fun _ _ _ _ _ => (pe_call G_is_given hr (by rfl) T.g_is_given T.F_is_given.kp T.b_is_given .nil pass0 (pa_cons (pv 1) pa_nil)))) pa_nil)))))), ?_⟩
    have ht := ty_tup (K := K) ha
    have h2 := tup_tup (K := K)
    tm_at "w"
    refine ⟨⟨_, SqT.of ha⟩, fun D nD => lc_tupF (fun _ => some (.bl true)) ha nD (by omega) ?_ ?_⟩
    · intro i x H' N M hx s1 kN kM
      have il : i < S.length := by
        have q := (List.getElem?_eq_some_iff.mp hx).1
        omega
      obtain ⟨v, hv1, p, q, rfl, hp, hq⟩ := hv i _ (List.getElem?_eq_getElem il)
      have ev : x = .ref p := Option.some.inj (hx.symm.trans hv1)
      subst ev
      have hm := h0 _ (List.getElem_mem il)
      tm_at "w"
      refine ⟨_, _, rfl, ⟨p, q, rfl, by tm_at "hp", by tm_at "hp"⟩, hm.1, hm.2, fun H2 s2 => kN _ _ rfl s2⟩
    · intro H' s1 hD
      rw [all_true] at hD
      tm_at "w"
      refine ⟨_, _, rfl, SqL.of hD, ?_⟩
      rw [all_id]
      exact k _ s1
/-! check_scheme -/
def sp_check_scheme (K : PySem.W.Frag) : Sp := fun vs H Q _ => ∃ (a : Addr) (S : List Tr), vs = [.ref a] ∧ SchAt H a S ∧ (∀ e ∈ S, 0 ≤ e.1 ∧ e.2.2.length ≤ 1000) ∧ S.length ≤ 1000 ∧ ∀ H', Same H H' → Q .non H'
theorem sc_check_scheme : FnScope ["thing"] ["thing"] (defScope s_check_scheme) := ⟨rfl, rfl, rfl, by decide +kernel, rfl, by decide +kernel, by decide +kernel⟩
theorem ok_check_scheme (T : Top K mg) : FnOk P w K mg base CX0 4 T.f_check_scheme T.fd_check_scheme ["thing"] (sp_check_scheme K) := by
  have G_has_form := ok_has_form (P := P) (w := w) (base := base) T
  refine T.F_check_scheme.ok sc_check_scheme (fun vs H Q E h => ?_) (fun cdv A outer s H vs Q E hr h => ?_)
  · obtain ⟨a, S, rfl, _⟩ := h
    rfl
  · obtain ⟨a, S, rfl, hS, h0, hn, k⟩ := h
    refine ⟨_, (pss_one (ps_if (pt_not (pt_val (pe_call G_has_form hr (by rfl) T.g_has_form T.F_has_form.kp T.b_has_form .nil pass0 (pa_cons (pv 0) pa_nil)))) (pss_one ps_never) pss_nil)), ?_⟩
    refine ⟨_, rfl, a, S, rfl, hS, h0, hn, fun H' s => ?_⟩
    tm_at "w"
    exact k _ s
/-! told -/
theorem at_map {r : List Int} {i : Int} (h0 : 0 ≤ i) (h : i < (r.length : Int)) : atI (r.map V.int) i = some (.int (r.getD i.toNat 0)) := by
  have hj : i.toNat < r.length := by omega
  refine at_of (j := i.toNat) (by omega) ?_
  rw [List.getElem?_map, List.getElem?_eq_getElem hj, List.getD_eq_getElem?_getD, List.getElem?_eq_getElem hj]
  rfl
def sp_told (K : PySem.W.Frag) : Sp := fun vs H Q _ => ∃ (a : Addr) (S : List Tr) (x p : Nat) (ex ep : Tr), vs = [.ref a, .int x, .int p] ∧ SchAt H a S ∧ S[x]? = some ex ∧ S[p]? = some ep ∧ 0 ≤ ep.1 ∧ Q (.bl (saysB ex ep)) H
theorem sc_told : FnScope ["scheme", "x", "p", "entries", "slot", "number", "row"] ["scheme", "x", "p"] (defScope s_told) := ⟨rfl, rfl, rfl, by decide +kernel, rfl, by decide +kernel, by decide +kernel⟩
theorem ok_told (T : Top K mg) : FnOk P w K mg base CX0 1 T.f_told T.fd_told ["scheme", "x", "p"] (sp_told K) := by
  refine T.F_told.ok sc_told (fun vs H Q E h => ?_) (fun cdv A outer s H vs Q E hr h => ?_)
  · obtain ⟨a, S, x, p, ex, ep, rfl, _⟩ := h
    rfl
  · obtain ⟨a, S, x, p, ⟨s1, n1, r1⟩, ⟨s2, n2, r2⟩, rfl, hS, hx, hp, h0, k⟩ := h
    obtain ⟨vs, px, qx, ha, hl, hvx, hpx, hqx⟩ := hS.at hx
    obtain ⟨vs', pp, qp, ha', hl', hvp, hpp, hqp⟩ := hS.at hp
    have ev : vs = vs' := HO.tup.inj (Option.some.inj (ha.symm.trans ha'))
    subst ev
    refine ⟨_, (pss_cons (ps_asg (pe_ix ix_tup (pv 0) (pv 2) (fun _ _ => rfl)) (pg_tup rfl (pgs_cons (pg_name (i := 4) sc_told.nd rfl (Or.inl rfl)) (pgs_cons (pg_name (i := 5) sc_told.nd rfl (Or.inl rfl)) (pgs_cons (pg_name (i := 6) sc_told.nd rfl (Or.inl rfl)) pgs_nil)))))
      (pss_cons (ps_set (i := 3) sc_told.nd rfl (Or.inl rfl) (pe_ix ix_tup (pe_ix ix_tup (pv 0) (pv 1) (fun _ _ => rfl)) pe_int (fun _ _ => rfl)))
      (pss_one (ps_ret (pe_and (pe_cmpR op_lt (pv 4) (pe_callB call_len_seq (by rfl) T.z_len (by decide +kernel) (pa_cons (pv 3) pa_nil)) (nomark _)) (pe_one (pe_cmpR op_ge (pe_ix ix_tup (pv 3) (pv 4) (fun _ _ => rfl)) (pv 5) (nomark _)))))))), ?_⟩
    tm_at "w"
    refine iteD (fun h1 => ?_) (fun h1 => ?_)
    · rw [List.length_map] at h1
      tm_at "w"
      refine ⟨_, _, _, _, rfl, rfl, by tm_at "sqt", at_map h0 h1, ?_⟩
      tm_at "w"
      have e : saysB (s1, n1, r1) (s2, n2, r2) = decide (n2 ≤ r1.getD s2.toNat 0) := by
        show (decide (s2 < (r1.length : Int)) && decide (n2 ≤ r1.getD s2.toNat 0)) = _
        rw [decide_eq_true h1, Bool.true_and]
      rw [e] at k
      exact k
    · rw [List.length_map] at h1
      have e : saysB (s1, n1, r1) (s2, n2, r2) = false := by
        show (decide (s2 < (r1.length : Int)) && decide (n2 ≤ r1.getD s2.toNat 0)) = _
        rw [decide_eq_false h1, Bool.false_and]
      rw [e] at k
      exact k
/-! says -/
def sp_says (K : PySem.W.Frag) : Sp := fun vs H Q _ => ∃ (a : Addr) (S : List Tr) (x p : Nat) (ex ep : Tr), vs = [.ref a, .int x, .int p] ∧ SchAt H a S ∧ (∀ e ∈ S, 0 ≤ e.1 ∧ e.2.2.length ≤ 1000) ∧ S.length ≤ 1000 ∧ S[x]? = some ex ∧ S[p]? = some ep ∧ ∀ H', Same H H' → Q (.bl (saysB ex ep)) H'
theorem sc_says : FnScope ["scheme", "x", "p"] ["scheme", "x", "p"] (defScope s_says) := ⟨rfl, rfl, rfl, by decide +kernel, rfl, by decide +kernel, by decide +kernel⟩
theorem ok_says (T : Top K mg) : FnOk P w K mg base CX0 5 T.f_says T.fd_says ["scheme", "x", "p"] (sp_says K) := by
  have G_check_kind_of := ok_check_kind_of (P := P) (w := w) (base := base) T
  have G_check_scheme := ok_check_scheme (P := P) (w := w) (base := base) T
  have G_told := ok_told (P := P) (w := w) (base := base) T
  refine T.F_says.ok sc_says (fun vs H Q E h => ?_) (fun cdv A outer s H vs Q E hr h => ?_)
  · obtain ⟨a, S, x, p, ex, ep, rfl, _⟩ := h
    rfl
  · obtain ⟨a, S, x, p, ex, ep, rfl, hS, h0, hn, hx, hp, k⟩ := h
    refine ⟨_, (pss_cons (ps_expr (pe_call G_check_scheme hr (by rfl) T.g_check_scheme T.F_check_scheme.kp T.b_check_scheme .nil pass0 (pa_cons (pv 0) pa_nil)))
      (pss_cons (ps_expr (pe_call G_check_kind_of (hr.mono (by decide)) (by rfl) T.g_check_kind_of T.F_check_kind_of.kp T.b_check_kind_of .nil pass0 (pa_cons (pv 1) (pa_cons (pe_callB call_len_seq (by rfl) T.z_len (by decide +kernel) (pa_cons (pv 0) pa_nil)) pa_nil))))
      (pss_cons (ps_expr (pe_call G_check_kind_of (hr.mono (by decide)) (by rfl) T.g_check_kind_of T.F_check_kind_of.kp T.b_check_kind_of .nil pass0 (pa_cons (pv 2) (pa_cons (pe_callB call_len_seq (by rfl) T.z_len (by decide +kernel) (pa_cons (pv 0) pa_nil)) pa_nil))))
      (pss_one (ps_ret (pe_call G_told (hr.mono (by decide)) (by rfl) T.g_told T.F_told.kp T.b_told .nil pass0 (pa_cons (pv 0) (pa_cons (pv 1) (pa_cons (pv 2) pa_nil))))))))), ?_⟩
    have lx := (List.getElem?_eq_some_iff.mp hx).1
    have lp := (List.getElem?_eq_some_iff.mp hp).1
    have mp : ep ∈ S := List.mem_of_getElem? hp
    refine ⟨_, rfl, a, S, rfl, hS, h0, hn, fun H1 s1 => ?_⟩
    obtain ⟨vs, ha, hl, _⟩ := hS.tk (Same.tk s1)
    tm_at "w"
    refine ⟨_, _, rfl, by omega, by omega, ?_⟩
    tm_at "w"
    refine ⟨_, _, rfl, by omega, by omega, ?_⟩
    tm_at "w"
    exact ⟨a, S, x, p, ex, ep, rfl, hS.tk (Same.tk s1), hx, hp, (h0 _ mp).1, k _ s1⟩
/-! _law_tape -/
def sp__law_tape (K : PySem.W.Frag) : Sp := fun vs H Q _ => ∃ (a : Addr) (ns : List Int), vs = [.ref a] ∧ SqL K H a (ns.map V.int) ∧ ∀ (τ : Tp) (H' : Hp), τ.ns = ns → Same H H' → H τ.t = none → Tape τ H' → Q (.ref τ.t) H'
theorem sc__law_tape : FnScope ["_law_script"] ["_law_script"] (defScope s__law_tape) := ⟨rfl, rfl, rfl, by decide +kernel, rfl, by decide +kernel, by decide +kernel⟩
theorem ok__law_tape (T : Top K mg) : FnOk P w K mg base CX0 1 T.f__law_tape T.fd__law_tape ["_law_script"] (sp__law_tape K) := by
  refine T.F__law_tape.ok sc__law_tape (fun vs H Q E h => ?_) (fun cdv A outer s H vs Q E hr h => ?_)
  · obtain ⟨a, ns, rfl, _⟩ := h
    rfl
  · obtain ⟨a, ns, rfl, hS, k⟩ := h
    refine ⟨_, (pss_one (ps_ret (pe_lst (pa_cons (pe_callTy call_list_of (by rfl) T.z_list (by decide +kernel) (pa_cons (pv 0) pa_nil)) (pa_cons pe_int (pa_cons pe_int (pa_cons pe_int (pa_cons pe_int pa_nil)))))))), ?_⟩
    refine ⟨_, rfl, a, _, rfl, .inl hS, fun l nl => ⟨by show 5 ≤ sizeLine; decide, fun t nt => ?_⟩⟩
    have wt : Nw _ t := ⟨nt⟩
    have ntl : l ≠ t := ne_of_none upd_same nt
    have s1 : Same H (upd H l (.lst (ns.map V.int))) := Same.new (Same.refl H) nl
    exact k ⟨t, l, ns⟩ _ rfl (Same.new s1 nt) (s1.free nt) ⟨by tm_at "hp", ntl, 0, 0, 1, 0, upd_same, by decide⟩
/-! _law_pick -/
def sp__law_pick (K : PySem.W.Frag) : Sp := fun vs H Q _ => ∃ (τ : Tp) (m : Int), vs = [.ref τ.t, .int m] ∧ Tape τ H ∧ 0 < m ∧ m < 1073741824 ∧ ∀ (r : Int) (H' : Hp), Mv τ H H' → 0 ≤ r → r < m → Q (.int r) H'
theorem sc__law_pick : FnScope ["_law_tape_here", "_law_many", "_law_cell", "_law_mixed", "_law_digit"] ["_law_tape_here", "_law_many"] (defScope s__law_pick) := ⟨rfl, rfl, rfl, by decide +kernel, rfl, by decide +kernel, by decide +kernel⟩
theorem ok__law_pick (T : Top K mg) : FnOk P w K mg base CX0 1 T.f__law_pick T.fd__law_pick ["_law_tape_here", "_law_many"] (sp__law_pick K) := by
  refine T.F__law_pick.ok sc__law_pick (fun vs H Q E h => ?_) (fun cdv A outer s H vs Q E hr h => ?_)
  · obtain ⟨τ, m, rfl, _⟩ := h
    rfl
  · obtain ⟨τ, m, rfl, m0, hm, hm2, k⟩ := h
    refine ⟨_, (pss_cons (ps_if (pt_cmpR op_gt (pe_ix ix_list (pv 0) pe_int (fun _ _ => rfl)) pe_int (nomark _)) (pss_cons (ps_set (i := 4) sc__law_pick.nd rfl (Or.inl rfl) (pe_op op_modN (pe_callTy call_int1 (by rfl) T.z_int (by decide +kernel) (pa_cons (pe_ix ix_list (pv 0) pe_int (fun _ _ => rfl)) pa_nil)) (pv 1)))
      (pss_cons (ps_asg (pe_op op_fdivN (pe_ix ix_list (pv 0) pe_int (fun _ _ => rfl)) (pv 1)) (pg_sub (pv 0) pe_int set_list))
      (pss_one (ps_ret (pv 4))))) pss_nil)
      (pss_cons (ps_asg (pe_op op_add (pe_ix ix_list (pv 0) pe_int (fun _ _ => rfl)) pe_int) (pg_sub (pv 0) pe_int set_list))
      (pss_cons (ps_set (i := 2) sc__law_pick.nd rfl (Or.inl rfl) pe_int)
      (C8.pss_cut (ps_if (pt_cmpR op_lt (pe_ix ix_list (pv 0) pe_int (fun _ _ => rfl)) (pe_callB call_len_seq (by rfl) T.z_len (by decide +kernel) (pa_cons (pe_ix ix_list (pv 0) pe_int (fun _ _ => rfl)) pa_nil)) (nomark _)) (pss_cons (ps_set (i := 2) sc__law_pick.nd rfl (Or.inl rfl) (pe_ix ix_list (pe_ix ix_list (pv 0) pe_int (fun _ _ => rfl)) (pe_ix ix_list (pv 0) pe_int (fun _ _ => rfl)) (fun _ _ => rfl)))
      (pss_one (ps_asg (pe_op op_add (pe_ix ix_list (pv 0) pe_int (fun _ _ => rfl)) pe_int) (pg_sub (pv 0) pe_int set_list)))) pss_nil)
      (pss_cons (ps_if (pt_cmpR op_ge (pv 2) (pe_op op_pow pe_int pe_int) (nomark _)) (pss_cons (ps_asg (pe_op op_fdivN (pv 2) (pv 1)) (pg_sub (pv 0) pe_int set_list))
      (pss_one (ps_ret (pe_op op_modN (pe_callTy call_int1 (by rfl) T.z_int (by decide +kernel) (pa_cons (pv 2) pa_nil)) (pv 1))))) pss_nil)
      (pss_cons (ps_set (i := 3) sc__law_pick.nd rfl (Or.inl rfl) (pe_op op_modN (pe_callTy call_int1 (by rfl) T.z_int (by decide +kernel) (pa_cons (pe_op op_add (pe_op op_add (pe_op op_mul (pe_ix ix_list (pv 0) pe_int (fun _ _ => rfl)) pe_int) (pe_op op_modN (pe_callTy call_int1 (by rfl) T.z_int (by decide +kernel) (pa_cons (pv 2) pa_nil)) pe_int)) (pe_op op_mul (pe_ix ix_list (pv 0) pe_int (fun _ _ => rfl)) pe_int)) pa_nil)) pe_int))
      (pss_cons (ps_set (i := 3) sc__law_pick.nd rfl (Or.inl rfl) (pe_op op_modN (pe_callTy call_int1 (by rfl) T.z_int (by decide +kernel) (pa_cons (pe_op op_mul (pv 3) (pe_op op_add (pe_op op_fdivN (pv 3) pe_int) pe_int)) pa_nil)) pe_int))
      (pss_cons (ps_asg (pv 3) (pg_sub (pv 0) pe_int set_list))
      (pss_one (ps_ret (pe_op op_modN (pe_callTy call_int1 (by rfl) T.z_int (by decide +kernel) (pa_cons (pe_op op_fdivN (pv 3) pe_int) pa_nil)) (pv 1)))))))))))), ?_⟩
    obtain ⟨hl, nlt, i, c, s, n, ht, hi⟩ := id m0
    tm_at "w"
    refine iteD (fun hc => ?_) (fun hc => ?_)
    · tm_at "w"
      exact k _ _ (m0.mv.put rfl hi) (fmod_in hm).1 (fmod_in hm).2
    · tm_at "w"
      refine ⟨fun σ H' => ∃ v : Int, σ = [some (.ref τ.t), some (.int m), some (.int v), none, none] ∧ Mv τ H H', ?_, ?_⟩
      · tm_at "w"
        refine iteD (fun hc => ?_) (fun hc => ?_)
        · tm_at "w"
          obtain ⟨v, hv⟩ := at_ints hi hc
          refine ⟨_, _, _, _, rfl, rfl, by tm_at "sq", hv, ?_⟩
          tm_at "w"
          exact (m0.mv.put rfl hi).put rfl (by omega)
        · exact ⟨_, rfl, m0.mv.put rfl hi⟩
      · rintro σ H' ⟨v, rfl, m1⟩
        obtain ⟨hl, nlt, i, c, s, n, ht, hi⟩ := m1.now
        tm_at "w"
        refine iteD (fun hc => ?_) (fun hc => ?_)
        · tm_at "w"
          exact k _ _ (m1.put rfl hi) (fmod_in hm).1 (fmod_in hm).2
        · tm_at "w"
          exact k _ _ (m1.put rfl hi) (fmod_in hm).1 (fmod_in hm).2
/-! _law_great -/
def sp__law_great (K : PySem.W.Frag) : Sp := fun vs H Q _ => ∃ (τ : Tp), vs = [.ref τ.t] ∧ Tape τ H ∧ ∀ (r : Int) (H' : Hp), Mv τ H H' → Q (.int r) H'
theorem sc__law_great : FnScope ["_law_tape_here", "_law_found", "_law_again"] ["_law_tape_here"] (defScope s__law_great) := ⟨rfl, rfl, rfl, by decide +kernel, rfl, by decide +kernel, by decide +kernel⟩
theorem ok__law_great (T : Top K mg) : FnOk P w K mg base CX0 2 T.f__law_great T.fd__law_great ["_law_tape_here"] (sp__law_great K) := by
  have G__law_pick := ok__law_pick (P := P) (w := w) (base := base) T
  refine T.F__law_great.ok sc__law_great (fun vs H Q E h => ?_) (fun cdv A outer s H vs Q E hr h => ?_)
  · obtain ⟨τ, rfl, _⟩ := h
    rfl
  · obtain ⟨τ, rfl, m0, k⟩ := h
    refine ⟨_, (pss_cons (ps_if (pt_cmpR op_gt (pe_call G__law_pick hr (by rfl) T.g__law_pick T.F__law_pick.kp T.b__law_pick .nil pass0 (pa_cons (pv 0) (pa_cons pe_int pa_nil))) pe_int (nomark _)) (pss_one (ps_ret (pe_op op_sub (pe_call G__law_pick hr (by rfl) T.g__law_pick T.F__law_pick.kp T.b__law_pick .nil pass0 (pa_cons (pv 0) (pa_cons pe_int pa_nil))) pe_int))) pss_nil)
      (pss_cons (ps_set (i := 1) sc__law_great.nd rfl (Or.inl rfl) pe_int)
      (pss_cons (ps_for PassesOwn.never rfl (pi_range1 rfl T.z_range (pa_cons (pe_op op_add pe_int (pe_call G__law_pick hr (by rfl) T.g__law_pick T.F__law_pick.kp T.b__law_pick .nil pass0 (pa_cons (pv 0) (pa_cons pe_int pa_nil)))) pa_nil)) (pg_name (i := 2) sc__law_great.nd rfl (Or.inl rfl))
      (pss_one (ps_set (i := 1) sc__law_great.nd rfl (Or.inl rfl) (pe_op op_add (pe_op op_mul (pv 1) (pe_op op_pow pe_int pe_int)) (pe_call G__law_pick hr (by rfl) T.g__law_pick T.F__law_pick.kp T.b__law_pick .nil pass0 (pa_cons (pv 0) (pa_cons (pe_op op_pow pe_int pe_int) pa_nil)))))))
      (pss_one (ps_ret (pe_op op_mul (pv 1) (pe_op op_sub pe_int (pe_op op_mul pe_int (pe_call G__law_pick hr (by rfl) T.g__law_pick T.F__law_pick.kp T.b__law_pick .nil pass0 (pa_cons (pv 0) (pa_cons pe_int pa_nil))))))))))), ?_⟩
    tm_at "w"
    refine ⟨τ, _, rfl, m0, by decide, by decide, fun r1 H1 m1 r0 r2 => ?_⟩
    tm_at "w"
    refine iteD (fun h1 => ?_) (fun h1 => ?_)
    · tm_at "w"
      refine ⟨τ, _, rfl, m1.now, by decide, by decide, fun r3 H2 m2 _ _ => ?_⟩
      tm_at "w"
      exact k _ _ (m1.trans m2)
    · tm_at "w"
      refine ⟨τ, _, rfl, m1.now, by decide, by decide, fun r3 H2 m2 _ _ => ?_⟩
      tm_at "w"
      refine for_range (lo := 0) (n := (1 + r3).toNat) (fun i σ H' => ∃ (f : Int) (v : Option V), σ = [some (.ref τ.t), some (.int f), v] ∧ Mv τ H H') ⟨0, none, rfl, m1.trans m2⟩ ?_ ?_
      · rintro i σ H' hi ⟨f, v, rfl, m⟩
        tm_at "w"
        refine ⟨τ, _, rfl, m.now, by decide, by decide, fun r4 H3 m3 _ _ => ?_⟩
        tm_at "w"
        exact ⟨_, _, rfl, m.trans m3⟩
      · rintro σ H' ⟨f, v, rfl, m⟩
        tm_at "w"
        refine ⟨τ, _, rfl, m.now, by decide, by decide, fun r4 H3 m3 _ _ => ?_⟩
        tm_at "w"
        exact k _ _ (m.trans m3)
/-! _law_scheme -/
/-- an item of a list is a whole number -/
def IsI (v : V) : Prop := ∃ i : Int, v = .int i
theorem ints_of {xs : List V} (h : ∀ v ∈ xs, IsI v) : ∃ ns : List Int, xs = ns.map V.int := by
  induction xs with
  | nil => exact ⟨[], rfl⟩
  | cons x r ih =>
    obtain ⟨ns, e⟩ := ih fun v hv => h v (List.mem_cons_of_mem _ hv)
    obtain ⟨i, ei⟩ := h x List.mem_cons_self
    exact ⟨i :: ns, by rw [ei, e]; rfl⟩
theorem mem_app {P : V → Prop} {xs : List V} {y : V} (h : ∀ v ∈ xs, P v) (hy : P y) : ∀ v ∈ xs ++ [y], P v := fun v hv => by
  rcases List.mem_append.mp hv with hv | hv
  · exact h v hv
  · rw [List.mem_singleton.mp hv]
    exact hy
theorem len_app {xs : List V} {y : V} {n : Nat} (h : xs.length = n) : (xs ++ [y]).length = n + 1 := by
  rw [List.length_append, h]
  rfl
def sp__law_scheme (K : PySem.W.Frag) : Sp := fun vs H Q _ => ∃ (τ : Tp) (n : Nat), vs = [.ref τ.t, .int n] ∧ Tape τ H ∧ n ≤ 60 ∧ ∀ (a : Addr) (S : List Tr) (H' : Hp), Mv τ H H' → SchAt H' a S → S.length = n → (∀ e ∈ S, Good e) → Q (.ref a) H'
theorem sc__law_scheme : FnScope ["_law_tape_here", "_law_many", "_law_numbers", "_law_found", "_law_number", "_law_slot", "_law_row", "_law_again"] ["_law_tape_here", "_law_many"] (defScope s__law_scheme) := ⟨rfl, rfl, rfl, by decide +kernel, rfl, by decide +kernel, by decide +kernel⟩
theorem ok__law_scheme (T : Top K mg) : FnOk P w K mg base CX0 3 T.f__law_scheme T.fd__law_scheme ["_law_tape_here", "_law_many"] (sp__law_scheme K) := by
  have G__law_great := ok__law_great (P := P) (w := w) (base := base) T
  have G__law_pick := ok__law_pick (P := P) (w := w) (base := base) T
  refine T.F__law_scheme.ok sc__law_scheme (fun vs H Q E h => ?_) (fun cdv A outer s H vs Q E hr h => ?_)
  · obtain ⟨τ, n, rfl, _⟩ := h
    rfl
  · obtain ⟨τ, n, rfl, m0, hn, k⟩ := h
    refine ⟨_, (pss_cons (ps_setLc (i := 2) (own := [("_law_again", 7)]) (g := gName 7) (tt := tYes) rfl sc__law_scheme.nd rfl rfl (sw_true rfl rfl rfl (by decide +kernel)) (pi_range1 rfl T.z_range (pa_cons (pv 1) pa_nil)) (blkOk_by (own := [("_law_again", 7)]) (N := ["_law_tape_here", "_law_many", "_law_numbers", "_law_found", "_law_number", "_law_slot", "_law_row", "_law_again"]) (sc := defScope s__law_scheme) (by decide +kernel)) (fun _ _ _ _ _ => (pg_name (i := 7) sc__law_scheme.nd rfl (Or.inl rfl))) (fun _ _ _ _ _ => pts_nil) (fun _ _ _ _ _ => (pe_call G__law_great hr (by rfl) T.g__law_great T.F__law_great.kp T.b__law_great .nil pass0 (pa_cons (pv 0) pa_nil))))
      (pss_cons (ps_set (i := 3) sc__law_scheme.nd rfl (Or.inl rfl) (pe_lst pa_nil))
      (pss_cons (ps_for PassesOwn.never rfl (pi_list (pv 2)) (pg_name (i := 4) sc__law_scheme.nd rfl (Or.inl rfl))
      (pss_cons (ps_set (i := 5) sc__law_scheme.nd rfl (Or.inl rfl) (pe_call G__law_pick (hr.mono (by decide)) (by rfl) T.g__law_pick T.F__law_pick.kp T.b__law_pick .nil pass0 (pa_cons (pv 0) (pa_cons pe_int pa_nil))))
      (C8.pss_cut (ps_if (pt_cmpR op_eq (pe_call G__law_pick (hr.mono (by decide)) (by rfl) T.g__law_pick T.F__law_pick.kp T.b__law_pick .nil pass0 (pa_cons (pv 0) (pa_cons pe_int pa_nil))) pe_int (nomark _)) (pss_one (ps_set (i := 5) sc__law_scheme.nd rfl (Or.inl rfl) (pe_callB call_abs (by rfl) T.z_abs (by decide +kernel) (pa_cons (pe_call G__law_great hr (by rfl) T.g__law_great T.F__law_great.kp T.b__law_great .nil pass0 (pa_cons (pv 0) pa_nil)) pa_nil)))) pss_nil)
      (pss_cons (ps_set (i := 6) sc__law_scheme.nd rfl (Or.inl rfl) (pe_lst pa_nil))
      (pss_cons (ps_for PassesOwn.never rfl (pi_range1 rfl T.z_range (pa_cons (pe_call G__law_pick (hr.mono (by decide)) (by rfl) T.g__law_pick T.F__law_pick.kp T.b__law_pick .nil pass0 (pa_cons (pv 0) (pa_cons pe_int pa_nil))) pa_nil)) (pg_name (i := 7) sc__law_scheme.nd rfl (Or.inl rfl))
      (pss_one (ps_expr (pe_bm PySem.F.plainAttrs_list PySem.F.slot_list_append PySem.F.type_list_append mt_append (pv 6) (pa_cons (pe_op op_sub (pe_op op_add (pe_ix ix_list (pv 2) (pe_call G__law_pick (hr.mono (by decide)) (by rfl) T.g__law_pick T.F__law_pick.kp T.b__law_pick .nil pass0 (pa_cons (pv 0) (pa_cons (pv 1) pa_nil))) (fun _ _ => rfl)) (pe_call G__law_pick (hr.mono (by decide)) (by rfl) T.g__law_pick T.F__law_pick.kp T.b__law_pick .nil pass0 (pa_cons (pv 0) (pa_cons pe_int pa_nil)))) pe_int) pa_nil)))))
      (pss_one (ps_expr (pe_bm PySem.F.plainAttrs_list PySem.F.slot_list_append PySem.F.type_list_append mt_append (pv 3) (pa_cons (pe_tup (pa_cons (pv 5) (pa_cons (pv 4) (pa_cons (pe_callTy call_tuple_of (by rfl) T.z_tuple (by decide +kernel) (pa_cons (pv 6) pa_nil)) pa_nil)))) pa_nil)))))))))
      (pss_one (ps_ret (pe_callTy call_tuple_of (by rfl) T.z_tuple (by decide +kernel) (pa_cons (pv 3) pa_nil))))))), ?_⟩
    tm_at "w"
    intro D nD
    refine lc_rangeM (τ := τ) (fun _ v _ => IsI v) (fun _ _ _ _ h _ => h) m0 nD (by omega) ?_ ?_
    · intro i H' N M hi m kN
      tm_at "w"
      refine ⟨m.now, fun r H2 m2 => kN _ _ m2 ⟨r, rfl⟩⟩
    · intro H1 acc m1 hD hlen hI
      obtain ⟨ns, rfl⟩ := ints_of fun v hv => by
        obtain ⟨j, hj, e⟩ := List.mem_iff_getElem.mp hv
        exact hI j v (by rw [List.getElem?_eq_getElem hj, e])
      rw [List.length_map] at hlen
      tm_at "w"
      intro F nF
      have nFt := m1.neN nF
      have nFD : F ≠ D := (ne_of_none hD nF).symm
      have nDt := m0.mv.neN nD
      tm_at "w"
      refine ⟨⟨_, SqL.of (by tm_at "hp")⟩, for_list (K := K) (a := D) (xs := ns.map V.int) (fun i σ H' => ∃ (v4 v5 v6 v7 : Option V) (vs : List V), σ = [some (.ref τ.t), some (.int n), some (.ref D), some (.ref F), v4, v5, v6, v7] ∧ Mv τ H H' ∧ H' D = some (.lst (ns.map V.int)) ∧ H' F = some (.lst vs) ∧ vs.length = i ∧ ∀ v ∈ vs, GoodT v H') ?_ ?_ ?_ ?_⟩
      · exact ⟨none, none, none, none, [], rfl, m1.mut (m1.free nF), by tm_at "hp", upd_same, rfl, fun v hv => by cases hv⟩
      · rintro i σ H' _ ⟨_, _, _, _, _, _, _, h, _⟩
        exact SqL.of h
      · rintro i x σ H2 hx ⟨v4, v5, v6, v7, vs, rfl, m2, hD2, hF2, hlen2, hG⟩
        have il : i < ns.length := by
          have q := (List.getElem?_eq_some_iff.mp hx).1
          rw [List.length_map] at q
          exact q
        obtain ⟨z, rfl⟩ : IsI x := by
          rw [List.getElem?_map, List.getElem?_eq_getElem il] at hx
          exact ⟨_, (Option.some.inj hx).symm⟩
        tm_at "w"
        refine ⟨τ, _, rfl, m2.now, by decide, by decide, fun r3 H3 m3 h3 h3' => ?_⟩
        tm_at "w"
        refine ⟨fun σ H' => ∃ sl : Int, σ = [some (.ref τ.t), some (.int n), some (.ref D), some (.ref F), some (.int z), some (.int sl), v6, v7] ∧ Mv τ H3 H' ∧ 0 ≤ sl, ?_, ?_⟩
        · tm_at "w"
          refine ⟨τ, _, rfl, m3.now, by decide, by decide, fun r4 H4 m4 _ _ => ?_⟩
          tm_at "w"
          refine iteI (fun _ => ?_) (fun _ => ?_)
          · tm_at "w"
            refine ⟨m4.now, fun r5 H5 m5 => ?_⟩
            tm_at "w"
            exact ⟨m4.trans m5, by split <;> omega⟩
          · exact ⟨_, rfl, m4, h3⟩
        · rintro σ H4 ⟨sl, rfl, m4, hsl⟩
          tm_at "w"
          intro R nR
          have nRt := m4.neN nR
          tm_at "w"
          refine ⟨τ, _, rfl, (m4.new nR).now, by decide, by decide, fun r6 H6 m6 h6 h6' => ?_⟩
          tm_at "w"
          refine for_range (lo := 0) (n := r6.toNat) (fun i σ H' => ∃ (v7 : Option V) (rs : List V), σ = [some (.ref τ.t), some (.int n), some (.ref D), some (.ref F), some (.int z), some (.int sl), some (.ref R), v7] ∧ Mv τ H4 H' ∧ H' R = some (.lst rs) ∧ rs.length = i ∧ ∀ v ∈ rs, IsI v) ?_ ?_ ?_
          · exact ⟨v7, [], rfl, (m4.now.mv.new nR).trans m6, by tm_at "hp", rfl, fun v hv => by cases hv⟩
          · rintro i' σ H7 hi' ⟨v7, rs, rfl, m7, hR7, hl7, hI7⟩
            tm_at "w"
            refine ⟨τ, _, rfl, m7.now, by omega, by omega, fun r8 H8 m8 h8 h8' => ?_⟩
            obtain ⟨v, hv⟩ := at_ints (ns := ns) (i := r8) h8 (by rw [List.length_map]; omega)
            refine ⟨_, _, _, _, rfl, rfl, by tm_at "sq", hv, ?_⟩
            tm_at "w"
            refine ⟨τ, _, rfl, m8.now, by decide, by decide, fun r9 H9 m9 _ _ => ?_⟩
            tm_at "w"
            exact ⟨_, _, rfl, ((m7.trans m8).trans m9).mut nR, upd_same, len_app hl7, mem_app hI7 ⟨_, rfl⟩⟩
          · rintro σ H7 ⟨v7, rs, rfl, m7, hR7, hl7, hI7⟩
            obtain ⟨row, rfl⟩ := ints_of hI7
            rw [List.length_map] at hl7
            have hF7 : H7 F = some (.lst vs) := by tm_at "hp"
            tm_at "w"
            intro q nq
            have wq : Nw _ q := ⟨nq⟩
            tm_at "w"
            intro p np
            have wp : Nw _ p := ⟨np⟩
            tm_at "w"
            have k1 : TK H2 H7 := (m3.tk.trans m4.tk).trans m7.tk
            have k2 : TK H7 (upd (upd H7 q (.tup (row.map V.int))) p (.tup [.int sl, .int z, .ref q])) := (TK.new nq).trans (TK.new np)
            have hF8 : (upd (upd H7 q (.tup (row.map V.int))) p (.tup [.int sl, .int z, .ref q])) F = some (.lst vs) := by tm_at "hp"
            refine ⟨_, _, _, _, _, rfl, ((((((m2.trans m3).trans m4).trans m7).new nq).new np).mut (m1.free nF)), by tm_at "hp", upd_same, len_app hlen2, mem_app (fun v hv => (((hG v hv).tk k1).tk k2).tk (TK.mut hF8)) ?_⟩
            have g : GoodT (.ref p) (upd (upd H7 q (.tup (row.map V.int))) p (.tup [.int sl, .int z, .ref q])) := ⟨(sl, z, row), ⟨hsl, by show row.length ≤ 1000; omega⟩, p, q, rfl, upd_same, by tm_at "hp"⟩
            exact g.tk (TK.mut hF8)
      · rintro σ H2 ⟨v4, v5, v6, v7, vs, rfl, m2, hD2, hF2, hlen2, hG⟩
        rw [List.length_map, hlen] at hlen2
        tm_at "w"
        intro a na
        obtain ⟨S, h1, h2, h3⟩ := sch_of (a := a) hG
        have kk : TK H2 (upd H2 a (.tup vs)) := TK.new na
        refine k a S _ (m2.new na) ⟨vs, upd_same, h1.symm, fun i e he => ?_⟩ (h1.trans hlen2) h2
        obtain ⟨v, hv, ht⟩ := h3 i e he
        exact ⟨v, hv, ht.tk kk⟩
/-! _law_due -/
def sp__law_due (K : PySem.W.Frag) : Sp := fun vs H Q _ => ∃ (a : Addr) (S : List Tr) (x p : Nat) (ex ep : Tr), vs = [.ref a, .int x, .int p] ∧ SchAt H a S ∧ S[x]? = some ex ∧ S[p]? = some ep ∧ 0 ≤ ep.1 ∧ Q (.bl (saysB ex ep)) H
theorem sc__law_due : FnScope ["_law_scheme_here", "_law_x", "_law_p", "_law_slot", "_law_row"] ["_law_scheme_here", "_law_x", "_law_p"] (defScope s__law_due) := ⟨rfl, rfl, rfl, by decide +kernel, rfl, by decide +kernel, by decide +kernel⟩
theorem ok__law_due (T : Top K mg) : FnOk P w K mg base CX0 1 T.f__law_due T.fd__law_due ["_law_scheme_here", "_law_x", "_law_p"] (sp__law_due K) := by
  refine T.F__law_due.ok sc__law_due (fun vs H Q E h => ?_) (fun cdv A outer s H vs Q E hr h => ?_)
  · obtain ⟨a, S, x, p, ex, ep, rfl, _⟩ := h
    rfl
  · obtain ⟨a, S, x, p, ⟨s1, n1, r1⟩, ⟨s2, n2, r2⟩, rfl, hS, hx, hp, h0, k⟩ := h
    obtain ⟨vs, px, qx, ha, hl, hvx, hpx, hqx⟩ := hS.at hx
    obtain ⟨vs', pp, qp, ha', hl', hvp, hpp, hqp⟩ := hS.at hp
    have ev : vs = vs' := HO.tup.inj (Option.some.inj (ha.symm.trans ha'))
    subst ev
    refine ⟨_, (pss_cons (ps_set (i := 3) sc__law_due.nd rfl (Or.inl rfl) (pe_ix ix_tup (pe_ix ix_tup (pv 0) (pv 2) (fun _ _ => rfl)) pe_int (fun _ _ => rfl)))
      (pss_cons (ps_set (i := 4) sc__law_due.nd rfl (Or.inl rfl) (pe_ix ix_tup (pe_ix ix_tup (pv 0) (pv 1) (fun _ _ => rfl)) pe_int (fun _ _ => rfl)))
      (pss_cons (ps_if (pt_cmpR op_ge (pv 3) (pe_callB call_len_seq (by rfl) T.z_len (by decide +kernel) (pa_cons (pv 4) pa_nil)) (nomark _)) (pss_one (ps_ret pe_bl)) pss_nil)
      (pss_one (ps_ret (pe_cmpR op_ge (pe_ix ix_tup (pv 4) (pv 3) (fun _ _ => rfl)) (pe_ix ix_tup (pe_ix ix_tup (pv 0) (pv 2) (fun _ _ => rfl)) pe_int (fun _ _ => rfl)) (nomark _))))))), ?_⟩
    tm_at "w"
    refine iteD (fun h1 => ?_) (fun h1 => ?_)
    · rw [List.length_map] at h1
      tm_at "w"
      have e : saysB (s1, n1, r1) (s2, n2, r2) = false := by
        show (decide (s2 < (r1.length : Int)) && decide (n2 ≤ r1.getD s2.toNat 0)) = _
        rw [decide_eq_false (show ¬ s2 < (r1.length : Int) from Int.not_lt.mpr h1), Bool.false_and]
      rw [e] at k
      exact k
    · rw [List.length_map] at h1
      have h1' : s2 < (r1.length : Int) := Int.not_le.mp h1
      tm_at "w"
      refine ⟨_, _, _, _, rfl, rfl, by tm_at "sqt", at_map h0 h1', ?_⟩
      tm_at "w"
      have e : saysB (s1, n1, r1) (s2, n2, r2) = decide (n2 ≤ r1.getD s2.toNat 0) := by
        show (decide (s2 < (r1.length : Int)) && decide (n2 ≤ r1.getD s2.toNat 0)) = _
        rw [decide_eq_true h1', Bool.true_and]
      rw [e] at k
      exact k
/-! _law_is_right -/
def sp__law_is_right (K : PySem.W.Frag) : Sp := fun vs H Q _ => ∃ (a : Addr) (S : List Tr) (x p : Nat), vs = [.ref a, .int x, .int p] ∧ SchAt H a S ∧ (∀ e ∈ S, Good e) ∧ S.length ≤ 1000 ∧ x < S.length ∧ p < S.length ∧ ∀ H', Same H H' → Q (.bl true) H'
theorem sc__law_is_right : FnScope ["_law_scheme_here", "_law_x", "_law_p", "_law_flag"] ["_law_scheme_here", "_law_x", "_law_p"] (defScope s__law_is_right) := ⟨rfl, rfl, rfl, by decide +kernel, rfl, by decide +kernel, by decide +kernel⟩
theorem ok__law_is_right (T : Top K mg) : FnOk P w K mg base CX0 6 T.f__law_is_right T.fd__law_is_right ["_law_scheme_here", "_law_x", "_law_p"] (sp__law_is_right K) := by
  have G__law_due := ok__law_due (P := P) (w := w) (base := base) T
  have G_says := ok_says (P := P) (w := w) (base := base) T
  refine T.F__law_is_right.ok sc__law_is_right (fun vs H Q E h => ?_) (fun cdv A outer s H vs Q E hr h => ?_)
  · obtain ⟨a, S, x, p, rfl, _⟩ := h
    rfl
  · obtain ⟨a, S, x, p, rfl, hS, hg, hn, hx, hp, k⟩ := h
    refine ⟨_, (pss_cons (ps_set (i := 3) sc__law_is_right.nd rfl (Or.inl rfl) (pe_call G_says hr (by rfl) T.g_says T.F_says.kp T.b_says .nil pass0 (pa_cons (pv 0) (pa_cons (pv 1) (pa_cons (pv 2) pa_nil)))))
      (pss_one (ps_ret (pe_and (pe_callB call_isi (by rfl) T.z_isinstance (by decide +kernel) (pa_cons (pv 3) (pa_cons (pe_bltn (v := .ty "bool") (u := .type "bool") (by rfl) T.z_bool (by decide +kernel) rfl) pa_nil))) (pe_one (pe_cmpR op_eq (pv 3) (pe_call G__law_due (hr.mono (by decide)) (by rfl) T.g__law_due T.F__law_due.kp T.b__law_due .nil pass0 (pa_cons (pv 0) (pa_cons (pv 1) (pa_cons (pv 2) pa_nil)))) (nomark _))))))), ?_⟩
    tm_at "w"
    refine ⟨a, S, x, p, _, _, rfl, hS, hg, hn, List.getElem?_eq_getElem hx, List.getElem?_eq_getElem hp, fun H1 s1 => ?_⟩
    have ht := ty_bl (K := K) (H := H1) (saysB S[x] S[p])
    have h2 := bool_bool (K := K)
    tm_at "w"
    refine ⟨a, S, x, p, _, _, rfl, hS.tk (Same.tk s1), List.getElem?_eq_getElem hx, List.getElem?_eq_getElem hp, (hg _ (List.getElem_mem hp)).1, ?_⟩
    tm_at "w"
    rw [decide_eq_true rfl]
    exact k _ s1
/-! law -/
def sp_law (K : PySem.W.Frag) : Sp := fun vs H Q _ => ∃ (a : Addr) (ns : List Int), vs = [.ref a] ∧ SqL K H a (ns.map V.int) ∧ ns.length ≤ 63 ∧ ∀ H', Q (.bl true) H'
theorem sc_law : FnScope ["_law_script", "_law_tape_here", "_law_again", "_law_many", "_law_scheme_here", "_law_turn", "_law_x", "_law_p"] ["_law_script"] (defScope s_law) := ⟨rfl, rfl, rfl, by decide +kernel, rfl, by decide +kernel, by decide +kernel⟩
theorem ok_law (T : Top K mg) : FnOk P w K mg base CX0 7 T.f_law T.fd_law ["_law_script"] (sp_law K) := by
  have G__law_is_right := ok__law_is_right (P := P) (w := w) (base := base) T
  have G__law_pick := ok__law_pick (P := P) (w := w) (base := base) T
  have G__law_scheme := ok__law_scheme (P := P) (w := w) (base := base) T
  have G__law_tape := ok__law_tape (P := P) (w := w) (base := base) T
  refine T.F_law.ok sc_law (fun vs H Q E h => ?_) (fun cdv A outer s H vs Q E hr h => ?_)
  · obtain ⟨a, ns, rfl, _⟩ := h
    rfl
  · obtain ⟨a, ns, rfl, hS, hlen, k⟩ := h
    refine ⟨_, (pss_cons (ps_set (i := 1) sc_law.nd rfl (Or.inl rfl) (pe_call G__law_tape (hr.mono (by decide)) (by rfl) T.g__law_tape T.F__law_tape.kp T.b__law_tape .nil pass0 (pa_cons (pv 0) pa_nil)))
      (pss_cons (ps_for PassesOwn.never rfl (pi_range1 rfl T.z_range (pa_cons pe_int pa_nil)) (pg_name (i := 2) sc_law.nd rfl (Or.inl rfl))
      (pss_cons (ps_set (i := 3) sc_law.nd rfl (Or.inl rfl) (pe_call G__law_pick (hr.mono (by decide)) (by rfl) T.g__law_pick T.F__law_pick.kp T.b__law_pick .nil pass0 (pa_cons (pv 1) (pa_cons pe_int pa_nil))))
      (C8.pss_cut (ps_if (pt_cmpR op_eq (pe_call G__law_pick (hr.mono (by decide)) (by rfl) T.g__law_pick T.F__law_pick.kp T.b__law_pick .nil pass0 (pa_cons (pv 1) (pa_cons pe_int pa_nil))) pe_int (nomark _)) (pss_one (ps_set (i := 3) sc_law.nd rfl (Or.inl rfl) (pe_op op_add pe_int (pe_call G__law_pick (hr.mono (by decide)) (by rfl) T.g__law_pick T.F__law_pick.kp T.b__law_pick .nil pass0 (pa_cons (pv 1) (pa_cons pe_int pa_nil)))))) pss_nil)
      (pss_cons (ps_set (i := 4) sc_law.nd rfl (Or.inr rfl) (pe_call G__law_scheme (hr.mono (by decide)) (by rfl) T.g__law_scheme T.F__law_scheme.kp T.b__law_scheme .nil pass0 (pa_cons (pv 1) (pa_cons (pv 3) pa_nil))))
      (pss_one (ps_if (pt_cmpR op_gt (pv 3) pe_int (nomark _)) (pss_one (ps_for PassesOwn.never rfl (pi_range1 rfl T.z_range (pa_cons pe_int pa_nil)) (pg_name (i := 5) sc_law.nd rfl (Or.inl rfl))
      (pss_one (ps_if (pt_not (pt_val (pe_call G__law_is_right hr (by rfl) T.g__law_is_right T.F__law_is_right.kp T.b__law_is_right .nil pass0 (pa_cons (pv 4) (pa_cons (pe_call G__law_pick (hr.mono (by decide)) (by rfl) T.g__law_pick T.F__law_pick.kp T.b__law_pick .nil pass0 (pa_cons (pv 1) (pa_cons (pv 3) pa_nil))) (pa_cons (pe_call G__law_pick (hr.mono (by decide)) (by rfl) T.g__law_pick T.F__law_pick.kp T.b__law_pick .nil pass0 (pa_cons (pv 1) (pa_cons (pv 3) pa_nil))) pa_nil)))))) (pss_one (ps_ret pe_bl)) pss_nil)))) (pss_one (ps_for PassesOwn.never rfl (pi_range1 rfl T.z_range (pa_cons (pv 3) pa_nil)) (pg_name (i := 6) sc_law.nd rfl (Or.inr rfl))
      (pss_one (ps_if (pt_not (pt_val (pe_callB (cr_all rfl) (by rfl) T.z_all (by decide +kernel) (pa_cons (pe_lc (own := [("_law_p", 7)]) (g := gName 7) (tt := tYes) rfl sc_law.nd (pi_range1 rfl T.z_range (pa_cons (pv 3) pa_nil)) (blkOk_by (own := [("_law_p", 7)]) (N := ["_law_script", "_law_tape_here", "_law_again", "_law_many", "_law_scheme_here", "_law_turn", "_law_x", "_law_p"]) (sc := defScope s_law) (by decide +kernel)) (fun _ _ _ _ _ => (pg_name (i := 7) sc_law.nd rfl (Or.inl rfl))) (fun _ _ _ _ _ => pts_nil) (fun _ _ _ _ _ => (pe_call G__law_is_right hr (by rfl) T.g__law_is_right T.F__law_is_right.kp T.b__law_is_right .nil pass0 (pa_cons (pv 4) (pa_cons (pv 6) (pa_cons (pv 7) pa_nil)))))) pa_nil)))) (pss_one (ps_ret pe_bl)) pss_nil))))))))))
      (pss_one (ps_ret pe_bl)))), ?_⟩
    tm_at "w"
    refine ⟨a, ns, rfl, hS, fun τ H1 _ s1 _ m1 => ?_⟩
    tm_at "w"
    refine for_range (lo := 0) (n := (2 : Int).toNat) (fun i σ H' => ∃ (v2 v3 v4 v5 v6 v7 : Option V), σ = [some (.ref a), some (.ref τ.t), v2, v3, v4, v5, v6, v7] ∧ Tape τ H') ⟨none, none, none, none, none, none, rfl, m1⟩ ?_ ?_
    · rintro i σ H2 hi ⟨v2, v3, v4, v5, v6, v7, rfl, m2⟩
      tm_at "w"
      refine ⟨τ, _, rfl, m2, by decide, by decide, fun r3 H3 m3 h3 h3' => ?_⟩
      tm_at "w"
      refine ⟨fun σ H' => ∃ (n : Nat) (v2 : Option V), σ = [some (.ref a), some (.ref τ.t), v2, some (.int n), v4, v5, v6, v7] ∧ Tape τ H' ∧ n ≤ 60, ?_, ?_⟩
      · tm_at "w"
        refine ⟨τ, _, rfl, m3.now, by decide, by decide, fun r4 H4 m4 _ _ => ?_⟩
        tm_at "w"
        refine iteI (fun _ => ?_) (fun _ => ?_)
        · tm_at "w"
          refine ⟨τ, _, rfl, m4.now, by decide, by decide, fun r5 H5 m5 h5 h5' => ?_⟩
          tm_at "w"
          obtain ⟨n, rfl⟩ : ∃ n : Nat, r5 = n := ⟨r5.toNat, by omega⟩
          exact ⟨9 + n, _, rfl, m5.now, by omega⟩
        · obtain ⟨n, rfl⟩ : ∃ n : Nat, r3 = n := ⟨r3.toNat, by omega⟩
          exact ⟨n, _, rfl, m4.now, by omega⟩
      · rintro σ H4 ⟨n, v2, rfl, m4, hn⟩
        tm_at "w"
        refine ⟨τ, n, rfl, m4, hn, fun b S H5 m5 hb hSl hg => ?_⟩
        tm_at "w"
        refine iteD (fun h8 => ?_) (fun h8 => ?_)
        · tm_at "w"
          refine for_range (lo := 0) (n := (50 : Int).toNat) (fun i σ H' => ∃ (v5 : Option V), σ = [some (.ref a), some (.ref τ.t), v2, some (.int n), some (.ref b), v5, v6, v7] ∧ Tape τ H' ∧ SchAt H' b S) ⟨_, rfl, m5.now, hb⟩ ?_ ?_
          · rintro i' σ H6 hi' ⟨v5, rfl, m6, hb6⟩
            tm_at "w"
            refine ⟨τ, _, rfl, m6, by omega, by omega, fun r7 H7 m7 h7 h7' => ?_⟩
            tm_at "w"
            refine ⟨τ, _, rfl, m7.now, by omega, by omega, fun r8 H8 m8 h8 h8' => ?_⟩
            obtain ⟨x, rfl⟩ : ∃ n : Nat, r7 = n := ⟨r7.toNat, by omega⟩
            obtain ⟨p, rfl⟩ : ∃ n : Nat, r8 = n := ⟨r8.toNat, by omega⟩
            tm_at "w"
            refine ⟨b, S, x, p, rfl, hb6.tk (m7.tk.trans m8.tk), hg, by omega, by omega, by omega, fun H9 s9 => ?_⟩
            tm_at "w"
            exact ⟨m8.now.same s9, (hb6.tk (m7.tk.trans m8.tk)).tk (Same.tk s9)⟩
          · rintro σ H6 ⟨v5, rfl, m6, hb6⟩
            exact ⟨_, _, _, _, _, _, rfl, m6⟩
        · tm_at "w"
          refine for_range (lo := 0) (n := (n : Int).toNat) (fun i σ H' => ∃ (v6 : Option V), σ = [some (.ref a), some (.ref τ.t), v2, some (.int n), some (.ref b), v5, v6, v7] ∧ Tape τ H' ∧ SchAt H' b S) ⟨_, rfl, m5.now, hb⟩ ?_ ?_
          · rintro i' σ H6 hi' ⟨v6, rfl, m6, hb6⟩
            tm_at "w"
            intro D nD
            refine lc_rangeF (fun _ => some (.bl true)) nD (by omega) ?_ ?_
            · intro j H7 N M hj s7 kN kM
              tm_at "w"
              refine ⟨b, S, i', j, ?_, hb6.tk (Same.tk s7), hg, by omega, by omega, by omega, fun H8 s8 => kN _ _ rfl s8⟩
              rw [Int.zero_add, Int.zero_add]
              rfl
            · intro H7 s7 hD
              rw [all_true] at hD
              tm_at "w"
              refine ⟨_, _, rfl, SqL.of hD, ?_⟩
              rw [all_id]
              tm_at "w"
              exact ⟨m6.same s7, hb6.tk (Same.tk s7)⟩
          · rintro σ H6 ⟨v5, rfl, m6, hb6⟩
            exact ⟨_, _, _, _, _, _, rfl, m6⟩
    · rintro σ H2 ⟨v2, v3, v4, v5, v6, v7, rfl, m2⟩
      tm_at "w"
      exact k _
end
theorem all_mk {l : PySem.W.OpenLaw} {w : World} {K : PySem.W.Frag} {h : Heap} {mg : Str → Option Value} {fa : Addr} (X : K.In h) (G : h.Ns mainGlobals mg) (hfa : mg "law" = some (.ref fa))
    {od0 an0 : Option Addr} {sl0 : Array (Option Value)} {oc0 kV0 dc0 pm0 cd0 ct0 : Value} {f0 : Addr}
    {od1 an1 : Option Addr} {sl1 : Array (Option Value)} {oc1 kV1 dc1 pm1 cd1 ct1 : Value} {f1 : Addr}
    {od2 an2 : Option Addr} {sl2 : Array (Option Value)} {oc2 kV2 dc2 pm2 cd2 ct2 : Value} {f2 : Addr}
    {od3 an3 : Option Addr} {sl3 : Array (Option Value)} {oc3 kV3 dc3 pm3 cd3 ct3 : Value} {f3 : Addr}
    {od4 an4 : Option Addr} {sl4 : Array (Option Value)} {oc4 kV4 dc4 pm4 cd4 ct4 : Value} {f4 : Addr}
    {od5 an5 : Option Addr} {sl5 : Array (Option Value)} {oc5 kV5 dc5 pm5 cd5 ct5 : Value} {f5 : Addr}
    {od6 an6 : Option Addr} {sl6 : Array (Option Value)} {oc6 kV6 dc6 pm6 cd6 ct6 : Value} {f6 : Addr}
    {od7 an7 : Option Addr} {sl7 : Array (Option Value)} {oc7 kV7 dc7 pm7 cd7 ct7 : Value} {f7 : Addr}
    {od8 an8 : Option Addr} {sl8 : Array (Option Value)} {oc8 kV8 dc8 pm8 cd8 ct8 : Value} {f8 : Addr}
    {od9 an9 : Option Addr} {sl9 : Array (Option Value)} {oc9 kV9 dc9 pm9 cd9 ct9 : Value} {f9 : Addr}
    {od10 an10 : Option Addr} {sl10 : Array (Option Value)} {oc10 kV10 dc10 pm10 cd10 ct10 : Value} {f10 : Addr}
    {od11 an11 : Option Addr} {sl11 : Array (Option Value)} {oc11 kV11 dc11 pm11 cd11 ct11 : Value} {f11 : Addr}
    {od12 an12 : Option Addr} {sl12 : Array (Option Value)} {oc12 kV12 dc12 pm12 cd12 ct12 : Value} {f12 : Addr}
    {od13 an13 : Option Addr} {sl13 : Array (Option Value)} {oc13 kV13 dc13 pm13 cd13 ct13 : Value} {f13 : Addr}
    {od14 an14 : Option Addr} {sl14 : Array (Option Value)} {oc14 kV14 dc14 pm14 cd14 ct14 : Value} {f14 : Addr}
    {od15 an15 : Option Addr} {sl15 : Array (Option Value)} {oc15 kV15 dc15 pm15 cd15 ct15 : Value} {f15 : Addr}
    (a0 : PySem.W.nsIn K mainGlobals "is_integer" = some (some (.ref f0)))
    (l0 : K.lookup f0 = some ⟨oc0, od0, .func (PySem.W.fnOf "is_integer" "is_integer" (defArgs s_is_integer) (defBody s_is_integer) (defScope s_is_integer) .none kV0 dc0 pm0 an0 cd0 ct0), sl0⟩) (c0 : PySem.W.codeIn K cd0 "is_integer" = true) (k0 : PySem.W.keepIn K (.ref f0) = true)
    (a1 : PySem.W.nsIn K mainGlobals "is_within" = some (some (.ref f1)))
    (l1 : K.lookup f1 = some ⟨oc1, od1, .func (PySem.W.fnOf "is_within" "is_within" (defArgs s_is_within) (defBody s_is_within) (defScope s_is_within) .none kV1 dc1 pm1 an1 cd1 ct1), sl1⟩) (c1 : PySem.W.codeIn K cd1 "is_within" = true) (k1 : PySem.W.keepIn K (.ref f1) = true)
    (a2 : PySem.W.nsIn K mainGlobals "is_triple" = some (some (.ref f2)))
    (l2 : K.lookup f2 = some ⟨oc2, od2, .func (PySem.W.fnOf "is_triple" "is_triple" (defArgs s_is_triple) (defBody s_is_triple) (defScope s_is_triple) .none kV2 dc2 pm2 an2 cd2 ct2), sl2⟩) (c2 : PySem.W.codeIn K cd2 "is_triple" = true) (k2 : PySem.W.keepIn K (.ref f2) = true)
    (a3 : PySem.W.nsIn K mainGlobals "check_kind_of" = some (some (.ref f3)))
    (l3 : K.lookup f3 = some ⟨oc3, od3, .func (PySem.W.fnOf "check_kind_of" "check_kind_of" (defArgs s_check_kind_of) (defBody s_check_kind_of) (defScope s_check_kind_of) .none kV3 dc3 pm3 an3 cd3 ct3), sl3⟩) (c3 : PySem.W.codeIn K cd3 "check_kind_of" = true) (k3 : PySem.W.keepIn K (.ref f3) = true)
    (a4 : PySem.W.nsIn K mainGlobals "is_given" = some (some (.ref f4)))
    (l4 : K.lookup f4 = some ⟨oc4, od4, .func (PySem.W.fnOf "is_given" "is_given" (defArgs s_is_given) (defBody s_is_given) (defScope s_is_given) .none kV4 dc4 pm4 an4 cd4 ct4), sl4⟩) (c4 : PySem.W.codeIn K cd4 "is_given" = true) (k4 : PySem.W.keepIn K (.ref f4) = true)
    (a5 : PySem.W.nsIn K mainGlobals "has_form" = some (some (.ref f5)))
    (l5 : K.lookup f5 = some ⟨oc5, od5, .func (PySem.W.fnOf "has_form" "has_form" (defArgs s_has_form) (defBody s_has_form) (defScope s_has_form) .none kV5 dc5 pm5 an5 cd5 ct5), sl5⟩) (c5 : PySem.W.codeIn K cd5 "has_form" = true) (k5 : PySem.W.keepIn K (.ref f5) = true)
    (a6 : PySem.W.nsIn K mainGlobals "check_scheme" = some (some (.ref f6)))
    (l6 : K.lookup f6 = some ⟨oc6, od6, .func (PySem.W.fnOf "check_scheme" "check_scheme" (defArgs s_check_scheme) (defBody s_check_scheme) (defScope s_check_scheme) .none kV6 dc6 pm6 an6 cd6 ct6), sl6⟩) (c6 : PySem.W.codeIn K cd6 "check_scheme" = true) (k6 : PySem.W.keepIn K (.ref f6) = true)
    (a7 : PySem.W.nsIn K mainGlobals "told" = some (some (.ref f7)))
    (l7 : K.lookup f7 = some ⟨oc7, od7, .func (PySem.W.fnOf "told" "told" (defArgs s_told) (defBody s_told) (defScope s_told) .none kV7 dc7 pm7 an7 cd7 ct7), sl7⟩) (c7 : PySem.W.codeIn K cd7 "told" = true) (k7 : PySem.W.keepIn K (.ref f7) = true)
    (a8 : PySem.W.nsIn K mainGlobals "says" = some (some (.ref f8)))
    (l8 : K.lookup f8 = some ⟨oc8, od8, .func (PySem.W.fnOf "says" "says" (defArgs s_says) (defBody s_says) (defScope s_says) .none kV8 dc8 pm8 an8 cd8 ct8), sl8⟩) (c8 : PySem.W.codeIn K cd8 "says" = true) (k8 : PySem.W.keepIn K (.ref f8) = true)
    (a9 : PySem.W.nsIn K mainGlobals "_law_tape" = some (some (.ref f9)))
    (l9 : K.lookup f9 = some ⟨oc9, od9, .func (PySem.W.fnOf "_law_tape" "_law_tape" (defArgs s__law_tape) (defBody s__law_tape) (defScope s__law_tape) .none kV9 dc9 pm9 an9 cd9 ct9), sl9⟩) (c9 : PySem.W.codeIn K cd9 "_law_tape" = true) (k9 : PySem.W.keepIn K (.ref f9) = true)
    (a10 : PySem.W.nsIn K mainGlobals "_law_pick" = some (some (.ref f10)))
    (l10 : K.lookup f10 = some ⟨oc10, od10, .func (PySem.W.fnOf "_law_pick" "_law_pick" (defArgs s__law_pick) (defBody s__law_pick) (defScope s__law_pick) .none kV10 dc10 pm10 an10 cd10 ct10), sl10⟩) (c10 : PySem.W.codeIn K cd10 "_law_pick" = true) (k10 : PySem.W.keepIn K (.ref f10) = true)
    (a11 : PySem.W.nsIn K mainGlobals "_law_great" = some (some (.ref f11)))
    (l11 : K.lookup f11 = some ⟨oc11, od11, .func (PySem.W.fnOf "_law_great" "_law_great" (defArgs s__law_great) (defBody s__law_great) (defScope s__law_great) .none kV11 dc11 pm11 an11 cd11 ct11), sl11⟩) (c11 : PySem.W.codeIn K cd11 "_law_great" = true) (k11 : PySem.W.keepIn K (.ref f11) = true)
    (a12 : PySem.W.nsIn K mainGlobals "_law_scheme" = some (some (.ref f12)))
    (l12 : K.lookup f12 = some ⟨oc12, od12, .func (PySem.W.fnOf "_law_scheme" "_law_scheme" (defArgs s__law_scheme) (defBody s__law_scheme) (defScope s__law_scheme) .none kV12 dc12 pm12 an12 cd12 ct12), sl12⟩) (c12 : PySem.W.codeIn K cd12 "_law_scheme" = true) (k12 : PySem.W.keepIn K (.ref f12) = true)
    (a13 : PySem.W.nsIn K mainGlobals "_law_due" = some (some (.ref f13)))
    (l13 : K.lookup f13 = some ⟨oc13, od13, .func (PySem.W.fnOf "_law_due" "_law_due" (defArgs s__law_due) (defBody s__law_due) (defScope s__law_due) .none kV13 dc13 pm13 an13 cd13 ct13), sl13⟩) (c13 : PySem.W.codeIn K cd13 "_law_due" = true) (k13 : PySem.W.keepIn K (.ref f13) = true)
    (a14 : PySem.W.nsIn K mainGlobals "_law_is_right" = some (some (.ref f14)))
    (l14 : K.lookup f14 = some ⟨oc14, od14, .func (PySem.W.fnOf "_law_is_right" "_law_is_right" (defArgs s__law_is_right) (defBody s__law_is_right) (defScope s__law_is_right) .none kV14 dc14 pm14 an14 cd14 ct14), sl14⟩) (c14 : PySem.W.codeIn K cd14 "_law_is_right" = true) (k14 : PySem.W.keepIn K (.ref f14) = true)
    (a15 : PySem.W.nsIn K mainGlobals "law" = some (some (.ref f15)))
    (l15 : K.lookup f15 = some ⟨oc15, od15, .func (PySem.W.fnOf "law" "law" (defArgs s_law) (defBody s_law) (defScope s_law) .none kV15 dc15 pm15 an15 cd15 ct15), sl15⟩) (c15 : PySem.W.codeIn K cd15 "law" = true) (k15 : PySem.W.keepIn K (.ref f15) = true)
    (z_abs : PySem.W.nsIn K mainGlobals "abs" = some none)
    (z_all : PySem.W.nsIn K mainGlobals "all" = some none)
    (z_bool : PySem.W.nsIn K mainGlobals "bool" = some none)
    (z_int : PySem.W.nsIn K mainGlobals "int" = some none)
    (z_isinstance : PySem.W.nsIn K mainGlobals "isinstance" = some none)
    (z_len : PySem.W.nsIn K mainGlobals "len" = some none)
    (z_list : PySem.W.nsIn K mainGlobals "list" = some none)
    (z_range : PySem.W.nsIn K mainGlobals "range" = some none)
    (z_tuple : PySem.W.nsIn K mainGlobals "tuple" = some none) :
    ∃ fd : FuncData, (∀ (s : Shared) (v : Value), BindsTo s fd ⟨[v], []⟩ [("_law_script", v)]) ∧ ∀ base : Heap, K.In base → base.Ns mainGlobals mg → FnOk l.prog w K mg base CX0 7 fa fd ["_law_script"] (sp_law K) := by
  have e := hfa.symm.trans (PySem.W.mg_of X G a15)
  cases e
  exact ⟨_, fun s v => .of_eq rfl, fun base _ _ => ok_law {
    f_is_integer := f0, fd_is_integer := _, F_is_integer := (fun_mk (st := s_is_integer) l0 c0 k0), b_is_integer := (fun_mk (st := s_is_integer) l0 c0 k0).binds (ps := ["thing"]) (fun _ _ _ _ _ _ us hl => match us, hl with | [_], _ => rfl), g_is_integer := PySem.W.mg_of X G a0,
    f_is_within := f1, fd_is_within := _, F_is_within := (fun_mk (st := s_is_within) l1 c1 k1), b_is_within := (fun_mk (st := s_is_within) l1 c1 k1).binds (ps := ["thing", "least", "most"]) (fun _ _ _ _ _ _ us hl => match us, hl with | [_, _, _], _ => rfl), g_is_within := PySem.W.mg_of X G a1,
    f_is_triple := f2, fd_is_triple := _, F_is_triple := (fun_mk (st := s_is_triple) l2 c2 k2), b_is_triple := (fun_mk (st := s_is_triple) l2 c2 k2).binds (ps := ["thing"]) (fun _ _ _ _ _ _ us hl => match us, hl with | [_], _ => rfl), g_is_triple := PySem.W.mg_of X G a2,
    f_check_kind_of := f3, fd_check_kind_of := _, F_check_kind_of := (fun_mk (st := s_check_kind_of) l3 c3 k3), b_check_kind_of := (fun_mk (st := s_check_kind_of) l3 c3 k3).binds (ps := ["thing", "many"]) (fun _ _ _ _ _ _ us hl => match us, hl with | [_, _], _ => rfl), g_check_kind_of := PySem.W.mg_of X G a3,
    f_is_given := f4, fd_is_given := _, F_is_given := (fun_mk (st := s_is_given) l4 c4 k4), b_is_given := (fun_mk (st := s_is_given) l4 c4 k4).binds (ps := ["thing"]) (fun _ _ _ _ _ _ us hl => match us, hl with | [_], _ => rfl), g_is_given := PySem.W.mg_of X G a4,
    f_has_form := f5, fd_has_form := _, F_has_form := (fun_mk (st := s_has_form) l5 c5 k5), b_has_form := (fun_mk (st := s_has_form) l5 c5 k5).binds (ps := ["thing"]) (fun _ _ _ _ _ _ us hl => match us, hl with | [_], _ => rfl), g_has_form := PySem.W.mg_of X G a5,
    f_check_scheme := f6, fd_check_scheme := _, F_check_scheme := (fun_mk (st := s_check_scheme) l6 c6 k6), b_check_scheme := (fun_mk (st := s_check_scheme) l6 c6 k6).binds (ps := ["thing"]) (fun _ _ _ _ _ _ us hl => match us, hl with | [_], _ => rfl), g_check_scheme := PySem.W.mg_of X G a6,
    f_told := f7, fd_told := _, F_told := (fun_mk (st := s_told) l7 c7 k7), b_told := (fun_mk (st := s_told) l7 c7 k7).binds (ps := ["scheme", "x", "p"]) (fun _ _ _ _ _ _ us hl => match us, hl with | [_, _, _], _ => rfl), g_told := PySem.W.mg_of X G a7,
    f_says := f8, fd_says := _, F_says := (fun_mk (st := s_says) l8 c8 k8), b_says := (fun_mk (st := s_says) l8 c8 k8).binds (ps := ["scheme", "x", "p"]) (fun _ _ _ _ _ _ us hl => match us, hl with | [_, _, _], _ => rfl), g_says := PySem.W.mg_of X G a8,
    f__law_tape := f9, fd__law_tape := _, F__law_tape := (fun_mk (st := s__law_tape) l9 c9 k9), b__law_tape := (fun_mk (st := s__law_tape) l9 c9 k9).binds (ps := ["_law_script"]) (fun _ _ _ _ _ _ us hl => match us, hl with | [_], _ => rfl), g__law_tape := PySem.W.mg_of X G a9,
    f__law_pick := f10, fd__law_pick := _, F__law_pick := (fun_mk (st := s__law_pick) l10 c10 k10), b__law_pick := (fun_mk (st := s__law_pick) l10 c10 k10).binds (ps := ["_law_tape_here", "_law_many"]) (fun _ _ _ _ _ _ us hl => match us, hl with | [_, _], _ => rfl), g__law_pick := PySem.W.mg_of X G a10,
    f__law_great := f11, fd__law_great := _, F__law_great := (fun_mk (st := s__law_great) l11 c11 k11), b__law_great := (fun_mk (st := s__law_great) l11 c11 k11).binds (ps := ["_law_tape_here"]) (fun _ _ _ _ _ _ us hl => match us, hl with | [_], _ => rfl), g__law_great := PySem.W.mg_of X G a11,
    f__law_scheme := f12, fd__law_scheme := _, F__law_scheme := (fun_mk (st := s__law_scheme) l12 c12 k12), b__law_scheme := (fun_mk (st := s__law_scheme) l12 c12 k12).binds (ps := ["_law_tape_here", "_law_many"]) (fun _ _ _ _ _ _ us hl => match us, hl with | [_, _], _ => rfl), g__law_scheme := PySem.W.mg_of X G a12,
    f__law_due := f13, fd__law_due := _, F__law_due := (fun_mk (st := s__law_due) l13 c13 k13), b__law_due := (fun_mk (st := s__law_due) l13 c13 k13).binds (ps := ["_law_scheme_here", "_law_x", "_law_p"]) (fun _ _ _ _ _ _ us hl => match us, hl with | [_, _, _], _ => rfl), g__law_due := PySem.W.mg_of X G a13,
    f__law_is_right := f14, fd__law_is_right := _, F__law_is_right := (fun_mk (st := s__law_is_right) l14 c14 k14), b__law_is_right := (fun_mk (st := s__law_is_right) l14 c14 k14).binds (ps := ["_law_scheme_here", "_law_x", "_law_p"]) (fun _ _ _ _ _ _ us hl => match us, hl with | [_, _, _], _ => rfl), g__law_is_right := PySem.W.mg_of X G a14,
    f_law := _, fd_law := _, F_law := (fun_mk (st := s_law) l15 c15 k15), b_law := (fun_mk (st := s_law) l15 c15 k15).binds (ps := ["_law_script"]) (fun _ _ _ _ _ _ us hl => match us, hl with | [_], _ => rfl), g_law := PySem.W.mg_of X G a15,
    z_abs := PySem.W.mg_none_of X G z_abs,
    z_all := PySem.W.mg_none_of X G z_all,
    z_bool := PySem.W.mg_none_of X G z_bool,
    z_int := PySem.W.mg_none_of X G z_int,
    z_isinstance := PySem.W.mg_none_of X G z_isinstance,
    z_len := PySem.W.mg_none_of X G z_len,
    z_list := PySem.W.mg_none_of X G z_list,
    z_range := PySem.W.mg_none_of X G z_range,
    z_tuple := PySem.W.mg_none_of X G z_tuple }⟩
end Lk
open PySem PySem.W PyProof.Rows
set_option maxHeartbeats 0 in
theorem PySem.Challenge.cw_latekinds_k14_what_a_scheme_says_holds : PySem.Challenge.rw_latekinds_k14_what_a_scheme_says.Holds := by
  w_on; o_law; k_head; (case hw => w_witness2)
  k_fill
  refine L2.walk_of (l := PySem.Challenge.rw_latekinds_k14_what_a_scheme_says) (n := 63) (k := 7) (x := "_law_script") (CX := fun _ => L2.CX0) (sp := fun w => Lk.sp_law _) rfl (by decide) rfl ⟨rfl, by decide, by decide⟩ (fun w h Y => PySem.W.kIn_of Y) ?F (fun _ _ a ns hl _ hS => ⟨a, ns, rfl, hS, hl, fun _ => rfl⟩) (fun _ _ _ _ _ h => h)
  case F =>
    intro w mg fa h KX G hmg
    refine' Lk.all_mk KX G hmg ?a0 ?l0 ?c0 ?k0 ?a1 ?l1 ?c1 ?k1 ?a2 ?l2 ?c2 ?k2 ?a3 ?l3 ?c3 ?k3 ?a4 ?l4 ?c4 ?k4 ?a5 ?l5 ?c5 ?k5 ?a6 ?l6 ?c6 ?k6 ?a7 ?l7 ?c7 ?k7 ?a8 ?l8 ?c8 ?k8 ?a9 ?l9 ?c9 ?k9 ?a10 ?l10 ?c10 ?k10 ?a11 ?l11 ?c11 ?k11 ?a12 ?l12 ?c12 ?k12 ?a13 ?l13 ?c13 ?k13 ?a14 ?l14 ?c14 ?k14 ?a15 ?l15 ?c15 ?k15 ?z_abs ?z_all ?z_bool ?z_int ?z_isinstance ?z_len ?z_list ?z_range ?z_tuple
    (case a0 => k_is)
    (case l0 => k_is)
    (case c0 => k_is)
    (case k0 => k_is)
    (case a1 => k_is)
    (case l1 => k_is)
    (case c1 => k_is)
    (case k1 => k_is)
    (case a2 => k_is)
    (case l2 => k_is)
    (case c2 => k_is)
    (case k2 => k_is)
    (case a3 => k_is)
    (case l3 => k_is)
    (case c3 => k_is)
    (case k3 => k_is)
    (case a4 => k_is)
    (case l4 => k_is)
    (case c4 => k_is)
    (case k4 => k_is)
    (case a5 => k_is)
    (case l5 => k_is)
    (case c5 => k_is)
    (case k5 => k_is)
    (case a6 => k_is)
    (case l6 => k_is)
    (case c6 => k_is)
    (case k6 => k_is)
    (case a7 => k_is)
    (case l7 => k_is)
    (case c7 => k_is)
    (case k7 => k_is)
    (case a8 => k_is)
    (case l8 => k_is)
    (case c8 => k_is)
    (case k8 => k_is)
    (case a9 => k_is)
    (case l9 => k_is)
    (case c9 => k_is)
    (case k9 => k_is)
    (case a10 => k_is)
    (case l10 => k_is)
    (case c10 => k_is)
    (case k10 => k_is)
    (case a11 => k_is)
    (case l11 => k_is)
    (case c11 => k_is)
    (case k11 => k_is)
    (case a12 => k_is)
    (case l12 => k_is)
    (case c12 => k_is)
    (case k12 => k_is)
    (case a13 => k_is)
    (case l13 => k_is)
    (case c13 => k_is)
    (case k13 => k_is)
    (case a14 => k_is)
    (case l14 => k_is)
    (case c14 => k_is)
    (case k14 => k_is)
    (case a15 => k_is)
    (case l15 => k_is)
    (case c15 => k_is)
    (case k15 => k_is)
    (case z_abs => k_is)
    (case z_all => k_is)
    (case z_bool => k_is)
    (case z_int => k_is)
    (case z_isinstance => k_is)
    (case z_len => k_is)
    (case z_list => k_is)
    (case z_range => k_is)
    (case z_tuple => k_is)
#print axioms PySem.Challenge.cw_latekinds_k14_what_a_scheme_says_holds
