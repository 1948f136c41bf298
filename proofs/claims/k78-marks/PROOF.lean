import PyProof.Rows.All
import Wide.All
import OpenK.AllK
import Wide.FinOn
import HandS.ForMost
import HandS.Exc
import HandS.TryOnly
import HandS.ExcOwn
import HandS.WordsExc
import HandS.Wide
import HandS.WideBits
import HandS.IsInst
import HandS.Defaults
import HandS.Flow
import HandS.Head0
import HandS.Head1
import HandS.Head2
import HandS.HeadEnd
import HandS.HeadHook1
import HandS.HeadHook2
import HandS.HeadHook3
import HandS.HeadHook4
import HandS.Small
import KE.GoesEnum
import HandS.Evl
import PySem.Challenge.RW_neverleapt_k78_whole_shares_rounded_to_m
set_option Elab.async false
set_option linter.all false
set_option maxRecDepth 100000
set_option maxHeartbeats 4000000
/-! Lv: own lemmas over the hand layer: two parts of a heap (the law's pot and all else), comprehensions of ints, divisors. -/
namespace Lv
open PySem L2
/-! ### heaps in two parts -/
/-- H' has all that H has -/
def Ex (H H' : Hp) : Prop := ∀ a o, H a = some o → H' a = some o
theorem Ex.refl (H : Hp) : Ex H H := fun _ _ h => h
theorem Ex.trans {H H1 H2 : Hp} (a : Ex H H1) (b : Ex H1 H2) : Ex H H2 := fun x o h => b x o (a x o h)
theorem Ex.new {H : Hp} {p : Addr} {o : HO} (h : H p = none) : Ex H (upd H p o) := fun a u e => by
  rw [upd_ne (ne_of_none e h)]
  exact e
theorem Ex.mut {H H' : Hp} {p : Addr} {o : HO} (e : Ex H H') (h : H p = none) : Ex H (upd H' p o) := fun a u ha => by
  rw [upd_ne (ne_of_none ha h)]
  exact e a u ha
theorem Ex.back {H H' : Hp} {p : Addr} (e : Ex H H') (h : H' p = none) : H p = none := by
  cases h1 : H p with
  | none => rfl
  | some o =>
    rw [e p o h1] at h
    cases h
theorem Ex.rd {H H' : Hp} {a : Addr} {u : HO} (e : Ex H H') (h : Rd H a u) : Rd H' a u := by
  rcases h with h | ⟨o, h⟩
  · exact Or.inl (e a _ h)
  · exact Or.inr ⟨o, e a _ h⟩
theorem Ex.l {K : PySem.W.Frag} {H H' : Hp} {a : Addr} {xs : List V} (e : Ex H H') (h : SqL K H a xs) : SqL K H' a xs := by
  rcases h with h | h
  · exact Or.inl (e.rd h)
  · exact Or.inr h
theorem Ex.t {K : PySem.W.Frag} {H H' : Hp} {a : Addr} {xs : List V} (e : Ex H H') (h : SqT K H a xs) : SqT K H' a xs := by
  rcases h with h | h
  · exact Or.inl (e.rd h)
  · exact Or.inr h
theorem sqL {K : PySem.W.Frag} {H : Hp} {a : Addr} {xs : List V} (h : H a = some (.lst xs)) : SqL K H a xs := Or.inl (Or.inl h)
theorem sqT {K : PySem.W.Frag} {H : Hp} {a : Addr} {xs : List V} (h : H a = some (.tup xs)) : SqT K H a xs := Or.inl (Or.inl h)
theorem szle {n : Nat} (h : n ≤ 100000) : n ≤ sizeLine := Nat.le_trans h (by decide)
theorem szlt {n : Nat} (h : n < 100000) : n < sizeLine := Nat.lt_of_lt_of_le h (by decide)
/-- H is made of G and P, apart from one another -/
structure Join (G P H : Hp) : Prop where
  ap : ∀ b o, P b = some o → G b = none
  g : ∀ b o, G b = some o → H b = some o
  p : ∀ b o, P b = some o → H b = some o
  no : ∀ b, G b = none → P b = none → H b = none
theorem Join.self (H : Hp) : Join H (fun _ => none) H := ⟨fun _ _ e => (nomatch e), fun _ _ e => e, fun _ _ e => (nomatch e), fun _ e _ => e⟩
theorem Join.ng {G P H : Hp} (j : Join G P H) {b : Addr} (h : H b = none) : G b = none := by
  cases e : G b with
  | none => rfl
  | some o => rw [j.g b o e] at h; cases h
theorem Join.np {G P H : Hp} (j : Join G P H) {b : Addr} (h : H b = none) : P b = none := by
  cases e : P b with
  | none => rfl
  | some o => rw [j.p b o e] at h; cases h
theorem Join.gp {G P H : Hp} (j : Join G P H) {b : Addr} {o : HO} (h : G b = some o) : P b = none := by
  cases e : P b with
  | none => rfl
  | some u => rw [j.ap b u e] at h; cases h
theorem Join.setG {G P H : Hp} (j : Join G P H) {b : Addr} {o : HO} (h : P b = none) : Join (upd G b o) P (upd H b o) := by
  refine ⟨fun c u e => ?_, fun c u e => ?_, fun c u e => ?_, fun c e1 e2 => ?_⟩
  · have n : c ≠ b := fun z => by rw [z, h] at e; cases e
    rw [upd_ne n]; exact j.ap c u e
  · by_cases z : c = b
    · rw [z, upd_same] at e; rw [z, upd_same]; exact e
    · rw [upd_ne z] at e; rw [upd_ne z]; exact j.g c u e
  · have n : c ≠ b := fun z => by rw [z, h] at e; cases e
    rw [upd_ne n]; exact j.p c u e
  · have n : c ≠ b := fun z => by rw [z, upd_same] at e1; cases e1
    rw [upd_ne n] at e1; rw [upd_ne n]; exact j.no c e1 e2
theorem Join.newG {G P H : Hp} (j : Join G P H) {b : Addr} {o : HO} (h : H b = none) : Join (upd G b o) P (upd H b o) := j.setG (j.np h)
theorem Join.setP {G P H : Hp} (j : Join G P H) {b : Addr} {o : HO} (h : G b = none) : Join G (upd P b o) (upd H b o) := by
  refine ⟨fun c u e => ?_, fun c u e => ?_, fun c u e => ?_, fun c e1 e2 => ?_⟩
  · by_cases z : c = b
    · rw [z]; exact h
    · rw [upd_ne z] at e; exact j.ap c u e
  · have n : c ≠ b := fun z => by rw [z, h] at e; cases e
    rw [upd_ne n]; exact j.g c u e
  · by_cases z : c = b
    · rw [z, upd_same] at e; rw [z, upd_same]; exact e
    · rw [upd_ne z] at e; rw [upd_ne z]; exact j.p c u e
  · have n : c ≠ b := fun z => by rw [z, upd_same] at e2; cases e2
    rw [upd_ne n] at e2; rw [upd_ne n]; exact j.no c e1 e2
theorem Join.exG {G P H : Hp} (j : Join G P H) : Ex G H := j.g
theorem Join.exP {G P H : Hp} (j : Join G P H) : Ex P H := j.p
/-- what extends H extends the first part -/
theorem Join.grow {G P H H' : Hp} (j : Join G P H) (e : Ex H H') : Join (fun b => if P b = none then H' b else none) P H' := by
  refine ⟨fun c u q => ?_, fun c u q => ?_, fun c u q => e c u (j.p c u q), fun c q1 q2 => ?_⟩
  · have n : P c ≠ none := fun z => by rw [z] at q; cases q
    show (if P c = none then H' c else none) = none
    rw [if_neg n]
  · by_cases z : P c = none
    · have q2 : (if P c = none then H' c else none) = some u := q
      rw [if_pos z] at q2; exact q2
    · have q2 : (if P c = none then H' c else none) = some u := q
      rw [if_neg z] at q2; cases q2
  · have q3 : (if P c = none then H' c else none) = none := q1
    rw [if_pos q2] at q3; exact q3
theorem Join.growEx {G P H H' : Hp} (j : Join G P H) (e : Ex H H') : Ex G (fun b => if P b = none then H' b else none) := fun c u q => by
  show (if P c = none then H' c else none) = some u
  rw [if_pos (j.gp q)]; exact e c u (j.g c u q)
theorem Join.growNew {G P H H' : Hp} (j : Join G P H) {b : Addr} {o : HO} (h : H b = none) (q : H' b = some o) : (fun b => if P b = none then H' b else none) b = some o := by
  show (if P b = none then H' b else none) = some o
  rw [if_pos (j.np h)]; exact q
/-! ### the items of a list of ints -/
theorem int_at {ns : List Int} {i : Nat} {y : V} (h : (ns.map V.int)[i]? = some y) : ∃ z, ns[i]? = some z ∧ y = V.int z := by
  rw [List.getElem?_map] at h
  cases e : ns[i]? with
  | none => rw [e] at h; cases h
  | some z => rw [e] at h; exact ⟨z, rfl, (Option.some.inj h).symm⟩
theorem take_more {α : Type} : ∀ {l : List α} {i : Nat} {x : α}, l[i]? = some x → l.take (i + 1) = l.take i ++ [x]
  | [], i, x, h => by simp at h
  | a :: l, 0, x, h => by
    have e : a = x := Option.some.inj h
    subst e
    rfl
  | a :: l, i + 1, x, h => by
    have ih := take_more (l := l) (i := i) (x := x) h
    show a :: l.take (i + 1) = a :: l.take i ++ [x]
    rw [ih]
    rfl
/-- [g z for z in ns if f z], nothing touched: the rest of the reading behind the walked list -/
theorem lc_ints {K : PySem.W.Frag} {a : Addr} {ns : List Int} {j : Nat} {tt : TT} {te : TE} {vs : List Nat} {σ : St} {H : Hp} {Qd : Hp → Prop} {D : Addr} (f : Int → Bool) (g : Int → Int) (hD : H D = none)
    (hS : SqL K H a (ns.map V.int)) (hn : ns.length ≤ 1000) (hw : ∀ x, wipe ((wipe σ vs).set j (some x)) vs = wipe σ vs)
    (ht : ∀ (z : Int) (H' : Hp) (R : Bool → Hp → Prop), z ∈ ns → R (f z) H' → tt ((wipe σ vs).set j (some (.int z))) H' R)
    (he : ∀ (z : Int) (H' : Hp) (R : VK), z ∈ ns → f z = true → R (.int (g z)) H' → te ((wipe σ vs).set j (some (.int z))) H' R)
    (hq : Qd (upd H D (.lst (((ns.filter f).map g).map V.int)))) :
    ∃ W : Nat → Nat → Hp → Prop, (∃ m, W 0 m (upd H D (.lst []))) ∧ ∀ i m H, W i m H →
      ((Itl K a).stop i H ∧ Qd H) ∨ ((Itl K a).go i H ∧ ∃ Nx : Hp → Prop, (∀ H', Nx H' → ∃ m', m' < m ∧ W (i + 1) m' H') ∧ ∀ x H', (Itl K a).yld i H x H' → gName j x (wipe σ vs) H' fun σ2 H2 => wipe σ2 vs = wipe σ vs ∧ tt σ2 H2 fun b H3 =>
        if b = true then te σ2 H3 fun y H4 => ∃ acc, H4 D = some (.lst acc) ∧ acc.length < sizeLine ∧ Nx (upd H4 D (.lst (acc ++ [y]))) else Nx H3) := by
  have hl : ∀ i, ((((ns.take i).filter f).map g).map V.int).length ≤ 1000 := fun i => by
    rw [List.length_map, List.length_map]
    have h1 := List.length_filter_le f (ns.take i)
    rw [List.length_take] at h1
    omega
  refine lc_list (K := K) (a := a) (xs := ns.map V.int) (Qd := Qd) (fun i H' => H' = upd H D (.lst ((((ns.take i).filter f).map g).map V.int))) rfl (fun i H' _ e => ?_) (fun i y H' hi e => ?_) (fun H' e => ?_)
  · rw [e]; exact (Ex.new hD).l hS
  · obtain ⟨z, hz, rfl⟩ := int_at hi
    have hm : z ∈ ns := List.mem_of_getElem? hz
    have tm := take_more hz
    subst e
    refine ⟨hw _, ht z _ _ hm ?_⟩
    cases hf : f z with
    | true =>
      refine (if_pos rfl).mpr ?_
      refine he z _ _ hm hf ⟨_, upd_same, Nat.lt_of_le_of_lt (hl i) (by decide), ?_⟩
      rw [upd_upd, tm, List.filter_append, List.map_append, List.map_append, List.filter_cons, if_pos hf]
      rfl
    | false =>
      refine (if_neg (by decide)).mpr ?_
      rw [tm, List.filter_append, List.map_append, List.map_append, List.filter_cons, if_neg (by rw [hf]; decide)]
      show _ = upd H D (.lst (_ ++ []))
      rw [List.append_nil]
  · rw [e]
    have e2 : ns.take (ns.map V.int).length = ns := by rw [List.length_map]; exact List.take_length
    rw [e2]; exact hq
/-! ### a def as the top leaves it -/
structure Dn (P : Program) (w : World) (K : PySem.W.Frag) (mg : Str → Option Value) (base : Heap) (CX : CXT) (k : Nat) (x : Str) (ps : List Str) (sp : Sp) (fd : FuncData) : Prop where
  ok : FnOk P w K mg base CX k (He.ga K x) fd ps sp
  mg : mg x = some (.ref (He.ga K x))
  kp : PySem.W.keepIn K (.ref (He.ga K x)) = true
  b : Binds K fd ps []
  lk : ∃ oc od osl, K.lookup (He.ga K x) = some ⟨oc, od, .func fd, osl⟩
theorem fun_lk {K : PySem.W.Frag} {x qual : Str} {params : Arguments} {body : List Stmt} {scope : Scope} {dvs : List V} {kws : List (Str × V)} {f : Addr} {fd : FuncData} (F : FunD K x qual params body scope dvs kws f fd) : ∃ oc od osl, K.lookup f = some ⟨oc, od, .func fd, osl⟩ := by
  obtain ⟨oc, od, _, _, _, _, _, _, _, osl, _, lk, _⟩ := F.ex
  exact ⟨oc, od, osl, lk⟩
theorem fd_same {K : PySem.W.Frag} {f : Addr} {fd fd' : FuncData} (h : ∃ oc od osl, K.lookup f = some ⟨oc, od, .func fd, osl⟩) (h' : ∃ oc od osl, K.lookup f = some ⟨oc, od, .func fd', osl⟩) : fd = fd' := by
  obtain ⟨_, _, _, e⟩ := h
  obtain ⟨_, _, _, e'⟩ := h'
  rw [e] at e'
  injection e' with e'
  injection e' with _ _ e' _
  injection e'
/-! ### the pot -/
/-- a pot at l: great numbers, small ones (one at least), the turn, one number more -/
def Pot (P : Hp) (l : Addr) : Prop := ∃ (g s : Addr) (gs ss : List Int) (t c : Int), P l = some (.lst [.ref g, .ref s, .int t, .int c]) ∧ P g = some (.lst (gs.map V.int)) ∧ P s = some (.lst (ss.map V.int)) ∧ g ≠ s ∧ 0 < ss.length ∧ ss.length ≤ 1000 ∧ gs.length ≤ 1000
def spPot (K : PySem.W.Frag) : Sp := fun vs H Q _ => ∃ (a : Addr) (ns : List Int), vs = [.ref a] ∧ SqL K H a (ns.map V.int) ∧ ns.length ≤ 63 ∧ ∀ l G P H', Ex H G → Join G P H' → Pot P l → Q (.ref l) H'
def spDraw : Sp := fun vs H Q _ => ∃ (l : Addr) (n : Int) (G P : Hp), vs = [.ref l, .int n] ∧ Join G P H ∧ Pot P l ∧ 0 < n ∧ n < 2 ^ 200 ∧ ∀ (r : Int) (P' H' : Hp), 0 ≤ r → r < n → Join G P' H' → Pot P' l → Q (.int r) H'
/-- one of some things, at a tuple -/
def spAny (K : PySem.W.Frag) : Sp := fun vs H Q _ => ∃ (l t : Addr) (xs : List V) (G P : Hp), vs = [.ref l, .ref t] ∧ Join G P H ∧ Pot P l ∧ SqT K G t xs ∧ 0 < xs.length ∧ xs.length ≤ 1000 ∧ ∀ (i : Nat) (x : V) (P' H' : Hp), xs[i]? = some x → Join G P' H' → Pot P' l → Q x H'
end Lv

namespace Lv
open PySem L2
/-! ### tests -/
theorem itT {c A B : Prop} [Decidable c] (h : c) (a : A) : if decide c = true then A else B := by
  rw [if_pos (decide_eq_true h)]; exact a
theorem itF {c A B : Prop} [Decidable c] (h : ¬ c) (a : B) : if decide c = true then A else B := by
  rw [if_neg (by rw [decide_eq_false h]; decide)]; exact a
theorem itBT {b : Bool} {A B : Prop} (h : b = true) (a : A) : if b = true then A else B := by
  rw [if_pos h]; exact a
theorem itBF {b : Bool} {A B : Prop} (h : b = false) (a : B) : if b = true then A else B := by
  rw [if_neg (by rw [h]; decide)]; exact a
theorem itNT {c A B : Prop} [Decidable c] (h : ¬ c) (a : A) : if (!decide c) = true then A else B := by
  rw [if_pos (by rw [decide_eq_false h]; rfl)]; exact a
theorem itNF {c A B : Prop} [Decidable c] (h : c) (a : B) : if (!decide c) = true then A else B := by
  rw [if_neg (by rw [decide_eq_true h]; decide)]; exact a
/-! ### numbers -/
theorem abs_if (a : Int) : (if a < 0 then -a else a) = (a.natAbs : Int) := by split <;> omega
theorem emod_cast (m n : Nat) : ((m : Int) % (n : Int)) = ((m % n : Nat) : Int) := rfl
theorem gcd_turn (m n : Nat) : Nat.gcd n (m % n) = Nat.gcd m n := by
  rw [Nat.gcd_comm n, ← Nat.gcd_rec n m, Nat.gcd_comm]
/-- Euclid's product halves -/
theorem euclid_half {m n : Nat} (h : n < m) (h0 : 0 < n) : 2 * (n * (m % n)) < m * n := by
  have h1 : m % n < n := Nat.mod_lt _ h0
  have h2 : n + m % n ≤ m := by
    have e := Nat.div_add_mod m n
    have q : 1 ≤ m / n := Nat.div_pos (Nat.le_of_lt h) h0
    have q2 : n * 1 ≤ n * (m / n) := Nat.mul_le_mul_left n q
    omega
  have h3 : 2 * (m % n) < m := by omega
  have h4 : n * (2 * (m % n)) < n * m := Nat.mul_lt_mul_of_pos_left h3 h0
  have e1 : n * (2 * (m % n)) = 2 * (n * (m % n)) := by rw [Nat.mul_left_comm]
  have e2 : n * m = m * n := Nat.mul_comm _ _
  omega
end Lv

namespace Lv
open PySem L2
theorem ixN_nat {n j : Nat} (h : j < n) : ixN n (j : Int) = some j := by
  unfold ixN
  rw [if_pos (by omega), if_pos (by omega)]; simp
theorem seq_nat {n j : Nat} (h : j < n) : seqIndex? (j : Int) n = some j := (ixN_seq (ixN_nat h)).1
theorem atI_int {α : Type} {xs : List α} {i : Int} {v : α} (h0 : 0 ≤ i) (h : xs[i.toNat]? = some v) : atI xs i = some v := by
  have e : (i.toNat : Int) = i := by omega
  rw [← e]; exact atI_nat h
theorem nat1000 {i : Int} (h0 : 0 ≤ i) (h : i < 2 ^ 200) : i.natAbs < 2 ^ 1000 := by
  have h1 : i.natAbs < 2 ^ 200 := by
    have e : ((2 : Int) ^ 200) = ((2 ^ 200 : Nat) : Int) := by norm_cast
    omega
  exact Nat.lt_of_lt_of_le h1 (Nat.pow_le_pow_right (by decide) (by decide))
theorem mulW {i j : Int} (hi : i.natAbs < 2 ^ 1000) (hj : j.natAbs < 2 ^ 1000) : CMulW i j := wide_mul hi hj (by decide) (by decide) (by decide)
theorem mulSm {i j : Int} (a : 0 ≤ i) (b : i < 18446744073709551616) (c : 0 ≤ j) (d : j < 18446744073709551616) : CMulW i j := mulW (nat1000 a (Int.lt_of_lt_of_le b (by decide))) (nat1000 c (Int.lt_of_lt_of_le d (by decide)))
theorem divW {i j : Int} (h : 0 < j) (hj : j.natAbs < 2 ^ 1000) : CDivW i j := wide_div h hj (by decide) (by decide)
end Lv

namespace Lv
open PySem L2
/-- [e for x in t], t a tuple, each element's value f x, the heap may grow: the rest of the reading behind the walked tuple -/
theorem lc_mapT {K : PySem.W.Frag} {a : Addr} {xs : List V} {j : Nat} {te : TE} {vs : List Nat} {σ : L2.St} {G P H : Hp} {Qd : Hp → Prop} {D : Addr} (f : V → V) (hD : H D = none) (J : Join G P H)
    (hS : SqT K G a xs) (hn : xs.length ≤ 10000) (hw : ∀ x, wipe ((wipe σ vs).set j (some x)) vs = wipe σ vs)
    (he : ∀ (x : V) (G' H' : Hp) (R : VK), x ∈ xs → Ex G G' → Join G' P H' → (∀ H2, Ex H' H2 → R (f x) H2) → te ((wipe σ vs).set j (some x)) H' R)
    (hq : ∀ G' H', Ex G G' → Join G' P H' → G' D = some (.lst (xs.map f)) → Qd H') :
    ∃ W : Nat → Nat → Hp → Prop, (∃ m, W 0 m (upd H D (.lst []))) ∧ ∀ i m H, W i m H →
      ((Itt K a).stop i H ∧ Qd H) ∨ ((Itt K a).go i H ∧ ∃ Nx : Hp → Prop, (∀ H', Nx H' → ∃ m', m' < m ∧ W (i + 1) m' H') ∧ ∀ x H', (Itt K a).yld i H x H' → gName j x (wipe σ vs) H' fun σ2 H2 => wipe σ2 vs = wipe σ vs ∧ tYes σ2 H2 fun b H3 =>
        if b = true then te σ2 H3 fun y H4 => ∃ acc, H4 D = some (.lst acc) ∧ acc.length < sizeLine ∧ Nx (upd H4 D (.lst (acc ++ [y]))) else Nx H3) := by
  have gD : G D = none := J.ng hD
  have pD : P D = none := J.np hD
  refine lc_tup (K := K) (a := a) (xs := xs) (Qd := Qd) (fun i H' => ∃ G', Ex G G' ∧ Join G' P H' ∧ G' D = some (.lst ((xs.take i).map f))) ⟨_, Ex.new gD, J.newG hD, upd_same⟩ (fun i H' _ ⟨G', e, J', _⟩ => J'.exG.t (e.t hS)) (fun i y H' hi ⟨G', e, J', hd⟩ => ?_) (fun H' ⟨G', e, J', hd⟩ => ?_)
  · have hm : y ∈ xs := List.mem_of_getElem? hi
    refine ⟨hw _, iteT (A := te ((wipe σ vs).set j (some y)) H' _) (B := True) ?_⟩
    refine he y G' H' _ hm e J' fun H2 e2 => ⟨(xs.take i).map f, e2 D _ (J'.g D _ hd), ?_, ?_⟩
    · refine szlt ?_
      have h1 : i < xs.length := (List.getElem?_eq_some_iff.mp hi).1
      rw [List.length_map, List.length_take]; omega
    · refine ⟨upd (fun b => if P b = none then H2 b else none) D (.lst ((xs.take i).map f ++ [f y])), ?_, (J'.grow e2).setG pD, ?_⟩
      · exact fun b o q => by
          rw [upd_ne (ne_of_none q gD)]
          exact J'.growEx e2 b o (e b o q)
      · rw [upd_same, take_more hi, List.map_append]; rfl
  · refine hq G' H' e J' ?_
    rw [hd, List.take_length]
end Lv

/-! enumerate over a tuple: a rule of our own -/
namespace Lv
open PySem PySem.Spec PyProof.Rows L2
set_option maxHeartbeats 4000000 in
theorem meets_enum1 {v : Value} {o : Obj} {H : Heap → Prop} (B : Begins v o H) :
    Meets (Builtin.«enumerate.__new__» ⟨[.type "enumerate", v], []⟩) (fun _ R s => H s.heap ∧
      R (.ok (.ret (.ref (s.heap.push o).objs.size))) { s with heap := (s.heap.push o).push { cls := .type "enumerate", data := .fields #[.none, .bool false, .ref s.heap.objs.size, rawInt 0, .none, .none] } }) :=
  .of_wp fun prog w A R s h => by
    obtain ⟨hp, g, d, tk, os⟩ := s; obtain ⟨h1, h⟩ := h
    have hsub := sub_enumerate
    have q1 : ∀ {A' : Around} {E : Value → Shared → Prop} {Q : Value → Shared → Prop}, Q (.ref hp.objs.size) ⟨hp.push o, g, d, tk, os⟩ → wpAny (model prog w) A' (pyIter v) Q E ⟨hp, g, d, tk, os⟩ :=
      fun q => B.iter prog w _ _ ⟨hp, g, d, tk, os⟩ _ h1 q
    wp_walk using q1
    refine wpAny_stack_any fun st => wpAny_pure ?_
    split
    · rename_i c _ _ _ _ _
      cases (c == Value.type "enumerate")
      · wp_walk using q1
        exact ⟨_, rfl, h⟩
      · wp_walk using q1
        exact ⟨_, rfl, h⟩
    · wp_walk using q1
      exact ⟨_, rfl, h⟩
theorem call_enum1 {prog : Program} {w : World} {A : Around} {E : Value → Shared → Prop} {s : Shared} {v : Value} {o : Obj} {H : Heap → Prop} {Q : Value → Shared → Prop} (B : Begins v o H) (h1 : H s.heap)
    (h : ∀ h', IsEnum h' (s.heap.objs.size + 1) s.heap.objs.size 0 .none → h'.get? s.heap.objs.size = some o → h'.objs.size = s.heap.objs.size + 2 →
      (∀ b o, s.heap.get? b = some o → h'.get? b = some o) → Q (.ref (s.heap.objs.size + 1)) { s with heap := h' }) :
    wpAny (model prog w) A (call (.type "enumerate") [v]) Q E s := by
  refine callType_new F.called_enumerate (by decide) (F.typeCall_enumerate_1 _) (F.newCall_enumerate_1 _) (fun obj => F.args_object_init_2 obj _) F.entry_enumerate_new
    (meets_enum1 B) ⟨h1, ?_⟩
  have hz : (s.heap.push o).objs.size = s.heap.objs.size + 1 := Heap.size_push ..
  show _ ∧ _
  rw [hz]
  have he : IsEnum ((s.heap.push o).push { cls := .type "enumerate", data := .fields #[.none, .bool false, .ref s.heap.objs.size, rawInt 0, .none, .none] }) (s.heap.objs.size + 1) s.heap.objs.size 0 .none := by
    have := Heap.get?_push_size (s.heap.push o) (o := { cls := .type "enumerate", data := .fields #[.none, .bool false, .ref s.heap.objs.size, rawInt 0, .none, .none] }) rfl
    rw [hz] at this; exact this
  refine ⟨⟨_, he, rfl⟩, h _ he (Heap.get?_push_of_some _ (Heap.get?_push_size _ B.free)) (by rw [Heap.size_push, hz]) fun b o x => Heap.get?_push_of_some _ (Heap.get?_push_of_some _ x)⟩
/-- the tuple at a, each item in a new pair -/
def Itet (K : PySem.W.Frag) (a : Addr) : It :=
  ⟨fun i H => ∃ (xs : List V) (x : V), SqT K H a xs ∧ xs[i]? = some x, fun i H v H' => ∃ T x, v = .ref T ∧ H T = none ∧ H' = upd H T (.tup [.int (i : Nat), x]) ∧ ∀ xs, SqT K H a xs → xs[i]? = some x, fun i H => ∃ xs : List V, SqT K H a xs ∧ xs.length = i⟩
theorem turn_enumT {P : Program} {w : World} {K : PySem.W.Frag} {elts : List Expr} {kk : Nat} {tpos : Pos} (a e it : Addr) (hat : a ≠ it) :
    Turn P w K (.Tuple elts kk tpos) (Itet K a) [e, it] e (fun i h => (∃ old, IsEnum h e it ((i : Nat) : Int) old) ∧ h.IsTupleIter it a i ∧ e ≠ it ∧ a ≠ e) where
  mem := by simp
  obj := fun i h st b hb => by
    obtain ⟨⟨old, he⟩, ⟨o, ho, hc, hd⟩, _⟩ := st
    have e' : b = e ∨ b = it := by simpa using hb
    rcases e' with z | z
    · rw [z]; exact ⟨_, he, fun v q => nomatch q⟩
    · rw [z]; exact ⟨o, ho, fun v q => by rw [hd] at q; cases q⟩
  keep := fun i h h' st k => let ⟨⟨old, he⟩, hi, hne⟩ := st; ⟨⟨old, k e (by simp) _ he⟩, hi.at fun o q => k it (by simp) o q, hne⟩
  item := by
    intro X hP hw hK hc i pins s σ H E I hf st hg
    subst hP hw hK
    obtain ⟨⟨old, he⟩, hit, hne, hae⟩ := st
    obtain ⟨xs, x, hq, hx⟩ := hg
    obtain ⟨its, rv, p, hz⟩ := I.tuple hq
    obtain ⟨u, hu, ru⟩ := rv.get hx
    have hel : e < s.heap.objs.size := Heap.lt_size he
    have hil : it < s.heap.objs.size := by obtain ⟨_, q, _⟩ := hit; exact Heap.lt_size q
    have hlt : i < its.toArray.size := by
      have := (List.getElem?_eq_some_iff.mp hu).1
      simpa using this
    refine wpAny_pyNext_enum_itemD (fp := [it, a]) (Draws.tuple (A := X.A.in1) (I.ok.hd hc) it a hat its.toArray) he ⟨hit, show s.heap.IsTuple a its.toArray from p⟩ hlt hne (by simp [hne, Ne.symm hae]) fun x' h' tk hx' ho hst' hT hsz hk => ?_
    have ex : x' = u := by
      have h1 : its.toArray[i]? = some u := by simpa using hu
      rw [h1] at hx'
      exact (Option.some.inj hx').symm
    subst ex
    refine ⟨_, rfl, wpAny_letOwnedTupleGo_enum (s := { s with heap := h', toks := tk + 1 }) ho fun h'' he' sb => ?_⟩
    have hT2 : h''.get? s.heap.objs.size = some { cls := .type "tuple", data := .seq #[.int i tk, x'] } := (sb.2 _ (Nat.ne_of_gt hel)).trans hT
    have new : ObjOk X.prog X.w (upd H s.heap.objs.size (.tup [.int (i : Nat), x])) h'' s.heap.objs.size (.tup [.int (i : Nat), x]) :=
      ⟨by show 2 ≤ sizeLine; decide, [.int i tk, x'], .cons ⟨_, rfl⟩ (.cons ru .nil), ⟨_, hT2, rfl, _, rfl⟩⟩
    have I1 : Inv X pins σ (upd H s.heap.objs.size (.tup [.int (i : Nat), x])) { s with heap := h'', toks := tk + 1 } :=
      I.turnedNew (ch := [e, it]) (fun b ob hb q => (sb.2 b (fun z => hb (by simp [z]))).trans (hk b ob (fun z => hb (by simp [z])) (fun z => hb (by simp [z])) q)) hf (Nat.le_refl _) new
    refine ⟨.ref s.heap.objs.size, _, I1, rfl, ⟨_, x, rfl, I.hok.fresh (Nat.le_refl _), rfl, fun ys hy => by rw [I.tuple_inj hy hq]; exact hx⟩, ⟨⟨x', ?_⟩, hst'.1.at fun o q => (sb.2 it (Ne.symm hne)).trans q, hne, hae⟩, fun b hb => ?_⟩
    · have e1 : ((i + 1 : Nat) : Int) = (i : Int) + 1 := by omega
      rw [e1]; exact he'
    · have hb' : b < s.heap.objs.size := by
        have e' : b = e ∨ b = it := by simpa using hb
        rcases e' with z | z
        · rw [z]; exact hel
        · rw [z]; exact hil
      rw [upd_ne (Nat.ne_of_lt hb')]
      exact (hf b hb).1
  done := by
    intro X hP hw hK hc i pins s σ H E I hf st hg
    subst hP hw hK
    obtain ⟨⟨old, he⟩, hit, hne, hae⟩ := st
    obtain ⟨xs, hq, hx⟩ := hg
    obtain ⟨its, rv, p, hz⟩ := I.tuple hq
    obtain ⟨f0, f1, f2, f3, f4, f5⟩ := hf it (by simp)
    have hl := rv.length
    have hpt : s.heap.IsTuple a its.toArray := p
    have hn : its.toArray.size = i := by
      rw [← hx, hl]; simp
    refine wpAny_pyNext_enum_endD (fp := [it, a]) (n := its.toArray.size) (Draws.tuple (A := X.A.in1) (I.ok.hd hc) it a hat its.toArray) he ⟨by rw [hn]; exact hit, hpt⟩ fun h' eb => ⟨rfl, I.turned (t' := s.toks) (fun b o hb q => eb b o hb q) f0 f1 f3 f4 f5⟩
  self := fun A i s Q E st h => let ⟨⟨_, he⟩, _⟩ := st; wpAny_pyIter_enum he h
def iEnumT (K : PySem.W.Frag) (ta : TA) : TI := fun σ H R => ta σ H fun vs H1 => ∃ a xs, vs = [.ref a] ∧ SqT K H1 a xs ∧ R (Itet K a) H1
theorem pi_enumT {X : Cx} {e : Expr} {ta : TA} {p pos tpos : Pos} {elts : List Expr} {kk : Nat} (hg : Gl X "enumerate") (hm : X.mg "enumerate" = none) (ha : PA X [e] ta) (hs : starEach [e] X.env = [(false, eval e X.env)] := by rfl) :
    PI X (.Tuple elts kk tpos) (.Call (.Name "enumerate" p) [e] [] pos) (iEnumT X.K ta) := by
  refine ⟨fun pins s σ H R I h => ?_⟩
  refine Call_ (ld_blt I hg hm boot_enumerate (PyProof.Rows.callWith_type1 (thn (ha.run pos pins s σ H _ I h) fun us s1 ⟨vs, H1, I1, r1, q1⟩ => ?_) hs rfl))
  obtain ⟨a, xs, ex, hq, q⟩ := q1
  subst ex
  cases r1 with
  | cons r rr =>
    cases rr
    cases r
    obtain ⟨its, rv, p', hz⟩ := I1.tuple hq
    have hpt : s1.heap.IsTuple a its.toArray := p'
    have hal : a < s1.heap.objs.size := p'.lt
    refine call_enum1 (begins_tuple a its.toArray) hpt fun h' he hit hsz hk => wpAny_pyIter_enum he ?_
    have I2 : Inv X pins σ H1 { s1 with heap := h' } := I1.kept (t' := s1.toks) hk
    refine ⟨s1.heap.objs.size + 1, [s1.heap.objs.size + 1, s1.heap.objs.size], _, _, H1, rfl, I2, turn_enumT a (s1.heap.objs.size + 1) s1.heap.objs.size (Nat.ne_of_lt hal), ⟨⟨.none, he⟩, ⟨_, hit, rfl, rfl⟩, Nat.succ_ne_self _, Nat.ne_of_lt (Nat.lt_succ_of_lt hal)⟩, fun b hb => ?_, q⟩
    have e' : b = s1.heap.objs.size + 1 ∨ b = s1.heap.objs.size := by simpa using hb
    have hle : s1.heap.objs.size ≤ b := by
      rcases e' with z | z
      · rw [z]; exact Nat.le_add_right _ _
      · rw [z]; exact Nat.le_refl _
    exact I1.fpOk hle (I1.hok.fresh hle)
theorem for_enumT {K : PySem.W.Frag} {a : Addr} {xs : List V} {g : TG} {tb : TS} {D : Ends} {σ : L2.St} {H : Hp} (Pv : Nat → L2.St → Hp → Prop) (h0 : Pv 0 σ H) (hl : ∀ i σ H, i ≤ xs.length → Pv i σ H → SqT K H a xs)
    (hs : ∀ (i : Nat) x σ H T, xs[i]? = some x → Pv i σ H → H T = none → g (.ref T) σ (upd H T (.tup [.int i, x])) fun σ2 H2 => tb { D with nx := Pv (i + 1), ct := Pv (i + 1), bk := D.nx } σ2 H2) (hd : ∀ σ H, Pv xs.length σ H → D.nx σ H) :
    ∃ W : Nat → Nat → L2.St → Hp → Prop, (∃ m, W 0 m σ H) ∧ ∀ i m σ H, W i m σ H →
      ((Itet K a).stop i H ∧ D.nx σ H) ∨ ((Itet K a).go i H ∧ ∃ N : L2.St → Hp → Prop, (∀ σ' H', N σ' H' → ∃ m', m' < m ∧ W (i + 1) m' σ' H') ∧ ∀ x H', (Itet K a).yld i H x H' → g x σ H' fun σ2 H2 => tb { D with nx := N, ct := N, bk := D.nx } σ2 H2) := by
  refine ⟨fun i m σ H => m = xs.length - i ∧ i ≤ xs.length ∧ Pv i σ H, ⟨xs.length, by simp, Nat.zero_le _, h0⟩, ?_⟩
  rintro i m σ H ⟨rfl, hi, p⟩
  have q := hl i σ H hi p
  by_cases hlt : i < xs.length
  · refine .inr ⟨⟨xs, xs[i], q, by simp [hlt]⟩, Pv (i + 1), fun σ' H' p' => ⟨xs.length - (i + 1), by omega, rfl, hlt, p'⟩, fun x H' y => ?_⟩
    obtain ⟨T, z, e1, e2, e3, y⟩ := y
    subst e1 e3
    exact hs i z σ H T (y xs q) p e2
  · have e : i = xs.length := by omega
    subst e
    exact .inl ⟨⟨xs, q, rfl⟩, hd σ H p⟩
end Lv

namespace X
open PySem PySem.Spec PyProof.Rows L2 Lv
def top (i : Nat) : Stmt := PySem.Challenge.pw_neverleapt_k78_whole_shares_rounded_to_m.main.body.getD i (.Pass ⟨0, 0, 0, 0⟩)
abbrev s_is_integer : Stmt := top 6
abbrev s_is_within : Stmt := top 7
abbrev s_is_from : Stmt := top 8
abbrev s_is_pair : Stmt := top 9
abbrev s_common_divisor : Stmt := top 10
abbrev s_is_share : Stmt := top 11
abbrev s_check_share : Stmt := top 12
abbrev s_check_places : Stmt := top 16
abbrev s_check_how : Stmt := top 17
abbrev s_mark_of : Stmt := top 18
abbrev s_mark : Stmt := top 19
abbrev s_l_pot : Stmt := top 21
abbrev s_l_draw : Stmt := top 22
abbrev s_l_any : Stmt := top 23
abbrev s_l_gcd : Stmt := top 24
abbrev s_l_low : Stmt := top 25
abbrev s_l_pick : Stmt := top 26
abbrev s_l_is_right : Stmt := top 27
abbrev s_law : Stmt := top 28
def dd0 : He.DefD := ⟨("is_integer", none), "is_integer", "is_integer", defArgs s_is_integer, defBody s_is_integer, defScope s_is_integer, [], []⟩
def dd1 : He.DefD := ⟨("is_within", none), "is_within", "is_within", defArgs s_is_within, defBody s_is_within, defScope s_is_within, [], []⟩
def dd2 : He.DefD := ⟨("is_from", none), "is_from", "is_from", defArgs s_is_from, defBody s_is_from, defScope s_is_from, [], []⟩
def dd3 : He.DefD := ⟨("is_pair", none), "is_pair", "is_pair", defArgs s_is_pair, defBody s_is_pair, defScope s_is_pair, [], []⟩
def dd4 : He.DefD := ⟨("common_divisor", none), "common_divisor", "common_divisor", defArgs s_common_divisor, defBody s_common_divisor, defScope s_common_divisor, [], []⟩
def dd5 : He.DefD := ⟨("is_share", none), "is_share", "is_share", defArgs s_is_share, defBody s_is_share, defScope s_is_share, [], []⟩
def dd6 : He.DefD := ⟨("check_share", none), "check_share", "check_share", defArgs s_check_share, defBody s_check_share, defScope s_check_share, [], []⟩
def dd7 : He.DefD := ⟨("check_places", none), "check_places", "check_places", defArgs s_check_places, defBody s_check_places, defScope s_check_places, [], []⟩
def dd8 : He.DefD := ⟨("check_how", none), "check_how", "check_how", defArgs s_check_how, defBody s_check_how, defScope s_check_how, [], []⟩
def dd9 : He.DefD := ⟨("mark_of", none), "mark_of", "mark_of", defArgs s_mark_of, defBody s_mark_of, defScope s_mark_of, [], []⟩
def dd10 : He.DefD := ⟨("mark", none), "mark", "mark", defArgs s_mark, defBody s_mark, defScope s_mark, [], []⟩
def dd11 : He.DefD := ⟨("_law_pot", none), "_law_pot", "_law_pot", defArgs s_l_pot, defBody s_l_pot, defScope s_l_pot, [], []⟩
def dd12 : He.DefD := ⟨("_law_draw", none), "_law_draw", "_law_draw", defArgs s_l_draw, defBody s_l_draw, defScope s_l_draw, [], []⟩
def dd13 : He.DefD := ⟨("_law_any", none), "_law_any", "_law_any", defArgs s_l_any, defBody s_l_any, defScope s_l_any, [], []⟩
def dd14 : He.DefD := ⟨("_law_gcd", none), "_law_gcd", "_law_gcd", defArgs s_l_gcd, defBody s_l_gcd, defScope s_l_gcd, [], []⟩
def dd15 : He.DefD := ⟨("_law_low", none), "_law_low", "_law_low", defArgs s_l_low, defBody s_l_low, defScope s_l_low, [], []⟩
def dd16 : He.DefD := ⟨("_law_pick", none), "_law_pick", "_law_pick", defArgs s_l_pick, defBody s_l_pick, defScope s_l_pick, [], []⟩
def dd17 : He.DefD := ⟨("_law_is_right", none), "_law_is_right", "_law_is_right", defArgs s_l_is_right, defBody s_l_is_right, defScope s_l_is_right, [], []⟩
def dd18 : He.DefD := ⟨("law", none), "law", "law", defArgs s_law, defBody s_law, defScope s_law, [], []⟩
def fn : List He.DefD := [dd0, dd1, dd2, dd3, dd4, dd5, dd6, dd7, dd8, dd9, dd10, dd11, dd12, dd13, dd14, dd15, dd16, dd17, dd18]
def fa0 : List He.Fa := [.glo "is_integer", .glo "is_within", .glo "is_from", .glo "is_pair", .glo "common_divisor", .glo "is_share", .glo "check_share", .glo "check_places", .glo "check_how", .glo "mark_of", .glo "mark", .glo "_law_pot", .glo "_law_draw", .glo "_law_any", .glo "_law_gcd", .glo "_law_low", .glo "_law_pick", .glo "_law_is_right", .glo "law", .glo "LeapError", .glo "NoShare", .glo "NoPlaces", .glo "NoHow", .glo "UNITS", .glo "HOWS", .free "int", .free "abs", .free "len", .free "sum", .free "isinstance"]
def fa1 : List He.Fa := [.free "range", .free "enumerate", .free "divmod", .free "tuple", .free "bool", .free "str"]
def fa : List He.Fa := fa0 ++ fa1
def ex (K : PySem.W.Frag) : Bool := (He.tupB K "UNITS" [.int (1), .int (10), .int (100), .int (1000), .int (10000), .int (100000), .int (1000000)]) && (He.tupB K "HOWS" [.str "down", .str "up", .str "near", .str "even"])
def loose0 : List Str := ["LeapError", "NoShare", "NoPlaces", "NoHow", "is_integer", "is_within", "is_from", "is_pair", "common_divisor", "is_share", "check_share", "UNITS", "HOWS", "check_places", "check_how", "mark_of", "mark", "_law_pot", "_law_draw", "_law_any", "_law_gcd", "_law_low", "_law_pick", "_law_is_right"]
def loose : List Str := loose0
abbrev R : PySem.W.OpenRow := PySem.W.OpenLaw.row PySem.Challenge.rw_neverleapt_k78_whole_shares_rounded_to_m
abbrev hk : PySem.W.Hook := He.hookX 5 fa fn [] [] ex
def ob (s : PySem.W.SharedT) : He.AlX := He.obsX 5 fa fn [] [] ex (HandSHeadRun.getT s)
theorem ob_eq (s : PySem.W.SharedT) : ob s = hk.obs s.abs := He.obsX_eq (HandSHeadRun.getT_eq s)
theorem run (w : World) : HandSHeadRun.RunEq R (PySem.W.view R.prog [28]) hk ob 20000 loose w := by
  intro os
  kernel_rfl
structure Txt (K : PySem.W.Frag) (mg : Str → Option Value) : Prop where
  g_is_integer : mg "is_integer" = some (.ref (He.ga K "is_integer"))
  g_is_within : mg "is_within" = some (.ref (He.ga K "is_within"))
  g_is_from : mg "is_from" = some (.ref (He.ga K "is_from"))
  g_is_pair : mg "is_pair" = some (.ref (He.ga K "is_pair"))
  g_common_divisor : mg "common_divisor" = some (.ref (He.ga K "common_divisor"))
  g_is_share : mg "is_share" = some (.ref (He.ga K "is_share"))
  g_check_share : mg "check_share" = some (.ref (He.ga K "check_share"))
  g_check_places : mg "check_places" = some (.ref (He.ga K "check_places"))
  g_check_how : mg "check_how" = some (.ref (He.ga K "check_how"))
  g_mark_of : mg "mark_of" = some (.ref (He.ga K "mark_of"))
  g_mark : mg "mark" = some (.ref (He.ga K "mark"))
  g_l_pot : mg "_law_pot" = some (.ref (He.ga K "_law_pot"))
  g_l_draw : mg "_law_draw" = some (.ref (He.ga K "_law_draw"))
  g_l_any : mg "_law_any" = some (.ref (He.ga K "_law_any"))
  g_l_gcd : mg "_law_gcd" = some (.ref (He.ga K "_law_gcd"))
  g_l_low : mg "_law_low" = some (.ref (He.ga K "_law_low"))
  g_l_pick : mg "_law_pick" = some (.ref (He.ga K "_law_pick"))
  g_l_is_right : mg "_law_is_right" = some (.ref (He.ga K "_law_is_right"))
  g_law : mg "law" = some (.ref (He.ga K "law"))
  g_LeapError : mg "LeapError" = some (.ref (He.ga K "LeapError"))
  g_NoShare : mg "NoShare" = some (.ref (He.ga K "NoShare"))
  g_NoPlaces : mg "NoPlaces" = some (.ref (He.ga K "NoPlaces"))
  g_NoHow : mg "NoHow" = some (.ref (He.ga K "NoHow"))
  g_UNITS : mg "UNITS" = some (.ref (He.ga K "UNITS"))
  g_HOWS : mg "HOWS" = some (.ref (He.ga K "HOWS"))
  n_int : mg "int" = none
  n_abs : mg "abs" = none
  n_len : mg "len" = none
  n_sum : mg "sum" = none
  n_isinstance : mg "isinstance" = none
  n_range : mg "range" = none
  n_enumerate : mg "enumerate" = none
  n_divmod : mg "divmod" = none
  n_tuple : mg "tuple" = none
  n_bool : mg "bool" = none
  n_str : mg "str" = none
  d_is_integer : ∃ fd, FunD K "is_integer" "is_integer" (defArgs s_is_integer) (defBody s_is_integer) (defScope s_is_integer) [] [] (He.ga K "is_integer") fd
  d_is_within : ∃ fd, FunD K "is_within" "is_within" (defArgs s_is_within) (defBody s_is_within) (defScope s_is_within) [] [] (He.ga K "is_within") fd
  d_is_from : ∃ fd, FunD K "is_from" "is_from" (defArgs s_is_from) (defBody s_is_from) (defScope s_is_from) [] [] (He.ga K "is_from") fd
  d_is_pair : ∃ fd, FunD K "is_pair" "is_pair" (defArgs s_is_pair) (defBody s_is_pair) (defScope s_is_pair) [] [] (He.ga K "is_pair") fd
  d_common_divisor : ∃ fd, FunD K "common_divisor" "common_divisor" (defArgs s_common_divisor) (defBody s_common_divisor) (defScope s_common_divisor) [] [] (He.ga K "common_divisor") fd
  d_is_share : ∃ fd, FunD K "is_share" "is_share" (defArgs s_is_share) (defBody s_is_share) (defScope s_is_share) [] [] (He.ga K "is_share") fd
  d_check_share : ∃ fd, FunD K "check_share" "check_share" (defArgs s_check_share) (defBody s_check_share) (defScope s_check_share) [] [] (He.ga K "check_share") fd
  d_check_places : ∃ fd, FunD K "check_places" "check_places" (defArgs s_check_places) (defBody s_check_places) (defScope s_check_places) [] [] (He.ga K "check_places") fd
  d_check_how : ∃ fd, FunD K "check_how" "check_how" (defArgs s_check_how) (defBody s_check_how) (defScope s_check_how) [] [] (He.ga K "check_how") fd
  d_mark_of : ∃ fd, FunD K "mark_of" "mark_of" (defArgs s_mark_of) (defBody s_mark_of) (defScope s_mark_of) [] [] (He.ga K "mark_of") fd
  d_mark : ∃ fd, FunD K "mark" "mark" (defArgs s_mark) (defBody s_mark) (defScope s_mark) [] [] (He.ga K "mark") fd
  d_l_pot : ∃ fd, FunD K "_law_pot" "_law_pot" (defArgs s_l_pot) (defBody s_l_pot) (defScope s_l_pot) [] [] (He.ga K "_law_pot") fd
  d_l_draw : ∃ fd, FunD K "_law_draw" "_law_draw" (defArgs s_l_draw) (defBody s_l_draw) (defScope s_l_draw) [] [] (He.ga K "_law_draw") fd
  d_l_any : ∃ fd, FunD K "_law_any" "_law_any" (defArgs s_l_any) (defBody s_l_any) (defScope s_l_any) [] [] (He.ga K "_law_any") fd
  d_l_gcd : ∃ fd, FunD K "_law_gcd" "_law_gcd" (defArgs s_l_gcd) (defBody s_l_gcd) (defScope s_l_gcd) [] [] (He.ga K "_law_gcd") fd
  d_l_low : ∃ fd, FunD K "_law_low" "_law_low" (defArgs s_l_low) (defBody s_l_low) (defScope s_l_low) [] [] (He.ga K "_law_low") fd
  d_l_pick : ∃ fd, FunD K "_law_pick" "_law_pick" (defArgs s_l_pick) (defBody s_l_pick) (defScope s_l_pick) [] [] (He.ga K "_law_pick") fd
  d_l_is_right : ∃ fd, FunD K "_law_is_right" "_law_is_right" (defArgs s_l_is_right) (defBody s_l_is_right) (defScope s_l_is_right) [] [] (He.ga K "_law_is_right") fd
  d_law : ∃ fd, FunD K "law" "law" (defArgs s_law) (defBody s_law) (defScope s_law) [] [] (He.ga K "law") fd
  t_UNITS : ∀ H, SqT K H (He.ga K "UNITS") (([.int (1), .int (10), .int (100), .int (1000), .int (10000), .int (100000), .int (1000000)] : List He.Dv).map (He.Dv.v K))
  t_HOWS : ∀ H, SqT K H (He.ga K "HOWS") (([.str "down", .str "up", .str "near", .str "even"] : List He.Dv).map (He.Dv.v K))
theorem txt_of {w : World} {h : Heap} {K : PySem.W.Frag} {mg : Str → Option Value} (X : K.In h) (G : h.Ns mainGlobals mg) (c : He.SaysX fa fn [] [] ex w h K) : Txt K mg := by
  have e0 : ex K = true := c.more
  unfold ex at e0
  simp only [Bool.and_eq_true] at e0
  obtain ⟨b0, b1⟩ := e0
  exact ⟨He.glo_ok X G (c.t.d.fact 0 rfl), He.glo_ok X G (c.t.d.fact 1 rfl), He.glo_ok X G (c.t.d.fact 2 rfl), He.glo_ok X G (c.t.d.fact 3 rfl), He.glo_ok X G (c.t.d.fact 4 rfl), He.glo_ok X G (c.t.d.fact 5 rfl), He.glo_ok X G (c.t.d.fact 6 rfl), He.glo_ok X G (c.t.d.fact 7 rfl), He.glo_ok X G (c.t.d.fact 8 rfl), He.glo_ok X G (c.t.d.fact 9 rfl), He.glo_ok X G (c.t.d.fact 10 rfl), He.glo_ok X G (c.t.d.fact 11 rfl), He.glo_ok X G (c.t.d.fact 12 rfl), He.glo_ok X G (c.t.d.fact 13 rfl), He.glo_ok X G (c.t.d.fact 14 rfl), He.glo_ok X G (c.t.d.fact 15 rfl), He.glo_ok X G (c.t.d.fact 16 rfl), He.glo_ok X G (c.t.d.fact 17 rfl), He.glo_ok X G (c.t.d.fact 18 rfl), He.glo_ok X G (c.t.d.fact 19 rfl), He.glo_ok X G (c.t.d.fact 20 rfl), He.glo_ok X G (c.t.d.fact 21 rfl), He.glo_ok X G (c.t.d.fact 22 rfl), He.glo_ok X G (c.t.d.fact 23 rfl), He.glo_ok X G (c.t.d.fact 24 rfl), He.free_ok X G (c.t.d.fact 25 rfl), He.free_ok X G (c.t.d.fact 26 rfl), He.free_ok X G (c.t.d.fact 27 rfl), He.free_ok X G (c.t.d.fact 28 rfl), He.free_ok X G (c.t.d.fact 29 rfl), He.free_ok X G (c.t.d.fact 30 rfl), He.free_ok X G (c.t.d.fact 31 rfl), He.free_ok X G (c.t.d.fact 32 rfl), He.free_ok X G (c.t.d.fact 33 rfl), He.free_ok X G (c.t.d.fact 34 rfl), He.free_ok X G (c.t.d.fact 35 rfl), c.t.d.def_ 0 (d := dd0) rfl, c.t.d.def_ 1 (d := dd1) rfl, c.t.d.def_ 2 (d := dd2) rfl, c.t.d.def_ 3 (d := dd3) rfl, c.t.d.def_ 4 (d := dd4) rfl, c.t.d.def_ 5 (d := dd5) rfl, c.t.d.def_ 6 (d := dd6) rfl, c.t.d.def_ 7 (d := dd7) rfl, c.t.d.def_ 8 (d := dd8) rfl, c.t.d.def_ 9 (d := dd9) rfl, c.t.d.def_ 10 (d := dd10) rfl, c.t.d.def_ 11 (d := dd11) rfl, c.t.d.def_ 12 (d := dd12) rfl, c.t.d.def_ 13 (d := dd13) rfl, c.t.d.def_ 14 (d := dd14) rfl, c.t.d.def_ 15 (d := dd15) rfl, c.t.d.def_ 16 (d := dd16) rfl, c.t.d.def_ 17 (d := dd17) rfl, c.t.d.def_ 18 (d := dd18) rfl, He.tupB_ok (b0), He.tupB_ok (b1)⟩
end X

namespace X
open PySem PySem.Spec PyProof.Rows L2 Lv
variable {P : Program} {w : World} {K : PySem.W.Frag} {mg : Str → Option Value} {base : Heap}
def sp_is_integer (K : PySem.W.Frag) : Sp := fun vs H Q _ => ∃ n : Int, vs = [.int n] ∧ Q (.bl true) H
theorem sc_is_integer : FnScope ["thing"] ["thing"] (defScope s_is_integer) := ⟨rfl, rfl, rfl, by decide +kernel, rfl, by decide +kernel, by decide +kernel⟩
theorem ok_is_integer (T : Txt K mg) : ∃ fd, Dn P w K mg base (L2.CX P w) 1 "is_integer" ["thing"] (sp_is_integer K) fd := by
  obtain ⟨fd, F⟩ := T.d_is_integer
  refine ⟨fd, F.ok sc_is_integer (fun vs H Q E h => ?_) (fun cdv A outer s H vs Q E hr h => ?_), T.g_is_integer, F.kp, F.bindsN fun _ _ _ _ _ _ us hl => match us, hl with | [_], _ => rfl, Lv.fun_lk F⟩
  · obtain ⟨_, rfl, _⟩ := h
    rfl
  · have hu := hu_of hr
    refine ⟨_, PSs.nox (pss_one (ps_ret (pe_and (pe_callB call_isi (by rfl) T.n_isinstance (by decide +kernel) (pa_cons (pv 0) (pa_cons (pe_bltn (v := .ty "int") (by rfl) T.n_int (by decide +kernel) rfl) pa_nil))) (pe_one (pe_not (pe_callB call_isi (by rfl) T.n_isinstance (by decide +kernel) (pa_cons (pv 0) (pa_cons (pe_bltn (v := .ty "bool") (by rfl) T.n_bool (by decide +kernel) rfl) pa_nil)))))))), ?_⟩
    obtain ⟨n, rfl, k⟩ := h
    exact ⟨_, rfl, _, _, _, _, true, rfl, .ty _, .base (.int n), kit_ty (by decide +kernel), true, rfl, (if_pos rfl).mpr ⟨_, rfl, _, _, _, _, false, rfl, .ty _, .base (.int n), kit_ty (by decide +kernel), false, rfl, k⟩⟩
def sp_is_within (K : PySem.W.Frag) : Sp := fun vs H Q _ => ∃ n a b : Int, vs = [.int n, .int a, .int b] ∧ Q (.bl (decide (a ≤ n ∧ n ≤ b))) H
theorem sc_is_within : FnScope ["thing", "least", "most"] ["thing", "least", "most"] (defScope s_is_within) := ⟨rfl, rfl, rfl, by decide +kernel, rfl, by decide +kernel, by decide +kernel⟩
theorem ok_is_within (T : Txt K mg) {fd_is_integer : FuncData} (G_is_integer : Dn P w K mg base (L2.CX P w) 1 "is_integer" ["thing"] (sp_is_integer K) fd_is_integer) : ∃ fd, Dn P w K mg base (L2.CX P w) 2 "is_within" ["thing", "least", "most"] (sp_is_within K) fd := by
  obtain ⟨fd, F⟩ := T.d_is_within
  refine ⟨fd, F.ok sc_is_within (fun vs H Q E h => ?_) (fun cdv A outer s H vs Q E hr h => ?_), T.g_is_within, F.kp, F.bindsN fun _ _ _ _ _ _ us hl => match us, hl with | [_, _, _], _ => rfl, Lv.fun_lk F⟩
  · obtain ⟨_, _, _, rfl, _⟩ := h
    rfl
  · have hu := hu_of hr
    have hr_is_integer : Room 1 _ := hr.mono (by decide)
    refine ⟨_, PSs.nox (pss_one (ps_ret (pe_and (pe_call G_is_integer.ok hr_is_integer rfl G_is_integer.mg G_is_integer.kp G_is_integer.b .nil passL (pa_cons (pv 0) pa_nil)) (pe_one (pe_chain op_le op_le (pv 1) (pv 0) (pv 2)))))), ?_⟩
    obtain ⟨n, a, b, rfl, k⟩ := h
    refine ⟨_, rfl, n, rfl, true, rfl, (if_pos rfl).mpr ?_⟩
    refine ⟨_, rfl, _, rfl, a, n, rfl, rfl, _, rfl, ?_⟩
    by_cases h1 : a ≤ n
    · refine (if_pos (decide_eq_true h1)).mpr ⟨_, rfl, n, b, rfl, rfl, ?_⟩
      have e : decide (a ≤ n ∧ n ≤ b) = decide (n ≤ b) := by simp [h1]
      rw [e] at k
      exact k
    · refine (if_neg (by simp [h1])).mpr ?_
      have e : decide (a ≤ n ∧ n ≤ b) = false := by simp [h1]
      rw [e] at k
      exact k
def sp_is_from (K : PySem.W.Frag) : Sp := fun vs H Q _ => ∃ n a : Int, vs = [.int n, .int a] ∧ Q (.bl (decide (a ≤ n))) H
theorem sc_is_from : FnScope ["thing", "least"] ["thing", "least"] (defScope s_is_from) := ⟨rfl, rfl, rfl, by decide +kernel, rfl, by decide +kernel, by decide +kernel⟩
theorem ok_is_from (T : Txt K mg) {fd_is_integer : FuncData} (G_is_integer : Dn P w K mg base (L2.CX P w) 1 "is_integer" ["thing"] (sp_is_integer K) fd_is_integer) : ∃ fd, Dn P w K mg base (L2.CX P w) 2 "is_from" ["thing", "least"] (sp_is_from K) fd := by
  obtain ⟨fd, F⟩ := T.d_is_from
  refine ⟨fd, F.ok sc_is_from (fun vs H Q E h => ?_) (fun cdv A outer s H vs Q E hr h => ?_), T.g_is_from, F.kp, F.bindsN fun _ _ _ _ _ _ us hl => match us, hl with | [_, _], _ => rfl, Lv.fun_lk F⟩
  · obtain ⟨_, _, rfl, _⟩ := h
    rfl
  · have hu := hu_of hr
    have hr_is_integer : Room 1 _ := hr.mono (by decide)
    refine ⟨_, PSs.nox (pss_one (ps_ret (pe_and (pe_call G_is_integer.ok hr_is_integer rfl G_is_integer.mg G_is_integer.kp G_is_integer.b .nil passL (pa_cons (pv 0) pa_nil)) (pe_one (pe_cmpR op_ge (pv 0) (pv 1) (nomark _)))))), ?_⟩
    obtain ⟨n, a, rfl, k⟩ := h
    exact ⟨_, rfl, n, rfl, true, rfl, (if_pos rfl).mpr ⟨_, rfl, _, rfl, n, a, rfl, rfl, k⟩⟩
def sp_is_pair (K : PySem.W.Frag) : Sp := fun vs H Q _ => ∃ (p : Addr) (x y : V), vs = [.ref p] ∧ H p = some (.tup [x, y]) ∧ Q (.bl true) H
theorem sc_is_pair : FnScope ["thing"] ["thing"] (defScope s_is_pair) := ⟨rfl, rfl, rfl, by decide +kernel, rfl, by decide +kernel, by decide +kernel⟩
theorem ok_is_pair (T : Txt K mg) : ∃ fd, Dn P w K mg base (L2.CX P w) 1 "is_pair" ["thing"] (sp_is_pair K) fd := by
  obtain ⟨fd, F⟩ := T.d_is_pair
  refine ⟨fd, F.ok sc_is_pair (fun vs H Q E h => ?_) (fun cdv A outer s H vs Q E hr h => ?_), T.g_is_pair, F.kp, F.bindsN fun _ _ _ _ _ _ us hl => match us, hl with | [_], _ => rfl, Lv.fun_lk F⟩
  · obtain ⟨_, _, _, rfl, _⟩ := h
    rfl
  · have hu := hu_of hr
    refine ⟨_, PSs.nox (pss_one (ps_ret (pe_and (pe_callB call_isi (by rfl) T.n_isinstance (by decide +kernel) (pa_cons (pv 0) (pa_cons (pe_bltn (v := .ty "tuple") (by rfl) T.n_tuple (by decide +kernel) rfl) pa_nil))) (pe_one (pe_cmpR op_eq (pe_callB call_len (by rfl) T.n_len PySem.boot_len (pa_cons (pv 0) pa_nil)) pe_int (nomark _)))))), ?_⟩
    obtain ⟨p, x, y, rfl, hp, k⟩ := h
    exact ⟨_, rfl, _, _, _, _, true, rfl, .ty _, .base (.tup hp), kit_ty (by decide +kernel), true, rfl, (if_pos rfl).mpr ⟨_, rfl, _, _, rfl, .inr ⟨_, sqT hp, rfl⟩, rfl, k⟩⟩
def sp_common_divisor (K : PySem.W.Frag) : Sp := fun vs H Q _ => ∃ (a b : Int), vs = [.int a, .int b] ∧ Q (.int (Int.gcd a b : Nat)) H
theorem sc_common_divisor : FnScope ["one", "other"] ["one", "other"] (defScope s_common_divisor) := ⟨rfl, rfl, rfl, by decide +kernel, rfl, by decide +kernel, by decide +kernel⟩
theorem ok_common_divisor (T : Txt K mg) : ∃ fd, Dn P w K mg base (L2.CX P w) 1 "common_divisor" ["one", "other"] (sp_common_divisor K) fd := by
  obtain ⟨fd, F⟩ := T.d_common_divisor
  refine ⟨fd, F.ok sc_common_divisor (fun vs H Q E h => ?_) (fun cdv A outer s H vs Q E hr h => ?_), T.g_common_divisor, F.kp, F.bindsN fun _ _ _ _ _ _ us hl => match us, hl with | [_, _], _ => rfl, Lv.fun_lk F⟩
  · obtain ⟨_, _, rfl, _⟩ := h
    rfl
  · have hu := hu_of hr
    refine ⟨_, PSs.nox (pss_cons (ps_set (i := 0) sc_common_divisor.nd rfl (Or.inl rfl) (pe_callB call_abs (by rfl) T.n_abs (by decide +kernel) (pa_cons (pv 0) pa_nil)))
      (pss_cons (ps_set (i := 1) sc_common_divisor.nd rfl (Or.inl rfl) (pe_callB call_abs (by rfl) T.n_abs (by decide +kernel) (pa_cons (pv 1) pa_nil)))
      (pss_cons (ps_while PassesOwn.never (pt_cmpR op_gt (pv 1) pe_int (nomark _)) (pss_one (ps_par (i := 0) (j := 1) rfl sc_common_divisor.nd rfl rfl (by decide) rfl rfl (pa_cons (pv 1) (pa_cons (pe_op op_mod (pv 0) (pv 1)) pa_nil)) rfl)))
      (pss_one (ps_ret (pv 0)))))), ?_⟩
    obtain ⟨a, b, rfl, k⟩ := h
    refine ⟨_, rfl, _, rfl, _, rfl, _, rfl, ?_⟩
    refine ⟨fun m σ H' => H' = H ∧ ∃ x y : Nat, σ = [some (.int x), some (.int y)] ∧ m = y ∧ Nat.gcd x y = Int.gcd a b, ⟨_, rfl, a.natAbs, b.natAbs, ?_, rfl, rfl⟩, ?_⟩
    · rw [abs_if, abs_if]; rfl
    · rintro m σ H' ⟨eH, x, y, rfl, rfl, e⟩
      subst eH
      refine ⟨_, rfl, _, _, rfl, rfl, _, rfl, ?_⟩
      by_cases h : (0 : Int) < (m : Int)
      · refine itT h ⟨fun σ' H2 => H2 = H' ∧ σ' = [some (.int (m : Nat)), some (.int ((x % m : Nat) : Int))], ?_, ?_⟩
        · rintro σ' H2 ⟨rfl, rfl⟩
          exact ⟨x % m, Nat.mod_lt _ (by omega), rfl, _, _, rfl, rfl, by rw [gcd_turn]; exact e⟩
        · exact ⟨_, rfl, _, rfl, _, rfl, _, _, rfl, rfl, h, _, _, rfl, rfl, rfl⟩
      · refine itF h ?_
        have e0 : m = 0 := by omega
        subst e0
        rw [Nat.gcd_zero_right] at e
        refine ⟨_, rfl, ?_⟩
        rw [e]
        exact k
def sp_is_share (K : PySem.W.Frag) : Sp := fun vs H Q _ => ∃ (p : Addr) (a b : Int), vs = [.ref p] ∧ H p = some (.tup [.int a, .int b]) ∧ 1 ≤ b ∧ Int.gcd a b = 1 ∧ Q (.bl true) H
theorem sc_is_share : FnScope ["thing"] ["thing"] (defScope s_is_share) := ⟨rfl, rfl, rfl, by decide +kernel, rfl, by decide +kernel, by decide +kernel⟩
theorem ok_is_share (T : Txt K mg) {fd_is_pair : FuncData} (G_is_pair : Dn P w K mg base (L2.CX P w) 1 "is_pair" ["thing"] (sp_is_pair K) fd_is_pair) {fd_is_integer : FuncData} (G_is_integer : Dn P w K mg base (L2.CX P w) 1 "is_integer" ["thing"] (sp_is_integer K) fd_is_integer) {fd_is_from : FuncData} (G_is_from : Dn P w K mg base (L2.CX P w) 2 "is_from" ["thing", "least"] (sp_is_from K) fd_is_from) {fd_common_divisor : FuncData} (G_common_divisor : Dn P w K mg base (L2.CX P w) 1 "common_divisor" ["one", "other"] (sp_common_divisor K) fd_common_divisor) : ∃ fd, Dn P w K mg base (L2.CX P w) 3 "is_share" ["thing"] (sp_is_share K) fd := by
  obtain ⟨fd, F⟩ := T.d_is_share
  refine ⟨fd, F.ok sc_is_share (fun vs H Q E h => ?_) (fun cdv A outer s H vs Q E hr h => ?_), T.g_is_share, F.kp, F.bindsN fun _ _ _ _ _ _ us hl => match us, hl with | [_], _ => rfl, Lv.fun_lk F⟩
  · obtain ⟨_, _, _, rfl, _⟩ := h
    rfl
  · have hu := hu_of hr
    have hr_is_pair : Room 1 _ := hr.mono (by decide)
    have hr_is_integer : Room 1 _ := hr.mono (by decide)
    have hr_is_from : Room 2 _ := hr.mono (by decide)
    have hr_common_divisor : Room 1 _ := hr.mono (by decide)
    refine ⟨_, PSs.nox (pss_cons (ps_if (PW.pt (pw_or (pt_not (pt_val (pe_call G_is_pair.ok hr_is_pair rfl G_is_pair.mg G_is_pair.kp G_is_pair.b .nil passL (pa_cons (pv 0) pa_nil)))) (pw_or (pt_not (pt_val (pe_call G_is_integer.ok hr_is_integer rfl G_is_integer.mg G_is_integer.kp G_is_integer.b .nil passL (pa_cons (pe_ix ix_tup (pv 0) pe_int (fun _ _ => rfl)) pa_nil)))) (pw_or1 (pt_not (pt_val (pe_call G_is_from.ok hr_is_from rfl G_is_from.mg G_is_from.kp G_is_from.b .nil passL (pa_cons (pe_ix ix_tup (pv 0) pe_int (fun _ _ => rfl)) (pa_cons pe_int pa_nil))))))))) (pss_one (ps_ret pe_bl)) pss_nil)
      (pss_one (ps_ret (pe_cmpR op_eq (pe_call G_common_divisor.ok hr_common_divisor rfl G_common_divisor.mg G_common_divisor.kp G_common_divisor.b .nil passL (pa_cons (pe_ix ix_tup (pv 0) pe_int (fun _ _ => rfl)) (pa_cons (pe_ix ix_tup (pv 0) pe_int (fun _ _ => rfl)) pa_nil))) pe_int (nomark _))))), ?_⟩
    obtain ⟨p, a, b, rfl, hp, hb, hg, k⟩ := h
    exact ⟨_, rfl, p, _, _, rfl, hp, true, rfl, iteF ⟨_, rfl, p, _, 0, _, rfl, rfl, sqT hp, rfl, a, rfl, true, rfl, iteF ⟨_, rfl, p, _, 1, _, rfl, rfl, sqT hp, rfl, b, 1, rfl, true, by
      rw [decide_eq_true hb], iteF ⟨_, rfl, p, _, 0, _, rfl, rfl, sqT hp, rfl, _, rfl, p, _, 1, _, rfl, rfl, sqT hp, rfl, a, b, rfl, rfl, by
      rw [hg]; exact k⟩⟩⟩⟩
def sp_check_share (K : PySem.W.Frag) : Sp := fun vs H Q _ => ∃ (p : Addr) (a b : Int), vs = [.ref p] ∧ H p = some (.tup [.int a, .int b]) ∧ 1 ≤ b ∧ Int.gcd a b = 1 ∧ Q .non H
theorem sc_check_share : FnScope ["thing"] ["thing"] (defScope s_check_share) := ⟨rfl, rfl, rfl, by decide +kernel, rfl, by decide +kernel, by decide +kernel⟩
theorem ok_check_share (T : Txt K mg) {fd_is_share : FuncData} (G_is_share : Dn P w K mg base (L2.CX P w) 3 "is_share" ["thing"] (sp_is_share K) fd_is_share) : ∃ fd, Dn P w K mg base (L2.CX P w) 4 "check_share" ["thing"] (sp_check_share K) fd := by
  obtain ⟨fd, F⟩ := T.d_check_share
  refine ⟨fd, F.ok sc_check_share (fun vs H Q E h => ?_) (fun cdv A outer s H vs Q E hr h => ?_), T.g_check_share, F.kp, F.bindsN fun _ _ _ _ _ _ us hl => match us, hl with | [_], _ => rfl, Lv.fun_lk F⟩
  · obtain ⟨_, _, _, rfl, _⟩ := h
    rfl
  · have hu := hu_of hr
    have hr_is_share : Room 3 _ := hr.mono (by decide)
    refine ⟨_, PSs.nox (pss_one (ps_if (pt_not (pt_val (pe_call G_is_share.ok hr_is_share rfl G_is_share.mg G_is_share.kp G_is_share.b .nil passL (pa_cons (pv 0) pa_nil)))) (pss_one ps_never) pss_nil)), ?_⟩
    obtain ⟨p, a, b, rfl, hp, hb, hg, k⟩ := h
    exact ⟨_, rfl, p, a, b, rfl, hp, hb, hg, true, rfl, iteF k⟩
def sp_check_places (K : PySem.W.Frag) : Sp := fun vs H Q _ => ∃ (n : Int), vs = [.int n] ∧ 0 ≤ n ∧ n ≤ 6 ∧ Q .non H
theorem sc_check_places : FnScope ["thing"] ["thing"] (defScope s_check_places) := ⟨rfl, rfl, rfl, by decide +kernel, rfl, by decide +kernel, by decide +kernel⟩
theorem ok_check_places (T : Txt K mg) {fd_is_within : FuncData} (G_is_within : Dn P w K mg base (L2.CX P w) 2 "is_within" ["thing", "least", "most"] (sp_is_within K) fd_is_within) : ∃ fd, Dn P w K mg base (L2.CX P w) 3 "check_places" ["thing"] (sp_check_places K) fd := by
  obtain ⟨fd, F⟩ := T.d_check_places
  refine ⟨fd, F.ok sc_check_places (fun vs H Q E h => ?_) (fun cdv A outer s H vs Q E hr h => ?_), T.g_check_places, F.kp, F.bindsN fun _ _ _ _ _ _ us hl => match us, hl with | [_], _ => rfl, Lv.fun_lk F⟩
  · obtain ⟨_, rfl, _⟩ := h
    rfl
  · have hu := hu_of hr
    have hr_is_within : Room 2 _ := hr.mono (by decide)
    refine ⟨_, PSs.nox (pss_one (ps_if (pt_not (pt_val (pe_call G_is_within.ok hr_is_within rfl G_is_within.mg G_is_within.kp G_is_within.b .nil passL (pa_cons (pv 0) (pa_cons pe_int (pa_cons (pe_op op_sub (pe_callB call_len (by rfl) T.n_len PySem.boot_len (pa_cons (pe_glob (v := .ref (He.ga K "UNITS")) rfl T.g_UNITS rfl) pa_nil)) pe_int) pa_nil)))))) (pss_one ps_never) pss_nil)), ?_⟩
    obtain ⟨n, rfl, h0, h6, k⟩ := h
    refine ⟨_, rfl, _, _, rfl, .inr ⟨_, T.t_UNITS H, rfl⟩, _, _, rfl, rfl, n, 0, 6, rfl, true, ?_, iteF k⟩
    rw [decide_eq_true ⟨h0, h6⟩]
/-- the ways to round -/
def hows : List Str := ["down", "up", "near", "even"]
def sp_check_how (K : PySem.W.Frag) : Sp := fun vs H Q _ => ∃ (z : Str), vs = [.str z] ∧ z ∈ hows ∧ Q .non H
theorem sc_check_how : FnScope ["thing"] ["thing"] (defScope s_check_how) := ⟨rfl, rfl, rfl, by decide +kernel, rfl, by decide +kernel, by decide +kernel⟩
theorem ok_check_how (T : Txt K mg) : ∃ fd, Dn P w K mg base (L2.CX P w) 1 "check_how" ["thing"] (sp_check_how K) fd := by
  obtain ⟨fd, F⟩ := T.d_check_how
  refine ⟨fd, F.ok sc_check_how (fun vs H Q E h => ?_) (fun cdv A outer s H vs Q E hr h => ?_), T.g_check_how, F.kp, F.bindsN fun _ _ _ _ _ _ us hl => match us, hl with | [_], _ => rfl, Lv.fun_lk F⟩
  · obtain ⟨_, rfl, _⟩ := h
    rfl
  · have hu := hu_of hr
    refine ⟨_, PSs.nox (pss_one (ps_if (PW.pt (pw_or (pt_not (pt_val (pe_callB call_isi (by rfl) T.n_isinstance (by decide +kernel) (pa_cons (pv 0) (pa_cons (pe_bltn (v := .ty "str") (by rfl) T.n_str (by decide +kernel) rfl) pa_nil))))) (pw_or1 (pt_cmpR op_notIn_seq (pv 0) (pe_glob (v := .ref (He.ga K "HOWS")) rfl T.g_HOWS rfl) (by rfl))))) (pss_one ps_never) pss_nil)), ?_⟩
    obtain ⟨z, rfl, hz, k⟩ := h
    refine ⟨_, rfl, _, _, _, _, true, rfl, .ty _, .base (.str z), kit_ty (by decide +kernel), true, rfl, iteF ?_⟩
    refine ⟨_, rfl, _, _, rfl, .inr (T.t_HOWS H), rfl, rfl, ?_⟩
    refine ⟨false, ?_, iteF k⟩
    simp only [hows, List.mem_cons, List.not_mem_nil, or_false] at hz
    show V.bl (!inV (V.str z) [V.str "down", V.str "up", V.str "near", V.str "even"]) = V.bl false
    rcases hz with rfl | rfl | rfl | rfl <;> decide +kernel
def b2 (b : Bool) : Int := if b = true then 1 else 0
/-- the mark of p by t in parts of u -/
def markOf (p t u : Int) (z : Str) : Int :=
  if z = "down" then p * u / t else if z = "up" then p * u / t + b2 (decide (0 < p * u % t)) else if z = "near" then p * u / t + b2 (decide (t ≤ 2 * (p * u % t)))
  else p * u / t + b2 (decide (t < 2 * (p * u % t)) || (decide (2 * (p * u % t) = t) && decide (p * u / t % 2 = 1)))
theorem divP {i j : Int} (h : 0 < j) (hj : j.natAbs < 2 ^ 1000) : CDivP i j := ⟨h, PyProof.noPylong_of_log2 (Nat.lt_trans (PySem.Flt.log2_lt_of (by decide) hj) (by decide))⟩
def sp_mark_of (K : PySem.W.Frag) : Sp := fun vs H Q _ => ∃ (p t u : Int) (z : Str), vs = [.int p, .int t, .int u, .str z] ∧ 0 < t ∧ p.natAbs < 2 ^ 1000 ∧ t.natAbs < 2 ^ 1000 ∧ u.natAbs < 2 ^ 1000 ∧ ∀ H', Ex H H' → Q (.int (markOf p t u z)) H'
theorem sc_mark_of : FnScope ["points", "tries", "unit", "how", "low", "rest"] ["points", "tries", "unit", "how"] (defScope s_mark_of) := ⟨rfl, rfl, rfl, by decide +kernel, rfl, by decide +kernel, by decide +kernel⟩
theorem ok_mark_of (T : Txt K mg) : ∃ fd, Dn P w K mg base (L2.CX P w) 1 "mark_of" ["points", "tries", "unit", "how"] (sp_mark_of K) fd := by
  obtain ⟨fd, F⟩ := T.d_mark_of
  refine ⟨fd, F.ok sc_mark_of (fun vs H Q E h => ?_) (fun cdv A outer s H vs Q E hr h => ?_), T.g_mark_of, F.kp, F.bindsN fun _ _ _ _ _ _ us hl => match us, hl with | [_, _, _, _], _ => rfl, Lv.fun_lk F⟩
  · obtain ⟨_, _, _, _, rfl, _⟩ := h
    rfl
  · have hu := hu_of hr
    refine ⟨_, PSs.nox (pss_cons (ps_asg (pe_callB call_divmodW (by rfl) T.n_divmod (by decide +kernel) (pa_cons (pe_op op_mulW (pv 0) (pv 2)) (pa_cons (pv 1) pa_nil))) (pg_tup rfl (pgs_cons (pg_name (i := 4) sc_mark_of.nd rfl (Or.inl rfl)) (pgs_cons (pg_name (i := 5) sc_mark_of.nd rfl (Or.inl rfl)) pgs_nil))))
      (pss_cons (ps_if (pt_cmpR op_eq (pv 3) pe_str (nomark _)) (pss_one (ps_ret (pv 4))) pss_nil)
      (pss_cons (ps_if (pt_cmpR op_eq (pv 3) pe_str (nomark _)) (pss_one (ps_ret (pe_op op_add (pv 4) (pe_callTy call_int1 (by rfl) T.n_int (by decide +kernel) (pa_cons (pe_cmpR op_gt (pv 5) pe_int (nomark _)) pa_nil))))) pss_nil)
      (pss_cons (ps_if (pt_cmpR op_eq (pv 3) pe_str (nomark _)) (pss_one (ps_ret (pe_op op_add (pv 4) (pe_callTy call_int1 (by rfl) T.n_int (by decide +kernel) (pa_cons (pe_cmpR op_ge (pe_op op_mul pe_int (pv 5)) (pv 1) (nomark _)) pa_nil))))) pss_nil)
      (pss_one (ps_ret (pe_op op_add (pv 4) (pe_callTy call_int1 (by rfl) T.n_int (by decide +kernel) (pa_cons (pe_or (pe_cmpR op_gt (pe_op op_mul pe_int (pv 5)) (pv 1) (nomark _)) (pe_one (pe_and (pe_cmpR op_eq (pe_op op_mul pe_int (pv 5)) (pv 1) (nomark _)) (pe_one (pe_cmpR op_eq (pe_op op_mod (pv 4) pe_int) pe_int (nomark _)))))) pa_nil))))))))), ?_⟩
    obtain ⟨p, t, u, z, rfl, ht, sp, st, su, k⟩ := h
    refine ⟨_, rfl, _, rfl, _, _, rfl, rfl, mulW sp su, _, rfl, _, _, rfl, divP ht st, fun d hd => ?_⟩
    refine ⟨d, _, rfl, sqT upd_same, rfl, _, _, rfl, _, _, rfl, rfl, ?_⟩
    have k2 := k _ (Ex.new (o := .tup [.int (p * u / t), .int (p * u % t)]) hd)
    clear k
    refine ⟨_, rfl, rfl, _, rfl, ?_⟩
    by_cases hz : z = "down"
    · refine itT (congrArg V.str hz) ⟨_, rfl, ?_⟩
      unfold markOf at k2
      rw [if_pos hz] at k2
      exact k2
    refine itF (fun q => hz (V.str.inj q)) ⟨_, rfl, rfl, _, rfl, ?_⟩
    by_cases hz2 : z = "up"
    · refine itT (congrArg V.str hz2) ⟨_, rfl, _, rfl, _, _, rfl, rfl, .inr ⟨_, rfl, _, _, rfl, rfl, ?_⟩⟩
      unfold markOf at k2
      rw [if_neg hz, if_pos hz2] at k2
      exact k2
    refine itF (fun q => hz2 (V.str.inj q)) ⟨_, rfl, rfl, _, rfl, ?_⟩
    by_cases hz3 : z = "near"
    · refine itT (congrArg V.str hz3) ⟨_, rfl, _, rfl, _, _, rfl, rfl, .inl ⟨by decide, by decide⟩, _, rfl, _, _, rfl, rfl, .inr ⟨_, rfl, _, _, rfl, rfl, ?_⟩⟩
      unfold markOf at k2
      rw [if_neg hz, if_neg hz2, if_pos hz3] at k2
      exact k2
    refine itF (fun q => hz3 (V.str.inj q)) ⟨_, rfl, _, rfl, _, _, rfl, rfl, .inl ⟨by decide, by decide⟩, _, rfl, _, _, rfl, rfl, _, rfl, ?_⟩
    unfold markOf at k2
    rw [if_neg hz, if_neg hz2, if_neg hz3] at k2
    by_cases h1 : t < 2 * (p * u % t)
    · refine itT h1 (.inr ⟨_, rfl, _, _, rfl, rfl, ?_⟩)
      rw [decide_eq_true h1, Bool.true_or] at k2
      exact k2
    rw [decide_eq_false h1, Bool.false_or] at k2
    refine itF h1 ⟨_, rfl, _, _, rfl, rfl, .inl ⟨by decide, by decide⟩, _, rfl, rfl, _, rfl, ?_⟩
    by_cases h2 : 2 * (p * u % t) = t
    · rw [decide_eq_true h2, Bool.true_and] at k2
      refine itT (congrArg V.int h2) ⟨_, rfl, _, _, rfl, rfl, (by show (0 : Int) < 2; decide), rfl, .inr ⟨_, rfl, _, _, rfl, rfl, ?_⟩⟩
      have e : decide (V.int (p * u / t % 2) = V.int 1) = decide (p * u / t % 2 = 1) := by
        by_cases q : p * u / t % 2 = 1
        · rw [decide_eq_true q, decide_eq_true (congrArg V.int q)]
        · rw [decide_eq_false q, decide_eq_false (fun z => q (V.int.inj z))]
      show Q (V.int (p * u / t + (if decide (V.int (p * u / t % 2) = V.int 1) = true then 1 else 0))) _
      rw [e]
      exact k2
    · rw [decide_eq_false h2, Bool.false_and] at k2
      exact itF (fun q => h2 (V.int.inj q)) (.inr ⟨_, rfl, _, _, rfl, rfl, k2⟩)
def units : List Int := [1, 10, 100, 1000, 10000, 100000, 1000000]
def sp_mark (K : PySem.W.Frag) : Sp := fun vs H Q _ => ∃ (s : Addr) (a b n : Int) (z : Str) (u : Int), vs = [.ref s, .int n, .str z] ∧ H s = some (.tup [.int a, .int b]) ∧ 1 ≤ b ∧ Int.gcd a b = 1 ∧ a.natAbs < 2 ^ 1000 ∧ b.natAbs < 2 ^ 1000 ∧ 0 ≤ n ∧ n ≤ 6 ∧ units[n.toNat]? = some u ∧ z ∈ hows ∧
  ∀ H', Ex H H' → Q (.int (markOf a b u z)) H'
theorem units_at {K : PySem.W.Frag} {n u : Int} (h0 : 0 ≤ n) (h : units[n.toNat]? = some u) : atI (([.int 1, .int 10, .int 100, .int 1000, .int 10000, .int 100000, .int 1000000] : List He.Dv).map (He.Dv.v K)) n = some (.int u) := by
  have e : (n.toNat : Int) = n := by omega
  rw [← e]
  refine atI_nat ?_
  show (units.map V.int)[n.toNat]? = some (V.int u)
  rw [List.getElem?_map, h]
  rfl
theorem units_small {n : Nat} {u : Int} (h : units[n]? = some u) : 1 ≤ u ∧ u ≤ 1000000 := by
  have hm := List.mem_of_getElem? h
  simp only [units, List.mem_cons, List.not_mem_nil, or_false] at hm
  omega
theorem sc_mark : FnScope ["share", "places", "how"] ["share", "places", "how"] (defScope s_mark) := ⟨rfl, rfl, rfl, by decide +kernel, rfl, by decide +kernel, by decide +kernel⟩
theorem ok_mark (T : Txt K mg) {fd_check_share : FuncData} (G_check_share : Dn P w K mg base (L2.CX P w) 4 "check_share" ["thing"] (sp_check_share K) fd_check_share) {fd_check_places : FuncData} (G_check_places : Dn P w K mg base (L2.CX P w) 3 "check_places" ["thing"] (sp_check_places K) fd_check_places) {fd_check_how : FuncData} (G_check_how : Dn P w K mg base (L2.CX P w) 1 "check_how" ["thing"] (sp_check_how K) fd_check_how) {fd_mark_of : FuncData} (G_mark_of : Dn P w K mg base (L2.CX P w) 1 "mark_of" ["points", "tries", "unit", "how"] (sp_mark_of K) fd_mark_of) : ∃ fd, Dn P w K mg base (L2.CX P w) 5 "mark" ["share", "places", "how"] (sp_mark K) fd := by
  obtain ⟨fd, F⟩ := T.d_mark
  refine ⟨fd, F.ok sc_mark (fun vs H Q E h => ?_) (fun cdv A outer s H vs Q E hr h => ?_), T.g_mark, F.kp, F.bindsN fun _ _ _ _ _ _ us hl => match us, hl with | [_, _, _], _ => rfl, Lv.fun_lk F⟩
  · obtain ⟨_, _, _, _, _, _, rfl, _⟩ := h
    rfl
  · have hu := hu_of hr
    have hr_check_share : Room 4 _ := hr.mono (by decide)
    have hr_check_places : Room 3 _ := hr.mono (by decide)
    have hr_check_how : Room 1 _ := hr.mono (by decide)
    have hr_mark_of : Room 1 _ := hr.mono (by decide)
    refine ⟨_, PSs.nox (pss_cons (ps_expr (pe_call G_check_share.ok hr_check_share rfl G_check_share.mg G_check_share.kp G_check_share.b .nil passL (pa_cons (pv 0) pa_nil)))
      (pss_cons (ps_expr (pe_call G_check_places.ok hr_check_places rfl G_check_places.mg G_check_places.kp G_check_places.b .nil passL (pa_cons (pv 1) pa_nil)))
      (pss_cons (ps_expr (pe_call G_check_how.ok hr_check_how rfl G_check_how.mg G_check_how.kp G_check_how.b .nil passL (pa_cons (pv 2) pa_nil)))
      (pss_one (ps_ret (pe_call G_mark_of.ok hr_mark_of rfl G_mark_of.mg G_mark_of.kp G_mark_of.b .nil passL (pa_cons (pe_ix ix_tup (pv 0) pe_int (fun _ _ => rfl)) (pa_cons (pe_ix ix_tup (pv 0) pe_int (fun _ _ => rfl)) (pa_cons (pe_ix ix_tup (pe_glob (v := .ref (He.ga K "UNITS")) rfl T.g_UNITS rfl) (pv 1) (fun _ _ => rfl)) (pa_cons (pv 2) pa_nil)))))))))), ?_⟩
    obtain ⟨s', a, b, n, z, u, rfl, hs, hb, hg, sa, sb, h0, h6, hu2, hz, k⟩ := h
    have su := units_small hu2
    refine ⟨_, rfl, s', a, b, rfl, hs, hb, hg, _, rfl, n, rfl, h0, h6, _, rfl, z, rfl, hz, ?_⟩
    exact ⟨_, rfl, s', _, 0, _, rfl, rfl, sqT hs, rfl, _, rfl, s', _, 1, _, rfl, rfl, sqT hs, rfl, _, rfl, _, _, n, _, rfl, rfl, T.t_UNITS _, units_at h0 hu2, _, rfl, a, b, u, z, rfl, by omega, sa, sb,
      Nat.lt_of_le_of_lt (show u.natAbs ≤ 1000000 by omega) (by decide), k⟩
end X

namespace X
open PySem PySem.Spec PyProof.Rows L2 Lv
variable {P : Program} {w : World} {K : PySem.W.Frag} {mg : Str → Option Value} {base : Heap}
theorem cut_ints (ns : List Int) (lo hi : Option Int) : ∃ ms : List Int, cutV (ns.map V.int) lo hi = ms.map V.int ∧ ms.length ≤ ns.length := by
  refine ⟨(ns.drop (HT.sIx (ns.map V.int).length 0 lo)).take (HT.sIx (ns.map V.int).length (ns.map V.int).length hi - HT.sIx (ns.map V.int).length 0 lo), ?_, ?_⟩
  · unfold cutV
    rw [List.map_take, List.map_drop]
  · rw [List.length_take, List.length_drop]
    omega
theorem sc_l_pot : FnScope ["_law_script", "_law_cells", "_law_greats", "_law_smalls", "_law_item"] ["_law_script"] (defScope s_l_pot) := ⟨rfl, rfl, rfl, by decide +kernel, rfl, by decide +kernel, by decide +kernel⟩
theorem ok_l_pot (T : Txt K mg) : ∃ fd, Dn P w K mg base (L2.CX P w) 1 "_law_pot" ["_law_script"] (spPot K) fd := by
  obtain ⟨fd, F⟩ := T.d_l_pot
  refine ⟨fd, F.ok sc_l_pot (fun vs H Q E h => ?_) (fun cdv A outer s H vs Q E hr h => ?_), T.g_l_pot, F.kp, F.bindsN fun _ _ _ _ _ _ us hl => match us, hl with | [_], _ => rfl, Lv.fun_lk F⟩
  · obtain ⟨_, _, rfl, _⟩ := h
    rfl
  · have hu := hu_of hr
    refine ⟨_, PSs.nox (pss_cons (ps_setLc (i := 1) (own := [("_law_item", 4)]) (g := gName 4) (tt := tYes) rfl sc_l_pot.nd rfl rfl (sw_true rfl rfl rfl (by decide +kernel)) (pi_list (pe_slice sl_list (pv 0) po_none (po_some pe_int))) (blkOk_by (N := ["_law_script", "_law_cells", "_law_greats", "_law_smalls", "_law_item"]) (sc := defScope s_l_pot) (by decide +kernel)) (fun _ _ _ _ _ => (pg_name (i := 4) sc_l_pot.nd rfl (Or.inl rfl))) (fun _ _ _ _ _ => pts_nil) (fun _ _ _ _ _ => (pe_callTy call_int1 (by rfl) T.n_int (by decide +kernel) (pa_cons (pv 4) pa_nil))))
      (pss_cons (ps_setLc (i := 2) (own := [("_law_item", 4)]) (g := gName 4) rfl sc_l_pot.nd rfl rfl (sw_true rfl rfl rfl (by decide +kernel)) (pi_list (pv 1)) (blkOk_by (N := ["_law_script", "_law_cells", "_law_greats", "_law_smalls", "_law_item"]) (sc := defScope s_l_pot) (by decide +kernel)) (fun _ _ _ _ _ => (pg_name (i := 4) sc_l_pot.nd rfl (Or.inl rfl))) (fun _ _ _ _ _ => (pts_one (pt_cmpR op_ge (pe_callB call_abs (by rfl) T.n_abs (by decide +kernel) (pa_cons (pv 4) pa_nil)) (pe_op op_pow pe_int pe_int) (nomark _)))) (fun _ _ _ _ _ => (pe_callB call_abs (by rfl) T.n_abs (by decide +kernel) (pa_cons (pv 4) pa_nil))))
      (pss_cons (ps_set (i := 3) sc_l_pot.nd rfl (Or.inl rfl) (pe_op op_cat (pe_lc (own := [("_law_item", 4)]) (g := gName 4) rfl sc_l_pot.nd (pi_list (pv 1)) (blkOk_by (N := ["_law_script", "_law_cells", "_law_greats", "_law_smalls", "_law_item"]) (sc := defScope s_l_pot) (by decide +kernel)) (fun _ _ _ _ _ => (pg_name (i := 4) sc_l_pot.nd rfl (Or.inl rfl))) (fun _ _ _ _ _ => (pts_one (pt_cmpR op_lt (pe_callB call_abs (by rfl) T.n_abs (by decide +kernel) (pa_cons (pv 4) pa_nil)) (pe_op op_pow pe_int pe_int) (nomark _)))) (fun _ _ _ _ _ => (pe_op op_mod (pe_callTy call_int1 (by rfl) T.n_int (by decide +kernel) (pa_cons (pv 4) pa_nil)) pe_int))) (pe_lst (pa_cons (pe_op op_add (pe_callB call_len_seq (by rfl) T.n_len PySem.boot_len (pa_cons (pv 1) pa_nil)) pe_int) pa_nil))))
      (pss_one (ps_ret (pe_lst (pa_cons (pv 2) (pa_cons (pv 3) (pa_cons pe_int (pa_cons (pe_op op_mod (pe_callTy call_int1 (by rfl) T.n_int (by decide +kernel) (pa_cons (pe_callB (cr_sum rfl) (by rfl) T.n_sum (by decide +kernel) (pa_cons (pv 3) pa_nil)) pa_nil)) pe_int) pa_nil)))))))))), ?_⟩
    obtain ⟨a, ns, rfl, hS, hl, k⟩ := h
    obtain ⟨ms, em, lm⟩ := cut_ints ns none (some 63)
    refine ⟨_, rfl, 63, rfl, a, _, rfl, hS, fun p hp => ⟨p, rfl, ⟨_, sqL upd_same⟩, fun D1 h1 => ?_⟩⟩
    rw [em] at h1 ⊢
    have j1 := (Join.self H).newG (o := .lst (ms.map V.int)) hp
    refine lc_ints (K := K) (ns := ms) (fun _ => true) (fun z => z) h1 (sqL upd_same) (by omega) (fun _ => rfl) ?_ ?_ ?_
    · exact fun z H' R _ r => r
    · exact fun z H' R _ _ r => ⟨_, rfl, .inl ⟨_, rfl, r⟩⟩
    have e1 : ((ms.filter fun _ => true).map fun z => z) = ms := by simp
    rw [e1]
    have j2 := j1.newG (o := .lst (ms.map V.int)) h1
    clear j1
    -- _law_greats
    refine ⟨_, rfl, D1, rfl, ⟨_, sqL upd_same⟩, fun D2 h2 => ?_⟩
    refine lc_ints (K := K) (ns := ms) (fun z => decide ((10 : Int) ^ 18 ≤ (if z < 0 then -z else z))) (fun z => if z < 0 then -z else z) h2 (sqL upd_same) (by omega) (fun _ => rfl) ?_ ?_ ?_
    · exact fun z H' R _ r => ⟨_, rfl, _, rfl, _, _, rfl, rfl, ⟨by decide, by decide, by decide⟩, _, _, rfl, rfl, _, rfl, r⟩
    · exact fun z H' R _ _ r => ⟨_, rfl, _, rfl, r⟩
    have hg : ((ms.filter fun z => decide ((10 : Int) ^ 18 ≤ (if z < 0 then -z else z))).map fun z => if z < 0 then -z else z).length ≤ 63 := by
      rw [List.length_map]
      have := List.length_filter_le (fun z : Int => decide ((10 : Int) ^ 18 ≤ (if z < 0 then -z else z))) ms
      omega
    generalize ((ms.filter fun z => decide ((10 : Int) ^ 18 ≤ (if z < 0 then -z else z))).map fun z => if z < 0 then -z else z) = gs at hg ⊢
    have j3 := j2.setP (o := .lst (gs.map V.int)) (j2.ng h2)
    -- _law_smalls
    have n12 : D1 ≠ D2 := fun q => by rw [← q, upd_same] at h2; cases h2
    refine ⟨_, rfl, D1, rfl, ⟨_, sqL (Eq.trans (upd_ne n12) upd_same)⟩, fun D3 h3 => ?_⟩
    refine lc_ints (K := K) (ns := ms) (fun z => decide ((if z < 0 then -z else z) < (10 : Int) ^ 18)) (fun z => z % 1000000007) h3 (sqL (Eq.trans (upd_ne n12) upd_same)) (by omega) (fun _ => rfl) ?_ ?_ ?_
    · exact fun z H' R _ r => ⟨_, rfl, _, rfl, _, _, rfl, rfl, ⟨by decide, by decide, by decide⟩, _, _, rfl, rfl, _, rfl, r⟩
    · exact fun z H' R _ _ r => ⟨_, rfl, .inl ⟨_, rfl, _, _, rfl, rfl, (by show (0 : Int) < 1000000007; decide), r⟩⟩
    have hs : ((ms.filter fun z => decide ((if z < 0 then -z else z) < (10 : Int) ^ 18)).map fun z => z % 1000000007).length ≤ 63 := by
      rw [List.length_map]
      have := List.length_filter_le (fun z : Int => decide ((if z < 0 then -z else z) < (10 : Int) ^ 18)) ms
      omega
    generalize ((ms.filter fun z => decide ((if z < 0 then -z else z) < (10 : Int) ^ 18)).map fun z => z % 1000000007) = ss at hs ⊢
    have j4 := j3.newG (o := .lst (ss.map V.int)) h3
    have n13 : D1 ≠ D3 := fun q => by rw [← q, upd_ne n12, upd_same] at h3; cases h3
    refine ⟨_, rfl, _, _, rfl, .inl (sqL (by rw [upd_ne n13, upd_ne n12, upd_same])), _, _, rfl, rfl, (by show 1 ≤ sizeLine; decide), fun D4 h4 => ?_⟩
    have j5 := j4.newG (o := .lst [V.int (((ms.map V.int).length : Int) + 1)]) h4
    have n34 : D3 ≠ D4 := fun q => by rw [← q, upd_same] at h4; cases h4
    refine ⟨D3, D4, _, _, rfl, rfl, Eq.trans (upd_ne n34) upd_same, upd_same, by rw [List.length_map]; exact szle (by show _ + 1 ≤ _; omega), fun D5 h5 => ?_⟩
    have j6 := j5.setP (o := .lst (ss.map V.int ++ [V.int (((ms.map V.int).length : Int) + 1)])) (j5.ng h5)
    have e2 : ss.map V.int ++ [V.int (((ms.map V.int).length : Int) + 1)] = (ss ++ [((ms.map V.int).length : Int) + 1]).map V.int := by rw [List.map_append]; rfl
    rw [e2] at j6 ⊢
    refine ⟨_, rfl, _, rfl, _, rfl, D5, _, rfl, sqL upd_same, .inl ⟨_, rfl, _, _, rfl, rfl, (by show (0 : Int) < 999983; decide), (by show 4 ≤ sizeLine; decide), fun l hl0 => ?_⟩⟩
    have n25 : D2 ≠ D5 := ne_of_none (j5.p D2 _ upd_same) h5
    have q2 := j6.p D2 _ (Eq.trans (upd_ne n25) upd_same)
    have q5 := j6.p D5 _ upd_same
    have j7 := j6.setP (o := .lst [V.ref D2, V.ref D5, V.int 0, V.int ((ss ++ [((ms.map V.int).length : Int) + 1]).sum % 999983)]) (j6.ng hl0)
    refine k l _ _ _ ((((Ex.new hp).trans (Ex.new h1)).trans (Ex.new (j3.ng h3))).trans (Ex.new (j4.ng h4))) j7 ⟨D2, D5, gs, _, 0, _, upd_same, Eq.trans (upd_ne (ne_of_none q2 hl0)) (Eq.trans (upd_ne n25) upd_same), Eq.trans (upd_ne (ne_of_none q5 hl0)) upd_same, n25, ?_, ?_, by omega⟩
    · simp
    · simp; omega
theorem sc_l_draw : FnScope ["_law_pot_here", "_law_many", "_law_turn", "_law_seed", "_law_number"] ["_law_pot_here", "_law_many"] (defScope s_l_draw) := ⟨rfl, rfl, rfl, by decide +kernel, rfl, by decide +kernel, by decide +kernel⟩
theorem ok_l_draw (T : Txt K mg) : ∃ fd, Dn P w K mg base (L2.CX P w) 1 "_law_draw" ["_law_pot_here", "_law_many"] spDraw fd := by
  obtain ⟨fd, F⟩ := T.d_l_draw
  refine ⟨fd, F.ok sc_l_draw (fun vs H Q E h => ?_) (fun cdv A outer s H vs Q E hr h => ?_), T.g_l_draw, F.kp, F.bindsN fun _ _ _ _ _ _ us hl => match us, hl with | [_, _], _ => rfl, Lv.fun_lk F⟩
  · obtain ⟨_, _, _, _, rfl, _⟩ := h
    rfl
  · have hu := hu_of hr
    refine ⟨_, PSs.nox (pss_cons (ps_set (i := 2) sc_l_draw.nd rfl (Or.inl rfl) (pe_ix ix_list (pv 0) pe_int (fun _ _ => rfl)))
      (pss_cons (ps_asg (pe_op op_add (pv 2) pe_int) (pg_sub (pv 0) pe_int set_list))
      (pss_cons (ps_if (pt_cmpR op_gt (pe_callB call_len_seq (by rfl) T.n_len PySem.boot_len (pa_cons (pe_ix ix_list (pv 0) pe_int (fun _ _ => rfl)) pa_nil)) pe_int (nomark _)) (pss_cons (ps_set (i := 4) sc_l_draw.nd rfl (Or.inl rfl) (pe_ix ix_list (pe_ix ix_list (pv 0) pe_int (fun _ _ => rfl)) pe_int (fun _ _ => rfl)))
      (pss_cons (ps_asg (pe_op op_fdivW (pv 4) (pv 1)) (pg_sub (pe_ix ix_list (pv 0) pe_int (fun _ _ => rfl)) pe_int set_list))
      (pss_cons (ps_if (pt_cmpR op_lt (pv 4) (pv 1) (nomark _)) (pss_one (ps_expr (pe_bm PySem.F.plainAttrs_list PySem.F.slot_list_pop PySem.F.type_list_pop mt_popAt (pe_ix ix_list (pv 0) pe_int (fun _ _ => rfl)) (pa_cons pe_int pa_nil)))) pss_nil)
      (pss_one (ps_ret (pe_op op_mod (pe_callTy call_int1 (by rfl) T.n_int (by decide +kernel) (pa_cons (pv 4) pa_nil)) (pv 1))))))) pss_nil)
      (pss_cons (ps_set (i := 3) sc_l_draw.nd rfl (Or.inl rfl) (pe_op op_add (pe_op op_add (pe_op op_mul (pe_ix ix_list (pe_ix ix_list (pv 0) pe_int (fun _ _ => rfl)) (pe_op op_mod (pe_callTy call_int1 (by rfl) T.n_int (by decide +kernel) (pa_cons (pv 2) pa_nil)) (pe_callB call_len_seq (by rfl) T.n_len PySem.boot_len (pa_cons (pe_ix ix_list (pv 0) pe_int (fun _ _ => rfl)) pa_nil))) (fun _ _ => rfl)) pe_int) (pe_op op_mul pe_int (pv 2))) (pe_op op_mul (pe_ix ix_list (pv 0) pe_int (fun _ _ => rfl)) pe_int)))
      (pss_cons (ps_set (i := 4) sc_l_draw.nd rfl (Or.inl rfl) (pe_op op_mod (pe_callTy call_int1 (by rfl) T.n_int (by decide +kernel) (pa_cons (pe_op op_add (pe_op op_mul (pv 3) pe_int) pe_int) pa_nil)) pe_int))
      (pss_cons (ps_set (i := 4) sc_l_draw.nd rfl (Or.inl rfl) (pe_op op_mod (pe_callTy call_int1 (by rfl) T.n_int (by decide +kernel) (pa_cons (pe_op op_mulW (pv 4) (pe_op op_add (pe_op op_fdiv (pv 4) pe_int) pe_int)) pa_nil)) pe_int))
      (pss_cons (ps_set (i := 4) sc_l_draw.nd rfl (Or.inl rfl) (pe_op op_mod (pe_callTy call_int1 (by rfl) T.n_int (by decide +kernel) (pa_cons (pe_op op_add (pe_op op_mulW (pv 4) (pe_op op_add (pe_op op_fdiv (pv 4) pe_int) pe_int)) (pv 2)) pa_nil)) pe_int))
      (pss_one (ps_ret (pe_op op_mod (pe_callTy call_int1 (by rfl) T.n_int (by decide +kernel) (pa_cons (pe_op op_fdiv (pv 4) pe_int) pa_nil)) (pv 1))))))))))), ?_⟩
    obtain ⟨l, n, G, P0, rfl, j, ⟨g, sa, gs, ss, t, c, hl, hg, hs, ngs, h0s, hls, hlg⟩, hn0, hn, k⟩ := h
    have ngl : g ≠ l := ne_of hg hl (by intro z; cases gs <;> simp at z)
    have nsl : sa ≠ l := ne_of hs hl (by intro z; cases ss <;> simp at z)
    have bn : n.natAbs < 2 ^ 1000 := nat1000 (Int.le_of_lt hn0) hn
    -- turn = pot[2]; pot[2] = turn + 1
    refine ⟨_, rfl, l, _, 2, _, rfl, rfl, sqL (j.p _ _ hl), rfl, ?_⟩
    refine ⟨_, rfl, t, 1, rfl, rfl, _, rfl, l, _, 2, 2, rfl, rfl, j.p _ _ hl, rfl, ?_⟩
    have j1 := j.setP (o := .lst [V.ref g, V.ref sa, V.int (t + 1), V.int c]) (j.ap _ _ hl)
    have hl1 : (upd P0 l (.lst [V.ref g, V.ref sa, V.int (t + 1), V.int c])) l = _ := upd_same
    have hg1 : (upd P0 l (.lst [V.ref g, V.ref sa, V.int (t + 1), V.int c])) g = _ := Eq.trans (upd_ne ngl) hg
    have hs1 : (upd P0 l (.lst [V.ref g, V.ref sa, V.int (t + 1), V.int c])) sa = _ := Eq.trans (upd_ne nsl) hs
    generalize (upd P0 l (.lst [V.ref g, V.ref sa, V.int (t + 1), V.int c])) = P1 at j1 hl1 hg1 hs1
    refine ⟨_, rfl, l, _, 0, _, rfl, rfl, sqL (j1.p _ _ hl1), rfl, g, _, rfl, .inl (sqL (j1.p _ _ hg1)), _, _, rfl, rfl, _, rfl, ?_⟩
    cases gs with
    | cons z r =>
      refine itT (by simp) ?_
      refine ⟨_, rfl, l, _, 0, _, rfl, rfl, sqL (j1.p _ _ hl1), rfl, g, _, 0, _, rfl, rfl, sqL (j1.p _ _ hg1), atI_int (by decide) rfl, ?_⟩
      have j2 := j1.setP (o := .lst (V.int (z / n) :: r.map V.int)) (j1.ap _ _ hg1)
      refine ⟨_, rfl, _, rfl, _, _, rfl, rfl, divW hn0 bn, _, rfl, l, _, 0, _, rfl, rfl, sqL (j1.p _ _ hl1), rfl, g, _, 0, 0, rfl, rfl, j1.p _ _ hg1, ixN_nat (by simp), ?_⟩
      have hl2 : (upd P1 g (.lst (V.int (z / n) :: r.map V.int))) l = _ := Eq.trans (upd_ne ngl.symm) hl1
      have hg2 : (upd P1 g (.lst (V.int (z / n) :: r.map V.int))) g = _ := upd_same
      have hs2 : (upd P1 g (.lst (V.int (z / n) :: r.map V.int))) sa = _ := Eq.trans (upd_ne ngs.symm) hs1
      generalize (upd P1 g (.lst (V.int (z / n) :: r.map V.int))) = P2 at j2 hl2 hg2 hs2
      refine ⟨_, rfl, _, rfl, _, _, rfl, rfl, _, rfl, ?_⟩
      have fin : ∀ (P3 H3 : Hp), Join G P3 H3 → Pot P3 l → Q (V.int (z % n)) H3 := fun P3 H3 => k (z % n) P3 H3 (Int.emod_nonneg _ (by omega)) (Int.emod_lt_of_pos _ hn0)
      by_cases hz : z < n
      · refine itT hz ?_
        have j3 := j2.setP (o := .lst (r.map V.int)) (j2.ap _ _ hg2)
        refine ⟨_, rfl, l, _, 0, _, rfl, rfl, sqL (j2.p _ _ hl2), rfl, .inl ⟨rfl, _, sqL (j2.p _ _ hg2)⟩, g, _, 0, 0, _, rfl, rfl, j2.p _ _ hg2, by decide, by decide, seq_nat (by simp), rfl, ?_⟩
        refine ⟨_, rfl, .inl ⟨_, rfl, _, rfl, _, _, rfl, rfl, hn0, fin _ _ j3 ⟨g, sa, r, ss, _, _, Eq.trans (upd_ne ngl.symm) hl2, upd_same, Eq.trans (upd_ne ngs.symm) hs2, ngs, h0s, hls, ?_⟩⟩⟩
        simp at hlg; omega
      · refine itF hz ?_
        exact ⟨_, rfl, .inl ⟨_, rfl, _, rfl, _, _, rfl, rfl, hn0, fin _ _ j2 ⟨g, sa, z / n :: r, ss, _, _, hl2, hg2, hs2, ngs, h0s, hls, by simpa using hlg⟩⟩⟩
    | nil =>
      refine itF (by simp) ?_
      have hp0 : (0 : Int) < ((ss.map V.int).length : Int) := by rw [List.length_map]; omega
      obtain ⟨v, hv⟩ : ∃ v, ss[(t % ((ss.map V.int).length : Int)).toNat]? = some v := by
        have h1 := Int.emod_nonneg t (Int.ne_of_gt hp0)
        have h2 := Int.emod_lt_of_pos t hp0
        rw [List.length_map] at h1 h2 ⊢
        exact ⟨_, List.getElem?_eq_getElem (by omega)⟩
      have hat : atI (ss.map V.int) (t % ((ss.map V.int).length : Int)) = some (V.int v) := atI_int (Int.emod_nonneg t (Int.ne_of_gt hp0)) (by rw [List.getElem?_map, hv]; rfl)
      refine ⟨_, rfl, l, _, 1, _, rfl, rfl, sqL (j1.p _ _ hl1), rfl, _, rfl, .inl ⟨_, rfl, _, rfl, l, _, 1, _, rfl, rfl, sqL (j1.p _ _ hl1), rfl, sa, _, rfl, .inl (sqL (j1.p _ _ hs1)), _, _, rfl, rfl, hp0, sa, _, _, _, rfl, rfl, sqL (j1.p _ _ hs1), hat, _, _, rfl, rfl, .inr ⟨by decide, by decide⟩,
        _, rfl, _, _, rfl, rfl, .inl ⟨by decide, by decide⟩, _, _, rfl, rfl, _, rfl, l, _, 3, _, rfl, rfl, sqL (j1.p _ _ hl1), rfl, _, _, rfl, rfl, .inr ⟨by decide, by decide⟩, _, _, rfl, rfl, ?_⟩⟩
      refine ⟨_, rfl, _, _, rfl, rfl, .inr ⟨by decide, by decide⟩, _, _, rfl, rfl, .inl ⟨_, rfl, _, _, rfl, rfl, (by show (0 : Int) < 2147483647; decide), ?_⟩⟩
      refine ⟨_, rfl, _, rfl, _, _, rfl, rfl, ⟨by decide, by decide⟩, _, _, rfl, rfl, _, _, rfl, rfl, mulSm (by omega) (by omega) (by omega) (by omega), .inl ⟨_, rfl, _, _, rfl, rfl, (by show (0 : Int) < 2147483629; decide), ?_⟩⟩
      refine ⟨_, rfl, _, rfl, _, _, rfl, rfl, ⟨by decide, by decide⟩, _, _, rfl, rfl, _, _, rfl, rfl, mulSm (by omega) (by omega) (by omega) (by omega), _, rfl, _, _, rfl, rfl, .inl ⟨_, rfl, _, _, rfl, rfl, (by show (0 : Int) < 2147483399; decide), ?_⟩⟩
      refine ⟨_, rfl, _, _, rfl, rfl, ⟨by decide, by decide⟩, .inl ⟨_, rfl, _, rfl, _, _, rfl, rfl, hn0, ?_⟩⟩
      exact k _ _ _ (Int.emod_nonneg _ (by omega)) (Int.emod_lt_of_pos _ hn0) j1 ⟨g, sa, [], ss, _, _, hl1, hg1, hs1, ngs, h0s, hls, by simp⟩
theorem sc_l_any : FnScope ["_law_pot_here", "_law_items"] ["_law_pot_here", "_law_items"] (defScope s_l_any) := ⟨rfl, rfl, rfl, by decide +kernel, rfl, by decide +kernel, by decide +kernel⟩
theorem ok_l_any (T : Txt K mg) {fd_l_draw : FuncData} (G_l_draw : Dn P w K mg base (L2.CX P w) 1 "_law_draw" ["_law_pot_here", "_law_many"] spDraw fd_l_draw) : ∃ fd, Dn P w K mg base (L2.CX P w) 2 "_law_any" ["_law_pot_here", "_law_items"] (spAny K) fd := by
  obtain ⟨fd, F⟩ := T.d_l_any
  refine ⟨fd, F.ok sc_l_any (fun vs H Q E h => ?_) (fun cdv A outer s H vs Q E hr h => ?_), T.g_l_any, F.kp, F.bindsN fun _ _ _ _ _ _ us hl => match us, hl with | [_, _], _ => rfl, Lv.fun_lk F⟩
  · obtain ⟨_, _, _, _, _, rfl, _⟩ := h
    rfl
  · have hu := hu_of hr
    have hr_l_draw : Room 1 _ := hr.mono (by decide)
    refine ⟨_, PSs.nox (pss_one (ps_ret (pe_ix ix_tup (pv 1) (pe_call G_l_draw.ok hr_l_draw rfl G_l_draw.mg G_l_draw.kp G_l_draw.b .nil passL (pa_cons (pv 0) (pa_cons (pe_callB call_len (by rfl) T.n_len PySem.boot_len (pa_cons (pv 1) pa_nil)) pa_nil))) (fun _ _ => rfl)))), ?_⟩
    obtain ⟨l, t, xs, G, P0, rfl, j, hP, ht, h0, hx, k⟩ := h
    have htH : SqT K H t xs := j.exG.t ht
    refine ⟨_, rfl, _, rfl, _, rfl, _, _, rfl, .inr ⟨_, htH, rfl⟩, l, _, G, P0, rfl, j, hP, by omega, ?_, fun r P' H' r0 r1 j' hP' => ?_⟩
    · exact Int.lt_of_lt_of_le (b := 2000) (by omega) (by decide)
    · obtain ⟨x, hx2⟩ : ∃ x, xs[r.toNat]? = some x := ⟨_, List.getElem?_eq_getElem (by omega)⟩
      exact ⟨t, xs, r, x, rfl, rfl, j'.exG.t ht, atI_int r0 hx2, k r.toNat x P' H' hx2 j' hP'⟩
end X

namespace X
open PySem PySem.Spec PyProof.Rows L2 Lv
variable {P : Program} {w : World} {K : PySem.W.Frag} {mg : Str → Option Value} {base : Heap}
def sp_l_gcd (K : PySem.W.Frag) : Sp := fun vs H Q _ => ∃ (a b : Int), vs = [.int a, .int b] ∧ a.natAbs * b.natAbs < 2 ^ 399 ∧ Q (.int (Int.gcd a b : Nat)) H
theorem sc_l_gcd : FnScope ["_law_one", "_law_other", "_law_turn"] ["_law_one", "_law_other"] (defScope s_l_gcd) := ⟨rfl, rfl, rfl, by decide +kernel, rfl, by decide +kernel, by decide +kernel⟩
theorem ok_l_gcd (T : Txt K mg) : ∃ fd, Dn P w K mg base (L2.CX P w) 1 "_law_gcd" ["_law_one", "_law_other"] (sp_l_gcd K) fd := by
  obtain ⟨fd, F⟩ := T.d_l_gcd
  refine ⟨fd, F.ok sc_l_gcd (fun vs H Q E h => ?_) (fun cdv A outer s H vs Q E hr h => ?_), T.g_l_gcd, F.kp, F.bindsN fun _ _ _ _ _ _ us hl => match us, hl with | [_, _], _ => rfl, Lv.fun_lk F⟩
  · obtain ⟨_, _, rfl, _⟩ := h
    rfl
  · have hu := hu_of hr
    refine ⟨_, PSs.nox (pss_cons (ps_par (i := 0) (j := 1) rfl sc_l_gcd.nd rfl rfl (by decide) rfl rfl (pa_cons (pe_callB call_abs (by rfl) T.n_abs (by decide +kernel) (pa_cons (pv 0) pa_nil)) (pa_cons (pe_callB call_abs (by rfl) T.n_abs (by decide +kernel) (pa_cons (pv 1) pa_nil)) pa_nil)) rfl)
      (pss_cons (ps_for PassesOwn.never rfl (pi_range1 (by rfl) T.n_range (pa_cons pe_int pa_nil)) (pg_name (i := 2) sc_l_gcd.nd rfl (Or.inl rfl)) (pss_cons (ps_if (pt_cmpR op_eq (pv 1) pe_int (nomark _)) (pss_one ps_break) pss_nil)
      (pss_one (ps_par (i := 0) (j := 1) rfl sc_l_gcd.nd rfl rfl (by decide) rfl rfl (pa_cons (pv 1) (pa_cons (pe_op op_mod (pv 0) (pv 1)) pa_nil)) rfl))))
      (pss_one (ps_ret (pv 0))))), ?_⟩
    obtain ⟨a, b, rfl, hab, k⟩ := h
    refine ⟨_, rfl, _, rfl, _, rfl, _, rfl, _, _, rfl, ?_⟩
    have fin : ∀ (x : Nat) (H' : Hp), H' = H → Nat.gcd x 0 = Int.gcd a b → Q (.int (x : Int)) H' := fun x H' e1 e2 => by
      rw [Nat.gcd_zero_right] at e2
      rw [e1, e2]; exact k
    refine ⟨400, rfl, by decide, by decide, for_range (lo := 0) (n := 400) (fun i σ H' => H' = H ∧ ∃ (x y : Nat) (u : Option V), σ = [some (.int x), some (.int y), u] ∧ x * y < 2 ^ (400 - i) ∧ (i = 0 → x * y < 2 ^ 399) ∧ (1 ≤ i → y < x) ∧ Nat.gcd x y = Int.gcd a b)
      ⟨rfl, a.natAbs, b.natAbs, none, ?_, Nat.lt_of_lt_of_le hab (Nat.pow_le_pow_right (by decide) (by decide)), fun _ => hab, fun h => absurd h (by decide), rfl⟩ ?_ ?_⟩
    · rw [abs_if, abs_if]; rfl
    · rintro i σ H' hi ⟨eH, x, y, u, rfl, h1, h2, h3, e⟩
      refine ⟨_, rfl, rfl, _, rfl, ?_⟩
      by_cases hy : y = 0
      · subst hy
        exact itT rfl ⟨_, rfl, fin x H' eH e⟩
      · refine itF (fun q => hy (by have := V.int.inj q; omega)) ?_
        refine ⟨_, rfl, _, rfl, _, rfl, _, _, rfl, rfl, (by show (0 : Int) < (y : Int); omega), _, _, rfl, ?_⟩
        refine ⟨eH, y, x % y, _, rfl, ?_, fun q => absurd q (by omega), fun _ => Nat.mod_lt _ (by omega), by rw [gcd_turn]; exact e⟩
        have hm : y * (x % y) ≤ x * y := by
          rw [Nat.mul_comm x y]; exact Nat.mul_le_mul_left y (Nat.mod_le x y)
        by_cases hi0 : i = 0
        · subst hi0
          exact Nat.lt_of_le_of_lt hm (h2 rfl)
        · have hh := euclid_half (h3 (by omega)) (by omega)
          have e2 : 2 ^ (400 - i) = 2 * 2 ^ (400 - (i + 1)) := by
            rw [show 400 - i = (400 - (i + 1)) + 1 by omega, Nat.pow_succ, Nat.mul_comm]
          rw [e2] at h1
          omega
    · rintro σ H' ⟨eH, x, y, u, rfl, h1, h2, h3, e⟩
      have hxy := h3 (by decide)
      have h0 : x * y = 0 := by
        have : x * y < 1 := h1
        omega
      have hy : y = 0 := by
        rcases Nat.mul_eq_zero.mp h0 with q | q
        · omega
        · exact q
      subst hy
      exact ⟨_, rfl, fin x H' eH e⟩
def sp_l_low (K : PySem.W.Frag) : Sp := fun vs H Q _ => ∃ (a b : Int), vs = [.int a, .int b] ∧ 0 < b ∧ a.natAbs < 2 ^ 199 ∧ b.natAbs < 2 ^ 199 ∧ ∀ p, H p = none → Q (.ref p) (upd H p (.tup [.int (a / (Int.gcd a b : Nat)), .int (b / (Int.gcd a b : Nat))]))
theorem sc_l_low : FnScope ["_law_top", "_law_bottom", "_law_part"] ["_law_top", "_law_bottom"] (defScope s_l_low) := ⟨rfl, rfl, rfl, by decide +kernel, rfl, by decide +kernel, by decide +kernel⟩
theorem ok_l_low (T : Txt K mg) {fd_l_gcd : FuncData} (G_l_gcd : Dn P w K mg base (L2.CX P w) 1 "_law_gcd" ["_law_one", "_law_other"] (sp_l_gcd K) fd_l_gcd) : ∃ fd, Dn P w K mg base (L2.CX P w) 2 "_law_low" ["_law_top", "_law_bottom"] (sp_l_low K) fd := by
  obtain ⟨fd, F⟩ := T.d_l_low
  refine ⟨fd, F.ok sc_l_low (fun vs H Q E h => ?_) (fun cdv A outer s H vs Q E hr h => ?_), T.g_l_low, F.kp, F.bindsN fun _ _ _ _ _ _ us hl => match us, hl with | [_, _], _ => rfl, Lv.fun_lk F⟩
  · obtain ⟨_, _, rfl, _⟩ := h
    rfl
  · have hu := hu_of hr
    have hr_l_gcd : Room 1 _ := hr.mono (by decide)
    refine ⟨_, PSs.nox (pss_cons (ps_set (i := 2) sc_l_low.nd rfl (Or.inl rfl) (pe_call G_l_gcd.ok hr_l_gcd rfl G_l_gcd.mg G_l_gcd.kp G_l_gcd.b .nil passL (pa_cons (pv 0) (pa_cons (pv 1) pa_nil))))
      (pss_one (ps_ret (pe_tup (pa_cons (pe_op op_fdivW (pv 0) (pv 2)) (pa_cons (pe_op op_fdivW (pv 1) (pv 2)) pa_nil)))))), ?_⟩
    obtain ⟨a, b, rfl, hb, sa, sb, k⟩ := h
    have g0 : 0 < Int.gcd a b := Int.gcd_pos_of_ne_zero_right a (by omega)
    have gl : (((Int.gcd a b : Nat) : Int)).natAbs < 2 ^ 1000 := by
      have h1 : Int.gcd a b ≤ b.natAbs := Nat.gcd_le_right _ (by omega)
      exact Nat.lt_of_le_of_lt (show ((Int.gcd a b : Nat) : Int).natAbs ≤ b.natAbs by omega) (Nat.lt_of_lt_of_le sb (Nat.pow_le_pow_right (by decide) (by decide)))
    refine ⟨_, rfl, _, rfl, a, b, rfl, Nat.lt_of_lt_of_le (Nat.mul_lt_mul'' sa sb) (by rw [← Nat.pow_add]; exact Nat.pow_le_pow_right (by decide) (by decide)), ?_⟩
    refine ⟨_, rfl, _, rfl, _, _, rfl, rfl, divW (by omega) gl, _, rfl, _, rfl, _, _, rfl, rfl, divW (by omega) gl, (by show 2 ≤ sizeLine; decide), k⟩
def sp_l_pick (K : PySem.W.Frag) : Sp := fun vs H Q _ => ∃ (l : Addr) (G P : Hp), vs = [.ref l] ∧ Join G P H ∧ Pot P l ∧
  ∀ (p : Addr) (a b : Int) (G' P' H' : Hp), Ex G G' → Join G' P' H' → Pot P' l → G' p = some (.tup [.int a, .int b]) → 1 ≤ b → Int.gcd a b = 1 → a.natAbs ≤ 100000000000000000000000000000 → b.natAbs ≤ 100000000000000000000000000000 → Q (.ref p) H'
theorem low_facts {a b : Int} (hb : 0 < b) : 1 ≤ b / (Int.gcd a b : Nat) ∧ Int.gcd (a / (Int.gcd a b : Nat)) (b / (Int.gcd a b : Nat)) = 1 ∧ (a / (Int.gcd a b : Nat)).natAbs ≤ a.natAbs ∧ (b / (Int.gcd a b : Nat)).natAbs ≤ b.natAbs := by
  have g0 : 0 < Int.gcd a b := Int.gcd_pos_of_ne_zero_right a (by omega)
  have h1 : ((Int.gcd a b : Nat) : Int) ∣ a := Int.gcd_dvd_left ..
  have h2 : ((Int.gcd a b : Nat) : Int) ∣ b := Int.gcd_dvd_right ..
  refine ⟨?_, Int.gcd_ediv_gcd_ediv_gcd_of_ne_zero_right (by omega), ?_, ?_⟩
  · obtain ⟨c, hc⟩ := h2
    have : b / (Int.gcd a b : Nat) = c := by
      rw [hc]
      rw [← hc]
      exact Int.ediv_eq_of_eq_mul_right (by omega) hc
    rw [this]
    by_cases h : 1 ≤ c
    · exact h
    · exfalso
      have : ((Int.gcd a b : Nat) : Int) * c ≤ 0 := Int.mul_nonpos_of_nonneg_of_nonpos (by omega) (by omega)
      omega
  · rw [Int.natAbs_ediv_of_dvd h1]
    exact Nat.div_le_self _ _
  · rw [Int.natAbs_ediv_of_dvd h2]
    exact Nat.div_le_self _ _
theorem abs199 {a : Int} (h1 : -100000000000000000000000000000 ≤ a) (h2 : a ≤ 100000000000000000000000000000) : a.natAbs < 2 ^ 199 := Nat.lt_of_le_of_lt (show a.natAbs ≤ 100000000000000000000000000000 by omega) (by decide)
theorem mem_at {α : Type} {xs : List α} {i : Nat} {x : α} (h : xs[i]? = some x) : x ∈ xs := List.mem_of_getElem? h
theorem sc_l_pick : FnScope ["_law_pot_here", "_law_kind"] ["_law_pot_here"] (defScope s_l_pick) := ⟨rfl, rfl, rfl, by decide +kernel, rfl, by decide +kernel, by decide +kernel⟩
theorem ok_l_pick (T : Txt K mg) {fd_l_draw : FuncData} (G_l_draw : Dn P w K mg base (L2.CX P w) 1 "_law_draw" ["_law_pot_here", "_law_many"] spDraw fd_l_draw) {fd_l_low : FuncData} (G_l_low : Dn P w K mg base (L2.CX P w) 2 "_law_low" ["_law_top", "_law_bottom"] (sp_l_low K) fd_l_low) {fd_l_any : FuncData} (G_l_any : Dn P w K mg base (L2.CX P w) 2 "_law_any" ["_law_pot_here", "_law_items"] (spAny K) fd_l_any) : ∃ fd, Dn P w K mg base (L2.CX P w) 3 "_law_pick" ["_law_pot_here"] (sp_l_pick K) fd := by
  obtain ⟨fd, F⟩ := T.d_l_pick
  refine ⟨fd, F.ok sc_l_pick (fun vs H Q E h => ?_) (fun cdv A outer s H vs Q E hr h => ?_), T.g_l_pick, F.kp, F.bindsN fun _ _ _ _ _ _ us hl => match us, hl with | [_], _ => rfl, Lv.fun_lk F⟩
  · obtain ⟨_, _, _, rfl, _⟩ := h
    rfl
  · have hu := hu_of hr
    have hr_l_draw : Room 1 _ := hr.mono (by decide)
    have hr_l_low : Room 2 _ := hr.mono (by decide)
    have hr_l_any : Room 2 _ := hr.mono (by decide)
    refine ⟨_, PSs.nox (pss_cons (ps_set (i := 1) sc_l_pick.nd rfl (Or.inl rfl) (pe_call G_l_draw.ok hr_l_draw rfl G_l_draw.mg G_l_draw.kp G_l_draw.b .nil passL (pa_cons (pv 0) (pa_cons pe_int pa_nil))))
      (pss_cons (ps_if (pt_cmpR op_eq (pv 1) pe_int (nomark _)) (pss_one (ps_ret (pe_call G_l_low.ok hr_l_low rfl G_l_low.mg G_l_low.kp G_l_low.b .nil passL (pa_cons (pe_op op_sub (pe_call G_l_draw.ok hr_l_draw rfl G_l_draw.mg G_l_draw.kp G_l_draw.b .nil passL (pa_cons (pv 0) (pa_cons (pe_op op_mul pe_int (pe_op op_pow pe_int pe_int)) pa_nil))) (pe_op op_pow pe_int pe_int)) (pa_cons (pe_op op_add (pe_op op_pow pe_int pe_int) (pe_call G_l_draw.ok hr_l_draw rfl G_l_draw.mg G_l_draw.kp G_l_draw.b .nil passL (pa_cons (pv 0) (pa_cons (pe_op op_pow pe_int pe_int) pa_nil)))) pa_nil))))) pss_nil)
      (pss_cons (ps_if (pt_cmpR op_eq (pv 1) pe_int (nomark _)) (pss_one (ps_ret (pe_call G_l_low.ok hr_l_low rfl G_l_low.mg G_l_low.kp G_l_low.b .nil passL (pa_cons (pe_op op_sub (pe_call G_l_draw.ok hr_l_draw rfl G_l_draw.mg G_l_draw.kp G_l_draw.b .nil passL (pa_cons (pv 0) (pa_cons pe_int pa_nil))) pe_int) (pa_cons (pe_op op_mulW (pe_call G_l_any.ok hr_l_any rfl G_l_any.mg G_l_any.kp G_l_any.b .nil passL (pa_cons (pv 0) (pa_cons (pe_tup (pa_cons pe_int (pa_cons pe_int (pa_cons pe_int (pa_cons pe_int pa_nil))))) pa_nil))) (pe_call G_l_any.ok hr_l_any rfl G_l_any.mg G_l_any.kp G_l_any.b .nil passL (pa_cons (pv 0) (pa_cons (pe_tup (pa_cons pe_int (pa_cons pe_int (pa_cons pe_int (pa_cons pe_int pa_nil))))) pa_nil)))) pa_nil))))) pss_nil)
      (pss_cons (ps_if (pt_cmpR op_eq (pv 1) pe_int (nomark _)) (pss_one (ps_ret (pe_call G_l_low.ok hr_l_low rfl G_l_low.mg G_l_low.kp G_l_low.b .nil passL (pa_cons (pe_op op_sub (pe_op op_add (pe_op op_mul pe_int (pe_call G_l_draw.ok hr_l_draw rfl G_l_draw.mg G_l_draw.kp G_l_draw.b .nil passL (pa_cons (pv 0) (pa_cons (pe_op op_pow pe_int pe_int) pa_nil)))) pe_int) (pe_op op_pow pe_int pe_int)) (pa_cons (pe_op op_mul pe_int (pe_call G_l_any.ok hr_l_any rfl G_l_any.mg G_l_any.kp G_l_any.b .nil passL (pa_cons (pv 0) (pa_cons (pe_tup (pa_cons pe_int (pa_cons pe_int (pa_cons pe_int (pa_cons pe_int (pa_cons pe_int (pa_cons pe_int (pa_cons pe_int pa_nil)))))))) pa_nil)))) pa_nil))))) pss_nil)
      (pss_one (ps_ret (pe_call G_l_low.ok hr_l_low rfl G_l_low.mg G_l_low.kp G_l_low.b .nil passL (pa_cons (pe_op op_sub (pe_call G_l_draw.ok hr_l_draw rfl G_l_draw.mg G_l_draw.kp G_l_draw.b .nil passL (pa_cons (pv 0) (pa_cons pe_int pa_nil))) pe_int) (pa_cons (pe_op op_add pe_int (pe_call G_l_draw.ok hr_l_draw rfl G_l_draw.mg G_l_draw.kp G_l_draw.b .nil passL (pa_cons (pv 0) (pa_cons pe_int pa_nil)))) pa_nil))))))))), ?_⟩
    obtain ⟨l, G, P0, rfl, j, hP, k⟩ := h
    have fin : ∀ (a b : Int) (G1 P1 H1 : Hp), Ex G G1 → Join G1 P1 H1 → Pot P1 l → 0 < b → -100000000000000000000000000000 ≤ a → a ≤ 100000000000000000000000000000 → b ≤ 100000000000000000000000000000 → sp_l_low K [.int a, .int b] H1 Q E0 := by
      intro a b G1 P1 H1 e j1 hP1 hb ha1 ha2 hb2
      have f := low_facts (a := a) hb
      refine ⟨a, b, rfl, hb, abs199 ha1 ha2, abs199 (by omega) hb2, fun p hp => ?_⟩
      exact k p _ _ _ P1 _ (e.trans (Ex.new (j1.ng hp))) (j1.newG hp) hP1 upd_same f.1 f.2.1 (Nat.le_trans f.2.2.1 (by omega)) (Nat.le_trans f.2.2.2 (by omega))
    clear k
    refine ⟨_, rfl, l, 4, G, P0, rfl, j, hP, by decide, by decide, fun r P1 H1 r0 r1 j1 hP1 => ?_⟩
    clear hP j
    refine ⟨_, rfl, rfl, _, rfl, ?_⟩
    by_cases h0 : r = 0
    · refine itT (congrArg V.int h0) ?_
      refine ⟨_, rfl, _, _, rfl, rfl, ⟨by decide, by decide, by decide⟩, _, _, rfl, rfl, .inl ⟨by decide, by decide⟩, l, _, G, P1, rfl, j1, hP1, by decide, by decide, fun d1 P2 H2 a1 b1 j2 hP2 => ?_⟩
      have b1' : d1 < 20000000000000000000000000000 := b1
      refine ⟨_, _, rfl, rfl, ⟨by decide, by decide, by decide⟩, _, _, rfl, rfl, _, _, rfl, rfl, ⟨by decide, by decide, by decide⟩, _, rfl, _, _, rfl, rfl, ⟨by decide, by decide, by decide⟩, l, _, G, P2, rfl, j2, hP2, by decide, by decide, fun d2 P3 H3 a2 b2 j3 hP3 => ?_⟩
      have b2' : d2 < 10000000000000000000000000000 := b2
      refine ⟨_, _, rfl, rfl, fin (d1 - 10000000000000000000000000000) (100000000 + d2) G P3 H3 (Ex.refl _) j3 hP3 (by omega) (by omega) (by omega) (by omega)⟩
    refine itF (fun q => h0 (V.int.inj q)) ⟨_, rfl, rfl, _, rfl, ?_⟩
    by_cases h1 : r = 1
    · refine itT (congrArg V.int h1) ?_
      refine ⟨_, rfl, l, _, G, P1, rfl, j1, hP1, by decide, by decide, fun d1 P2 H2 a1 b1 j2 hP2 => ?_⟩
      refine ⟨_, _, rfl, rfl, _, rfl, (by show 4 ≤ sizeLine; decide), fun t1 ht1 => ?_⟩
      have j3 := j2.newG (o := .tup [.int 1, .int 10, .int 100, .int 1000]) ht1
      refine ⟨l, t1, _, _, P2, rfl, j3, hP2, sqT upd_same, by decide, by decide, fun i x P3 H3 hx j4 hP3 => ?_⟩
      refine ⟨_, rfl, (by show 4 ≤ sizeLine; decide), fun t2 ht2 => ?_⟩
      have j5 := j4.newG (o := .tup [.int 1, .int 2, .int 3, .int 20]) ht2
      refine ⟨l, t2, _, _, P3, rfl, j5, hP3, sqT upd_same, by decide, by decide, fun i' x' P4 H4 hx' j6 hP4 => ?_⟩
      have m1 := mem_at hx
      have m2 := mem_at hx'
      obtain ⟨u, hu1, rfl⟩ : ∃ u : Int, (1 ≤ u ∧ u ≤ 1000) ∧ x = .int u := by
        simp only [List.mem_cons, List.not_mem_nil, or_false] at m1
        rcases m1 with rfl | rfl | rfl | rfl <;> exact ⟨_, by decide, rfl⟩
      obtain ⟨u', hu2, rfl⟩ : ∃ u : Int, (1 ≤ u ∧ u ≤ 20) ∧ x' = .int u := by
        simp only [List.mem_cons, List.not_mem_nil, or_false] at m2
        rcases m2 with rfl | rfl | rfl | rfl <;> exact ⟨_, by decide, rfl⟩
      have hm1 : 1 ≤ u * u' := Int.mul_le_mul hu1.1 hu2.1 (by decide) (by omega)
      have hm2 : u * u' ≤ 1000 * 20 := Int.mul_le_mul hu1.2 hu2.2 (by omega) (by decide)
      have b1' : d1 < 4001 := b1
      refine ⟨_, _, rfl, rfl, mulSm (by omega) (by omega) (by omega) (by omega), fin (d1 - 2000) (u * u') _ P4 H4 ((Ex.new (j2.ng ht1)).trans (Ex.new (j4.ng ht2))) j6 hP4 (by omega) (by omega) (by omega) (by omega)⟩
    refine itF (fun q => h1 (V.int.inj q)) ⟨_, rfl, rfl, _, rfl, ?_⟩
    by_cases h2 : r = 2
    · refine itT (congrArg V.int h2) ?_
      refine ⟨_, rfl, _, _, rfl, rfl, ⟨by decide, by decide, by decide⟩, l, _, G, P1, rfl, j1, hP1, by decide, by decide, fun d1 P2 H2 a1 b1 j2 hP2 => ?_⟩
      refine ⟨_, _, rfl, rfl, .inl ⟨by decide, by decide⟩, _, _, rfl, rfl, _, _, rfl, rfl, ⟨by decide, by decide, by decide⟩, _, _, rfl, rfl, _, rfl, (by show 7 ≤ sizeLine; decide), fun t1 ht1 => ?_⟩
      have j3 := j2.newG (o := .tup (units.map V.int)) ht1
      refine ⟨l, t1, _, _, P2, rfl, j3, hP2, sqT upd_same, by decide, by decide, fun i x P3 H3 hx j4 hP3 => ?_⟩
      obtain ⟨u, hu, rfl⟩ := int_at hx
      have hu1 := units_small hu
      have b1' : d1 < 1000000000 := b1
      refine ⟨_, _, rfl, rfl, .inl ⟨by decide, by decide⟩, fin (2 * d1 + 1 - 1000000000) (2 * u) _ P3 H3 (Ex.new (j2.ng ht1)) j4 hP3 (by omega) (by omega) (by omega) (by omega)⟩
    refine itF (fun q => h2 (V.int.inj q)) ?_
    refine ⟨_, rfl, l, _, G, P1, rfl, j1, hP1, by decide, by decide, fun d1 P2 H2 a1 b1 j2 hP2 => ?_⟩
    refine ⟨_, _, rfl, rfl, _, rfl, l, _, G, P2, rfl, j2, hP2, by decide, by decide, fun d2 P3 H3 a2 b2 j3 hP3 => ?_⟩
    have b1' : d1 < 61 := b1
    have b2' : d2 < 12 := b2
    exact ⟨_, _, rfl, rfl, fin (d1 - 30) (1 + d2) G P3 H3 (Ex.refl _) j3 hP3 (by omega) (by omega) (by omega) (by omega)⟩
end X

namespace X
open PySem PySem.Spec PyProof.Rows L2 Lv
variable {P : Program} {w : World} {K : PySem.W.Frag} {mg : Str → Option Value} {base : Heap}
/-- what the law's own look asks of a mark -/
def Right (m t b : Int) (z : Str) : Prop := (z = "down" ∧ m * b ≤ t ∧ t < (m + 1) * b) ∨ (z = "up" ∧ (m - 1) * b < t ∧ t ≤ m * b) ∨ (z = "near" ∧ (2 * m - 1) * b ≤ 2 * t ∧ 2 * t < (2 * m + 1) * b) ∨
  (z = "even" ∧ (2 * ((t - m * b).natAbs : Int) < b ∨ (2 * ((t - m * b).natAbs : Int) = b ∧ m % 2 = 0)))
def sp_l_is_right (K : PySem.W.Frag) : Sp := fun vs H Q _ => ∃ (m t b : Int) (z : Str), vs = [.int m, .str z, .int t, .int b] ∧ m.natAbs < 2 ^ 900 ∧ b.natAbs < 2 ^ 900 ∧ Right m t b z ∧ Q (.bl true) H
theorem s900 {i : Int} (h : i.natAbs < 2 ^ 900) : i.natAbs < 2 ^ 1000 := Nat.lt_of_lt_of_le h (Nat.pow_le_pow_right (by decide) (by decide))
theorem s901 {i j : Int} (h : i.natAbs < 2 ^ 900) (hj : j.natAbs ≤ 2 * i.natAbs + 1) : j.natAbs < 2 ^ 1000 := by
  have h2 : 2 ^ 900 * 4 ≤ 2 ^ 1000 := by
    rw [show (1000 : Nat) = 900 + 100 from rfl, Nat.pow_add]
    exact Nat.mul_le_mul_left _ (by decide)
  omega
theorem qT {Q : VK} {H : Hp} {b : Bool} (h : b = true) (k : Q (.bl true) H) : Q (.bl b) H := by rw [h]; exact k
theorem sc_l_is_right : FnScope ["_law_told", "_law_how", "_law_top", "_law_bottom", "_law_far"] ["_law_told", "_law_how", "_law_top", "_law_bottom"] (defScope s_l_is_right) := ⟨rfl, rfl, rfl, by decide +kernel, rfl, by decide +kernel, by decide +kernel⟩
theorem ok_l_is_right (T : Txt K mg) : ∃ fd, Dn P w K mg base (L2.CX P w) 1 "_law_is_right" ["_law_told", "_law_how", "_law_top", "_law_bottom"] (sp_l_is_right K) fd := by
  obtain ⟨fd, F⟩ := T.d_l_is_right
  refine ⟨fd, F.ok sc_l_is_right (fun vs H Q E h => ?_) (fun cdv A outer s H vs Q E hr h => ?_), T.g_l_is_right, F.kp, F.bindsN fun _ _ _ _ _ _ us hl => match us, hl with | [_, _, _, _], _ => rfl, Lv.fun_lk F⟩
  · obtain ⟨_, _, _, _, rfl, _⟩ := h
    rfl
  · have hu := hu_of hr
    refine ⟨_, PSs.nox (pss_cons (ps_if (PW.pt (pw_or (pt_val (pe_callB call_isi (by rfl) T.n_isinstance (by decide +kernel) (pa_cons (pv 0) (pa_cons (pe_bltn (v := .ty "bool") (by rfl) T.n_bool (by decide +kernel) rfl) pa_nil)))) (pw_or1 (pt_not (pt_val (pe_callB call_isi (by rfl) T.n_isinstance (by decide +kernel) (pa_cons (pv 0) (pa_cons (pe_bltn (v := .ty "int") (by rfl) T.n_int (by decide +kernel) rfl) pa_nil)))))))) (pss_one (ps_ret pe_bl)) pss_nil)
      (pss_cons (ps_if (pt_cmpR op_eq (pv 1) pe_str (nomark _)) (pss_one (ps_ret (pe_chain op_le op_lt (pe_op op_mulW (pv 0) (pv 3)) (pv 2) (pe_op op_mulW (pe_op op_add (pv 0) pe_int) (pv 3))))) pss_nil)
      (pss_cons (ps_if (pt_cmpR op_eq (pv 1) pe_str (nomark _)) (pss_one (ps_ret (pe_chain op_lt op_le (pe_op op_mulW (pe_op op_sub (pv 0) pe_int) (pv 3)) (pv 2) (pe_op op_mulW (pv 0) (pv 3))))) pss_nil)
      (pss_cons (ps_if (pt_cmpR op_eq (pv 1) pe_str (nomark _)) (pss_one (ps_ret (pe_chain op_le op_lt (pe_op op_mulW (pe_op op_sub (pe_op op_mul pe_int (pv 0)) pe_int) (pv 3)) (pe_op op_mul pe_int (pv 2)) (pe_op op_mulW (pe_op op_add (pe_op op_mul pe_int (pv 0)) pe_int) (pv 3))))) pss_nil)
      (pss_cons (ps_set (i := 4) sc_l_is_right.nd rfl (Or.inl rfl) (pe_op op_mul pe_int (pe_callB call_abs (by rfl) T.n_abs (by decide +kernel) (pa_cons (pe_op op_sub (pv 2) (pe_op op_mulW (pv 0) (pv 3))) pa_nil))))
      (pss_one (ps_ret (pe_or (pe_cmpR op_lt (pv 4) (pv 3) (nomark _)) (pe_one (pe_and (pe_cmpR op_eq (pv 4) (pv 3) (nomark _)) (pe_one (pe_cmpR op_eq (pe_op op_mod (pe_callTy call_int1 (by rfl) T.n_int (by decide +kernel) (pa_cons (pv 0) pa_nil)) pe_int) pe_int (nomark _))))))))))))), ?_⟩
    obtain ⟨m, t, b, z, rfl, sm, sb, R, k⟩ := h
    refine ⟨_, rfl, _, _, _, _, false, rfl, .ty _, .base (.int m), kit_ty (by decide +kernel), false, rfl, iteF ?_⟩
    refine ⟨_, rfl, _, _, _, _, true, rfl, .ty _, .base (.int m), kit_ty (by decide +kernel), true, rfl, iteF ?_⟩
    refine ⟨_, rfl, rfl, _, rfl, ?_⟩
    have ne1 : ¬ (("up" : Str) = "down") := by decide +kernel
    have ne2 : ¬ (("near" : Str) = "down") := by decide +kernel
    have ne3 : ¬ (("near" : Str) = "up") := by decide +kernel
    have ne4 : ¬ (("even" : Str) = "down") := by decide +kernel
    have ne5 : ¬ (("even" : Str) = "up") := by decide +kernel
    have ne6 : ¬ (("even" : Str) = "near") := by decide +kernel
    rcases R with ⟨rfl, h1, h2⟩ | ⟨rfl, h1, h2⟩ | ⟨rfl, h1, h2⟩ | ⟨rfl, h1⟩
    · refine itT rfl ⟨_, rfl, _, rfl, _, _, rfl, rfl, mulW (s900 sm) (s900 sb), _, rfl, _, _, rfl, rfl, _, rfl, itT h1 ⟨_, rfl, _, _, rfl, rfl, _, rfl, _, _, rfl, rfl, mulW (s901 sm (by omega)) (s900 sb), _, _, rfl, rfl, ?_⟩⟩
      exact qT (Q := Q) (decide_eq_true h2) k
    · refine itF (fun q => ne1 (V.str.inj q)) ⟨_, rfl, rfl, _, rfl, itT rfl ⟨_, rfl, _, _, rfl, rfl, _, rfl, _, _, rfl, rfl, mulW (s901 sm (by omega)) (s900 sb), _, rfl, _, _, rfl, rfl, _, rfl, itT h1 ⟨_, rfl, _, rfl, _, _, rfl, rfl, mulW (s900 sm) (s900 sb), _, _, rfl, rfl, ?_⟩⟩⟩
      exact qT (Q := Q) (decide_eq_true h2) k
    · refine itF (fun q => ne2 (V.str.inj q)) ⟨_, rfl, rfl, _, rfl, itF (fun q => ne3 (V.str.inj q)) ⟨_, rfl, rfl, _, rfl, itT rfl ⟨_, rfl, _, _, rfl, rfl, .inl ⟨by decide, by decide⟩, _, _, rfl, rfl, _, rfl, _, _, rfl, rfl, mulW (s901 sm (by omega)) (s900 sb), _, rfl, _, _, rfl, rfl, .inl ⟨by decide, by decide⟩, _, _, rfl, rfl, _, rfl, itT h1
        ⟨_, rfl, _, _, rfl, rfl, .inl ⟨by decide, by decide⟩, _, _, rfl, rfl, _, rfl, _, _, rfl, rfl, mulW (s901 sm (by omega)) (s900 sb), _, _, rfl, rfl, ?_⟩⟩⟩⟩
      exact qT (Q := Q) (decide_eq_true h2) k
    · refine itF (fun q => ne4 (V.str.inj q)) ⟨_, rfl, rfl, _, rfl, itF (fun q => ne5 (V.str.inj q)) ⟨_, rfl, rfl, _, rfl, itF (fun q => ne6 (V.str.inj q)) ?_⟩⟩
      refine ⟨_, rfl, _, rfl, _, rfl, _, _, rfl, rfl, mulW (s900 sm) (s900 sb), _, _, rfl, rfl, _, rfl, _, _, rfl, rfl, .inl ⟨by decide, by decide⟩, ?_⟩
      rw [abs_if]
      refine ⟨_, rfl, _, rfl, _, _, rfl, rfl, _, rfl, ?_⟩
      by_cases q1 : 2 * ((t - m * b).natAbs : Int) < b
      · exact itT q1 k
      · obtain ⟨q2, q3⟩ := h1.resolve_left q1
        refine itF q1 ⟨_, rfl, _, rfl, rfl, _, rfl, itT (congrArg V.int q2) ⟨_, rfl, .inl ⟨_, rfl, _, _, rfl, rfl, (by show (0 : Int) < 2; decide), rfl, ?_⟩⟩⟩
        exact qT (Q := Q) (decide_eq_true (congrArg V.int q3)) k
end X

namespace X
open PySem PySem.Spec PyProof.Rows L2 Lv
theorem parts (x : Int) {b : Int} (hb : 0 < b) : ∃ w, x / b * b = w ∧ x = w + x % b ∧ 0 ≤ x % b ∧ x % b < b := by
  refine ⟨_, rfl, ?_, Int.emod_nonneg _ (by omega), Int.emod_lt_of_pos _ hb⟩
  have h := Int.ediv_mul_add_emod x b
  omega
theorem hows_cases {z : Str} (h : z ∈ hows) : z = "down" ∨ z = "up" ∨ z = "near" ∨ z = "even" := by
  simpa only [hows, List.mem_cons, List.not_mem_nil, or_false] using h
theorem ne_ud : ¬ (("up" : Str) = "down") := by decide +kernel
theorem ne_nd : ¬ (("near" : Str) = "down") := by decide +kernel
theorem ne_nu : ¬ (("near" : Str) = "up") := by decide +kernel
theorem ne_ed : ¬ (("even" : Str) = "down") := by decide +kernel
theorem ne_eu : ¬ (("even" : Str) = "up") := by decide +kernel
theorem ne_en : ¬ (("even" : Str) = "near") := by decide +kernel
theorem mk_down (p t u : Int) : markOf p t u "down" = p * u / t := if_pos rfl
theorem mk_up (p t u : Int) : markOf p t u "up" = p * u / t + b2 (decide (0 < p * u % t)) := by
  unfold markOf; rw [if_neg ne_ud, if_pos rfl]
theorem mk_near (p t u : Int) : markOf p t u "near" = p * u / t + b2 (decide (t ≤ 2 * (p * u % t))) := by
  unfold markOf; rw [if_neg ne_nd, if_neg ne_nu, if_pos rfl]
theorem mk_even (p t u : Int) : markOf p t u "even" = p * u / t + b2 (decide (t < 2 * (p * u % t)) || (decide (2 * (p * u % t) = t) && decide (p * u / t % 2 = 1))) := by
  unfold markOf; rw [if_neg ne_ed, if_neg ne_eu, if_neg ne_en]
theorem b2T {b : Bool} (h : b = true) : b2 b = 1 := by rw [h]; rfl
theorem b2F {b : Bool} (h : b = false) : b2 b = 0 := by rw [h]; rfl
theorem b2_le (b : Bool) : 0 ≤ b2 b ∧ b2 b ≤ 1 := by cases b <;> decide
theorem mk_bound (p t u : Int) {z : Str} (h : z ∈ hows) : p * u / t ≤ markOf p t u z ∧ markOf p t u z ≤ p * u / t + 1 := by
  rcases hows_cases h with rfl | rfl | rfl | rfl
  · rw [mk_down]; omega
  · rw [mk_up]; have := b2_le (decide (0 < p * u % t)); omega
  · rw [mk_near]; have := b2_le (decide (t ≤ 2 * (p * u % t))); omega
  · rw [mk_even]; have := b2_le (decide (t < 2 * (p * u % t)) || (decide (2 * (p * u % t) = t) && decide (p * u / t % 2 = 1))); omega
theorem right_of {a b u : Int} (hb : 0 < b) {z : Str} (h : z ∈ hows) : Right (markOf a b u z) (a * u) b z := by
  obtain ⟨w, e1, e2, h0, h1⟩ := parts (a * u) hb
  rcases hows_cases h with rfl | rfl | rfl | rfl
  · refine .inl ⟨rfl, ?_⟩
    rw [mk_down, Int.add_mul, Int.one_mul, e1]; omega
  · refine .inr (.inl ⟨rfl, ?_⟩)
    rw [mk_up]
    by_cases q : 0 < a * u % b
    · rw [b2T (decide_eq_true q), Int.sub_mul, Int.add_mul, Int.one_mul, e1]; omega
    · rw [b2F (decide_eq_false q), Int.sub_mul, Int.add_mul, Int.one_mul, Int.zero_mul, e1]; omega
  · refine .inr (.inr (.inl ⟨rfl, ?_⟩))
    rw [mk_near]
    by_cases q : b ≤ 2 * (a * u % b)
    · rw [b2T (decide_eq_true q), Int.sub_mul, Int.add_mul (2 * _), Int.mul_add, Int.add_mul, Int.one_mul, Int.mul_assoc 2, e1]; omega
    · rw [b2F (decide_eq_false q), Int.sub_mul, Int.add_mul (2 * _), Int.mul_add, Int.add_mul, Int.one_mul, Int.mul_assoc 2, e1]; omega
  · refine .inr (.inr (.inr ⟨rfl, ?_⟩))
    rw [mk_even]
    by_cases q : b < 2 * (a * u % b)
    · rw [b2T (by rw [decide_eq_true q]; rfl), Int.add_mul, Int.one_mul, e1]; omega
    · by_cases q2 : 2 * (a * u % b) = b
      · by_cases q3 : a * u / b % 2 = 1
        · rw [b2T (by rw [decide_eq_true q2, decide_eq_true q3]; simp), Int.add_mul, Int.one_mul, e1]; omega
        · rw [b2F (by rw [decide_eq_false q, decide_eq_false q3]; simp), Int.add_mul, Int.zero_mul, e1]; omega
      · rw [b2F (by rw [decide_eq_false q, decide_eq_false q2]; simp), Int.add_mul, Int.zero_mul, e1]; omega
theorem neg_parts (x : Int) {b : Int} (hb : 0 < b) : (x % b = 0 ∧ (-x) % b = 0 ∧ (-x) / b = -(x / b)) ∨ (0 < x % b ∧ (-x) % b = b - x % b ∧ (-x) / b = -(x / b) - 1) := by
  obtain ⟨w, e1, e2, h0, h1⟩ := parts x hb
  by_cases q : x % b = 0
  · refine .inl ⟨q, ?_⟩
    have hd : b ∣ x := Int.dvd_of_emod_eq_zero q
    exact ⟨Int.emod_eq_zero_of_dvd (Int.dvd_neg.mpr hd), Int.neg_ediv_of_dvd hd⟩
  · refine .inr ⟨by omega, ?_⟩
    have hd : ¬ b ∣ x := fun h => q (Int.emod_eq_zero_of_dvd h)
    constructor
    · rw [Int.neg_emod, if_neg hd]; omega
    · rw [Int.neg_ediv, if_neg hd, Int.sign_eq_one_of_pos hb]
theorem mirror_up {a b u : Int} (hb : 0 < b) : markOf (0 - a) b u "up" = 0 - markOf a b u "down" := by
  rw [mk_up, mk_down, Int.zero_sub, Int.zero_sub, Int.neg_mul]
  rcases neg_parts (a * u) hb with ⟨h1, h2, h3⟩ | ⟨h1, h2, h3⟩
  · rw [h2, h3, b2F (by decide)]; omega
  · have hl := Int.emod_lt_of_pos (a * u) hb
    rw [h2, h3, b2T (decide_eq_true (by omega))]; omega
theorem mirror_even {a b u : Int} (hb : 0 < b) : markOf (0 - a) b u "even" = 0 - markOf a b u "even" := by
  rw [mk_even, mk_even, Int.zero_sub, Int.zero_sub, Int.neg_mul]
  rcases neg_parts (a * u) hb with ⟨h1, h2, h3⟩ | ⟨h1, h2, h3⟩
  · rw [h2, h3, h1, b2F (by rw [decide_eq_false (by omega), decide_eq_false (by omega)]; rfl), b2F (by rw [decide_eq_false (by omega), decide_eq_false (by omega)]; rfl)]; omega
  · have hl := Int.emod_lt_of_pos (a * u) hb
    rw [h2, h3]
    by_cases q : b < 2 * (a * u % b)
    · rw [b2T (b := decide (b < 2 * (a * u % b)) || _) (by rw [decide_eq_true q]; rfl), b2F (by rw [decide_eq_false (by omega), decide_eq_false (by omega)]; rfl)]; omega
    · by_cases q2 : 2 * (a * u % b) = b
      · by_cases q3 : a * u / b % 2 = 1
        · rw [b2T (b := decide (b < 2 * (a * u % b)) || _) (by rw [decide_eq_true q2, decide_eq_true q3]; simp), b2F (by rw [decide_eq_false (show ¬ (b < 2 * (b - a * u % b)) by omega), decide_eq_false (show ¬ ((-(a * u / b) - 1) % 2 = 1) by omega)]; simp)]; omega
        · rw [b2F (b := decide (b < 2 * (a * u % b)) || _) (by rw [decide_eq_false q, decide_eq_false q3]; simp), b2T (by rw [decide_eq_true (show 2 * (b - a * u % b) = b by omega), decide_eq_true (show ((-(a * u / b) - 1) % 2 = 1) by omega)]; simp)]; omega
      · rw [b2F (b := decide (b < 2 * (a * u % b)) || _) (by rw [decide_eq_false q, decide_eq_false q2]; simp), b2T (by rw [decide_eq_true (show b < 2 * (b - a * u % b) by omega)]; rfl)]; omega
theorem finer {a b u : Int} (hb : 0 < b) : markOf a b (u * 10) "down" / 10 = markOf a b u "down" := by
  rw [mk_down, mk_down, Int.ediv_ediv_of_nonneg (by omega), ← Int.mul_assoc]
  exact Int.mul_ediv_mul_of_pos_left _ _ (by decide)
theorem whole_mark {m u : Int} (hu : 0 < u) {z : Str} (h : z ∈ hows) : markOf (m / (Int.gcd m u : Nat)) (u / (Int.gcd m u : Nat)) u z = m := by
  have hpos := (low_facts (a := m) hu).1
  have d1 : ((Int.gcd m u : Nat) : Int) ∣ m := Int.gcd_dvd_left ..
  have d2 : ((Int.gcd m u : Nat) : Int) ∣ u := Int.gcd_dvd_right ..
  have e : m / (Int.gcd m u : Nat) * u = m * (u / (Int.gcd m u : Nat)) := by
    obtain ⟨c, hc⟩ := d1
    obtain ⟨d, hd⟩ := d2
    have g0 : ((Int.gcd m u : Nat) : Int) ≠ 0 := by
      have : 0 < Int.gcd m u := Int.gcd_pos_of_ne_zero_right m (by omega)
      omega
    have h1 : m / (Int.gcd m u : Nat) = c := Int.ediv_eq_of_eq_mul_right g0 hc
    have h2 : u / (Int.gcd m u : Nat) = d := Int.ediv_eq_of_eq_mul_right g0 hd
    rw [h1, h2]
    generalize ((Int.gcd m u : Nat) : Int) = g at hc hd
    rw [hc, hd, Int.mul_left_comm, Int.mul_assoc]
  generalize u / (Int.gcd m u : Nat) = v at hpos e
  have q1 : m / (Int.gcd m u : Nat) * u / v = m := by rw [e]; exact Int.mul_ediv_cancel _ (by omega)
  have q2 : m / (Int.gcd m u : Nat) * u % v = 0 := by rw [e]; exact Int.mul_emod_left _ _
  rcases hows_cases h with rfl | rfl | rfl | rfl
  · rw [mk_down, q1]
  · rw [mk_up, q1, q2, b2F (by decide)]; omega
  · rw [mk_near, q1, q2, b2F (decide_eq_false (by omega))]; omega
  · rw [mk_even, q1, q2, b2F (by rw [decide_eq_false (by omega), decide_eq_false (by omega)]; rfl)]; omega
end X

namespace X
open PySem PySem.Spec PyProof.Rows L2 Lv
variable {P : Program} {w : World} {K : PySem.W.Frag} {mg : Str → Option Value} {base : Heap}
def sp_law (K : PySem.W.Frag) : Sp := fun vs H Q _ => ∃ (a : Addr) (ns : List Int), vs = [.ref a] ∧ SqL K H a (ns.map V.int) ∧ ns.length ≤ 63 ∧ ∀ H', Q (.bl true) H'
/-- a text's mark -/
def fMark (a b u : Int) : V → V
  | .str z => .int (markOf a b u z)
  | v => v
def howsV : List V := [.str "down", .str "up", .str "near", .str "even"]
theorem howsV_mem {x : V} (h : x ∈ howsV) : ∃ z, z ∈ hows ∧ x = .str z := by
  simp only [howsV, List.mem_cons, List.not_mem_nil, or_false] at h
  rcases h with rfl | rfl | rfl | rfl <;> exact ⟨_, by simp [hows], rfl⟩
theorem mark_small {a b u : Int} (sa : a.natAbs ≤ 100000000000000000000000000000) (hu : 1 ≤ u ∧ u ≤ 1000000) {z : Str} (h : z ∈ hows) : (markOf a b u z).natAbs ≤ 100000000000000000000000000000000001 := by
  have h1 := mk_bound a b u h
  have h2 : (a * u / b).natAbs ≤ (a * u).natAbs := Int.natAbs_ediv_le_natAbs _ _
  have h3 : (a * u).natAbs ≤ 100000000000000000000000000000 * 1000000 := by
    rw [Int.natAbs_mul]
    exact Nat.mul_le_mul sa (by omega)
  omega
theorem units_next {n u : Int} (h0 : 0 ≤ n) (h : n < 6) (hu : units[n.toNat]? = some u) : units[(n + 1).toNat]? = some (u * 10) := by
  have e : (n + 1).toNat = n.toNat + 1 := by omega
  rw [e]
  have hn : n.toNat < 6 := by omega
  generalize n.toNat = m at hu hn
  match m, hn with
  | 0, _ | 1, _ | 2, _ | 3, _ | 4, _ | 5, _ =>
    have e2 := Option.some.inj hu
    rw [← e2]; rfl
theorem sc_law : FnScope ["_law_script", "_law_pot_here", "_law_turn", "_law_share", "_law_places", "_law_unit", "_law_told", "_law_whole", "_law_at", "_law_how"] ["_law_script"] (defScope s_law) := ⟨rfl, rfl, rfl, by decide +kernel, rfl, by decide +kernel, by decide +kernel⟩
theorem ok_law (T : Txt K mg) {fd_l_pot : FuncData} (G_l_pot : Dn P w K mg base (L2.CX P w) 1 "_law_pot" ["_law_script"] (spPot K) fd_l_pot) {fd_l_pick : FuncData} (G_l_pick : Dn P w K mg base (L2.CX P w) 3 "_law_pick" ["_law_pot_here"] (sp_l_pick K) fd_l_pick) {fd_l_draw : FuncData} (G_l_draw : Dn P w K mg base (L2.CX P w) 1 "_law_draw" ["_law_pot_here", "_law_many"] spDraw fd_l_draw) {fd_mark : FuncData} (G_mark : Dn P w K mg base (L2.CX P w) 5 "mark" ["share", "places", "how"] (sp_mark K) fd_mark) {fd_l_is_right : FuncData} (G_l_is_right : Dn P w K mg base (L2.CX P w) 1 "_law_is_right" ["_law_told", "_law_how", "_law_top", "_law_bottom"] (sp_l_is_right K) fd_l_is_right) {fd_l_low : FuncData} (G_l_low : Dn P w K mg base (L2.CX P w) 2 "_law_low" ["_law_top", "_law_bottom"] (sp_l_low K) fd_l_low) : ∃ fd, Dn P w K mg base CX0 6 "law" ["_law_script"] (sp_law K) fd := by
  obtain ⟨fd, F⟩ := T.d_law
  refine ⟨fd, F.ok sc_law (fun vs H Q E h => ?_) (fun cdv A outer s H vs Q E hr h => ?_), T.g_law, F.kp, F.bindsN fun _ _ _ _ _ _ us hl => match us, hl with | [_], _ => rfl, Lv.fun_lk F⟩
  · obtain ⟨_, _, rfl, _⟩ := h
    rfl
  · have hu := hu_of hr
    have hr_l_pot : Room 1 _ := hr.mono (by decide)
    have hr_l_pick : Room 3 _ := hr.mono (by decide)
    have hr_l_draw : Room 1 _ := hr.mono (by decide)
    have hr_mark : Room 5 _ := hr.mono (by decide)
    have hr_l_is_right : Room 1 _ := hr.mono (by decide)
    have hr_l_low : Room 2 _ := hr.mono (by decide)
    refine ⟨_, PSs.nox (pss_cons (ps_set (i := 1) sc_law.nd rfl (Or.inl rfl) (pe_call G_l_pot.ok hr_l_pot rfl G_l_pot.mg G_l_pot.kp G_l_pot.b .nil passL (pa_cons (pv 0) pa_nil)))
      (pss_cons (ps_for PassesOwn.never rfl (pi_range1 (by rfl) T.n_range (pa_cons pe_int pa_nil)) (pg_name (i := 2) sc_law.nd rfl (Or.inl rfl)) (pss_cons (ps_set (i := 3) sc_law.nd rfl (Or.inr rfl) (pe_call G_l_pick.ok hr_l_pick rfl G_l_pick.mg G_l_pick.kp G_l_pick.b .nil passL (pa_cons (pv 1) pa_nil)))
      (pss_one (ps_for PassesOwn.never rfl (pi_tup (pe_tup (pa_cons (pe_call G_l_draw.ok hr_l_draw rfl G_l_draw.mg G_l_draw.kp G_l_draw.b .nil passL (pa_cons (pv 1) (pa_cons pe_int pa_nil))) (pa_cons (pe_call G_l_draw.ok hr_l_draw rfl G_l_draw.mg G_l_draw.kp G_l_draw.b .nil passL (pa_cons (pv 1) (pa_cons pe_int pa_nil))) pa_nil)))) (pg_name (i := 4) sc_law.nd rfl (Or.inr rfl)) (pss_cons (ps_set (i := 5) sc_law.nd rfl (Or.inl rfl) (pe_ix ix_tup (pe_tup (pa_cons pe_int (pa_cons pe_int (pa_cons pe_int (pa_cons pe_int (pa_cons pe_int (pa_cons pe_int (pa_cons pe_int pa_nil)))))))) (pv 4) (fun _ _ => rfl)))
      (pss_cons (ps_setLc (i := 6) (own := [("_law_how", 9)]) (g := gName 9) (tt := tYes) rfl sc_law.nd rfl rfl (sw_true rfl rfl rfl (by decide +kernel)) (pi_tup (pe_tup (pa_cons pe_str (pa_cons pe_str (pa_cons pe_str (pa_cons pe_str pa_nil)))))) (blkOk_by (N := ["_law_script", "_law_pot_here", "_law_turn", "_law_share", "_law_places", "_law_unit", "_law_told", "_law_whole", "_law_at", "_law_how"]) (sc := defScope s_law) (by decide +kernel)) (fun _ _ _ _ _ => (pg_name (i := 9) sc_law.nd rfl (Or.inl rfl))) (fun _ _ _ _ _ => pts_nil) (fun _ _ _ _ _ => (pe_call G_mark.ok hr_mark rfl G_mark.mg G_mark.kp G_mark.b .nil passL (pa_cons (pv 3) (pa_cons (pv 4) (pa_cons (pv 9) pa_nil))))))
      (pss_cons (ps_for PassesOwn.never rfl (pi_enumT (by rfl) T.n_enumerate (pa_cons (pe_tup (pa_cons pe_str (pa_cons pe_str (pa_cons pe_str (pa_cons pe_str pa_nil))))) pa_nil)) (pg_tup rfl (pgs_cons (pg_name (i := 8) sc_law.nd rfl (Or.inl rfl)) (pgs_cons (pg_name (i := 9) sc_law.nd rfl (Or.inl rfl)) pgs_nil))) (pss_one (ps_if (pt_not (pt_val (pe_call G_l_is_right.ok hr_l_is_right rfl G_l_is_right.mg G_l_is_right.kp G_l_is_right.b .nil passL (pa_cons (pe_ix ix_list (pv 6) (pv 8) (fun _ _ => rfl)) (pa_cons (pv 9) (pa_cons (pe_op op_mulW (pe_ix ix_tup (pv 3) pe_int (fun _ _ => rfl)) (pv 5)) (pa_cons (pe_ix ix_tup (pv 3) pe_int (fun _ _ => rfl)) pa_nil))))))) (pss_one (ps_ret pe_bl)) pss_nil)))
      (pss_cons (ps_if (pt_cmpR op_ne (pe_call G_mark.ok hr_mark rfl G_mark.mg G_mark.kp G_mark.b .nil passL (pa_cons (pe_tup (pa_cons (pe_op op_sub pe_int (pe_ix ix_tup (pv 3) pe_int (fun _ _ => rfl))) (pa_cons (pe_ix ix_tup (pv 3) pe_int (fun _ _ => rfl)) pa_nil))) (pa_cons (pv 4) (pa_cons pe_str pa_nil)))) (pe_op op_sub pe_int (pe_ix ix_list (pv 6) pe_int (fun _ _ => rfl))) (nomark _)) (pss_one (ps_ret pe_bl)) pss_nil)
      (pss_cons (ps_if (pt_cmpR op_ne (pe_call G_mark.ok hr_mark rfl G_mark.mg G_mark.kp G_mark.b .nil passL (pa_cons (pe_tup (pa_cons (pe_op op_sub pe_int (pe_ix ix_tup (pv 3) pe_int (fun _ _ => rfl))) (pa_cons (pe_ix ix_tup (pv 3) pe_int (fun _ _ => rfl)) pa_nil))) (pa_cons (pv 4) (pa_cons pe_str pa_nil)))) (pe_op op_sub pe_int (pe_ix ix_list (pv 6) pe_int (fun _ _ => rfl))) (nomark _)) (pss_one (ps_ret pe_bl)) pss_nil)
      (Evl.pss_cut (ps_if (PW.pt (pw_and (pt_cmpR op_lt (pv 4) pe_int (nomark _)) (pw_and1 (pt_cmpR op_ne (pe_op op_fdiv (pe_call G_mark.ok hr_mark rfl G_mark.mg G_mark.kp G_mark.b .nil passL (pa_cons (pv 3) (pa_cons (pe_op op_add (pv 4) pe_int) (pa_cons pe_str pa_nil)))) pe_int) (pe_ix ix_list (pv 6) pe_int (fun _ _ => rfl)) (nomark _))))) (pss_one (ps_ret pe_bl)) pss_nil)
      (pss_cons (ps_set (i := 7) sc_law.nd rfl (Or.inr rfl) (pe_call G_l_low.ok hr_l_low rfl G_l_low.mg G_l_low.kp G_l_low.b .nil passL (pa_cons (pe_ix ix_list (pv 6) pe_int (fun _ _ => rfl)) (pa_cons (pv 5) pa_nil))))
      (pss_one (ps_if (pt_cmpR (op_neD hr.units) (pe_lc (own := [("_law_how", 9)]) (g := gName 9) (tt := tYes) rfl sc_law.nd (pi_tup (pe_tup (pa_cons pe_str (pa_cons pe_str (pa_cons pe_str (pa_cons pe_str pa_nil)))))) (blkOk_by (N := ["_law_script", "_law_pot_here", "_law_turn", "_law_share", "_law_places", "_law_unit", "_law_told", "_law_whole", "_law_at", "_law_how"]) (sc := defScope s_law) (by decide +kernel)) (fun _ _ _ _ _ => (pg_name (i := 9) sc_law.nd rfl (Or.inl rfl))) (fun _ _ _ _ _ => pts_nil) (fun _ _ _ _ _ => (pe_call G_mark.ok hr_mark rfl G_mark.mg G_mark.kp G_mark.b .nil passL (pa_cons (pv 7) (pa_cons (pv 4) (pa_cons (pv 9) pa_nil)))))) (pe_op op_rep (pe_lst (pa_cons (pe_ix ix_list (pv 6) pe_int (fun _ _ => rfl)) pa_nil)) pe_int) (nomark _)) (pss_one (ps_ret pe_bl)) pss_nil)))))))))))))
      (pss_one (ps_ret pe_bl)))), ?_⟩
    obtain ⟨a, ns, rfl, hS, hl, k⟩ := h
    refine ⟨_, rfl, a, ns, rfl, hS, hl, fun l G P0 H1 e0 j hP => ?_⟩
    clear hS
    refine ⟨5, rfl, by decide, by decide, for_range (lo := 0) (n := 5) (fun i σ H' => ∃ (G : Hp) (P : Hp) (s2 s3 s4 s5 s6 s7 s8 s9 : Option V), σ = [some (.ref a), some (.ref l), s2, s3, s4, s5, s6, s7, s8, s9] ∧ Join G P H' ∧ Pot P l)
      ⟨G, P0, _, _, _, _, _, _, _, _, rfl, j, hP⟩ ?_ ?_⟩
    · clear j hP e0
      rintro i σ H2 hi ⟨G, P0, s2, s3, s4, s5, s6, s7, s8, s9, rfl, j, hP⟩
      refine ⟨_, rfl, l, G, P0, rfl, j, hP, fun p a' b G1 P1 H3 e1 j1 hP1 hp hb hg sa sb => ?_⟩
      refine ⟨_, rfl, l, 7, G1, P1, rfl, j1, hP1, by decide, by decide, fun r1 P2 H4 a1 b1 j2 hP2 => ⟨_, rfl, l, 6, G1, P2, rfl, j2, hP2, by decide, by decide, fun r2 P3 H5 a2 b2 j3 hP3 => ⟨(by show 2 ≤ sizeLine; decide), fun t ht => ⟨t, rfl, ⟨_, sqT upd_same⟩, ?_⟩⟩⟩⟩
      have j4 := j3.newG (o := .tup [.int r1, .int r2]) ht
      have e4 : Ex G1 _ := Ex.new (o := .tup [.int r1, .int r2]) (j3.ng ht)
      have hp4 := e4 _ _ hp
      have ht4 : (upd G1 t (.tup [.int r1, .int r2])) t = _ := upd_same
      generalize (upd G1 t (.tup [.int r1, .int r2])) = G4 at j4 e4 hp4 ht4
      generalize upd H5 t (HO.tup [V.int r1, V.int r2]) = H6 at j4 ⊢
      clear j j1 j2 j3 hP hP1 hP2 ht hp e4
      refine for_tup (K := K) (a := t) (xs := [.int r1, .int r2]) (fun i σ H' => ∃ (G5 : Hp) (s2 s4 s5 s6 s7 s8 s9 : Option V), σ = [some (.ref a), some (.ref l), s2, some (.ref p), s4, s5, s6, s7, s8, s9] ∧ Join G5 P3 H' ∧ Ex G4 G5)
        ⟨G4, _, _, _, _, _, _, _, rfl, j4, Ex.refl _⟩ ?_ ?_ ?_
      · rintro i σ H' _ ⟨G5, s2, s4, s5, s6, s7, s8, s9, rfl, j5, e5⟩
        exact sqT (j5.g _ _ (e5 _ _ ht4))
      · rintro i x σ H7 hx ⟨G5, s2, s4, s5, s6, s7, s8, s9, rfl, j5, e5⟩
        obtain ⟨n, hn0, hn6, rfl⟩ : ∃ n : Int, 0 ≤ n ∧ n ≤ 6 ∧ x = .int n := by
          match i, hx with
          | 0, hx => exact ⟨r1, a1, by omega, (Option.some.inj hx).symm⟩
          | 1, hx => exact ⟨r2, a2, by omega, (Option.some.inj hx).symm⟩
        obtain ⟨u, hu⟩ : ∃ u, units[n.toNat]? = some u := ⟨_, List.getElem?_eq_getElem (by show n.toNat < 7; omega)⟩
        have hu1 := units_small hu
        have hp5 := e5 _ _ hp4
        refine ⟨(by show 7 ≤ sizeLine; decide), fun tu htu => ⟨_, rfl, tu, _, n, _, rfl, rfl, sqT upd_same, units_at (K := K) hn0 hu, ?_⟩⟩
        have j6 := j5.newG (o := .tup [.int 1, .int 10, .int 100, .int 1000, .int 10000, .int 100000, .int 1000000]) htu
        have e6 : Ex G5 _ := Ex.new (o := .tup [.int 1, .int 10, .int 100, .int 1000, .int 10000, .int 100000, .int 1000000]) (j5.ng htu)
        refine ⟨(by show 4 ≤ sizeLine; decide), fun th hth => ⟨th, rfl, ⟨_, sqT upd_same⟩, fun D hD => ?_⟩⟩
        have j7 := j6.newG (o := .tup howsV) hth
        have e7 := e6.trans (Ex.new (o := .tup howsV) (j6.ng hth))
        have hp7 := e7 _ _ hp5
        refine lc_mapT (xs := howsV) (fMark a' b u) hD j7 (sqT upd_same) (by decide) (fun _ => rfl) ?_ ?_
        · intro x G8 H8 R hx e8 j8 k8
          obtain ⟨z, hz, rfl⟩ := howsV_mem hx
          exact ⟨_, rfl, _, rfl, _, rfl, p, a', b, n, z, u, rfl, j8.g _ _ (e8 _ _ hp7), hb, hg, Nat.lt_of_le_of_lt sa (by decide), Nat.lt_of_le_of_lt sb (by decide), hn0, hn6, hu, hz, k8⟩
        intro G8 H8 e8 j8 hD8
        have hp8 := e8 _ _ hp7
        have e48 := (e5.trans e7).trans e8
        clear j7 e7 hp7 hD j6 e6 hth htu e8 e5 j5 hp5
        -- the four marks, each looked at
        refine ⟨(by show 4 ≤ sizeLine; decide), fun th2 hth2 => ⟨th2, howsV, rfl, sqT upd_same, ?_⟩⟩
        have j9 := j8.newG (o := .tup howsV) hth2
        have e9 : Ex G8 _ := Ex.new (o := .tup howsV) (j8.ng hth2)
        have ht9 : (upd G8 th2 (.tup howsV)) th2 = _ := upd_same
        have hp9 := e9 _ _ hp8
        have hD9 := e9 _ _ hD8
        have e49 := e48.trans e9
        generalize (upd G8 th2 (.tup howsV)) = G9 at j9 e9 ht9 hp9 hD9 e49
        clear e9 e48 hD8 hp8 j8 hth2
        have bt : ∀ z, z ∈ hows → (markOf a' b u z).natAbs ≤ 100000000000000000000000000000000001 := fun z hz => mark_small sa hu1 hz
        refine for_enumT (K := K) (a := th2) (xs := howsV) (fun i σ H' => ∃ (G10 : Hp) (s7 s8 s9 : Option V), σ = [some (.ref a), some (.ref l), s2, some (.ref p), some (.int n), some (.int u), some (.ref D), s7, s8, s9] ∧ Join G10 P3 H' ∧ Ex G9 G10)
          ⟨G9, _, _, _, rfl, j9, Ex.refl _⟩ ?_ ?_ ?_
        · rintro i' σ H' _ ⟨G10, s7, s8, s9, rfl, j10, e10⟩
          exact sqT (j10.g _ _ (e10 _ _ ht9))
        · rintro i' x σ H' T hx ⟨G10, s7, s8, s9, rfl, j10, e10⟩ hT
          have j11 := j10.newG (o := .tup [.int i', x]) hT
          have e11 := e10.trans (Ex.new (o := .tup [.int i', x]) (j10.ng hT))
          obtain ⟨z, hz, rfl⟩ := howsV_mem (List.mem_of_getElem? hx)
          have hat : (howsV.map (fMark a' b u))[i']? = some (.int (markOf a' b u z)) := by rw [List.getElem?_map, hx]; rfl
          refine ⟨T, _, rfl, sqT upd_same, rfl, _, _, rfl, _, _, rfl, rfl, ?_⟩
          refine ⟨_, rfl, _, rfl, D, _, i', _, rfl, rfl, sqL (j11.g _ _ (e11 _ _ hD9)), atI_nat hat, _, rfl, _, rfl, p, _, 0, _, rfl, rfl, sqT (j11.g _ _ (e11 _ _ hp9)), rfl, _, rfl, _, _, rfl, rfl, mulW (Nat.lt_of_le_of_lt sa (by decide)) (Nat.lt_of_le_of_lt (show u.natAbs ≤ 1000000 by omega) (by decide)),
            _, rfl, p, _, 1, _, rfl, rfl, sqT (j11.g _ _ (e11 _ _ hp9)), rfl, markOf a' b u z, a' * u, b, z, rfl, Nat.lt_of_le_of_lt (bt z hz) (by decide), Nat.lt_of_le_of_lt sb (by decide), right_of (by omega) hz, true, rfl, iteF ?_⟩
          exact ⟨_, _, _, _, rfl, j11, e11⟩
        rintro σ H' ⟨G10, s7, s8, s9, rfl, j10, e10⟩
        have hp10 := e10 _ _ hp9
        have hD10 : G10 D = some (.lst [.int (markOf a' b u "down"), .int (markOf a' b u "up"), .int (markOf a' b u "near"), .int (markOf a' b u "even")]) := e10 _ _ hD9
        have e4A := e49.trans e10
        clear e10 e49 hp9 hD9 ht9 j9
        have sp' : (0 - a').natAbs < 2 ^ 1000 := Nat.lt_of_le_of_lt (show (0 - a').natAbs ≤ 100000000000000000000000000000 by omega) (by decide)
        have sb' : b.natAbs < 2 ^ 1000 := Nat.lt_of_le_of_lt sb (by decide)
        have hg' : Int.gcd (0 - a') b = 1 := by rw [Int.zero_sub, Int.neg_gcd]; exact hg
        -- mirrored, up
        refine ⟨_, rfl, p, _, 0, _, rfl, rfl, sqT (j10.g _ _ hp10), rfl, _, _, rfl, rfl, _, rfl, p, _, 1, _, rfl, rfl, sqT (j10.g _ _ hp10), rfl, (by show 2 ≤ sizeLine; decide), fun q hq => ⟨_, rfl, q, 0 - a', b, n, _, u, rfl, upd_same, hb, hg', sp', sb', hn0, hn6, hu, by simp [hows], fun H11 e => ?_⟩⟩
        have j11 := j10.newG (o := .tup [.int (0 - a'), .int b]) hq
        have e12 := (Ex.new (o := .tup [.int (0 - a'), .int b]) (j10.ng hq)).trans (j11.growEx e)
        have j12 := j11.grow e
        generalize (fun b => if P3 b = none then H11 b else none) = G12 at j12 e12
        replace hp10 := e12 _ _ hp10
        replace hD10 := e12 _ _ hD10
        replace e4A := e4A.trans e12
        clear e12 j11 j10 e hq
        refine ⟨_, rfl, D, _, 0, _, rfl, rfl, sqL (j12.g _ _ hD10), atI_int (by decide) rfl, _, _, rfl, rfl, rfl, _, rfl, itNF (congrArg V.int (mirror_up (by omega))) ?_⟩
        -- mirrored, even
        refine ⟨_, rfl, p, _, 0, _, rfl, rfl, sqT (j12.g _ _ hp10), rfl, _, _, rfl, rfl, _, rfl, p, _, 1, _, rfl, rfl, sqT (j12.g _ _ hp10), rfl, (by show 2 ≤ sizeLine; decide), fun q hq => ⟨_, rfl, q, 0 - a', b, n, _, u, rfl, upd_same, hb, hg', sp', sb', hn0, hn6, hu, by simp [hows], fun H13 e => ?_⟩⟩
        have j11 := j12.newG (o := .tup [.int (0 - a'), .int b]) hq
        have e12 := (Ex.new (o := .tup [.int (0 - a'), .int b]) (j12.ng hq)).trans (j11.growEx e)
        have j13 := j11.grow e
        generalize (fun b => if P3 b = none then H13 b else none) = G13 at j13 e12
        replace hp10 := e12 _ _ hp10
        replace hD10 := e12 _ _ hD10
        replace e4A := e4A.trans e12
        clear e12 j11 j12 e hq
        refine ⟨_, rfl, D, _, 3, _, rfl, rfl, sqL (j13.g _ _ hD10), atI_int (by decide) rfl, _, _, rfl, rfl, rfl, _, rfl, itNF (congrArg V.int (mirror_even (by omega))) ?_⟩
        -- finer places
        refine ⟨fun σ' H' => ∃ G14 : Hp, σ' = [some (.ref a), some (.ref l), s2, some (.ref p), some (.int n), some (.int u), some (.ref D), s7, s8, s9] ∧ Join G14 P3 H' ∧ Ex G13 G14, ?_, ?_⟩
        · refine ⟨_, rfl, _, _, rfl, rfl, _, rfl, ?_⟩
          by_cases h6 : n < 6
          · refine itT h6 ⟨_, rfl, _, rfl, _, _, rfl, rfl, p, a', b, n + 1, _, u * 10, rfl, j13.g _ _ hp10, hb, hg, Nat.lt_of_le_of_lt sa (by decide), sb', by omega, by omega, units_next hn0 h6 hu, by simp [hows], fun H14 e => ?_⟩
            exact ⟨_, _, rfl, rfl, ⟨by decide, by decide⟩, _, rfl, D, _, 0, _, rfl, rfl, sqL (e _ _ (j13.g _ _ hD10)), atI_int (by decide) rfl, rfl, _, rfl, itNF (congrArg V.int (finer (by omega))) ⟨_, rfl, j13.grow e, j13.growEx e⟩⟩
          · exact itF h6 (iteF ⟨G13, rfl, j13, Ex.refl _⟩)
        rintro σ' H15 ⟨G14, rfl, j14, e14⟩
        replace hp10 := e14 _ _ hp10
        replace hD10 := e14 _ _ hD10
        replace e4A := e4A.trans e14
        clear e14 j13
        -- a whole mark
        have mn : ("near" : Str) ∈ hows := by simp [hows]
        have bm := bt _ mn
        have hwm := fun z hz => whole_mark (m := markOf a' b u "near") (u := u) (by omega) (z := z) hz
        have lf := low_facts (a := markOf a' b u "near") (b := u) (by omega)
        generalize markOf a' b u "near" = m at *
        refine ⟨_, rfl, D, _, 2, _, rfl, rfl, sqL (j14.g _ _ hD10), atI_int (by decide) rfl, _, rfl, m, u, rfl, by omega, Nat.lt_of_le_of_lt bm (by decide), Nat.lt_of_le_of_lt (show u.natAbs ≤ 1000000 by omega) (by decide), fun q hq => ?_⟩
        have j15 := j14.newG (o := .tup [.int (m / (Int.gcd m u : Nat)), .int (u / (Int.gcd m u : Nat))]) hq
        have e15 : Ex G14 _ := Ex.new (o := .tup [.int (m / (Int.gcd m u : Nat)), .int (u / (Int.gcd m u : Nat))]) (j14.ng hq)
        have hq15 : (upd G14 q (.tup [.int (m / (Int.gcd m u : Nat)), .int (u / (Int.gcd m u : Nat))])) q = _ := upd_same
        generalize (upd G14 q (.tup [.int (m / (Int.gcd m u : Nat)), .int (u / (Int.gcd m u : Nat))])) = G15 at j15 e15 hq15
        replace hD10 := e15 _ _ hD10
        replace e4A := e4A.trans e15
        clear e15 j14 hq
        refine ⟨(by show 4 ≤ sizeLine; decide), fun th3 hth3 => ⟨th3, rfl, ⟨_, sqT upd_same⟩, fun D2 hD2 => ?_⟩⟩
        have j16 := j15.newG (o := .tup howsV) hth3
        have e16 := Ex.new (o := .tup howsV) (j15.ng hth3)
        refine lc_mapT (xs := howsV) (fMark (m / (Int.gcd m u : Nat)) (u / (Int.gcd m u : Nat)) u) hD2 j16 (sqT upd_same) (by decide) (fun _ => rfl) ?_ ?_
        · intro x G8 H8 R hx e8 j8 k8
          obtain ⟨z, hz, rfl⟩ := howsV_mem hx
          exact ⟨_, rfl, _, rfl, _, rfl, q, _, _, n, z, u, rfl, j8.g _ _ (e8 _ _ (e16 _ _ hq15)), lf.1, lf.2.1, Nat.lt_of_le_of_lt lf.2.2.1 (Nat.lt_of_le_of_lt bm (by decide)), Nat.lt_of_le_of_lt lf.2.2.2 (Nat.lt_of_le_of_lt (show u.natAbs ≤ 1000000 by omega) (by decide)), hn0, hn6, hu, hz, k8⟩
        intro G17 H17 e17 j17 hD17
        have hl17 : howsV.map (fMark (m / (Int.gcd m u : Nat)) (u / (Int.gcd m u : Nat)) u) = [.int m, .int m, .int m, .int m] := by
          show [V.int (markOf _ _ u "down"), V.int (markOf _ _ u "up"), V.int (markOf _ _ u "near"), V.int (markOf _ _ u "even")] = _
          rw [hwm _ (by simp [hows]), hwm _ (by simp [hows]), hwm _ (by simp [hows]), hwm _ (by simp [hows])]
        rw [hl17] at hD17
        have hD18 := e17 _ _ (e16 _ _ hD10)
        refine ⟨_, rfl, D, _, 2, _, rfl, rfl, sqL (j17.g _ _ hD18), atI_int (by decide) rfl, (by show 1 ≤ sizeLine; decide), fun L hL => ⟨L, 4, _, rfl, rfl, upd_same, by decide, by decide, (by show 4 ≤ sizeLine; decide), fun M hM => ?_⟩⟩
        have j18 := j17.newG (o := .lst [.int m]) hL
        have e18 := Ex.new (o := .lst [.int m]) (j17.ng hL)
        have j19 := j18.newG (o := .lst [.int m, .int m, .int m, .int m]) hM
        have e19 := e18.trans (Ex.new (o := .lst [.int m, .int m, .int m, .int m]) (j18.ng hM))
        have dp : ∀ {H0 : Hp} {x : Addr}, H0 x = some (.lst [.int m, .int m, .int m, .int m]) → Dp K H0 (.ref x) (.list [.int m, .int m, .int m, .int m]) := fun h => .lst (sqL h) (.cons (.int _) (.cons (.int _) (.cons (.int _) (.cons (.int _) .nil))))
        refine ⟨.list [.int m, .int m, .int m, .int m], .list [.int m, .int m, .int m, .int m], dp (j19.g _ _ (e19 _ _ hD17)), dp upd_same, rfl, rfl, _, rfl, itBF ?_ ?_⟩
        · simp [PyData.eqv, PyData.eqvAll]
        · exact ⟨_, _, _, _, _, _, _, _, rfl, j19, (e4A.trans (e16.trans e17)).trans e19⟩
      · rintro σ H' ⟨G5, s2, s4, s5, s6, s7, s8, s9, rfl, j5, e5⟩
        exact ⟨G5, P3, _, _, _, _, _, _, _, _, rfl, j5, hP3⟩
    · rintro σ H2 ⟨G, P0, s2, s3, s4, s5, s6, s7, s8, s9, rfl, j, hP⟩
      exact k _
end X

namespace X
open PySem PySem.Spec PyProof.Rows L2 Lv
theorem facts {P : Program} {w : World} {K : PySem.W.Frag} {h : Heap} {mg : Str → Option Value} {f : Addr} (X : K.In h) (G : h.Ns mainGlobals mg) (hfa : mg ("law" : Str) = some (.ref f)) (c : He.SaysX fa fn [] [] ex w h K) :
    ∃ fd : FuncData, (∀ (s : Shared) (v : Value), BindsTo s fd ⟨[v], []⟩ [("_law_script", v)]) ∧ ∀ base : Heap, K.In base → base.Ns mainGlobals mg → FnOk P w K mg base CX0 6 f fd ["_law_script"] (sp_law K) := by
  have T := txt_of X G c
  have e := hfa.symm.trans T.g_law
  cases e
  suffices H : ∀ base : Heap, ∃ fd, Dn P w K mg base CX0 6 "law" ["_law_script"] (sp_law K) fd by
    obtain ⟨fd, F⟩ := id T.d_law
    refine ⟨fd, fun s v => FunD.bindsA (ps := ["_law_script"]) F (fun _ _ _ _ _ _ us hl => match us, hl with | [_], _ => rfl) s [v] rfl, fun base _ _ => ?_⟩
    obtain ⟨fd', D⟩ := H base
    have q : fd' = fd := Lv.fd_same D.lk (Lv.fun_lk F)
    rw [← q]; exact D.ok
  intro base
  obtain ⟨fd_is_integer, G_is_integer⟩ := ok_is_integer (P := P) (w := w) (base := base) T
  obtain ⟨fd_is_within, G_is_within⟩ := ok_is_within (P := P) (w := w) (base := base) T G_is_integer
  obtain ⟨fd_is_from, G_is_from⟩ := ok_is_from (P := P) (w := w) (base := base) T G_is_integer
  obtain ⟨fd_is_pair, G_is_pair⟩ := ok_is_pair (P := P) (w := w) (base := base) T
  obtain ⟨fd_common_divisor, G_common_divisor⟩ := ok_common_divisor (P := P) (w := w) (base := base) T
  obtain ⟨fd_is_share, G_is_share⟩ := ok_is_share (P := P) (w := w) (base := base) T G_is_pair G_is_integer G_is_from G_common_divisor
  obtain ⟨fd_check_share, G_check_share⟩ := ok_check_share (P := P) (w := w) (base := base) T G_is_share
  obtain ⟨fd_check_places, G_check_places⟩ := ok_check_places (P := P) (w := w) (base := base) T G_is_within
  obtain ⟨fd_check_how, G_check_how⟩ := ok_check_how (P := P) (w := w) (base := base) T
  obtain ⟨fd_mark_of, G_mark_of⟩ := ok_mark_of (P := P) (w := w) (base := base) T
  obtain ⟨fd_mark, G_mark⟩ := ok_mark (P := P) (w := w) (base := base) T G_check_share G_check_places G_check_how G_mark_of
  obtain ⟨fd_l_pot, G_l_pot⟩ := ok_l_pot (P := P) (w := w) (base := base) T
  obtain ⟨fd_l_draw, G_l_draw⟩ := ok_l_draw (P := P) (w := w) (base := base) T
  obtain ⟨fd_l_any, G_l_any⟩ := ok_l_any (P := P) (w := w) (base := base) T G_l_draw
  obtain ⟨fd_l_gcd, G_l_gcd⟩ := ok_l_gcd (P := P) (w := w) (base := base) T
  obtain ⟨fd_l_low, G_l_low⟩ := ok_l_low (P := P) (w := w) (base := base) T G_l_gcd
  obtain ⟨fd_l_pick, G_l_pick⟩ := ok_l_pick (P := P) (w := w) (base := base) T G_l_draw G_l_low G_l_any
  obtain ⟨fd_l_is_right, G_l_is_right⟩ := ok_l_is_right (P := P) (w := w) (base := base) T
  obtain ⟨fd_law, G_law⟩ := ok_law (P := P) (w := w) (base := base) T G_l_pot G_l_pick G_l_draw G_mark G_l_is_right G_l_low
  exact ⟨fd_law, G_law⟩
end X
open PySem PySem.W PySem.Calls PyProof.Rows
theorem PySem.Challenge.cw_neverleapt_k78_whole_shares_rounded_to_m_holds : PySem.Challenge.rw_neverleapt_k78_whole_shares_rounded_to_m.Holds := by
  w_on; o_law
  refine HandSHeadRun.head_any (r := OpenLaw.row PySem.Challenge.rw_neverleapt_k78_whole_shares_rounded_to_m) (q := view (OpenLaw.row PySem.Challenge.rw_neverleapt_k78_whole_shares_rounded_to_m).prog [28]) (H := X.hk) (ob := X.ob) (M := 20000) (loose := X.loose) (d := HandSHeadRun.topDef (OpenLaw.row PySem.Challenge.rw_neverleapt_k78_whole_shares_rounded_to_m).prog 28) (kwd := []) X.ob_eq
    (by kernel_rfl) (fun s => by kernel_rfl) X.run (by kernel_rfl) (by kernel_rfl) (by kernel_rfl) (by rfl) (by first | assumption | decide +kernel) (by decide +kernel) ⟨rfl, rfl, rfl, rfl, rfl, by decide +kernel⟩ ?hw ?hc
  case hw => w_witness2
  case hc =>
    refine L2.walk_ofE (l := PySem.Challenge.rw_neverleapt_k78_whole_shares_rounded_to_m) (n := 63) (k := 6) (x := "_law_script") (CX := L2.CX0) rfl (by decide) (by kernel_rfl) ⟨rfl, by decide, by decide⟩ ?F (fun _ _ _ _ z => z)
    intro w mg fa h Y G hmg0
    obtain ⟨K, KX, c⟩ := Y
    have hmg : mg ("law" : PySem.Str) = some (.ref fa) := by
      have e : (HandSHeadRun.topDef (OpenLaw.row PySem.Challenge.rw_neverleapt_k78_whole_shares_rounded_to_m).prog 28).name = ("law" : PySem.Str) := by kernel_rfl
      rw [← e]
      exact hmg0
    obtain ⟨fd, hb, hF⟩ := X.facts (P := (PySem.Challenge.rw_neverleapt_k78_whole_shares_rounded_to_m).prog) (w := w) KX G hmg c
    exact ⟨K, fd, X.sp_law K, KX, hb, fun H a ns hl _ hS => ⟨a, ns, rfl, hS, hl, fun _ => rfl⟩, hF⟩

