import PyProof.Rows.All
import Wide.All
import OpenK.AllK
import Wide.FinOn
import HandS.ForMost
import HandS.Exc
import HandS.TryOnly
import HandS.ExcOwn
import HandS.WordsExc
import HandS.Wide
import HandS.WideBits
import HandS.IsInst
import HandS.Defaults
import HandS.Flow
import HandS.Head0
import HandS.Head1
import HandS.Head2
import HandS.HeadEnd
import HandS.HeadHook1
import HandS.HeadHook2
import HandS.HeadHook3
import HandS.HeadHook4
import HandS.Small
import KE.GoesEnum
import HandS.Evl
import HandS.TupAny
import PySem.Challenge.RW_neverleapt_k09_whole_events_parted
set_option Elab.async false
set_option linter.all false
set_option maxRecDepth 100000
set_option maxHeartbeats 4000000
/-! Lv: own lemmas over the hand layer: two parts of a heap (the law's pot and all else), comprehensions of ints, divisors. -/
namespace Lv
open PySem L2
/-! ### heaps in two parts -/
/-- H' has all that H has -/
def Ex (H H' : Hp) : Prop := ∀ a o, H a = some o → H' a = some o
theorem Ex.refl (H : Hp) : Ex H H := fun _ _ h => h
theorem Ex.trans {H H1 H2 : Hp} (a : Ex H H1) (b : Ex H1 H2) : Ex H H2 := fun x o h => b x o (a x o h)
theorem Ex.new {H : Hp} {p : Addr} {o : HO} (h : H p = none) : Ex H (upd H p o) := fun a u e => by
  rw [upd_ne (ne_of_none e h)]
  exact e
theorem Ex.mut {H H' : Hp} {p : Addr} {o : HO} (e : Ex H H') (h : H p = none) : Ex H (upd H' p o) := fun a u ha => by
  rw [upd_ne (ne_of_none ha h)]
  exact e a u ha
theorem Ex.back {H H' : Hp} {p : Addr} (e : Ex H H') (h : H' p = none) : H p = none := by
  cases h1 : H p with
  | none => rfl
  | some o =>
    rw [e p o h1] at h
    cases h
theorem Ex.rd {H H' : Hp} {a : Addr} {u : HO} (e : Ex H H') (h : Rd H a u) : Rd H' a u := by
  rcases h with h | ⟨o, h⟩
  · exact Or.inl (e a _ h)
  · exact Or.inr ⟨o, e a _ h⟩
theorem Ex.l {K : PySem.W.Frag} {H H' : Hp} {a : Addr} {xs : List V} (e : Ex H H') (h : SqL K H a xs) : SqL K H' a xs := by
  rcases h with h | h
  · exact Or.inl (e.rd h)
  · exact Or.inr h
theorem Ex.t {K : PySem.W.Frag} {H H' : Hp} {a : Addr} {xs : List V} (e : Ex H H') (h : SqT K H a xs) : SqT K H' a xs := by
  rcases h with h | h
  · exact Or.inl (e.rd h)
  · exact Or.inr h
theorem sqL {K : PySem.W.Frag} {H : Hp} {a : Addr} {xs : List V} (h : H a = some (.lst xs)) : SqL K H a xs := Or.inl (Or.inl h)
theorem sqT {K : PySem.W.Frag} {H : Hp} {a : Addr} {xs : List V} (h : H a = some (.tup xs)) : SqT K H a xs := Or.inl (Or.inl h)
theorem szle {n : Nat} (h : n ≤ 100000) : n ≤ sizeLine := Nat.le_trans h (by decide)
theorem szlt {n : Nat} (h : n < 100000) : n < sizeLine := Nat.lt_of_lt_of_le h (by decide)
/-- H is made of G and P, apart from one another -/
structure Join (G P H : Hp) : Prop where
  ap : ∀ b o, P b = some o → G b = none
  g : ∀ b o, G b = some o → H b = some o
  p : ∀ b o, P b = some o → H b = some o
  no : ∀ b, G b = none → P b = none → H b = none
theorem Join.self (H : Hp) : Join H (fun _ => none) H := ⟨fun _ _ e => (nomatch e), fun _ _ e => e, fun _ _ e => (nomatch e), fun _ e _ => e⟩
theorem Join.ng {G P H : Hp} (j : Join G P H) {b : Addr} (h : H b = none) : G b = none := by
  cases e : G b with
  | none => rfl
  | some o => rw [j.g b o e] at h; cases h
theorem Join.np {G P H : Hp} (j : Join G P H) {b : Addr} (h : H b = none) : P b = none := by
  cases e : P b with
  | none => rfl
  | some o => rw [j.p b o e] at h; cases h
theorem Join.gp {G P H : Hp} (j : Join G P H) {b : Addr} {o : HO} (h : G b = some o) : P b = none := by
  cases e : P b with
  | none => rfl
  | some u => rw [j.ap b u e] at h; cases h
theorem Join.setG {G P H : Hp} (j : Join G P H) {b : Addr} {o : HO} (h : P b = none) : Join (upd G b o) P (upd H b o) := by
  refine ⟨fun c u e => ?_, fun c u e => ?_, fun c u e => ?_, fun c e1 e2 => ?_⟩
  · have n : c ≠ b := fun z => by rw [z, h] at e; cases e
    rw [upd_ne n]; exact j.ap c u e
  · by_cases z : c = b
    · rw [z, upd_same] at e; rw [z, upd_same]; exact e
    · rw [upd_ne z] at e; rw [upd_ne z]; exact j.g c u e
  · have n : c ≠ b := fun z => by rw [z, h] at e; cases e
    rw [upd_ne n]; exact j.p c u e
  · have n : c ≠ b := fun z => by rw [z, upd_same] at e1; cases e1
    rw [upd_ne n] at e1; rw [upd_ne n]; exact j.no c e1 e2
theorem Join.newG {G P H : Hp} (j : Join G P H) {b : Addr} {o : HO} (h : H b = none) : Join (upd G b o) P (upd H b o) := j.setG (j.np h)
theorem Join.setP {G P H : Hp} (j : Join G P H) {b : Addr} {o : HO} (h : G b = none) : Join G (upd P b o) (upd H b o) := by
  refine ⟨fun c u e => ?_, fun c u e => ?_, fun c u e => ?_, fun c e1 e2 => ?_⟩
  · by_cases z : c = b
    · rw [z]; exact h
    · rw [upd_ne z] at e; exact j.ap c u e
  · have n : c ≠ b := fun z => by rw [z, h] at e; cases e
    rw [upd_ne n]; exact j.g c u e
  · by_cases z : c = b
    · rw [z, upd_same] at e; rw [z, upd_same]; exact e
    · rw [upd_ne z] at e; rw [upd_ne z]; exact j.p c u e
  · have n : c ≠ b := fun z => by rw [z, upd_same] at e2; cases e2
    rw [upd_ne n] at e2; rw [upd_ne n]; exact j.no c e1 e2
theorem Join.exG {G P H : Hp} (j : Join G P H) : Ex G H := j.g
theorem Join.exP {G P H : Hp} (j : Join G P H) : Ex P H := j.p
/-- what extends H extends the first part -/
theorem Join.grow {G P H H' : Hp} (j : Join G P H) (e : Ex H H') : Join (fun b => if P b = none then H' b else none) P H' := by
  refine ⟨fun c u q => ?_, fun c u q => ?_, fun c u q => e c u (j.p c u q), fun c q1 q2 => ?_⟩
  · have n : P c ≠ none := fun z => by rw [z] at q; cases q
    show (if P c = none then H' c else none) = none
    rw [if_neg n]
  · by_cases z : P c = none
    · have q2 : (if P c = none then H' c else none) = some u := q
      rw [if_pos z] at q2; exact q2
    · have q2 : (if P c = none then H' c else none) = some u := q
      rw [if_neg z] at q2; cases q2
  · have q3 : (if P c = none then H' c else none) = none := q1
    rw [if_pos q2] at q3; exact q3
theorem Join.growEx {G P H H' : Hp} (j : Join G P H) (e : Ex H H') : Ex G (fun b => if P b = none then H' b else none) := fun c u q => by
  show (if P c = none then H' c else none) = some u
  rw [if_pos (j.gp q)]; exact e c u (j.g c u q)
theorem Join.growNew {G P H H' : Hp} (j : Join G P H) {b : Addr} {o : HO} (h : H b = none) (q : H' b = some o) : (fun b => if P b = none then H' b else none) b = some o := by
  show (if P b = none then H' b else none) = some o
  rw [if_pos (j.np h)]; exact q
/-! ### the items of a list of ints -/
theorem int_at {ns : List Int} {i : Nat} {y : V} (h : (ns.map V.int)[i]? = some y) : ∃ z, ns[i]? = some z ∧ y = V.int z := by
  rw [List.getElem?_map] at h
  cases e : ns[i]? with
  | none => rw [e] at h; cases h
  | some z => rw [e] at h; exact ⟨z, rfl, (Option.some.inj h).symm⟩
theorem take_more {α : Type} : ∀ {l : List α} {i : Nat} {x : α}, l[i]? = some x → l.take (i + 1) = l.take i ++ [x]
  | [], i, x, h => by simp at h
  | a :: l, 0, x, h => by
    have e : a = x := Option.some.inj h
    subst e
    rfl
  | a :: l, i + 1, x, h => by
    have ih := take_more (l := l) (i := i) (x := x) h
    show a :: l.take (i + 1) = a :: l.take i ++ [x]
    rw [ih]
    rfl
/-- [g z for z in ns if f z], nothing touched: the rest of the reading behind the walked list -/
theorem lc_ints {K : PySem.W.Frag} {a : Addr} {ns : List Int} {j : Nat} {tt : TT} {te : TE} {vs : List Nat} {σ : St} {H : Hp} {Qd : Hp → Prop} {D : Addr} (f : Int → Bool) (g : Int → Int) (hD : H D = none)
    (hS : SqL K H a (ns.map V.int)) (hn : ns.length ≤ 1000) (hw : ∀ x, wipe ((wipe σ vs).set j (some x)) vs = wipe σ vs)
    (ht : ∀ (z : Int) (H' : Hp) (R : Bool → Hp → Prop), z ∈ ns → R (f z) H' → tt ((wipe σ vs).set j (some (.int z))) H' R)
    (he : ∀ (z : Int) (H' : Hp) (R : VK), z ∈ ns → f z = true → R (.int (g z)) H' → te ((wipe σ vs).set j (some (.int z))) H' R)
    (hq : Qd (upd H D (.lst (((ns.filter f).map g).map V.int)))) :
    ∃ W : Nat → Nat → Hp → Prop, (∃ m, W 0 m (upd H D (.lst []))) ∧ ∀ i m H, W i m H →
      ((Itl K a).stop i H ∧ Qd H) ∨ ((Itl K a).go i H ∧ ∃ Nx : Hp → Prop, (∀ H', Nx H' → ∃ m', m' < m ∧ W (i + 1) m' H') ∧ ∀ x H', (Itl K a).yld i H x H' → gName j x (wipe σ vs) H' fun σ2 H2 => wipe σ2 vs = wipe σ vs ∧ tt σ2 H2 fun b H3 =>
        if b = true then te σ2 H3 fun y H4 => ∃ acc, H4 D = some (.lst acc) ∧ acc.length < sizeLine ∧ Nx (upd H4 D (.lst (acc ++ [y]))) else Nx H3) := by
  have hl : ∀ i, ((((ns.take i).filter f).map g).map V.int).length ≤ 1000 := fun i => by
    rw [List.length_map, List.length_map]
    have h1 := List.length_filter_le f (ns.take i)
    rw [List.length_take] at h1
    omega
  refine lc_list (K := K) (a := a) (xs := ns.map V.int) (Qd := Qd) (fun i H' => H' = upd H D (.lst ((((ns.take i).filter f).map g).map V.int))) rfl (fun i H' _ e => ?_) (fun i y H' hi e => ?_) (fun H' e => ?_)
  · rw [e]; exact (Ex.new hD).l hS
  · obtain ⟨z, hz, rfl⟩ := int_at hi
    have hm : z ∈ ns := List.mem_of_getElem? hz
    have tm := take_more hz
    subst e
    refine ⟨hw _, ht z _ _ hm ?_⟩
    cases hf : f z with
    | true =>
      refine (if_pos rfl).mpr ?_
      refine he z _ _ hm hf ⟨_, upd_same, Nat.lt_of_le_of_lt (hl i) (by decide), ?_⟩
      rw [upd_upd, tm, List.filter_append, List.map_append, List.map_append, List.filter_cons, if_pos hf]
      rfl
    | false =>
      refine (if_neg (by decide)).mpr ?_
      rw [tm, List.filter_append, List.map_append, List.map_append, List.filter_cons, if_neg (by rw [hf]; decide)]
      show _ = upd H D (.lst (_ ++ []))
      rw [List.append_nil]
  · rw [e]
    have e2 : ns.take (ns.map V.int).length = ns := by rw [List.length_map]; exact List.take_length
    rw [e2]; exact hq
/-! ### a def as the top leaves it -/
structure Dn (P : Program) (w : World) (K : PySem.W.Frag) (mg : Str → Option Value) (base : Heap) (CX : CXT) (k : Nat) (x : Str) (ps : List Str) (sp : Sp) (fd : FuncData) : Prop where
  ok : FnOk P w K mg base CX k (He.ga K x) fd ps sp
  mg : mg x = some (.ref (He.ga K x))
  kp : PySem.W.keepIn K (.ref (He.ga K x)) = true
  b : Binds K fd ps []
  lk : ∃ oc od osl, K.lookup (He.ga K x) = some ⟨oc, od, .func fd, osl⟩
/-- a method as the top leaves it -/
structure Dm (P : Program) (w : World) (K : PySem.W.Frag) (mg : Str → Option Value) (base : Heap) (CX : CXT) (k : Nat) (C m : Str) (ps : List Str) (sp : Sp) (fd : FuncData) : Prop where
  ok : FnOk P w K mg base CX k (He.ma K (He.ga K C) m) fd ps sp
  b : Binds K fd ps []
  lk : ∃ oc od osl, K.lookup (He.ma K (He.ga K C) m) = some ⟨oc, od, .func fd, osl⟩
theorem fun_lk {K : PySem.W.Frag} {x qual : Str} {params : Arguments} {body : List Stmt} {scope : Scope} {dvs : List V} {kws : List (Str × V)} {f : Addr} {fd : FuncData} (F : FunD K x qual params body scope dvs kws f fd) : ∃ oc od osl, K.lookup f = some ⟨oc, od, .func fd, osl⟩ := by
  obtain ⟨oc, od, _, _, _, _, _, _, _, osl, _, lk, _⟩ := F.ex
  exact ⟨oc, od, osl, lk⟩
theorem fd_same {K : PySem.W.Frag} {f : Addr} {fd fd' : FuncData} (h : ∃ oc od osl, K.lookup f = some ⟨oc, od, .func fd, osl⟩) (h' : ∃ oc od osl, K.lookup f = some ⟨oc, od, .func fd', osl⟩) : fd = fd' := by
  obtain ⟨_, _, _, e⟩ := h
  obtain ⟨_, _, _, e'⟩ := h'
  rw [e] at e'
  injection e' with e'
  injection e' with _ _ e' _
  injection e'
/-! ### the pot -/
/-- a pot at l: great numbers, small ones (one at least), the turn, one number more -/
def Pot (P : Hp) (l : Addr) : Prop := ∃ (g s : Addr) (gs ss : List Int) (t c : Int), P l = some (.lst [.ref g, .ref s, .int t, .int c]) ∧ P g = some (.lst (gs.map V.int)) ∧ P s = some (.lst (ss.map V.int)) ∧ g ≠ s ∧ 0 < ss.length ∧ ss.length ≤ 1000 ∧ gs.length ≤ 1000
def spPot (K : PySem.W.Frag) : Sp := fun vs H Q _ => ∃ (a : Addr) (ns : List Int), vs = [.ref a] ∧ SqL K H a (ns.map V.int) ∧ ns.length ≤ 63 ∧ ∀ l G P H', Ex H G → Join G P H' → Pot P l → Q (.ref l) H'
def spDraw : Sp := fun vs H Q _ => ∃ (l : Addr) (n : Int) (G P : Hp), vs = [.ref l, .int n] ∧ Join G P H ∧ Pot P l ∧ 0 < n ∧ n < 2 ^ 200 ∧ ∀ (r : Int) (P' H' : Hp), 0 ≤ r → r < n → Join G P' H' → Pot P' l → Q (.int r) H'
/-- one of some things, at a tuple -/
def spAny (K : PySem.W.Frag) : Sp := fun vs H Q _ => ∃ (l t : Addr) (xs : List V) (G P : Hp), vs = [.ref l, .ref t] ∧ Join G P H ∧ Pot P l ∧ SqT K G t xs ∧ 0 < xs.length ∧ xs.length ≤ 1000 ∧ ∀ (i : Nat) (x : V) (P' H' : Hp), xs[i]? = some x → Join G P' H' → Pot P' l → Q x H'
end Lv

namespace Lv
open PySem L2
/-! ### tests -/
theorem itT {c A B : Prop} [Decidable c] (h : c) (a : A) : if decide c = true then A else B := by
  rw [if_pos (decide_eq_true h)]; exact a
theorem itF {c A B : Prop} [Decidable c] (h : ¬ c) (a : B) : if decide c = true then A else B := by
  rw [if_neg (by rw [decide_eq_false h]; decide)]; exact a
theorem itBT {b : Bool} {A B : Prop} (h : b = true) (a : A) : if b = true then A else B := by
  rw [if_pos h]; exact a
theorem itBF {b : Bool} {A B : Prop} (h : b = false) (a : B) : if b = true then A else B := by
  rw [if_neg (by rw [h]; decide)]; exact a
theorem itNT {c A B : Prop} [Decidable c] (h : ¬ c) (a : A) : if (!decide c) = true then A else B := by
  rw [if_pos (by rw [decide_eq_false h]; rfl)]; exact a
theorem itNF {c A B : Prop} [Decidable c] (h : c) (a : B) : if (!decide c) = true then A else B := by
  rw [if_neg (by rw [decide_eq_true h]; decide)]; exact a
theorem qT {Q : VK} {H : Hp} {b : Bool} (h : b = true) (k : Q (.bl true) H) : Q (.bl b) H := by rw [h]; exact k
/-! ### numbers -/
theorem abs_if (a : Int) : (if a < 0 then -a else a) = (a.natAbs : Int) := by split <;> omega
theorem emod_cast (m n : Nat) : ((m : Int) % (n : Int)) = ((m % n : Nat) : Int) := rfl
theorem gcd_turn (m n : Nat) : Nat.gcd n (m % n) = Nat.gcd m n := by
  rw [Nat.gcd_comm n, ← Nat.gcd_rec n m, Nat.gcd_comm]
/-- Euclid's product halves -/
theorem euclid_half {m n : Nat} (h : n < m) (h0 : 0 < n) : 2 * (n * (m % n)) < m * n := by
  have h1 : m % n < n := Nat.mod_lt _ h0
  have h2 : n + m % n ≤ m := by
    have e := Nat.div_add_mod m n
    have q : 1 ≤ m / n := Nat.div_pos (Nat.le_of_lt h) h0
    have q2 : n * 1 ≤ n * (m / n) := Nat.mul_le_mul_left n q
    omega
  have h3 : 2 * (m % n) < m := by omega
  have h4 : n * (2 * (m % n)) < n * m := Nat.mul_lt_mul_of_pos_left h3 h0
  have e1 : n * (2 * (m % n)) = 2 * (n * (m % n)) := by rw [Nat.mul_left_comm]
  have e2 : n * m = m * n := Nat.mul_comm _ _
  omega
end Lv

namespace Lv
open PySem L2
theorem ixN_nat {n j : Nat} (h : j < n) : ixN n (j : Int) = some j := by
  unfold ixN
  rw [if_pos (by omega), if_pos (by omega)]; simp
theorem seq_nat {n j : Nat} (h : j < n) : seqIndex? (j : Int) n = some j := (ixN_seq (ixN_nat h)).1
theorem atI_int {α : Type} {xs : List α} {i : Int} {v : α} (h0 : 0 ≤ i) (h : xs[i.toNat]? = some v) : atI xs i = some v := by
  have e : (i.toNat : Int) = i := by omega
  rw [← e]; exact atI_nat h
theorem nat1000 {i : Int} (h0 : 0 ≤ i) (h : i < 2 ^ 200) : i.natAbs < 2 ^ 1000 := by
  have h1 : i.natAbs < 2 ^ 200 := by
    have e : ((2 : Int) ^ 200) = ((2 ^ 200 : Nat) : Int) := by norm_cast
    omega
  exact Nat.lt_of_lt_of_le h1 (Nat.pow_le_pow_right (by decide) (by decide))
theorem mulW {i j : Int} (hi : i.natAbs < 2 ^ 1000) (hj : j.natAbs < 2 ^ 1000) : CMulW i j := wide_mul hi hj (by decide) (by decide) (by decide)
theorem mulSm {i j : Int} (a : 0 ≤ i) (b : i < 18446744073709551616) (c : 0 ≤ j) (d : j < 18446744073709551616) : CMulW i j := mulW (nat1000 a (Int.lt_of_lt_of_le b (by decide))) (nat1000 c (Int.lt_of_lt_of_le d (by decide)))
theorem divW {i j : Int} (h : 0 < j) (hj : j.natAbs < 2 ^ 1000) : CDivW i j := wide_div h hj (by decide) (by decide)
end Lv

namespace Lv
open PySem L2
/-- [e for x in t], t a tuple, each element's value f x, the heap may grow: the rest of the reading behind the walked tuple -/
theorem lc_mapT {K : PySem.W.Frag} {a : Addr} {xs : List V} {j : Nat} {te : TE} {vs : List Nat} {σ : L2.St} {G P H : Hp} {Qd : Hp → Prop} {D : Addr} (f : V → V) (hD : H D = none) (J : Join G P H)
    (hS : SqT K G a xs) (hn : xs.length ≤ 10000) (hw : ∀ x, wipe ((wipe σ vs).set j (some x)) vs = wipe σ vs)
    (he : ∀ (x : V) (G' H' : Hp) (R : VK), x ∈ xs → Ex G G' → Join G' P H' → (∀ H2, Ex H' H2 → R (f x) H2) → te ((wipe σ vs).set j (some x)) H' R)
    (hq : ∀ G' H', Ex G G' → Join G' P H' → G' D = some (.lst (xs.map f)) → Qd H') :
    ∃ W : Nat → Nat → Hp → Prop, (∃ m, W 0 m (upd H D (.lst []))) ∧ ∀ i m H, W i m H →
      ((Itt K a).stop i H ∧ Qd H) ∨ ((Itt K a).go i H ∧ ∃ Nx : Hp → Prop, (∀ H', Nx H' → ∃ m', m' < m ∧ W (i + 1) m' H') ∧ ∀ x H', (Itt K a).yld i H x H' → gName j x (wipe σ vs) H' fun σ2 H2 => wipe σ2 vs = wipe σ vs ∧ tYes σ2 H2 fun b H3 =>
        if b = true then te σ2 H3 fun y H4 => ∃ acc, H4 D = some (.lst acc) ∧ acc.length < sizeLine ∧ Nx (upd H4 D (.lst (acc ++ [y]))) else Nx H3) := by
  have gD : G D = none := J.ng hD
  have pD : P D = none := J.np hD
  refine lc_tup (K := K) (a := a) (xs := xs) (Qd := Qd) (fun i H' => ∃ G', Ex G G' ∧ Join G' P H' ∧ G' D = some (.lst ((xs.take i).map f))) ⟨_, Ex.new gD, J.newG hD, upd_same⟩ (fun i H' _ ⟨G', e, J', _⟩ => J'.exG.t (e.t hS)) (fun i y H' hi ⟨G', e, J', hd⟩ => ?_) (fun H' ⟨G', e, J', hd⟩ => ?_)
  · have hm : y ∈ xs := List.mem_of_getElem? hi
    refine ⟨hw _, iteT (A := te ((wipe σ vs).set j (some y)) H' _) (B := True) ?_⟩
    refine he y G' H' _ hm e J' fun H2 e2 => ⟨(xs.take i).map f, e2 D _ (J'.g D _ hd), ?_, ?_⟩
    · refine szlt ?_
      have h1 : i < xs.length := (List.getElem?_eq_some_iff.mp hi).1
      rw [List.length_map, List.length_take]; omega
    · refine ⟨upd (fun b => if P b = none then H2 b else none) D (.lst ((xs.take i).map f ++ [f y])), ?_, (J'.grow e2).setG pD, ?_⟩
      · exact fun b o q => by
          rw [upd_ne (ne_of_none q gD)]
          exact J'.growEx e2 b o (e b o q)
      · rw [upd_same, take_more hi, List.map_append]; rfl
  · refine hq G' H' e J' ?_
    rw [hd, List.take_length]
end Lv

/-! enumerate over a tuple: a rule of our own -/
namespace Lv
open PySem PySem.Spec PyProof.Rows L2
set_option maxHeartbeats 4000000 in
theorem meets_enum1 {v : Value} {o : Obj} {H : Heap → Prop} (B : Begins v o H) :
    Meets (Builtin.«enumerate.__new__» ⟨[.type "enumerate", v], []⟩) (fun _ R s => H s.heap ∧
      R (.ok (.ret (.ref (s.heap.push o).objs.size))) { s with heap := (s.heap.push o).push { cls := .type "enumerate", data := .fields #[.none, .bool false, .ref s.heap.objs.size, rawInt 0, .none, .none] } }) :=
  .of_wp fun prog w A R s h => by
    obtain ⟨hp, g, d, tk, os⟩ := s; obtain ⟨h1, h⟩ := h
    have hsub := sub_enumerate
    have q1 : ∀ {A' : Around} {E : Value → Shared → Prop} {Q : Value → Shared → Prop}, Q (.ref hp.objs.size) ⟨hp.push o, g, d, tk, os⟩ → wpAny (model prog w) A' (pyIter v) Q E ⟨hp, g, d, tk, os⟩ :=
      fun q => B.iter prog w _ _ ⟨hp, g, d, tk, os⟩ _ h1 q
    wp_walk using q1
    refine wpAny_stack_any fun st => wpAny_pure ?_
    split
    · rename_i c _ _ _ _ _
      cases (c == Value.type "enumerate")
      · wp_walk using q1
        exact ⟨_, rfl, h⟩
      · wp_walk using q1
        exact ⟨_, rfl, h⟩
    · wp_walk using q1
      exact ⟨_, rfl, h⟩
theorem call_enum1 {prog : Program} {w : World} {A : Around} {E : Value → Shared → Prop} {s : Shared} {v : Value} {o : Obj} {H : Heap → Prop} {Q : Value → Shared → Prop} (B : Begins v o H) (h1 : H s.heap)
    (h : ∀ h', IsEnum h' (s.heap.objs.size + 1) s.heap.objs.size 0 .none → h'.get? s.heap.objs.size = some o → h'.objs.size = s.heap.objs.size + 2 →
      (∀ b o, s.heap.get? b = some o → h'.get? b = some o) → Q (.ref (s.heap.objs.size + 1)) { s with heap := h' }) :
    wpAny (model prog w) A (call (.type "enumerate") [v]) Q E s := by
  refine callType_new F.called_enumerate (by decide) (F.typeCall_enumerate_1 _) (F.newCall_enumerate_1 _) (fun obj => F.args_object_init_2 obj _) F.entry_enumerate_new
    (meets_enum1 B) ⟨h1, ?_⟩
  have hz : (s.heap.push o).objs.size = s.heap.objs.size + 1 := Heap.size_push ..
  show _ ∧ _
  rw [hz]
  have he : IsEnum ((s.heap.push o).push { cls := .type "enumerate", data := .fields #[.none, .bool false, .ref s.heap.objs.size, rawInt 0, .none, .none] }) (s.heap.objs.size + 1) s.heap.objs.size 0 .none := by
    have := Heap.get?_push_size (s.heap.push o) (o := { cls := .type "enumerate", data := .fields #[.none, .bool false, .ref s.heap.objs.size, rawInt 0, .none, .none] }) rfl
    rw [hz] at this; exact this
  refine ⟨⟨_, he, rfl⟩, h _ he (Heap.get?_push_of_some _ (Heap.get?_push_size _ B.free)) (by rw [Heap.size_push, hz]) fun b o x => Heap.get?_push_of_some _ (Heap.get?_push_of_some _ x)⟩
/-- the tuple at a, each item in a new pair -/
def Itet (K : PySem.W.Frag) (a : Addr) : It :=
  ⟨fun i H => ∃ (xs : List V) (x : V), SqT K H a xs ∧ xs[i]? = some x, fun i H v H' => ∃ T x, v = .ref T ∧ H T = none ∧ H' = upd H T (.tup [.int (i : Nat), x]) ∧ ∀ xs, SqT K H a xs → xs[i]? = some x, fun i H => ∃ xs : List V, SqT K H a xs ∧ xs.length = i⟩
theorem turn_enumT {P : Program} {w : World} {K : PySem.W.Frag} {elts : List Expr} {kk : Nat} {tpos : Pos} (a e it : Addr) (hat : a ≠ it) :
    Turn P w K (.Tuple elts kk tpos) (Itet K a) [e, it] e (fun i h => (∃ old, IsEnum h e it ((i : Nat) : Int) old) ∧ h.IsTupleIter it a i ∧ e ≠ it ∧ a ≠ e) where
  mem := by simp
  obj := fun i h st b hb => by
    obtain ⟨⟨old, he⟩, ⟨o, ho, hc, hd⟩, _⟩ := st
    have e' : b = e ∨ b = it := by simpa using hb
    rcases e' with z | z
    · rw [z]; exact ⟨_, he, fun v q => nomatch q⟩
    · rw [z]; exact ⟨o, ho, fun v q => by rw [hd] at q; cases q⟩
  keep := fun i h h' st k => let ⟨⟨old, he⟩, hi, hne⟩ := st; ⟨⟨old, k e (by simp) _ he⟩, hi.at fun o q => k it (by simp) o q, hne⟩
  item := by
    intro X hP hw hK hc i pins s σ H E I hf st hg
    subst hP hw hK
    obtain ⟨⟨old, he⟩, hit, hne, hae⟩ := st
    obtain ⟨xs, x, hq, hx⟩ := hg
    obtain ⟨its, rv, p, hz⟩ := I.tuple hq
    obtain ⟨u, hu, ru⟩ := rv.get hx
    have hel : e < s.heap.objs.size := Heap.lt_size he
    have hil : it < s.heap.objs.size := by obtain ⟨_, q, _⟩ := hit; exact Heap.lt_size q
    have hlt : i < its.toArray.size := by
      have := (List.getElem?_eq_some_iff.mp hu).1
      simpa using this
    refine wpAny_pyNext_enum_itemD (fp := [it, a]) (Draws.tuple (A := X.A.in1) (I.ok.hd hc) it a hat its.toArray) he ⟨hit, show s.heap.IsTuple a its.toArray from p⟩ hlt hne (by simp [hne, Ne.symm hae]) fun x' h' tk hx' ho hst' hT hsz hk => ?_
    have ex : x' = u := by
      have h1 : its.toArray[i]? = some u := by simpa using hu
      rw [h1] at hx'
      exact (Option.some.inj hx').symm
    subst ex
    refine ⟨_, rfl, wpAny_letOwnedTupleGo_enum (s := { s with heap := h', toks := tk + 1 }) ho fun h'' he' sb => ?_⟩
    have hT2 : h''.get? s.heap.objs.size = some { cls := .type "tuple", data := .seq #[.int i tk, x'] } := (sb.2 _ (Nat.ne_of_gt hel)).trans hT
    have new : ObjOk X.prog X.w (upd H s.heap.objs.size (.tup [.int (i : Nat), x])) h'' s.heap.objs.size (.tup [.int (i : Nat), x]) :=
      ⟨by show 2 ≤ sizeLine; decide, [.int i tk, x'], .cons ⟨_, rfl⟩ (.cons ru .nil), ⟨_, hT2, rfl, _, rfl⟩⟩
    have I1 : Inv X pins σ (upd H s.heap.objs.size (.tup [.int (i : Nat), x])) { s with heap := h'', toks := tk + 1 } :=
      I.turnedNew (ch := [e, it]) (fun b ob hb q => (sb.2 b (fun z => hb (by simp [z]))).trans (hk b ob (fun z => hb (by simp [z])) (fun z => hb (by simp [z])) q)) hf (Nat.le_refl _) new
    refine ⟨.ref s.heap.objs.size, _, I1, rfl, ⟨_, x, rfl, I.hok.fresh (Nat.le_refl _), rfl, fun ys hy => by rw [I.tuple_inj hy hq]; exact hx⟩, ⟨⟨x', ?_⟩, hst'.1.at fun o q => (sb.2 it (Ne.symm hne)).trans q, hne, hae⟩, fun b hb => ?_⟩
    · have e1 : ((i + 1 : Nat) : Int) = (i : Int) + 1 := by omega
      rw [e1]; exact he'
    · have hb' : b < s.heap.objs.size := by
        have e' : b = e ∨ b = it := by simpa using hb
        rcases e' with z | z
        · rw [z]; exact hel
        · rw [z]; exact hil
      rw [upd_ne (Nat.ne_of_lt hb')]
      exact (hf b hb).1
  done := by
    intro X hP hw hK hc i pins s σ H E I hf st hg
    subst hP hw hK
    obtain ⟨⟨old, he⟩, hit, hne, hae⟩ := st
    obtain ⟨xs, hq, hx⟩ := hg
    obtain ⟨its, rv, p, hz⟩ := I.tuple hq
    obtain ⟨f0, f1, f2, f3, f4, f5⟩ := hf it (by simp)
    have hl := rv.length
    have hpt : s.heap.IsTuple a its.toArray := p
    have hn : its.toArray.size = i := by
      rw [← hx, hl]; simp
    refine wpAny_pyNext_enum_endD (fp := [it, a]) (n := its.toArray.size) (Draws.tuple (A := X.A.in1) (I.ok.hd hc) it a hat its.toArray) he ⟨by rw [hn]; exact hit, hpt⟩ fun h' eb => ⟨rfl, I.turned (t' := s.toks) (fun b o hb q => eb b o hb q) f0 f1 f3 f4 f5⟩
  self := fun A i s Q E st h => let ⟨⟨_, he⟩, _⟩ := st; wpAny_pyIter_enum he h
def iEnumT (K : PySem.W.Frag) (ta : TA) : TI := fun σ H R => ta σ H fun vs H1 => ∃ a xs, vs = [.ref a] ∧ SqT K H1 a xs ∧ R (Itet K a) H1
theorem pi_enumT {X : Cx} {e : Expr} {ta : TA} {p pos tpos : Pos} {elts : List Expr} {kk : Nat} (hg : Gl X "enumerate") (hm : X.mg "enumerate" = none) (ha : PA X [e] ta) (hs : starEach [e] X.env = [(false, eval e X.env)] := by rfl) :
    PI X (.Tuple elts kk tpos) (.Call (.Name "enumerate" p) [e] [] pos) (iEnumT X.K ta) := by
  refine ⟨fun pins s σ H R I h => ?_⟩
  refine Call_ (ld_blt I hg hm boot_enumerate (PyProof.Rows.callWith_type1 (thn (ha.run pos pins s σ H _ I h) fun us s1 ⟨vs, H1, I1, r1, q1⟩ => ?_) hs rfl))
  obtain ⟨a, xs, ex, hq, q⟩ := q1
  subst ex
  cases r1 with
  | cons r rr =>
    cases rr
    cases r
    obtain ⟨its, rv, p', hz⟩ := I1.tuple hq
    have hpt : s1.heap.IsTuple a its.toArray := p'
    have hal : a < s1.heap.objs.size := p'.lt
    refine call_enum1 (begins_tuple a its.toArray) hpt fun h' he hit hsz hk => wpAny_pyIter_enum he ?_
    have I2 : Inv X pins σ H1 { s1 with heap := h' } := I1.kept (t' := s1.toks) hk
    refine ⟨s1.heap.objs.size + 1, [s1.heap.objs.size + 1, s1.heap.objs.size], _, _, H1, rfl, I2, turn_enumT a (s1.heap.objs.size + 1) s1.heap.objs.size (Nat.ne_of_lt hal), ⟨⟨.none, he⟩, ⟨_, hit, rfl, rfl⟩, Nat.succ_ne_self _, Nat.ne_of_lt (Nat.lt_succ_of_lt hal)⟩, fun b hb => ?_, q⟩
    have e' : b = s1.heap.objs.size + 1 ∨ b = s1.heap.objs.size := by simpa using hb
    have hle : s1.heap.objs.size ≤ b := by
      rcases e' with z | z
      · rw [z]; exact Nat.le_add_right _ _
      · rw [z]; exact Nat.le_refl _
    exact I1.fpOk hle (I1.hok.fresh hle)
theorem for_enumT {K : PySem.W.Frag} {a : Addr} {xs : List V} {g : TG} {tb : TS} {D : Ends} {σ : L2.St} {H : Hp} (Pv : Nat → L2.St → Hp → Prop) (h0 : Pv 0 σ H) (hl : ∀ i σ H, i ≤ xs.length → Pv i σ H → SqT K H a xs)
    (hs : ∀ (i : Nat) x σ H T, xs[i]? = some x → Pv i σ H → H T = none → g (.ref T) σ (upd H T (.tup [.int i, x])) fun σ2 H2 => tb { D with nx := Pv (i + 1), ct := Pv (i + 1), bk := D.nx } σ2 H2) (hd : ∀ σ H, Pv xs.length σ H → D.nx σ H) :
    ∃ W : Nat → Nat → L2.St → Hp → Prop, (∃ m, W 0 m σ H) ∧ ∀ i m σ H, W i m σ H →
      ((Itet K a).stop i H ∧ D.nx σ H) ∨ ((Itet K a).go i H ∧ ∃ N : L2.St → Hp → Prop, (∀ σ' H', N σ' H' → ∃ m', m' < m ∧ W (i + 1) m' σ' H') ∧ ∀ x H', (Itet K a).yld i H x H' → g x σ H' fun σ2 H2 => tb { D with nx := N, ct := N, bk := D.nx } σ2 H2) := by
  refine ⟨fun i m σ H => m = xs.length - i ∧ i ≤ xs.length ∧ Pv i σ H, ⟨xs.length, by simp, Nat.zero_le _, h0⟩, ?_⟩
  rintro i m σ H ⟨rfl, hi, p⟩
  have q := hl i σ H hi p
  by_cases hlt : i < xs.length
  · refine .inr ⟨⟨xs, xs[i], q, by simp [hlt]⟩, Pv (i + 1), fun σ' H' p' => ⟨xs.length - (i + 1), by omega, rfl, hlt, p'⟩, fun x H' y => ?_⟩
    obtain ⟨T, z, e1, e2, e3, y⟩ := y
    subst e1 e3
    exact hs i z σ H T (y xs q) p e2
  · have e : i = xs.length := by omega
    subst e
    exact .inl ⟨⟨xs, q, rfl⟩, hd σ H p⟩
end Lv

/-! machines over a heap -/
namespace Lv
open PySem L2
/-- an event: before, after, tries, points -/
structure Ev where
  b : Int
  a : Int
  w : Int
  x : Int
deriving DecidableEq
def evV (e : Ev) : List V := [.int e.b, .int e.a, .int e.w, .int e.x]
def EvOk (n : Int) (e : Ev) : Prop := 0 ≤ e.b ∧ e.b < n ∧ 0 ≤ e.a ∧ e.a < n ∧ 1 ≤ e.w ∧ e.w ≤ 40 ∧ -400 ≤ e.x ∧ e.x ≤ 400
def EvL (G : Hp) (vs : List V) (es : List Ev) : Prop := vs.length = es.length ∧ ∀ (i : Nat) (e : Ev), es[i]? = some e → ∃ t : Addr, vs[i]? = some (.ref t) ∧ G t = some (.tup (evV e))
theorem EvL.mono {G G' : Hp} {vs : List V} {es : List Ev} (e : Ex G G') (h : EvL G vs es) : EvL G' vs es := ⟨h.1, fun i z hz => by
  obtain ⟨t, h1, h2⟩ := h.2 i z hz
  exact ⟨t, h1, e _ _ h2⟩⟩
theorem EvL.get {G : Hp} {vs : List V} {es : List Ev} (h : EvL G vs es) {i : Nat} {v : V} (hv : vs[i]? = some v) : ∃ (e : Ev) (t : Addr), es[i]? = some e ∧ v = .ref t ∧ G t = some (.tup (evV e)) := by
  have hi : i < es.length := by rw [← h.1]; exact (List.getElem?_eq_some_iff.mp hv).1
  obtain ⟨t, h1, h2⟩ := h.2 i es[i] (List.getElem?_eq_getElem hi)
  rw [hv] at h1
  exact ⟨es[i], t, List.getElem?_eq_getElem hi, Option.some.inj h1, h2⟩
def EvsAt (G : Hp) (t : Addr) (es : List Ev) : Prop := ∃ vs : List V, G t = some (.tup vs) ∧ EvL G vs es
theorem EvsAt.mono {G G' : Hp} {t : Addr} {es : List Ev} (e : Ex G G') (h : EvsAt G t es) : EvsAt G' t es := by
  obtain ⟨vs, h1, h2⟩ := h
  exact ⟨vs, e _ _ h1, h2.mono e⟩
/-- the numbers, from k on, of the events that lead from s -/
def outs (k : Nat) : List Ev → Nat → List Int
  | [], _ => []
  | e :: r, s => if e.b = (s : Int) then (k : Int) :: outs (k + 1) r s else outs (k + 1) r s
theorem outs_app (s : Nat) (e : Ev) : ∀ (l : List Ev) (k : Nat), outs k (l ++ [e]) s = outs k l s ++ (if e.b = (s : Int) then [((k + l.length : Nat) : Int)] else [])
  | [], k => by
    show (if e.b = (s : Int) then (k : Int) :: outs (k + 1) [] s else outs (k + 1) [] s) = _
    split
    · rfl
    · rfl
  | a :: r, k => by
    have ih := outs_app s e r (k + 1)
    have e2 : k + 1 + r.length = k + (a :: r).length := by simp; omega
    rw [e2] at ih
    show (if a.b = (s : Int) then (k : Int) :: outs (k + 1) (r ++ [e]) s else outs (k + 1) (r ++ [e]) s) = (if a.b = (s : Int) then (k : Int) :: outs (k + 1) r s else outs (k + 1) r s) ++ _
    rw [ih]
    split
    · rfl
    · rfl
theorem outs_len (s : Nat) : ∀ (l : List Ev) (k : Nat), (outs k l s).length ≤ l.length
  | [], _ => Nat.le_refl _
  | a :: r, k => by
    have ih := outs_len s r (k + 1)
    show (if a.b = (s : Int) then (k : Int) :: outs (k + 1) r s else outs (k + 1) r s).length ≤ r.length + 1
    split
    · simp; omega
    · omega
def mfl (n : Int) (t ko : Addr) : List (Str × V) := [("standings", .int n), ("events", .ref t), ("kept_out", .ref ko)]
theorem nse : ¬ (("standings" : Str) = "events") := by decide +kernel
theorem nsk : ¬ (("standings" : Str) = "kept_out") := by decide +kernel
theorem nek : ¬ (("events" : Str) = "kept_out") := by decide +kernel
theorem mf1 (n : Int) : putF "standings" (.int n) [] = ([("standings", V.int n)] : List (Str × V)) := rfl
theorem mf2 (n : Int) (t : Addr) : putF "events" (.ref t) ([("standings", V.int n)] : List (Str × V)) = ([("standings", V.int n), ("events", V.ref t)] : List (Str × V)) := by
  show (if ("standings" : Str) = "events" then _ else _) = _
  rw [if_neg nse]; rfl
theorem mf3 (n : Int) (t ko : Addr) : putF "kept_out" (.ref ko) ([("standings", V.int n), ("events", V.ref t)] : List (Str × V)) = mfl n t ko := by
  show (if ("standings" : Str) = "kept_out" then _ else (("standings" : Str), V.int n) :: (if ("events" : Str) = "kept_out" then _ else _)) = _
  rw [if_neg nsk, if_neg nek]; rfl
theorem ml1 (n : Int) (t ko : Addr) : (mfl n t ko).lookup ("standings" : Str) = some (.int n) := by simp [mfl, List.lookup]
theorem ml2 (n : Int) (t ko : Addr) : (mfl n t ko).lookup ("events" : Str) = some (.ref t) := by
  have h : (("events" : Str) == "standings") = false := by decide +kernel
  simp [mfl, List.lookup, h]
theorem ml3 (n : Int) (t ko : Addr) : (mfl n t ko).lookup ("kept_out" : Str) = some (.ref ko) := by
  have h : (("kept_out" : Str) == "standings") = false := by decide +kernel
  have h2 : (("kept_out" : Str) == "events") = false := by decide +kernel
  simp [mfl, List.lookup, h, h2]
/-- a machine of the class at C: n standings, the events es -/
def MachAt (C : Addr) (G : Hp) (m : Addr) (n : Int) (es : List Ev) : Prop := ∃ (dx t ko : Addr) (ks : List V), G m = some (.ins C dx (mfl n t ko)) ∧ EvsAt G t es ∧ G ko = some (.lst ks) ∧ (ks.length : Int) = n ∧
  ∀ i : Nat, i < ks.length → ∃ k : Addr, ks[i]? = some (.ref k) ∧ G k = some (.lst ((outs 0 es i).map V.int))
theorem MachAt.mono {C : Addr} {G G' : Hp} {m : Addr} {n : Int} {es : List Ev} (e : Ex G G') (h : MachAt C G m n es) : MachAt C G' m n es := by
  obtain ⟨dx, t, ko, ks, h1, h2, h3, h4, h5⟩ := h
  refine ⟨dx, t, ko, ks, e _ _ h1, h2.mono e, e _ _ h3, h4, fun i hi => ?_⟩
  obtain ⟨k, q1, q2⟩ := h5 i hi
  exact ⟨k, q1, e _ _ q2⟩
/-- all that stood but x stands -/
def But (x : Addr) (G G' : Hp) : Prop := ∀ b o, G b = some o → b ≠ x → G' b = some o
/-- Machine.keep and its __init__: a fresh instance at x becomes a machine -/
def spKeep (C : Addr) : Sp := fun vs H Q _ => ∃ (x t : Addr) (n : Int) (dx : Addr) (es : List Ev) (G P : Hp), vs = [.ref x, .int n, .ref t] ∧ Join G P H ∧ G x = some (.ins C dx []) ∧ EvsAt G t es ∧ 1 ≤ n ∧ n ≤ 10000 ∧ es.length ≤ 10000 ∧
  (∀ e ∈ es, 0 ≤ e.b ∧ e.b < n) ∧ ∀ G' H', Join G' P H' → But x G G' → MachAt C G' x n es → Q .non H'
def spMInit (C : Addr) : Sp := fun vs H Q _ => ∃ (x t : Addr) (n : Int) (dx : Addr) (es : List Ev) (G P : Hp), vs = [.ref x, .int n, .ref t] ∧ Join G P H ∧ G x = some (.ins C dx []) ∧ EvsAt G t es ∧ 1 ≤ n ∧ n ≤ 12 ∧ es.length ≤ 30 ∧
  (∀ e ∈ es, EvOk n e) ∧ ∀ G' H', Join G' P H' → But x G G' → MachAt C G' x n es → Q .non H'
end Lv

namespace Lv
open PySem L2
theorem low_facts {a b : Int} (hb : 0 < b) : 1 ≤ b / (Int.gcd a b : Nat) ∧ Int.gcd (a / (Int.gcd a b : Nat)) (b / (Int.gcd a b : Nat)) = 1 ∧ (a / (Int.gcd a b : Nat)).natAbs ≤ a.natAbs ∧ (b / (Int.gcd a b : Nat)).natAbs ≤ b.natAbs := by
  have g0 : 0 < Int.gcd a b := Int.gcd_pos_of_ne_zero_right a (by omega)
  have h1 : ((Int.gcd a b : Nat) : Int) ∣ a := Int.gcd_dvd_left ..
  have h2 : ((Int.gcd a b : Nat) : Int) ∣ b := Int.gcd_dvd_right ..
  refine ⟨?_, Int.gcd_ediv_gcd_ediv_gcd_of_ne_zero_right (by omega), ?_, ?_⟩
  · obtain ⟨c, hc⟩ := h2
    have : b / (Int.gcd a b : Nat) = c := by
      rw [hc]
      rw [← hc]
      exact Int.ediv_eq_of_eq_mul_right (by omega) hc
    rw [this]
    by_cases h : 1 ≤ c
    · exact h
    · exfalso
      have : ((Int.gcd a b : Nat) : Int) * c ≤ 0 := Int.mul_nonpos_of_nonneg_of_nonpos (by omega) (by omega)
      omega
  · rw [Int.natAbs_ediv_of_dvd h1]
    exact Nat.div_le_self _ _
  · rw [Int.natAbs_ediv_of_dvd h2]
    exact Nat.div_le_self _ _
theorem blT {p : Prop} [Decidable p] (h : p) : V.bl (decide p) = V.bl true := by rw [decide_eq_true h]
theorem blF {p : Prop} [Decidable p] (h : ¬ p) : V.bl (decide p) = V.bl false := by rw [decide_eq_false h]
end Lv

namespace Lv
open PySem L2
theorem EvL.upd {G : Hp} {vs : List V} {es : List Ev} {L : Addr} {xs : List V} {o : HO} (h : EvL G vs es) (hL : G L = some (.lst xs)) : EvL (L2.upd G L o) vs es := ⟨h.1, fun i e he => by
  obtain ⟨t, h1, h2⟩ := h.2 i e he
  exact ⟨t, h1, by rw [upd_ne (ne_of h2 hL (by intro z; cases z))]; exact h2⟩⟩
theorem EvL.add {G : Hp} {vs : List V} {es : List Ev} {t : Addr} {e : Ev} (h : EvL G vs es) (ht : G t = some (.tup (evV e))) : EvL G (vs ++ [.ref t]) (es ++ [e]) := ⟨by simp [h.1], fun i e' he => by
  by_cases hi : i < es.length
  · rw [List.getElem?_append_left hi] at he
    obtain ⟨t', h1, h2⟩ := h.2 i e' he
    exact ⟨t', by rw [List.getElem?_append_left (by rw [h.1]; exact hi)]; exact h1, h2⟩
  · have hl := (List.getElem?_eq_some_iff.mp he).1
    simp at hl
    have ei : i = es.length := by omega
    subst ei
    simp at he
    subst he
    exact ⟨t, by rw [← h.1]; simp, ht⟩⟩
theorem EvL.nil {G : Hp} : EvL G [] [] := ⟨rfl, fun i e he => by simp at he⟩
/-- events as the law draws them -/
def EvSm (n : Int) (e : Ev) : Prop := 0 ≤ e.b ∧ e.b < n ∧ 0 ≤ e.a ∧ e.a < n ∧ 1 ≤ e.w ∧ e.w ≤ 3 ∧ -4 ≤ e.x ∧ e.x ≤ 4
theorem EvSm.ok {n : Int} {e : Ev} (h : EvSm n e) : EvOk n e := by
  obtain ⟨h1, h2, h3, h4, h5, h6, h7, h8⟩ := h
  exact ⟨h1, h2, h3, h4, h5, by omega, by omega, by omega⟩
/-- (standings, events) at p -/
def PartsAt (G : Hp) (p : Addr) (n : Int) (es : List Ev) : Prop := ∃ t, G p = some (.tup [.int n, .ref t]) ∧ EvsAt G t es
theorem PartsAt.mono {G G' : Hp} {p : Addr} {n : Int} {es : List Ev} (e : Ex G G') (h : PartsAt G p n es) : PartsAt G' p n es := by
  obtain ⟨t, h1, h2⟩ := h
  exact ⟨t, e _ _ h1, h2.mono e⟩
def spParts : Sp := fun vs H Q _ => ∃ (l : Addr) (a b : Int) (G P : Hp), vs = [.ref l, .int a, .int b] ∧ Join G P H ∧ Pot P l ∧ 1 ≤ a ∧ a ≤ 1000 ∧ 1 ≤ b ∧ b ≤ 1000 ∧
  ∀ (p : Addr) (n : Int) (es : List Ev) (G' P' H' : Hp), Ex G G' → Join G' P' H' → Pot P' l → PartsAt G' p n es → 1 ≤ n → n ≤ a → 1 ≤ es.length → (es.length : Int) ≤ b → (∀ e ∈ es, EvSm n e) → Q (.ref p) H'
end Lv
namespace Lv
open PySem L2
theorem Join.exH {G P H G' H' : Hp} (j : Join G P H) (e : Ex G G') (j' : Join G' P H') : Ex H H' := fun b o h => by
  cases hg : G b with
  | some u =>
    have h1 := j.g _ _ hg
    rw [h] at h1
    rw [Option.some.inj h1]
    exact j'.g _ _ (e _ _ hg)
  | none =>
    cases hp : P b with
    | some u =>
      have h1 := j.p _ _ hp
      rw [h] at h1
      rw [Option.some.inj h1]
      exact j'.p _ _ hp
    | none => rw [j.no _ hg hp] at h; cases h
end Lv

namespace Lv
open PySem L2
/-! ### lists of tuples -/
def TupL {α : Type} (f : α → List V) (G : Hp) (vs : List V) (as : List α) : Prop := vs.length = as.length ∧ ∀ (i : Nat) (a : α), as[i]? = some a → ∃ t : Addr, vs[i]? = some (.ref t) ∧ G t = some (.tup (f a))
section
variable {α : Type} {f : α → List V} {G G' : Hp} {vs : List V} {as : List α}
theorem TupL.mono (e : Ex G G') (h : TupL f G vs as) : TupL f G' vs as := ⟨h.1, fun i a ha => by
  obtain ⟨t, h1, h2⟩ := h.2 i a ha
  exact ⟨t, h1, e _ _ h2⟩⟩
theorem TupL.get (h : TupL f G vs as) {i : Nat} {v : V} (hv : vs[i]? = some v) : ∃ (a : α) (t : Addr), as[i]? = some a ∧ v = .ref t ∧ G t = some (.tup (f a)) := by
  have hi : i < as.length := by rw [← h.1]; exact (List.getElem?_eq_some_iff.mp hv).1
  obtain ⟨t, h1, h2⟩ := h.2 i as[i] (List.getElem?_eq_getElem hi)
  rw [hv] at h1
  exact ⟨as[i], t, List.getElem?_eq_getElem hi, Option.some.inj h1, h2⟩
theorem TupL.upd {L : Addr} {xs : List V} {o : HO} (h : TupL f G vs as) (hL : G L = some (.lst xs)) : TupL f (L2.upd G L o) vs as := ⟨h.1, fun i a ha => by
  obtain ⟨t, h1, h2⟩ := h.2 i a ha
  exact ⟨t, h1, by rw [upd_ne (ne_of h2 hL (by intro z; cases z))]; exact h2⟩⟩
theorem TupL.add {t : Addr} {a : α} (h : TupL f G vs as) (ht : G t = some (.tup (f a))) : TupL f G (vs ++ [.ref t]) (as ++ [a]) := ⟨by simp [h.1], fun i a' ha => by
  by_cases hi : i < as.length
  · rw [List.getElem?_append_left hi] at ha
    obtain ⟨t', h1, h2⟩ := h.2 i a' ha
    exact ⟨t', by rw [List.getElem?_append_left (by rw [h.1]; exact hi)]; exact h1, h2⟩
  · have hl := (List.getElem?_eq_some_iff.mp ha).1
    simp at hl
    have ei : i = as.length := by omega
    subst ei
    simp at ha
    subst ha
    exact ⟨t, by rw [← h.1]; simp, ht⟩⟩
theorem TupL.nil : TupL f G [] [] := ⟨rfl, fun i e he => by simp at he⟩
end
/-- a tuple of ints, a list of such, as data -/
def iV (l : List Int) : List V := l.map V.int
def dT (l : List Int) : PyData := .tuple (l.map PyData.int)
def dL (ls : List (List Int)) : PyData := .list (ls.map dT)
theorem dp_ints {K : PySem.W.Frag} {H : Hp} : ∀ l : List Int, DpAll K H (iV l) (l.map PyData.int)
  | [] => .nil
  | a :: r => .cons (.int a) (dp_ints r)
theorem dp_tup {K : PySem.W.Frag} {H : Hp} {t : Addr} {l : List Int} (h : H t = some (.tup (iV l))) : Dp K H (.ref t) (dT l) := .tup (sqT h) (dp_ints l)
theorem dp_all {K : PySem.W.Frag} {H : Hp} : ∀ (ls : List (List Int)) (vs : List V), TupL iV H vs ls → DpAll K H vs (ls.map dT)
  | [], [], _ => .nil
  | [], v :: vs, h => by have := h.1; simp at this
  | l :: r, [], h => by have := h.1; simp at this
  | l :: r, v :: vs, h => by
    obtain ⟨t, h1, h2⟩ := h.2 0 l rfl
    have e : v = .ref t := Option.some.inj h1
    subst e
    exact .cons (dp_tup h2) (dp_all r vs ⟨by have := h.1; simp at this; exact this, fun i a ha => h.2 (i + 1) a ha⟩)
theorem dp_lst {K : PySem.W.Frag} {H : Hp} {p : Addr} {vs : List V} {ls : List (List Int)} (hp : H p = some (.lst vs)) (h : TupL iV H vs ls) : Dp K H (.ref p) (dL ls) := .lst (sqL hp) (dp_all ls vs h)
theorem lay_ints : ∀ l : List Int, PyData.canLayAll0 (l.map PyData.int) = true
  | [] => rfl
  | a :: r => by
    have ih := lay_ints r
    simp [PyData.canLayAll0, PyData.canLay0, ih]
theorem lay_tups : ∀ ls : List (List Int), PyData.canLayAll0 (ls.map dT) = true
  | [] => rfl
  | l :: r => by
    have ih := lay_tups r
    simp [PyData.canLayAll0, dT, PyData.canLay0, ih, lay_ints l]
theorem dep_ints : ∀ l : List Int, PyData.depthAll (l.map PyData.int) ≤ 1
  | [] => by simp [PyData.depthAll]
  | a :: r => by
    have ih := dep_ints r
    simp [PyData.depthAll, PyData.depth]
    omega
theorem dep_tups : ∀ ls : List (List Int), PyData.depthAll (ls.map dT) ≤ 2
  | [] => by simp [PyData.depthAll]
  | l :: r => by
    have ih := dep_tups r
    have h := dep_ints l
    simp [PyData.depthAll, PyData.depth, dT]
    omega
theorem shaped_dL (ls : List (List Int)) : SeqAt.shaped (dL ls) = true := by
  have h1 := lay_tups ls
  have h2 := dep_tups ls
  unfold SeqAt.shaped dL
  rw [PyData.canLay0, h1, PyData.depth]
  simp
  omega
theorem shaped_dT (l : List Int) : SeqAt.shaped (dT l) = true := by
  have h1 := lay_ints l
  have h2 := dep_ints l
  unfold SeqAt.shaped dT
  rw [PyData.canLay0, h1, PyData.depth]
  simp
  omega
theorem eqv_ints : ∀ l m : List Int, PyData.eqvAll (l.map PyData.int) (m.map PyData.int) = decide (l = m)
  | [], [] => by simp [PyData.eqvAll]
  | [], b :: m => by simp [PyData.eqvAll]
  | a :: l, [] => by simp [PyData.eqvAll]
  | a :: l, b :: m => by
    have ih := eqv_ints l m
    simp only [List.map_cons, PyData.eqvAll, PyData.eqv, ih]
    by_cases h : a = b
    · subst h; simp
    · simp [h]
theorem eqv_dT (l m : List Int) : PyData.eqv (dT l) (dT m) = decide (l = m) := by
  unfold dT; rw [PyData.eqv]; exact eqv_ints l m
theorem eqv_tups : ∀ l m : List (List Int), PyData.eqvAll (l.map dT) (m.map dT) = decide (l = m)
  | [], [] => by simp [PyData.eqvAll]
  | [], b :: m => by simp [PyData.eqvAll]
  | a :: l, [] => by simp [PyData.eqvAll]
  | a :: l, b :: m => by
    have ih := eqv_tups l m
    simp only [List.map_cons, PyData.eqvAll, eqv_dT, ih]
    by_cases h : a = b
    · subst h; simp
    · simp [h]
theorem eqv_dL (l m : List (List Int)) : PyData.eqv (dL l) (dL m) = decide (l = m) := by
  unfold dL; rw [PyData.eqv]; exact eqv_tups l m
/-! ### runs -/
def leads (es : List Ev) : Int → List Nat → Option Int
  | s, [] => some s
  | s, i :: r => match es[i]? with
    | some e => if e.b = s then leads es e.a r else none
    | none => none
theorem leads_app (es : List Ev) : ∀ (l m : List Nat) (s : Int), leads es s (l ++ m) = (leads es s l).bind fun y => leads es y m
  | [], m, s => rfl
  | i :: r, m, s => by
    show (match es[i]? with | some e => if e.b = s then leads es e.a (r ++ m) else none | none => none) = (match es[i]? with | some e => if e.b = s then leads es e.a r else none | none => none).bind _
    cases es[i]? with
    | none => rfl
    | some e =>
      show (if e.b = s then leads es e.a (r ++ m) else none) = (if e.b = s then leads es e.a r else none).bind _
      by_cases h : e.b = s
      · rw [if_pos h, if_pos h]; exact leads_app es r m e.a
      · rw [if_neg h, if_neg h]; rfl
theorem leads_at {es : List Ev} {rs : List Nat} {s z : Int} (h : leads es s rs = some z) {i k : Nat} (hk : rs[i]? = some k) : ∃ y e, leads es s (rs.take i) = some y ∧ es[k]? = some e ∧ e.b = y ∧ leads es s (rs.take (i + 1)) = some e.a := by
  have hi : i < rs.length := (List.getElem?_eq_some_iff.mp hk).1
  have e1 : rs = rs.take i ++ (k :: rs.drop (i + 1)) := by
    have h1 := List.take_append_drop i rs
    have h2 : rs.drop i = k :: rs.drop (i + 1) := by
      rw [List.drop_eq_getElem_cons hi]
      rw [List.getElem?_eq_getElem hi] at hk
      rw [Option.some.inj hk]
    rw [h2] at h1
    exact h1.symm
  have h2 : leads es s (rs.take i ++ (k :: rs.drop (i + 1))) = some z := by rw [← e1]; exact h
  rw [leads_app] at h2
  cases hy : leads es s (rs.take i) with
  | none => rw [hy] at h2; cases h2
  | some y =>
    rw [hy] at h2
    have h3 : (match es[k]? with | some e => if e.b = y then leads es e.a (rs.drop (i + 1)) else none | none => none) = some z := h2
    cases he : es[k]? with
    | none => rw [he] at h3; cases h3
    | some e =>
      rw [he] at h3
      have h4 : (if e.b = y then leads es e.a (rs.drop (i + 1)) else none) = some z := h3
      by_cases hb : e.b = y
      · refine ⟨y, e, rfl, rfl, hb, ?_⟩
        rw [take_more hk, leads_app, hy]
        show (match es[k]? with | some e => if e.b = y then leads es e.a [] else none | none => none) = some e.a
        rw [he]
        show (if e.b = y then some e.a else none) = some e.a
        rw [if_pos hb]
      · rw [if_neg hb] at h4; cases h4
/-- a run: its numbers -/
def IsRun (es : List Ev) (rs : List Nat) : Prop := ∃ z, leads es 0 rs = some z
def rV (rs : List Nat) : List V := rs.map fun (i : Nat) => V.int (i : Int)
theorem rV_at {rs : List Nat} {i : Nat} {y : V} (h : (rV rs)[i]? = some y) : ∃ k, rs[i]? = some k ∧ y = V.int (k : Int) := by
  unfold rV at h
  rw [List.getElem?_map] at h
  cases e : rs[i]? with
  | none => rw [e] at h; cases h
  | some z => rw [e] at h; exact ⟨z, rfl, (Option.some.inj h).symm⟩
/-- the sums of tries, of points -/
def sumW (es : List Ev) (rs : List Nat) : Int := (rs.map fun k => ((es[k]?).map Ev.w).getD 0).sum
def sumX (es : List Ev) (rs : List Nat) : Int := (rs.map fun k => ((es[k]?).map Ev.x).getD 0).sum
theorem sumW_more {es : List Ev} {rs : List Nat} {i k : Nat} {e : Ev} (hk : rs[i]? = some k) (he : es[k]? = some e) : sumW es (rs.take (i + 1)) = sumW es (rs.take i) + e.w := by
  unfold sumW
  rw [take_more hk, List.map_append, List.sum_append]
  simp [he]
theorem sumX_more {es : List Ev} {rs : List Nat} {i k : Nat} {e : Ev} (hk : rs[i]? = some k) (he : es[k]? = some e) : sumX es (rs.take (i + 1)) = sumX es (rs.take i) + e.x := by
  unfold sumX
  rw [take_more hk, List.map_append, List.sum_append]
  simp [he]
def boardsOf (es : List Ev) (rs : List Nat) : List (List Int) := (List.range rs.length).map fun i => [sumW es (rs.take (i + 1)), sumX es (rs.take (i + 1))]
def boardsTo (es : List Ev) (rs : List Nat) (n : Nat) : List (List Int) := (List.range n).map fun i => [sumW es (rs.take (i + 1)), sumX es (rs.take (i + 1))]
theorem boardsTo_more (es : List Ev) (rs : List Nat) (n : Nat) : boardsTo es rs (n + 1) = boardsTo es rs n ++ [[sumW es (rs.take (n + 1)), sumX es (rs.take (n + 1))]] := by
  unfold boardsTo
  rw [List.range_succ, List.map_append]; rfl
theorem leads_map {f : Ev → Ev} (hf : ∀ e, (f e).b = e.b ∧ (f e).a = e.a) (es : List Ev) : ∀ (rs : List Nat) (s : Int), leads (es.map f) s rs = leads es s rs
  | [], s => rfl
  | i :: r, s => by
    show (match (es.map f)[i]? with | some e => if e.b = s then leads (es.map f) e.a r else none | none => none) = (match es[i]? with | some e => if e.b = s then leads es e.a r else none | none => none)
    rw [List.getElem?_map]
    cases es[i]? with
    | none => rfl
    | some e =>
      show (if (f e).b = s then leads (es.map f) (f e).a r else none) = (if e.b = s then leads es e.a r else none)
      rw [(hf e).1, (hf e).2, leads_map hf es r]
end Lv

/-! comprehensions, by an invariant over what is made so far -/
namespace Lv
open PySem L2
theorem lcG_list {K : PySem.W.Frag} {a : Addr} {xs : List V} {g : TG} {tt : TT} {te : TE} {vs : List Nat} {σ : L2.St} {G P H : Hp} {Qd : Hp → Prop} {D : Addr} (Pp : Hp → Prop) (I : Nat → List V → Hp → Prop) (hD : H D = none) (J : Join G P H) (hP : Pp P)
    (hS : SqL K G a xs) (h0 : I 0 [] (upd G D (.lst []))) (hI : ∀ i ws G2 us ts, G2 D = some (.lst us) → I i ws G2 → I i ws (upd G2 D (.lst ts))) (hz : ∀ i ws G2, I i ws G2 → ws.length ≤ 1000000)
    (hs : ∀ (i : Nat) (x : V) (ws : List V) (G' P' H' : Hp) (R : VK) (R0 : Hp → Prop), xs[i]? = some x → Ex G G' → I i ws G' → Pp P' → Join G' P' H' →
      (∀ v G2 P2 H2, Ex G' G2 → Pp P2 → Join G2 P2 H2 → I (i + 1) (ws ++ [v]) G2 → R v H2) → (∀ G2 P2 H2, Ex G' G2 → Pp P2 → Join G2 P2 H2 → I (i + 1) ws G2 → R0 H2) →
      g x (wipe σ vs) H' fun σ2 H2 => wipe σ2 vs = wipe σ vs ∧ tt σ2 H2 fun b H3 => if b = true then te σ2 H3 R else R0 H3)
    (hq : ∀ ws G' P' H', Ex G G' → G' D = some (.lst ws) → I xs.length ws G' → Pp P' → Join G' P' H' → Qd H') :
    ∃ W : Nat → Nat → Hp → Prop, (∃ m, W 0 m (upd H D (.lst []))) ∧ ∀ i m H, W i m H →
      ((Itl K a).stop i H ∧ Qd H) ∨ ((Itl K a).go i H ∧ ∃ Nx : Hp → Prop, (∀ H', Nx H' → ∃ m', m' < m ∧ W (i + 1) m' H') ∧ ∀ x H', (Itl K a).yld i H x H' → g x (wipe σ vs) H' fun σ2 H2 => wipe σ2 vs = wipe σ vs ∧ tt σ2 H2 fun b H3 =>
        if b = true then te σ2 H3 fun y H4 => ∃ acc, H4 D = some (.lst acc) ∧ acc.length < sizeLine ∧ Nx (upd H4 D (.lst (acc ++ [y]))) else Nx H3) := by
  have gD : G D = none := J.ng hD
  refine lc_list (K := K) (a := a) (xs := xs) (Qd := Qd) (fun i H' => ∃ (ws : List V) (G' P' : Hp), Ex G G' ∧ G' D = some (.lst ws) ∧ I i ws G' ∧ Pp P' ∧ Join G' P' H') ⟨[], _, P, Ex.new gD, upd_same, h0, hP, J.newG hD⟩ (fun i H' _ ⟨ws, G', P', e, _, _, _, j⟩ => (e.trans j.exG).l hS) (fun i x H' hi ⟨ws, G', P', e, hd, hi2, hp, j⟩ => ?_) (fun H' ⟨ws, G', P', e, hd, hi2, hp, j⟩ => hq ws G' P' H' e hd hi2 hp j)
  refine hs i x ws G' P' H' _ _ hi e hi2 hp j (fun v G2 P2 H2 e2 hp2 j2 hi3 => ⟨ws, j2.g _ _ (e2 _ _ hd), Nat.lt_of_le_of_lt (hz _ _ _ hi2) (by decide), ws ++ [v], _, P2, ?_, upd_same, hI _ _ _ _ _ (e2 _ _ hd) hi3, hp2, j2.setG (j2.gp (e2 _ _ hd))⟩) (fun G2 P2 H2 e2 hp2 j2 hi3 => ⟨ws, G2, P2, e.trans e2, e2 _ _ hd, hi3, hp2, j2⟩)
  exact (e.trans e2).mut gD
theorem lcG_tup {K : PySem.W.Frag} {a : Addr} {xs : List V} {g : TG} {tt : TT} {te : TE} {vs : List Nat} {σ : L2.St} {G P H : Hp} {Qd : Hp → Prop} {D : Addr} (Pp : Hp → Prop) (I : Nat → List V → Hp → Prop) (hD : H D = none) (J : Join G P H) (hP : Pp P)
    (hS : SqT K G a xs) (h0 : I 0 [] (upd G D (.lst []))) (hI : ∀ i ws G2 us ts, G2 D = some (.lst us) → I i ws G2 → I i ws (upd G2 D (.lst ts))) (hz : ∀ i ws G2, I i ws G2 → ws.length ≤ 1000000)
    (hs : ∀ (i : Nat) (x : V) (ws : List V) (G' P' H' : Hp) (R : VK) (R0 : Hp → Prop), xs[i]? = some x → Ex G G' → I i ws G' → Pp P' → Join G' P' H' →
      (∀ v G2 P2 H2, Ex G' G2 → Pp P2 → Join G2 P2 H2 → I (i + 1) (ws ++ [v]) G2 → R v H2) → (∀ G2 P2 H2, Ex G' G2 → Pp P2 → Join G2 P2 H2 → I (i + 1) ws G2 → R0 H2) →
      g x (wipe σ vs) H' fun σ2 H2 => wipe σ2 vs = wipe σ vs ∧ tt σ2 H2 fun b H3 => if b = true then te σ2 H3 R else R0 H3)
    (hq : ∀ ws G' P' H', Ex G G' → G' D = some (.lst ws) → I xs.length ws G' → Pp P' → Join G' P' H' → Qd H') :
    ∃ W : Nat → Nat → Hp → Prop, (∃ m, W 0 m (upd H D (.lst []))) ∧ ∀ i m H, W i m H →
      ((Itt K a).stop i H ∧ Qd H) ∨ ((Itt K a).go i H ∧ ∃ Nx : Hp → Prop, (∀ H', Nx H' → ∃ m', m' < m ∧ W (i + 1) m' H') ∧ ∀ x H', (Itt K a).yld i H x H' → g x (wipe σ vs) H' fun σ2 H2 => wipe σ2 vs = wipe σ vs ∧ tt σ2 H2 fun b H3 =>
        if b = true then te σ2 H3 fun y H4 => ∃ acc, H4 D = some (.lst acc) ∧ acc.length < sizeLine ∧ Nx (upd H4 D (.lst (acc ++ [y]))) else Nx H3) := by
  have gD : G D = none := J.ng hD
  refine lc_tup (K := K) (a := a) (xs := xs) (Qd := Qd) (fun i H' => ∃ (ws : List V) (G' P' : Hp), Ex G G' ∧ G' D = some (.lst ws) ∧ I i ws G' ∧ Pp P' ∧ Join G' P' H') ⟨[], _, P, Ex.new gD, upd_same, h0, hP, J.newG hD⟩ (fun i H' _ ⟨ws, G', P', e, _, _, _, j⟩ => (e.trans j.exG).t hS) (fun i x H' hi ⟨ws, G', P', e, hd, hi2, hp, j⟩ => ?_) (fun H' ⟨ws, G', P', e, hd, hi2, hp, j⟩ => hq ws G' P' H' e hd hi2 hp j)
  refine hs i x ws G' P' H' _ _ hi e hi2 hp j (fun v G2 P2 H2 e2 hp2 j2 hi3 => ⟨ws, j2.g _ _ (e2 _ _ hd), Nat.lt_of_le_of_lt (hz _ _ _ hi2) (by decide), ws ++ [v], _, P2, ?_, upd_same, hI _ _ _ _ _ (e2 _ _ hd) hi3, hp2, j2.setG (j2.gp (e2 _ _ hd))⟩) (fun G2 P2 H2 e2 hp2 j2 hi3 => ⟨ws, G2, P2, e.trans e2, e2 _ _ hd, hi3, hp2, j2⟩)
  exact (e.trans e2).mut gD
theorem lcG_range {lo : Int} {n : Nat} {g : TG} {tt : TT} {te : TE} {vs : List Nat} {σ : L2.St} {G P H : Hp} {Qd : Hp → Prop} {D : Addr} (Pp : Hp → Prop) (I : Nat → List V → Hp → Prop) (hD : H D = none) (J : Join G P H) (hP : Pp P)
    (h0 : I 0 [] (upd G D (.lst []))) (hI : ∀ i ws G2 us ts, G2 D = some (.lst us) → I i ws G2 → I i ws (upd G2 D (.lst ts))) (hz : ∀ i ws G2, I i ws G2 → ws.length ≤ 1000000)
    (hs : ∀ (i : Nat) (ws : List V) (G' P' H' : Hp) (R : VK) (R0 : Hp → Prop), i < n → Ex G G' → I i ws G' → Pp P' → Join G' P' H' →
      (∀ v G2 P2 H2, Ex G' G2 → Pp P2 → Join G2 P2 H2 → I (i + 1) (ws ++ [v]) G2 → R v H2) → (∀ G2 P2 H2, Ex G' G2 → Pp P2 → Join G2 P2 H2 → I (i + 1) ws G2 → R0 H2) →
      g (.int (lo + i)) (wipe σ vs) H' fun σ2 H2 => wipe σ2 vs = wipe σ vs ∧ tt σ2 H2 fun b H3 => if b = true then te σ2 H3 R else R0 H3)
    (hq : ∀ ws G' P' H', Ex G G' → G' D = some (.lst ws) → I n ws G' → Pp P' → Join G' P' H' → Qd H') :
    ∃ W : Nat → Nat → Hp → Prop, (∃ m, W 0 m (upd H D (.lst []))) ∧ ∀ i m H, W i m H →
      ((Itr lo n).stop i H ∧ Qd H) ∨ ((Itr lo n).go i H ∧ ∃ Nx : Hp → Prop, (∀ H', Nx H' → ∃ m', m' < m ∧ W (i + 1) m' H') ∧ ∀ x H', (Itr lo n).yld i H x H' → g x (wipe σ vs) H' fun σ2 H2 => wipe σ2 vs = wipe σ vs ∧ tt σ2 H2 fun b H3 =>
        if b = true then te σ2 H3 fun y H4 => ∃ acc, H4 D = some (.lst acc) ∧ acc.length < sizeLine ∧ Nx (upd H4 D (.lst (acc ++ [y]))) else Nx H3) := by
  have gD : G D = none := J.ng hD
  refine lc_range (lo := lo) (n := n) (Qd := Qd) (fun i H' => ∃ (ws : List V) (G' P' : Hp), Ex G G' ∧ G' D = some (.lst ws) ∧ I i ws G' ∧ Pp P' ∧ Join G' P' H') ⟨[], _, P, Ex.new gD, upd_same, h0, hP, J.newG hD⟩ (fun i H' hi ⟨ws, G', P', e, hd, hi2, hp, j⟩ => ?_) (fun H' ⟨ws, G', P', e, hd, hi2, hp, j⟩ => hq ws G' P' H' e hd hi2 hp j)
  refine hs i ws G' P' H' _ _ hi e hi2 hp j (fun v G2 P2 H2 e2 hp2 j2 hi3 => ⟨ws, j2.g _ _ (e2 _ _ hd), Nat.lt_of_le_of_lt (hz _ _ _ hi2) (by decide), ws ++ [v], _, P2, ?_, upd_same, hI _ _ _ _ _ (e2 _ _ hd) hi3, hp2, j2.setG (j2.gp (e2 _ _ hd))⟩) (fun G2 P2 H2 e2 hp2 j2 hi3 => ⟨ws, G2, P2, e.trans e2, e2 _ _ hd, hi3, hp2, j2⟩)
  exact (e.trans e2).mut gD
end Lv

/-! rules whose reading names a fixed written part (within a comprehension's block) -/
namespace Lv
open PySem PySem.Spec PyProof.Rows L2
section
variable {X : Cx} {K : PySem.W.Frag}
theorem ix_tupK (h : X.K = K) : IxR X (rIxT K) := h ▸ ix_tup
theorem ix_listK (h : X.K = K) : IxR X (rIxL K) := h ▸ ix_list
theorem sl_listK (h : X.K = K) : SlR X (rSlL K) := h ▸ sl_list
theorem sl_tupAK (h : X.K = K) : SlR X (rSlA K) := h ▸ sl_tupA
theorem op_inK (h : X.K = K) : OpR X (compareOp .In) (rIn K false) := h ▸ op_in_seq
theorem op_notInK (h : X.K = K) : OpR X (compareOp .NotIn) (rIn K true) := h ▸ op_notIn_seq
theorem op_catAK (h : X.K = K) : OpR X (binaryOp .Add) (rCatA K) := h ▸ op_catA
theorem op_eqDK (h : X.K = K) (hu : X.A.units + 64 < cLine) : OpR X (compareOp .Eq) (rEqD K) := h ▸ op_eqD hu
theorem op_neDK (h : X.K = K) (hu : X.A.units + 64 < cLine) : OpR X (compareOp .NotEq) (rNeD K) := h ▸ op_neD hu
def rLenS (K : PySem.W.Frag) : List V → Hp → VK → Prop := fun xs H Q => ∃ p ys, xs = [.ref p] ∧ (SqL K H p ys ∨ SqT K H p ys) ∧ Q (.int ys.length) H
theorem call_lenK (h : X.K = K) : CallR X (.builtin "len") (rLenS K) := h ▸ call_len_seq
theorem cr_sumK (h : X.K = K) (hc : X.calm = true) : CallR X (.builtin "sum") (rSum K) := h ▸ cr_sum hc
theorem cr_maxK (h : X.K = K) (hc : X.calm = true) : CallR X (.builtin "max") (rMax K) := h ▸ cr_max hc
theorem cr_minK (h : X.K = K) (hc : X.calm = true) : CallR X (.builtin "min") (rMin K) := h ▸ cr_min hc
theorem call_isiK (h : X.K = K) : CallR X (.builtin "isinstance") (rIsi K) := h ▸ call_isi
theorem pe_fldK {e : Expr} {f : Str} {pos : Pos} {ta : TE} (h : X.K = K) (he : PE X e ta) (hb : attributeBase e f X.env (eval e X.env) = eval e X.env) : PE X (.Attribute e f pos) (tFld K ta f) := h ▸ pe_fld he hb
theorem pi_listK {tg e : Expr} {tl : TE} (h : X.K = K) (he : PE X e tl) : PI X tg e (iList K tl) := h ▸ pi_list he
theorem pi_tupK {tg e : Expr} {tl : TE} (h : X.K = K) (he : PE X e tl) : PI X tg e (iTup K tl) := h ▸ pi_tup he
def rTupOf (K : PySem.W.Frag) : List V → Hp → VK → Prop := fun xs H Q => ∃ p ys, xs = [.ref p] ∧ ((SqL K H p ys ∧ ∀ l, H l = none → Q (.ref l) (upd H l (.tup ys))) ∨ (SqT K H p ys ∧ Q (.ref p) H))
theorem call_tupleK (h : X.K = K) : CallR X (.type "tuple") (rTupOf K) := h ▸ call_tuple_of
end
/-- t[:m], by what it leaves -/
theorem slA_take {K : PySem.W.Frag} {G P H : Hp} {r : Addr} {xs : List V} {m : Nat} {Q : VK} (j : Join G P H) (hr : G r = some (.tup xs)) (q : ∀ t G' H', Ex G G' → Join G' P H' → G' t = some (.tup (xs.take m)) → Q (.ref t) H') : rSlA K (.ref r) none (some (m : Int)) H Q := by
  refine ⟨r, xs, rfl, sqT (j.g _ _ hr), fun h => ?_, fun _ p hp => ?_⟩
  · have h2 := h.2
    rw [HT.sIx_nat] at h2
    refine q r G H (Ex.refl _) j ?_
    rw [List.take_of_length_le (by omega)]; exact hr
  · refine q p _ _ (Ex.new (j.ng hp)) (j.newG hp) ?_
    have e : cutV xs none (some (m : Int)) = xs.take m := by
      unfold cutV
      rw [HT.sIx_nat, HT.sIx_none, List.drop_zero, Nat.sub_zero]
      by_cases hm : m ≤ xs.length
      · rw [Nat.min_eq_left hm]
      · rw [Nat.min_eq_right (by omega), List.take_length, List.take_of_length_le (by omega)]
    rw [e]; exact upd_same
/-- t + u, by what it leaves -/
theorem catA_out {K : PySem.W.Frag} {G P H : Hp} {a b : Addr} {xs ys : List V} {Q : VK} (j : Join G P H) (ha : G a = some (.tup xs)) (hb : G b = some (.tup ys)) (hz : xs.length + ys.length < 100000) (q : ∀ t G' H', Ex G G' → Join G' P H' → G' t = some (.tup (xs ++ ys)) → Q (.ref t) H') : rCatA K (.ref a) (.ref b) H Q := by
  refine ⟨a, b, xs, ys, rfl, rfl, sqT (j.g _ _ ha), sqT (j.g _ _ hb), Nat.le_of_lt (szlt hz), fun e => ?_, fun _ e => ?_, fun _ _ p hp => ?_⟩
  · subst e
    exact q b G H (Ex.refl _) j hb
  · subst e
    refine q a G H (Ex.refl _) j ?_
    rw [List.append_nil]; exact ha
  · exact q p _ _ (Ex.new (j.ng hp)) (j.newG hp) upd_same
/-- xs + ys of lists, by what it leaves -/
theorem cat_out {G P H : Hp} {a b : Addr} {xs ys : List V} {Q : VK} (j : Join G P H) (ha : G a = some (.lst xs)) (hb : G b = some (.lst ys)) (hz : xs.length + ys.length < 100000) (q : ∀ t G' H', Ex G G' → Join G' P H' → H t = none → G' t = some (.lst (xs ++ ys)) → Q (.ref t) H') : rCat (.ref a) (.ref b) H Q :=
  ⟨a, b, xs, ys, rfl, rfl, j.g _ _ ha, j.g _ _ hb, Nat.le_of_lt (szlt hz), fun p hp => q p _ _ (Ex.new (j.ng hp)) (j.newG hp) hp upd_same⟩
/-! ### lists of things that stand for others -/
def RelL {α : Type} (R : Hp → V → α → Prop) (G : Hp) (vs : List V) (as : List α) : Prop := vs.length = as.length ∧ ∀ (i : Nat) (a : α), as[i]? = some a → ∃ v, vs[i]? = some v ∧ R G v a
section
variable {α : Type} {R : Hp → V → α → Prop} {G G' : Hp} {vs ws : List V} {as bs : List α}
theorem RelL.mono (hR : ∀ v a, R G v a → R G' v a) (h : RelL R G vs as) : RelL R G' vs as := ⟨h.1, fun i a ha => by
  obtain ⟨v, h1, h2⟩ := h.2 i a ha
  exact ⟨v, h1, hR _ _ h2⟩⟩
theorem RelL.get (h : RelL R G vs as) {i : Nat} {v : V} (hv : vs[i]? = some v) : ∃ a, as[i]? = some a ∧ R G v a := by
  have hi : i < as.length := by rw [← h.1]; exact (List.getElem?_eq_some_iff.mp hv).1
  obtain ⟨v', h1, h2⟩ := h.2 i as[i] (List.getElem?_eq_getElem hi)
  rw [hv] at h1
  rw [← Option.some.inj h1] at h2
  exact ⟨as[i], List.getElem?_eq_getElem hi, h2⟩
theorem RelL.nil : RelL R G [] [] := ⟨rfl, fun i e he => by simp at he⟩
theorem RelL.app (h : RelL R G vs as) (h' : RelL R G ws bs) : RelL R G (vs ++ ws) (as ++ bs) := ⟨by simp [h.1, h'.1], fun i a ha => by
  by_cases hi : i < as.length
  · rw [List.getElem?_append_left hi] at ha
    obtain ⟨v, h1, h2⟩ := h.2 i a ha
    exact ⟨v, by rw [List.getElem?_append_left (by rw [h.1]; exact hi)]; exact h1, h2⟩
  · rw [List.getElem?_append_right (by omega)] at ha
    obtain ⟨v, h1, h2⟩ := h'.2 _ a ha
    exact ⟨v, by rw [List.getElem?_append_right (by rw [h.1]; omega), h.1]; exact h1, h2⟩⟩
theorem RelL.one {v : V} {a : α} (h : R G v a) : RelL R G [v] [a] := ⟨rfl, fun i b hb => by
  cases i with
  | zero => exact ⟨v, rfl, by rw [← Option.some.inj hb]; exact h⟩
  | succ n => simp at hb⟩
theorem RelL.add {v : V} {a : α} (h : RelL R G vs as) (h' : R G v a) : RelL R G (vs ++ [v]) (as ++ [a]) := h.app (.one h')
theorem RelL.take (h : RelL R G vs as) (m : Nat) : RelL R G (vs.take m) (as.take m) := ⟨by simp [h.1], fun i a ha => by
  have h1 : i < m := by
    have := (List.getElem?_eq_some_iff.mp ha).1
    rw [List.length_take] at this; omega
  rw [List.getElem?_take, if_pos h1] at ha
  obtain ⟨v, h2, h3⟩ := h.2 i a ha
  exact ⟨v, by rw [List.getElem?_take, if_pos h1]; exact h2, h3⟩⟩
end
/-- a run and the standing to which it leads -/
def RunAt (G : Hp) (v : V) (p : List Nat × Int) : Prop := ∃ t r : Addr, v = .ref t ∧ G t = some (.tup [.ref r, .int p.2]) ∧ G r = some (.tup (rV p.1))
theorem RunAt.mono {G G' : Hp} (e : Ex G G') : ∀ v p, RunAt G v p → RunAt G' v p := fun _ _ ⟨t, r, h1, h2, h3⟩ => ⟨t, r, h1, e _ _ h2, e _ _ h3⟩
theorem RunAt.upd {G : Hp} {L : Addr} {xs : List V} {o : HO} (hL : G L = some (.lst xs)) : ∀ v p, RunAt G v p → RunAt (L2.upd G L o) v p := fun _ _ ⟨t, r, h1, h2, h3⟩ => ⟨t, r, h1, by rw [upd_ne (ne_of h2 hL (by intro z; cases z))]; exact h2, by rw [upd_ne (ne_of h3 hL (by intro z; cases z))]; exact h3⟩
def stepR (es : List Ev) (p : List Nat × Int) : List (List Nat × Int) := (outs 0 es p.2.toNat).map fun v => (p.1 ++ [v.toNat], ((es[v.toNat]?).map Ev.a).getD 0)
def runsL (es : List Ev) : Nat → List (List Nat × Int)
  | 0 => [([], 0)]
  | n + 1 => (runsL es n).flatMap (stepR es)
theorem stepR_len (es : List Ev) (p : List Nat × Int) : (stepR es p).length ≤ es.length := by
  unfold stepR
  rw [List.length_map]
  exact outs_len _ _ _
theorem flat_len {α β : Type} {f : α → List β} {k : Nat} (hk : ∀ a, (f a).length ≤ k) : ∀ l : List α, (l.flatMap f).length ≤ k * l.length
  | [] => by simp
  | a :: r => by
    have ih := flat_len hk r
    have h := hk a
    rw [List.flatMap_cons, List.length_append, List.length_cons, Nat.mul_succ]
    omega
theorem runsL_len (es : List Ev) : ∀ n, (runsL es n).length ≤ es.length ^ n
  | 0 => by simp [runsL]
  | n + 1 => by
    have ih := runsL_len es n
    have h := flat_len (stepR_len es) (runsL es n)
    show ((runsL es n).flatMap (stepR es)).length ≤ _
    rw [Nat.pow_succ, Nat.mul_comm]
    exact Nat.le_trans h (Nat.mul_le_mul_left _ ih)
theorem flat_more {α β : Type} {f : α → List β} {l : List α} {i : Nat} {a : α} (h : l[i]? = some a) : (l.take (i + 1)).flatMap f = (l.take i).flatMap f ++ f a := by
  rw [take_more h, List.flatMap_append]; simp
/-- x if c else y, c a flag that is kept -/
theorem tIf_c {i : Nat} {x y : V} {σ : L2.St} {H : Hp} {Q : VK} {b : Bool} (hv : σ[i]? = some (some (.bl b))) (h : Q (if b then x else y) H) : tIf (tB (tVar i)) (tC x) (tC y) σ H Q := by
  refine ⟨_, hv, b, rfl, ?_⟩
  cases b
  · exact iteF h
  · exact iteT h
/-- runs of at most k events -/
def RunV (es : List Ev) (k : Nat) (G : Hp) (v : V) : Prop := ∃ (r : Addr) (rs : List Nat), v = .ref r ∧ G r = some (.tup (rV rs)) ∧ rs.length ≤ k ∧ IsRun es rs
def RunsV (es : List Ev) (k : Nat) (G : Hp) (us : List V) : Prop := ∀ v ∈ us, RunV es k G v
theorem RunsV.mono {es : List Ev} {k : Nat} {G G' : Hp} {us : List V} (e : Ex G G') (h : RunsV es k G us) : RunsV es k G' us := fun v hv => by
  obtain ⟨r, rs, h1, h2, h3⟩ := h v hv
  exact ⟨r, rs, h1, e _ _ h2, h3⟩
theorem RunsV.upd {es : List Ev} {k : Nat} {G : Hp} {us xs : List V} {L : Addr} {o : HO} (hL : G L = some (.lst xs)) (h : RunsV es k G us) : RunsV es k (L2.upd G L o) us := fun v hv => by
  obtain ⟨r, rs, h1, h2, h3⟩ := h v hv
  exact ⟨r, rs, h1, by rw [upd_ne (ne_of h2 hL (by intro z; cases z))]; exact h2, h3⟩
theorem RunsV.nil {es : List Ev} {k : Nat} {G : Hp} : RunsV es k G [] := fun v hv => by cases hv
theorem RunsV.app {es : List Ev} {k : Nat} {G : Hp} {us ws : List V} (h : RunsV es k G us) (h' : RunsV es k G ws) : RunsV es k G (us ++ ws) := fun v hv => (List.mem_append.mp hv).elim (h v) (h' v)
theorem RunsV.add {es : List Ev} {k : Nat} {G : Hp} {us : List V} {v : V} (h : RunsV es k G us) (h' : RunV es k G v) : RunsV es k G (us ++ [v]) := h.app fun x hx => by rw [List.mem_singleton.mp hx]; exact h'
theorem RunsV.take {es : List Ev} {k : Nat} {G : Hp} {us : List V} (m : Nat) (h : RunsV es k G us) : RunsV es k G (us.take m) := fun v hv => h v (List.mem_of_mem_take hv)
/-- xs[:m] of a list, by what it leaves -/
theorem slL_take {K : PySem.W.Frag} {G P H : Hp} {r : Addr} {xs : List V} {m : Nat} {Q : VK} (j : Join G P H) (hr : G r = some (.lst xs)) (q : ∀ t G' H', Ex G G' → Join G' P H' → H t = none → G' t = some (.lst (xs.take m)) → Q (.ref t) H') : rSlL K (.ref r) none (some (m : Int)) H Q := by
  refine ⟨r, xs, rfl, sqL (j.g _ _ hr), fun p hp => q p _ _ (Ex.new (j.ng hp)) (j.newG hp) hp ?_⟩
  rw [upd_same]
  congr 2
  unfold cutV
  rw [HT.sIx_nat, HT.sIx_none, List.drop_zero, Nat.sub_zero]
  by_cases hm : m ≤ xs.length
  · rw [Nat.min_eq_left hm]
  · rw [Nat.min_eq_right (by omega), List.take_length, List.take_of_length_le (by omega)]
theorem TupL.monoJ {α : Type} {f : α → List V} {G P H : Hp} {vs : List V} {as : List α} (j : Join G P H) (h : TupL f G vs as) : TupL f H vs as := h.mono j.exG
end Lv

/-! == and != by an own __eq__ -/
namespace Lv
open PySem PySem.Spec PyProof.Rows PySem.SeqAt L2
section
variable {prog : Program} {w : World} {A : Around} {E : Value → Shared → Prop} {s : Shared} {K : PySem.W.Frag} {x C f : Addr} {ox : Obj} {od : Option Obj} {b tb : Value}
theorem ifBound_B {M : Model} {args : List Value} {name : Str} {id : String} {Q : Option Value → Shared → Prop} (sl : Slot "object" name id) (X : K.In s.heap) (I : PySem.W.InstAt s.heap x ox C od) (hs : PySem.W.findIn K (.ref C) name = some (some (.builtin id)))
    (h : wpAny M A (call (.builtin id) (.ref x :: args)) (fun v => Q (some v)) E s) : wpAny M A (callSpecialIfBound? (.ref x) name args) Q E s := by
  simp only [callSpecialIfBound?, bindSpecialIfBound?]
  refine wpAny_holding (wpAny_bind (wpAny_bind (wpAny_bind (I.type.here ((PySem.W.looks_findIn X hs).here ?_)))))
  refine wpAny_bind (wpAny_askSetting (wpAny_ite ?_))
  have fin : wpAny M A (call (.builtin id) ([.ref x] ++ args) >>= fun v => pure (some v)) Q E s := wpAny_bind (wpAny_mono h (fun v s' h' => wpAny_pure h') fun _ _ h' => h')
  split
  · exact wpAny_bind (wpAny_of_eq (sl.bind _) (wpAny_pure (by exact fin)))
  · exact wpAny_tryCatch (wpAny_bind (wpAny_of_eq (sl.bind _) (wpAny_pure (by exact fin))))
theorem objNe_entry (hu : A.units < cLine) (X : K.In s.heap) (I : PySem.W.InstAt s.heap x ox C od) (hs : PySem.W.findIn K (.ref C) "__eq__" = some (some (.ref f))) (hf : PySem.W.isFn K (.ref f) = true) {Q : Fin → Shared → Prop}
    (hcall : wpAny (model prog w) A (call (.ref f) [.ref x, b]) (fun v s' => ∃ c, v = .bool c ∧ Q (.done (.ret (.bool (!c)))) s') E s) :
    wpAny (model prog w) A (Builtin.«object.__ne__» ⟨[.ref x, b], []⟩) Q E s := by
  unfold Builtin.«object.__ne__»
  repeat (first
    | with_reducible refine wpAny_cRoomFor hu ?_
    | (refine wpAny_bind (m := callSpecialIfBound? (.ref x) (Str.ofString "__eq__") [b])
        (PySem.W.ifBound_K X I hs hf (wpAny_mono hcall (fun r s' hr => by
          obtain ⟨c, rfl, hq⟩ := hr
          repeat (first | exact hq | exact wpAny_pure hq | exact wpAny_truthy_bool hq | (refine wpAny_bind (m := truthy (.bool _)) (wpAny_truthy_bool ?_)) | wp_step)) fun _ _ e => e)))
    | wp_step)
theorem ne_own {Q : Value → Shared → Prop} (hu : A.units + 1 < cLine) (X : K.In s.heap) (I : PySem.W.InstAt s.heap x ox C od) (hb : PySem.W.Looks (model prog w) s.heap (typeOf b) tb) (hn : PySem.W.notFirst K C tb = true)
    (hm : PySem.W.mroIn K C (.type "object") = some true) (hne : PySem.W.findIn K (.ref C) "__ne__" = some (some (.builtin "object.__ne__"))) (hs : PySem.W.findIn K (.ref C) "__eq__" = some (some (.ref f))) (hf : PySem.W.isFn K (.ref f) = true)
    (h : wpAny (model prog w) A.in1 (call (.ref f) [.ref x, b]) (fun v s' => ∃ c, v = .bool c ∧ Q (.bool (!c)) s') E s) : wpAny (model prog w) A (richCompare .NotEq (.ref x) b) Q E s := by
  have one : wpAny (model prog w) A (tryCompare (.ref x) "__ne__" b) (fun r s' => ∃ v, r = some v ∧ Q v s') E s := by
    unfold tryCompare
    refine wpAny_bind (ifBound_B F.cmp_object.ne X I hne ?_)
    refine wpAny_call (codeAny_call_builtin F.cmp_object.ne.plain F.cmpEntry_ne (PySem.W.check_slot F.cmpKind_ne F.cmpSplit_ne (I.type.andThen (PySem.W.looks_mroIn X hm)) (F.cmpArgs_ne _ _) (objNe_entry (A := A.in1) (Nat.lt_of_le_of_lt (by first | exact Nat.le_refl _ | (simp [Around.in1, Around.units])) hu) X I hs hf (wpAny_mono h (fun v s' hv => ?_) fun _ _ e => e))))
    obtain ⟨c, rfl, hq⟩ := hv
    exact ⟨c, rfl, wpAny_pure ⟨_, rfl, hq⟩⟩
  unfold richCompare
  simp only [oneThing_ref]
  refine wpAny_holding (wpAny_bind (wpAny_cRoomFor (Nat.lt_of_succ_lt hu) ?_))
  rw [cmpInfo_NotEq]
  dsimp only
  refine wpAny_bind (I.type.here (wpAny_bind (hb.here ?_)))
  split
  · rename_i q
    have e : PySem.W.subIn K tb (.ref C) = some false := by
      rcases Bool.or_eq_true_iff.mp hn with e | e
      · rw [beq_iff_eq.mp e] at q; simp at q
      · exact beq_iff_eq.mp e
    refine wpAny_bind ((PySem.W.looks_subIn X e).here ?_)
    simp only [Bool.false_eq_true, if_false]
    refine wpAny_bind (wpAny_mono one (fun r s' z => ?_) fun _ _ e => e)
    obtain ⟨v, rfl, hq⟩ := z
    exact wpAny_pure hq
  · refine wpAny_bind (wpAny_pure ?_)
    simp only [Bool.false_eq_true, if_false]
    refine wpAny_bind (wpAny_mono one (fun r s' z => ?_) fun _ _ e => e)
    obtain ⟨v, rfl, hq⟩ := z
    exact wpAny_pure hq
end
/-- x == y, x != y by the own __eq__ of the class at C -/
def rEqOwn (K : PySem.W.Frag) (C : Addr) (sp : Sp) (E : XK) : R2 := fun x y H Q => ∃ a dx fs t, x = .ref a ∧ H a = some (.ins C dx fs) ∧ TyX K H y t ∧ PySem.W.notFirst K C t = true ∧ sp [x, y] H (fun v H' => ∃ c, v = .bl c ∧ Q (.bl c) H') E
def rNeOwn (K : PySem.W.Frag) (C : Addr) (sp : Sp) (E : XK) : R2 := fun x y H Q => ∃ a dx fs t, x = .ref a ∧ H a = some (.ins C dx fs) ∧ TyX K H y t ∧ PySem.W.notFirst K C t = true ∧ sp [x, y] H (fun v H' => ∃ c, v = .bl c ∧ Q (.bl (!c)) H') E
section
variable {X : Cx} {CX : CXT} {C f : Addr} {fd : FuncData} {ps : List Str} {sp : Sp} {n : Nat} {E : XK}
theorem callOwn (F : FnOk X.prog X.w X.K X.mg X.base CX n f fd ps sp) (hb : Binds X.K fd ps []) (hx : Passes CX X E) {A : Around} (hr : Room n A) (hfr : A.frames = X.A.frames) {pins : List (Addr × Obj)} {s : Shared} {σ : L2.St} {H : Hp} {x y : V} {u v : Value} {R : VK} {Q : Value → Shared → Prop}
    (I : Inv X pins σ H s) (rx : RelV x u) (ry : RelV y v) (h : sp [x, y] H R E) (hq : ∀ z w H' s', Inv X pins σ H' s' → RelV z w → R z H' → Q w s') : wpAny (model X.prog X.w) A (call (.ref f) [u, v]) Q X.xe s := by
  have e0 : Env0 X.prog X.w X.K X.mg X.base A X.stack s H := by
    have e := I.env0
    exact ⟨by rw [hfr]; exact e.frames, e.mod, e.bs, e.bsz, e.funs, e.frf, e.hok, e.bare⟩
  have hl := F.len _ _ _ _ h
  have r2 : Vals [x, y] [u, v] := .cons rx (.cons ry .nil)
  refine wpAny_call (codeAny_mono (F.run A X.stack s H ⟨[u, v], []⟩ [u, v] [x, y] _ E hr e0 (by
    have := hb s [u, v] I.kIn (by simpa using hl)
    simpa using this) r2 h) fun r s' hq2 => ?_)
  cases r with
  | error e => exact hx pins σ H s e s' I hq2
  | ok fl =>
    cases fl with
    | ret w =>
      obtain ⟨z, H', I', rz, ez⟩ := I.after hq2
      exact hq z w H' s' I' rz ez
    | next => exact False.elim hq2
    | brk => exact False.elim hq2
    | cont => exact False.elim hq2
theorem op_eqOwn (F : FnOk X.prog X.w X.K X.mg X.base CX n f fd ps sp) (hs : PySem.W.findIn X.K (.ref C) "__eq__" = some (some (.ref f))) (hf : PySem.W.isFn X.K (.ref f) = true) (hb : Binds X.K fd ps []) (hx : Passes CX X E) (hr : Room n X.A) : OpR X (compareOp .Eq) (rEqOwn X.K C sp E) := by
  intro pins s σ H x y v u Q I rx ry h
  obtain ⟨a, dx, fs, t, rfl, ha, ty, hn, h⟩ := h
  cases (show v = Value.ref a from rx)
  obtain ⟨mA, J, _⟩ := ins_get I.hok ha
  obtain ⟨od, J, _⟩ := J.look
  obtain ⟨m, hF⟩ := I.fr
  obtain ⟨P, Z, p, _⟩ := kit_of I ry ty
  show wpAny (model X.prog X.w) X.A (richCompare .Eq (.ref a) u) (EP X pins σ Q) X.xe s
  refine PySem.W.cmp_K (op := .Eq) hr.units0 hF I.ok.mod.kin J (Z.ty _ _ I.kIn p) hn hs hf ?_
  refine callOwn F hb hx hr rfl I rx ry h fun z w H' s' I' rz hz => ?_
  obtain ⟨c, rfl, q⟩ := hz
  cases (show w = Value.bool c from rz)
  exact ⟨.bl c, H', I', rfl, q⟩
theorem op_neOwn (F : FnOk X.prog X.w X.K X.mg X.base CX n f fd ps sp) (hs : PySem.W.findIn X.K (.ref C) "__eq__" = some (some (.ref f))) (hne : PySem.W.findIn X.K (.ref C) "__ne__" = some (some (.builtin "object.__ne__"))) (hm : PySem.W.mroIn X.K C (.type "object") = some true) (hf : PySem.W.isFn X.K (.ref f) = true) (hb : Binds X.K fd ps []) (hx : Passes CX X E) (hr : Room (n + 1) X.A) : OpR X (compareOp .NotEq) (rNeOwn X.K C sp E) := by
  intro pins s σ H x y v u Q I rx ry h
  obtain ⟨a, dx, fs, t, rfl, ha, ty, hn, h⟩ := h
  cases (show v = Value.ref a from rx)
  obtain ⟨mA, J, _⟩ := ins_get I.hok ha
  obtain ⟨od, J, _⟩ := J.look
  obtain ⟨P, Z, p, _⟩ := kit_of I ry ty
  show wpAny (model X.prog X.w) X.A (richCompare .NotEq (.ref a) u) (EP X pins σ Q) X.xe s
  refine ne_own hr.in1.units0 I.kIn J (Z.ty _ _ I.kIn p) hn hm hne hs hf ?_
  refine callOwn F hb hx hr.in1 rfl I rx ry h fun z w H' s' I' rz hz => ?_
  obtain ⟨c, rfl, q⟩ := hz
  cases (show w = Value.bool c from rz)
  exact ⟨c, rfl, .bl (!c), H', I', rfl, q⟩
end
end Lv

/-! own classes with an own __eq__; machines by their class -/
namespace Lv
open PySem PySem.Spec PyProof.Rows L2
structure OwnC (K : PySem.W.Frag) (C M : Addr) : Prop where
  ha : PySem.W.findIn K (.ref C) "__class__" = some (some (.builtin "object.__class__"))
  hn : PySem.W.specialIn K (.builtin "object.__class__") "__get__" = some (some (.builtin "getset_descriptor.__get__"))
  htk : PySem.W.takesIn K (.builtin "object.__class__") = some true
  hm : PySem.W.mroIn K C (.type "object") = some true
  kit : PySem.W.kitOne K (.ref C) (.ref M) = some true
def ownB (K : PySem.W.Frag) (c m : Str) : Bool :=
  He.eqO (PySem.W.findIn K (.ref (He.ga K c)) "__class__") (some (some (.builtin "object.__class__"))) && (He.eqO (PySem.W.specialIn K (.builtin "object.__class__") "__get__") (some (some (.builtin "getset_descriptor.__get__"))) &&
    (decide (PySem.W.takesIn K (.builtin "object.__class__") = some true) && (decide (PySem.W.mroIn K (He.ga K c) (.type "object") = some true) && decide (PySem.W.kitOne K (.ref (He.ga K c)) (.ref (He.ga K m)) = some true))))
theorem ownB_ok {K : PySem.W.Frag} {c m : Str} (h : ownB K c m = true) : OwnC K (He.ga K c) (He.ga K m) := by
  obtain ⟨h1, h⟩ := He.ba h
  obtain ⟨h2, h⟩ := He.ba h
  obtain ⟨h3, h⟩ := He.ba h
  obtain ⟨h4, h5⟩ := He.ba h
  exact ⟨He.eqO_ok h1, He.eqO_ok h2, of_decide_eq_true h3, of_decide_eq_true h4, of_decide_eq_true h5⟩
structure OwnE (K : PySem.W.Frag) (C M f : Addr) : Prop where
  eq : PySem.W.findIn K (.ref C) "__eq__" = some (some (.ref f))
  ne : PySem.W.findIn K (.ref C) "__ne__" = some (some (.builtin "object.__ne__"))
  hm : PySem.W.mroIn K C (.type "object") = some true
  fn : PySem.W.isFn K (.ref f) = true
  first : PySem.W.notFirst K C (.ref M) = true
def eqB (K : PySem.W.Frag) (c m : Str) : Bool :=
  He.eqO (PySem.W.findIn K (.ref (He.ga K c)) "__eq__") (some (some (.ref (He.ma K (He.ga K m) "__eq__")))) && (He.eqO (PySem.W.findIn K (.ref (He.ga K c)) "__ne__") (some (some (.builtin "object.__ne__"))) &&
    (decide (PySem.W.mroIn K (He.ga K c) (.type "object") = some true) && (PySem.W.isFn K (.ref (He.ma K (He.ga K m) "__eq__")) && PySem.W.notFirst K (He.ga K c) (.ref (He.ga K m)))))
theorem eqB_ok {K : PySem.W.Frag} {c m : Str} (h : eqB K c m = true) : OwnE K (He.ga K c) (He.ga K m) (He.ma K (He.ga K m) "__eq__") := by
  obtain ⟨h1, h⟩ := He.ba h
  obtain ⟨h2, h⟩ := He.ba h
  obtain ⟨h3, h⟩ := He.ba h
  obtain ⟨h4, h5⟩ := He.ba h
  exact ⟨He.eqO_ok h1, He.eqO_ok h2, of_decide_eq_true h3, h4, h5⟩
def maB (K : PySem.W.Frag) (c m x : Str) : Bool := decide (He.ma K (He.ga K c) x = He.ma K (He.ga K m) x)
theorem meth_cast {K : PySem.W.Frag} {c m x : Str} (h : Meth K (He.ga K c) x (He.ma K (He.ga K c) x)) (e : maB K c m x = true) : Meth K (He.ga K c) x (He.ma K (He.ga K m) x) := by
  rw [← of_decide_eq_true e]; exact h
theorem first_self {K : PySem.W.Frag} {C : Addr} : PySem.W.notFirst K C (.ref C) = true := by simp [PySem.W.notFirst]
/-- x == y, x != y by the own __eq__ at f -/
def rEqO (K : PySem.W.Frag) (M f : Addr) (sp : Sp) (E : XK) : R2 := fun x y H Q => ∃ C a dx fs t, x = .ref a ∧ H a = some (.ins C dx fs) ∧ OwnE K C M f ∧ TyX K H y t ∧ PySem.W.notFirst K C t = true ∧ sp [x, y] H (fun v H' => ∃ c, v = .bl c ∧ Q (.bl c) H') E
def rNeO (K : PySem.W.Frag) (M f : Addr) (sp : Sp) (E : XK) : R2 := fun x y H Q => ∃ C a dx fs t, x = .ref a ∧ H a = some (.ins C dx fs) ∧ OwnE K C M f ∧ TyX K H y t ∧ PySem.W.notFirst K C t = true ∧ sp [x, y] H (fun v H' => ∃ c, v = .bl c ∧ Q (.bl (!c)) H') E
section
variable {X : Cx} {CX : CXT} {M f : Addr} {fd : FuncData} {ps : List Str} {sp : Sp} {n : Nat} {E : XK}
theorem op_eqO (F : FnOk X.prog X.w X.K X.mg X.base CX n f fd ps sp) (hb : Binds X.K fd ps []) (hx : Passes CX X E) (hr : Room (n + 1) X.A) : OpR X (compareOp .Eq) (rEqO X.K M f sp E) := by
  intro pins s σ H x y v u Q I rx ry h
  obtain ⟨C, a, dx, fs, t, e, ha, ho, ty, hn, h⟩ := h
  exact op_eqOwn F ho.eq ho.fn hb hx (hr.mono (Nat.le_succ _)) pins s σ H x y v u Q I rx ry ⟨a, dx, fs, t, e, ha, ty, hn, h⟩
theorem op_neO (F : FnOk X.prog X.w X.K X.mg X.base CX n f fd ps sp) (hb : Binds X.K fd ps []) (hx : Passes CX X E) (hr : Room (n + 1) X.A) : OpR X (compareOp .NotEq) (rNeO X.K M f sp E) := by
  intro pins s σ H x y v u Q I rx ry h
  obtain ⟨C, a, dx, fs, t, e, ha, ho, ty, hn, h⟩ := h
  exact op_neOwn F ho.eq ho.ne ho.hm ho.fn hb hx hr pins s σ H x y v u Q I rx ry ⟨a, dx, fs, t, e, ha, ty, hn, h⟩
end
/-- a class of machines -/
structure MC (K : PySem.W.Frag) (C : Addr) : Prop where
  c : Cls K C
  ns : NoAttr K C "standings"
  ne : NoAttr K C "events"
  nk : NoAttr K C "kept_out"
  o : OwnC K C (He.ga K "Machine")
  q : OwnE K C (He.ga K "Machine") (He.ma K (He.ga K "Machine") "__eq__")
theorem MC.ty {K : PySem.W.Frag} {C : Addr} (h : MC K C) {H : Hp} {a dx : Addr} {fs : List (Str × V)} (e : H a = some (.ins C dx fs)) : TyX K H (.ref a) (.ref C) := .base (.ins e h.c h.o.ha h.o.hn h.o.htk h.o.hm)
def MachK (K : PySem.W.Frag) (G : Hp) (m : Addr) (n : Int) (es : List Ev) : Prop := ∃ C, MC K C ∧ MachAt C G m n es
theorem MachK.mono {K : PySem.W.Frag} {G G' : Hp} {m : Addr} {n : Int} {es : List Ev} (e : Ex G G') (h : MachK K G m n es) : MachK K G' m n es := by
  obtain ⟨C, h1, h2⟩ := h
  exact ⟨C, h1, h2.mono e⟩
/-- Machine.keep, of any class of machines -/
def spKeepM (K : PySem.W.Frag) : Sp := fun vs H Q E => ∃ C, MC K C ∧ spKeep C vs H Q E
/-- == of machines, and of a machine and a thing that is none -/
def spMEq (K : PySem.W.Frag) : Sp := fun vs H Q _ => ∃ (a b : Addr) (n n' : Int) (es es' : List Ev), vs = [.ref a, .ref b] ∧ MachK K H a n es ∧ MachK K H b n' es' ∧ Q (.bl (decide (n = n' ∧ es = es'))) H
theorem MachK.eqR {K : PySem.W.Frag} {H : Hp} {a b C : Addr} {n n' : Int} {es es' : List Ev} {Q : VK} {E : XK} (ha : MachK K H a n es) (hb : MachAt (He.ga K "Machine") H b n' es') (hC : MC K (He.ga K "Machine")) (q : Q (.bl (decide (n = n' ∧ es = es'))) H) : rEqO K (He.ga K "Machine") (He.ma K (He.ga K "Machine") "__eq__") (spMEq K) E (.ref a) (.ref b) H Q := by
  obtain ⟨Ca, h1, dx, t, ko, ks, h2, h3⟩ := id ha
  obtain ⟨dy, t', ko', ks', h4, h5⟩ := id hb
  exact ⟨Ca, a, dx, _, _, rfl, h2, h1.q, hC.ty h4, h1.q.first, a, b, n, n', es, es', rfl, ha, ⟨_, hC, hb⟩, _, rfl, q⟩
theorem MachK.neR {K : PySem.W.Frag} {H : Hp} {a b : Addr} {n n' : Int} {es es' : List Ev} {Q : VK} {E : XK} (ha : MachK K H a n es) (hb : MachAt (He.ga K "Machine") H b n' es') (hC : MC K (He.ga K "Machine")) (q : Q (.bl (!decide (n = n' ∧ es = es'))) H) : rNeO K (He.ga K "Machine") (He.ma K (He.ga K "Machine") "__eq__") (spMEq K) E (.ref a) (.ref b) H Q := by
  obtain ⟨Ca, h1, dx, t, ko, ks, h2, h3⟩ := id ha
  obtain ⟨dy, t', ko', ks', h4, h5⟩ := id hb
  exact ⟨Ca, a, dx, _, _, rfl, h2, h1.q, hC.ty h4, h1.q.first, a, b, n, n', es, es', rfl, ha, ⟨_, hC, hb⟩, _, rfl, q⟩
/-- both of one class -/
theorem MachAt.neR {K : PySem.W.Frag} {H : Hp} {a b C : Addr} {n n' : Int} {es es' : List Ev} {Q : VK} {E : XK} (hC : MC K C) (ha : MachAt C H a n es) (hb : MachAt C H b n' es') (q : Q (.bl (!decide (n = n' ∧ es = es'))) H) : rNeO K (He.ga K "Machine") (He.ma K (He.ga K "Machine") "__eq__") (spMEq K) E (.ref a) (.ref b) H Q := by
  obtain ⟨dx, t, ko, ks, h2, h3⟩ := id ha
  obtain ⟨dy, t', ko', ks', h4, h5⟩ := id hb
  exact ⟨C, a, dx, _, _, rfl, h2, hC.q, hC.ty h4, first_self, a, b, n, n', es, es', rfl, ⟨_, hC, ha⟩, ⟨_, hC, hb⟩, _, rfl, q⟩
/-- the events as data -/
def evI (e : Ev) : List Int := [e.b, e.a, e.w, e.x]
theorem evI_inj {l m : List Ev} (h : l.map evI = m.map evI) : l = m := by
  induction l generalizing m with
  | nil => cases m with
    | nil => rfl
    | cons b m => simp at h
  | cons a l ih => cases m with
    | nil => simp at h
    | cons b m =>
      rw [List.map_cons, List.map_cons] at h
      obtain ⟨h1, h2⟩ := List.cons.inj h
      rw [ih h2]
      congr 1
      cases a; cases b
      simp [evI] at h1
      obtain ⟨q1, q2, q3, q4⟩ := h1
      subst q1; subst q2; subst q3; subst q4; rfl
theorem EvL.tupL {G : Hp} {vs : List V} {es : List Ev} (h : EvL G vs es) : TupL iV G vs (es.map evI) := ⟨by simp [h.1], fun i a ha => by
  rw [List.getElem?_map] at ha
  obtain ⟨e, he, rfl⟩ := Option.map_eq_some_iff.mp ha
  exact h.2 i e he⟩
def dU (ls : List (List Int)) : PyData := .tuple (ls.map dT)
theorem dp_tt {K : PySem.W.Frag} {H : Hp} {p : Addr} {vs : List V} {ls : List (List Int)} (hp : H p = some (.tup vs)) (h : TupL iV H vs ls) : Dp K H (.ref p) (dU ls) := .tup (sqT hp) (dp_all ls vs h)
theorem shaped_dU (ls : List (List Int)) : SeqAt.shaped (dU ls) = true := by
  have h1 := lay_tups ls
  have h2 := dep_tups ls
  unfold SeqAt.shaped dU
  rw [PyData.canLay0, h1, PyData.depth]
  simp
  omega
theorem eqv_dU (l m : List (List Int)) : PyData.eqv (dU l) (dU m) = decide (l = m) := by
  unfold dU; rw [PyData.eqv]; exact eqv_tups l m
/-- (standings, events) as data -/
def dP (n : Int) (ls : List (List Int)) : PyData := .tuple [.int n, dU ls]
theorem dp_parts {K : PySem.W.Frag} {H : Hp} {p : Addr} {n : Int} {es : List Ev} (h : PartsAt H p n es) : Dp K H (.ref p) (dP n (es.map evI)) := by
  obtain ⟨t, h1, vs, h2, h3⟩ := h
  exact .tup (sqT h1) (.cons (.int n) (.cons (dp_tt h2 h3.tupL) .nil))
theorem shaped_dP (n : Int) (ls : List (List Int)) : SeqAt.shaped (dP n ls) = true := by
  have h1 := lay_tups ls
  have h2 := dep_tups ls
  unfold SeqAt.shaped dP dU
  simp [PyData.canLay0, PyData.canLayAll0, PyData.depth, PyData.depthAll, h1]
  omega
theorem eqv_dP (n n' : Int) (l m : List (List Int)) : PyData.eqv (dP n l) (dP n' m) = decide (n = n' ∧ l = m) := by
  unfold dP
  simp [PyData.eqv, PyData.eqvAll, eqv_dU]
  by_cases h : n = n' <;> simp [h]
end Lv

namespace Lv
open PySem PySem.Spec PyProof.Rows L2
/-- events of small numbers, between n standings -/
def EvB (n : Int) (es : List Ev) : Prop := 1 ≤ n ∧ n ≤ 10000 ∧ es.length ≤ 10000 ∧ ∀ e ∈ es, 0 ≤ e.b ∧ e.b < n ∧ 0 ≤ e.a ∧ e.a < n ∧ 1 ≤ e.w ∧ e.w ≤ 1000000000000 ∧ -1000000000000 ≤ e.x ∧ e.x ≤ 1000000000000
end Lv

/-! the walk: readings by their head, one step each -/
namespace Lv
open PySem PySem.Spec PyProof.Rows L2
section
variable {K : PySem.W.Frag} {σ : L2.St} {H : Hp} {Q : VK} {R : Bool → Hp → Prop} {nx bk ct : L2.St → Hp → Prop} {rt : VK} {D : Ends} {v x y : V} {te ta tb : TE} {tt uu : TT} {t u : TS} {as : TA} {g : TG} {gs : TGs} {i j : Nat}
theorem w_seq (h : t ⟨u ⟨nx, rt, bk, ct⟩, rt, bk, ct⟩ σ H) : tSeq t u ⟨nx, rt, bk, ct⟩ σ H := h
theorem w_next (h : nx σ H) : tNext ⟨nx, rt, bk, ct⟩ σ H := h
theorem w_brk (h : bk σ H) : tBreak ⟨nx, rt, bk, ct⟩ σ H := h
theorem w_cont (h : ct σ H) : tCont ⟨nx, rt, bk, ct⟩ σ H := h
theorem w_drop (h : te σ H fun _ H1 => nx σ H1) : tDrop te ⟨nx, rt, bk, ct⟩ σ H := h
theorem w_ret (h : te σ H rt) : tRet te ⟨nx, rt, bk, ct⟩ σ H := h
theorem w_retN (h : rt .non H) : tRetN ⟨nx, rt, bk, ct⟩ σ H := h
theorem w_ifS (h : tt σ H fun b H1 => if b = true then t D σ H1 else u D σ H1) : tIfS tt t u D σ H := h
theorem w_asg (h : te σ H fun x H1 => g x σ H1 nx) : tAsg te g ⟨nx, rt, bk, ct⟩ σ H := h
theorem w_name {N : L2.St → Hp → Prop} (h : N (σ.set i (some v)) H) : gName i v σ H N := h
theorem w_gnil {N : L2.St → Hp → Prop} {vs : List V} (e : vs = []) (h : N σ H) : gNil vs σ H N := ⟨e, h⟩
theorem w_gcons {N : L2.St → Hp → Prop} {vs r : List V} (e : vs = v :: r) (h : g v σ H fun σ' H' => gs r σ' H' N) : gCons g gs vs σ H N := ⟨v, r, e, h⟩
theorem w_gtup {N : L2.St → Hp → Prop} {n : Nat} {a : Addr} {xs : List V} (e : H a = some (.tup xs)) (l : xs.length = n) (h : gs xs σ H N) : gTup K n gs (.ref a) σ H N := ⟨a, xs, rfl, sqT e, l, h⟩
theorem w_var (e : σ[i]? = some (some v)) (h : Q v H) : tVar i σ H Q := ⟨v, e, h⟩
theorem w_c (h : Q v H) : tC v σ H Q := h
theorem w_op {r : R2} (h : ta σ H fun x H1 => tb σ H1 fun y H2 => r x y H2 Q) : tOp r ta tb σ H Q := h
theorem w_un {r : V → Hp → VK → Prop} (h : ta σ H fun x H1 => r x H1 Q) : tUn r ta σ H Q := h
theorem w_rI0 {f : Int → Int → V} {a b : Int} (h : Q (f a b) H) : rI0 f (.int a) (.int b) H Q := ⟨a, b, rfl, rfl, h⟩
theorem w_rI {C : Int → Int → Prop} {f : Int → Int → V} {a b : Int} (c : C a b) (h : Q (f a b) H) : rI C f (.int a) (.int b) H Q := ⟨a, b, rfl, rfl, c, h⟩
theorem w_rU {f : Int → V} {a : Int} (h : Q (f a) H) : rU f (.int a) H Q := ⟨a, rfl, h⟩
theorem w_eq (e : scal x y = true) (h : Q (.bl (decide (x = y))) H) : rEq x y H Q := ⟨e, h⟩
theorem w_ne (e : scal x y = true) (h : Q (.bl (!decide (x = y))) H) : rNe x y H Q := ⟨e, h⟩
theorem w_tB (h : te σ H fun x H1 => ∃ c, x = .bl c ∧ R c H1) : tB te σ H R := h
theorem w_test (h : te σ H fun x H1 => ∃ c, x = .bl c ∧ R c H1) : tTest te σ H R := h
theorem w_bl {b : Bool} {S : Bool → Prop} (h : S b) : ∃ c, V.bl b = V.bl c ∧ S c := ⟨b, rfl, h⟩
theorem w_and (h : tt σ H fun c H1 => if c = true then uu σ H1 R else R false H1) : tAnd tt uu σ H R := h
theorem w_or (h : tt σ H fun c H1 => if c = true then R true H1 else uu σ H1 R) : tOr tt uu σ H R := h
theorem w_not (h : tt σ H fun c H1 => R (!c) H1) : tNot tt σ H R := h
theorem w_andV (h : ta σ H fun x H1 => ∃ c, x = .bl c ∧ if c = true then tb σ H1 Q else Q (.bl false) H1) : tAndV ta tb σ H Q := h
theorem w_orV (h : ta σ H fun x H1 => ∃ c, x = .bl c ∧ if c = true then Q (.bl true) H1 else tb σ H1 Q) : tOrV ta tb σ H Q := h
theorem w_notV (h : ta σ H fun x H1 => ∃ c, x = .bl c ∧ Q (.bl (!c)) H1) : tNotV ta σ H Q := h
theorem w_ifE (h : tt σ H fun c H1 => if c = true then ta σ H1 Q else tb σ H1 Q) : tIf tt ta tb σ H Q := h
theorem w_yes (h : R true H) : tYes σ H R := h
theorem w_ifT {A B : Prop} (h : A) : if true = true then A else B := (if_pos rfl).mpr h
theorem w_ifF {A B : Prop} (h : B) : if false = true then A else B := (if_neg (by decide)).mpr h
theorem w_ifNT {A B : Prop} (h : B) : if (!true) = true then A else B := (if_neg (by decide)).mpr h
theorem w_ifNF {A B : Prop} (h : A) : if (!false) = true then A else B := (if_pos rfl).mpr h
theorem w_nil {S : List V → Hp → Prop} (h : S [] H) : tNil σ H S := h
theorem w_cons {S : List V → Hp → Prop} (h : ta σ H fun x H1 => as σ H1 fun xs H2 => S (x :: xs) H2) : tCons ta as σ H S := h
theorem w_call {sp : Sp} {dvs : List V} {E : XK} (h : as σ H fun vs H1 => sp (vs ++ dvs) H1 Q E) : tCall sp dvs E as σ H Q := h
theorem w_cb {r : List V → Hp → VK → Prop} (h : as σ H fun vs H1 => r vs H1 Q) : tCB r as σ H Q := h
theorem w_ixT {a : Addr} {xs : List V} {k : Int} (e : H a = some (.tup xs)) (l : atI xs k = some v) (h : Q v H) : rIxT K (.ref a) (.int k) H Q := ⟨a, xs, k, v, rfl, rfl, sqT e, l, h⟩
theorem w_ixL {a : Addr} {xs : List V} {k : Int} (e : H a = some (.lst xs)) (l : atI xs k = some v) (h : Q v H) : rIxL K (.ref a) (.int k) H Q := ⟨a, xs, k, v, rfl, rfl, sqL e, l, h⟩
theorem w_aug {ti : TIp} (e : σ[i]? = some (some x)) (h : te σ H fun y H1 => ti x y H1 fun z H2 => nx (σ.set i (some z)) H2) : tAug i te ti ⟨nx, rt, bk, ct⟩ σ H := ⟨x, e, h⟩
theorem w_rAdd {a b : Int} (h : Q (.int (a + b)) H) : rAdd (.int a) (.int b) H Q := ⟨a, b, rfl, rfl, h⟩
theorem w_rSub {a b : Int} (h : Q (.int (a - b)) H) : rSub (.int a) (.int b) H Q := ⟨a, b, rfl, rfl, h⟩
/-- x.f -/
def aFld (K : PySem.W.Frag) (f : Str) : V → Hp → VK → Prop := fun x H Q => ∃ a C dx fs v, x = .ref a ∧ H a = some (.ins C dx fs) ∧ Cls K C ∧ NoAttr K C f ∧ fs.lookup f = some v ∧ Q v H
theorem w_fld {f : Str} (h : te σ H fun x H1 => aFld K f x H1 Q) : tFld K te f σ H Q := h
/-- a new tuple, a new list -/
def aTup : List V → Hp → VK → Prop := fun xs H Q => xs.length ≤ sizeLine ∧ ∀ p, H p = none → Q (.ref p) (upd H p (.tup xs))
def aLst : List V → Hp → VK → Prop := fun xs H Q => xs.length ≤ sizeLine ∧ ∀ p, H p = none → Q (.ref p) (upd H p (.lst xs))
theorem w_tup (h : as σ H fun xs H1 => aTup xs H1 Q) : tTup as σ H Q := h
theorem w_lst (h : as σ H fun xs H1 => aLst xs H1 Q) : tLst as σ H Q := h
theorem aTup.go {G P : Hp} {xs : List V} (J : Join G P H) (l : xs.length ≤ 100000) (q : ∀ p G' H', H p = none → Ex G G' → Join G' P H' → G' p = some (.tup xs) → Q (.ref p) H') : aTup xs H Q :=
  ⟨szle l, fun p hp => q p _ _ hp (Ex.new (J.ng hp)) (J.newG hp) upd_same⟩
theorem aLst.go {G P : Hp} {xs : List V} (J : Join G P H) (l : xs.length ≤ 100000) (q : ∀ p G' H', H p = none → Ex G G' → Join G' P H' → G' p = some (.lst xs) → Q (.ref p) H') : aLst xs H Q :=
  ⟨szle l, fun p hp => q p _ _ hp (Ex.new (J.ng hp)) (J.newG hp) upd_same⟩
/-- comprehensions over lists, tuples, ranges -/
def aLcL (K : PySem.W.Frag) (g : TG) (tt : TT) (te : TE) (vs : List Nat) (σ : L2.St) : V → Hp → VK → Prop := fun x H Q => tLc (fun _ H R => ∃ a, x = .ref a ∧ (∃ xs, SqL K H a xs) ∧ R (Itl K a) H) g tt te vs σ H Q
def aLcT (K : PySem.W.Frag) (g : TG) (tt : TT) (te : TE) (vs : List Nat) (σ : L2.St) : V → Hp → VK → Prop := fun x H Q => tLc (fun _ H R => ∃ a, x = .ref a ∧ (∃ xs, SqT K H a xs) ∧ R (Itt K a) H) g tt te vs σ H Q
def aLcR (g : TG) (tt : TT) (te : TE) (vs : List Nat) (σ : L2.St) : List V → Hp → VK → Prop := fun xs H Q => tLc (fun _ H R => ∃ j : Int, xs = [.int j] ∧ -(2 ^ 62) ≤ j ∧ j < 2 ^ 62 ∧ R (Itr 0 j.toNat) H) g tt te vs σ H Q
theorem w_lcL {ts : List Nat} (h : ta σ H fun x H1 => aLcL K g tt te ts σ x H1 Q) : tLc (iList K ta) g tt te ts σ H Q := h
theorem w_lcT {ts : List Nat} (h : ta σ H fun x H1 => aLcT K g tt te ts σ x H1 Q) : tLc (iTup K ta) g tt te ts σ H Q := h
theorem w_lcR {ts : List Nat} (h : as σ H fun xs H1 => aLcR g tt te ts σ xs H1 Q) : tLc (iRng1 as) g tt te ts σ H Q := h
theorem aLcL.go {a : Addr} {xs : List V} {ts : List Nat} {G P : Hp} (Pp : Hp → Prop) (I : Nat → List V → Hp → Prop) (J : Join G P H) (hP : Pp P)
    (hS : G a = some (.lst xs)) (h0 : ∀ G', Ex G G' → I 0 [] G') (hI : ∀ i ws G2 D us ts, G2 D = some (.lst us) → I i ws G2 → I i ws (upd G2 D (.lst ts))) (hz : ∀ i ws G2, I i ws G2 → ws.length ≤ 1000000)
    (hs : ∀ (i : Nat) (x : V) (ws : List V) (G' P' H' : Hp) (R : VK) (R0 : Hp → Prop), xs[i]? = some x → Ex G G' → I i ws G' → Pp P' → Join G' P' H' →
      (∀ v G2 P2 H2, Ex G' G2 → Pp P2 → Join G2 P2 H2 → I (i + 1) (ws ++ [v]) G2 → R v H2) → (∀ G2 P2 H2, Ex G' G2 → Pp P2 → Join G2 P2 H2 → I (i + 1) ws G2 → R0 H2) →
      g x (wipe σ ts) H' fun σ2 H2 => wipe σ2 ts = wipe σ ts ∧ tt σ2 H2 fun b H3 => if b = true then te σ2 H3 R else R0 H3)
    (hq : ∀ p ws G' P' H', H p = none → Ex G G' → G' p = some (.lst ws) → I xs.length ws G' → Pp P' → Join G' P' H' → Q (.ref p) H') : aLcL K g tt te ts σ (.ref a) H Q :=
  ⟨a, rfl, ⟨_, sqL (J.g _ _ hS)⟩, fun D hD => lcG_list (xs := xs) Pp I hD J hP (sqL hS) (h0 _ (Ex.new (J.ng hD))) (fun i ws G2 us ts' h1 h2 => hI i ws G2 D us ts' h1 h2) hz hs fun ws G' P' H' e hd hi hp j => hq D ws G' P' H' hD e hd hi hp j⟩
theorem aLcT.go {a : Addr} {xs : List V} {ts : List Nat} {G P : Hp} (Pp : Hp → Prop) (I : Nat → List V → Hp → Prop) (J : Join G P H) (hP : Pp P)
    (hS : G a = some (.tup xs)) (h0 : ∀ G', Ex G G' → I 0 [] G') (hI : ∀ i ws G2 D us ts, G2 D = some (.lst us) → I i ws G2 → I i ws (upd G2 D (.lst ts))) (hz : ∀ i ws G2, I i ws G2 → ws.length ≤ 1000000)
    (hs : ∀ (i : Nat) (x : V) (ws : List V) (G' P' H' : Hp) (R : VK) (R0 : Hp → Prop), xs[i]? = some x → Ex G G' → I i ws G' → Pp P' → Join G' P' H' →
      (∀ v G2 P2 H2, Ex G' G2 → Pp P2 → Join G2 P2 H2 → I (i + 1) (ws ++ [v]) G2 → R v H2) → (∀ G2 P2 H2, Ex G' G2 → Pp P2 → Join G2 P2 H2 → I (i + 1) ws G2 → R0 H2) →
      g x (wipe σ ts) H' fun σ2 H2 => wipe σ2 ts = wipe σ ts ∧ tt σ2 H2 fun b H3 => if b = true then te σ2 H3 R else R0 H3)
    (hq : ∀ p ws G' P' H', H p = none → Ex G G' → G' p = some (.lst ws) → I xs.length ws G' → Pp P' → Join G' P' H' → Q (.ref p) H') : aLcT K g tt te ts σ (.ref a) H Q :=
  ⟨a, rfl, ⟨_, sqT (J.g _ _ hS)⟩, fun D hD => lcG_tup (xs := xs) Pp I hD J hP (sqT hS) (h0 _ (Ex.new (J.ng hD))) (fun i ws G2 us ts' h1 h2 => hI i ws G2 D us ts' h1 h2) hz hs fun ws G' P' H' e hd hi hp j => hq D ws G' P' H' hD e hd hi hp j⟩
theorem aLcR.go {n : Nat} {ts : List Nat} {G P : Hp} (Pp : Hp → Prop) (I : Nat → List V → Hp → Prop) (J : Join G P H) (hP : Pp P) {m : Int} (hn : m = n) (hm : n ≤ 1000000)
    (h0 : ∀ G', Ex G G' → I 0 [] G') (hI : ∀ i ws G2 D us ts, G2 D = some (.lst us) → I i ws G2 → I i ws (upd G2 D (.lst ts))) (hz : ∀ i ws G2, I i ws G2 → ws.length ≤ 1000000)
    (hs : ∀ (i : Nat) (ws : List V) (G' P' H' : Hp) (R : VK) (R0 : Hp → Prop), i < n → Ex G G' → I i ws G' → Pp P' → Join G' P' H' →
      (∀ v G2 P2 H2, Ex G' G2 → Pp P2 → Join G2 P2 H2 → I (i + 1) (ws ++ [v]) G2 → R v H2) → (∀ G2 P2 H2, Ex G' G2 → Pp P2 → Join G2 P2 H2 → I (i + 1) ws G2 → R0 H2) →
      g (.int (i : Int)) (wipe σ ts) H' fun σ2 H2 => wipe σ2 ts = wipe σ ts ∧ tt σ2 H2 fun b H3 => if b = true then te σ2 H3 R else R0 H3)
    (hq : ∀ p ws G' P' H', H p = none → Ex G G' → G' p = some (.lst ws) → I n ws G' → Pp P' → Join G' P' H' → Q (.ref p) H') : aLcR g tt te ts σ [.int m] H Q := by
  subst hn
  refine ⟨(n : Int), rfl, by omega, by omega, fun D hD => lcG_range (lo := 0) (n := (n : Int).toNat) Pp I hD J hP (h0 _ (Ex.new (J.ng hD))) (fun i ws G2 us ts' h1 h2 => hI i ws G2 D us ts' h1 h2) hz ?_ fun ws G' P' H' e hd hi hp j => hq D ws G' P' H' hD e hd (by rw [Int.toNat_natCast] at hi; exact hi) hp j⟩
  intro i ws G' P' H' R R0 hi
  rw [Int.zero_add]
  rw [Int.toNat_natCast] at hi
  exact hs i ws G' P' H' R R0 hi
/-- tests of a comprehension within: both ends -/
theorem wipe_go {σ2 : L2.St} {ts : List Nat} {A : Prop} (e : wipe σ2 ts = wipe σ ts) (h : A) : wipe σ2 ts = wipe σ ts ∧ A := ⟨e, h⟩
/-- a method's call -/
def aMeth (C : Addr) (m : Str) (sp : Sp) (dvs : List V) (E : XK) (as : TA) (σ : L2.St) : V → Hp → VK → Prop := fun x H Q => ∃ a dx fs, x = .ref a ∧ H a = some (.ins C dx fs) ∧ fs.lookup m = none ∧ as σ H fun vs H1 => sp (x :: (vs ++ dvs)) H1 Q E
theorem w_meth {C : Addr} {m : Str} {sp : Sp} {dvs : List V} {E : XK} (h : ta σ H fun x H1 => aMeth C m sp dvs E as σ x H1 Q) : tMeth C m sp dvs E ta as σ H Q := h
theorem aMeth.go {C a dx : Addr} {m : Str} {sp : Sp} {dvs : List V} {E : XK} {fs : List (Str × V)} {G P : Hp} (J : Join G P H) (e : G a = some (.ins C dx fs)) (l : fs.lookup m = none) (h : as σ H fun vs H1 => sp (.ref a :: (vs ++ dvs)) H1 Q E) : aMeth C m sp dvs E as σ (.ref a) H Q := ⟨a, dx, fs, rfl, J.g _ _ e, l, h⟩
/-- fields of machines -/
theorem aFld.ns {G P : Hp} {m : Addr} {n : Int} {es : List Ev} (J : Join G P H) (h : MachK K G m n es) (q : Q (.int n) H) : aFld K "standings" (.ref m) H Q := by
  obtain ⟨C, hC, dx, t, ko, ks, h1, h2⟩ := h
  exact ⟨m, C, dx, _, _, rfl, J.g _ _ h1, hC.c, hC.ns, ml1 _ _ _, q⟩
theorem aFld.ne {G P : Hp} {m : Addr} {n : Int} {es : List Ev} (J : Join G P H) (h : MachK K G m n es) (q : ∀ t vs, G t = some (.tup vs) → EvL G vs es → Q (.ref t) H) : aFld K "events" (.ref m) H Q := by
  obtain ⟨C, hC, dx, t, ko, ks, h1, ⟨vs, h2, h3⟩, h4⟩ := h
  exact ⟨m, C, dx, _, _, rfl, J.g _ _ h1, hC.c, hC.ne, ml2 _ _ _, q t vs h2 h3⟩
theorem aFld.nk {G P : Hp} {m : Addr} {n : Int} {es : List Ev} (J : Join G P H) (h : MachK K G m n es) (q : ∀ ko ks, G ko = some (.lst ks) → (ks.length : Int) = n → (∀ i : Nat, i < ks.length → ∃ k : Addr, ks[i]? = some (.ref k) ∧ G k = some (.lst ((outs 0 es i).map V.int))) → Q (.ref ko) H) : aFld K "kept_out" (.ref m) H Q := by
  obtain ⟨C, hC, dx, t, ko, ks, h1, h2, h3, h4, h5⟩ := h
  exact ⟨m, C, dx, _, _, rfl, J.g _ _ h1, hC.c, hC.nk, ml3 _ _ _, q ko ks h3 h4 h5⟩
/-- a list's end grows -/
theorem w_append {l : Addr} {xs : List V} (e : H l = some (.lst xs)) (z : xs.length < 100000) (h : Q .non (upd H l (.lst (xs ++ [y])))) : rAppend (.ref l) [y] H Q := ⟨l, xs, y, rfl, rfl, e, szlt z, h⟩
/-- a thing made: its dict and itself are new -/
def aMake (C : Addr) (sp : Sp) (dvs : List V) (E : XK) : List V → Hp → VK → Prop := fun vs H Q => tMake C sp dvs E (fun _ H S => S vs H) [] H Q
theorem w_make {C : Addr} {sp : Sp} {dvs : List V} {E : XK} (h : as σ H fun vs H1 => aMake C sp dvs E vs H1 Q) : tMake C sp dvs E as σ H Q := h
theorem aMake.go {C : Addr} {sp : Sp} {dvs vs : List V} {E : XK} {G P : Hp} (J : Join G P H) (q : ∀ m dx G' H', H m = none → Ex G G' → Join G' P H' → G' m = some (.ins C dx []) → sp (.ref m :: (vs ++ dvs)) H' (fun v H2 => v = .non ∧ Q (.ref m) H2) E) : aMake C sp dvs E vs H Q := by
  intro m dx hm hdx hne
  have j3 := (J.newG (o := .own m) hdx).newG (o := .ins C dx []) (b := m) (Eq.trans (upd_ne (Ne.symm hne)) hm)
  have e3 : Ex G _ := (Ex.new (o := .own m) (J.ng hdx)).trans (Ex.new (o := .ins C dx []) (p := m) (Eq.trans (upd_ne (Ne.symm hne)) (J.ng hm)))
  exact q m dx _ _ hm e3 j3 upd_same
theorem But.ex {x : Addr} {G G1 G2 : Hp} (b : But x G1 G2) (e : Ex G G1) (n : G x = none) : Ex G G2 := fun a o h => b a o (e a o h) (ne_of_none h n)
theorem big15 {a : Int} (h1 : -1000000000000000 ≤ a) (h2 : a ≤ 1000000000000000) : a.natAbs < 2 ^ 1000 := Nat.lt_of_lt_of_le (show a.natAbs < 1152921504606846976 by omega) (Nat.le_trans (show 1152921504606846976 ≤ 2 ^ 60 by decide) (Nat.pow_le_pow_right (by decide) (by decide)))
theorem big199 {a : Int} (h1 : -1000000000000000000000 ≤ a) (h2 : a ≤ 1000000000000000000000) : a.natAbs < 2 ^ 199 := Nat.lt_of_lt_of_le (show a.natAbs < 1180591620717411303424 by omega) (Nat.le_trans (show 1180591620717411303424 ≤ 2 ^ 70 by decide) (Nat.pow_le_pow_right (by decide) (by decide)))
theorem big199' {a : Int} (h1 : -1000000000000000000000 ≤ a) (h2 : a ≤ 1000000000000000000000) : a.natAbs < 2 ^ 1000 := Nat.lt_of_lt_of_le (big199 h1 h2) (Nat.pow_le_pow_right (by decide) (by decide))
theorem mul15 {a b : Int} (h1 : -1000000000000000 ≤ a) (h2 : a ≤ 1000000000000000) (h3 : -1000000000000000 ≤ b) (h4 : b ≤ 1000000000000000) : CMulW a b := mulW (big15 h1 h2) (big15 h3 h4)
theorem tupOf_go {p : Addr} {ws : List V} {G P : Hp} (J : Join G P H) (h : G p = some (.lst ws)) (q : ∀ t G' H', H t = none → Ex G G' → Join G' P H' → G' t = some (.tup ws) → Q (.ref t) H') : rTupOf K [.ref p] H Q :=
  ⟨p, ws, rfl, .inl ⟨sqL (J.g _ _ h), fun l hl => q l _ _ hl (Ex.new (J.ng hl)) (J.newG hl) upd_same⟩⟩
theorem isi_mach {G P : Hp} {m : Addr} {n : Int} {es : List Ev} (J : Join G P H) (h : MachK K G m n es) (q : Q (.bl true) H) : rIsi K [.ref m, .ref (He.ga K "Machine")] H Q := by
  obtain ⟨C, hC, dx, t, ko, ks, h1, _⟩ := h
  exact ⟨_, _, _, _, true, rfl, .own _, hC.ty (J.g _ _ h1), hC.o.kit, q⟩
theorem isi_lst {a : Addr} {xs : List V} {G P : Hp} (J : Join G P H) (h : G a = some (.lst xs)) (q : Q (.bl true) H) : rIsi K [.ref a, .ty "list"] H Q := ⟨_, _, _, _, true, rfl, .ty _, .base (.lst (J.g _ _ h)), kit_ty (by decide +kernel), q⟩
theorem isi_tup {a : Addr} {xs : List V} {G P : Hp} (J : Join G P H) (h : G a = some (.tup xs)) (q : Q (.bl true) H) : rIsi K [.ref a, .ty "tuple"] H Q := ⟨_, _, _, _, true, rfl, .ty _, .base (.tup (J.g _ _ h)), kit_ty (by decide +kernel), q⟩
section
variable {a b : Addr} {G P : Hp} {vs ws : List V} {ls ms : List (List Int)} {l m : List Int}
theorem neD_U (J : Join G P H) (ha : G a = some (.tup vs)) (hv : TupL iV G vs ls) (hb : G b = some (.tup ws)) (hw : TupL iV G ws ms) (q : Q (.bl (!decide (ls = ms))) H) : rNeD K (.ref a) (.ref b) H Q :=
  ⟨_, _, dp_tt (J.g _ _ ha) (hv.monoJ J), dp_tt (J.g _ _ hb) (hw.monoJ J), shaped_dU _, shaped_dU _, by rw [eqv_dU]; exact q⟩
theorem neD_L (J : Join G P H) (ha : G a = some (.lst vs)) (hv : TupL iV G vs ls) (hb : G b = some (.lst ws)) (hw : TupL iV G ws ms) (q : Q (.bl (!decide (ls = ms))) H) : rNeD K (.ref a) (.ref b) H Q :=
  ⟨_, _, dp_lst (J.g _ _ ha) (hv.monoJ J), dp_lst (J.g _ _ hb) (hw.monoJ J), shaped_dL _, shaped_dL _, by rw [eqv_dL]; exact q⟩
theorem neD_T (J : Join G P H) (ha : G a = some (.tup (iV l))) (hb : G b = some (.tup (iV m))) (q : Q (.bl (!decide (l = m))) H) : rNeD K (.ref a) (.ref b) H Q :=
  ⟨_, _, dp_tup (J.g _ _ ha), dp_tup (J.g _ _ hb), shaped_dT _, shaped_dT _, by rw [eqv_dT]; exact q⟩
theorem eqD_U (J : Join G P H) (ha : G a = some (.tup vs)) (hv : TupL iV G vs ls) (hb : G b = some (.tup ws)) (hw : TupL iV G ws ms) (q : Q (.bl (decide (ls = ms))) H) : rEqD K (.ref a) (.ref b) H Q :=
  ⟨_, _, dp_tt (J.g _ _ ha) (hv.monoJ J), dp_tt (J.g _ _ hb) (hw.monoJ J), shaped_dU _, shaped_dU _, by rw [eqv_dU]; exact q⟩
theorem eqD_L (J : Join G P H) (ha : G a = some (.lst vs)) (hv : TupL iV G vs ls) (hb : G b = some (.lst ws)) (hw : TupL iV G ws ms) (q : Q (.bl (decide (ls = ms))) H) : rEqD K (.ref a) (.ref b) H Q :=
  ⟨_, _, dp_lst (J.g _ _ ha) (hv.monoJ J), dp_lst (J.g _ _ hb) (hw.monoJ J), shaped_dL _, shaped_dL _, by rw [eqv_dL]; exact q⟩
theorem eqD_T (J : Join G P H) (ha : G a = some (.tup (iV l))) (hb : G b = some (.tup (iV m))) (q : Q (.bl (decide (l = m))) H) : rEqD K (.ref a) (.ref b) H Q :=
  ⟨_, _, dp_tup (J.g _ _ ha), dp_tup (J.g _ _ hb), shaped_dT _, shaped_dT _, by rw [eqv_dT]; exact q⟩
theorem neD_P {n n' : Int} {es es' : List Ev} (J : Join G P H) (ha : PartsAt G a n es) (hb : PartsAt G b n' es') (q : Q (.bl (!decide (n = n' ∧ es = es'))) H) : rNeD K (.ref a) (.ref b) H Q := by
  refine ⟨_, _, dp_parts (ha.mono J.exG), dp_parts (hb.mono J.exG), shaped_dP _ _, shaped_dP _ _, ?_⟩
  rw [eqv_dP]
  have e : decide (n = n' ∧ es.map evI = es'.map evI) = decide (n = n' ∧ es = es') := decide_eq_decide.mpr ⟨fun h => ⟨h.1, evI_inj h.2⟩, fun h => ⟨h.1, by rw [h.2]⟩⟩
  rw [e]; exact q
end
/-! builtins' calls by a name -/
def rLstOf (K : PySem.W.Frag) : List V → Hp → VK → Prop := fun xs H Q => ∃ p ys, xs = [.ref p] ∧ (SqL K H p ys ∨ SqT K H p ys) ∧ ∀ l, H l = none → Q (.ref l) (upd H l (.lst ys))
def rAbs : List V → Hp → VK → Prop := fun xs H Q => ∃ i, xs = [.int i] ∧ Q (.int (if i < 0 then -i else i)) H
def rInt1 : List V → Hp → VK → Prop := fun xs H Q => (∃ i, xs = [.int i] ∧ Q (.int i) H) ∨ ∃ k, xs = [.bl k] ∧ Q (.int (if k then 1 else 0)) H
def rLenV (K : PySem.W.Frag) : List V → Hp → VK → Prop := fun xs H Q => ∃ x n, xs = [x] ∧ LenV K x H n ∧ Q (.int n) H
theorem w_tof (h : as σ H fun vs H1 => rTupOf K vs H1 Q) : tCB (fun xs H Q => ∃ p ys, xs = [.ref p] ∧ ((SqL K H p ys ∧ ∀ l, H l = none → Q (.ref l) (upd H l (.tup ys))) ∨ (SqT K H p ys ∧ Q (.ref p) H))) as σ H Q := h
theorem w_lof (h : as σ H fun vs H1 => rLstOf K vs H1 Q) : tCB (fun xs H Q => ∃ p ys, xs = [.ref p] ∧ (SqL K H p ys ∨ SqT K H p ys) ∧ ∀ l, H l = none → Q (.ref l) (upd H l (.lst ys))) as σ H Q := h
theorem w_abs (h : as σ H fun vs H1 => rAbs vs H1 Q) : tCB (fun xs H Q => ∃ i, xs = [.int i] ∧ Q (.int (if i < 0 then -i else i)) H) as σ H Q := h
theorem w_int1 (h : as σ H fun vs H1 => rInt1 vs H1 Q) : tCB (fun xs H Q => (∃ i, xs = [.int i] ∧ Q (.int i) H) ∨ ∃ k, xs = [.bl k] ∧ Q (.int (if k then 1 else 0)) H) as σ H Q := h
theorem w_lenv (h : as σ H fun vs H1 => rLenV K vs H1 Q) : tCB (fun xs H Q => ∃ x n, xs = [x] ∧ LenV K x H n ∧ Q (.int n) H) as σ H Q := h
def rLenW (K : PySem.W.Frag) : List V → Hp → VK → Prop := fun xs H Q => ∃ p ys, xs = [.ref p] ∧ (SqL K H p ys ∨ SqT K H p ys) ∧ Q (.int ys.length) H
theorem w_lens (h : as σ H fun vs H1 => rLenW K vs H1 Q) : tCB (fun xs H Q => ∃ p ys, xs = [.ref p] ∧ (SqL K H p ys ∨ SqT K H p ys) ∧ Q (.int ys.length) H) as σ H Q := h
theorem w_slenT {a : Addr} {xs : List V} (e : H a = some (.tup xs)) (h : Q (.int xs.length) H) : rLenW K [.ref a] H Q := ⟨_, _, rfl, .inr (sqT e), h⟩
theorem w_slenL {a : Addr} {xs : List V} (e : H a = some (.lst xs)) (h : Q (.int xs.length) H) : rLenW K [.ref a] H Q := ⟨_, _, rfl, .inl (sqL e), h⟩
theorem w_klenT {a : Addr} {xs : List V} (e : H a = some (.tup xs)) (h : Q (.int xs.length) H) : Lv.rLenS K [.ref a] H Q := ⟨_, _, rfl, .inr (sqT e), h⟩
theorem w_klenL {a : Addr} {xs : List V} (e : H a = some (.lst xs)) (h : Q (.int xs.length) H) : Lv.rLenS K [.ref a] H Q := ⟨_, _, rfl, .inl (sqL e), h⟩
theorem w_rabs {a : Int} (h : Q (.int (a.natAbs : Nat)) H) : rAbs [.int a] H Q := ⟨a, rfl, by rw [abs_if]; exact h⟩
theorem w_rint {a : Int} (h : Q (.int a) H) : rInt1 [.int a] H Q := .inl ⟨a, rfl, h⟩
theorem w_rintb {b : Bool} (h : Q (.int (if b then 1 else 0)) H) : rInt1 [.bl b] H Q := .inr ⟨b, rfl, h⟩
theorem w_rlenT {a : Addr} {xs : List V} (e : H a = some (.tup xs)) (h : Q (.int xs.length) H) : rLenV K [.ref a] H Q := ⟨_, _, rfl, .inr ⟨xs, sqT e, rfl⟩, h⟩
theorem w_rlenL {a : Addr} {xs : List V} (e : H a = some (.lst xs)) (h : Q (.int xs.length) H) : rLenV K [.ref a] H Q := ⟨_, _, rfl, .inl ⟨xs, sqL e, rfl⟩, h⟩
theorem lstOf_go {p : Addr} {ws : List V} {G P : Hp} (J : Join G P H) (h : G p = some (.lst ws) ∨ G p = some (.tup ws)) (q : ∀ t G' H', H t = none → Ex G G' → Join G' P H' → G' t = some (.lst ws) → Q (.ref t) H') : rLstOf K [.ref p] H Q :=
  ⟨p, ws, rfl, h.imp (fun h => sqL (J.g _ _ h)) (fun h => sqT (J.g _ _ h)), fun l hl => q l _ _ hl (Ex.new (J.ng hl)) (J.newG hl) upd_same⟩
/-- a list's method -/
def aBM (K : PySem.W.Frag) (T : String) (r : V → List V → Hp → VK → Prop) (as : TA) (σ : L2.St) : V → Hp → VK → Prop := fun x H Q => tyV K T x H ∧ as σ H fun xs H2 => r x xs H2 Q
theorem w_bm {T : String} {r : V → List V → Hp → VK → Prop} (h : ta σ H fun x H1 => aBM K T r as σ x H1 Q) : tBM K T r ta as σ H Q := h
theorem w_bm0 {T : String} {r : V → List V → Hp → VK → Prop} (h : ta σ H fun x H1 => aBM K T r tNil σ x H1 Q) : tBM0 K T r ta σ H Q := h
theorem w_bml {r : V → List V → Hp → VK → Prop} {a : Addr} {xs : List V} (e : H a = some (.lst xs)) (h : as σ H fun vs H2 => r (.ref a) vs H2 Q) : aBM K "list" r as σ (.ref a) H Q := ⟨.inl ⟨rfl, xs, sqL e⟩, h⟩
/-! loops over ranges, lists, tuples -/
def aForR (g : TG) (tb : TS) (D : Ends) (σ : L2.St) : List V → Hp → Prop := fun vs H => tFor (fun _ H R => ∃ j : Int, vs = [.int j] ∧ -(2 ^ 62) ≤ j ∧ j < 2 ^ 62 ∧ R (Itr 0 j.toNat) H) g tb D σ H
def aForL (K : PySem.W.Frag) (g : TG) (tb : TS) (D : Ends) (σ : L2.St) : V → Hp → Prop := fun x H => tFor (fun _ H R => ∃ a, x = .ref a ∧ (∃ xs, SqL K H a xs) ∧ R (Itl K a) H) g tb D σ H
def aForT (K : PySem.W.Frag) (g : TG) (tb : TS) (D : Ends) (σ : L2.St) : V → Hp → Prop := fun x H => tFor (fun _ H R => ∃ a, x = .ref a ∧ (∃ xs, SqT K H a xs) ∧ R (Itt K a) H) g tb D σ H
theorem w_forR {tb : TS} (h : as σ H fun vs H1 => aForR g tb D σ vs H1) : tFor (iRng1 as) g tb D σ H := h
theorem w_forL {tb : TS} (h : ta σ H fun x H1 => aForL K g tb D σ x H1) : tFor (iList K ta) g tb D σ H := h
theorem w_forT {tb : TS} (h : ta σ H fun x H1 => aForT K g tb D σ x H1) : tFor (iTup K ta) g tb D σ H := h
theorem aForR.go {tb : TS} {G P : Hp} {m : Int} {n : Nat} (hn : m = n) (hm : n ≤ 1000000) (I : Nat → Hp → Hp → L2.St → Prop) (J : Join G P H) (h0 : I 0 G P σ)
    (hs : ∀ (i : Nat) (G' P' H' : Hp) (σ' : L2.St), i < n → Join G' P' H' → I i G' P' σ' → g (.int (i : Int)) σ' H' fun σ2 H2 => tb ⟨fun σ3 H3 => ∃ G3 P3, Join G3 P3 H3 ∧ I (i + 1) G3 P3 σ3, rt, nx, fun σ3 H3 => ∃ G3 P3, Join G3 P3 H3 ∧ I (i + 1) G3 P3 σ3⟩ σ2 H2)
    (hq : ∀ (G' P' H' : Hp) (σ' : L2.St), Join G' P' H' → I n G' P' σ' → nx σ' H') : aForR g tb ⟨nx, rt, bk, ct⟩ σ [.int m] H := by
  subst hn
  refine ⟨(n : Int), rfl, by omega, by omega, for_range (lo := 0) (n := (n : Int).toNat) (fun i σ' H' => ∃ G3 P3, Join G3 P3 H' ∧ I i G3 P3 σ') ⟨G, P, J, h0⟩ ?_ ?_⟩
  · rintro i σ' H' hi ⟨G', P', J', hI⟩
    rw [Int.zero_add]
    rw [Int.toNat_natCast] at hi
    exact hs i G' P' H' σ' hi J' hI
  · rintro σ' H' ⟨G', P', J', hI⟩
    rw [Int.toNat_natCast] at hI
    exact hq G' P' H' σ' J' hI
theorem aForL.go {tb : TS} {G P : Hp} {a : Addr} {xs : List V} (I : Nat → Hp → Hp → L2.St → Prop) (J : Join G P H) (hS : G a = some (.lst xs)) (h0 : I 0 G P σ) (hk : ∀ i G' P' σ', I i G' P' σ' → G' a = some (.lst xs))
    (hs : ∀ (i : Nat) (x : V) (G' P' H' : Hp) (σ' : L2.St), xs[i]? = some x → Join G' P' H' → I i G' P' σ' → g x σ' H' fun σ2 H2 => tb ⟨fun σ3 H3 => ∃ G3 P3, Join G3 P3 H3 ∧ I (i + 1) G3 P3 σ3, rt, nx, fun σ3 H3 => ∃ G3 P3, Join G3 P3 H3 ∧ I (i + 1) G3 P3 σ3⟩ σ2 H2)
    (hq : ∀ (G' P' H' : Hp) (σ' : L2.St), Join G' P' H' → I xs.length G' P' σ' → nx σ' H') : aForL K g tb ⟨nx, rt, bk, ct⟩ σ (.ref a) H := by
  refine ⟨a, rfl, ⟨_, sqL (J.g _ _ hS)⟩, for_list (xs := xs) (fun i σ' H' => ∃ G3 P3, Join G3 P3 H' ∧ I i G3 P3 σ') ⟨G, P, J, h0⟩ ?_ ?_ ?_⟩
  · rintro i σ' H' _ ⟨G', P', J', hI⟩
    exact sqL (J'.g _ _ (hk _ _ _ _ hI))
  · rintro i x σ' H' hi ⟨G', P', J', hI⟩
    exact hs i x G' P' H' σ' hi J' hI
  · rintro σ' H' ⟨G', P', J', hI⟩
    exact hq G' P' H' σ' J' hI
theorem aForT.go {tb : TS} {G P : Hp} {a : Addr} {xs : List V} (I : Nat → Hp → Hp → L2.St → Prop) (J : Join G P H) (hS : G a = some (.tup xs)) (h0 : I 0 G P σ) (hk : ∀ i G' P' σ', I i G' P' σ' → G' a = some (.tup xs))
    (hs : ∀ (i : Nat) (x : V) (G' P' H' : Hp) (σ' : L2.St), xs[i]? = some x → Join G' P' H' → I i G' P' σ' → g x σ' H' fun σ2 H2 => tb ⟨fun σ3 H3 => ∃ G3 P3, Join G3 P3 H3 ∧ I (i + 1) G3 P3 σ3, rt, nx, fun σ3 H3 => ∃ G3 P3, Join G3 P3 H3 ∧ I (i + 1) G3 P3 σ3⟩ σ2 H2)
    (hq : ∀ (G' P' H' : Hp) (σ' : L2.St), Join G' P' H' → I xs.length G' P' σ' → nx σ' H') : aForT K g tb ⟨nx, rt, bk, ct⟩ σ (.ref a) H := by
  refine ⟨a, rfl, ⟨_, sqT (J.g _ _ hS)⟩, for_tup (xs := xs) (fun i σ' H' => ∃ G3 P3, Join G3 P3 H' ∧ I i G3 P3 σ') ⟨G, P, J, h0⟩ ?_ ?_ ?_⟩
  · rintro i σ' H' _ ⟨G', P', J', hI⟩
    exact sqT (J'.g _ _ (hk _ _ _ _ hI))
  · rintro i x σ' H' hi ⟨G', P', J', hI⟩
    exact hs i x G' P' H' σ' hi J' hI
  · rintro σ' H' ⟨G', P', J', hI⟩
    exact hq G' P' H' σ' J' hI
/-- a list's end grows: the heap's first part, apart from that list -/
theorem append.go {l : Addr} {xs : List V} {G P : Hp} (J : Join G P H) (e : G l = some (.lst xs)) (z : xs.length < 100000) (q : ∀ G' H', But l G G' → Join G' P H' → G' l = some (.lst (xs ++ [y])) → Q .non H') : rAppend (.ref l) [y] H Q :=
  w_append (J.g _ _ e) z (q _ _ (fun b o h n => by rw [upd_ne n]; exact h) (J.setG (J.gp e)) upd_same)
theorem But.trans {x : Addr} {G G1 G2 : Hp} (b1 : But x G G1) (b2 : But x G1 G2) : But x G G2 := fun a o h n => b2 a o (b1 a o h n) n
theorem But.ofEx {x : Addr} {G G1 : Hp} (e : Ex G G1) : But x G G1 := fun a o h _ => e a o h
theorem Ex.but {x : Addr} {G G1 G2 : Hp} (e : Ex G G1) (b : But x G1 G2) (n : G x = none) : Ex G G2 := b.ex e n
theorem w_sl {r : V → Option Int → Option Int → Hp → VK → Prop} {tl th : TO} (h : te σ H fun x H1 => tl σ H1 fun l H2 => th σ H2 fun u H3 => r x l u H3 Q) : tSl r te tl th σ H Q := h
theorem w_npart {S : Option Int → Hp → Prop} (h : S none H) : tNoPart σ H S := h
theorem w_part {S : Option Int → Hp → Prop} (h : te σ H fun x H1 => ∃ i, x = .int i ∧ S (some i) H1) : tPart te σ H S := h
theorem w_pint {k : Int} {S : Int → Prop} (h : S k) : ∃ i, V.int k = V.int i ∧ S i := ⟨k, rfl, h⟩
theorem slL_drop {r : Addr} {xs : List V} {m : Nat} {G P : Hp} (j : Join G P H) (hr : G r = some (.lst xs)) (q : ∀ t G' H', Ex G G' → Join G' P H' → H t = none → G' t = some (.lst (xs.drop m)) → Q (.ref t) H') : rSlL K (.ref r) (some (m : Int)) none H Q := by
  refine ⟨r, xs, rfl, sqL (j.g _ _ hr), fun p hp => q p _ _ (Ex.new (j.ng hp)) (j.newG hp) hp ?_⟩
  rw [upd_same]
  congr 2
  unfold cutV
  rw [HT.sIx_nat, HT.sIx_none]
  by_cases hm : m ≤ xs.length
  · rw [Nat.min_eq_left hm, List.take_of_length_le (by rw [List.length_drop]; omega)]
  · rw [Nat.min_eq_right (by omega), List.drop_length, List.drop_of_length_le (by omega)]; simp
theorem slA_drop {r : Addr} {xs : List V} {m : Nat} {G P : Hp} (j : Join G P H) (hr : G r = some (.tup xs)) (q : ∀ t G' H', Ex G G' → Join G' P H' → G' t = some (.tup (xs.drop m)) → Q (.ref t) H') : rSlA K (.ref r) (some (m : Int)) none H Q := by
  refine ⟨r, xs, rfl, sqT (j.g _ _ hr), fun h => ?_, fun _ p hp => q p _ _ (Ex.new (j.ng hp)) (j.newG hp) ?_⟩
  · have h1 := h.1
    rw [HT.sIx_nat] at h1
    refine q r G H (Ex.refl _) j ?_
    by_cases hm : m = 0
    · subst hm; exact hr
    · have : xs = [] := List.eq_nil_of_length_eq_zero (by omega)
      subst this; simpa using hr
  · rw [upd_same]
    congr 2
    unfold cutV
    rw [HT.sIx_nat, HT.sIx_none]
    by_cases hm : m ≤ xs.length
    · rw [Nat.min_eq_left hm, List.take_of_length_le (by rw [List.length_drop]; omega)]
    · rw [Nat.min_eq_right (by omega), List.drop_length, List.drop_of_length_le (by omega)]; simp
/-- lists of ints as data -/
def dI (l : List Int) : PyData := .list (l.map PyData.int)
theorem shaped_dI (l : List Int) : SeqAt.shaped (dI l) = true := by
  have h1 := lay_ints l
  have h2 := dep_ints l
  unfold SeqAt.shaped dI
  rw [PyData.canLay0, h1, PyData.depth]
  simp
  omega
theorem eqv_dI (l m : List Int) : PyData.eqv (dI l) (dI m) = decide (l = m) := by
  unfold dI; rw [PyData.eqv]; exact eqv_ints l m
theorem neD_I {a b : Addr} {l m : List Int} {G P : Hp} (J : Join G P H) (ha : G a = some (.lst (l.map V.int))) (hb : G b = some (.lst (m.map V.int))) (q : Q (.bl (!decide (l = m))) H) : rNeD K (.ref a) (.ref b) H Q :=
  ⟨_, _, .lst (sqL (J.g _ _ ha)) (dp_ints l), .lst (sqL (J.g _ _ hb)) (dp_ints m), shaped_dI _, shaped_dI _, by rw [show PyData.eqv (.list (l.map PyData.int)) (.list (m.map PyData.int)) = decide (l = m) from eqv_dI l m]; exact q⟩
theorem eqD_I {a b : Addr} {l m : List Int} {G P : Hp} (J : Join G P H) (ha : G a = some (.lst (l.map V.int))) (hb : G b = some (.lst (m.map V.int))) (q : Q (.bl (decide (l = m))) H) : rEqD K (.ref a) (.ref b) H Q :=
  ⟨_, _, .lst (sqL (J.g _ _ ha)) (dp_ints l), .lst (sqL (J.g _ _ hb)) (dp_ints m), shaped_dI _, shaped_dI _, by rw [show PyData.eqv (.list (l.map PyData.int)) (.list (m.map PyData.int)) = decide (l = m) from eqv_dI l m]; exact q⟩
end
end Lv

/-! is True, comprehensions over enumerate and range(i, j), in for ints -/
namespace Lv
open PySem PySem.Spec PyProof.Rows L2
def rIsB (neg : Bool) : R2 := fun x y H Q => ∃ a b, x = .bl a ∧ y = .bl b ∧ Q (.bl (if neg then !decide (a = b) else decide (a = b))) H
theorem bl_beq (a b : Bool) : (Value.bool a == Value.bool b) = decide (a = b) := by cases a <;> cases b <;> rfl
section
variable {X : Cx}
theorem op_isB : OpR X (compareOp .Is) (rIsB false) := by
  intro pins s σ H x y v u Q I rx ry h
  obtain ⟨a, b, rfl, rfl, q⟩ := h
  cases (show v = Value.bool a from rx)
  cases (show u = Value.bool b from ry)
  exact wpAny_is_plain rfl (fin_bl I q (bl_beq a b).symm)
theorem op_isNotB : OpR X (compareOp .IsNot) (rIsB true) := by
  intro pins s σ H x y v u Q I rx ry h
  obtain ⟨a, b, rfl, rfl, q⟩ := h
  cases (show v = Value.bool a from rx)
  cases (show u = Value.bool b from ry)
  exact wpAny_isNot_plain rfl (fin_bl I q (congrArg not (bl_beq a b).symm))
end
section
variable {K : PySem.W.Frag} {σ : L2.St} {H : Hp} {Q : VK} {nx bk ct : L2.St → Hp → Prop} {rt : VK} {D : Ends} {v x y : V} {te ta tb : TE} {tt uu : TT} {t u : TS} {as : TA} {g : TG} {i j : Nat}
theorem w_isB {a b : Bool} (h : Q (.bl (decide (a = b))) H) : rIsB false (.bl a) (.bl b) H Q := ⟨a, b, rfl, rfl, h⟩
theorem w_isNB {a b : Bool} (h : Q (.bl (!decide (a = b))) H) : rIsB true (.bl a) (.bl b) H Q := ⟨a, b, rfl, rfl, h⟩
theorem lc_enumT {a : Addr} {xs : List V} {vs : List Nat} {H1 : Hp} {D : Addr} {Qd : Hp → Prop} (Pv : Nat → Hp → Prop) (h0 : Pv 0 (upd H1 D (.lst []))) (hl : ∀ i H, i ≤ xs.length → Pv i H → SqT K H a xs)
    (hs : ∀ (i : Nat) x H T, xs[i]? = some x → Pv i H → H T = none → g (.ref T) (wipe σ vs) (upd H T (.tup [.int i, x])) fun σ2 H2 => wipe σ2 vs = wipe σ vs ∧ tt σ2 H2 fun b H3 =>
      if b = true then te σ2 H3 fun y H4 => ∃ acc, H4 D = some (.lst acc) ∧ acc.length < sizeLine ∧ Pv (i + 1) (upd H4 D (.lst (acc ++ [y]))) else Pv (i + 1) H3) (hd : ∀ H, Pv xs.length H → Qd H) :
    ∃ W : Nat → Nat → Hp → Prop, (∃ m, W 0 m (upd H1 D (.lst []))) ∧ ∀ i m H, W i m H →
      ((Itet K a).stop i H ∧ Qd H) ∨ ((Itet K a).go i H ∧ ∃ Nx : Hp → Prop, (∀ H', Nx H' → ∃ m', m' < m ∧ W (i + 1) m' H') ∧ ∀ x H', (Itet K a).yld i H x H' → g x (wipe σ vs) H' fun σ2 H2 => wipe σ2 vs = wipe σ vs ∧ tt σ2 H2 fun b H3 =>
        if b = true then te σ2 H3 fun y H4 => ∃ acc, H4 D = some (.lst acc) ∧ acc.length < sizeLine ∧ Nx (upd H4 D (.lst (acc ++ [y]))) else Nx H3) := by
  refine ⟨fun i m H => m = xs.length - i ∧ i ≤ xs.length ∧ Pv i H, ⟨xs.length, by simp, Nat.zero_le _, h0⟩, ?_⟩
  rintro i m H ⟨rfl, hi, p⟩
  have q := hl i H hi p
  by_cases hlt : i < xs.length
  · refine .inr ⟨⟨xs, xs[i], q, by simp [hlt]⟩, Pv (i + 1), fun H' p' => ⟨xs.length - (i + 1), by omega, rfl, hlt, p'⟩, fun x H' y => ?_⟩
    obtain ⟨T, z, e1, e2, e3, y⟩ := y
    subst e1 e3
    exact hs i z H T (y xs q) p e2
  · have e : i = xs.length := by omega
    subst e
    exact .inl ⟨⟨xs, q, rfl⟩, hd H p⟩
/-- [.. for .. in enumerate(t)] -/
def aLcE (K : PySem.W.Frag) (g : TG) (tt : TT) (te : TE) (vs : List Nat) (σ : L2.St) : List V → Hp → VK → Prop := fun us H Q => tLc (fun _ H R => ∃ a xs, us = [.ref a] ∧ SqT K H a xs ∧ R (Itet K a) H) g tt te vs σ H Q
theorem w_lcE {ts : List Nat} (h : as σ H fun xs H1 => aLcE K g tt te ts σ xs H1 Q) : tLc (iEnumT K as) g tt te ts σ H Q := h
theorem aLcE.go {a : Addr} {xs : List V} {ts : List Nat} {G P : Hp} (Pp : Hp → Prop) (I : Nat → List V → Hp → Prop) (J : Join G P H) (hP : Pp P)
    (hS : G a = some (.tup xs)) (h0 : ∀ G', Ex G G' → I 0 [] G') (hI : ∀ i ws G2 D us ts, G2 D = some (.lst us) → I i ws G2 → I i ws (upd G2 D (.lst ts))) (hz : ∀ i ws G2, I i ws G2 → ws.length ≤ 1000000)
    (hm : ∀ i ws G2 G3, Ex G2 G3 → I i ws G2 → I i ws G3)
    (hs : ∀ (i : Nat) (x : V) (T : Addr) (ws : List V) (G' P' H' : Hp) (R : VK) (R0 : Hp → Prop), xs[i]? = some x → Ex G G' → I i ws G' → Pp P' → Join G' P' H' → G' T = some (.tup [.int i, x]) →
      (∀ v G2 P2 H2, Ex G' G2 → Pp P2 → Join G2 P2 H2 → I (i + 1) (ws ++ [v]) G2 → R v H2) → (∀ G2 P2 H2, Ex G' G2 → Pp P2 → Join G2 P2 H2 → I (i + 1) ws G2 → R0 H2) →
      g (.ref T) (wipe σ ts) H' fun σ2 H2 => wipe σ2 ts = wipe σ ts ∧ tt σ2 H2 fun b H3 => if b = true then te σ2 H3 R else R0 H3)
    (hq : ∀ p ws G' P' H', H p = none → Ex G G' → G' p = some (.lst ws) → I xs.length ws G' → Pp P' → Join G' P' H' → Q (.ref p) H') : aLcE K g tt te ts σ [.ref a] H Q := by
  refine ⟨a, xs, rfl, sqT (J.g _ _ hS), fun D hD => ?_⟩
  have gD : G D = none := J.ng hD
  refine lc_enumT (K := K) (a := a) (xs := xs) (fun i H' => ∃ (ws : List V) (G' P' : Hp), Ex G G' ∧ G' D = some (.lst ws) ∧ I i ws G' ∧ Pp P' ∧ Join G' P' H') ⟨[], _, P, Ex.new gD, upd_same, h0 _ (Ex.new gD), hP, J.newG hD⟩ (fun i H' _ ⟨ws, G', P', e, _, _, _, j⟩ => (e.trans j.exG).t (sqT hS)) (fun i x H' T hi ⟨ws, G', P', e, hd, hi2, hp, j⟩ hT => ?_) (fun H' ⟨ws, G', P', e, hd, hi2, hp, j⟩ => hq D ws G' P' H' hD e hd hi2 hp j)
  have eT := Ex.new (o := .tup [.int (i : Int), x]) (j.ng hT)
  refine hs i x T ws _ P' _ _ _ hi (e.trans eT) (hm _ _ _ _ eT hi2) hp (j.newG hT) upd_same (fun v G2 P2 H2 e2 hp2 j2 hi3 => ⟨ws, j2.g _ _ (e2 _ _ (eT _ _ hd)), Nat.lt_of_le_of_lt (hz _ _ _ hi2) (by decide), ws ++ [v], _, P2, ?_, upd_same, hI _ _ _ _ _ _ (e2 _ _ (eT _ _ hd)) hi3, hp2, j2.setG (j2.gp (e2 _ _ (eT _ _ hd)))⟩) (fun G2 P2 H2 e2 hp2 j2 hi3 => ⟨ws, G2, P2, (e.trans eT).trans e2, e2 _ _ (eT _ _ hd), hi3, hp2, j2⟩)
  exact ((e.trans eT).trans e2).mut gD
/-- range(i, j) -/
def aLcR2 (g : TG) (tt : TT) (te : TE) (vs : List Nat) (σ : L2.St) : List V → Hp → VK → Prop := fun xs H Q => tLc (fun _ H R => ∃ i j : Int, xs = [.int i, .int j] ∧ (-(2 ^ 62) ≤ i ∧ i < 2 ^ 62 ∧ -(2 ^ 62) ≤ j ∧ j < 2 ^ 62) ∧ R (Itr i (j - i).toNat) H) g tt te vs σ H Q
theorem w_lcR2 {ts : List Nat} (h : as σ H fun xs H1 => aLcR2 g tt te ts σ xs H1 Q) : tLc (iRng2 as) g tt te ts σ H Q := h
theorem aLcR2.go {lo hi : Int} {n : Nat} {ts : List Nat} {G P : Hp} (Pp : Hp → Prop) (I : Nat → List V → Hp → Prop) (J : Join G P H) (hP : Pp P) (hn : (hi - lo).toNat = n) (hb : -1000000 ≤ lo ∧ lo ≤ 1000000 ∧ -1000000 ≤ hi ∧ hi ≤ 1000000)
    (h0 : ∀ G', Ex G G' → I 0 [] G') (hI : ∀ i ws G2 D us ts, G2 D = some (.lst us) → I i ws G2 → I i ws (upd G2 D (.lst ts))) (hz : ∀ i ws G2, I i ws G2 → ws.length ≤ 1000000)
    (hs : ∀ (i : Nat) (ws : List V) (G' P' H' : Hp) (R : VK) (R0 : Hp → Prop), i < n → Ex G G' → I i ws G' → Pp P' → Join G' P' H' →
      (∀ v G2 P2 H2, Ex G' G2 → Pp P2 → Join G2 P2 H2 → I (i + 1) (ws ++ [v]) G2 → R v H2) → (∀ G2 P2 H2, Ex G' G2 → Pp P2 → Join G2 P2 H2 → I (i + 1) ws G2 → R0 H2) →
      g (.int (lo + i)) (wipe σ ts) H' fun σ2 H2 => wipe σ2 ts = wipe σ ts ∧ tt σ2 H2 fun b H3 => if b = true then te σ2 H3 R else R0 H3)
    (hq : ∀ p ws G' P' H', H p = none → Ex G G' → G' p = some (.lst ws) → I n ws G' → Pp P' → Join G' P' H' → Q (.ref p) H') : aLcR2 g tt te ts σ [.int lo, .int hi] H Q := by
  subst hn
  exact ⟨lo, hi, rfl, by omega, fun D hD => lcG_range (lo := lo) (n := (hi - lo).toNat) Pp I hD J hP (h0 _ (Ex.new (J.ng hD))) (fun i ws G2 us ts' h1 h2 => hI i ws G2 D us ts' h1 h2) hz hs fun ws G' P' H' e hd hi hp j => hq D ws G' P' H' hD e hd hi hp j⟩
def aForR2 (g : TG) (tb : TS) (D : Ends) (σ : L2.St) : List V → Hp → Prop := fun vs H => tFor (fun _ H R => ∃ i j : Int, vs = [.int i, .int j] ∧ (-(2 ^ 62) ≤ i ∧ i < 2 ^ 62 ∧ -(2 ^ 62) ≤ j ∧ j < 2 ^ 62) ∧ R (Itr i (j - i).toNat) H) g tb D σ H
theorem w_forR2 {tb : TS} (h : as σ H fun vs H1 => aForR2 g tb D σ vs H1) : tFor (iRng2 as) g tb D σ H := h
theorem aForR2.go {tb : TS} {G P : Hp} {lo hi : Int} {n : Nat} (hn : (hi - lo).toNat = n) (hb : -1000000 ≤ lo ∧ lo ≤ 1000000 ∧ -1000000 ≤ hi ∧ hi ≤ 1000000) (I : Nat → Hp → Hp → L2.St → Prop) (J : Join G P H) (h0 : I 0 G P σ)
    (hs : ∀ (i : Nat) (G' P' H' : Hp) (σ' : L2.St), i < n → Join G' P' H' → I i G' P' σ' → g (.int (lo + i)) σ' H' fun σ2 H2 => tb ⟨fun σ3 H3 => ∃ G3 P3, Join G3 P3 H3 ∧ I (i + 1) G3 P3 σ3, rt, nx, fun σ3 H3 => ∃ G3 P3, Join G3 P3 H3 ∧ I (i + 1) G3 P3 σ3⟩ σ2 H2)
    (hq : ∀ (G' P' H' : Hp) (σ' : L2.St), Join G' P' H' → I n G' P' σ' → nx σ' H') : aForR2 g tb ⟨nx, rt, bk, ct⟩ σ [.int lo, .int hi] H := by
  subst hn
  refine ⟨lo, hi, rfl, by omega, for_range (lo := lo) (n := (hi - lo).toNat) (fun i σ' H' => ∃ G3 P3, Join G3 P3 H' ∧ I i G3 P3 σ') ⟨G, P, J, h0⟩ ?_ ?_⟩
  · rintro i σ' H' hi ⟨G', P', J', hI⟩
    exact hs i G' P' H' σ' hi J' hI
  · rintro σ' H' ⟨G', P', J', hI⟩
    exact hq G' P' H' σ' J' hI
/-- a, b = x, y -/
def aPar (i j : Nat) (N : L2.St → Hp → Prop) (σ : L2.St) : List V → Hp → Prop := fun vs H => ∃ v w, vs = [v, w] ∧ N ((σ.set i (some v)).set j (some w)) H
theorem w_par (h : as σ H fun vs H1 => aPar i j nx σ vs H1) : tPar i j as ⟨nx, rt, bk, ct⟩ σ H := h
theorem w_apar {N : L2.St → Hp → Prop} (h : N ((σ.set i (some x)).set j (some y)) H) : aPar i j N σ [x, y] H := ⟨x, y, rfl, h⟩
/-! in -/
theorem inV_ints (x : Int) : ∀ ns : List Int, inV (.int x) (ns.map V.int) = decide (x ∈ ns)
  | [] => by simp [inV]
  | a :: r => by
    have ih := inV_ints x r
    unfold inV at *
    rw [List.map_cons, List.any_cons, ih]
    show ((a == x) || _) = _
    by_cases h : a = x
    · subst h; simp
    · have h2 : (a == x) = false := by simp [h]
      rw [h2, Bool.false_or]
      exact decide_eq_decide.mpr ⟨fun h => List.mem_cons_of_mem _ h, fun q => (List.mem_cons.mp q).resolve_left fun z => h z.symm⟩
theorem all_flat (ns : List Int) : (ns.map V.int).all flatV = true := List.all_eq_true.mpr fun v hv => by
  obtain ⟨a, _, rfl⟩ := List.mem_map.mp hv
  rfl
theorem in_go {neg : Bool} {k : Int} {p : Addr} {ns : List Int} {G P : Hp} (J : Join G P H) (h : G p = some (.lst (ns.map V.int)) ∨ G p = some (.tup (ns.map V.int))) (q : Q (.bl (if neg then !decide (k ∈ ns) else decide (k ∈ ns))) H) : rIn K neg (.int k) (.ref p) H Q :=
  ⟨p, ns.map V.int, rfl, h.imp (fun h => sqL (J.g _ _ h)) (fun h => sqT (J.g _ _ h)), rfl, all_flat ns, by rw [inV_ints]; exact q⟩
end
section
variable {α : Type} {f : α → List V} {G G' : Hp} {vs ws : List V} {as bs : List α}
theorem TupL.app (h : TupL f G vs as) (h' : TupL f G ws bs) : TupL f G (vs ++ ws) (as ++ bs) := ⟨by simp [h.1, h'.1], fun i a ha => by
  by_cases hi : i < as.length
  · rw [List.getElem?_append_left hi] at ha
    obtain ⟨v, h1, h2⟩ := h.2 i a ha
    exact ⟨v, by rw [List.getElem?_append_left (by rw [h.1]; exact hi)]; exact h1, h2⟩
  · rw [List.getElem?_append_right (by omega)] at ha
    obtain ⟨v, h1, h2⟩ := h'.2 _ a ha
    exact ⟨v, by rw [List.getElem?_append_right (by rw [h.1]; omega), h.1]; exact h1, h2⟩⟩
theorem TupL.one {t : Addr} {a : α} (h : G t = some (.tup (f a))) : TupL f G [.ref t] [a] := TupL.add .nil h
theorem TupL.take (h : TupL f G vs as) (m : Nat) : TupL f G (vs.take m) (as.take m) := ⟨by simp [h.1], fun i a ha => by
  have h1 : i < m := by
    have := (List.getElem?_eq_some_iff.mp ha).1
    rw [List.length_take] at this; omega
  rw [List.getElem?_take, if_pos h1] at ha
  obtain ⟨v, h2, h3⟩ := h.2 i a ha
  exact ⟨v, by rw [List.getElem?_take, if_pos h1]; exact h2, h3⟩⟩
theorem TupL.drop (h : TupL f G vs as) (m : Nat) : TupL f G (vs.drop m) (as.drop m) := ⟨by simp [h.1], fun i a ha => by
  rw [List.getElem?_drop] at ha
  obtain ⟨v, h2, h3⟩ := h.2 _ a ha
  exact ⟨v, by rw [List.getElem?_drop]; exact h2, h3⟩⟩
end
end Lv

namespace X
open PySem PySem.Spec PyProof.Rows L2 Lv
def top (i : Nat) : Stmt := PySem.Challenge.pw_neverleapt_k09_whole_events_parted.main.body.getD i (.Pass ⟨0, 0, 0, 0⟩)
abbrev s_is_integer : Stmt := top 7
abbrev s_is_within : Stmt := top 8
abbrev s_is_event : Stmt := top 14
abbrev s_step_at : Stmt := top 17
abbrev s_is_event_of : Stmt := top 18
abbrev s_check_event : Stmt := top 19
abbrev s_is_run_there : Stmt := top 20
abbrev s_check_run : Stmt := top 21
abbrev s_boards_of : Stmt := top 22
abbrev s_is_run : Stmt := top 23
abbrev s_boards : Stmt := top 24
abbrev s_parted : Stmt := top 26
abbrev s_l_pot : Stmt := top 28
abbrev s_l_draw : Stmt := top 29
abbrev s_l_any : Stmt := top 30
abbrev s_l_parts : Stmt := top 31
abbrev s_l_out : Stmt := top 32
abbrev s_l_walk : Stmt := top 33
abbrev s_l_twice : Stmt := top 34
abbrev s_law : Stmt := top 35
abbrev s_BadMachine_init : Stmt := inClass (top 2) 0
abbrev s_Machine_init : Stmt := inClass (top 15) 0
abbrev s_Machine_keep : Stmt := inClass (top 15) 1
abbrev s_Machine_eq : Stmt := inClass (top 15) 2
abbrev s_RawMachine_init : Stmt := inClass (top 16) 0
def dd0 : He.DefD := ⟨("is_integer", none), "is_integer", "is_integer", defArgs s_is_integer, defBody s_is_integer, defScope s_is_integer, [], []⟩
def dd1 : He.DefD := ⟨("is_within", none), "is_within", "is_within", defArgs s_is_within, defBody s_is_within, defScope s_is_within, [], []⟩
def dd2 : He.DefD := ⟨("is_event", none), "is_event", "is_event", defArgs s_is_event, defBody s_is_event, defScope s_is_event, [], []⟩
def dd3 : He.DefD := ⟨("step_at", none), "step_at", "step_at", defArgs s_step_at, defBody s_step_at, defScope s_step_at, [], []⟩
def dd4 : He.DefD := ⟨("is_event_of", none), "is_event_of", "is_event_of", defArgs s_is_event_of, defBody s_is_event_of, defScope s_is_event_of, [], []⟩
def dd5 : He.DefD := ⟨("check_event", none), "check_event", "check_event", defArgs s_check_event, defBody s_check_event, defScope s_check_event, [], []⟩
def dd6 : He.DefD := ⟨("is_run_there", none), "is_run_there", "is_run_there", defArgs s_is_run_there, defBody s_is_run_there, defScope s_is_run_there, [], []⟩
def dd7 : He.DefD := ⟨("check_run", none), "check_run", "check_run", defArgs s_check_run, defBody s_check_run, defScope s_check_run, [], []⟩
def dd8 : He.DefD := ⟨("boards_of", none), "boards_of", "boards_of", defArgs s_boards_of, defBody s_boards_of, defScope s_boards_of, [], []⟩
def dd9 : He.DefD := ⟨("is_run", none), "is_run", "is_run", defArgs s_is_run, defBody s_is_run, defScope s_is_run, [], []⟩
def dd10 : He.DefD := ⟨("boards", none), "boards", "boards", defArgs s_boards, defBody s_boards, defScope s_boards, [], []⟩
def dd11 : He.DefD := ⟨("parted", none), "parted", "parted", defArgs s_parted, defBody s_parted, defScope s_parted, [], []⟩
def dd12 : He.DefD := ⟨("_law_pot", none), "_law_pot", "_law_pot", defArgs s_l_pot, defBody s_l_pot, defScope s_l_pot, [], []⟩
def dd13 : He.DefD := ⟨("_law_draw", none), "_law_draw", "_law_draw", defArgs s_l_draw, defBody s_l_draw, defScope s_l_draw, [], []⟩
def dd14 : He.DefD := ⟨("_law_any", none), "_law_any", "_law_any", defArgs s_l_any, defBody s_l_any, defScope s_l_any, [], []⟩
def dd15 : He.DefD := ⟨("_law_parts", none), "_law_parts", "_law_parts", defArgs s_l_parts, defBody s_l_parts, defScope s_l_parts, [], []⟩
def dd16 : He.DefD := ⟨("_law_out", none), "_law_out", "_law_out", defArgs s_l_out, defBody s_l_out, defScope s_l_out, [], []⟩
def dd17 : He.DefD := ⟨("_law_walk", none), "_law_walk", "_law_walk", defArgs s_l_walk, defBody s_l_walk, defScope s_l_walk, [], []⟩
def dd18 : He.DefD := ⟨("_law_twice", none), "_law_twice", "_law_twice", defArgs s_l_twice, defBody s_l_twice, defScope s_l_twice, [], []⟩
def dd19 : He.DefD := ⟨("law", none), "law", "law", defArgs s_law, defBody s_law, defScope s_law, [], []⟩
def dd20 : He.DefD := ⟨("Machine", some "__init__"), "__init__", "Machine.__init__", defArgs s_Machine_init, defBody s_Machine_init, defScope s_Machine_init, [], []⟩
def dd21 : He.DefD := ⟨("Machine", some "keep"), "keep", "Machine.keep", defArgs s_Machine_keep, defBody s_Machine_keep, defScope s_Machine_keep, [], []⟩
def dd22 : He.DefD := ⟨("Machine", some "__eq__"), "__eq__", "Machine.__eq__", defArgs s_Machine_eq, defBody s_Machine_eq, defScope s_Machine_eq, [], []⟩
def dd23 : He.DefD := ⟨("RawMachine", some "__init__"), "__init__", "RawMachine.__init__", defArgs s_RawMachine_init, defBody s_RawMachine_init, defScope s_RawMachine_init, [], []⟩
def fn : List He.DefD := [dd0, dd1, dd2, dd3, dd4, dd5, dd6, dd7, dd8, dd9, dd10, dd11, dd12, dd13, dd14, dd15, dd16, dd17, dd18, dd19, dd20, dd21, dd22, dd23]
def fa0 : List He.Fa := [.glo "is_integer", .glo "is_within", .glo "is_event", .glo "step_at", .glo "is_event_of", .glo "check_event", .glo "is_run_there", .glo "check_run", .glo "boards_of", .glo "is_run", .glo "boards", .glo "parted", .glo "_law_pot", .glo "_law_draw", .glo "_law_any", .glo "_law_parts", .glo "_law_out", .glo "_law_walk", .glo "_law_twice", .glo "law", .glo "LeapError", .glo "BadMachine", .glo "NoRun", .glo "NoEvent", .glo "NoPart", .glo "Machine", .glo "RawMachine", .int "MOST_STANDINGS" (12), .int "MOST_EVENTS" (30), .int "MOST_TRIES" (40)]
def fa1 : List He.Fa := [.int "MOST_POINTS" (400), .free "int", .free "abs", .free "len", .free "sum", .free "isinstance", .free "range", .free "enumerate", .free "tuple", .free "all", .free "bool", .free "super", .cls "Machine", .noat "Machine" "events", .noat "Machine" "kept_out", .noat "Machine" "standings", .mkr "Machine", .meth "Machine" "keep", .cls "RawMachine", .noat "RawMachine" "events", .noat "RawMachine" "kept_out", .noat "RawMachine" "standings", .meth "RawMachine" "keep", .mkr "RawMachine"]
def fa : List He.Fa := fa0 ++ fa1
def ex (K : PySem.W.Frag) : Bool := (Lv.ownB K "Machine" "Machine") && (Lv.eqB K "Machine" "Machine") && (Lv.ownB K "RawMachine" "Machine") && (Lv.eqB K "RawMachine" "Machine") && (Lv.maB K "RawMachine" "Machine" "keep")
def loose0 : List Str := ["LeapError", "BadMachine", "NoRun", "NoEvent", "NoPart", "is_integer", "is_within", "MOST_STANDINGS", "MOST_EVENTS", "MOST_TRIES", "MOST_POINTS", "is_event", "Machine", "RawMachine", "step_at", "is_event_of", "check_event", "is_run_there", "check_run", "boards_of", "is_run", "boards", "parted", "_law_pot", "_law_draw", "_law_any", "_law_parts", "_law_out", "_law_walk", "_law_twice"]
def loose : List Str := loose0
abbrev R : PySem.W.OpenRow := PySem.W.OpenLaw.row PySem.Challenge.rw_neverleapt_k09_whole_events_parted
abbrev hk : PySem.W.Hook := He.hookX 5 fa fn [] [] ex
def ob (s : PySem.W.SharedT) : He.AlX := He.obsX 5 fa fn [] [] ex (HandSHeadRun.getT s)
theorem ob_eq (s : PySem.W.SharedT) : ob s = hk.obs s.abs := He.obsX_eq (HandSHeadRun.getT_eq s)
theorem run (w : World) : HandSHeadRun.RunEq R (PySem.W.view R.prog [35]) hk ob 20000 loose w := by
  intro os
  kernel_rfl
structure Txt (K : PySem.W.Frag) (mg : Str → Option Value) : Prop where
  g_is_integer : mg "is_integer" = some (.ref (He.ga K "is_integer"))
  g_is_within : mg "is_within" = some (.ref (He.ga K "is_within"))
  g_is_event : mg "is_event" = some (.ref (He.ga K "is_event"))
  g_step_at : mg "step_at" = some (.ref (He.ga K "step_at"))
  g_is_event_of : mg "is_event_of" = some (.ref (He.ga K "is_event_of"))
  g_check_event : mg "check_event" = some (.ref (He.ga K "check_event"))
  g_is_run_there : mg "is_run_there" = some (.ref (He.ga K "is_run_there"))
  g_check_run : mg "check_run" = some (.ref (He.ga K "check_run"))
  g_boards_of : mg "boards_of" = some (.ref (He.ga K "boards_of"))
  g_is_run : mg "is_run" = some (.ref (He.ga K "is_run"))
  g_boards : mg "boards" = some (.ref (He.ga K "boards"))
  g_parted : mg "parted" = some (.ref (He.ga K "parted"))
  g_l_pot : mg "_law_pot" = some (.ref (He.ga K "_law_pot"))
  g_l_draw : mg "_law_draw" = some (.ref (He.ga K "_law_draw"))
  g_l_any : mg "_law_any" = some (.ref (He.ga K "_law_any"))
  g_l_parts : mg "_law_parts" = some (.ref (He.ga K "_law_parts"))
  g_l_out : mg "_law_out" = some (.ref (He.ga K "_law_out"))
  g_l_walk : mg "_law_walk" = some (.ref (He.ga K "_law_walk"))
  g_l_twice : mg "_law_twice" = some (.ref (He.ga K "_law_twice"))
  g_law : mg "law" = some (.ref (He.ga K "law"))
  g_LeapError : mg "LeapError" = some (.ref (He.ga K "LeapError"))
  g_BadMachine : mg "BadMachine" = some (.ref (He.ga K "BadMachine"))
  g_NoRun : mg "NoRun" = some (.ref (He.ga K "NoRun"))
  g_NoEvent : mg "NoEvent" = some (.ref (He.ga K "NoEvent"))
  g_NoPart : mg "NoPart" = some (.ref (He.ga K "NoPart"))
  g_Machine : mg "Machine" = some (.ref (He.ga K "Machine"))
  g_RawMachine : mg "RawMachine" = some (.ref (He.ga K "RawMachine"))
  i_MOST_STANDINGS : ∃ t, mg "MOST_STANDINGS" = some (.int (12) t)
  i_MOST_EVENTS : ∃ t, mg "MOST_EVENTS" = some (.int (30) t)
  i_MOST_TRIES : ∃ t, mg "MOST_TRIES" = some (.int (40) t)
  i_MOST_POINTS : ∃ t, mg "MOST_POINTS" = some (.int (400) t)
  n_int : mg "int" = none
  n_abs : mg "abs" = none
  n_len : mg "len" = none
  n_sum : mg "sum" = none
  n_isinstance : mg "isinstance" = none
  n_range : mg "range" = none
  n_enumerate : mg "enumerate" = none
  n_tuple : mg "tuple" = none
  n_all : mg "all" = none
  n_bool : mg "bool" = none
  n_super : mg "super" = none
  c_Machine : Cls K (He.ga K "Machine")
  na_Machine_events : NoAttr K (He.ga K "Machine") "events"
  na_Machine_kept_out : NoAttr K (He.ga K "Machine") "kept_out"
  na_Machine_standings : NoAttr K (He.ga K "Machine") "standings"
  mk_Machine : Mk K (He.ga K "Machine") (He.ma K (He.ga K "Machine") "__init__")
  me_Machine_keep : Meth K (He.ga K "Machine") "keep" (He.ma K (He.ga K "Machine") "keep")
  c_RawMachine : Cls K (He.ga K "RawMachine")
  na_RawMachine_events : NoAttr K (He.ga K "RawMachine") "events"
  na_RawMachine_kept_out : NoAttr K (He.ga K "RawMachine") "kept_out"
  na_RawMachine_standings : NoAttr K (He.ga K "RawMachine") "standings"
  me_RawMachine_keep : Meth K (He.ga K "RawMachine") "keep" (He.ma K (He.ga K "RawMachine") "keep")
  mk_RawMachine : Mk K (He.ga K "RawMachine") (He.ma K (He.ga K "RawMachine") "__init__")
  d_is_integer : ∃ fd, FunD K "is_integer" "is_integer" (defArgs s_is_integer) (defBody s_is_integer) (defScope s_is_integer) [] [] (He.ga K "is_integer") fd
  d_is_within : ∃ fd, FunD K "is_within" "is_within" (defArgs s_is_within) (defBody s_is_within) (defScope s_is_within) [] [] (He.ga K "is_within") fd
  d_is_event : ∃ fd, FunD K "is_event" "is_event" (defArgs s_is_event) (defBody s_is_event) (defScope s_is_event) [] [] (He.ga K "is_event") fd
  d_step_at : ∃ fd, FunD K "step_at" "step_at" (defArgs s_step_at) (defBody s_step_at) (defScope s_step_at) [] [] (He.ga K "step_at") fd
  d_is_event_of : ∃ fd, FunD K "is_event_of" "is_event_of" (defArgs s_is_event_of) (defBody s_is_event_of) (defScope s_is_event_of) [] [] (He.ga K "is_event_of") fd
  d_check_event : ∃ fd, FunD K "check_event" "check_event" (defArgs s_check_event) (defBody s_check_event) (defScope s_check_event) [] [] (He.ga K "check_event") fd
  d_is_run_there : ∃ fd, FunD K "is_run_there" "is_run_there" (defArgs s_is_run_there) (defBody s_is_run_there) (defScope s_is_run_there) [] [] (He.ga K "is_run_there") fd
  d_check_run : ∃ fd, FunD K "check_run" "check_run" (defArgs s_check_run) (defBody s_check_run) (defScope s_check_run) [] [] (He.ga K "check_run") fd
  d_boards_of : ∃ fd, FunD K "boards_of" "boards_of" (defArgs s_boards_of) (defBody s_boards_of) (defScope s_boards_of) [] [] (He.ga K "boards_of") fd
  d_is_run : ∃ fd, FunD K "is_run" "is_run" (defArgs s_is_run) (defBody s_is_run) (defScope s_is_run) [] [] (He.ga K "is_run") fd
  d_boards : ∃ fd, FunD K "boards" "boards" (defArgs s_boards) (defBody s_boards) (defScope s_boards) [] [] (He.ga K "boards") fd
  d_parted : ∃ fd, FunD K "parted" "parted" (defArgs s_parted) (defBody s_parted) (defScope s_parted) [] [] (He.ga K "parted") fd
  d_l_pot : ∃ fd, FunD K "_law_pot" "_law_pot" (defArgs s_l_pot) (defBody s_l_pot) (defScope s_l_pot) [] [] (He.ga K "_law_pot") fd
  d_l_draw : ∃ fd, FunD K "_law_draw" "_law_draw" (defArgs s_l_draw) (defBody s_l_draw) (defScope s_l_draw) [] [] (He.ga K "_law_draw") fd
  d_l_any : ∃ fd, FunD K "_law_any" "_law_any" (defArgs s_l_any) (defBody s_l_any) (defScope s_l_any) [] [] (He.ga K "_law_any") fd
  d_l_parts : ∃ fd, FunD K "_law_parts" "_law_parts" (defArgs s_l_parts) (defBody s_l_parts) (defScope s_l_parts) [] [] (He.ga K "_law_parts") fd
  d_l_out : ∃ fd, FunD K "_law_out" "_law_out" (defArgs s_l_out) (defBody s_l_out) (defScope s_l_out) [] [] (He.ga K "_law_out") fd
  d_l_walk : ∃ fd, FunD K "_law_walk" "_law_walk" (defArgs s_l_walk) (defBody s_l_walk) (defScope s_l_walk) [] [] (He.ga K "_law_walk") fd
  d_l_twice : ∃ fd, FunD K "_law_twice" "_law_twice" (defArgs s_l_twice) (defBody s_l_twice) (defScope s_l_twice) [] [] (He.ga K "_law_twice") fd
  d_law : ∃ fd, FunD K "law" "law" (defArgs s_law) (defBody s_law) (defScope s_law) [] [] (He.ga K "law") fd
  d_Machine_init : ∃ fd, FunD K "__init__" "Machine.__init__" (defArgs s_Machine_init) (defBody s_Machine_init) (defScope s_Machine_init) [] [] (He.ma K (He.ga K "Machine") "__init__") fd
  d_Machine_keep : ∃ fd, FunD K "keep" "Machine.keep" (defArgs s_Machine_keep) (defBody s_Machine_keep) (defScope s_Machine_keep) [] [] (He.ma K (He.ga K "Machine") "keep") fd
  d_Machine_eq : ∃ fd, FunD K "__eq__" "Machine.__eq__" (defArgs s_Machine_eq) (defBody s_Machine_eq) (defScope s_Machine_eq) [] [] (He.ma K (He.ga K "Machine") "__eq__") fd
  d_RawMachine_init : ∃ fd, FunD K "__init__" "RawMachine.__init__" (defArgs s_RawMachine_init) (defBody s_RawMachine_init) (defScope s_RawMachine_init) [] [] (He.ma K (He.ga K "RawMachine") "__init__") fd
  o_Machine : Lv.OwnC K (He.ga K "Machine") (He.ga K "Machine")
  q_Machine : Lv.OwnE K (He.ga K "Machine") (He.ga K "Machine") (He.ma K (He.ga K "Machine") "__eq__")
  o_RawMachine : Lv.OwnC K (He.ga K "RawMachine") (He.ga K "Machine")
  q_RawMachine : Lv.OwnE K (He.ga K "RawMachine") (He.ga K "Machine") (He.ma K (He.ga K "Machine") "__eq__")
  j_RawMachine_keep : Lv.maB K "RawMachine" "Machine" "keep" = true
theorem txt_of {w : World} {h : Heap} {K : PySem.W.Frag} {mg : Str → Option Value} (X : K.In h) (G : h.Ns mainGlobals mg) (c : He.SaysX fa fn [] [] ex w h K) : Txt K mg := by
  have e0 : ex K = true := c.more
  unfold ex at e0
  simp only [Bool.and_eq_true] at e0
  obtain ⟨⟨⟨⟨b0, b1⟩, b2⟩, b3⟩, b4⟩ := e0
  exact ⟨He.glo_ok X G (c.t.d.fact 0 rfl), He.glo_ok X G (c.t.d.fact 1 rfl), He.glo_ok X G (c.t.d.fact 2 rfl), He.glo_ok X G (c.t.d.fact 3 rfl), He.glo_ok X G (c.t.d.fact 4 rfl), He.glo_ok X G (c.t.d.fact 5 rfl), He.glo_ok X G (c.t.d.fact 6 rfl), He.glo_ok X G (c.t.d.fact 7 rfl), He.glo_ok X G (c.t.d.fact 8 rfl), He.glo_ok X G (c.t.d.fact 9 rfl), He.glo_ok X G (c.t.d.fact 10 rfl), He.glo_ok X G (c.t.d.fact 11 rfl), He.glo_ok X G (c.t.d.fact 12 rfl), He.glo_ok X G (c.t.d.fact 13 rfl), He.glo_ok X G (c.t.d.fact 14 rfl), He.glo_ok X G (c.t.d.fact 15 rfl), He.glo_ok X G (c.t.d.fact 16 rfl), He.glo_ok X G (c.t.d.fact 17 rfl), He.glo_ok X G (c.t.d.fact 18 rfl), He.glo_ok X G (c.t.d.fact 19 rfl), He.glo_ok X G (c.t.d.fact 20 rfl), He.glo_ok X G (c.t.d.fact 21 rfl), He.glo_ok X G (c.t.d.fact 22 rfl), He.glo_ok X G (c.t.d.fact 23 rfl), He.glo_ok X G (c.t.d.fact 24 rfl), He.glo_ok X G (c.t.d.fact 25 rfl), He.glo_ok X G (c.t.d.fact 26 rfl), He.int_ok X G (c.t.d.fact 27 rfl), He.int_ok X G (c.t.d.fact 28 rfl), He.int_ok X G (c.t.d.fact 29 rfl), He.int_ok X G (c.t.d.fact 30 rfl), He.free_ok X G (c.t.d.fact 31 rfl), He.free_ok X G (c.t.d.fact 32 rfl), He.free_ok X G (c.t.d.fact 33 rfl), He.free_ok X G (c.t.d.fact 34 rfl), He.free_ok X G (c.t.d.fact 35 rfl), He.free_ok X G (c.t.d.fact 36 rfl), He.free_ok X G (c.t.d.fact 37 rfl), He.free_ok X G (c.t.d.fact 38 rfl), He.free_ok X G (c.t.d.fact 39 rfl), He.free_ok X G (c.t.d.fact 40 rfl), He.free_ok X G (c.t.d.fact 41 rfl), He.cls_ok (c.t.d.fact 42 rfl), He.noat_ok (c.t.d.fact 43 rfl), He.noat_ok (c.t.d.fact 44 rfl), He.noat_ok (c.t.d.fact 45 rfl), He.mkr_ok (c.t.d.fact 46 rfl), He.meth_ok (c.t.d.fact 47 rfl), He.cls_ok (c.t.d.fact 48 rfl), He.noat_ok (c.t.d.fact 49 rfl), He.noat_ok (c.t.d.fact 50 rfl), He.noat_ok (c.t.d.fact 51 rfl), He.meth_ok (c.t.d.fact 52 rfl), He.mkr_ok (c.t.d.fact 53 rfl), c.t.d.def_ 0 (d := dd0) rfl, c.t.d.def_ 1 (d := dd1) rfl, c.t.d.def_ 2 (d := dd2) rfl, c.t.d.def_ 3 (d := dd3) rfl, c.t.d.def_ 4 (d := dd4) rfl, c.t.d.def_ 5 (d := dd5) rfl, c.t.d.def_ 6 (d := dd6) rfl, c.t.d.def_ 7 (d := dd7) rfl, c.t.d.def_ 8 (d := dd8) rfl, c.t.d.def_ 9 (d := dd9) rfl, c.t.d.def_ 10 (d := dd10) rfl, c.t.d.def_ 11 (d := dd11) rfl, c.t.d.def_ 12 (d := dd12) rfl, c.t.d.def_ 13 (d := dd13) rfl, c.t.d.def_ 14 (d := dd14) rfl, c.t.d.def_ 15 (d := dd15) rfl, c.t.d.def_ 16 (d := dd16) rfl, c.t.d.def_ 17 (d := dd17) rfl, c.t.d.def_ 18 (d := dd18) rfl, c.t.d.def_ 19 (d := dd19) rfl, c.t.d.def_ 20 (d := dd20) rfl, c.t.d.def_ 21 (d := dd21) rfl, c.t.d.def_ 22 (d := dd22) rfl, c.t.d.def_ 23 (d := dd23) rfl, Lv.ownB_ok b0, Lv.eqB_ok b1, Lv.ownB_ok b2, Lv.eqB_ok b3, b4⟩
end X

namespace X
open PySem PySem.Spec PyProof.Rows L2 Lv
variable {P : Program} {w : World} {K : PySem.W.Frag} {mg : Str → Option Value} {base : Heap}
def sp_is_integer (K : PySem.W.Frag) : Sp := fun vs H Q _ => ∃ n : Int, vs = [.int n] ∧ Q (.bl true) H
theorem sc_is_integer : FnScope ["thing"] ["thing"] (defScope s_is_integer) := ⟨rfl, rfl, rfl, by decide +kernel, rfl, by decide +kernel, by decide +kernel⟩
theorem ok_is_integer (T : Txt K mg) : ∃ fd, Dn P w K mg base (L2.CX P w) 1 "is_integer" ["thing"] (sp_is_integer K) fd := by
  obtain ⟨fd, F⟩ := T.d_is_integer
  refine ⟨fd, F.ok sc_is_integer (fun vs H Q E h => ?_) (fun cdv A outer s H vs Q E hr h => ?_), T.g_is_integer, F.kp, F.bindsN fun _ _ _ _ _ _ us hl => match us, hl with | [_], _ => rfl, Lv.fun_lk F⟩
  · obtain ⟨_, rfl, _⟩ := h
    rfl
  · have hu := hu_of hr
    refine ⟨_, PSs.nox (pss_one (ps_ret (pe_and (pe_callB call_isi (by rfl) T.n_isinstance (by decide +kernel) (pa_cons (pv 0) (pa_cons (pe_bltn (v := .ty "int") (by rfl) T.n_int (by decide +kernel) rfl) pa_nil))) (pe_one (pe_not (pe_callB call_isi (by rfl) T.n_isinstance (by decide +kernel) (pa_cons (pv 0) (pa_cons (pe_bltn (v := .ty "bool") (by rfl) T.n_bool (by decide +kernel) rfl) pa_nil)))))))), ?_⟩
    obtain ⟨n, rfl, k⟩ := h
    exact ⟨_, rfl, _, _, _, _, true, rfl, .ty _, .base (.int n), kit_ty (by decide +kernel), true, rfl, (if_pos rfl).mpr ⟨_, rfl, _, _, _, _, false, rfl, .ty _, .base (.int n), kit_ty (by decide +kernel), false, rfl, k⟩⟩
def sp_is_within (K : PySem.W.Frag) : Sp := fun vs H Q _ => ∃ n a b : Int, vs = [.int n, .int a, .int b] ∧ Q (.bl (decide (a ≤ n ∧ n ≤ b))) H
theorem sc_is_within : FnScope ["thing", "least", "most"] ["thing", "least", "most"] (defScope s_is_within) := ⟨rfl, rfl, rfl, by decide +kernel, rfl, by decide +kernel, by decide +kernel⟩
theorem ok_is_within (T : Txt K mg) {fd_is_integer : FuncData} (G_is_integer : Dn P w K mg base (L2.CX P w) 1 "is_integer" ["thing"] (sp_is_integer K) fd_is_integer) : ∃ fd, Dn P w K mg base (L2.CX P w) 2 "is_within" ["thing", "least", "most"] (sp_is_within K) fd := by
  obtain ⟨fd, F⟩ := T.d_is_within
  refine ⟨fd, F.ok sc_is_within (fun vs H Q E h => ?_) (fun cdv A outer s H vs Q E hr h => ?_), T.g_is_within, F.kp, F.bindsN fun _ _ _ _ _ _ us hl => match us, hl with | [_, _, _], _ => rfl, Lv.fun_lk F⟩
  · obtain ⟨_, _, _, rfl, _⟩ := h
    rfl
  · have hu := hu_of hr
    have hr_is_integer : Room 1 _ := hr.mono (by decide)
    refine ⟨_, PSs.nox (pss_one (ps_ret (pe_and (pe_call G_is_integer.ok hr_is_integer rfl G_is_integer.mg G_is_integer.kp G_is_integer.b .nil passL (pa_cons (pv 0) pa_nil)) (pe_one (pe_chain op_le op_le (pv 1) (pv 0) (pv 2)))))), ?_⟩
    obtain ⟨n, a, b, rfl, k⟩ := h
    refine ⟨_, rfl, n, rfl, true, rfl, (if_pos rfl).mpr ?_⟩
    refine ⟨_, rfl, _, rfl, a, n, rfl, rfl, _, rfl, ?_⟩
    by_cases h1 : a ≤ n
    · refine (if_pos (decide_eq_true h1)).mpr ⟨_, rfl, n, b, rfl, rfl, ?_⟩
      have e : decide (a ≤ n ∧ n ≤ b) = decide (n ≤ b) := by simp [h1]
      rw [e] at k
      exact k
    · refine (if_neg (by simp [h1])).mpr ?_
      have e : decide (a ≤ n ∧ n ≤ b) = false := by simp [h1]
      rw [e] at k
      exact k
def sp_is_from (K : PySem.W.Frag) : Sp := fun vs H Q _ => ∃ n a : Int, vs = [.int n, .int a] ∧ Q (.bl (decide (a ≤ n))) H
def sp_is_pair (K : PySem.W.Frag) : Sp := fun vs H Q _ => ∃ (p : Addr) (x y : V), vs = [.ref p] ∧ H p = some (.tup [x, y]) ∧ Q (.bl true) H
def sp_common_divisor (K : PySem.W.Frag) : Sp := fun vs H Q _ => ∃ (a b : Int), vs = [.int a, .int b] ∧ Q (.int (Int.gcd a b : Nat)) H
def sp_is_share (K : PySem.W.Frag) : Sp := fun vs H Q _ => ∃ (p : Addr) (a b : Int), vs = [.ref p] ∧ H p = some (.tup [.int a, .int b]) ∧ 1 ≤ b ∧ Int.gcd a b = 1 ∧ Q (.bl true) H
def sp_check_share (K : PySem.W.Frag) : Sp := fun vs H Q _ => ∃ (p : Addr) (a b : Int), vs = [.ref p] ∧ H p = some (.tup [.int a, .int b]) ∧ 1 ≤ b ∧ Int.gcd a b = 1 ∧ Q .non H
end X

namespace X
open PySem PySem.Spec PyProof.Rows L2 Lv
variable {P : Program} {w : World} {K : PySem.W.Frag} {mg : Str → Option Value} {base : Heap}
def sp_lowest (K : PySem.W.Frag) : Sp := fun vs H Q _ => ∃ (a b : Int), vs = [.int a, .int b] ∧ 0 < b ∧ b.natAbs < 2 ^ 199 ∧ ∀ p, H p = none → Q (.ref p) (upd H p (.tup [.int (a / (Int.gcd a b : Nat)), .int (b / (Int.gcd a b : Nat))]))
end X

namespace X
open PySem PySem.Spec PyProof.Rows L2 Lv
variable {P : Program} {w : World} {K : PySem.W.Frag} {mg : Str → Option Value} {base : Heap}
def sp_l_gcd (K : PySem.W.Frag) : Sp := fun vs H Q _ => ∃ (a b : Int), vs = [.int a, .int b] ∧ a.natAbs * b.natAbs < 2 ^ 399 ∧ Q (.int (Int.gcd a b : Nat)) H
def sp_l_low (K : PySem.W.Frag) : Sp := fun vs H Q _ => ∃ (a b : Int), vs = [.int a, .int b] ∧ 0 < b ∧ a.natAbs < 2 ^ 199 ∧ b.natAbs < 2 ^ 199 ∧ ∀ p, H p = none → Q (.ref p) (upd H p (.tup [.int (a / (Int.gcd a b : Nat)), .int (b / (Int.gcd a b : Nat))]))
end X

namespace X
open PySem PySem.Spec PyProof.Rows L2 Lv
variable {P : Program} {w : World} {K : PySem.W.Frag} {mg : Str → Option Value} {base : Heap}
def sp_is_event (K : PySem.W.Frag) : Sp := fun vs H Q _ => ∃ (t : Addr) (n : Int) (e : Ev), vs = [.ref t, .int n] ∧ H t = some (.tup (evV e)) ∧ EvOk n e ∧ Q (.bl true) H
theorem sc_is_event : FnScope ["thing", "standings"] ["thing", "standings"] (defScope s_is_event) := ⟨rfl, rfl, rfl, by decide +kernel, rfl, by decide +kernel, by decide +kernel⟩
theorem ok_is_event (T : Txt K mg) {fd_is_within : FuncData} (G_is_within : Dn P w K mg base (L2.CX P w) 2 "is_within" ["thing", "least", "most"] (sp_is_within K) fd_is_within) : ∃ fd, Dn P w K mg base (L2.CX P w) 3 "is_event" ["thing", "standings"] (sp_is_event K) fd := by
  obtain ⟨fd, F⟩ := T.d_is_event
  refine ⟨fd, F.ok sc_is_event (fun vs H Q E h => ?_) (fun cdv A outer s H vs Q E hr h => ?_), T.g_is_event, F.kp, F.bindsN fun _ _ _ _ _ _ us hl => match us, hl with | [_, _], _ => rfl, Lv.fun_lk F⟩
  · obtain ⟨_, _, _, rfl, _⟩ := h
    rfl
  · have hu := hu_of hr
    have hr_is_within : Room 2 _ := hr.mono (by decide)
    refine ⟨_, PSs.nox (pss_cons (ps_if (PW.pt (pw_or (pt_not (pt_val (pe_callB call_isi (by rfl) T.n_isinstance (by decide +kernel) (pa_cons (pv 0) (pa_cons (pe_bltn (v := .ty "tuple") (by rfl) T.n_tuple (by decide +kernel) rfl) pa_nil))))) (pw_or1 (pt_cmpR op_ne (pe_callB call_len (by rfl) T.n_len PySem.boot_len (pa_cons (pv 0) pa_nil)) pe_int (nomark _))))) (pss_one (ps_ret pe_bl)) pss_nil)
      (pss_cons (ps_if (PW.pt (pw_or (pt_not (pt_val (pe_call G_is_within.ok hr_is_within rfl G_is_within.mg G_is_within.kp G_is_within.b .nil passL (pa_cons (pe_ix ix_tup (pv 0) pe_int (fun _ _ => rfl)) (pa_cons pe_int (pa_cons (pe_op op_sub (pv 1) pe_int) pa_nil)))))) (pw_or1 (pt_not (pt_val (pe_call G_is_within.ok hr_is_within rfl G_is_within.mg G_is_within.kp G_is_within.b .nil passL (pa_cons (pe_ix ix_tup (pv 0) pe_int (fun _ _ => rfl)) (pa_cons pe_int (pa_cons (pe_op op_sub (pv 1) pe_int) pa_nil))))))))) (pss_one (ps_ret pe_bl)) pss_nil)
      (pss_one (ps_ret (pe_and (pe_call G_is_within.ok hr_is_within rfl G_is_within.mg G_is_within.kp G_is_within.b .nil passL (pa_cons (pe_ix ix_tup (pv 0) pe_int (fun _ _ => rfl)) (pa_cons pe_int (pa_cons (pe_glob (v := .int (40)) rfl T.i_MOST_TRIES.choose_spec ⟨_, rfl⟩) pa_nil)))) (pe_one (pe_call G_is_within.ok hr_is_within rfl G_is_within.mg G_is_within.kp G_is_within.b .nil passL (pa_cons (pe_ix ix_tup (pv 0) pe_int (fun _ _ => rfl)) (pa_cons (pe_un un_neg (pe_glob (v := .int (400)) rfl T.i_MOST_POINTS.choose_spec ⟨_, rfl⟩)) (pa_cons (pe_glob (v := .int (400)) rfl T.i_MOST_POINTS.choose_spec ⟨_, rfl⟩) pa_nil)))))))))), ?_⟩
    obtain ⟨t, n, e, rfl, ht, he, k⟩ := h
    obtain ⟨h1, h2, h3, h4, h5, h6, h7, h8⟩ := he
    refine ⟨_, rfl, _, _, _, _, true, rfl, .ty _, .base (.tup ht), kit_ty (by decide +kernel), true, rfl, iteF ?_⟩
    refine ⟨_, rfl, _, _, rfl, .inr ⟨_, sqT ht, rfl⟩, rfl, false, rfl, iteF ?_⟩
    refine ⟨_, rfl, t, _, 0, _, rfl, rfl, sqT ht, rfl, _, rfl, _, _, rfl, rfl, e.b, 0, n - 1, rfl, true, by rw [decide_eq_true ⟨h1, by omega⟩], iteF ?_⟩
    refine ⟨_, rfl, t, _, 1, _, rfl, rfl, sqT ht, rfl, _, rfl, _, _, rfl, rfl, e.a, 0, n - 1, rfl, true, by rw [decide_eq_true ⟨h3, by omega⟩], iteF ?_⟩
    refine ⟨_, rfl, t, _, 2, _, rfl, rfl, sqT ht, rfl, e.w, 1, 40, rfl, true, by rw [decide_eq_true ⟨h5, h6⟩], iteT ?_⟩
    exact ⟨_, rfl, t, _, 3, _, rfl, rfl, sqT ht, rfl, _, rfl, e.x, -400, 400, rfl, qT (Q := Q) (decide_eq_true ⟨h7, h8⟩) k⟩
theorem mc_M (T : Txt K mg) : MC K (He.ga K "Machine") := ⟨T.c_Machine, T.na_Machine_standings, T.na_Machine_events, T.na_Machine_kept_out, T.o_Machine, T.q_Machine⟩
theorem sc_Machine_keep : FnScope ["self", "standings", "events", "number", "event", "standing"] ["self", "standings", "events"] (defScope s_Machine_keep) := ⟨rfl, rfl, rfl, by decide +kernel, rfl, by decide +kernel, by decide +kernel⟩
theorem ok_Machine_keep (T : Txt K mg) : ∃ fd, Dm P w K mg base (L2.CX P w) 1 "Machine" "keep" ["self", "standings", "events"] (spKeepM K) fd := by
  obtain ⟨fd, F⟩ := T.d_Machine_keep
  refine ⟨fd, F.ok sc_Machine_keep (fun vs H Q E h => ?_) (fun cdv A outer s H vs Q E hr h => ?_), F.bindsN fun _ _ _ _ _ _ us hl => match us, hl with | [_, _, _], _ => rfl, Lv.fun_lk F⟩
  · obtain ⟨_, _, _, _, _, _, _, _, _, rfl, _⟩ := h
    rfl
  · have hu := hu_of hr
    refine ⟨_, PSs.nox (pss_cons (ps_fld (pv 0) (pv 1) rfl)
      (pss_cons (ps_fld (pv 0) (pv 2) rfl)
      (pss_cons (ps_fld (pv 0) (pe_lc (own := [("standing", 5)]) (g := gName 5) (tt := tYes) rfl sc_Machine_keep.nd (pi_range1 (by rfl) T.n_range (pa_cons (pv 1) pa_nil)) (blkOk_by (N := ["self", "standings", "events", "number", "event", "standing"]) (sc := defScope s_Machine_keep) (by decide +kernel)) (fun _ _ _ _ _ => (pg_name (i := 5) sc_Machine_keep.nd rfl (Or.inl rfl) (hf := Or.inr rfl))) (fun _ _ _ _ _ => pts_nil) (fun _ _ _ _ _ => (pe_lst pa_nil))) rfl)
      (pss_one (ps_for PassesOwn.never rfl (pi_enumT (by rfl) T.n_enumerate (pa_cons (pv 2) pa_nil)) (pg_tup rfl (pgs_cons (pg_name (i := 3) sc_Machine_keep.nd rfl (Or.inl rfl)) (pgs_cons (pg_name (i := 4) sc_Machine_keep.nd rfl (Or.inl rfl)) pgs_nil))) (pss_one (ps_expr (pe_bm PySem.F.plainAttrs_list PySem.F.slot_list_append PySem.F.type_list_append mt_append (pe_ix ix_list (pe_fld (pv 0) rfl) (pe_ix ix_tup (pv 4) pe_int (fun _ _ => rfl)) (fun _ _ => rfl)) (pa_cons (pv 3) pa_nil))))))))), ?_⟩
    obtain ⟨C, hC, x, t, n, dx, es, G, P0, rfl, j, hx, hE, h1, h2, h3, hb, k⟩ := h
    obtain ⟨vs, ht, hv⟩ := hE
    have ntx : t ≠ x := ne_of ht hx (by intro z; cases z)
    refine ⟨_, rfl, _, rfl, x, _, dx, _, rfl, j.g _ _ hx, hC.c, hC.ns, (by show 0 < 1000; decide), ?_⟩
    have j1 := j.setG (o := .ins C dx [("standings", .int n)]) (j.gp hx)
    refine ⟨_, rfl, _, rfl, x, _, dx, _, rfl, upd_same, hC.c, hC.ne, (by show 1 < 1000; decide), ?_⟩
    have j2 := j1.setG (o := .ins C dx (putF "events" (.ref t) (putF "standings" (.int n) []))) (j1.gp upd_same)
    have hx2 : (upd (upd G x (.ins C dx [("standings", .int n)])) x (.ins C dx (putF "events" (.ref t) (putF "standings" (.int n) [])))) x = some (.ins C dx [("standings", .int n), ("events", .ref t)]) := by
      rw [upd_same, mf1, mf2]
    have b2 : But x G (upd (upd G x (.ins C dx [("standings", .int n)])) x (.ins C dx (putF "events" (.ref t) (putF "standings" (.int n) [])))) := fun b o e nb => by
      rw [upd_ne nb, upd_ne nb]; exact e
    have e2 : upd (upd H x (.ins C dx (putF "standings" (.int n) []))) x (.ins C dx (putF "events" (.ref t) (putF "standings" (.int n) []))) = upd (upd H x (.ins C dx [("standings", .int n)])) x (.ins C dx (putF "events" (.ref t) (putF "standings" (.int n) []))) := rfl
    generalize (upd (upd G x (.ins C dx [("standings", .int n)])) x (.ins C dx (putF "events" (.ref t) (putF "standings" (.int n) [])))) = G2 at j2 hx2 b2
    rw [← e2] at j2
    generalize (upd (upd H x (.ins C dx (putF "standings" (.int n) []))) x (.ins C dx (putF "events" (.ref t) (putF "standings" (.int n) [])))) = H2 at j2 ⊢
    clear e2 j1
    refine ⟨_, rfl, n, rfl, by omega, by omega, fun D hD => ?_⟩
    have gD := j2.ng hD
    have pD := j2.np hD
    refine lc_range (lo := 0) (n := n.toNat) (fun i H' => ∃ (G' : Hp) (ks : List V), Join G' P0 H' ∧ Ex G2 G' ∧ G' D = some (.lst ks) ∧ ks.length = i ∧ (∀ a : Nat, a < i → ∃ k : Addr, ks[a]? = some (.ref k) ∧ G' k = some (.lst []) ∧ G2 k = none ∧ k ≠ D) ∧ (∀ (a b : Nat) (k : Addr), ks[a]? = some (.ref k) → ks[b]? = some (.ref k) → a = b))
      ⟨_, [], j2.newG hD, Ex.new gD, upd_same, rfl, fun a ha => absurd ha (Nat.not_lt_zero _), fun a b k ha => by simp at ha⟩ ?_ ?_
    · rintro i H' hi ⟨G', ks, j', e', hd, hl, hk, hu'⟩
      refine ⟨rfl, iteT (B := True) ⟨Nat.zero_le _, fun q hq => ?_⟩⟩
      have nqD : D ≠ q := ne_of_none (j'.g _ _ hd) hq
      have gq := j'.ng hq
      refine ⟨ks, Eq.trans (upd_ne nqD) (j'.g _ _ hd), szlt (by omega), ?_⟩
      have j3 := (j'.newG (o := .lst []) hq).setG (o := .lst (ks ++ [.ref q])) pD
      have old : ∀ (a : Nat) (k : Addr), ks[a]? = some (.ref k) → k ≠ q := fun a k ha => by
        obtain ⟨k', q1, q2, _⟩ := hk a (by rw [← hl]; exact (List.getElem?_eq_some_iff.mp ha).1)
        rw [ha] at q1
        injection q1 with q1
        injection q1 with q1
        subst q1
        exact ne_of_none q2 gq
      refine ⟨_, _, j3, fun b o eb => ?_, upd_same, by simp [hl], fun a ha => ?_, fun a b k ha hb' => ?_⟩
      · have nbD : b ≠ D := ne_of_none eb gD
        rw [upd_ne nbD, upd_ne (ne_of_none (e' _ _ eb) gq)]
        exact e' _ _ eb
      · by_cases hai : a < i
        · obtain ⟨k, q1, q2, q3, q4⟩ := hk a hai
          refine ⟨k, by rw [List.getElem?_append_left (by omega)]; exact q1, ?_, q3, q4⟩
          rw [upd_ne q4, upd_ne (ne_of_none q2 gq)]; exact q2
        · have ea : a = ks.length := by omega
          subst ea
          exact ⟨q, by simp, by rw [upd_ne nqD.symm, upd_same], e'.back gq, nqD.symm⟩
      · by_cases ha1 : a < ks.length
        · rw [List.getElem?_append_left ha1] at ha
          by_cases hb1 : b < ks.length
          · rw [List.getElem?_append_left hb1] at hb'
            exact hu' a b k ha hb'
          · exfalso
            have := (List.getElem?_eq_some_iff.mp hb').1
            simp at this
            have eb : b = ks.length := by omega
            subst eb
            simp at hb'
            exact old a k ha hb'.symm
        · have := (List.getElem?_eq_some_iff.mp ha).1
          simp at this
          have ea : a = ks.length := by omega
          subst ea
          simp at ha
          by_cases hb1 : b < ks.length
          · exfalso
            rw [List.getElem?_append_left hb1] at hb'
            exact old b k hb' ha.symm
          · have := (List.getElem?_eq_some_iff.mp hb').1
            simp at this
            omega
    · rintro H3 ⟨G3, ks, j3, e3, hd, hl, hk, hu'⟩
      have hx3 := e3 _ _ hx2
      refine ⟨_, rfl, x, _, dx, _, rfl, j3.g _ _ hx3, hC.c, hC.nk, (by show 2 < 1000; decide), ?_⟩
      have j4 := j3.setG (o := .ins C dx (putF "kept_out" (.ref D) [("standings", .int n), ("events", .ref t)])) (j3.gp hx3)
      have hx4 : (upd G3 x (.ins C dx (putF "kept_out" (.ref D) [("standings", .int n), ("events", .ref t)]))) x = some (.ins C dx (mfl n t D)) := by rw [upd_same, mf3]
      have nDx : D ≠ x := ne_of hd hx3 (by intro z; cases z)
      have hd4 : (upd G3 x (.ins C dx (putF "kept_out" (.ref D) [("standings", .int n), ("events", .ref t)]))) D = some (.lst ks) := Eq.trans (upd_ne nDx) hd
      have hk4 : ∀ a : Nat, a < ks.length → ∃ k : Addr, ks[a]? = some (.ref k) ∧ (upd G3 x (.ins C dx (putF "kept_out" (.ref D) [("standings", .int n), ("events", .ref t)]))) k = some (.lst []) ∧ k ≠ D := fun a ha => by
        obtain ⟨k, q1, q2, q3, q4⟩ := hk a (by omega)
        exact ⟨k, q1, Eq.trans (upd_ne (ne_of q2 hx3 (by intro z; cases z))) q2, q4⟩
      have b4 : But x G (upd G3 x (.ins C dx (putF "kept_out" (.ref D) [("standings", .int n), ("events", .ref t)]))) := fun b o e nb => by
        rw [upd_ne nb]; exact e3 _ _ (b2 _ _ e nb)
      have kfresh : ∀ (a : Nat) (b : Addr) (o : HO), ks[a]? = some (.ref b) → G b = some o → False := fun a b o ha hb' => by
        obtain ⟨k, q1, q2, q3, q4⟩ := hk a (by rw [← hl]; exact (List.getElem?_eq_some_iff.mp ha).1)
        rw [ha] at q1
        injection q1 with q1
        injection q1 with q1
        subst q1
        by_cases hbx : b = x
        · subst hbx; rw [hx2] at q3; cases q3
        · rw [b2 _ _ hb' hbx] at q3; cases q3
      generalize (upd G3 x (.ins C dx (putF "kept_out" (.ref D) [("standings", .int n), ("events", .ref t)]))) = G4 at j4 hx4 hd4 hk4 b4
      generalize upd H3 x (HO.ins C dx (putF "kept_out" (V.ref D) [("standings", V.int n), ("events", V.ref t)])) = H4 at j4 ⊢
      have hxk : ∀ (a : Nat), ks[a]? ≠ some (.ref x) := fun a ha => kfresh a x _ ha hx
      have hDk : ∀ (a : Nat), ks[a]? ≠ some (.ref D) := fun a ha => by
        obtain ⟨k, q1, q2, q3⟩ := hk4 a (List.getElem?_eq_some_iff.mp ha).1
        rw [ha] at q1
        injection q1 with q1
        injection q1 with q1
        exact q3 q1.symm
      have gK : ∀ (b : Addr) (o : HO), G b = some o → ∀ (a : Nat), ks[a]? ≠ some (.ref b) := fun b o hb' a ha => kfresh a b o ha hb'
      refine ⟨_, rfl, t, vs, rfl, sqT (j4.g _ _ (b4 _ _ ht ntx)), for_enumT (K := K) (a := t) (xs := vs) (fun i σ H' => ∃ (G' : Hp) (s3 s4 s5 : Option V), σ = [some (.ref x), some (.int n), some (.ref t), s3, s4, s5] ∧ Join G' P0 H' ∧ (∀ b o, G4 b = some o → (∀ a : Nat, ks[a]? ≠ some (.ref b)) → G' b = some o) ∧
          ∀ a : Nat, a < ks.length → ∃ k : Addr, ks[a]? = some (.ref k) ∧ G' k = some (.lst ((outs 0 (es.take i) a).map V.int)))
        ⟨G4, _, _, _, rfl, j4, fun b o e _ => e, fun a ha => ?_⟩ ?_ ?_ ?_⟩
      · obtain ⟨k, q1, q2, _⟩ := hk4 a ha
        exact ⟨k, q1, q2⟩
      · rintro i σ H' _ ⟨G', s3, s4, s5, rfl, j', o', c'⟩
        exact sqT (j'.g _ _ (o' _ _ (b4 _ _ ht ntx) (gK _ _ ht)))
      · rintro i y σ H' T' hy ⟨G', s3, s4, s5, rfl, j', o', c'⟩ hT
        obtain ⟨e, te, he, rfl, hte⟩ := hv.get hy
        have hin : i < es.length := (List.getElem?_eq_some_iff.mp he).1
        obtain ⟨be1, be2⟩ := hb e (List.mem_of_getElem? he)
        have nte : te ≠ x := ne_of hte hx (by intro z; cases z)
        obtain ⟨k', q1, q2⟩ := c' e.b.toNat (by omega)
        have j5 := j'.newG (o := .tup [.int i, .ref te]) hT
        have gT := j'.ng hT
        have up : ∀ b o, G' b = some o → (upd G' T' (.tup [.int i, .ref te])) b = some o := fun b o eb => Ex.new gT b o eb
        have hx5 := j5.g _ _ (up _ _ (o' _ _ hx4 hxk))
        have hD5 := j5.g _ _ (up _ _ (o' _ _ hd4 hDk))
        have hte5 := j5.g _ _ (up _ _ (o' _ _ (b4 _ _ hte nte) (gK _ _ hte)))
        have hk5 := j5.g _ _ (up _ _ q2)
        refine ⟨T', _, rfl, sqT upd_same, rfl, _, _, rfl, _, _, rfl, rfl, ?_⟩
        refine ⟨_, rfl, x, _, dx, _, _, rfl, hx5, hC.c, hC.nk, ml3 _ _ _, _, rfl, te, _, 0, _, rfl, rfl, sqT hte5, rfl, D, ks, e.b, .ref k', rfl, rfl, sqL hD5, atI_int be1 q1, .inl ⟨rfl, _, sqL hk5⟩, _, rfl, k', _, .int i, rfl, rfl, hk5, szlt ?_, ?_⟩
        · have := outs_len e.b.toNat (es.take i) 0
          rw [List.length_map]
          rw [List.length_take] at this
          omega
        · refine ⟨_, _, _, _, rfl, j5.setG (j5.gp (up _ _ q2)), fun b o eb nb => ?_, fun a ha => ?_⟩
          · rw [upd_ne (fun z => nb e.b.toNat (by rw [z]; exact q1))]
            exact up _ _ (o' _ _ eb nb)
          · by_cases hae : a = e.b.toNat
            · subst hae
              refine ⟨k', q1, ?_⟩
              rw [upd_same, take_more he, outs_app, if_pos (by omega), List.map_append]
              have el : 0 + (es.take i).length = i := by rw [List.length_take]; omega
              rw [el]; rfl
            · obtain ⟨k2, r1, r2⟩ := c' a ha
              have nk : k2 ≠ k' := fun z => by
                rw [z] at r1
                exact hae (hu' _ _ _ r1 q1)
              refine ⟨k2, r1, ?_⟩
              rw [upd_ne nk, take_more he, outs_app, if_neg (by omega), List.append_nil]
              exact up _ _ r2
      · rintro σ H' ⟨G', s3, s4, s5, rfl, j', o', c'⟩
        refine k G' H' j' (fun b o eb nb => o' _ _ (b4 _ _ eb nb) (gK _ _ eb)) ⟨dx, t, D, ks, o' _ _ hx4 hxk, ⟨vs, o' _ _ (b4 _ _ ht ntx) (gK _ _ ht), hv.1, fun i e he => ?_⟩, o' _ _ hd4 hDk, by omega, fun i hi => ?_⟩
        · obtain ⟨te, r1, r2⟩ := hv.2 i e he
          exact ⟨te, r1, o' _ _ (b4 _ _ r2 (ne_of r2 hx (by intro z; cases z))) (gK _ _ r2)⟩
        · obtain ⟨k2, r1, r2⟩ := c' i hi
          rw [hv.1, List.take_length] at r2
          exact ⟨k2, r1, r2⟩
theorem sc_Machine_init : FnScope ["self", "standings", "events", "number", "thing"] ["self", "standings", "events"] (defScope s_Machine_init) := ⟨rfl, rfl, rfl, by decide +kernel, rfl, by decide +kernel, by decide +kernel⟩
theorem ok_Machine_init (T : Txt K mg) {fd_is_within : FuncData} (G_is_within : Dn P w K mg base (L2.CX P w) 2 "is_within" ["thing", "least", "most"] (sp_is_within K) fd_is_within) {fd_is_event : FuncData} (G_is_event : Dn P w K mg base (L2.CX P w) 3 "is_event" ["thing", "standings"] (sp_is_event K) fd_is_event) {fd_Machine_keep : FuncData} (G_Machine_keep : Dm P w K mg base (L2.CX P w) 1 "Machine" "keep" ["self", "standings", "events"] (spKeepM K) fd_Machine_keep) : ∃ fd, Dm P w K mg base (L2.CX P w) 4 "Machine" "__init__" ["self", "standings", "events"] (spMInit (He.ga K "Machine")) fd := by
  obtain ⟨fd, F⟩ := T.d_Machine_init
  refine ⟨fd, F.ok sc_Machine_init (fun vs H Q E h => ?_) (fun cdv A outer s H vs Q E hr h => ?_), F.bindsN fun _ _ _ _ _ _ us hl => match us, hl with | [_, _, _], _ => rfl, Lv.fun_lk F⟩
  · obtain ⟨_, _, _, _, _, _, _, rfl, _⟩ := h
    rfl
  · have hu := hu_of hr
    have hr_is_within : Room 2 _ := hr.mono (by decide)
    have hr_is_event : Room 3 _ := hr.mono (by decide)
    have hr_Machine_keep : Room 1 _ := hr.mono (by decide)
    refine ⟨_, PSs.nox (pss_cons (ps_if (pt_not (pt_val (pe_call G_is_within.ok hr_is_within rfl G_is_within.mg G_is_within.kp G_is_within.b .nil passL (pa_cons (pv 1) (pa_cons pe_int (pa_cons (pe_glob (v := .int (12)) rfl T.i_MOST_STANDINGS.choose_spec ⟨_, rfl⟩) pa_nil)))))) (pss_one ps_never) pss_nil)
      (pss_cons (ps_if (PW.pt (pw_or (pt_not (pt_val (pe_callB call_isi (by rfl) T.n_isinstance (by decide +kernel) (pa_cons (pv 2) (pa_cons (pe_bltn (v := .ty "tuple") (by rfl) T.n_tuple (by decide +kernel) rfl) pa_nil))))) (pw_or1 (pt_cmpR op_gt (pe_callB call_len (by rfl) T.n_len PySem.boot_len (pa_cons (pv 2) pa_nil)) (pe_glob (v := .int (30)) rfl T.i_MOST_EVENTS.choose_spec ⟨_, rfl⟩) (nomark _))))) (pss_one ps_never) pss_nil)
      (pss_cons (ps_for PassesOwn.never rfl (pi_enumT (by rfl) T.n_enumerate (pa_cons (pv 2) pa_nil)) (pg_tup rfl (pgs_cons (pg_name (i := 3) sc_Machine_init.nd rfl (Or.inl rfl)) (pgs_cons (pg_name (i := 4) sc_Machine_init.nd rfl (Or.inl rfl)) pgs_nil))) (pss_one (ps_if (pt_not (pt_val (pe_call G_is_event.ok hr_is_event rfl G_is_event.mg G_is_event.kp G_is_event.b .nil passL (pa_cons (pv 4) (pa_cons (pv 1) pa_nil))))) (pss_one ps_never) pss_nil)))
      (pss_one (ps_expr (pe_meth (pv 0) T.c_Machine T.me_Machine_keep G_Machine_keep.ok hr_Machine_keep G_Machine_keep.b .nil passL (pa_cons (pv 1) (pa_cons (pv 2) pa_nil)))))))), ?_⟩
    obtain ⟨x, t, n, dx, es, G, P0, rfl, j, hx, hE, h1, h2, h3, hok, k⟩ := h
    obtain ⟨vs, ht, hv⟩ := id hE
    have hl : vs.length ≤ 30 := by rw [hv.1]; exact h3
    refine ⟨_, rfl, n, 1, 12, rfl, true, by rw [decide_eq_true ⟨h1, h2⟩], iteF ?_⟩
    refine ⟨_, rfl, _, _, _, _, true, rfl, .ty _, .base (.tup (j.g _ _ ht)), kit_ty (by decide +kernel), true, rfl, iteF ?_⟩
    refine ⟨_, rfl, _, _, rfl, .inr ⟨_, sqT (j.g _ _ ht), rfl⟩, _, _, rfl, rfl, false, congrArg V.bl (decide_eq_false (by omega)), iteF ?_⟩
    refine ⟨_, rfl, t, vs, rfl, sqT (j.g _ _ ht), for_enumT (K := K) (a := t) (xs := vs) (fun i σ H' => ∃ (G' : Hp) (s3 s4 : Option V), σ = [some (.ref x), some (.int n), some (.ref t), s3, s4] ∧ Join G' P0 H' ∧ Ex G G')
      ⟨G, _, _, rfl, j, Ex.refl _⟩ ?_ ?_ ?_⟩
    · rintro i σ H' _ ⟨G', s3, s4, rfl, j', e'⟩
      exact sqT (j'.g _ _ (e' _ _ ht))
    · rintro i y σ H' T' hy ⟨G', s3, s4, rfl, j', e'⟩ hT
      obtain ⟨e, te, he, rfl, hte⟩ := hv.get hy
      have j5 := j'.newG (o := .tup [.int i, .ref te]) hT
      have e5 := e'.trans (Ex.new (o := .tup [.int i, .ref te]) (j'.ng hT))
      refine ⟨T', _, rfl, sqT upd_same, rfl, _, _, rfl, _, _, rfl, rfl, ?_⟩
      exact ⟨_, rfl, _, rfl, te, n, e, rfl, j5.g _ _ (e5 _ _ hte), hok e (List.mem_of_getElem? he), true, rfl, iteF ⟨_, _, _, rfl, j5, e5⟩⟩
    · rintro σ H' ⟨G', s3, s4, rfl, j', e'⟩
      refine ⟨_, rfl, x, dx, _, rfl, j'.g _ _ (e' _ _ hx), rfl, _, rfl, _, rfl, _, mc_M T, x, t, n, dx, es, G', P0, rfl, j', e' _ _ hx, hE.mono e', h1, by omega, by omega, fun e he => ⟨(hok e he).1, (hok e he).2.1⟩, fun G2 H2 j2 b2 m2 => ?_⟩
      exact k G2 H2 j2 (fun b o eb nb => b2 _ _ (e' _ _ eb) nb) m2
theorem sc_Machine_eq : FnScope ["self", "other"] ["self", "other"] (defScope s_Machine_eq) := ⟨rfl, rfl, rfl, by decide +kernel, rfl, by decide +kernel, by decide +kernel⟩
theorem ok_Machine_eq (T : Txt K mg) : ∃ fd, Dm P w K mg base (L2.CX P w) 1 "Machine" "__eq__" ["self", "other"] (spMEq K) fd := by
  obtain ⟨fd, F⟩ := T.d_Machine_eq
  refine ⟨fd, F.ok sc_Machine_eq (fun vs H Q E h => ?_) (fun cdv A outer s H vs Q E hr h => ?_), F.bindsN fun _ _ _ _ _ _ us hl => match us, hl with | [_, _], _ => rfl, Lv.fun_lk F⟩
  · obtain ⟨_, _, _, _, _, _, rfl, _⟩ := h
    rfl
  · have hu := hu_of hr
    refine ⟨_, PSs.nox (pss_one (ps_ret (pe_and (pe_callB call_isi (by rfl) T.n_isinstance (by decide +kernel) (pa_cons (pv 1) (pa_cons (pe_glob (v := .ref (He.ga K "Machine")) rfl T.g_Machine rfl) pa_nil))) (pe_and (pe_cmpR op_eq (pe_fld (pv 0) rfl) (pe_fld (pv 1) rfl) (nomark _)) (pe_one (pe_cmpR (op_eqD hr.units) (pe_fld (pv 0) rfl) (pe_fld (pv 1) rfl) (nomark _))))))), ?_⟩
    obtain ⟨a, b, n, n', es, es', rfl, ha, hb, q⟩ := h
    obtain ⟨Ca, h1, dx, t, ko, ks, h2, ⟨vs, h3, h4⟩, _⟩ := id ha
    obtain ⟨Cb, g1, dy, t', ko', ks', g2, ⟨vs', g3, g4⟩, _⟩ := id hb
    refine ⟨_, rfl, _, _, _, _, true, rfl, .own _, g1.ty g2, g1.o.kit, true, rfl, iteT ⟨_, rfl, a, Ca, dx, _, _, rfl, h2, h1.c, h1.ns, ml1 _ _ _, _, rfl, b, Cb, dy, _, _, rfl, g2, g1.c, g1.ns, ml1 _ _ _, rfl, _, rfl, ?_⟩⟩
    by_cases hn : n = n'
    · refine itT (congrArg V.int hn) ⟨_, rfl, a, Ca, dx, _, _, rfl, h2, h1.c, h1.ne, ml2 _ _ _, _, rfl, b, Cb, dy, _, _, rfl, g2, g1.c, g1.ne, ml2 _ _ _, _, _, dp_tt h3 h4.tupL, dp_tt g3 g4.tupL, shaped_dU _, shaped_dU _, ?_⟩
      rw [eqv_dU]
      have e : decide (es.map evI = es'.map evI) = decide (n = n' ∧ es = es') := decide_eq_decide.mpr ⟨fun h => ⟨hn, evI_inj h⟩, fun h => by rw [h.2]⟩
      rw [e]; exact q
    · refine itF (fun h => hn (V.int.inj h)) ?_
      rw [decide_eq_false (fun h => hn h.1)] at q
      exact q
end X

namespace X
open PySem PySem.Spec PyProof.Rows L2 Lv
variable {P : Program} {w : World} {K : PySem.W.Frag} {mg : Str → Option Value} {base : Heap}
theorem cut_ints (ns : List Int) (lo hi : Option Int) : ∃ ms : List Int, cutV (ns.map V.int) lo hi = ms.map V.int ∧ ms.length ≤ ns.length := by
  refine ⟨(ns.drop (HT.sIx (ns.map V.int).length 0 lo)).take (HT.sIx (ns.map V.int).length (ns.map V.int).length hi - HT.sIx (ns.map V.int).length 0 lo), ?_, ?_⟩
  · unfold cutV
    rw [List.map_take, List.map_drop]
  · rw [List.length_take, List.length_drop]
    omega
theorem sc_l_pot : FnScope ["_law_script", "_law_cells", "_law_greats", "_law_smalls", "_law_item"] ["_law_script"] (defScope s_l_pot) := ⟨rfl, rfl, rfl, by decide +kernel, rfl, by decide +kernel, by decide +kernel⟩
theorem ok_l_pot (T : Txt K mg) : ∃ fd, Dn P w K mg base (L2.CX P w) 1 "_law_pot" ["_law_script"] (spPot K) fd := by
  obtain ⟨fd, F⟩ := T.d_l_pot
  refine ⟨fd, F.ok sc_l_pot (fun vs H Q E h => ?_) (fun cdv A outer s H vs Q E hr h => ?_), T.g_l_pot, F.kp, F.bindsN fun _ _ _ _ _ _ us hl => match us, hl with | [_], _ => rfl, Lv.fun_lk F⟩
  · obtain ⟨_, _, rfl, _⟩ := h
    rfl
  · have hu := hu_of hr
    refine ⟨_, PSs.nox (pss_cons (ps_setLc (i := 1) (own := [("_law_item", 4)]) (g := gName 4) (tt := tYes) rfl sc_l_pot.nd rfl rfl (sw_true rfl rfl rfl (by decide +kernel)) (pi_list (pe_slice sl_list (pv 0) po_none (po_some pe_int))) (blkOk_by (N := ["_law_script", "_law_cells", "_law_greats", "_law_smalls", "_law_item"]) (sc := defScope s_l_pot) (by decide +kernel)) (fun _ _ _ _ _ => (pg_name (i := 4) sc_l_pot.nd rfl (Or.inl rfl) (hf := Or.inr rfl))) (fun _ _ _ _ _ => pts_nil) (fun _ _ _ _ _ => (pe_callTy call_int1 (by rfl) T.n_int (by decide +kernel) (pa_cons (pv 4) pa_nil))))
      (pss_cons (ps_setLc (i := 2) (own := [("_law_item", 4)]) (g := gName 4) rfl sc_l_pot.nd rfl rfl (sw_true rfl rfl rfl (by decide +kernel)) (pi_list (pv 1)) (blkOk_by (N := ["_law_script", "_law_cells", "_law_greats", "_law_smalls", "_law_item"]) (sc := defScope s_l_pot) (by decide +kernel)) (fun _ _ _ _ _ => (pg_name (i := 4) sc_l_pot.nd rfl (Or.inl rfl) (hf := Or.inr rfl))) (fun _ _ _ _ _ => (pts_one (pt_cmpR op_ge (pe_callB call_abs (by rfl) T.n_abs (by decide +kernel) (pa_cons (pv 4) pa_nil)) (pe_op op_pow pe_int pe_int) (nomark _)))) (fun _ _ _ _ _ => (pe_callB call_abs (by rfl) T.n_abs (by decide +kernel) (pa_cons (pv 4) pa_nil))))
      (pss_cons (ps_set (i := 3) sc_l_pot.nd rfl (Or.inl rfl) (pe_op op_cat (pe_lc (own := [("_law_item", 4)]) (g := gName 4) rfl sc_l_pot.nd (pi_list (pv 1)) (blkOk_by (N := ["_law_script", "_law_cells", "_law_greats", "_law_smalls", "_law_item"]) (sc := defScope s_l_pot) (by decide +kernel)) (fun _ _ _ _ _ => (pg_name (i := 4) sc_l_pot.nd rfl (Or.inl rfl) (hf := Or.inr rfl))) (fun _ _ _ _ _ => (pts_one (pt_cmpR op_lt (pe_callB call_abs (by rfl) T.n_abs (by decide +kernel) (pa_cons (pv 4) pa_nil)) (pe_op op_pow pe_int pe_int) (nomark _)))) (fun _ _ _ _ _ => (pe_op op_mod (pe_callTy call_int1 (by rfl) T.n_int (by decide +kernel) (pa_cons (pv 4) pa_nil)) pe_int))) (pe_lst (pa_cons (pe_op op_add (pe_callB call_len_seq (by rfl) T.n_len PySem.boot_len (pa_cons (pv 1) pa_nil)) pe_int) pa_nil))))
      (pss_one (ps_ret (pe_lst (pa_cons (pv 2) (pa_cons (pv 3) (pa_cons pe_int (pa_cons (pe_op op_mod (pe_callTy call_int1 (by rfl) T.n_int (by decide +kernel) (pa_cons (pe_callB (cr_sum rfl) (by rfl) T.n_sum (by decide +kernel) (pa_cons (pv 3) pa_nil)) pa_nil)) pe_int) pa_nil)))))))))), ?_⟩
    obtain ⟨a, ns, rfl, hS, hl, k⟩ := h
    obtain ⟨ms, em, lm⟩ := cut_ints ns none (some 63)
    refine ⟨_, rfl, 63, rfl, a, _, rfl, hS, fun p hp => ⟨p, rfl, ⟨_, sqL upd_same⟩, fun D1 h1 => ?_⟩⟩
    rw [em] at h1 ⊢
    have j1 := (Join.self H).newG (o := .lst (ms.map V.int)) hp
    refine lc_ints (K := K) (ns := ms) (fun _ => true) (fun z => z) h1 (sqL upd_same) (by omega) (fun _ => rfl) ?_ ?_ ?_
    · exact fun z H' R _ r => r
    · exact fun z H' R _ _ r => ⟨_, rfl, .inl ⟨_, rfl, r⟩⟩
    have e1 : ((ms.filter fun _ => true).map fun z => z) = ms := by simp
    rw [e1]
    have j2 := j1.newG (o := .lst (ms.map V.int)) h1
    clear j1
    -- _law_greats
    refine ⟨_, rfl, D1, rfl, ⟨_, sqL upd_same⟩, fun D2 h2 => ?_⟩
    refine lc_ints (K := K) (ns := ms) (fun z => decide ((10 : Int) ^ 18 ≤ (if z < 0 then -z else z))) (fun z => if z < 0 then -z else z) h2 (sqL upd_same) (by omega) (fun _ => rfl) ?_ ?_ ?_
    · exact fun z H' R _ r => ⟨_, rfl, _, rfl, _, _, rfl, rfl, ⟨by decide, by decide, by decide⟩, _, _, rfl, rfl, _, rfl, r⟩
    · exact fun z H' R _ _ r => ⟨_, rfl, _, rfl, r⟩
    have hg : ((ms.filter fun z => decide ((10 : Int) ^ 18 ≤ (if z < 0 then -z else z))).map fun z => if z < 0 then -z else z).length ≤ 63 := by
      rw [List.length_map]
      have := List.length_filter_le (fun z : Int => decide ((10 : Int) ^ 18 ≤ (if z < 0 then -z else z))) ms
      omega
    generalize ((ms.filter fun z => decide ((10 : Int) ^ 18 ≤ (if z < 0 then -z else z))).map fun z => if z < 0 then -z else z) = gs at hg ⊢
    have j3 := j2.setP (o := .lst (gs.map V.int)) (j2.ng h2)
    -- _law_smalls
    have n12 : D1 ≠ D2 := fun q => by rw [← q, upd_same] at h2; cases h2
    refine ⟨_, rfl, D1, rfl, ⟨_, sqL (Eq.trans (upd_ne n12) upd_same)⟩, fun D3 h3 => ?_⟩
    refine lc_ints (K := K) (ns := ms) (fun z => decide ((if z < 0 then -z else z) < (10 : Int) ^ 18)) (fun z => z % 1000000007) h3 (sqL (Eq.trans (upd_ne n12) upd_same)) (by omega) (fun _ => rfl) ?_ ?_ ?_
    · exact fun z H' R _ r => ⟨_, rfl, _, rfl, _, _, rfl, rfl, ⟨by decide, by decide, by decide⟩, _, _, rfl, rfl, _, rfl, r⟩
    · exact fun z H' R _ _ r => ⟨_, rfl, .inl ⟨_, rfl, _, _, rfl, rfl, (by show (0 : Int) < 1000000007; decide), r⟩⟩
    have hs : ((ms.filter fun z => decide ((if z < 0 then -z else z) < (10 : Int) ^ 18)).map fun z => z % 1000000007).length ≤ 63 := by
      rw [List.length_map]
      have := List.length_filter_le (fun z : Int => decide ((if z < 0 then -z else z) < (10 : Int) ^ 18)) ms
      omega
    generalize ((ms.filter fun z => decide ((if z < 0 then -z else z) < (10 : Int) ^ 18)).map fun z => z % 1000000007) = ss at hs ⊢
    have j4 := j3.newG (o := .lst (ss.map V.int)) h3
    have n13 : D1 ≠ D3 := fun q => by rw [← q, upd_ne n12, upd_same] at h3; cases h3
    refine ⟨_, rfl, _, _, rfl, .inl (sqL (by rw [upd_ne n13, upd_ne n12, upd_same])), _, _, rfl, rfl, (by show 1 ≤ sizeLine; decide), fun D4 h4 => ?_⟩
    have j5 := j4.newG (o := .lst [V.int (((ms.map V.int).length : Int) + 1)]) h4
    have n34 : D3 ≠ D4 := fun q => by rw [← q, upd_same] at h4; cases h4
    refine ⟨D3, D4, _, _, rfl, rfl, Eq.trans (upd_ne n34) upd_same, upd_same, by rw [List.length_map]; exact szle (by show _ + 1 ≤ _; omega), fun D5 h5 => ?_⟩
    have j6 := j5.setP (o := .lst (ss.map V.int ++ [V.int (((ms.map V.int).length : Int) + 1)])) (j5.ng h5)
    have e2 : ss.map V.int ++ [V.int (((ms.map V.int).length : Int) + 1)] = (ss ++ [((ms.map V.int).length : Int) + 1]).map V.int := by rw [List.map_append]; rfl
    rw [e2] at j6 ⊢
    refine ⟨_, rfl, _, rfl, _, rfl, D5, _, rfl, sqL upd_same, .inl ⟨_, rfl, _, _, rfl, rfl, (by show (0 : Int) < 999983; decide), (by show 4 ≤ sizeLine; decide), fun l hl0 => ?_⟩⟩
    have n25 : D2 ≠ D5 := ne_of_none (j5.p D2 _ upd_same) h5
    have q2 := j6.p D2 _ (Eq.trans (upd_ne n25) upd_same)
    have q5 := j6.p D5 _ upd_same
    have j7 := j6.setP (o := .lst [V.ref D2, V.ref D5, V.int 0, V.int ((ss ++ [((ms.map V.int).length : Int) + 1]).sum % 999983)]) (j6.ng hl0)
    refine k l _ _ _ ((((Ex.new hp).trans (Ex.new h1)).trans (Ex.new (j3.ng h3))).trans (Ex.new (j4.ng h4))) j7 ⟨D2, D5, gs, _, 0, _, upd_same, Eq.trans (upd_ne (ne_of_none q2 hl0)) (Eq.trans (upd_ne n25) upd_same), Eq.trans (upd_ne (ne_of_none q5 hl0)) upd_same, n25, ?_, ?_, by omega⟩
    · simp
    · simp; omega
theorem sc_l_draw : FnScope ["_law_pot_here", "_law_many", "_law_turn", "_law_seed", "_law_number"] ["_law_pot_here", "_law_many"] (defScope s_l_draw) := ⟨rfl, rfl, rfl, by decide +kernel, rfl, by decide +kernel, by decide +kernel⟩
theorem ok_l_draw (T : Txt K mg) : ∃ fd, Dn P w K mg base (L2.CX P w) 1 "_law_draw" ["_law_pot_here", "_law_many"] spDraw fd := by
  obtain ⟨fd, F⟩ := T.d_l_draw
  refine ⟨fd, F.ok sc_l_draw (fun vs H Q E h => ?_) (fun cdv A outer s H vs Q E hr h => ?_), T.g_l_draw, F.kp, F.bindsN fun _ _ _ _ _ _ us hl => match us, hl with | [_, _], _ => rfl, Lv.fun_lk F⟩
  · obtain ⟨_, _, _, _, rfl, _⟩ := h
    rfl
  · have hu := hu_of hr
    refine ⟨_, PSs.nox (pss_cons (ps_set (i := 2) sc_l_draw.nd rfl (Or.inl rfl) (pe_ix ix_list (pv 0) pe_int (fun _ _ => rfl)))
      (pss_cons (ps_asg (pe_op op_add (pv 2) pe_int) (pg_sub (pv 0) pe_int set_list))
      (pss_cons (ps_if (pt_cmpR op_gt (pe_callB call_len_seq (by rfl) T.n_len PySem.boot_len (pa_cons (pe_ix ix_list (pv 0) pe_int (fun _ _ => rfl)) pa_nil)) pe_int (nomark _)) (pss_cons (ps_set (i := 4) sc_l_draw.nd rfl (Or.inl rfl) (pe_ix ix_list (pe_ix ix_list (pv 0) pe_int (fun _ _ => rfl)) pe_int (fun _ _ => rfl)))
      (pss_cons (ps_asg (pe_op op_fdivW (pv 4) (pv 1)) (pg_sub (pe_ix ix_list (pv 0) pe_int (fun _ _ => rfl)) pe_int set_list))
      (pss_cons (ps_if (pt_cmpR op_lt (pv 4) (pv 1) (nomark _)) (pss_one (ps_expr (pe_bm PySem.F.plainAttrs_list PySem.F.slot_list_pop PySem.F.type_list_pop mt_popAt (pe_ix ix_list (pv 0) pe_int (fun _ _ => rfl)) (pa_cons pe_int pa_nil)))) pss_nil)
      (pss_one (ps_ret (pe_op op_mod (pe_callTy call_int1 (by rfl) T.n_int (by decide +kernel) (pa_cons (pv 4) pa_nil)) (pv 1))))))) pss_nil)
      (pss_cons (ps_set (i := 3) sc_l_draw.nd rfl (Or.inl rfl) (pe_op op_add (pe_op op_add (pe_op op_mul (pe_ix ix_list (pe_ix ix_list (pv 0) pe_int (fun _ _ => rfl)) (pe_op op_mod (pe_callTy call_int1 (by rfl) T.n_int (by decide +kernel) (pa_cons (pv 2) pa_nil)) (pe_callB call_len_seq (by rfl) T.n_len PySem.boot_len (pa_cons (pe_ix ix_list (pv 0) pe_int (fun _ _ => rfl)) pa_nil))) (fun _ _ => rfl)) pe_int) (pe_op op_mul pe_int (pv 2))) (pe_op op_mul (pe_ix ix_list (pv 0) pe_int (fun _ _ => rfl)) pe_int)))
      (pss_cons (ps_set (i := 4) sc_l_draw.nd rfl (Or.inl rfl) (pe_op op_mod (pe_callTy call_int1 (by rfl) T.n_int (by decide +kernel) (pa_cons (pe_op op_add (pe_op op_mul (pv 3) pe_int) pe_int) pa_nil)) pe_int))
      (pss_cons (ps_set (i := 4) sc_l_draw.nd rfl (Or.inl rfl) (pe_op op_mod (pe_callTy call_int1 (by rfl) T.n_int (by decide +kernel) (pa_cons (pe_op op_mulW (pv 4) (pe_op op_add (pe_op op_fdiv (pv 4) pe_int) pe_int)) pa_nil)) pe_int))
      (pss_cons (ps_set (i := 4) sc_l_draw.nd rfl (Or.inl rfl) (pe_op op_mod (pe_callTy call_int1 (by rfl) T.n_int (by decide +kernel) (pa_cons (pe_op op_add (pe_op op_mulW (pv 4) (pe_op op_add (pe_op op_fdiv (pv 4) pe_int) pe_int)) (pv 2)) pa_nil)) pe_int))
      (pss_one (ps_ret (pe_op op_mod (pe_callTy call_int1 (by rfl) T.n_int (by decide +kernel) (pa_cons (pe_op op_fdiv (pv 4) pe_int) pa_nil)) (pv 1))))))))))), ?_⟩
    obtain ⟨l, n, G, P0, rfl, j, ⟨g, sa, gs, ss, t, c, hl, hg, hs, ngs, h0s, hls, hlg⟩, hn0, hn, k⟩ := h
    have ngl : g ≠ l := ne_of hg hl (by intro z; cases gs <;> simp at z)
    have nsl : sa ≠ l := ne_of hs hl (by intro z; cases ss <;> simp at z)
    have bn : n.natAbs < 2 ^ 1000 := nat1000 (Int.le_of_lt hn0) hn
    -- turn = pot[2]; pot[2] = turn + 1
    refine ⟨_, rfl, l, _, 2, _, rfl, rfl, sqL (j.p _ _ hl), rfl, ?_⟩
    refine ⟨_, rfl, t, 1, rfl, rfl, _, rfl, l, _, 2, 2, rfl, rfl, j.p _ _ hl, rfl, ?_⟩
    have j1 := j.setP (o := .lst [V.ref g, V.ref sa, V.int (t + 1), V.int c]) (j.ap _ _ hl)
    have hl1 : (upd P0 l (.lst [V.ref g, V.ref sa, V.int (t + 1), V.int c])) l = _ := upd_same
    have hg1 : (upd P0 l (.lst [V.ref g, V.ref sa, V.int (t + 1), V.int c])) g = _ := Eq.trans (upd_ne ngl) hg
    have hs1 : (upd P0 l (.lst [V.ref g, V.ref sa, V.int (t + 1), V.int c])) sa = _ := Eq.trans (upd_ne nsl) hs
    generalize (upd P0 l (.lst [V.ref g, V.ref sa, V.int (t + 1), V.int c])) = P1 at j1 hl1 hg1 hs1
    refine ⟨_, rfl, l, _, 0, _, rfl, rfl, sqL (j1.p _ _ hl1), rfl, g, _, rfl, .inl (sqL (j1.p _ _ hg1)), _, _, rfl, rfl, _, rfl, ?_⟩
    cases gs with
    | cons z r =>
      refine itT (by simp) ?_
      refine ⟨_, rfl, l, _, 0, _, rfl, rfl, sqL (j1.p _ _ hl1), rfl, g, _, 0, _, rfl, rfl, sqL (j1.p _ _ hg1), atI_int (by decide) rfl, ?_⟩
      have j2 := j1.setP (o := .lst (V.int (z / n) :: r.map V.int)) (j1.ap _ _ hg1)
      refine ⟨_, rfl, _, rfl, _, _, rfl, rfl, divW hn0 bn, _, rfl, l, _, 0, _, rfl, rfl, sqL (j1.p _ _ hl1), rfl, g, _, 0, 0, rfl, rfl, j1.p _ _ hg1, ixN_nat (by simp), ?_⟩
      have hl2 : (upd P1 g (.lst (V.int (z / n) :: r.map V.int))) l = _ := Eq.trans (upd_ne ngl.symm) hl1
      have hg2 : (upd P1 g (.lst (V.int (z / n) :: r.map V.int))) g = _ := upd_same
      have hs2 : (upd P1 g (.lst (V.int (z / n) :: r.map V.int))) sa = _ := Eq.trans (upd_ne ngs.symm) hs1
      generalize (upd P1 g (.lst (V.int (z / n) :: r.map V.int))) = P2 at j2 hl2 hg2 hs2
      refine ⟨_, rfl, _, rfl, _, _, rfl, rfl, _, rfl, ?_⟩
      have fin : ∀ (P3 H3 : Hp), Join G P3 H3 → Pot P3 l → Q (V.int (z % n)) H3 := fun P3 H3 => k (z % n) P3 H3 (Int.emod_nonneg _ (by omega)) (Int.emod_lt_of_pos _ hn0)
      by_cases hz : z < n
      · refine itT hz ?_
        have j3 := j2.setP (o := .lst (r.map V.int)) (j2.ap _ _ hg2)
        refine ⟨_, rfl, l, _, 0, _, rfl, rfl, sqL (j2.p _ _ hl2), rfl, .inl ⟨rfl, _, sqL (j2.p _ _ hg2)⟩, g, _, 0, 0, _, rfl, rfl, j2.p _ _ hg2, by decide, by decide, seq_nat (by simp), rfl, ?_⟩
        refine ⟨_, rfl, .inl ⟨_, rfl, _, rfl, _, _, rfl, rfl, hn0, fin _ _ j3 ⟨g, sa, r, ss, _, _, Eq.trans (upd_ne ngl.symm) hl2, upd_same, Eq.trans (upd_ne ngs.symm) hs2, ngs, h0s, hls, ?_⟩⟩⟩
        simp at hlg; omega
      · refine itF hz ?_
        exact ⟨_, rfl, .inl ⟨_, rfl, _, rfl, _, _, rfl, rfl, hn0, fin _ _ j2 ⟨g, sa, z / n :: r, ss, _, _, hl2, hg2, hs2, ngs, h0s, hls, by simpa using hlg⟩⟩⟩
    | nil =>
      refine itF (by simp) ?_
      have hp0 : (0 : Int) < ((ss.map V.int).length : Int) := by rw [List.length_map]; omega
      obtain ⟨v, hv⟩ : ∃ v, ss[(t % ((ss.map V.int).length : Int)).toNat]? = some v := by
        have h1 := Int.emod_nonneg t (Int.ne_of_gt hp0)
        have h2 := Int.emod_lt_of_pos t hp0
        rw [List.length_map] at h1 h2 ⊢
        exact ⟨_, List.getElem?_eq_getElem (by omega)⟩
      have hat : atI (ss.map V.int) (t % ((ss.map V.int).length : Int)) = some (V.int v) := atI_int (Int.emod_nonneg t (Int.ne_of_gt hp0)) (by rw [List.getElem?_map, hv]; rfl)
      refine ⟨_, rfl, l, _, 1, _, rfl, rfl, sqL (j1.p _ _ hl1), rfl, _, rfl, .inl ⟨_, rfl, _, rfl, l, _, 1, _, rfl, rfl, sqL (j1.p _ _ hl1), rfl, sa, _, rfl, .inl (sqL (j1.p _ _ hs1)), _, _, rfl, rfl, hp0, sa, _, _, _, rfl, rfl, sqL (j1.p _ _ hs1), hat, _, _, rfl, rfl, .inr ⟨by decide, by decide⟩,
        _, rfl, _, _, rfl, rfl, .inl ⟨by decide, by decide⟩, _, _, rfl, rfl, _, rfl, l, _, 3, _, rfl, rfl, sqL (j1.p _ _ hl1), rfl, _, _, rfl, rfl, .inr ⟨by decide, by decide⟩, _, _, rfl, rfl, ?_⟩⟩
      refine ⟨_, rfl, _, _, rfl, rfl, .inr ⟨by decide, by decide⟩, _, _, rfl, rfl, .inl ⟨_, rfl, _, _, rfl, rfl, (by show (0 : Int) < 2147483647; decide), ?_⟩⟩
      refine ⟨_, rfl, _, rfl, _, _, rfl, rfl, ⟨by decide, by decide⟩, _, _, rfl, rfl, _, _, rfl, rfl, mulSm (by omega) (by omega) (by omega) (by omega), .inl ⟨_, rfl, _, _, rfl, rfl, (by show (0 : Int) < 2147483629; decide), ?_⟩⟩
      refine ⟨_, rfl, _, rfl, _, _, rfl, rfl, ⟨by decide, by decide⟩, _, _, rfl, rfl, _, _, rfl, rfl, mulSm (by omega) (by omega) (by omega) (by omega), _, rfl, _, _, rfl, rfl, .inl ⟨_, rfl, _, _, rfl, rfl, (by show (0 : Int) < 2147483399; decide), ?_⟩⟩
      refine ⟨_, rfl, _, _, rfl, rfl, ⟨by decide, by decide⟩, .inl ⟨_, rfl, _, rfl, _, _, rfl, rfl, hn0, ?_⟩⟩
      exact k _ _ _ (Int.emod_nonneg _ (by omega)) (Int.emod_lt_of_pos _ hn0) j1 ⟨g, sa, [], ss, _, _, hl1, hg1, hs1, ngs, h0s, hls, by simp⟩
theorem sc_l_any : FnScope ["_law_pot_here", "_law_items"] ["_law_pot_here", "_law_items"] (defScope s_l_any) := ⟨rfl, rfl, rfl, by decide +kernel, rfl, by decide +kernel, by decide +kernel⟩
theorem ok_l_any (T : Txt K mg) {fd_l_draw : FuncData} (G_l_draw : Dn P w K mg base (L2.CX P w) 1 "_law_draw" ["_law_pot_here", "_law_many"] spDraw fd_l_draw) : ∃ fd, Dn P w K mg base (L2.CX P w) 2 "_law_any" ["_law_pot_here", "_law_items"] (spAny K) fd := by
  obtain ⟨fd, F⟩ := T.d_l_any
  refine ⟨fd, F.ok sc_l_any (fun vs H Q E h => ?_) (fun cdv A outer s H vs Q E hr h => ?_), T.g_l_any, F.kp, F.bindsN fun _ _ _ _ _ _ us hl => match us, hl with | [_, _], _ => rfl, Lv.fun_lk F⟩
  · obtain ⟨_, _, _, _, _, rfl, _⟩ := h
    rfl
  · have hu := hu_of hr
    have hr_l_draw : Room 1 _ := hr.mono (by decide)
    refine ⟨_, PSs.nox (pss_one (ps_ret (pe_ix ix_tup (pv 1) (pe_call G_l_draw.ok hr_l_draw rfl G_l_draw.mg G_l_draw.kp G_l_draw.b .nil passL (pa_cons (pv 0) (pa_cons (pe_callB call_len (by rfl) T.n_len PySem.boot_len (pa_cons (pv 1) pa_nil)) pa_nil))) (fun _ _ => rfl)))), ?_⟩
    obtain ⟨l, t, xs, G, P0, rfl, j, hP, ht, h0, hx, k⟩ := h
    have htH : SqT K H t xs := j.exG.t ht
    refine ⟨_, rfl, _, rfl, _, rfl, _, _, rfl, .inr ⟨_, htH, rfl⟩, l, _, G, P0, rfl, j, hP, by omega, ?_, fun r P' H' r0 r1 j' hP' => ?_⟩
    · exact Int.lt_of_lt_of_le (b := 2000) (by omega) (by decide)
    · obtain ⟨x, hx2⟩ : ∃ x, xs[r.toNat]? = some x := ⟨_, List.getElem?_eq_getElem (by omega)⟩
      exact ⟨t, xs, r, x, rfl, rfl, j'.exG.t ht, atI_int r0 hx2, k r.toNat x P' H' hx2 j' hP'⟩
end X

namespace X
open PySem PySem.Spec PyProof.Rows L2 Lv
variable {P : Program} {w : World} {K : PySem.W.Frag} {mg : Str → Option Value} {base : Heap}
theorem sc_l_parts : FnScope ["_law_pot_here", "_law_most_standings", "_law_most_events", "_law_standings", "_law_kind", "_law_events", "_law_at", "_law_tries", "_law_points", "_law_before", "_law_after"] ["_law_pot_here", "_law_most_standings", "_law_most_events"] (defScope s_l_parts) := ⟨rfl, rfl, rfl, by decide +kernel, rfl, by decide +kernel, by decide +kernel⟩
theorem ok_l_parts (T : Txt K mg) {fd_l_draw : FuncData} (G_l_draw : Dn P w K mg base (L2.CX P w) 1 "_law_draw" ["_law_pot_here", "_law_many"] spDraw fd_l_draw) : ∃ fd, Dn P w K mg base (L2.CX P w) 2 "_law_parts" ["_law_pot_here", "_law_most_standings", "_law_most_events"] spParts fd := by
  obtain ⟨fd, F⟩ := T.d_l_parts
  refine ⟨fd, F.ok sc_l_parts (fun vs H Q E h => ?_) (fun cdv A outer s H vs Q E hr h => ?_), T.g_l_parts, F.kp, F.bindsN fun _ _ _ _ _ _ us hl => match us, hl with | [_, _, _], _ => rfl, Lv.fun_lk F⟩
  · obtain ⟨_, _, _, _, _, rfl, _⟩ := h
    rfl
  · have hu := hu_of hr
    have hr_l_draw : Room 1 _ := hr.mono (by decide)
    refine ⟨_, PSs.nox (pss_cons (ps_set (i := 3) sc_l_parts.nd rfl (Or.inl rfl) (pe_op op_add pe_int (pe_call G_l_draw.ok hr_l_draw rfl G_l_draw.mg G_l_draw.kp G_l_draw.b .nil passL (pa_cons (pv 0) (pa_cons (pv 1) pa_nil)))))
      (pss_cons (ps_set (i := 4) sc_l_parts.nd rfl (Or.inl rfl) (pe_call G_l_draw.ok hr_l_draw rfl G_l_draw.mg G_l_draw.kp G_l_draw.b .nil passL (pa_cons (pv 0) (pa_cons pe_int pa_nil))))
      (pss_cons (ps_set (i := 5) sc_l_parts.nd rfl (Or.inl rfl) (pe_lst pa_nil))
      (pss_cons (ps_for PassesOwn.never rfl (pi_range1 (by rfl) T.n_range (pa_cons (pe_op op_add pe_int (pe_call G_l_draw.ok hr_l_draw rfl G_l_draw.mg G_l_draw.kp G_l_draw.b .nil passL (pa_cons (pv 0) (pa_cons (pv 2) pa_nil)))) pa_nil)) (pg_name (i := 6) sc_l_parts.nd rfl (Or.inl rfl)) (pss_cons (ps_par (i := 9) (j := 10) rfl sc_l_parts.nd rfl rfl (by decide) rfl rfl (pa_cons (pe_call G_l_draw.ok hr_l_draw rfl G_l_draw.mg G_l_draw.kp G_l_draw.b .nil passL (pa_cons (pv 0) (pa_cons (pv 3) pa_nil))) (pa_cons (pe_call G_l_draw.ok hr_l_draw rfl G_l_draw.mg G_l_draw.kp G_l_draw.b .nil passL (pa_cons (pv 0) (pa_cons (pv 3) pa_nil))) pa_nil)) rfl)
      (Evl.pss_cut (ps_if (pt_cmpR op_gt (pv 4) pe_int (nomark _)) (pss_cons (ps_set (i := 9) sc_l_parts.nd rfl (Or.inl rfl) (pe_op op_mod (pe_callTy call_int1 (by rfl) T.n_int (by decide +kernel) (pa_cons (pv 6) pa_nil)) (pv 3)))
      (pss_one (ps_set (i := 10) sc_l_parts.nd rfl (Or.inl rfl) (pe_ix ix_tup (pe_tup (pa_cons (pv 9) (pa_cons (pe_op op_mod (pe_callTy call_int1 (by rfl) T.n_int (by decide +kernel) (pa_cons (pe_op op_add (pv 9) pe_int) pa_nil)) (pv 3)) pa_nil))) (pe_callTy call_int1 (by rfl) T.n_int (by decide +kernel) (pa_cons (pe_cmpR op_gt (pe_call G_l_draw.ok hr_l_draw rfl G_l_draw.mg G_l_draw.kp G_l_draw.b .nil passL (pa_cons (pv 0) (pa_cons pe_int pa_nil))) pe_int (nomark _)) pa_nil)) (fun _ _ => rfl))))) pss_nil)
      (Evl.pss_cut (ps_set (i := 7) sc_l_parts.nd rfl (Or.inl rfl) (pe_ifExp (pt_cmpR op_eq (pv 4) pe_int (nomark _)) pe_int (pe_op op_add pe_int (pe_call G_l_draw.ok hr_l_draw rfl G_l_draw.mg G_l_draw.kp G_l_draw.b .nil passL (pa_cons (pv 0) (pa_cons pe_int pa_nil))))))
      (Evl.pss_cut (ps_set (i := 8) sc_l_parts.nd rfl (Or.inl rfl) (pe_ifExp (pt_cmpR op_eq (pv 4) pe_int (nomark _)) (pe_call G_l_draw.ok hr_l_draw rfl G_l_draw.mg G_l_draw.kp G_l_draw.b .nil passL (pa_cons (pv 0) (pa_cons pe_int pa_nil))) (pe_op op_sub (pe_call G_l_draw.ok hr_l_draw rfl G_l_draw.mg G_l_draw.kp G_l_draw.b .nil passL (pa_cons (pv 0) (pa_cons pe_int pa_nil))) pe_int)))
      (pss_one (ps_expr (pe_bm PySem.F.plainAttrs_list PySem.F.slot_list_append PySem.F.type_list_append mt_append (pv 5) (pa_cons (pe_tup (pa_cons (pv 9) (pa_cons (pv 10) (pa_cons (pv 7) (pa_cons (pv 8) pa_nil))))) pa_nil)))))))))
      (pss_one (ps_ret (pe_tup (pa_cons (pv 3) (pa_cons (pe_callTy call_tuple_of (by rfl) T.n_tuple (by decide +kernel) (pa_cons (pv 5) pa_nil)) pa_nil))))))))), ?_⟩
    obtain ⟨l, a, b, G, P0, rfl, j, hP, a1, a2, b1, b2, k⟩ := h
    refine ⟨_, rfl, _, rfl, l, a, G, P0, rfl, j, hP, by omega, ?_, fun r1 P1 H1 r10 r11 j1 hP1 => ⟨_, _, rfl, rfl, ?_⟩⟩
    · exact Int.lt_of_lt_of_le (b := 2000) (by omega) (by decide)
    have hn0 : 0 < 1 + r1 := by omega
    have hn2 : 1 + r1 < 2 ^ 200 := Int.lt_of_lt_of_le (b := 2000) (by omega) (by decide)
    refine ⟨_, rfl, l, 4, G, P1, rfl, j1, hP1, by decide, by decide, fun r2 P2 H2 r20 r21 j2 hP2 => ⟨Nat.zero_le _, fun L hL => ?_⟩⟩
    have gL := j2.ng hL
    have j3 := j2.newG (o := .lst []) hL
    refine ⟨_, rfl, _, rfl, l, b, _, P2, rfl, j3, hP2, by omega, Int.lt_of_lt_of_le (b := 2000) (by omega) (by decide), fun r3 P3 H3 r30 r31 j4 hP3 => ⟨_, _, rfl, rfl, 1 + r3, rfl, by omega, by omega, ?_⟩⟩
    clear j j1 j2 j3 hP hP1 hP2 hL
    refine for_range (lo := 0) (n := (1 + r3).toNat) (fun i σ H' => ∃ (G' P' : Hp) (vs : List V) (es : List Ev) (s6 s7 s8 s9 s10 : Option V), σ = [some (.ref l), some (.int a), some (.int b), some (.int (1 + r1)), some (.int r2), some (.ref L), s6, s7, s8, s9, s10] ∧ Join G' P' H' ∧ Pot P' l ∧ Ex G G' ∧
        G' L = some (.lst vs) ∧ EvL G' vs es ∧ es.length = i ∧ ∀ e ∈ es, EvSm (1 + r1) e)
      ⟨_, _, [], [], _, _, _, _, _, rfl, j4, hP3, Ex.new gL, upd_same, EvL.nil, rfl, fun e he => by cases he⟩ ?_ ?_
    · clear j4 hP3
      rintro i σ H4 hi ⟨G1, P4, vs, es, s6, s7, s8, s9, s10, rfl, j, hP, eG, hL, hv, hlen, hes⟩
      refine ⟨_, rfl, _, rfl, l, _, G1, P4, rfl, j, hP, hn0, hn2, fun d1 P5 H5 d10 d11 j5 hP5 => ⟨_, rfl, _, rfl, l, _, G1, P5, rfl, j5, hP5, hn0, hn2, fun d2 P6 H6 d20 d21 j6 hP6 => ⟨_, _, rfl, ?_⟩⟩⟩
      clear j hP j5 hP5
      -- before, after
      refine ⟨fun σ' H' => ∃ (G' P' : Hp) (b' a' : Int), σ' = [some (.ref l), some (.int a), some (.int b), some (.int (1 + r1)), some (.int r2), some (.ref L), some (.int (0 + i)), s7, s8, some (.int b'), some (.int a')] ∧ Join G' P' H' ∧ Pot P' l ∧ Ex G1 G' ∧ 0 ≤ b' ∧ b' < 1 + r1 ∧ 0 ≤ a' ∧ a' < 1 + r1, ?_, ?_⟩
      · refine ⟨_, rfl, _, _, rfl, rfl, _, rfl, ?_⟩
        by_cases hk : 1 < r2
        · refine itT hk ⟨_, rfl, .inl ⟨_, rfl, _, rfl, _, _, rfl, rfl, hn0, ?_⟩⟩
          have q0 := Int.emod_nonneg (0 + (i : Int)) (show (1 + r1) ≠ 0 by omega)
          have q1 := Int.emod_lt_of_pos (0 + (i : Int)) hn0
          refine ⟨_, rfl, _, rfl, _, _, rfl, rfl, .inl ⟨_, rfl, _, rfl, _, _, rfl, rfl, hn0, (by show 2 ≤ sizeLine; decide), fun t ht => ?_⟩⟩
          have j7 := j6.newG (o := .tup [.int ((0 + (i : Int)) % (1 + r1)), .int ((((0 + (i : Int)) % (1 + r1)) + 1) % (1 + r1))]) ht
          refine ⟨_, rfl, l, 3, _, P6, rfl, j7, hP6, by decide, by decide, fun d3 P7 H7 d30 d31 j8 hP7 => ⟨_, _, rfl, rfl, .inr ⟨_, rfl, ?_⟩⟩⟩
          have hx : ∃ v : Int, atI [V.int ((0 + (i : Int)) % (1 + r1)), V.int ((((0 + (i : Int)) % (1 + r1)) + 1) % (1 + r1))] (if decide (0 < d3) = true then 1 else 0) = some (.int v) ∧ 0 ≤ v ∧ v < 1 + r1 := by
            by_cases h3 : 0 < d3
            · rw [if_pos (decide_eq_true h3)]
              exact ⟨_, atI_int (by decide) rfl, Int.emod_nonneg _ (by omega), Int.emod_lt_of_pos _ hn0⟩
            · rw [if_neg (by rw [decide_eq_false h3]; decide)]
              exact ⟨_, atI_int (by decide) rfl, q0, q1⟩
          obtain ⟨v, hv1, hv2, hv3⟩ := hx
          exact ⟨t, _, _, _, rfl, rfl, sqT (j8.g _ _ upd_same), hv1, _, P7, _, _, rfl, j8, hP7, Ex.new (j6.ng ht), q0, q1, hv2, hv3⟩
        · exact itF hk ⟨G1, P6, _, _, rfl, j6, hP6, Ex.refl _, d10, d11, d20, d21⟩
      clear j6 hP6
      rintro σ' H7 ⟨G2, P7, b', a', rfl, j7, hP7, e7, hb0, hb1, ha0, ha1⟩
      -- tries
      refine ⟨fun σ' H' => ∃ (P' : Hp) (w' : Int), σ' = [some (.ref l), some (.int a), some (.int b), some (.int (1 + r1)), some (.int r2), some (.ref L), some (.int (0 + i)), some (.int w'), s8, some (.int b'), some (.int a')] ∧ Join G2 P' H' ∧ Pot P' l ∧ 1 ≤ w' ∧ w' ≤ 3, ?_, ?_⟩
      · refine ⟨_, rfl, rfl, _, rfl, ?_⟩
        by_cases hk : r2 = 1
        · exact itT (congrArg V.int hk) ⟨P7, 1, rfl, j7, hP7, by decide, by decide⟩
        · refine itF (fun q => hk (V.int.inj q)) ⟨_, rfl, l, 3, G2, P7, rfl, j7, hP7, by decide, by decide, fun d3 P8 H8 d30 d31 j8 hP8 => ⟨_, _, rfl, rfl, P8, _, rfl, j8, hP8, by omega, by omega⟩⟩
      clear j7 hP7
      rintro σ' H8 ⟨P8, w', rfl, j8, hP8, hw1, hw2⟩
      -- points
      refine ⟨fun σ' H' => ∃ (P' : Hp) (x' : Int), σ' = [some (.ref l), some (.int a), some (.int b), some (.int (1 + r1)), some (.int r2), some (.ref L), some (.int (0 + i)), some (.int w'), some (.int x'), some (.int b'), some (.int a')] ∧ Join G2 P' H' ∧ Pot P' l ∧ -4 ≤ x' ∧ x' ≤ 4, ?_, ?_⟩
      · refine ⟨_, rfl, rfl, _, rfl, ?_⟩
        by_cases hk : r2 = 1
        · exact itT (congrArg V.int hk) ⟨_, rfl, l, 2, G2, P8, rfl, j8, hP8, by decide, by decide, fun d3 P9 H9 d30 d31 j9 hP9 => ⟨P9, _, rfl, j9, hP9, by omega, by omega⟩⟩
        · exact itF (fun q => hk (V.int.inj q)) ⟨_, rfl, l, 9, G2, P8, rfl, j8, hP8, by decide, by decide, fun d3 P9 H9 d30 d31 j9 hP9 => ⟨_, _, rfl, rfl, P9, _, rfl, j9, hP9, by omega, by omega⟩⟩
      clear j8 hP8
      rintro σ' H9 ⟨P9, x', rfl, j9, hP9, hx1, hx2⟩
      -- append
      have hL2 := e7 _ _ hL
      refine ⟨_, rfl, .inl ⟨rfl, _, sqL (j9.g _ _ hL2)⟩, _, rfl, _, rfl, _, rfl, _, rfl, (by show 4 ≤ sizeLine; decide), fun t ht => ?_⟩
      have nLt : L ≠ t := ne_of_none (j9.g _ _ hL2) ht
      have j10 := j9.newG (o := .tup (evV ⟨b', a', w', x'⟩)) ht
      have e10 : Ex G2 _ := Ex.new (o := .tup (evV ⟨b', a', w', x'⟩)) (j9.ng ht)
      have hL3 := e10 _ _ hL2
      refine ⟨L, vs, .ref t, rfl, rfl, Eq.trans (upd_ne nLt) (j9.g _ _ hL2), szlt ?_, ?_⟩
      · rw [hv.1]; omega
      · refine ⟨_, P9, vs ++ [.ref t], es ++ [⟨b', a', w', x'⟩], _, _, _, _, _, rfl, j10.setG (j10.gp hL3), hP9, ?_, upd_same, ((hv.mono (e7.trans e10)).upd hL3).add ?_, by simp [hlen], fun e he => ?_⟩
        · exact ((eG.trans e7).trans e10).mut gL
        · rw [upd_ne nLt.symm, upd_same]
        · rcases List.mem_append.mp he with q | q
          · exact hes e q
          · simp at q
            rw [q]
            exact ⟨hb0, hb1, ha0, ha1, hw1, hw2, hx1, hx2⟩
    · rintro σ H4 ⟨G1, P4, vs, es, s6, s7, s8, s9, s10, rfl, j, hP, eG, hL, hv, hlen, hes⟩
      refine ⟨_, rfl, _, rfl, L, _, rfl, .inl ⟨sqL (j.g _ _ hL), fun t ht => ⟨(by show 2 ≤ sizeLine; decide), fun p hp => ?_⟩⟩⟩
      have j5 := j.newG (o := .tup vs) ht
      have e5 : Ex G1 _ := Ex.new (o := .tup vs) (j.ng ht)
      have j6 := j5.newG (o := .tup [.int (1 + r1), .ref t]) hp
      have e6 := Ex.new (o := .tup [.int (1 + r1), .ref t]) (j5.ng hp)
      exact k p (1 + r1) es _ P4 _ ((eG.trans e5).trans e6) j6 hP ⟨t, upd_same, vs, e6 _ _ upd_same, hv.mono (e5.trans e6)⟩ (by omega) (by omega) (by omega) (by omega) hes
end X

namespace X
open PySem PySem.Spec PyProof.Rows L2 Lv
variable {P : Program} {w : World} {K : PySem.W.Frag} {mg : Str → Option Value} {base : Heap}
def sp_step_at (K : PySem.W.Frag) : Sp := fun vs H Q _ => ∃ (m : Addr) (k : Nat) (n : Int) (es : List Ev) (e : Ev), vs = [.ref m, .int k] ∧ MachK K H m n es ∧ es[k]? = some e ∧ ∀ t, H t = some (.tup (evV e)) → Q (.ref t) H
theorem sc_step_at : FnScope ["machine", "event"] ["machine", "event"] (defScope s_step_at) := ⟨rfl, rfl, rfl, by decide +kernel, rfl, by decide +kernel, by decide +kernel⟩
theorem ok_step_at (T : Txt K mg) : ∃ fd, Dn P w K mg base (L2.CX P w) 1 "step_at" ["machine", "event"] (sp_step_at K) fd := by
  obtain ⟨fd, F⟩ := T.d_step_at
  refine ⟨fd, F.ok sc_step_at (fun vs H Q E h => ?_) (fun cdv A outer s H vs Q E hr h => ?_), T.g_step_at, F.kp, F.bindsN fun _ _ _ _ _ _ us hl => match us, hl with | [_, _], _ => rfl, Lv.fun_lk F⟩
  · obtain ⟨_, _, _, _, _, rfl, _⟩ := h
    rfl
  · have hu := hu_of hr
    refine ⟨_, PSs.nox (pss_one (ps_ret (pe_ix ix_tup (pe_fld (pv 0) rfl) (pv 1) (fun _ _ => rfl)))), ?_⟩
    obtain ⟨m, k, n, es, e, rfl, ⟨C, hC, dx, t, ko, ks, h1, ⟨vs, h2, hv⟩, h3⟩, he, q⟩ := h
    obtain ⟨te, r1, r2⟩ := hv.2 k e he
    exact ⟨_, rfl, m, _, dx, _, _, rfl, h1, hC.c, hC.ne, ml2 _ _ _, _, rfl, t, vs, k, _, rfl, rfl, sqT h2, atI_nat r1, q te r2⟩
def sp_is_event_of (K : PySem.W.Frag) : Sp := fun vs H Q _ => ∃ (m : Addr) (i n : Int) (es : List Ev), vs = [.ref m, .int i] ∧ MachK K H m n es ∧ Q (.bl (decide (0 ≤ i ∧ i ≤ (es.length : Int) - 1))) H
theorem sc_is_event_of : FnScope ["machine", "thing"] ["machine", "thing"] (defScope s_is_event_of) := ⟨rfl, rfl, rfl, by decide +kernel, rfl, by decide +kernel, by decide +kernel⟩
theorem ok_is_event_of (T : Txt K mg) {fd_is_within : FuncData} (G_is_within : Dn P w K mg base (L2.CX P w) 2 "is_within" ["thing", "least", "most"] (sp_is_within K) fd_is_within) : ∃ fd, Dn P w K mg base (L2.CX P w) 3 "is_event_of" ["machine", "thing"] (sp_is_event_of K) fd := by
  obtain ⟨fd, F⟩ := T.d_is_event_of
  refine ⟨fd, F.ok sc_is_event_of (fun vs H Q E h => ?_) (fun cdv A outer s H vs Q E hr h => ?_), T.g_is_event_of, F.kp, F.bindsN fun _ _ _ _ _ _ us hl => match us, hl with | [_, _], _ => rfl, Lv.fun_lk F⟩
  · obtain ⟨_, _, _, _, rfl, _⟩ := h
    rfl
  · have hu := hu_of hr
    have hr_is_within : Room 2 _ := hr.mono (by decide)
    refine ⟨_, PSs.nox (pss_one (ps_ret (pe_call G_is_within.ok hr_is_within rfl G_is_within.mg G_is_within.kp G_is_within.b .nil passL (pa_cons (pv 1) (pa_cons pe_int (pa_cons (pe_op op_sub (pe_callB call_len (by rfl) T.n_len PySem.boot_len (pa_cons (pe_fld (pv 0) rfl) pa_nil)) pe_int) pa_nil)))))), ?_⟩
    obtain ⟨m, i, n, es, rfl, ⟨C, hC, dx, t, ko, ks, h1, ⟨vs, h2, hv⟩, h3⟩, q⟩ := h
    refine ⟨_, rfl, _, rfl, m, _, dx, _, _, rfl, h1, hC.c, hC.ne, ml2 _ _ _, _, _, rfl, .inr ⟨_, sqT h2, rfl⟩, _, _, rfl, rfl, i, 0, _, rfl, ?_⟩
    rw [hv.1]
    exact q
def sp_is_run_there (K : PySem.W.Frag) : Sp := fun vs H Q _ => ∃ (m r : Addr) (n : Int) (es : List Ev) (rs : List Nat) (G P : Hp), vs = [.ref m, .ref r] ∧ Join G P H ∧ MachK K G m n es ∧ G r = some (.tup (rV rs)) ∧ rs.length ≤ 10000 ∧ IsRun es rs ∧
  ∀ G' H', Ex G G' → Join G' P H' → Q (.bl true) H'
theorem sc_is_run_there : FnScope ["machine", "thing", "standing", "event"] ["machine", "thing"] (defScope s_is_run_there) := ⟨rfl, rfl, rfl, by decide +kernel, rfl, by decide +kernel, by decide +kernel⟩
theorem ok_is_run_there (T : Txt K mg) {fd_is_event_of : FuncData} (G_is_event_of : Dn P w K mg base (L2.CX P w) 3 "is_event_of" ["machine", "thing"] (sp_is_event_of K) fd_is_event_of) {fd_step_at : FuncData} (G_step_at : Dn P w K mg base (L2.CX P w) 1 "step_at" ["machine", "event"] (sp_step_at K) fd_step_at) : ∃ fd, Dn P w K mg base (L2.CX P w) 4 "is_run_there" ["machine", "thing"] (sp_is_run_there K) fd := by
  obtain ⟨fd, F⟩ := T.d_is_run_there
  refine ⟨fd, F.ok sc_is_run_there (fun vs H Q E h => ?_) (fun cdv A outer s H vs Q E hr h => ?_), T.g_is_run_there, F.kp, F.bindsN fun _ _ _ _ _ _ us hl => match us, hl with | [_, _], _ => rfl, Lv.fun_lk F⟩
  · obtain ⟨_, _, _, _, _, _, _, rfl, _⟩ := h
    rfl
  · have hu := hu_of hr
    have hr_is_event_of : Room 3 _ := hr.mono (by decide)
    have hr_step_at : Room 1 _ := hr.mono (by decide)
    refine ⟨_, PSs.nox (pss_cons (ps_if (PW.pt (pw_or (pt_not (pt_val (pe_callB call_isi (by rfl) T.n_isinstance (by decide +kernel) (pa_cons (pv 1) (pa_cons (pe_bltn (v := .ty "tuple") (by rfl) T.n_tuple (by decide +kernel) rfl) pa_nil))))) (pw_or1 (pt_not (pt_val (pe_callB (cr_all rfl) (by rfl) T.n_all (by decide +kernel) (pa_cons (pe_lc (own := [("event", 3)]) (g := gName 3) (tt := tYes) rfl sc_is_run_there.nd (pi_tup (pv 1)) (blkOk_by (N := ["machine", "thing", "standing", "event"]) (sc := defScope s_is_run_there) (by decide +kernel)) (fun _ _ _ _ _ => (pg_name (i := 3) sc_is_run_there.nd rfl (Or.inl rfl) (hf := Or.inr rfl))) (fun _ _ _ _ _ => pts_nil) (fun _ _ _ _ _ => (pe_call G_is_event_of.ok hr_is_event_of rfl G_is_event_of.mg G_is_event_of.kp G_is_event_of.b .nil passL (pa_cons (pv 0) (pa_cons (pv 3) pa_nil))))) pa_nil))))))) (pss_one (ps_ret pe_bl)) pss_nil)
      (pss_cons (ps_set (i := 2) sc_is_run_there.nd rfl (Or.inl rfl) pe_int)
      (pss_cons (ps_for PassesOwn.never rfl (pi_tup (pv 1)) (pg_name (i := 3) sc_is_run_there.nd rfl (Or.inl rfl)) (pss_cons (ps_if (pt_cmpR op_ne (pe_ix ix_tup (pe_call G_step_at.ok hr_step_at rfl G_step_at.mg G_step_at.kp G_step_at.b .nil passL (pa_cons (pv 0) (pa_cons (pv 3) pa_nil))) pe_int (fun _ _ => rfl)) (pv 2) (nomark _)) (pss_one (ps_ret pe_bl)) pss_nil)
      (pss_one (ps_set (i := 2) sc_is_run_there.nd rfl (Or.inl rfl) (pe_ix ix_tup (pe_call G_step_at.ok hr_step_at rfl G_step_at.mg G_step_at.kp G_step_at.b .nil passL (pa_cons (pv 0) (pa_cons (pv 3) pa_nil))) pe_int (fun _ _ => rfl))))))
      (pss_one (ps_ret pe_bl))))), ?_⟩
    obtain ⟨m, r, n, es, rs, G, P0, rfl, j, hm, hr0, hl, ⟨z, hz⟩, q⟩ := h
    have hlv : (rV rs).length = rs.length := by simp [rV]
    refine ⟨_, rfl, _, _, _, _, true, rfl, .ty _, .base (.tup (j.g _ _ hr0)), kit_ty (by decide +kernel), true, rfl, iteF ?_⟩
    refine ⟨_, rfl, r, rfl, ⟨_, sqT (j.g _ _ hr0)⟩, fun D hD => ?_⟩
    refine lc_mapT (xs := rV rs) (fun _ => V.bl true) hD j (sqT hr0) (by omega) (fun _ => rfl) ?_ ?_
    · intro x G1 H1 R hx e1 j1 k1
      obtain ⟨i, hi⟩ := List.getElem?_of_mem hx
      obtain ⟨k, hk, rfl⟩ := rV_at hi
      obtain ⟨y, e, _, he, _⟩ := leads_at hz hk
      have hlt : k < es.length := (List.getElem?_eq_some_iff.mp he).1
      refine ⟨_, rfl, _, rfl, m, k, n, es, rfl, (hm.mono e1).mono j1.exG, ?_⟩
      have q2 := k1 H1 (Ex.refl _)
      rw [decide_eq_true ⟨by omega, by omega⟩]
      exact q2
    intro G1 H1 e1 j1 hD1
    have hm1 : MachK K H1 m n es := (hm.mono e1).mono j1.exG
    have hr1 := j1.g _ _ (e1 _ _ hr0)
    refine ⟨D, (rV rs).map fun _ => true, rfl, sqL (by rw [List.map_map]; exact j1.g _ _ hD1), true, congrArg V.bl (by simp), iteF ?_⟩
    refine ⟨_, rfl, r, rfl, ⟨_, sqT hr1⟩, for_tup (K := K) (a := r) (xs := rV rs) (fun i σ H' => ∃ (y : Int) (s3 : Option V), σ = [some (.ref m), some (.ref r), some (.int y), s3] ∧ H' = H1 ∧ leads es 0 (rs.take i) = some y)
      ⟨0, _, rfl, rfl, rfl⟩ (fun i σ H' _ ⟨_, _, _, e, _⟩ => by rw [e]; exact sqT hr1) ?_ ?_⟩
    · rintro i x σ H' hx ⟨y, s3, rfl, rfl, hy⟩
      obtain ⟨k, hk, rfl⟩ := rV_at hx
      obtain ⟨y', e, hy', he, hb, hn⟩ := leads_at hz hk
      have ey : y' = y := by rw [hy] at hy'; exact (Option.some.inj hy').symm
      subst ey
      refine ⟨_, rfl, _, rfl, m, k, n, es, e, rfl, hm1, he, fun te hte => ?_⟩
      refine ⟨te, _, 0, _, rfl, rfl, sqT hte, rfl, _, rfl, rfl, _, rfl, itNF (congrArg V.int hb) ?_⟩
      exact ⟨_, rfl, _, rfl, m, k, n, es, e, rfl, hm1, he, fun t2 ht2 => ⟨t2, _, 1, _, rfl, rfl, sqT ht2, rfl, _, _, rfl, rfl, hn⟩⟩
    · rintro σ H' ⟨y, s3, rfl, rfl, hy⟩
      exact q G1 _ e1 j1
def sp_check_run (K : PySem.W.Frag) : Sp := fun vs H Q _ => ∃ (m r : Addr) (n : Int) (es : List Ev) (rs : List Nat) (G P : Hp), vs = [.ref m, .ref r] ∧ Join G P H ∧ MachK K G m n es ∧ G r = some (.tup (rV rs)) ∧ rs.length ≤ 10000 ∧ IsRun es rs ∧
  ∀ G' H', Ex G G' → Join G' P H' → Q .non H'
theorem sc_check_run : FnScope ["machine", "thing"] ["machine", "thing"] (defScope s_check_run) := ⟨rfl, rfl, rfl, by decide +kernel, rfl, by decide +kernel, by decide +kernel⟩
theorem ok_check_run (T : Txt K mg) {fd_is_run_there : FuncData} (G_is_run_there : Dn P w K mg base (L2.CX P w) 4 "is_run_there" ["machine", "thing"] (sp_is_run_there K) fd_is_run_there) : ∃ fd, Dn P w K mg base (L2.CX P w) 5 "check_run" ["machine", "thing"] (sp_check_run K) fd := by
  obtain ⟨fd, F⟩ := T.d_check_run
  refine ⟨fd, F.ok sc_check_run (fun vs H Q E h => ?_) (fun cdv A outer s H vs Q E hr h => ?_), T.g_check_run, F.kp, F.bindsN fun _ _ _ _ _ _ us hl => match us, hl with | [_, _], _ => rfl, Lv.fun_lk F⟩
  · obtain ⟨_, _, _, _, _, _, _, rfl, _⟩ := h
    rfl
  · have hu := hu_of hr
    have hr_is_run_there : Room 4 _ := hr.mono (by decide)
    refine ⟨_, PSs.nox (pss_one (ps_if (pt_not (pt_val (pe_call G_is_run_there.ok hr_is_run_there rfl G_is_run_there.mg G_is_run_there.kp G_is_run_there.b .nil passL (pa_cons (pv 0) (pa_cons (pv 1) pa_nil))))) (pss_one ps_never) pss_nil)), ?_⟩
    obtain ⟨m, r, n, es, rs, G, P0, rfl, j, hm, hr0, hl, hz, q⟩ := h
    exact ⟨_, rfl, _, rfl, m, r, n, es, rs, G, P0, rfl, j, hm, hr0, hl, hz, fun G1 H1 e1 j1 => ⟨true, rfl, iteF (q G1 H1 e1 j1)⟩⟩
/-- a new list of the boards -/
def spBoards (K : PySem.W.Frag) : Sp := fun vs H Q _ => ∃ (m r : Addr) (n : Int) (es : List Ev) (rs : List Nat) (G P : Hp), vs = [.ref m, .ref r] ∧ Join G P H ∧ MachK K G m n es ∧ G r = some (.tup (rV rs)) ∧ rs.length ≤ 10000 ∧ IsRun es rs ∧
  ∀ (p : Addr) (ws : List V) (G' H' : Hp), Ex G G' → Join G' P H' → H p = none → G' p = some (.lst ws) → TupL iV G' ws (boardsOf es rs) → Q (.ref p) H'
theorem sc_boards_of : FnScope ["machine", "run", "tries", "points", "found", "event", "step"] ["machine", "run"] (defScope s_boards_of) := ⟨rfl, rfl, rfl, by decide +kernel, rfl, by decide +kernel, by decide +kernel⟩
theorem ok_boards_of (T : Txt K mg) {fd_step_at : FuncData} (G_step_at : Dn P w K mg base (L2.CX P w) 1 "step_at" ["machine", "event"] (sp_step_at K) fd_step_at) : ∃ fd, Dn P w K mg base (L2.CX P w) 2 "boards_of" ["machine", "run"] (spBoards K) fd := by
  obtain ⟨fd, F⟩ := T.d_boards_of
  refine ⟨fd, F.ok sc_boards_of (fun vs H Q E h => ?_) (fun cdv A outer s H vs Q E hr h => ?_), T.g_boards_of, F.kp, F.bindsN fun _ _ _ _ _ _ us hl => match us, hl with | [_, _], _ => rfl, Lv.fun_lk F⟩
  · obtain ⟨_, _, _, _, _, _, _, rfl, _⟩ := h
    rfl
  · have hu := hu_of hr
    have hr_step_at : Room 1 _ := hr.mono (by decide)
    refine ⟨_, PSs.nox (pss_cons (ps_set (i := 2) sc_boards_of.nd rfl (Or.inl rfl) pe_int)
      (pss_cons (ps_set (i := 3) sc_boards_of.nd rfl (Or.inl rfl) pe_int)
      (pss_cons (ps_set (i := 4) sc_boards_of.nd rfl (Or.inl rfl) (pe_lst pa_nil))
      (pss_cons (ps_for PassesOwn.never rfl (pi_tup (pv 1)) (pg_name (i := 5) sc_boards_of.nd rfl (Or.inl rfl)) (pss_cons (ps_set (i := 6) sc_boards_of.nd rfl (Or.inl rfl) (pe_call G_step_at.ok hr_step_at rfl G_step_at.mg G_step_at.kp G_step_at.b .nil passL (pa_cons (pv 0) (pa_cons (pv 5) pa_nil))))
      (pss_cons (ps_aug (i := 2) sc_boards_of.nd rfl (.inl rfl) (pe_ix ix_tup (pv 6) pe_int (fun _ _ => rfl)) ip_add)
      (pss_cons (ps_aug (i := 3) sc_boards_of.nd rfl (.inl rfl) (pe_ix ix_tup (pv 6) pe_int (fun _ _ => rfl)) ip_add)
      (pss_one (ps_expr (pe_bm PySem.F.plainAttrs_list PySem.F.slot_list_append PySem.F.type_list_append mt_append (pv 4) (pa_cons (pe_tup (pa_cons (pv 2) (pa_cons (pv 3) pa_nil))) pa_nil))))))))
      (pss_one (ps_ret (pv 4))))))), ?_⟩
    obtain ⟨m, r, n, es, rs, G, P0, rfl, j, hm, hr0, hl, ⟨z, hz⟩, q⟩ := h
    refine ⟨Nat.zero_le _, fun L hL => ?_⟩
    have gL := j.ng hL
    have j1 := j.newG (o := .lst []) hL
    have e1 : Ex G _ := Ex.new (o := .lst []) gL
    refine ⟨_, rfl, r, rfl, ⟨_, sqT (j1.g _ _ (e1 _ _ hr0))⟩, for_tup (K := K) (a := r) (xs := rV rs) (fun i σ H' => ∃ (G' : Hp) (ws : List V) (s5 s6 : Option V), σ = [some (.ref m), some (.ref r), some (.int (sumW es (rs.take i))), some (.int (sumX es (rs.take i))), some (.ref L), s5, s6] ∧ Join G' P0 H' ∧ Ex G G' ∧ G' L = some (.lst ws) ∧ TupL iV G' ws (boardsTo es rs i))
      ⟨_, [], _, _, rfl, j1, e1, upd_same, TupL.nil⟩ ?_ ?_ ?_⟩
    · rintro i σ H' _ ⟨G', ws, s5, s6, rfl, j', e', hw, ht⟩
      exact sqT (j'.g _ _ (e' _ _ hr0))
    · rintro i x σ H' hx ⟨G', ws, s5, s6, rfl, j', e', hw, ht⟩
      obtain ⟨k, hk, rfl⟩ := rV_at hx
      obtain ⟨y', e, hy', he, hb, hn⟩ := leads_at hz hk
      have hi : i < rs.length := (List.getElem?_eq_some_iff.mp hk).1
      refine ⟨_, rfl, _, rfl, m, k, n, es, e, rfl, (hm.mono e').mono j'.exG, he, fun te hte => ?_⟩
      refine ⟨_, rfl, _, rfl, te, _, 2, _, rfl, rfl, sqT hte, rfl, _, _, rfl, rfl, ?_⟩
      refine ⟨_, rfl, _, rfl, te, _, 3, _, rfl, rfl, sqT hte, rfl, _, _, rfl, rfl, ?_⟩
      refine ⟨_, rfl, .inl ⟨rfl, _, sqL (j'.g _ _ hw)⟩, _, rfl, _, rfl, (by show 2 ≤ sizeLine; decide), fun t2 ht2 => ?_⟩
      have nL : L ≠ t2 := ne_of_none (j'.g _ _ hw) ht2
      have j5 := j'.newG (o := .tup (iV [sumW es (rs.take i) + e.w, sumX es (rs.take i) + e.x])) ht2
      have e5 : Ex G' _ := Ex.new (o := .tup (iV [sumW es (rs.take i) + e.w, sumX es (rs.take i) + e.x])) (j'.ng ht2)
      have hl2 : ws.length = i := by rw [ht.1]; simp [boardsTo]
      refine ⟨L, ws, _, rfl, rfl, Eq.trans (upd_ne nL) (j'.g _ _ hw), szlt (by omega), ?_⟩
      refine ⟨_, _, some (.int k), some (.ref te), ?_, j5.setG (j5.gp (e5 _ _ hw)), (e'.trans e5).mut gL, upd_same, ?_⟩
      · rw [sumW_more hk he, sumX_more hk he]; rfl
      · rw [boardsTo_more, sumW_more hk he, sumX_more hk he]
        exact ((ht.mono e5).upd (e5 _ _ hw)).add (by rw [upd_ne nL.symm, upd_same])
    · rintro σ H' ⟨G', ws, s5, s6, rfl, j', e', hw, ht⟩
      refine ⟨_, rfl, q L ws G' H' e' j' hL hw ?_⟩
      have e2 : boardsOf es rs = boardsTo es rs (rV rs).length := by simp [boardsOf, boardsTo, rV]
      rw [e2]; exact ht
theorem sc_boards : FnScope ["machine", "run"] ["machine", "run"] (defScope s_boards) := ⟨rfl, rfl, rfl, by decide +kernel, rfl, by decide +kernel, by decide +kernel⟩
theorem ok_boards (T : Txt K mg) {fd_check_run : FuncData} (G_check_run : Dn P w K mg base (L2.CX P w) 5 "check_run" ["machine", "thing"] (sp_check_run K) fd_check_run) {fd_boards_of : FuncData} (G_boards_of : Dn P w K mg base (L2.CX P w) 2 "boards_of" ["machine", "run"] (spBoards K) fd_boards_of) : ∃ fd, Dn P w K mg base (L2.CX P w) 6 "boards" ["machine", "run"] (spBoards K) fd := by
  obtain ⟨fd, F⟩ := T.d_boards
  refine ⟨fd, F.ok sc_boards (fun vs H Q E h => ?_) (fun cdv A outer s H vs Q E hr h => ?_), T.g_boards, F.kp, F.bindsN fun _ _ _ _ _ _ us hl => match us, hl with | [_, _], _ => rfl, Lv.fun_lk F⟩
  · obtain ⟨_, _, _, _, _, _, _, rfl, _⟩ := h
    rfl
  · have hu := hu_of hr
    have hr_check_run : Room 5 _ := hr.mono (by decide)
    have hr_boards_of : Room 2 _ := hr.mono (by decide)
    refine ⟨_, PSs.nox (pss_cons (ps_expr (pe_call G_check_run.ok hr_check_run rfl G_check_run.mg G_check_run.kp G_check_run.b .nil passL (pa_cons (pv 0) (pa_cons (pv 1) pa_nil))))
      (pss_one (ps_ret (pe_call G_boards_of.ok hr_boards_of rfl G_boards_of.mg G_boards_of.kp G_boards_of.b .nil passL (pa_cons (pv 0) (pa_cons (pv 1) pa_nil)))))), ?_⟩
    obtain ⟨m, r, n, es, rs, G, P0, rfl, j, hm, hr0, hl, hz, q⟩ := h
    refine ⟨_, rfl, _, rfl, m, r, n, es, rs, G, P0, rfl, j, hm, hr0, hl, hz, fun G1 H1 e1 j1 => ?_⟩
    refine ⟨_, rfl, _, rfl, m, r, n, es, rs, G1, P0, rfl, j1, hm.mono e1, e1 _ _ hr0, hl, hz, fun p ws G2 H2 e2 j2 hp hw ht => ?_⟩
    exact q p ws G2 H2 (e1.trans e2) j2 ((j.exH e1 j1).back hp) hw ht
end X

namespace X
open PySem PySem.Spec PyProof.Rows L2 Lv
variable {P : Program} {w : World} {K : PySem.W.Frag} {mg : Str → Option Value} {base : Heap}
def sp_led (K : PySem.W.Frag) : Sp := fun vs H Q _ => ∃ (m r : Addr) (n : Int) (es : List Ev) (rs : List Nat) (z : Int), vs = [.ref m, .ref r] ∧ MachK K H m n es ∧ H r = some (.tup (rV rs)) ∧ leads es 0 rs = some z ∧ Q (.int z) H
def sp_ends_at (K : PySem.W.Frag) : Sp := fun vs H Q _ => ∃ (m r : Addr) (n : Int) (es : List Ev) (rs : List Nat) (z : Int) (G P : Hp), vs = [.ref m, .ref r] ∧ Join G P H ∧ MachK K G m n es ∧ G r = some (.tup (rV rs)) ∧ rs.length ≤ 10000 ∧ leads es 0 rs = some z ∧
  ∀ G' H', Ex G G' → Join G' P H' → Q (.int z) H'
/-- a board's share -/
def lowL : List Int → List Int
  | [w, x] => [x / (Int.gcd x w : Nat), w / (Int.gcd x w : Nat)]
  | _ => []
def EvW (es : List Ev) : Prop := ∀ e ∈ es, 1 ≤ e.w ∧ e.w ≤ 1000000000000
theorem sumW_le {es : List Ev} (hw : EvW es) {rs : List Nat} {z : Int} (hz : leads es 0 rs = some z) : ∀ n, n ≤ rs.length → (n : Int) ≤ sumW es (rs.take n) ∧ sumW es (rs.take n) ≤ n * 1000000000000
  | 0, _ => by simp [sumW]
  | n + 1, hn => by
    obtain ⟨k, hk⟩ : ∃ k, rs[n]? = some k := ⟨_, List.getElem?_eq_getElem (by omega)⟩
    obtain ⟨y, e, _, he, _⟩ := leads_at hz hk
    have ih := sumW_le hw hz n (by omega)
    have h1 := hw e (List.mem_of_getElem? he)
    rw [sumW_more hk he]
    omega
theorem sumX_le {es : List Ev} {c : Int} (hx : ∀ e ∈ es, -c ≤ e.x ∧ e.x ≤ c) {rs : List Nat} {z : Int} (hz : leads es 0 rs = some z) : ∀ n, n ≤ rs.length → -((n : Int) * c) ≤ sumX es (rs.take n) ∧ sumX es (rs.take n) ≤ (n : Int) * c
  | 0, _ => by simp [sumX]
  | n + 1, hn => by
    obtain ⟨k, hk⟩ : ∃ k, rs[n]? = some k := ⟨_, List.getElem?_eq_getElem (by omega)⟩
    obtain ⟨y, e, _, he, _⟩ := leads_at hz hk
    have ih := sumX_le hx hz n (by omega)
    have h1 := hx e (List.mem_of_getElem? he)
    rw [sumX_more hk he]
    have h2 : ((n + 1 : Nat) : Int) * c = (n : Int) * c + c := by
      rw [Int.natCast_add, Int.add_mul]; simp
    rw [h2]
    omega
def spShares (K : PySem.W.Frag) : Sp := fun vs H Q _ => ∃ (m r : Addr) (n : Int) (es : List Ev) (rs : List Nat) (G P : Hp), vs = [.ref m, .ref r] ∧ Join G P H ∧ MachK K G m n es ∧ G r = some (.tup (rV rs)) ∧ rs.length ≤ 10000 ∧ IsRun es rs ∧ EvW es ∧
  ∀ (p : Addr) (ws : List V) (G' H' : Hp), Ex G G' → Join G' P H' → H p = none → G' p = some (.lst ws) → TupL iV G' ws ((boardsOf es rs).map lowL) → Q (.ref p) H'
end X

namespace X
open PySem PySem.Spec PyProof.Rows L2 Lv
variable {P : Program} {w : World} {K : PySem.W.Frag} {mg : Str → Option Value} {base : Heap}
/-- a new list of the numbers of the events that lead from a standing -/
def spOut : Sp := fun vs H Q _ => ∃ (p : Addr) (s : Nat) (n : Int) (es : List Ev) (G P : Hp), vs = [.ref p, .int s] ∧ Join G P H ∧ PartsAt G p n es ∧ es.length ≤ 10000 ∧
  ∀ (q : Addr) (G' H' : Hp), Ex G G' → Join G' P H' → H q = none → G' q = some (.lst ((outs 0 es s).map V.int)) → Q (.ref q) H'
theorem sc_l_out : FnScope ["_law_parts_here", "_law_standing", "_law_number"] ["_law_parts_here", "_law_standing"] (defScope s_l_out) := ⟨rfl, rfl, rfl, by decide +kernel, rfl, by decide +kernel, by decide +kernel⟩
theorem ok_l_out (T : Txt K mg) : ∃ fd, Dn P w K mg base (L2.CX P w) 1 "_law_out" ["_law_parts_here", "_law_standing"] spOut fd := by
  obtain ⟨fd, F⟩ := T.d_l_out
  refine ⟨fd, F.ok sc_l_out (fun vs H Q E h => ?_) (fun cdv A outer s H vs Q E hr h => ?_), T.g_l_out, F.kp, F.bindsN fun _ _ _ _ _ _ us hl => match us, hl with | [_, _], _ => rfl, Lv.fun_lk F⟩
  · obtain ⟨_, _, _, _, _, _, rfl, _⟩ := h
    rfl
  · have hu := hu_of hr
    refine ⟨_, PSs.nox (pss_one (ps_ret (pe_lc (own := [("_law_number", 2)]) (g := gName 2) rfl sc_l_out.nd (pi_range1 (by rfl) T.n_range (pa_cons (pe_callB call_len (by rfl) T.n_len PySem.boot_len (pa_cons (pe_ix ix_tup (pv 0) pe_int (fun _ _ => rfl)) pa_nil)) pa_nil)) (blkOk_by (N := ["_law_parts_here", "_law_standing", "_law_number"]) (sc := defScope s_l_out) (by decide +kernel)) (fun _ _ _ _ _ => (pg_name (i := 2) sc_l_out.nd rfl (Or.inl rfl) (hf := Or.inr rfl))) (fun _ _ _ _ _ => (pts_one (pt_cmpR op_eq (pe_ix (ix_tupK (K := K) rfl) (pe_ix (ix_tupK (K := K) rfl) (pe_ix (ix_tupK (K := K) rfl) (pv 0) pe_int (fun _ _ => rfl)) (pv 2) (fun _ _ => rfl)) pe_int (fun _ _ => rfl)) (pv 1) (nomark _)))) (fun _ _ _ _ _ => (pv 2))))), ?_⟩
    obtain ⟨p, s', n, es, G, P0, rfl, j, ⟨t, hp, vs, ht, hv⟩, hl, q⟩ := h
    have e0 : ((0 : Int) + (0 : Nat)) = 0 := rfl
    refine ⟨_, rfl, p, _, 1, _, rfl, rfl, sqT (j.g _ _ hp), rfl, _, _, rfl, .inr ⟨_, sqT (j.g _ _ ht), rfl⟩, _, rfl, by omega, by have := hv.1; omega, fun D hD => ?_⟩
    have en : ((vs.length : Int)).toNat = es.length := by rw [hv.1]; simp
    refine lcG_range (lo := 0) (n := ((vs.length : Int)).toNat) (fun P' => P' = P0) (fun i us G' => us = (outs 0 (es.take i) s').map V.int) hD j rfl rfl (fun i us G2 _ _ _ h => h) (fun i us G2 h => ?_) ?_ ?_
    · rw [h, List.length_map]
      have h1 := outs_len s' (es.take i) 0
      rw [List.length_take] at h1
      omega
    · intro i us G' P' H' R R0 hi e' hI hP' j' kR kR0
      subst hP'
      rw [en] at hi
      obtain ⟨e, he⟩ : ∃ e, es[i]? = some e := ⟨_, List.getElem?_eq_getElem hi⟩
      obtain ⟨te, r1, r2⟩ := hv.2 i e he
      have ei : (0 : Int) + (i : Int) = (i : Int) := by omega
      have h1 := j'.g _ _ (e' _ _ hp)
      have h2 := j'.g _ _ (e' _ _ ht)
      have h3 := j'.g _ _ (e' _ _ r2)
      have el : 0 + (es.take i).length = i := by rw [List.length_take]; omega
      refine ⟨rfl, _, rfl, p, _, 1, _, rfl, rfl, sqT h1, rfl, _, rfl, t, _, (0 + (i : Int)), .ref te, rfl, rfl, sqT h2, by rw [ei]; exact atI_nat r1, te, _, 0, _, rfl, rfl, sqT h3, rfl, _, rfl, rfl, _, rfl, ?_⟩
      by_cases hb : e.b = (s' : Int)
      · refine itT (congrArg V.int hb) ⟨_, rfl, ?_⟩
        refine kR _ G' _ H' (Ex.refl _) rfl j' ?_
        rw [hI, take_more he, outs_app, if_pos hb, List.map_append, el, ei]; rfl
      · refine itF (fun z => hb (V.int.inj z)) ?_
        refine kR0 G' _ H' (Ex.refl _) rfl j' ?_
        rw [hI, take_more he, outs_app, if_neg hb, List.append_nil]
    · intro us G' P' H' e' hd hI hP' j'
      subst hP'
      rw [en, List.take_length] at hI
      rw [hI] at hd
      exact q D G' H' e' j' hD hd
theorem outs_mem {s : Nat} {v : Int} : ∀ (l : List Ev) (k : Nat), v ∈ outs k l s → ∃ i e, v = ((k + i : Nat) : Int) ∧ l[i]? = some e ∧ e.b = (s : Int)
  | [], _, h => by cases h
  | a :: r, k, h => by
    have h2 : v ∈ (if a.b = (s : Int) then (k : Int) :: outs (k + 1) r s else outs (k + 1) r s) := h
    have hrec : v ∈ outs (k + 1) r s → ∃ i e, v = ((k + i : Nat) : Int) ∧ (a :: r)[i]? = some e ∧ e.b = (s : Int) := fun h3 => by
      obtain ⟨i, e, e1, e2, e3⟩ := outs_mem r (k + 1) h3
      exact ⟨i + 1, e, by rw [e1]; congr 1; omega, by simpa using e2, e3⟩
    by_cases hb : a.b = (s : Int)
    · rw [if_pos hb] at h2
      rcases List.mem_cons.mp h2 with q | q
      · exact ⟨0, a, by rw [q]; simp, rfl, hb⟩
      · exact hrec q
    · rw [if_neg hb] at h2
      exact hrec h2
/-- a drawn run -/
def spWalk : Sp := fun vs H Q _ => ∃ (l p : Addr) (m : Nat) (n : Int) (es : List Ev) (G P : Hp), vs = [.ref l, .ref p, .int m] ∧ Join G P H ∧ Pot P l ∧ PartsAt G p n es ∧ es.length ≤ 10000 ∧ (∀ e ∈ es, 0 ≤ e.a) ∧ m ≤ 1000 ∧
  ∀ (r : Addr) (rs : List Nat) (G' P' H' : Hp), Ex G G' → Join G' P' H' → Pot P' l → G' r = some (.tup (rV rs)) → rs.length ≤ m → IsRun es rs → Q (.ref r) H'
theorem sc_l_walk : FnScope ["_law_pot_here", "_law_parts_here", "_law_many", "_law_run", "_law_standing", "_law_turn", "_law_some"] ["_law_pot_here", "_law_parts_here", "_law_many"] (defScope s_l_walk) := ⟨rfl, rfl, rfl, by decide +kernel, rfl, by decide +kernel, by decide +kernel⟩
theorem ok_l_walk (T : Txt K mg) {fd_l_out : FuncData} (G_l_out : Dn P w K mg base (L2.CX P w) 1 "_law_out" ["_law_parts_here", "_law_standing"] spOut fd_l_out) {fd_l_draw : FuncData} (G_l_draw : Dn P w K mg base (L2.CX P w) 1 "_law_draw" ["_law_pot_here", "_law_many"] spDraw fd_l_draw) : ∃ fd, Dn P w K mg base (L2.CX P w) 2 "_law_walk" ["_law_pot_here", "_law_parts_here", "_law_many"] spWalk fd := by
  obtain ⟨fd, F⟩ := T.d_l_walk
  refine ⟨fd, F.ok sc_l_walk (fun vs H Q E h => ?_) (fun cdv A outer s H vs Q E hr h => ?_), T.g_l_walk, F.kp, F.bindsN fun _ _ _ _ _ _ us hl => match us, hl with | [_, _, _], _ => rfl, Lv.fun_lk F⟩
  · obtain ⟨_, _, _, _, _, _, _, rfl, _⟩ := h
    rfl
  · have hu := hu_of hr
    have hr_l_out : Room 1 _ := hr.mono (by decide)
    have hr_l_draw : Room 1 _ := hr.mono (by decide)
    refine ⟨_, PSs.nox (pss_cons (ps_set (i := 3) sc_l_walk.nd rfl (Or.inl rfl) (pe_lst pa_nil))
      (pss_cons (ps_set (i := 4) sc_l_walk.nd rfl (Or.inl rfl) pe_int)
      (pss_cons (ps_for PassesOwn.never rfl (pi_range1 (by rfl) T.n_range (pa_cons (pv 2) pa_nil)) (pg_name (i := 5) sc_l_walk.nd rfl (Or.inl rfl)) (pss_cons (ps_set (i := 6) sc_l_walk.nd rfl (Or.inl rfl) (pe_call G_l_out.ok hr_l_out rfl G_l_out.mg G_l_out.kp G_l_out.b .nil passL (pa_cons (pv 1) (pa_cons (pv 4) pa_nil))))
      (pss_cons (ps_if (pt_cmpR op_eq (pe_callB call_len_seq (by rfl) T.n_len PySem.boot_len (pa_cons (pv 6) pa_nil)) pe_int (nomark _)) (pss_one ps_break) pss_nil)
      (pss_cons (ps_expr (pe_bm PySem.F.plainAttrs_list PySem.F.slot_list_append PySem.F.type_list_append mt_append (pv 3) (pa_cons (pe_ix ix_list (pv 6) (pe_call G_l_draw.ok hr_l_draw rfl G_l_draw.mg G_l_draw.kp G_l_draw.b .nil passL (pa_cons (pv 0) (pa_cons (pe_callB call_len_seq (by rfl) T.n_len PySem.boot_len (pa_cons (pv 6) pa_nil)) pa_nil))) (fun _ _ => rfl)) pa_nil)))
      (pss_one (ps_set (i := 4) sc_l_walk.nd rfl (Or.inl rfl) (pe_ix ix_tup (pe_ix ix_tup (pe_ix ix_tup (pv 1) pe_int (fun _ _ => rfl)) (pe_ix ix_list (pv 3) (pe_un un_neg pe_int) (fun _ _ => rfl)) (fun _ _ => rfl)) pe_int (fun _ _ => rfl))))))))
      (pss_one (ps_ret (pe_callTy call_tuple_of (by rfl) T.n_tuple (by decide +kernel) (pa_cons (pv 3) pa_nil))))))), ?_⟩
    obtain ⟨l, p, m, n, es, G, P0, rfl, j, hP, hpt, hl, hpos, hm, q⟩ := h
    refine ⟨Nat.zero_le _, fun L hL => ?_⟩
    have gL := j.ng hL
    have j1 := j.newG (o := .lst (rV [])) hL
    refine ⟨_, rfl, m, rfl, by omega, by omega, ?_⟩
    refine for_range (lo := 0) (n := ((m : Int)).toNat) (fun i σ H' => ∃ (G1 P1 : Hp) (rs : List Nat) (z : Nat) (s5 s6 : Option V), σ = [some (.ref l), some (.ref p), some (.int m), some (.ref L), some (.int z), s5, s6] ∧ Join G1 P1 H' ∧ Pot P1 l ∧ Ex G G1 ∧ G1 L = some (.lst (rV rs)) ∧ rs.length ≤ i ∧ leads es 0 rs = some (z : Int))
      ⟨_, P0, [], 0, _, _, rfl, j1, hP, Ex.new gL, upd_same, Nat.le_refl _, rfl⟩ ?_ ?_
    · rintro i σ H1 hi ⟨G1, P1, rs, z, s5, s6, rfl, j2, hP1, e1, hL1, hlen, hz⟩
      refine ⟨_, rfl, _, rfl, p, z, n, es, G1, P1, rfl, j2, hpt.mono e1, hl, fun q1 G2 H2 e2 j3 hq1 hq2 => ?_⟩
      have hL2 := e2 _ _ hL1
      refine ⟨_, rfl, q1, _, rfl, .inl (sqL (j3.g _ _ hq2)), rfl, _, rfl, ?_⟩
      by_cases h0 : (((outs 0 es z).map V.int).length : Int) = 0
      · refine itT (congrArg V.int h0) ?_
        refine ⟨_, rfl, L, _, rfl, .inl ⟨sqL (j3.g _ _ hL2), fun t ht => ?_⟩⟩
        exact q t rs _ P1 _ ((e1.trans e2).trans (Ex.new (j3.ng ht))) (j3.newG ht) hP1 upd_same (by omega) ⟨_, hz⟩
      · refine itF (fun w => h0 (V.int.inj w)) ?_
        have hpos0 : (0 : Int) < (((outs 0 es z).map V.int).length : Int) := by omega
        have hsm : (((outs 0 es z).map V.int).length : Int) < 2 ^ 200 := by
          have h1 := outs_len z es 0
          rw [List.length_map]
          exact Int.lt_of_lt_of_le (b := 20000) (by omega) (by decide)
        refine ⟨_, rfl, .inl ⟨rfl, _, sqL (j3.g _ _ hL2)⟩, _, rfl, _, rfl, _, rfl, q1, _, rfl, .inl (sqL (j3.g _ _ hq2)), l, _, G2, P1, rfl, j3, hP1, hpos0, hsm, fun d P2 H3 d0 d1 j4 hP2 => ?_⟩
        obtain ⟨v, hv⟩ : ∃ v, (outs 0 es z)[d.toNat]? = some v := ⟨_, List.getElem?_eq_getElem (by rw [List.length_map] at d1; omega)⟩
        obtain ⟨k, e, ek, he, heb⟩ := outs_mem es 0 (List.mem_of_getElem? hv)
        rw [Nat.zero_add] at ek
        subst ek
        refine ⟨q1, _, d, .int (k : Int), rfl, rfl, sqL (j4.g _ _ hq2), atI_int d0 (by rw [List.getElem?_map, hv]; rfl), L, rV rs, _, rfl, rfl, j4.g _ _ hL2, szlt (by simp [rV]; omega), ?_⟩
        have er : rV rs ++ [V.int (k : Int)] = rV (rs ++ [k]) := by simp [rV]
        have j5 := j4.setG (o := .lst (rV rs ++ [V.int (k : Int)])) (j4.gp hL2)
        have e5 : Ex G _ := (e1.trans e2).mut (p := L) (o := .lst (rV rs ++ [V.int (k : Int)])) gL
        have hL5 : (upd G2 L (.lst (rV rs ++ [V.int (k : Int)]))) L = _ := upd_same
        generalize (upd G2 L (.lst (rV rs ++ [V.int (k : Int)]))) = G5 at j5 e5 hL5
        obtain ⟨t, hp5, vs, ht5, hv5⟩ := hpt.mono e5
        obtain ⟨te, r1, r2⟩ := hv5.2 k e he
        refine ⟨_, rfl, p, _, 1, _, rfl, rfl, sqT (j5.g _ _ hp5), rfl, _, rfl, _, rfl, L, _, -1, .int (k : Int), rfl, rfl, sqL (j5.g _ _ hL5), atI_last _ _, t, vs, k, .ref te, rfl, rfl, sqT (j5.g _ _ ht5), atI_nat r1, te, _, 1, _, rfl, rfl, sqT (j5.g _ _ r2), rfl, ?_⟩
        have ha := hpos e (List.mem_of_getElem? he)
        refine ⟨G5, P2, rs ++ [k], e.a.toNat, some (.int (0 + i)), some (.ref q1), ?_, j5, hP2, e5, by rw [← er]; exact hL5, by simp; omega, ?_⟩
        · rw [show ((e.a.toNat : Nat) : Int) = e.a by omega]; rfl
        · rw [leads_app, hz]
          show (match es[k]? with | some e => if e.b = (z : Int) then leads es e.a [] else none | none => none) = some ((e.a.toNat : Nat) : Int)
          rw [he]
          show (if e.b = (z : Int) then some e.a else none) = _
          rw [if_pos heb, show ((e.a.toNat : Nat) : Int) = e.a by omega]
    · rintro σ H1 ⟨G1, P1, rs, z, s5, s6, rfl, j2, hP1, e1, hL1, hlen, hz⟩
      refine ⟨_, rfl, L, _, rfl, .inl ⟨sqL (j2.g _ _ hL1), fun t ht => ?_⟩⟩
      exact q t rs _ P1 _ (e1.trans (Ex.new (j2.ng ht))) (j2.newG ht) hP1 upd_same (by omega) ⟨_, hz⟩
end X

namespace X
open PySem PySem.Spec PyProof.Rows L2 Lv
variable {P : Program} {w : World} {K : PySem.W.Frag} {mg : Str → Option Value} {base : Heap}
def sp_check_event (K : PySem.W.Frag) : Sp := fun vs H Q _ => ∃ (m : Addr) (k : Nat) (n : Int) (es : List Ev), vs = [.ref m, .int k] ∧ MachK K H m n es ∧ k < es.length ∧ Q .non H
theorem sc_check_event : FnScope ["machine", "thing"] ["machine", "thing"] (defScope s_check_event) := ⟨rfl, rfl, rfl, by decide +kernel, rfl, by decide +kernel, by decide +kernel⟩
theorem ok_check_event (T : Txt K mg) {fd_is_event_of : FuncData} (G_is_event_of : Dn P w K mg base (L2.CX P w) 3 "is_event_of" ["machine", "thing"] (sp_is_event_of K) fd_is_event_of) : ∃ fd, Dn P w K mg base (L2.CX P w) 4 "check_event" ["machine", "thing"] (sp_check_event K) fd := by
  obtain ⟨fd, F⟩ := T.d_check_event
  refine ⟨fd, F.ok sc_check_event (fun vs H Q E h => ?_) (fun cdv A outer s H vs Q E hr h => ?_), T.g_check_event, F.kp, F.bindsN fun _ _ _ _ _ _ us hl => match us, hl with | [_, _], _ => rfl, Lv.fun_lk F⟩
  · obtain ⟨_, _, _, _, rfl, _⟩ := h
    rfl
  · have hu := hu_of hr
    have hr_is_event_of : Room 3 _ := hr.mono (by decide)
    refine ⟨_, PSs.nox (pss_one (ps_if (pt_not (pt_val (pe_call G_is_event_of.ok hr_is_event_of rfl G_is_event_of.mg G_is_event_of.kp G_is_event_of.b .nil passL (pa_cons (pv 0) (pa_cons (pv 1) pa_nil))))) (pss_one ps_never) pss_nil)), ?_⟩
    obtain ⟨m, k, n, es, rfl, hM, hk, q⟩ := h
    (repeat first | ((with_reducible apply Lv.w_seq)) | ((with_reducible apply Lv.w_var); (focus (exact rfl))) | ((with_reducible apply Lv.w_op)) | ((with_reducible apply Lv.w_c)) | ((with_reducible apply Lv.w_cons)) | ((with_reducible apply Lv.w_nil)) | ((with_reducible apply Lv.w_rI0)) | ((with_reducible apply Lv.w_asg)) | ((with_reducible apply Lv.w_name)) | ((with_reducible apply Lv.w_call)) | ((with_reducible apply Lv.w_tof)) | ((with_reducible apply Lv.w_lof)) | ((with_reducible apply Lv.w_abs)) | ((with_reducible apply Lv.w_int1)) | ((with_reducible apply Lv.w_lenv)) | ((with_reducible apply Lv.w_lens)) | ((with_reducible apply Lv.w_cb)) | ((with_reducible apply Lv.w_rabs)) | ((with_reducible apply Lv.w_rint)) | ((with_reducible apply Lv.w_rintb)) | ((with_reducible apply Lv.w_rlenT); (focus (first | assumption | (exact Lv.Join.g (by assumption) _ _ (by assumption))))) | ((with_reducible apply Lv.w_rlenL); (focus (first | assumption | (exact Lv.Join.g (by assumption) _ _ (by assumption))))) | ((with_reducible apply Lv.w_slenT); (focus (first | assumption | (exact Lv.Join.g (by assumption) _ _ (by assumption))))) | ((with_reducible apply Lv.w_slenL); (focus (first | assumption | (exact Lv.Join.g (by assumption) _ _ (by assumption))))) | ((with_reducible apply Lv.w_klenT); (focus (first | assumption | (exact Lv.Join.g (by assumption) _ _ (by assumption))))) | ((with_reducible apply Lv.w_klenL); (focus (first | assumption | (exact Lv.Join.g (by assumption) _ _ (by assumption))))) | ((with_reducible apply Lv.w_bm)) | ((with_reducible apply Lv.w_bm0)) | ((with_reducible apply Lv.w_bml); (focus (first | assumption | (exact Lv.Join.g (by assumption) _ _ (by assumption))))) | ((with_reducible apply Lv.w_tup)) | ((with_reducible apply Lv.w_lst)) | ((with_reducible apply Lv.w_fld)) | ((with_reducible apply Lv.w_un)) | ((with_reducible apply Lv.w_rU)) | ((with_reducible apply Lv.w_ret)) | ((with_reducible apply Lv.w_retN)) | ((with_reducible apply Lv.w_next)) | ((with_reducible apply Lv.w_drop)) | ((with_reducible apply Lv.w_ifS)) | ((with_reducible apply Lv.w_gcons); (focus (exact rfl))) | ((with_reducible apply Lv.w_gnil); (focus (exact rfl))) | ((with_reducible apply Lv.w_gtup); (focus (first | assumption | (exact Lv.Join.g (by assumption) _ _ (by assumption)))); (focus (exact rfl))) | ((with_reducible apply Lv.w_eq); (focus (exact rfl))) | ((with_reducible apply Lv.w_ne); (focus (exact rfl))) | ((with_reducible apply Lv.w_tB)) | ((with_reducible apply Lv.w_test)) | ((with_reducible apply Lv.w_bl)) | ((with_reducible apply Lv.w_and)) | ((with_reducible apply Lv.w_or)) | ((with_reducible apply Lv.w_not)) | ((with_reducible apply Lv.w_andV)) | ((with_reducible apply Lv.w_orV)) | ((with_reducible apply Lv.w_notV)) | ((with_reducible apply Lv.w_ifT)) | ((with_reducible apply Lv.w_ifF)) | ((with_reducible apply Lv.w_ifNT)) | ((with_reducible apply Lv.w_ifNF)) | ((with_reducible apply Lv.w_yes)) | ((with_reducible apply Lv.w_ixT); (focus (first | assumption | (exact Lv.Join.g (by assumption) _ _ (by assumption)))); (focus (exact rfl))) | ((with_reducible apply Lv.w_aug); (focus (exact rfl))) | ((with_reducible apply Lv.w_rAdd)) | ((with_reducible apply Lv.w_rSub)) | ((with_reducible apply Lv.w_lcL)) | ((with_reducible apply Lv.w_lcT)) | ((with_reducible apply Lv.w_lcR)) | ((with_reducible apply Lv.w_sl)) | ((with_reducible apply Lv.w_npart)) | ((with_reducible apply Lv.w_part)) | ((with_reducible apply Lv.w_pint)) | ((with_reducible apply Lv.w_forR)) | ((with_reducible apply Lv.w_forR2)) | ((with_reducible apply Lv.w_par)) | ((with_reducible apply Lv.w_apar)) | ((with_reducible apply Lv.w_lcR2)) | ((with_reducible apply Lv.w_lcE)) | ((with_reducible apply Lv.w_isB)) | ((with_reducible apply Lv.w_isNB)) | ((with_reducible apply Lv.w_forL)) | ((with_reducible apply Lv.w_forT)) | ((with_reducible apply Lv.w_brk)) | ((with_reducible apply Lv.w_cont)) | ((with_reducible apply Lv.w_meth)) | ((with_reducible apply Lv.w_make)))
    refine ⟨m, k, n, es, rfl, hM, ?_⟩
    rw [decide_eq_true ⟨by omega, by omega⟩]
    (repeat first | ((with_reducible apply Lv.w_seq)) | ((with_reducible apply Lv.w_var); (focus (exact rfl))) | ((with_reducible apply Lv.w_op)) | ((with_reducible apply Lv.w_c)) | ((with_reducible apply Lv.w_cons)) | ((with_reducible apply Lv.w_nil)) | ((with_reducible apply Lv.w_rI0)) | ((with_reducible apply Lv.w_asg)) | ((with_reducible apply Lv.w_name)) | ((with_reducible apply Lv.w_call)) | ((with_reducible apply Lv.w_tof)) | ((with_reducible apply Lv.w_lof)) | ((with_reducible apply Lv.w_abs)) | ((with_reducible apply Lv.w_int1)) | ((with_reducible apply Lv.w_lenv)) | ((with_reducible apply Lv.w_lens)) | ((with_reducible apply Lv.w_cb)) | ((with_reducible apply Lv.w_rabs)) | ((with_reducible apply Lv.w_rint)) | ((with_reducible apply Lv.w_rintb)) | ((with_reducible apply Lv.w_rlenT); (focus (first | assumption | (exact Lv.Join.g (by assumption) _ _ (by assumption))))) | ((with_reducible apply Lv.w_rlenL); (focus (first | assumption | (exact Lv.Join.g (by assumption) _ _ (by assumption))))) | ((with_reducible apply Lv.w_slenT); (focus (first | assumption | (exact Lv.Join.g (by assumption) _ _ (by assumption))))) | ((with_reducible apply Lv.w_slenL); (focus (first | assumption | (exact Lv.Join.g (by assumption) _ _ (by assumption))))) | ((with_reducible apply Lv.w_klenT); (focus (first | assumption | (exact Lv.Join.g (by assumption) _ _ (by assumption))))) | ((with_reducible apply Lv.w_klenL); (focus (first | assumption | (exact Lv.Join.g (by assumption) _ _ (by assumption))))) | ((with_reducible apply Lv.w_bm)) | ((with_reducible apply Lv.w_bm0)) | ((with_reducible apply Lv.w_bml); (focus (first | assumption | (exact Lv.Join.g (by assumption) _ _ (by assumption))))) | ((with_reducible apply Lv.w_tup)) | ((with_reducible apply Lv.w_lst)) | ((with_reducible apply Lv.w_fld)) | ((with_reducible apply Lv.w_un)) | ((with_reducible apply Lv.w_rU)) | ((with_reducible apply Lv.w_ret)) | ((with_reducible apply Lv.w_retN)) | ((with_reducible apply Lv.w_next)) | ((with_reducible apply Lv.w_drop)) | ((with_reducible apply Lv.w_ifS)) | ((with_reducible apply Lv.w_gcons); (focus (exact rfl))) | ((with_reducible apply Lv.w_gnil); (focus (exact rfl))) | ((with_reducible apply Lv.w_gtup); (focus (first | assumption | (exact Lv.Join.g (by assumption) _ _ (by assumption)))); (focus (exact rfl))) | ((with_reducible apply Lv.w_eq); (focus (exact rfl))) | ((with_reducible apply Lv.w_ne); (focus (exact rfl))) | ((with_reducible apply Lv.w_tB)) | ((with_reducible apply Lv.w_test)) | ((with_reducible apply Lv.w_bl)) | ((with_reducible apply Lv.w_and)) | ((with_reducible apply Lv.w_or)) | ((with_reducible apply Lv.w_not)) | ((with_reducible apply Lv.w_andV)) | ((with_reducible apply Lv.w_orV)) | ((with_reducible apply Lv.w_notV)) | ((with_reducible apply Lv.w_ifT)) | ((with_reducible apply Lv.w_ifF)) | ((with_reducible apply Lv.w_ifNT)) | ((with_reducible apply Lv.w_ifNF)) | ((with_reducible apply Lv.w_yes)) | ((with_reducible apply Lv.w_ixT); (focus (first | assumption | (exact Lv.Join.g (by assumption) _ _ (by assumption)))); (focus (exact rfl))) | ((with_reducible apply Lv.w_aug); (focus (exact rfl))) | ((with_reducible apply Lv.w_rAdd)) | ((with_reducible apply Lv.w_rSub)) | ((with_reducible apply Lv.w_lcL)) | ((with_reducible apply Lv.w_lcT)) | ((with_reducible apply Lv.w_lcR)) | ((with_reducible apply Lv.w_sl)) | ((with_reducible apply Lv.w_npart)) | ((with_reducible apply Lv.w_part)) | ((with_reducible apply Lv.w_pint)) | ((with_reducible apply Lv.w_forR)) | ((with_reducible apply Lv.w_forR2)) | ((with_reducible apply Lv.w_par)) | ((with_reducible apply Lv.w_apar)) | ((with_reducible apply Lv.w_lcR2)) | ((with_reducible apply Lv.w_lcE)) | ((with_reducible apply Lv.w_isB)) | ((with_reducible apply Lv.w_isNB)) | ((with_reducible apply Lv.w_forL)) | ((with_reducible apply Lv.w_forT)) | ((with_reducible apply Lv.w_brk)) | ((with_reducible apply Lv.w_cont)) | ((with_reducible apply Lv.w_meth)) | ((with_reducible apply Lv.w_make)))
    exact q
/-- a share in lowest terms, of small numbers -/
def ShareAt (G : Hp) (p : Addr) (a b : Int) : Prop := G p = some (.tup [.int a, .int b]) ∧ 1 ≤ b ∧ Int.gcd a b = 1 ∧ a.natAbs < 2 ^ 400 ∧ b.natAbs < 2 ^ 400
theorem ShareAt.mono {G G' : Hp} {p : Addr} {a b : Int} (e : Ex G G') (h : ShareAt G p a b) : ShareAt G' p a b := ⟨e _ _ h.1, h.2⟩
def liftE (a b : Int) (e : Ev) : Int := b * e.x - a * e.w
def liftAt (a b : Int) (es : List Ev) (k : Nat) : Int := ((es[k]?).map (liftE a b)).getD 0
def spLift (K : PySem.W.Frag) : Sp := fun vs H Q _ => ∃ (m p : Addr) (k : Nat) (n a b : Int) (es : List Ev) (e : Ev), vs = [.ref m, .ref p, .int k] ∧ MachK K H m n es ∧ ShareAt H p a b ∧ EvB n es ∧ es[k]? = some e ∧ Q (.int (liftE a b e)) H
theorem sh_mul {a e : Int} (h : a.natAbs < 2 ^ 400) (h1 : -1000000000000 ≤ e) (h2 : e ≤ 1000000000000) : CMulW a e := mulW (Nat.lt_of_lt_of_le h (Nat.pow_le_pow_right (by decide) (by decide))) (big15 (by omega) (by omega))
def valOf (a b : Int) (es : List Ev) (rs : List Nat) : Int := b * sumX es rs - a * sumW es rs
theorem val_sum (a b : Int) (es : List Ev) : ∀ rs : List Nat, (rs.map (liftAt a b es)).sum = valOf a b es rs
  | [] => by simp [valOf, sumX, sumW]
  | k :: r => by
    have ih := val_sum a b es r
    rw [List.map_cons, List.sum_cons, ih]
    unfold valOf sumX sumW liftAt
    rw [List.map_cons, List.map_cons, List.sum_cons, List.sum_cons]
    cases es[k]? with
    | none => simp
    | some e => simp [liftE, Int.mul_add]; omega
def spValue (K : PySem.W.Frag) : Sp := fun vs H Q _ => ∃ (m p r : Addr) (n a b : Int) (es : List Ev) (rs : List Nat) (G P : Hp), vs = [.ref m, .ref p, .ref r] ∧ Join G P H ∧ MachK K G m n es ∧ ShareAt G p a b ∧ EvB n es ∧ G r = some (.tup (rV rs)) ∧ rs.length ≤ 10000 ∧ IsRun es rs ∧
  ∀ G' H', Ex G G' → Join G' P H' → Q (.int (valOf a b es rs)) H'
/-- a drawn share -/
def spShare (K : PySem.W.Frag) : Sp := fun vs H Q _ => ∃ (l : Addr) (d : Int) (G P : Hp), vs = [.ref l, .int d] ∧ Join G P H ∧ Pot P l ∧ 1 ≤ d ∧ d ≤ 1000 ∧
  ∀ (p : Addr) (a b : Int) (G' P' H' : Hp), Ex G G' → Join G' P' H' → Pot P' l → ShareAt G' p a b → -d ≤ a → a ≤ 2 * d → b ≤ d → Q (.ref p) H'
theorem shareAt_low {G : Hp} {p : Addr} {a b : Int} (hb : 0 < b) (ha : a.natAbs < 2 ^ 400) (hb2 : b.natAbs < 2 ^ 400) (h : G p = some (.tup [.int (a / (Int.gcd a b : Nat)), .int (b / (Int.gcd a b : Nat))])) : ShareAt G p (a / (Int.gcd a b : Nat)) (b / (Int.gcd a b : Nat)) := by
  obtain ⟨q1, q2, q3, q4⟩ := low_facts (a := a) hb
  exact ⟨h, q1, q2, Nat.lt_of_le_of_lt q3 ha, Nat.lt_of_le_of_lt q4 hb2⟩
theorem big400 {a : Int} (h1 : -1000000000000000000000 ≤ a) (h2 : a ≤ 1000000000000000000000) : a.natAbs < 2 ^ 400 := Nat.lt_of_lt_of_le (big199 h1 h2) (Nat.pow_le_pow_right (by decide) (by decide))
theorem ediv_low {a k lo hi : Int} (hk : 1 ≤ k) (h1 : lo ≤ a) (h2 : a ≤ hi) (hl : lo ≤ 0) (hh : 0 ≤ hi) : lo ≤ a / k ∧ a / k ≤ hi := by
  constructor
  · by_cases h : 0 ≤ a
    · have := Int.ediv_nonneg h (show 0 ≤ k by omega); omega
    · have := Int.le_ediv_of_mul_le (a := a) (b := a) (c := k) (by omega) (by
        have : a * (k - 1) ≤ 0 := Int.mul_nonpos_of_nonpos_of_nonneg (by omega) (by omega)
        rw [Int.mul_sub, Int.mul_one] at this; omega)
      omega
  · by_cases h : 0 ≤ a
    · have := Int.ediv_le_self k h; omega
    · have := Int.ediv_le_ediv (c := k) (by omega) (show a ≤ 0 by omega); rw [Int.zero_ediv] at this; omega
def sp_l_lift (K : PySem.W.Frag) : Sp := fun vs H Q _ => ∃ (p t : Addr) (a b : Int) (e : Ev), vs = [.ref p, .ref t] ∧ ShareAt H p a b ∧ H t = some (.tup (evV e)) ∧ 1 ≤ e.w ∧ e.w ≤ 1000000000000 ∧ -1000000000000 ≤ e.x ∧ e.x ≤ 1000000000000 ∧ Q (.int (liftE a b e)) H
def sgn (a : Int) : Int := (if decide (0 < a) then 1 else 0) - (if decide (a < 0) then 1 else 0)
def sp_l_sign (K : PySem.W.Frag) : Sp := fun vs H Q _ => ∃ a : Int, vs = [.int a] ∧ Q (.int (sgn a)) H
end X

namespace X
open PySem PySem.Spec PyProof.Rows L2 Lv
variable {P : Program} {w : World} {K : PySem.W.Frag} {mg : Str → Option Value} {base : Heap}
theorem mc_R (T : Txt K mg) : MC K (He.ga K "RawMachine") := ⟨T.c_RawMachine, T.na_RawMachine_standings, T.na_RawMachine_events, T.na_RawMachine_kept_out, T.o_RawMachine, T.q_RawMachine⟩
theorem sc_RawMachine_init : FnScope ["self", "standings", "events"] ["self", "standings", "events"] (defScope s_RawMachine_init) := ⟨rfl, rfl, rfl, by decide +kernel, rfl, by decide +kernel, by decide +kernel⟩
theorem ok_RawMachine_init (T : Txt K mg) {fd_Machine_keep : FuncData} (G_Machine_keep : Dm P w K mg base (L2.CX P w) 1 "Machine" "keep" ["self", "standings", "events"] (spKeepM K) fd_Machine_keep) : ∃ fd, Dm P w K mg base (L2.CX P w) 2 "RawMachine" "__init__" ["self", "standings", "events"] (spKeep (He.ga K "RawMachine")) fd := by
  obtain ⟨fd, F⟩ := T.d_RawMachine_init
  refine ⟨fd, F.ok sc_RawMachine_init (fun vs H Q E h => ?_) (fun cdv A outer s H vs Q E hr h => ?_), F.bindsN fun _ _ _ _ _ _ us hl => match us, hl with | [_, _, _], _ => rfl, Lv.fun_lk F⟩
  · obtain ⟨_, _, _, _, _, _, _, rfl, _⟩ := h
    rfl
  · have hu := hu_of hr
    have hr_Machine_keep : Room 1 _ := hr.mono (by decide)
    refine ⟨_, PSs.nox (pss_one (ps_expr (pe_meth (pv 0) T.c_RawMachine (Lv.meth_cast T.me_RawMachine_keep T.j_RawMachine_keep) G_Machine_keep.ok hr_Machine_keep G_Machine_keep.b .nil passL (pa_cons (pv 1) (pa_cons (pv 2) pa_nil))))), ?_⟩
    obtain ⟨x, t, n, dx, es, G, P0, rfl, j, hx, hE, h1, h2, h3, hb, k⟩ := h
    (repeat first | ((with_reducible apply Lv.w_seq)) | ((with_reducible apply Lv.w_var); (focus (exact rfl))) | ((with_reducible apply Lv.w_op)) | ((with_reducible apply Lv.w_c)) | ((with_reducible apply Lv.w_cons)) | ((with_reducible apply Lv.w_nil)) | ((with_reducible apply Lv.w_rI0)) | ((with_reducible apply Lv.w_asg)) | ((with_reducible apply Lv.w_name)) | ((with_reducible apply Lv.w_call)) | ((with_reducible apply Lv.w_tof)) | ((with_reducible apply Lv.w_lof)) | ((with_reducible apply Lv.w_abs)) | ((with_reducible apply Lv.w_int1)) | ((with_reducible apply Lv.w_lenv)) | ((with_reducible apply Lv.w_lens)) | ((with_reducible apply Lv.w_cb)) | ((with_reducible apply Lv.w_rabs)) | ((with_reducible apply Lv.w_rint)) | ((with_reducible apply Lv.w_rintb)) | ((with_reducible apply Lv.w_rlenT); (focus (first | assumption | (exact Lv.Join.g (by assumption) _ _ (by assumption))))) | ((with_reducible apply Lv.w_rlenL); (focus (first | assumption | (exact Lv.Join.g (by assumption) _ _ (by assumption))))) | ((with_reducible apply Lv.w_slenT); (focus (first | assumption | (exact Lv.Join.g (by assumption) _ _ (by assumption))))) | ((with_reducible apply Lv.w_slenL); (focus (first | assumption | (exact Lv.Join.g (by assumption) _ _ (by assumption))))) | ((with_reducible apply Lv.w_klenT); (focus (first | assumption | (exact Lv.Join.g (by assumption) _ _ (by assumption))))) | ((with_reducible apply Lv.w_klenL); (focus (first | assumption | (exact Lv.Join.g (by assumption) _ _ (by assumption))))) | ((with_reducible apply Lv.w_bm)) | ((with_reducible apply Lv.w_bm0)) | ((with_reducible apply Lv.w_bml); (focus (first | assumption | (exact Lv.Join.g (by assumption) _ _ (by assumption))))) | ((with_reducible apply Lv.w_tup)) | ((with_reducible apply Lv.w_lst)) | ((with_reducible apply Lv.w_fld)) | ((with_reducible apply Lv.w_un)) | ((with_reducible apply Lv.w_rU)) | ((with_reducible apply Lv.w_ret)) | ((with_reducible apply Lv.w_retN)) | ((with_reducible apply Lv.w_next)) | ((with_reducible apply Lv.w_drop)) | ((with_reducible apply Lv.w_ifS)) | ((with_reducible apply Lv.w_gcons); (focus (exact rfl))) | ((with_reducible apply Lv.w_gnil); (focus (exact rfl))) | ((with_reducible apply Lv.w_gtup); (focus (first | assumption | (exact Lv.Join.g (by assumption) _ _ (by assumption)))); (focus (exact rfl))) | ((with_reducible apply Lv.w_eq); (focus (exact rfl))) | ((with_reducible apply Lv.w_ne); (focus (exact rfl))) | ((with_reducible apply Lv.w_tB)) | ((with_reducible apply Lv.w_test)) | ((with_reducible apply Lv.w_bl)) | ((with_reducible apply Lv.w_and)) | ((with_reducible apply Lv.w_or)) | ((with_reducible apply Lv.w_not)) | ((with_reducible apply Lv.w_andV)) | ((with_reducible apply Lv.w_orV)) | ((with_reducible apply Lv.w_notV)) | ((with_reducible apply Lv.w_ifT)) | ((with_reducible apply Lv.w_ifF)) | ((with_reducible apply Lv.w_ifNT)) | ((with_reducible apply Lv.w_ifNF)) | ((with_reducible apply Lv.w_yes)) | ((with_reducible apply Lv.w_ixT); (focus (first | assumption | (exact Lv.Join.g (by assumption) _ _ (by assumption)))); (focus (exact rfl))) | ((with_reducible apply Lv.w_aug); (focus (exact rfl))) | ((with_reducible apply Lv.w_rAdd)) | ((with_reducible apply Lv.w_rSub)) | ((with_reducible apply Lv.w_lcL)) | ((with_reducible apply Lv.w_lcT)) | ((with_reducible apply Lv.w_lcR)) | ((with_reducible apply Lv.w_sl)) | ((with_reducible apply Lv.w_npart)) | ((with_reducible apply Lv.w_part)) | ((with_reducible apply Lv.w_pint)) | ((with_reducible apply Lv.w_forR)) | ((with_reducible apply Lv.w_forR2)) | ((with_reducible apply Lv.w_par)) | ((with_reducible apply Lv.w_apar)) | ((with_reducible apply Lv.w_lcR2)) | ((with_reducible apply Lv.w_lcE)) | ((with_reducible apply Lv.w_isB)) | ((with_reducible apply Lv.w_isNB)) | ((with_reducible apply Lv.w_forL)) | ((with_reducible apply Lv.w_forT)) | ((with_reducible apply Lv.w_brk)) | ((with_reducible apply Lv.w_cont)) | ((with_reducible apply Lv.w_meth)) | ((with_reducible apply Lv.w_make)))
    refine aMeth.go j hx rfl ?_
    (repeat first | ((with_reducible apply Lv.w_seq)) | ((with_reducible apply Lv.w_var); (focus (exact rfl))) | ((with_reducible apply Lv.w_op)) | ((with_reducible apply Lv.w_c)) | ((with_reducible apply Lv.w_cons)) | ((with_reducible apply Lv.w_nil)) | ((with_reducible apply Lv.w_rI0)) | ((with_reducible apply Lv.w_asg)) | ((with_reducible apply Lv.w_name)) | ((with_reducible apply Lv.w_call)) | ((with_reducible apply Lv.w_tof)) | ((with_reducible apply Lv.w_lof)) | ((with_reducible apply Lv.w_abs)) | ((with_reducible apply Lv.w_int1)) | ((with_reducible apply Lv.w_lenv)) | ((with_reducible apply Lv.w_lens)) | ((with_reducible apply Lv.w_cb)) | ((with_reducible apply Lv.w_rabs)) | ((with_reducible apply Lv.w_rint)) | ((with_reducible apply Lv.w_rintb)) | ((with_reducible apply Lv.w_rlenT); (focus (first | assumption | (exact Lv.Join.g (by assumption) _ _ (by assumption))))) | ((with_reducible apply Lv.w_rlenL); (focus (first | assumption | (exact Lv.Join.g (by assumption) _ _ (by assumption))))) | ((with_reducible apply Lv.w_slenT); (focus (first | assumption | (exact Lv.Join.g (by assumption) _ _ (by assumption))))) | ((with_reducible apply Lv.w_slenL); (focus (first | assumption | (exact Lv.Join.g (by assumption) _ _ (by assumption))))) | ((with_reducible apply Lv.w_klenT); (focus (first | assumption | (exact Lv.Join.g (by assumption) _ _ (by assumption))))) | ((with_reducible apply Lv.w_klenL); (focus (first | assumption | (exact Lv.Join.g (by assumption) _ _ (by assumption))))) | ((with_reducible apply Lv.w_bm)) | ((with_reducible apply Lv.w_bm0)) | ((with_reducible apply Lv.w_bml); (focus (first | assumption | (exact Lv.Join.g (by assumption) _ _ (by assumption))))) | ((with_reducible apply Lv.w_tup)) | ((with_reducible apply Lv.w_lst)) | ((with_reducible apply Lv.w_fld)) | ((with_reducible apply Lv.w_un)) | ((with_reducible apply Lv.w_rU)) | ((with_reducible apply Lv.w_ret)) | ((with_reducible apply Lv.w_retN)) | ((with_reducible apply Lv.w_next)) | ((with_reducible apply Lv.w_drop)) | ((with_reducible apply Lv.w_ifS)) | ((with_reducible apply Lv.w_gcons); (focus (exact rfl))) | ((with_reducible apply Lv.w_gnil); (focus (exact rfl))) | ((with_reducible apply Lv.w_gtup); (focus (first | assumption | (exact Lv.Join.g (by assumption) _ _ (by assumption)))); (focus (exact rfl))) | ((with_reducible apply Lv.w_eq); (focus (exact rfl))) | ((with_reducible apply Lv.w_ne); (focus (exact rfl))) | ((with_reducible apply Lv.w_tB)) | ((with_reducible apply Lv.w_test)) | ((with_reducible apply Lv.w_bl)) | ((with_reducible apply Lv.w_and)) | ((with_reducible apply Lv.w_or)) | ((with_reducible apply Lv.w_not)) | ((with_reducible apply Lv.w_andV)) | ((with_reducible apply Lv.w_orV)) | ((with_reducible apply Lv.w_notV)) | ((with_reducible apply Lv.w_ifT)) | ((with_reducible apply Lv.w_ifF)) | ((with_reducible apply Lv.w_ifNT)) | ((with_reducible apply Lv.w_ifNF)) | ((with_reducible apply Lv.w_yes)) | ((with_reducible apply Lv.w_ixT); (focus (first | assumption | (exact Lv.Join.g (by assumption) _ _ (by assumption)))); (focus (exact rfl))) | ((with_reducible apply Lv.w_aug); (focus (exact rfl))) | ((with_reducible apply Lv.w_rAdd)) | ((with_reducible apply Lv.w_rSub)) | ((with_reducible apply Lv.w_lcL)) | ((with_reducible apply Lv.w_lcT)) | ((with_reducible apply Lv.w_lcR)) | ((with_reducible apply Lv.w_sl)) | ((with_reducible apply Lv.w_npart)) | ((with_reducible apply Lv.w_part)) | ((with_reducible apply Lv.w_pint)) | ((with_reducible apply Lv.w_forR)) | ((with_reducible apply Lv.w_forR2)) | ((with_reducible apply Lv.w_par)) | ((with_reducible apply Lv.w_apar)) | ((with_reducible apply Lv.w_lcR2)) | ((with_reducible apply Lv.w_lcE)) | ((with_reducible apply Lv.w_isB)) | ((with_reducible apply Lv.w_isNB)) | ((with_reducible apply Lv.w_forL)) | ((with_reducible apply Lv.w_forT)) | ((with_reducible apply Lv.w_brk)) | ((with_reducible apply Lv.w_cont)) | ((with_reducible apply Lv.w_meth)) | ((with_reducible apply Lv.w_make)))
    exact ⟨_, mc_R T, x, t, n, dx, es, G, P0, rfl, j, hx, hE, h1, h2, h3, hb, k⟩
/-- a new RawMachine of changed events -/
def spNewM (K : PySem.W.Frag) (n : Int) (es : List Ev) (G P H : Hp) (Q : VK) : Prop := ∀ p G' H', Ex G G' → Join G' P H' → H p = none → MachAt (He.ga K "RawMachine") G' p n es → Q (.ref p) H'
end X

namespace X
open PySem PySem.Spec PyProof.Rows L2 Lv
variable {P : Program} {w : World} {K : PySem.W.Frag} {mg : Str → Option Value} {base : Heap}
theorem sc_is_run : FnScope ["machine", "thing"] ["machine", "thing"] (defScope s_is_run) := ⟨rfl, rfl, rfl, by decide +kernel, rfl, by decide +kernel, by decide +kernel⟩
theorem ok_is_run (T : Txt K mg) {fd_is_run_there : FuncData} (G_is_run_there : Dn P w K mg base (L2.CX P w) 4 "is_run_there" ["machine", "thing"] (sp_is_run_there K) fd_is_run_there) : ∃ fd, Dn P w K mg base (L2.CX P w) 5 "is_run" ["machine", "thing"] (sp_is_run_there K) fd := by
  obtain ⟨fd, F⟩ := T.d_is_run
  refine ⟨fd, F.ok sc_is_run (fun vs H Q E h => ?_) (fun cdv A outer s H vs Q E hr h => ?_), T.g_is_run, F.kp, F.bindsN fun _ _ _ _ _ _ us hl => match us, hl with | [_, _], _ => rfl, Lv.fun_lk F⟩
  · obtain ⟨_, _, _, _, _, _, _, rfl, _⟩ := h
    rfl
  · have hu := hu_of hr
    have hr_is_run_there : Room 4 _ := hr.mono (by decide)
    refine ⟨_, PSs.nox (pss_one (ps_ret (pe_call G_is_run_there.ok hr_is_run_there rfl G_is_run_there.mg G_is_run_there.kp G_is_run_there.b .nil passL (pa_cons (pv 0) (pa_cons (pv 1) pa_nil))))), ?_⟩
    obtain ⟨m, r, n, es, rs, G, P0, rfl, j, hm, hr0, hl, hz, q⟩ := h
    (repeat first | ((with_reducible apply Lv.w_seq)) | ((with_reducible apply Lv.w_var); (focus (exact rfl))) | ((with_reducible apply Lv.w_op)) | ((with_reducible apply Lv.w_c)) | ((with_reducible apply Lv.w_cons)) | ((with_reducible apply Lv.w_nil)) | ((with_reducible apply Lv.w_rI0)) | ((with_reducible apply Lv.w_asg)) | ((with_reducible apply Lv.w_name)) | ((with_reducible apply Lv.w_call)) | ((with_reducible apply Lv.w_tof)) | ((with_reducible apply Lv.w_lof)) | ((with_reducible apply Lv.w_abs)) | ((with_reducible apply Lv.w_int1)) | ((with_reducible apply Lv.w_lenv)) | ((with_reducible apply Lv.w_lens)) | ((with_reducible apply Lv.w_cb)) | ((with_reducible apply Lv.w_rabs)) | ((with_reducible apply Lv.w_rint)) | ((with_reducible apply Lv.w_rintb)) | ((with_reducible apply Lv.w_rlenT); (focus (first | assumption | (exact Lv.Join.g (by assumption) _ _ (by assumption))))) | ((with_reducible apply Lv.w_rlenL); (focus (first | assumption | (exact Lv.Join.g (by assumption) _ _ (by assumption))))) | ((with_reducible apply Lv.w_slenT); (focus (first | assumption | (exact Lv.Join.g (by assumption) _ _ (by assumption))))) | ((with_reducible apply Lv.w_slenL); (focus (first | assumption | (exact Lv.Join.g (by assumption) _ _ (by assumption))))) | ((with_reducible apply Lv.w_klenT); (focus (first | assumption | (exact Lv.Join.g (by assumption) _ _ (by assumption))))) | ((with_reducible apply Lv.w_klenL); (focus (first | assumption | (exact Lv.Join.g (by assumption) _ _ (by assumption))))) | ((with_reducible apply Lv.w_bm)) | ((with_reducible apply Lv.w_bm0)) | ((with_reducible apply Lv.w_bml); (focus (first | assumption | (exact Lv.Join.g (by assumption) _ _ (by assumption))))) | ((with_reducible apply Lv.w_tup)) | ((with_reducible apply Lv.w_lst)) | ((with_reducible apply Lv.w_fld)) | ((with_reducible apply Lv.w_un)) | ((with_reducible apply Lv.w_rU)) | ((with_reducible apply Lv.w_ret)) | ((with_reducible apply Lv.w_retN)) | ((with_reducible apply Lv.w_next)) | ((with_reducible apply Lv.w_drop)) | ((with_reducible apply Lv.w_ifS)) | ((with_reducible apply Lv.w_gcons); (focus (exact rfl))) | ((with_reducible apply Lv.w_gnil); (focus (exact rfl))) | ((with_reducible apply Lv.w_gtup); (focus (first | assumption | (exact Lv.Join.g (by assumption) _ _ (by assumption)))); (focus (exact rfl))) | ((with_reducible apply Lv.w_eq); (focus (exact rfl))) | ((with_reducible apply Lv.w_ne); (focus (exact rfl))) | ((with_reducible apply Lv.w_tB)) | ((with_reducible apply Lv.w_test)) | ((with_reducible apply Lv.w_bl)) | ((with_reducible apply Lv.w_and)) | ((with_reducible apply Lv.w_or)) | ((with_reducible apply Lv.w_not)) | ((with_reducible apply Lv.w_andV)) | ((with_reducible apply Lv.w_orV)) | ((with_reducible apply Lv.w_notV)) | ((with_reducible apply Lv.w_ifT)) | ((with_reducible apply Lv.w_ifF)) | ((with_reducible apply Lv.w_ifNT)) | ((with_reducible apply Lv.w_ifNF)) | ((with_reducible apply Lv.w_yes)) | ((with_reducible apply Lv.w_ixT); (focus (first | assumption | (exact Lv.Join.g (by assumption) _ _ (by assumption)))); (focus (exact rfl))) | ((with_reducible apply Lv.w_aug); (focus (exact rfl))) | ((with_reducible apply Lv.w_rAdd)) | ((with_reducible apply Lv.w_rSub)) | ((with_reducible apply Lv.w_lcL)) | ((with_reducible apply Lv.w_lcT)) | ((with_reducible apply Lv.w_lcR)) | ((with_reducible apply Lv.w_sl)) | ((with_reducible apply Lv.w_npart)) | ((with_reducible apply Lv.w_part)) | ((with_reducible apply Lv.w_pint)) | ((with_reducible apply Lv.w_forR)) | ((with_reducible apply Lv.w_forR2)) | ((with_reducible apply Lv.w_par)) | ((with_reducible apply Lv.w_apar)) | ((with_reducible apply Lv.w_lcR2)) | ((with_reducible apply Lv.w_lcE)) | ((with_reducible apply Lv.w_isB)) | ((with_reducible apply Lv.w_isNB)) | ((with_reducible apply Lv.w_forL)) | ((with_reducible apply Lv.w_forT)) | ((with_reducible apply Lv.w_brk)) | ((with_reducible apply Lv.w_cont)) | ((with_reducible apply Lv.w_meth)) | ((with_reducible apply Lv.w_make)))
    exact ⟨m, r, n, es, rs, G, P0, rfl, j, hm, hr0, hl, hz, q⟩
/-- an event in two parts -/
def partE (n : Int) (es : List Ev) (k : Nat) (e : Ev) (t x : Int) : List Ev := es.take k ++ [⟨e.b, n, t, x⟩] ++ es.drop (k + 1) ++ [⟨n, e.a, e.w - t, e.x - x⟩]
def sp_parted (K : PySem.W.Frag) : Sp := fun vs H Q _ => ∃ (m : Addr) (k : Nat) (t x n : Int) (es : List Ev) (e : Ev) (G P : Hp), vs = [.ref m, .int k, .int t, .int x] ∧ Join G P H ∧ MachK K G m n es ∧ EvB n es ∧ n ≤ 9000 ∧ es.length ≤ 9000 ∧ es[k]? = some e ∧ 1 ≤ t ∧ t ≤ e.w - 1 ∧
  spNewM K (n + 1) (partE n es k e t x) G P H Q
theorem sc_parted : FnScope ["machine", "event", "tries", "points", "middle", "first", "last", "before", "after", "all_tries", "all_points"] ["machine", "event", "tries", "points"] (defScope s_parted) := ⟨rfl, rfl, rfl, by decide +kernel, rfl, by decide +kernel, by decide +kernel⟩
theorem ok_parted (T : Txt K mg) {fd_check_event : FuncData} (G_check_event : Dn P w K mg base (L2.CX P w) 4 "check_event" ["machine", "thing"] (sp_check_event K) fd_check_event) {fd_step_at : FuncData} (G_step_at : Dn P w K mg base (L2.CX P w) 1 "step_at" ["machine", "event"] (sp_step_at K) fd_step_at) {fd_is_within : FuncData} (G_is_within : Dn P w K mg base (L2.CX P w) 2 "is_within" ["thing", "least", "most"] (sp_is_within K) fd_is_within) {fd_is_integer : FuncData} (G_is_integer : Dn P w K mg base (L2.CX P w) 1 "is_integer" ["thing"] (sp_is_integer K) fd_is_integer) {fd_RawMachine_init : FuncData} (G_RawMachine_init : Dm P w K mg base (L2.CX P w) 2 "RawMachine" "__init__" ["self", "standings", "events"] (spKeep (He.ga K "RawMachine")) fd_RawMachine_init) : ∃ fd, Dn P w K mg base (L2.CX P w) 5 "parted" ["machine", "event", "tries", "points"] (sp_parted K) fd := by
  obtain ⟨fd, F⟩ := T.d_parted
  refine ⟨fd, F.ok sc_parted (fun vs H Q E h => ?_) (fun cdv A outer s H vs Q E hr h => ?_), T.g_parted, F.kp, F.bindsN fun _ _ _ _ _ _ us hl => match us, hl with | [_, _, _, _], _ => rfl, Lv.fun_lk F⟩
  · obtain ⟨_, _, _, _, _, _, _, _, _, rfl, _⟩ := h
    rfl
  · have hu := hu_of hr
    have hr_check_event : Room 4 _ := hr.mono (by decide)
    have hr_step_at : Room 1 _ := hr.mono (by decide)
    have hr_is_within : Room 2 _ := hr.mono (by decide)
    have hr_is_integer : Room 1 _ := hr.mono (by decide)
    have hr_RawMachine_init : Room 3 _ := hr.mono (by decide)
    refine ⟨_, PSs.nox (pss_cons (ps_expr (pe_call G_check_event.ok hr_check_event rfl G_check_event.mg G_check_event.kp G_check_event.b .nil passL (pa_cons (pv 0) (pa_cons (pv 1) pa_nil))))
      (pss_cons (ps_asg (pe_call G_step_at.ok hr_step_at rfl G_step_at.mg G_step_at.kp G_step_at.b .nil passL (pa_cons (pv 0) (pa_cons (pv 1) pa_nil))) (pg_tup rfl (pgs_cons (pg_name (i := 7) sc_parted.nd rfl (Or.inl rfl)) (pgs_cons (pg_name (i := 8) sc_parted.nd rfl (Or.inl rfl)) (pgs_cons (pg_name (i := 9) sc_parted.nd rfl (Or.inl rfl)) (pgs_cons (pg_name (i := 10) sc_parted.nd rfl (Or.inl rfl)) pgs_nil))))))
      (pss_cons (ps_if (PW.pt (pw_or (pt_not (pt_val (pe_call G_is_within.ok hr_is_within rfl G_is_within.mg G_is_within.kp G_is_within.b .nil passL (pa_cons (pv 2) (pa_cons pe_int (pa_cons (pe_op op_sub (pv 9) pe_int) pa_nil)))))) (pw_or1 (pt_not (pt_val (pe_call G_is_integer.ok hr_is_integer rfl G_is_integer.mg G_is_integer.kp G_is_integer.b .nil passL (pa_cons (pv 3) pa_nil))))))) (pss_one ps_never) pss_nil)
      (pss_cons (ps_set (i := 4) sc_parted.nd rfl (Or.inl rfl) (pe_fld (pv 0) rfl))
      (pss_cons (ps_set (i := 5) sc_parted.nd rfl (Or.inl rfl) (pe_tup (pa_cons (pv 7) (pa_cons (pv 4) (pa_cons (pv 2) (pa_cons (pv 3) pa_nil))))))
      (pss_cons (ps_set (i := 6) sc_parted.nd rfl (Or.inl rfl) (pe_tup (pa_cons (pv 4) (pa_cons (pv 8) (pa_cons (pe_op op_sub (pv 9) (pv 2)) (pa_cons (pe_op op_sub (pv 10) (pv 3)) pa_nil))))))
      (pss_one (ps_ret (pe_make T.mk_RawMachine G_RawMachine_init.ok hr_RawMachine_init (by rfl) T.g_RawMachine G_RawMachine_init.b .nil passL (pa_cons (pe_op op_add (pe_fld (pv 0) rfl) pe_int) (pa_cons (pe_op op_catA (pe_op op_catA (pe_op op_catA (pe_slice sl_tupA (pe_fld (pv 0) rfl) po_none (po_some (pv 1))) (pe_tup (pa_cons (pv 5) pa_nil))) (pe_slice sl_tupA (pe_fld (pv 0) rfl) (po_some (pe_op op_add (pv 1) pe_int)) po_none)) (pe_tup (pa_cons (pv 6) pa_nil))) pa_nil))))))))))), ?_⟩
    obtain ⟨m, k, t, x, n, es, e, G, P0, rfl, j, hM, hB, hn9, hl9, he, h1, h2, q⟩ := h
    have hk : k < es.length := (List.getElem?_eq_some_iff.mp he).1
    obtain ⟨b1, b2, b3, b4, b5, b6, b7, b8⟩ := hB.2.2.2 e (List.mem_of_getElem? he)
    (repeat first | ((with_reducible apply Lv.w_seq)) | ((with_reducible apply Lv.w_var); (focus (exact rfl))) | ((with_reducible apply Lv.w_op)) | ((with_reducible apply Lv.w_c)) | ((with_reducible apply Lv.w_cons)) | ((with_reducible apply Lv.w_nil)) | ((with_reducible apply Lv.w_rI0)) | ((with_reducible apply Lv.w_asg)) | ((with_reducible apply Lv.w_name)) | ((with_reducible apply Lv.w_call)) | ((with_reducible apply Lv.w_tof)) | ((with_reducible apply Lv.w_lof)) | ((with_reducible apply Lv.w_abs)) | ((with_reducible apply Lv.w_int1)) | ((with_reducible apply Lv.w_lenv)) | ((with_reducible apply Lv.w_lens)) | ((with_reducible apply Lv.w_cb)) | ((with_reducible apply Lv.w_rabs)) | ((with_reducible apply Lv.w_rint)) | ((with_reducible apply Lv.w_rintb)) | ((with_reducible apply Lv.w_rlenT); (focus (first | assumption | (exact Lv.Join.g (by assumption) _ _ (by assumption))))) | ((with_reducible apply Lv.w_rlenL); (focus (first | assumption | (exact Lv.Join.g (by assumption) _ _ (by assumption))))) | ((with_reducible apply Lv.w_slenT); (focus (first | assumption | (exact Lv.Join.g (by assumption) _ _ (by assumption))))) | ((with_reducible apply Lv.w_slenL); (focus (first | assumption | (exact Lv.Join.g (by assumption) _ _ (by assumption))))) | ((with_reducible apply Lv.w_klenT); (focus (first | assumption | (exact Lv.Join.g (by assumption) _ _ (by assumption))))) | ((with_reducible apply Lv.w_klenL); (focus (first | assumption | (exact Lv.Join.g (by assumption) _ _ (by assumption))))) | ((with_reducible apply Lv.w_bm)) | ((with_reducible apply Lv.w_bm0)) | ((with_reducible apply Lv.w_bml); (focus (first | assumption | (exact Lv.Join.g (by assumption) _ _ (by assumption))))) | ((with_reducible apply Lv.w_tup)) | ((with_reducible apply Lv.w_lst)) | ((with_reducible apply Lv.w_fld)) | ((with_reducible apply Lv.w_un)) | ((with_reducible apply Lv.w_rU)) | ((with_reducible apply Lv.w_ret)) | ((with_reducible apply Lv.w_retN)) | ((with_reducible apply Lv.w_next)) | ((with_reducible apply Lv.w_drop)) | ((with_reducible apply Lv.w_ifS)) | ((with_reducible apply Lv.w_gcons); (focus (exact rfl))) | ((with_reducible apply Lv.w_gnil); (focus (exact rfl))) | ((with_reducible apply Lv.w_gtup); (focus (first | assumption | (exact Lv.Join.g (by assumption) _ _ (by assumption)))); (focus (exact rfl))) | ((with_reducible apply Lv.w_eq); (focus (exact rfl))) | ((with_reducible apply Lv.w_ne); (focus (exact rfl))) | ((with_reducible apply Lv.w_tB)) | ((with_reducible apply Lv.w_test)) | ((with_reducible apply Lv.w_bl)) | ((with_reducible apply Lv.w_and)) | ((with_reducible apply Lv.w_or)) | ((with_reducible apply Lv.w_not)) | ((with_reducible apply Lv.w_andV)) | ((with_reducible apply Lv.w_orV)) | ((with_reducible apply Lv.w_notV)) | ((with_reducible apply Lv.w_ifT)) | ((with_reducible apply Lv.w_ifF)) | ((with_reducible apply Lv.w_ifNT)) | ((with_reducible apply Lv.w_ifNF)) | ((with_reducible apply Lv.w_yes)) | ((with_reducible apply Lv.w_ixT); (focus (first | assumption | (exact Lv.Join.g (by assumption) _ _ (by assumption)))); (focus (exact rfl))) | ((with_reducible apply Lv.w_aug); (focus (exact rfl))) | ((with_reducible apply Lv.w_rAdd)) | ((with_reducible apply Lv.w_rSub)) | ((with_reducible apply Lv.w_lcL)) | ((with_reducible apply Lv.w_lcT)) | ((with_reducible apply Lv.w_lcR)) | ((with_reducible apply Lv.w_sl)) | ((with_reducible apply Lv.w_npart)) | ((with_reducible apply Lv.w_part)) | ((with_reducible apply Lv.w_pint)) | ((with_reducible apply Lv.w_forR)) | ((with_reducible apply Lv.w_forR2)) | ((with_reducible apply Lv.w_par)) | ((with_reducible apply Lv.w_apar)) | ((with_reducible apply Lv.w_lcR2)) | ((with_reducible apply Lv.w_lcE)) | ((with_reducible apply Lv.w_isB)) | ((with_reducible apply Lv.w_isNB)) | ((with_reducible apply Lv.w_forL)) | ((with_reducible apply Lv.w_forT)) | ((with_reducible apply Lv.w_brk)) | ((with_reducible apply Lv.w_cont)) | ((with_reducible apply Lv.w_meth)) | ((with_reducible apply Lv.w_make)))
    refine ⟨m, k, n, es, rfl, hM.mono j.exG, hk, ?_⟩
    (repeat first | ((with_reducible apply Lv.w_seq)) | ((with_reducible apply Lv.w_var); (focus (exact rfl))) | ((with_reducible apply Lv.w_op)) | ((with_reducible apply Lv.w_c)) | ((with_reducible apply Lv.w_cons)) | ((with_reducible apply Lv.w_nil)) | ((with_reducible apply Lv.w_rI0)) | ((with_reducible apply Lv.w_asg)) | ((with_reducible apply Lv.w_name)) | ((with_reducible apply Lv.w_call)) | ((with_reducible apply Lv.w_tof)) | ((with_reducible apply Lv.w_lof)) | ((with_reducible apply Lv.w_abs)) | ((with_reducible apply Lv.w_int1)) | ((with_reducible apply Lv.w_lenv)) | ((with_reducible apply Lv.w_lens)) | ((with_reducible apply Lv.w_cb)) | ((with_reducible apply Lv.w_rabs)) | ((with_reducible apply Lv.w_rint)) | ((with_reducible apply Lv.w_rintb)) | ((with_reducible apply Lv.w_rlenT); (focus (first | assumption | (exact Lv.Join.g (by assumption) _ _ (by assumption))))) | ((with_reducible apply Lv.w_rlenL); (focus (first | assumption | (exact Lv.Join.g (by assumption) _ _ (by assumption))))) | ((with_reducible apply Lv.w_slenT); (focus (first | assumption | (exact Lv.Join.g (by assumption) _ _ (by assumption))))) | ((with_reducible apply Lv.w_slenL); (focus (first | assumption | (exact Lv.Join.g (by assumption) _ _ (by assumption))))) | ((with_reducible apply Lv.w_klenT); (focus (first | assumption | (exact Lv.Join.g (by assumption) _ _ (by assumption))))) | ((with_reducible apply Lv.w_klenL); (focus (first | assumption | (exact Lv.Join.g (by assumption) _ _ (by assumption))))) | ((with_reducible apply Lv.w_bm)) | ((with_reducible apply Lv.w_bm0)) | ((with_reducible apply Lv.w_bml); (focus (first | assumption | (exact Lv.Join.g (by assumption) _ _ (by assumption))))) | ((with_reducible apply Lv.w_tup)) | ((with_reducible apply Lv.w_lst)) | ((with_reducible apply Lv.w_fld)) | ((with_reducible apply Lv.w_un)) | ((with_reducible apply Lv.w_rU)) | ((with_reducible apply Lv.w_ret)) | ((with_reducible apply Lv.w_retN)) | ((with_reducible apply Lv.w_next)) | ((with_reducible apply Lv.w_drop)) | ((with_reducible apply Lv.w_ifS)) | ((with_reducible apply Lv.w_gcons); (focus (exact rfl))) | ((with_reducible apply Lv.w_gnil); (focus (exact rfl))) | ((with_reducible apply Lv.w_gtup); (focus (first | assumption | (exact Lv.Join.g (by assumption) _ _ (by assumption)))); (focus (exact rfl))) | ((with_reducible apply Lv.w_eq); (focus (exact rfl))) | ((with_reducible apply Lv.w_ne); (focus (exact rfl))) | ((with_reducible apply Lv.w_tB)) | ((with_reducible apply Lv.w_test)) | ((with_reducible apply Lv.w_bl)) | ((with_reducible apply Lv.w_and)) | ((with_reducible apply Lv.w_or)) | ((with_reducible apply Lv.w_not)) | ((with_reducible apply Lv.w_andV)) | ((with_reducible apply Lv.w_orV)) | ((with_reducible apply Lv.w_notV)) | ((with_reducible apply Lv.w_ifT)) | ((with_reducible apply Lv.w_ifF)) | ((with_reducible apply Lv.w_ifNT)) | ((with_reducible apply Lv.w_ifNF)) | ((with_reducible apply Lv.w_yes)) | ((with_reducible apply Lv.w_ixT); (focus (first | assumption | (exact Lv.Join.g (by assumption) _ _ (by assumption)))); (focus (exact rfl))) | ((with_reducible apply Lv.w_aug); (focus (exact rfl))) | ((with_reducible apply Lv.w_rAdd)) | ((with_reducible apply Lv.w_rSub)) | ((with_reducible apply Lv.w_lcL)) | ((with_reducible apply Lv.w_lcT)) | ((with_reducible apply Lv.w_lcR)) | ((with_reducible apply Lv.w_sl)) | ((with_reducible apply Lv.w_npart)) | ((with_reducible apply Lv.w_part)) | ((with_reducible apply Lv.w_pint)) | ((with_reducible apply Lv.w_forR)) | ((with_reducible apply Lv.w_forR2)) | ((with_reducible apply Lv.w_par)) | ((with_reducible apply Lv.w_apar)) | ((with_reducible apply Lv.w_lcR2)) | ((with_reducible apply Lv.w_lcE)) | ((with_reducible apply Lv.w_isB)) | ((with_reducible apply Lv.w_isNB)) | ((with_reducible apply Lv.w_forL)) | ((with_reducible apply Lv.w_forT)) | ((with_reducible apply Lv.w_brk)) | ((with_reducible apply Lv.w_cont)) | ((with_reducible apply Lv.w_meth)) | ((with_reducible apply Lv.w_make)))
    refine ⟨m, k, n, es, e, rfl, hM.mono j.exG, he, fun te hte => ?_⟩
    (repeat first | ((with_reducible apply Lv.w_seq)) | ((with_reducible apply Lv.w_var); (focus (exact rfl))) | ((with_reducible apply Lv.w_op)) | ((with_reducible apply Lv.w_c)) | ((with_reducible apply Lv.w_cons)) | ((with_reducible apply Lv.w_nil)) | ((with_reducible apply Lv.w_rI0)) | ((with_reducible apply Lv.w_asg)) | ((with_reducible apply Lv.w_name)) | ((with_reducible apply Lv.w_call)) | ((with_reducible apply Lv.w_tof)) | ((with_reducible apply Lv.w_lof)) | ((with_reducible apply Lv.w_abs)) | ((with_reducible apply Lv.w_int1)) | ((with_reducible apply Lv.w_lenv)) | ((with_reducible apply Lv.w_lens)) | ((with_reducible apply Lv.w_cb)) | ((with_reducible apply Lv.w_rabs)) | ((with_reducible apply Lv.w_rint)) | ((with_reducible apply Lv.w_rintb)) | ((with_reducible apply Lv.w_rlenT); (focus (first | assumption | (exact Lv.Join.g (by assumption) _ _ (by assumption))))) | ((with_reducible apply Lv.w_rlenL); (focus (first | assumption | (exact Lv.Join.g (by assumption) _ _ (by assumption))))) | ((with_reducible apply Lv.w_slenT); (focus (first | assumption | (exact Lv.Join.g (by assumption) _ _ (by assumption))))) | ((with_reducible apply Lv.w_slenL); (focus (first | assumption | (exact Lv.Join.g (by assumption) _ _ (by assumption))))) | ((with_reducible apply Lv.w_klenT); (focus (first | assumption | (exact Lv.Join.g (by assumption) _ _ (by assumption))))) | ((with_reducible apply Lv.w_klenL); (focus (first | assumption | (exact Lv.Join.g (by assumption) _ _ (by assumption))))) | ((with_reducible apply Lv.w_bm)) | ((with_reducible apply Lv.w_bm0)) | ((with_reducible apply Lv.w_bml); (focus (first | assumption | (exact Lv.Join.g (by assumption) _ _ (by assumption))))) | ((with_reducible apply Lv.w_tup)) | ((with_reducible apply Lv.w_lst)) | ((with_reducible apply Lv.w_fld)) | ((with_reducible apply Lv.w_un)) | ((with_reducible apply Lv.w_rU)) | ((with_reducible apply Lv.w_ret)) | ((with_reducible apply Lv.w_retN)) | ((with_reducible apply Lv.w_next)) | ((with_reducible apply Lv.w_drop)) | ((with_reducible apply Lv.w_ifS)) | ((with_reducible apply Lv.w_gcons); (focus (exact rfl))) | ((with_reducible apply Lv.w_gnil); (focus (exact rfl))) | ((with_reducible apply Lv.w_gtup); (focus (first | assumption | (exact Lv.Join.g (by assumption) _ _ (by assumption)))); (focus (exact rfl))) | ((with_reducible apply Lv.w_eq); (focus (exact rfl))) | ((with_reducible apply Lv.w_ne); (focus (exact rfl))) | ((with_reducible apply Lv.w_tB)) | ((with_reducible apply Lv.w_test)) | ((with_reducible apply Lv.w_bl)) | ((with_reducible apply Lv.w_and)) | ((with_reducible apply Lv.w_or)) | ((with_reducible apply Lv.w_not)) | ((with_reducible apply Lv.w_andV)) | ((with_reducible apply Lv.w_orV)) | ((with_reducible apply Lv.w_notV)) | ((with_reducible apply Lv.w_ifT)) | ((with_reducible apply Lv.w_ifF)) | ((with_reducible apply Lv.w_ifNT)) | ((with_reducible apply Lv.w_ifNF)) | ((with_reducible apply Lv.w_yes)) | ((with_reducible apply Lv.w_ixT); (focus (first | assumption | (exact Lv.Join.g (by assumption) _ _ (by assumption)))); (focus (exact rfl))) | ((with_reducible apply Lv.w_aug); (focus (exact rfl))) | ((with_reducible apply Lv.w_rAdd)) | ((with_reducible apply Lv.w_rSub)) | ((with_reducible apply Lv.w_lcL)) | ((with_reducible apply Lv.w_lcT)) | ((with_reducible apply Lv.w_lcR)) | ((with_reducible apply Lv.w_sl)) | ((with_reducible apply Lv.w_npart)) | ((with_reducible apply Lv.w_part)) | ((with_reducible apply Lv.w_pint)) | ((with_reducible apply Lv.w_forR)) | ((with_reducible apply Lv.w_forR2)) | ((with_reducible apply Lv.w_par)) | ((with_reducible apply Lv.w_apar)) | ((with_reducible apply Lv.w_lcR2)) | ((with_reducible apply Lv.w_lcE)) | ((with_reducible apply Lv.w_isB)) | ((with_reducible apply Lv.w_isNB)) | ((with_reducible apply Lv.w_forL)) | ((with_reducible apply Lv.w_forT)) | ((with_reducible apply Lv.w_brk)) | ((with_reducible apply Lv.w_cont)) | ((with_reducible apply Lv.w_meth)) | ((with_reducible apply Lv.w_make)))
    refine ⟨t, 1, e.w - 1, rfl, ?_⟩
    rw [decide_eq_true ⟨h1, h2⟩]
    (repeat first | ((with_reducible apply Lv.w_seq)) | ((with_reducible apply Lv.w_var); (focus (exact rfl))) | ((with_reducible apply Lv.w_op)) | ((with_reducible apply Lv.w_c)) | ((with_reducible apply Lv.w_cons)) | ((with_reducible apply Lv.w_nil)) | ((with_reducible apply Lv.w_rI0)) | ((with_reducible apply Lv.w_asg)) | ((with_reducible apply Lv.w_name)) | ((with_reducible apply Lv.w_call)) | ((with_reducible apply Lv.w_tof)) | ((with_reducible apply Lv.w_lof)) | ((with_reducible apply Lv.w_abs)) | ((with_reducible apply Lv.w_int1)) | ((with_reducible apply Lv.w_lenv)) | ((with_reducible apply Lv.w_lens)) | ((with_reducible apply Lv.w_cb)) | ((with_reducible apply Lv.w_rabs)) | ((with_reducible apply Lv.w_rint)) | ((with_reducible apply Lv.w_rintb)) | ((with_reducible apply Lv.w_rlenT); (focus (first | assumption | (exact Lv.Join.g (by assumption) _ _ (by assumption))))) | ((with_reducible apply Lv.w_rlenL); (focus (first | assumption | (exact Lv.Join.g (by assumption) _ _ (by assumption))))) | ((with_reducible apply Lv.w_slenT); (focus (first | assumption | (exact Lv.Join.g (by assumption) _ _ (by assumption))))) | ((with_reducible apply Lv.w_slenL); (focus (first | assumption | (exact Lv.Join.g (by assumption) _ _ (by assumption))))) | ((with_reducible apply Lv.w_klenT); (focus (first | assumption | (exact Lv.Join.g (by assumption) _ _ (by assumption))))) | ((with_reducible apply Lv.w_klenL); (focus (first | assumption | (exact Lv.Join.g (by assumption) _ _ (by assumption))))) | ((with_reducible apply Lv.w_bm)) | ((with_reducible apply Lv.w_bm0)) | ((with_reducible apply Lv.w_bml); (focus (first | assumption | (exact Lv.Join.g (by assumption) _ _ (by assumption))))) | ((with_reducible apply Lv.w_tup)) | ((with_reducible apply Lv.w_lst)) | ((with_reducible apply Lv.w_fld)) | ((with_reducible apply Lv.w_un)) | ((with_reducible apply Lv.w_rU)) | ((with_reducible apply Lv.w_ret)) | ((with_reducible apply Lv.w_retN)) | ((with_reducible apply Lv.w_next)) | ((with_reducible apply Lv.w_drop)) | ((with_reducible apply Lv.w_ifS)) | ((with_reducible apply Lv.w_gcons); (focus (exact rfl))) | ((with_reducible apply Lv.w_gnil); (focus (exact rfl))) | ((with_reducible apply Lv.w_gtup); (focus (first | assumption | (exact Lv.Join.g (by assumption) _ _ (by assumption)))); (focus (exact rfl))) | ((with_reducible apply Lv.w_eq); (focus (exact rfl))) | ((with_reducible apply Lv.w_ne); (focus (exact rfl))) | ((with_reducible apply Lv.w_tB)) | ((with_reducible apply Lv.w_test)) | ((with_reducible apply Lv.w_bl)) | ((with_reducible apply Lv.w_and)) | ((with_reducible apply Lv.w_or)) | ((with_reducible apply Lv.w_not)) | ((with_reducible apply Lv.w_andV)) | ((with_reducible apply Lv.w_orV)) | ((with_reducible apply Lv.w_notV)) | ((with_reducible apply Lv.w_ifT)) | ((with_reducible apply Lv.w_ifF)) | ((with_reducible apply Lv.w_ifNT)) | ((with_reducible apply Lv.w_ifNF)) | ((with_reducible apply Lv.w_yes)) | ((with_reducible apply Lv.w_ixT); (focus (first | assumption | (exact Lv.Join.g (by assumption) _ _ (by assumption)))); (focus (exact rfl))) | ((with_reducible apply Lv.w_aug); (focus (exact rfl))) | ((with_reducible apply Lv.w_rAdd)) | ((with_reducible apply Lv.w_rSub)) | ((with_reducible apply Lv.w_lcL)) | ((with_reducible apply Lv.w_lcT)) | ((with_reducible apply Lv.w_lcR)) | ((with_reducible apply Lv.w_sl)) | ((with_reducible apply Lv.w_npart)) | ((with_reducible apply Lv.w_part)) | ((with_reducible apply Lv.w_pint)) | ((with_reducible apply Lv.w_forR)) | ((with_reducible apply Lv.w_forR2)) | ((with_reducible apply Lv.w_par)) | ((with_reducible apply Lv.w_apar)) | ((with_reducible apply Lv.w_lcR2)) | ((with_reducible apply Lv.w_lcE)) | ((with_reducible apply Lv.w_isB)) | ((with_reducible apply Lv.w_isNB)) | ((with_reducible apply Lv.w_forL)) | ((with_reducible apply Lv.w_forT)) | ((with_reducible apply Lv.w_brk)) | ((with_reducible apply Lv.w_cont)) | ((with_reducible apply Lv.w_meth)) | ((with_reducible apply Lv.w_make)))
    refine ⟨x, rfl, ?_⟩
    (repeat first | ((with_reducible apply Lv.w_seq)) | ((with_reducible apply Lv.w_var); (focus (exact rfl))) | ((with_reducible apply Lv.w_op)) | ((with_reducible apply Lv.w_c)) | ((with_reducible apply Lv.w_cons)) | ((with_reducible apply Lv.w_nil)) | ((with_reducible apply Lv.w_rI0)) | ((with_reducible apply Lv.w_asg)) | ((with_reducible apply Lv.w_name)) | ((with_reducible apply Lv.w_call)) | ((with_reducible apply Lv.w_tof)) | ((with_reducible apply Lv.w_lof)) | ((with_reducible apply Lv.w_abs)) | ((with_reducible apply Lv.w_int1)) | ((with_reducible apply Lv.w_lenv)) | ((with_reducible apply Lv.w_lens)) | ((with_reducible apply Lv.w_cb)) | ((with_reducible apply Lv.w_rabs)) | ((with_reducible apply Lv.w_rint)) | ((with_reducible apply Lv.w_rintb)) | ((with_reducible apply Lv.w_rlenT); (focus (first | assumption | (exact Lv.Join.g (by assumption) _ _ (by assumption))))) | ((with_reducible apply Lv.w_rlenL); (focus (first | assumption | (exact Lv.Join.g (by assumption) _ _ (by assumption))))) | ((with_reducible apply Lv.w_slenT); (focus (first | assumption | (exact Lv.Join.g (by assumption) _ _ (by assumption))))) | ((with_reducible apply Lv.w_slenL); (focus (first | assumption | (exact Lv.Join.g (by assumption) _ _ (by assumption))))) | ((with_reducible apply Lv.w_klenT); (focus (first | assumption | (exact Lv.Join.g (by assumption) _ _ (by assumption))))) | ((with_reducible apply Lv.w_klenL); (focus (first | assumption | (exact Lv.Join.g (by assumption) _ _ (by assumption))))) | ((with_reducible apply Lv.w_bm)) | ((with_reducible apply Lv.w_bm0)) | ((with_reducible apply Lv.w_bml); (focus (first | assumption | (exact Lv.Join.g (by assumption) _ _ (by assumption))))) | ((with_reducible apply Lv.w_tup)) | ((with_reducible apply Lv.w_lst)) | ((with_reducible apply Lv.w_fld)) | ((with_reducible apply Lv.w_un)) | ((with_reducible apply Lv.w_rU)) | ((with_reducible apply Lv.w_ret)) | ((with_reducible apply Lv.w_retN)) | ((with_reducible apply Lv.w_next)) | ((with_reducible apply Lv.w_drop)) | ((with_reducible apply Lv.w_ifS)) | ((with_reducible apply Lv.w_gcons); (focus (exact rfl))) | ((with_reducible apply Lv.w_gnil); (focus (exact rfl))) | ((with_reducible apply Lv.w_gtup); (focus (first | assumption | (exact Lv.Join.g (by assumption) _ _ (by assumption)))); (focus (exact rfl))) | ((with_reducible apply Lv.w_eq); (focus (exact rfl))) | ((with_reducible apply Lv.w_ne); (focus (exact rfl))) | ((with_reducible apply Lv.w_tB)) | ((with_reducible apply Lv.w_test)) | ((with_reducible apply Lv.w_bl)) | ((with_reducible apply Lv.w_and)) | ((with_reducible apply Lv.w_or)) | ((with_reducible apply Lv.w_not)) | ((with_reducible apply Lv.w_andV)) | ((with_reducible apply Lv.w_orV)) | ((with_reducible apply Lv.w_notV)) | ((with_reducible apply Lv.w_ifT)) | ((with_reducible apply Lv.w_ifF)) | ((with_reducible apply Lv.w_ifNT)) | ((with_reducible apply Lv.w_ifNF)) | ((with_reducible apply Lv.w_yes)) | ((with_reducible apply Lv.w_ixT); (focus (first | assumption | (exact Lv.Join.g (by assumption) _ _ (by assumption)))); (focus (exact rfl))) | ((with_reducible apply Lv.w_aug); (focus (exact rfl))) | ((with_reducible apply Lv.w_rAdd)) | ((with_reducible apply Lv.w_rSub)) | ((with_reducible apply Lv.w_lcL)) | ((with_reducible apply Lv.w_lcT)) | ((with_reducible apply Lv.w_lcR)) | ((with_reducible apply Lv.w_sl)) | ((with_reducible apply Lv.w_npart)) | ((with_reducible apply Lv.w_part)) | ((with_reducible apply Lv.w_pint)) | ((with_reducible apply Lv.w_forR)) | ((with_reducible apply Lv.w_forR2)) | ((with_reducible apply Lv.w_par)) | ((with_reducible apply Lv.w_apar)) | ((with_reducible apply Lv.w_lcR2)) | ((with_reducible apply Lv.w_lcE)) | ((with_reducible apply Lv.w_isB)) | ((with_reducible apply Lv.w_isNB)) | ((with_reducible apply Lv.w_forL)) | ((with_reducible apply Lv.w_forT)) | ((with_reducible apply Lv.w_brk)) | ((with_reducible apply Lv.w_cont)) | ((with_reducible apply Lv.w_meth)) | ((with_reducible apply Lv.w_make)))
    refine aFld.ns j hM ?_
    (repeat first | ((with_reducible apply Lv.w_seq)) | ((with_reducible apply Lv.w_var); (focus (exact rfl))) | ((with_reducible apply Lv.w_op)) | ((with_reducible apply Lv.w_c)) | ((with_reducible apply Lv.w_cons)) | ((with_reducible apply Lv.w_nil)) | ((with_reducible apply Lv.w_rI0)) | ((with_reducible apply Lv.w_asg)) | ((with_reducible apply Lv.w_name)) | ((with_reducible apply Lv.w_call)) | ((with_reducible apply Lv.w_tof)) | ((with_reducible apply Lv.w_lof)) | ((with_reducible apply Lv.w_abs)) | ((with_reducible apply Lv.w_int1)) | ((with_reducible apply Lv.w_lenv)) | ((with_reducible apply Lv.w_lens)) | ((with_reducible apply Lv.w_cb)) | ((with_reducible apply Lv.w_rabs)) | ((with_reducible apply Lv.w_rint)) | ((with_reducible apply Lv.w_rintb)) | ((with_reducible apply Lv.w_rlenT); (focus (first | assumption | (exact Lv.Join.g (by assumption) _ _ (by assumption))))) | ((with_reducible apply Lv.w_rlenL); (focus (first | assumption | (exact Lv.Join.g (by assumption) _ _ (by assumption))))) | ((with_reducible apply Lv.w_slenT); (focus (first | assumption | (exact Lv.Join.g (by assumption) _ _ (by assumption))))) | ((with_reducible apply Lv.w_slenL); (focus (first | assumption | (exact Lv.Join.g (by assumption) _ _ (by assumption))))) | ((with_reducible apply Lv.w_klenT); (focus (first | assumption | (exact Lv.Join.g (by assumption) _ _ (by assumption))))) | ((with_reducible apply Lv.w_klenL); (focus (first | assumption | (exact Lv.Join.g (by assumption) _ _ (by assumption))))) | ((with_reducible apply Lv.w_bm)) | ((with_reducible apply Lv.w_bm0)) | ((with_reducible apply Lv.w_bml); (focus (first | assumption | (exact Lv.Join.g (by assumption) _ _ (by assumption))))) | ((with_reducible apply Lv.w_tup)) | ((with_reducible apply Lv.w_lst)) | ((with_reducible apply Lv.w_fld)) | ((with_reducible apply Lv.w_un)) | ((with_reducible apply Lv.w_rU)) | ((with_reducible apply Lv.w_ret)) | ((with_reducible apply Lv.w_retN)) | ((with_reducible apply Lv.w_next)) | ((with_reducible apply Lv.w_drop)) | ((with_reducible apply Lv.w_ifS)) | ((with_reducible apply Lv.w_gcons); (focus (exact rfl))) | ((with_reducible apply Lv.w_gnil); (focus (exact rfl))) | ((with_reducible apply Lv.w_gtup); (focus (first | assumption | (exact Lv.Join.g (by assumption) _ _ (by assumption)))); (focus (exact rfl))) | ((with_reducible apply Lv.w_eq); (focus (exact rfl))) | ((with_reducible apply Lv.w_ne); (focus (exact rfl))) | ((with_reducible apply Lv.w_tB)) | ((with_reducible apply Lv.w_test)) | ((with_reducible apply Lv.w_bl)) | ((with_reducible apply Lv.w_and)) | ((with_reducible apply Lv.w_or)) | ((with_reducible apply Lv.w_not)) | ((with_reducible apply Lv.w_andV)) | ((with_reducible apply Lv.w_orV)) | ((with_reducible apply Lv.w_notV)) | ((with_reducible apply Lv.w_ifT)) | ((with_reducible apply Lv.w_ifF)) | ((with_reducible apply Lv.w_ifNT)) | ((with_reducible apply Lv.w_ifNF)) | ((with_reducible apply Lv.w_yes)) | ((with_reducible apply Lv.w_ixT); (focus (first | assumption | (exact Lv.Join.g (by assumption) _ _ (by assumption)))); (focus (exact rfl))) | ((with_reducible apply Lv.w_aug); (focus (exact rfl))) | ((with_reducible apply Lv.w_rAdd)) | ((with_reducible apply Lv.w_rSub)) | ((with_reducible apply Lv.w_lcL)) | ((with_reducible apply Lv.w_lcT)) | ((with_reducible apply Lv.w_lcR)) | ((with_reducible apply Lv.w_sl)) | ((with_reducible apply Lv.w_npart)) | ((with_reducible apply Lv.w_part)) | ((with_reducible apply Lv.w_pint)) | ((with_reducible apply Lv.w_forR)) | ((with_reducible apply Lv.w_forR2)) | ((with_reducible apply Lv.w_par)) | ((with_reducible apply Lv.w_apar)) | ((with_reducible apply Lv.w_lcR2)) | ((with_reducible apply Lv.w_lcE)) | ((with_reducible apply Lv.w_isB)) | ((with_reducible apply Lv.w_isNB)) | ((with_reducible apply Lv.w_forL)) | ((with_reducible apply Lv.w_forT)) | ((with_reducible apply Lv.w_brk)) | ((with_reducible apply Lv.w_cont)) | ((with_reducible apply Lv.w_meth)) | ((with_reducible apply Lv.w_make)))
    refine aTup.go j (by show 4 ≤ 100000; decide) fun t1 G1 H1 ht1 e1 j1 hT1 => ?_
    (repeat first | ((with_reducible apply Lv.w_seq)) | ((with_reducible apply Lv.w_var); (focus (exact rfl))) | ((with_reducible apply Lv.w_op)) | ((with_reducible apply Lv.w_c)) | ((with_reducible apply Lv.w_cons)) | ((with_reducible apply Lv.w_nil)) | ((with_reducible apply Lv.w_rI0)) | ((with_reducible apply Lv.w_asg)) | ((with_reducible apply Lv.w_name)) | ((with_reducible apply Lv.w_call)) | ((with_reducible apply Lv.w_tof)) | ((with_reducible apply Lv.w_lof)) | ((with_reducible apply Lv.w_abs)) | ((with_reducible apply Lv.w_int1)) | ((with_reducible apply Lv.w_lenv)) | ((with_reducible apply Lv.w_lens)) | ((with_reducible apply Lv.w_cb)) | ((with_reducible apply Lv.w_rabs)) | ((with_reducible apply Lv.w_rint)) | ((with_reducible apply Lv.w_rintb)) | ((with_reducible apply Lv.w_rlenT); (focus (first | assumption | (exact Lv.Join.g (by assumption) _ _ (by assumption))))) | ((with_reducible apply Lv.w_rlenL); (focus (first | assumption | (exact Lv.Join.g (by assumption) _ _ (by assumption))))) | ((with_reducible apply Lv.w_slenT); (focus (first | assumption | (exact Lv.Join.g (by assumption) _ _ (by assumption))))) | ((with_reducible apply Lv.w_slenL); (focus (first | assumption | (exact Lv.Join.g (by assumption) _ _ (by assumption))))) | ((with_reducible apply Lv.w_klenT); (focus (first | assumption | (exact Lv.Join.g (by assumption) _ _ (by assumption))))) | ((with_reducible apply Lv.w_klenL); (focus (first | assumption | (exact Lv.Join.g (by assumption) _ _ (by assumption))))) | ((with_reducible apply Lv.w_bm)) | ((with_reducible apply Lv.w_bm0)) | ((with_reducible apply Lv.w_bml); (focus (first | assumption | (exact Lv.Join.g (by assumption) _ _ (by assumption))))) | ((with_reducible apply Lv.w_tup)) | ((with_reducible apply Lv.w_lst)) | ((with_reducible apply Lv.w_fld)) | ((with_reducible apply Lv.w_un)) | ((with_reducible apply Lv.w_rU)) | ((with_reducible apply Lv.w_ret)) | ((with_reducible apply Lv.w_retN)) | ((with_reducible apply Lv.w_next)) | ((with_reducible apply Lv.w_drop)) | ((with_reducible apply Lv.w_ifS)) | ((with_reducible apply Lv.w_gcons); (focus (exact rfl))) | ((with_reducible apply Lv.w_gnil); (focus (exact rfl))) | ((with_reducible apply Lv.w_gtup); (focus (first | assumption | (exact Lv.Join.g (by assumption) _ _ (by assumption)))); (focus (exact rfl))) | ((with_reducible apply Lv.w_eq); (focus (exact rfl))) | ((with_reducible apply Lv.w_ne); (focus (exact rfl))) | ((with_reducible apply Lv.w_tB)) | ((with_reducible apply Lv.w_test)) | ((with_reducible apply Lv.w_bl)) | ((with_reducible apply Lv.w_and)) | ((with_reducible apply Lv.w_or)) | ((with_reducible apply Lv.w_not)) | ((with_reducible apply Lv.w_andV)) | ((with_reducible apply Lv.w_orV)) | ((with_reducible apply Lv.w_notV)) | ((with_reducible apply Lv.w_ifT)) | ((with_reducible apply Lv.w_ifF)) | ((with_reducible apply Lv.w_ifNT)) | ((with_reducible apply Lv.w_ifNF)) | ((with_reducible apply Lv.w_yes)) | ((with_reducible apply Lv.w_ixT); (focus (first | assumption | (exact Lv.Join.g (by assumption) _ _ (by assumption)))); (focus (exact rfl))) | ((with_reducible apply Lv.w_aug); (focus (exact rfl))) | ((with_reducible apply Lv.w_rAdd)) | ((with_reducible apply Lv.w_rSub)) | ((with_reducible apply Lv.w_lcL)) | ((with_reducible apply Lv.w_lcT)) | ((with_reducible apply Lv.w_lcR)) | ((with_reducible apply Lv.w_sl)) | ((with_reducible apply Lv.w_npart)) | ((with_reducible apply Lv.w_part)) | ((with_reducible apply Lv.w_pint)) | ((with_reducible apply Lv.w_forR)) | ((with_reducible apply Lv.w_forR2)) | ((with_reducible apply Lv.w_par)) | ((with_reducible apply Lv.w_apar)) | ((with_reducible apply Lv.w_lcR2)) | ((with_reducible apply Lv.w_lcE)) | ((with_reducible apply Lv.w_isB)) | ((with_reducible apply Lv.w_isNB)) | ((with_reducible apply Lv.w_forL)) | ((with_reducible apply Lv.w_forT)) | ((with_reducible apply Lv.w_brk)) | ((with_reducible apply Lv.w_cont)) | ((with_reducible apply Lv.w_meth)) | ((with_reducible apply Lv.w_make)))
    refine aTup.go j1 (by show 4 ≤ 100000; decide) fun t2 G2 H2 ht2 e2 j2 hT2 => ?_
    have e02 := e1.trans e2
    have hM2 := hM.mono e02
    replace hT1 := e2 _ _ hT1
    (repeat first | ((with_reducible apply Lv.w_seq)) | ((with_reducible apply Lv.w_var); (focus (exact rfl))) | ((with_reducible apply Lv.w_op)) | ((with_reducible apply Lv.w_c)) | ((with_reducible apply Lv.w_cons)) | ((with_reducible apply Lv.w_nil)) | ((with_reducible apply Lv.w_rI0)) | ((with_reducible apply Lv.w_asg)) | ((with_reducible apply Lv.w_name)) | ((with_reducible apply Lv.w_call)) | ((with_reducible apply Lv.w_tof)) | ((with_reducible apply Lv.w_lof)) | ((with_reducible apply Lv.w_abs)) | ((with_reducible apply Lv.w_int1)) | ((with_reducible apply Lv.w_lenv)) | ((with_reducible apply Lv.w_lens)) | ((with_reducible apply Lv.w_cb)) | ((with_reducible apply Lv.w_rabs)) | ((with_reducible apply Lv.w_rint)) | ((with_reducible apply Lv.w_rintb)) | ((with_reducible apply Lv.w_rlenT); (focus (first | assumption | (exact Lv.Join.g (by assumption) _ _ (by assumption))))) | ((with_reducible apply Lv.w_rlenL); (focus (first | assumption | (exact Lv.Join.g (by assumption) _ _ (by assumption))))) | ((with_reducible apply Lv.w_slenT); (focus (first | assumption | (exact Lv.Join.g (by assumption) _ _ (by assumption))))) | ((with_reducible apply Lv.w_slenL); (focus (first | assumption | (exact Lv.Join.g (by assumption) _ _ (by assumption))))) | ((with_reducible apply Lv.w_klenT); (focus (first | assumption | (exact Lv.Join.g (by assumption) _ _ (by assumption))))) | ((with_reducible apply Lv.w_klenL); (focus (first | assumption | (exact Lv.Join.g (by assumption) _ _ (by assumption))))) | ((with_reducible apply Lv.w_bm)) | ((with_reducible apply Lv.w_bm0)) | ((with_reducible apply Lv.w_bml); (focus (first | assumption | (exact Lv.Join.g (by assumption) _ _ (by assumption))))) | ((with_reducible apply Lv.w_tup)) | ((with_reducible apply Lv.w_lst)) | ((with_reducible apply Lv.w_fld)) | ((with_reducible apply Lv.w_un)) | ((with_reducible apply Lv.w_rU)) | ((with_reducible apply Lv.w_ret)) | ((with_reducible apply Lv.w_retN)) | ((with_reducible apply Lv.w_next)) | ((with_reducible apply Lv.w_drop)) | ((with_reducible apply Lv.w_ifS)) | ((with_reducible apply Lv.w_gcons); (focus (exact rfl))) | ((with_reducible apply Lv.w_gnil); (focus (exact rfl))) | ((with_reducible apply Lv.w_gtup); (focus (first | assumption | (exact Lv.Join.g (by assumption) _ _ (by assumption)))); (focus (exact rfl))) | ((with_reducible apply Lv.w_eq); (focus (exact rfl))) | ((with_reducible apply Lv.w_ne); (focus (exact rfl))) | ((with_reducible apply Lv.w_tB)) | ((with_reducible apply Lv.w_test)) | ((with_reducible apply Lv.w_bl)) | ((with_reducible apply Lv.w_and)) | ((with_reducible apply Lv.w_or)) | ((with_reducible apply Lv.w_not)) | ((with_reducible apply Lv.w_andV)) | ((with_reducible apply Lv.w_orV)) | ((with_reducible apply Lv.w_notV)) | ((with_reducible apply Lv.w_ifT)) | ((with_reducible apply Lv.w_ifF)) | ((with_reducible apply Lv.w_ifNT)) | ((with_reducible apply Lv.w_ifNF)) | ((with_reducible apply Lv.w_yes)) | ((with_reducible apply Lv.w_ixT); (focus (first | assumption | (exact Lv.Join.g (by assumption) _ _ (by assumption)))); (focus (exact rfl))) | ((with_reducible apply Lv.w_aug); (focus (exact rfl))) | ((with_reducible apply Lv.w_rAdd)) | ((with_reducible apply Lv.w_rSub)) | ((with_reducible apply Lv.w_lcL)) | ((with_reducible apply Lv.w_lcT)) | ((with_reducible apply Lv.w_lcR)) | ((with_reducible apply Lv.w_sl)) | ((with_reducible apply Lv.w_npart)) | ((with_reducible apply Lv.w_part)) | ((with_reducible apply Lv.w_pint)) | ((with_reducible apply Lv.w_forR)) | ((with_reducible apply Lv.w_forR2)) | ((with_reducible apply Lv.w_par)) | ((with_reducible apply Lv.w_apar)) | ((with_reducible apply Lv.w_lcR2)) | ((with_reducible apply Lv.w_lcE)) | ((with_reducible apply Lv.w_isB)) | ((with_reducible apply Lv.w_isNB)) | ((with_reducible apply Lv.w_forL)) | ((with_reducible apply Lv.w_forT)) | ((with_reducible apply Lv.w_brk)) | ((with_reducible apply Lv.w_cont)) | ((with_reducible apply Lv.w_meth)) | ((with_reducible apply Lv.w_make)))
    refine aFld.ns j2 hM2 ?_
    (repeat first | ((with_reducible apply Lv.w_seq)) | ((with_reducible apply Lv.w_var); (focus (exact rfl))) | ((with_reducible apply Lv.w_op)) | ((with_reducible apply Lv.w_c)) | ((with_reducible apply Lv.w_cons)) | ((with_reducible apply Lv.w_nil)) | ((with_reducible apply Lv.w_rI0)) | ((with_reducible apply Lv.w_asg)) | ((with_reducible apply Lv.w_name)) | ((with_reducible apply Lv.w_call)) | ((with_reducible apply Lv.w_tof)) | ((with_reducible apply Lv.w_lof)) | ((with_reducible apply Lv.w_abs)) | ((with_reducible apply Lv.w_int1)) | ((with_reducible apply Lv.w_lenv)) | ((with_reducible apply Lv.w_lens)) | ((with_reducible apply Lv.w_cb)) | ((with_reducible apply Lv.w_rabs)) | ((with_reducible apply Lv.w_rint)) | ((with_reducible apply Lv.w_rintb)) | ((with_reducible apply Lv.w_rlenT); (focus (first | assumption | (exact Lv.Join.g (by assumption) _ _ (by assumption))))) | ((with_reducible apply Lv.w_rlenL); (focus (first | assumption | (exact Lv.Join.g (by assumption) _ _ (by assumption))))) | ((with_reducible apply Lv.w_slenT); (focus (first | assumption | (exact Lv.Join.g (by assumption) _ _ (by assumption))))) | ((with_reducible apply Lv.w_slenL); (focus (first | assumption | (exact Lv.Join.g (by assumption) _ _ (by assumption))))) | ((with_reducible apply Lv.w_klenT); (focus (first | assumption | (exact Lv.Join.g (by assumption) _ _ (by assumption))))) | ((with_reducible apply Lv.w_klenL); (focus (first | assumption | (exact Lv.Join.g (by assumption) _ _ (by assumption))))) | ((with_reducible apply Lv.w_bm)) | ((with_reducible apply Lv.w_bm0)) | ((with_reducible apply Lv.w_bml); (focus (first | assumption | (exact Lv.Join.g (by assumption) _ _ (by assumption))))) | ((with_reducible apply Lv.w_tup)) | ((with_reducible apply Lv.w_lst)) | ((with_reducible apply Lv.w_fld)) | ((with_reducible apply Lv.w_un)) | ((with_reducible apply Lv.w_rU)) | ((with_reducible apply Lv.w_ret)) | ((with_reducible apply Lv.w_retN)) | ((with_reducible apply Lv.w_next)) | ((with_reducible apply Lv.w_drop)) | ((with_reducible apply Lv.w_ifS)) | ((with_reducible apply Lv.w_gcons); (focus (exact rfl))) | ((with_reducible apply Lv.w_gnil); (focus (exact rfl))) | ((with_reducible apply Lv.w_gtup); (focus (first | assumption | (exact Lv.Join.g (by assumption) _ _ (by assumption)))); (focus (exact rfl))) | ((with_reducible apply Lv.w_eq); (focus (exact rfl))) | ((with_reducible apply Lv.w_ne); (focus (exact rfl))) | ((with_reducible apply Lv.w_tB)) | ((with_reducible apply Lv.w_test)) | ((with_reducible apply Lv.w_bl)) | ((with_reducible apply Lv.w_and)) | ((with_reducible apply Lv.w_or)) | ((with_reducible apply Lv.w_not)) | ((with_reducible apply Lv.w_andV)) | ((with_reducible apply Lv.w_orV)) | ((with_reducible apply Lv.w_notV)) | ((with_reducible apply Lv.w_ifT)) | ((with_reducible apply Lv.w_ifF)) | ((with_reducible apply Lv.w_ifNT)) | ((with_reducible apply Lv.w_ifNF)) | ((with_reducible apply Lv.w_yes)) | ((with_reducible apply Lv.w_ixT); (focus (first | assumption | (exact Lv.Join.g (by assumption) _ _ (by assumption)))); (focus (exact rfl))) | ((with_reducible apply Lv.w_aug); (focus (exact rfl))) | ((with_reducible apply Lv.w_rAdd)) | ((with_reducible apply Lv.w_rSub)) | ((with_reducible apply Lv.w_lcL)) | ((with_reducible apply Lv.w_lcT)) | ((with_reducible apply Lv.w_lcR)) | ((with_reducible apply Lv.w_sl)) | ((with_reducible apply Lv.w_npart)) | ((with_reducible apply Lv.w_part)) | ((with_reducible apply Lv.w_pint)) | ((with_reducible apply Lv.w_forR)) | ((with_reducible apply Lv.w_forR2)) | ((with_reducible apply Lv.w_par)) | ((with_reducible apply Lv.w_apar)) | ((with_reducible apply Lv.w_lcR2)) | ((with_reducible apply Lv.w_lcE)) | ((with_reducible apply Lv.w_isB)) | ((with_reducible apply Lv.w_isNB)) | ((with_reducible apply Lv.w_forL)) | ((with_reducible apply Lv.w_forT)) | ((with_reducible apply Lv.w_brk)) | ((with_reducible apply Lv.w_cont)) | ((with_reducible apply Lv.w_meth)) | ((with_reducible apply Lv.w_make)))
    refine aFld.ne j2 hM2 fun tv vs hvt hv => ?_
    (repeat first | ((with_reducible apply Lv.w_seq)) | ((with_reducible apply Lv.w_var); (focus (exact rfl))) | ((with_reducible apply Lv.w_op)) | ((with_reducible apply Lv.w_c)) | ((with_reducible apply Lv.w_cons)) | ((with_reducible apply Lv.w_nil)) | ((with_reducible apply Lv.w_rI0)) | ((with_reducible apply Lv.w_asg)) | ((with_reducible apply Lv.w_name)) | ((with_reducible apply Lv.w_call)) | ((with_reducible apply Lv.w_tof)) | ((with_reducible apply Lv.w_lof)) | ((with_reducible apply Lv.w_abs)) | ((with_reducible apply Lv.w_int1)) | ((with_reducible apply Lv.w_lenv)) | ((with_reducible apply Lv.w_lens)) | ((with_reducible apply Lv.w_cb)) | ((with_reducible apply Lv.w_rabs)) | ((with_reducible apply Lv.w_rint)) | ((with_reducible apply Lv.w_rintb)) | ((with_reducible apply Lv.w_rlenT); (focus (first | assumption | (exact Lv.Join.g (by assumption) _ _ (by assumption))))) | ((with_reducible apply Lv.w_rlenL); (focus (first | assumption | (exact Lv.Join.g (by assumption) _ _ (by assumption))))) | ((with_reducible apply Lv.w_slenT); (focus (first | assumption | (exact Lv.Join.g (by assumption) _ _ (by assumption))))) | ((with_reducible apply Lv.w_slenL); (focus (first | assumption | (exact Lv.Join.g (by assumption) _ _ (by assumption))))) | ((with_reducible apply Lv.w_klenT); (focus (first | assumption | (exact Lv.Join.g (by assumption) _ _ (by assumption))))) | ((with_reducible apply Lv.w_klenL); (focus (first | assumption | (exact Lv.Join.g (by assumption) _ _ (by assumption))))) | ((with_reducible apply Lv.w_bm)) | ((with_reducible apply Lv.w_bm0)) | ((with_reducible apply Lv.w_bml); (focus (first | assumption | (exact Lv.Join.g (by assumption) _ _ (by assumption))))) | ((with_reducible apply Lv.w_tup)) | ((with_reducible apply Lv.w_lst)) | ((with_reducible apply Lv.w_fld)) | ((with_reducible apply Lv.w_un)) | ((with_reducible apply Lv.w_rU)) | ((with_reducible apply Lv.w_ret)) | ((with_reducible apply Lv.w_retN)) | ((with_reducible apply Lv.w_next)) | ((with_reducible apply Lv.w_drop)) | ((with_reducible apply Lv.w_ifS)) | ((with_reducible apply Lv.w_gcons); (focus (exact rfl))) | ((with_reducible apply Lv.w_gnil); (focus (exact rfl))) | ((with_reducible apply Lv.w_gtup); (focus (first | assumption | (exact Lv.Join.g (by assumption) _ _ (by assumption)))); (focus (exact rfl))) | ((with_reducible apply Lv.w_eq); (focus (exact rfl))) | ((with_reducible apply Lv.w_ne); (focus (exact rfl))) | ((with_reducible apply Lv.w_tB)) | ((with_reducible apply Lv.w_test)) | ((with_reducible apply Lv.w_bl)) | ((with_reducible apply Lv.w_and)) | ((with_reducible apply Lv.w_or)) | ((with_reducible apply Lv.w_not)) | ((with_reducible apply Lv.w_andV)) | ((with_reducible apply Lv.w_orV)) | ((with_reducible apply Lv.w_notV)) | ((with_reducible apply Lv.w_ifT)) | ((with_reducible apply Lv.w_ifF)) | ((with_reducible apply Lv.w_ifNT)) | ((with_reducible apply Lv.w_ifNF)) | ((with_reducible apply Lv.w_yes)) | ((with_reducible apply Lv.w_ixT); (focus (first | assumption | (exact Lv.Join.g (by assumption) _ _ (by assumption)))); (focus (exact rfl))) | ((with_reducible apply Lv.w_aug); (focus (exact rfl))) | ((with_reducible apply Lv.w_rAdd)) | ((with_reducible apply Lv.w_rSub)) | ((with_reducible apply Lv.w_lcL)) | ((with_reducible apply Lv.w_lcT)) | ((with_reducible apply Lv.w_lcR)) | ((with_reducible apply Lv.w_sl)) | ((with_reducible apply Lv.w_npart)) | ((with_reducible apply Lv.w_part)) | ((with_reducible apply Lv.w_pint)) | ((with_reducible apply Lv.w_forR)) | ((with_reducible apply Lv.w_forR2)) | ((with_reducible apply Lv.w_par)) | ((with_reducible apply Lv.w_apar)) | ((with_reducible apply Lv.w_lcR2)) | ((with_reducible apply Lv.w_lcE)) | ((with_reducible apply Lv.w_isB)) | ((with_reducible apply Lv.w_isNB)) | ((with_reducible apply Lv.w_forL)) | ((with_reducible apply Lv.w_forT)) | ((with_reducible apply Lv.w_brk)) | ((with_reducible apply Lv.w_cont)) | ((with_reducible apply Lv.w_meth)) | ((with_reducible apply Lv.w_make)))
    refine slA_take j2 hvt fun u G3 H3 e3 j3 hu => ?_
    replace hT1 := e3 _ _ hT1; replace hT2 := e3 _ _ hT2; replace hvt := e3 _ _ hvt; replace hv := hv.mono e3; replace hM2 := hM2.mono e3
    (repeat first | ((with_reducible apply Lv.w_seq)) | ((with_reducible apply Lv.w_var); (focus (exact rfl))) | ((with_reducible apply Lv.w_op)) | ((with_reducible apply Lv.w_c)) | ((with_reducible apply Lv.w_cons)) | ((with_reducible apply Lv.w_nil)) | ((with_reducible apply Lv.w_rI0)) | ((with_reducible apply Lv.w_asg)) | ((with_reducible apply Lv.w_name)) | ((with_reducible apply Lv.w_call)) | ((with_reducible apply Lv.w_tof)) | ((with_reducible apply Lv.w_lof)) | ((with_reducible apply Lv.w_abs)) | ((with_reducible apply Lv.w_int1)) | ((with_reducible apply Lv.w_lenv)) | ((with_reducible apply Lv.w_lens)) | ((with_reducible apply Lv.w_cb)) | ((with_reducible apply Lv.w_rabs)) | ((with_reducible apply Lv.w_rint)) | ((with_reducible apply Lv.w_rintb)) | ((with_reducible apply Lv.w_rlenT); (focus (first | assumption | (exact Lv.Join.g (by assumption) _ _ (by assumption))))) | ((with_reducible apply Lv.w_rlenL); (focus (first | assumption | (exact Lv.Join.g (by assumption) _ _ (by assumption))))) | ((with_reducible apply Lv.w_slenT); (focus (first | assumption | (exact Lv.Join.g (by assumption) _ _ (by assumption))))) | ((with_reducible apply Lv.w_slenL); (focus (first | assumption | (exact Lv.Join.g (by assumption) _ _ (by assumption))))) | ((with_reducible apply Lv.w_klenT); (focus (first | assumption | (exact Lv.Join.g (by assumption) _ _ (by assumption))))) | ((with_reducible apply Lv.w_klenL); (focus (first | assumption | (exact Lv.Join.g (by assumption) _ _ (by assumption))))) | ((with_reducible apply Lv.w_bm)) | ((with_reducible apply Lv.w_bm0)) | ((with_reducible apply Lv.w_bml); (focus (first | assumption | (exact Lv.Join.g (by assumption) _ _ (by assumption))))) | ((with_reducible apply Lv.w_tup)) | ((with_reducible apply Lv.w_lst)) | ((with_reducible apply Lv.w_fld)) | ((with_reducible apply Lv.w_un)) | ((with_reducible apply Lv.w_rU)) | ((with_reducible apply Lv.w_ret)) | ((with_reducible apply Lv.w_retN)) | ((with_reducible apply Lv.w_next)) | ((with_reducible apply Lv.w_drop)) | ((with_reducible apply Lv.w_ifS)) | ((with_reducible apply Lv.w_gcons); (focus (exact rfl))) | ((with_reducible apply Lv.w_gnil); (focus (exact rfl))) | ((with_reducible apply Lv.w_gtup); (focus (first | assumption | (exact Lv.Join.g (by assumption) _ _ (by assumption)))); (focus (exact rfl))) | ((with_reducible apply Lv.w_eq); (focus (exact rfl))) | ((with_reducible apply Lv.w_ne); (focus (exact rfl))) | ((with_reducible apply Lv.w_tB)) | ((with_reducible apply Lv.w_test)) | ((with_reducible apply Lv.w_bl)) | ((with_reducible apply Lv.w_and)) | ((with_reducible apply Lv.w_or)) | ((with_reducible apply Lv.w_not)) | ((with_reducible apply Lv.w_andV)) | ((with_reducible apply Lv.w_orV)) | ((with_reducible apply Lv.w_notV)) | ((with_reducible apply Lv.w_ifT)) | ((with_reducible apply Lv.w_ifF)) | ((with_reducible apply Lv.w_ifNT)) | ((with_reducible apply Lv.w_ifNF)) | ((with_reducible apply Lv.w_yes)) | ((with_reducible apply Lv.w_ixT); (focus (first | assumption | (exact Lv.Join.g (by assumption) _ _ (by assumption)))); (focus (exact rfl))) | ((with_reducible apply Lv.w_aug); (focus (exact rfl))) | ((with_reducible apply Lv.w_rAdd)) | ((with_reducible apply Lv.w_rSub)) | ((with_reducible apply Lv.w_lcL)) | ((with_reducible apply Lv.w_lcT)) | ((with_reducible apply Lv.w_lcR)) | ((with_reducible apply Lv.w_sl)) | ((with_reducible apply Lv.w_npart)) | ((with_reducible apply Lv.w_part)) | ((with_reducible apply Lv.w_pint)) | ((with_reducible apply Lv.w_forR)) | ((with_reducible apply Lv.w_forR2)) | ((with_reducible apply Lv.w_par)) | ((with_reducible apply Lv.w_apar)) | ((with_reducible apply Lv.w_lcR2)) | ((with_reducible apply Lv.w_lcE)) | ((with_reducible apply Lv.w_isB)) | ((with_reducible apply Lv.w_isNB)) | ((with_reducible apply Lv.w_forL)) | ((with_reducible apply Lv.w_forT)) | ((with_reducible apply Lv.w_brk)) | ((with_reducible apply Lv.w_cont)) | ((with_reducible apply Lv.w_meth)) | ((with_reducible apply Lv.w_make)))
    refine aTup.go j3 (by show 1 ≤ 100000; decide) fun t3 G4 H4 ht4 e4 j4 hT3 => ?_
    replace hT1 := e4 _ _ hT1; replace hT2 := e4 _ _ hT2; replace hvt := e4 _ _ hvt; replace hu := e4 _ _ hu; replace hv := hv.mono e4; replace hM2 := hM2.mono e4
    (repeat first | ((with_reducible apply Lv.w_seq)) | ((with_reducible apply Lv.w_var); (focus (exact rfl))) | ((with_reducible apply Lv.w_op)) | ((with_reducible apply Lv.w_c)) | ((with_reducible apply Lv.w_cons)) | ((with_reducible apply Lv.w_nil)) | ((with_reducible apply Lv.w_rI0)) | ((with_reducible apply Lv.w_asg)) | ((with_reducible apply Lv.w_name)) | ((with_reducible apply Lv.w_call)) | ((with_reducible apply Lv.w_tof)) | ((with_reducible apply Lv.w_lof)) | ((with_reducible apply Lv.w_abs)) | ((with_reducible apply Lv.w_int1)) | ((with_reducible apply Lv.w_lenv)) | ((with_reducible apply Lv.w_lens)) | ((with_reducible apply Lv.w_cb)) | ((with_reducible apply Lv.w_rabs)) | ((with_reducible apply Lv.w_rint)) | ((with_reducible apply Lv.w_rintb)) | ((with_reducible apply Lv.w_rlenT); (focus (first | assumption | (exact Lv.Join.g (by assumption) _ _ (by assumption))))) | ((with_reducible apply Lv.w_rlenL); (focus (first | assumption | (exact Lv.Join.g (by assumption) _ _ (by assumption))))) | ((with_reducible apply Lv.w_slenT); (focus (first | assumption | (exact Lv.Join.g (by assumption) _ _ (by assumption))))) | ((with_reducible apply Lv.w_slenL); (focus (first | assumption | (exact Lv.Join.g (by assumption) _ _ (by assumption))))) | ((with_reducible apply Lv.w_klenT); (focus (first | assumption | (exact Lv.Join.g (by assumption) _ _ (by assumption))))) | ((with_reducible apply Lv.w_klenL); (focus (first | assumption | (exact Lv.Join.g (by assumption) _ _ (by assumption))))) | ((with_reducible apply Lv.w_bm)) | ((with_reducible apply Lv.w_bm0)) | ((with_reducible apply Lv.w_bml); (focus (first | assumption | (exact Lv.Join.g (by assumption) _ _ (by assumption))))) | ((with_reducible apply Lv.w_tup)) | ((with_reducible apply Lv.w_lst)) | ((with_reducible apply Lv.w_fld)) | ((with_reducible apply Lv.w_un)) | ((with_reducible apply Lv.w_rU)) | ((with_reducible apply Lv.w_ret)) | ((with_reducible apply Lv.w_retN)) | ((with_reducible apply Lv.w_next)) | ((with_reducible apply Lv.w_drop)) | ((with_reducible apply Lv.w_ifS)) | ((with_reducible apply Lv.w_gcons); (focus (exact rfl))) | ((with_reducible apply Lv.w_gnil); (focus (exact rfl))) | ((with_reducible apply Lv.w_gtup); (focus (first | assumption | (exact Lv.Join.g (by assumption) _ _ (by assumption)))); (focus (exact rfl))) | ((with_reducible apply Lv.w_eq); (focus (exact rfl))) | ((with_reducible apply Lv.w_ne); (focus (exact rfl))) | ((with_reducible apply Lv.w_tB)) | ((with_reducible apply Lv.w_test)) | ((with_reducible apply Lv.w_bl)) | ((with_reducible apply Lv.w_and)) | ((with_reducible apply Lv.w_or)) | ((with_reducible apply Lv.w_not)) | ((with_reducible apply Lv.w_andV)) | ((with_reducible apply Lv.w_orV)) | ((with_reducible apply Lv.w_notV)) | ((with_reducible apply Lv.w_ifT)) | ((with_reducible apply Lv.w_ifF)) | ((with_reducible apply Lv.w_ifNT)) | ((with_reducible apply Lv.w_ifNF)) | ((with_reducible apply Lv.w_yes)) | ((with_reducible apply Lv.w_ixT); (focus (first | assumption | (exact Lv.Join.g (by assumption) _ _ (by assumption)))); (focus (exact rfl))) | ((with_reducible apply Lv.w_aug); (focus (exact rfl))) | ((with_reducible apply Lv.w_rAdd)) | ((with_reducible apply Lv.w_rSub)) | ((with_reducible apply Lv.w_lcL)) | ((with_reducible apply Lv.w_lcT)) | ((with_reducible apply Lv.w_lcR)) | ((with_reducible apply Lv.w_sl)) | ((with_reducible apply Lv.w_npart)) | ((with_reducible apply Lv.w_part)) | ((with_reducible apply Lv.w_pint)) | ((with_reducible apply Lv.w_forR)) | ((with_reducible apply Lv.w_forR2)) | ((with_reducible apply Lv.w_par)) | ((with_reducible apply Lv.w_apar)) | ((with_reducible apply Lv.w_lcR2)) | ((with_reducible apply Lv.w_lcE)) | ((with_reducible apply Lv.w_isB)) | ((with_reducible apply Lv.w_isNB)) | ((with_reducible apply Lv.w_forL)) | ((with_reducible apply Lv.w_forT)) | ((with_reducible apply Lv.w_brk)) | ((with_reducible apply Lv.w_cont)) | ((with_reducible apply Lv.w_meth)) | ((with_reducible apply Lv.w_make)))
    refine catA_out j4 hu hT3 (by rw [List.length_take, hv.1]; show _ + 1 < 100000; omega) fun u2 G5 H5 e5 j5 hu2 => ?_
    replace hT1 := e5 _ _ hT1; replace hT2 := e5 _ _ hT2; replace hM2 := hM2.mono e5
    (repeat first | ((with_reducible apply Lv.w_seq)) | ((with_reducible apply Lv.w_var); (focus (exact rfl))) | ((with_reducible apply Lv.w_op)) | ((with_reducible apply Lv.w_c)) | ((with_reducible apply Lv.w_cons)) | ((with_reducible apply Lv.w_nil)) | ((with_reducible apply Lv.w_rI0)) | ((with_reducible apply Lv.w_asg)) | ((with_reducible apply Lv.w_name)) | ((with_reducible apply Lv.w_call)) | ((with_reducible apply Lv.w_tof)) | ((with_reducible apply Lv.w_lof)) | ((with_reducible apply Lv.w_abs)) | ((with_reducible apply Lv.w_int1)) | ((with_reducible apply Lv.w_lenv)) | ((with_reducible apply Lv.w_lens)) | ((with_reducible apply Lv.w_cb)) | ((with_reducible apply Lv.w_rabs)) | ((with_reducible apply Lv.w_rint)) | ((with_reducible apply Lv.w_rintb)) | ((with_reducible apply Lv.w_rlenT); (focus (first | assumption | (exact Lv.Join.g (by assumption) _ _ (by assumption))))) | ((with_reducible apply Lv.w_rlenL); (focus (first | assumption | (exact Lv.Join.g (by assumption) _ _ (by assumption))))) | ((with_reducible apply Lv.w_slenT); (focus (first | assumption | (exact Lv.Join.g (by assumption) _ _ (by assumption))))) | ((with_reducible apply Lv.w_slenL); (focus (first | assumption | (exact Lv.Join.g (by assumption) _ _ (by assumption))))) | ((with_reducible apply Lv.w_klenT); (focus (first | assumption | (exact Lv.Join.g (by assumption) _ _ (by assumption))))) | ((with_reducible apply Lv.w_klenL); (focus (first | assumption | (exact Lv.Join.g (by assumption) _ _ (by assumption))))) | ((with_reducible apply Lv.w_bm)) | ((with_reducible apply Lv.w_bm0)) | ((with_reducible apply Lv.w_bml); (focus (first | assumption | (exact Lv.Join.g (by assumption) _ _ (by assumption))))) | ((with_reducible apply Lv.w_tup)) | ((with_reducible apply Lv.w_lst)) | ((with_reducible apply Lv.w_fld)) | ((with_reducible apply Lv.w_un)) | ((with_reducible apply Lv.w_rU)) | ((with_reducible apply Lv.w_ret)) | ((with_reducible apply Lv.w_retN)) | ((with_reducible apply Lv.w_next)) | ((with_reducible apply Lv.w_drop)) | ((with_reducible apply Lv.w_ifS)) | ((with_reducible apply Lv.w_gcons); (focus (exact rfl))) | ((with_reducible apply Lv.w_gnil); (focus (exact rfl))) | ((with_reducible apply Lv.w_gtup); (focus (first | assumption | (exact Lv.Join.g (by assumption) _ _ (by assumption)))); (focus (exact rfl))) | ((with_reducible apply Lv.w_eq); (focus (exact rfl))) | ((with_reducible apply Lv.w_ne); (focus (exact rfl))) | ((with_reducible apply Lv.w_tB)) | ((with_reducible apply Lv.w_test)) | ((with_reducible apply Lv.w_bl)) | ((with_reducible apply Lv.w_and)) | ((with_reducible apply Lv.w_or)) | ((with_reducible apply Lv.w_not)) | ((with_reducible apply Lv.w_andV)) | ((with_reducible apply Lv.w_orV)) | ((with_reducible apply Lv.w_notV)) | ((with_reducible apply Lv.w_ifT)) | ((with_reducible apply Lv.w_ifF)) | ((with_reducible apply Lv.w_ifNT)) | ((with_reducible apply Lv.w_ifNF)) | ((with_reducible apply Lv.w_yes)) | ((with_reducible apply Lv.w_ixT); (focus (first | assumption | (exact Lv.Join.g (by assumption) _ _ (by assumption)))); (focus (exact rfl))) | ((with_reducible apply Lv.w_aug); (focus (exact rfl))) | ((with_reducible apply Lv.w_rAdd)) | ((with_reducible apply Lv.w_rSub)) | ((with_reducible apply Lv.w_lcL)) | ((with_reducible apply Lv.w_lcT)) | ((with_reducible apply Lv.w_lcR)) | ((with_reducible apply Lv.w_sl)) | ((with_reducible apply Lv.w_npart)) | ((with_reducible apply Lv.w_part)) | ((with_reducible apply Lv.w_pint)) | ((with_reducible apply Lv.w_forR)) | ((with_reducible apply Lv.w_forR2)) | ((with_reducible apply Lv.w_par)) | ((with_reducible apply Lv.w_apar)) | ((with_reducible apply Lv.w_lcR2)) | ((with_reducible apply Lv.w_lcE)) | ((with_reducible apply Lv.w_isB)) | ((with_reducible apply Lv.w_isNB)) | ((with_reducible apply Lv.w_forL)) | ((with_reducible apply Lv.w_forT)) | ((with_reducible apply Lv.w_brk)) | ((with_reducible apply Lv.w_cont)) | ((with_reducible apply Lv.w_meth)) | ((with_reducible apply Lv.w_make)))
    refine aFld.ne j5 hM2 fun tv2 vs2 hvt2 hv2 => ?_
    (repeat first | ((with_reducible apply Lv.w_seq)) | ((with_reducible apply Lv.w_var); (focus (exact rfl))) | ((with_reducible apply Lv.w_op)) | ((with_reducible apply Lv.w_c)) | ((with_reducible apply Lv.w_cons)) | ((with_reducible apply Lv.w_nil)) | ((with_reducible apply Lv.w_rI0)) | ((with_reducible apply Lv.w_asg)) | ((with_reducible apply Lv.w_name)) | ((with_reducible apply Lv.w_call)) | ((with_reducible apply Lv.w_tof)) | ((with_reducible apply Lv.w_lof)) | ((with_reducible apply Lv.w_abs)) | ((with_reducible apply Lv.w_int1)) | ((with_reducible apply Lv.w_lenv)) | ((with_reducible apply Lv.w_lens)) | ((with_reducible apply Lv.w_cb)) | ((with_reducible apply Lv.w_rabs)) | ((with_reducible apply Lv.w_rint)) | ((with_reducible apply Lv.w_rintb)) | ((with_reducible apply Lv.w_rlenT); (focus (first | assumption | (exact Lv.Join.g (by assumption) _ _ (by assumption))))) | ((with_reducible apply Lv.w_rlenL); (focus (first | assumption | (exact Lv.Join.g (by assumption) _ _ (by assumption))))) | ((with_reducible apply Lv.w_slenT); (focus (first | assumption | (exact Lv.Join.g (by assumption) _ _ (by assumption))))) | ((with_reducible apply Lv.w_slenL); (focus (first | assumption | (exact Lv.Join.g (by assumption) _ _ (by assumption))))) | ((with_reducible apply Lv.w_klenT); (focus (first | assumption | (exact Lv.Join.g (by assumption) _ _ (by assumption))))) | ((with_reducible apply Lv.w_klenL); (focus (first | assumption | (exact Lv.Join.g (by assumption) _ _ (by assumption))))) | ((with_reducible apply Lv.w_bm)) | ((with_reducible apply Lv.w_bm0)) | ((with_reducible apply Lv.w_bml); (focus (first | assumption | (exact Lv.Join.g (by assumption) _ _ (by assumption))))) | ((with_reducible apply Lv.w_tup)) | ((with_reducible apply Lv.w_lst)) | ((with_reducible apply Lv.w_fld)) | ((with_reducible apply Lv.w_un)) | ((with_reducible apply Lv.w_rU)) | ((with_reducible apply Lv.w_ret)) | ((with_reducible apply Lv.w_retN)) | ((with_reducible apply Lv.w_next)) | ((with_reducible apply Lv.w_drop)) | ((with_reducible apply Lv.w_ifS)) | ((with_reducible apply Lv.w_gcons); (focus (exact rfl))) | ((with_reducible apply Lv.w_gnil); (focus (exact rfl))) | ((with_reducible apply Lv.w_gtup); (focus (first | assumption | (exact Lv.Join.g (by assumption) _ _ (by assumption)))); (focus (exact rfl))) | ((with_reducible apply Lv.w_eq); (focus (exact rfl))) | ((with_reducible apply Lv.w_ne); (focus (exact rfl))) | ((with_reducible apply Lv.w_tB)) | ((with_reducible apply Lv.w_test)) | ((with_reducible apply Lv.w_bl)) | ((with_reducible apply Lv.w_and)) | ((with_reducible apply Lv.w_or)) | ((with_reducible apply Lv.w_not)) | ((with_reducible apply Lv.w_andV)) | ((with_reducible apply Lv.w_orV)) | ((with_reducible apply Lv.w_notV)) | ((with_reducible apply Lv.w_ifT)) | ((with_reducible apply Lv.w_ifF)) | ((with_reducible apply Lv.w_ifNT)) | ((with_reducible apply Lv.w_ifNF)) | ((with_reducible apply Lv.w_yes)) | ((with_reducible apply Lv.w_ixT); (focus (first | assumption | (exact Lv.Join.g (by assumption) _ _ (by assumption)))); (focus (exact rfl))) | ((with_reducible apply Lv.w_aug); (focus (exact rfl))) | ((with_reducible apply Lv.w_rAdd)) | ((with_reducible apply Lv.w_rSub)) | ((with_reducible apply Lv.w_lcL)) | ((with_reducible apply Lv.w_lcT)) | ((with_reducible apply Lv.w_lcR)) | ((with_reducible apply Lv.w_sl)) | ((with_reducible apply Lv.w_npart)) | ((with_reducible apply Lv.w_part)) | ((with_reducible apply Lv.w_pint)) | ((with_reducible apply Lv.w_forR)) | ((with_reducible apply Lv.w_forR2)) | ((with_reducible apply Lv.w_par)) | ((with_reducible apply Lv.w_apar)) | ((with_reducible apply Lv.w_lcR2)) | ((with_reducible apply Lv.w_lcE)) | ((with_reducible apply Lv.w_isB)) | ((with_reducible apply Lv.w_isNB)) | ((with_reducible apply Lv.w_forL)) | ((with_reducible apply Lv.w_forT)) | ((with_reducible apply Lv.w_brk)) | ((with_reducible apply Lv.w_cont)) | ((with_reducible apply Lv.w_meth)) | ((with_reducible apply Lv.w_make)))
    rw [show (k : Int) + 1 = ((k + 1 : Nat) : Int) by omega]
    refine slA_drop j5 hvt2 fun u3 G6 H6 e6 j6 hu3 => ?_
    replace hT1 := e6 _ _ hT1; replace hT2 := e6 _ _ hT2; replace hu2 := e6 _ _ hu2; replace hv2 := hv2.mono e6
    (repeat first | ((with_reducible apply Lv.w_seq)) | ((with_reducible apply Lv.w_var); (focus (exact rfl))) | ((with_reducible apply Lv.w_op)) | ((with_reducible apply Lv.w_c)) | ((with_reducible apply Lv.w_cons)) | ((with_reducible apply Lv.w_nil)) | ((with_reducible apply Lv.w_rI0)) | ((with_reducible apply Lv.w_asg)) | ((with_reducible apply Lv.w_name)) | ((with_reducible apply Lv.w_call)) | ((with_reducible apply Lv.w_tof)) | ((with_reducible apply Lv.w_lof)) | ((with_reducible apply Lv.w_abs)) | ((with_reducible apply Lv.w_int1)) | ((with_reducible apply Lv.w_lenv)) | ((with_reducible apply Lv.w_lens)) | ((with_reducible apply Lv.w_cb)) | ((with_reducible apply Lv.w_rabs)) | ((with_reducible apply Lv.w_rint)) | ((with_reducible apply Lv.w_rintb)) | ((with_reducible apply Lv.w_rlenT); (focus (first | assumption | (exact Lv.Join.g (by assumption) _ _ (by assumption))))) | ((with_reducible apply Lv.w_rlenL); (focus (first | assumption | (exact Lv.Join.g (by assumption) _ _ (by assumption))))) | ((with_reducible apply Lv.w_slenT); (focus (first | assumption | (exact Lv.Join.g (by assumption) _ _ (by assumption))))) | ((with_reducible apply Lv.w_slenL); (focus (first | assumption | (exact Lv.Join.g (by assumption) _ _ (by assumption))))) | ((with_reducible apply Lv.w_klenT); (focus (first | assumption | (exact Lv.Join.g (by assumption) _ _ (by assumption))))) | ((with_reducible apply Lv.w_klenL); (focus (first | assumption | (exact Lv.Join.g (by assumption) _ _ (by assumption))))) | ((with_reducible apply Lv.w_bm)) | ((with_reducible apply Lv.w_bm0)) | ((with_reducible apply Lv.w_bml); (focus (first | assumption | (exact Lv.Join.g (by assumption) _ _ (by assumption))))) | ((with_reducible apply Lv.w_tup)) | ((with_reducible apply Lv.w_lst)) | ((with_reducible apply Lv.w_fld)) | ((with_reducible apply Lv.w_un)) | ((with_reducible apply Lv.w_rU)) | ((with_reducible apply Lv.w_ret)) | ((with_reducible apply Lv.w_retN)) | ((with_reducible apply Lv.w_next)) | ((with_reducible apply Lv.w_drop)) | ((with_reducible apply Lv.w_ifS)) | ((with_reducible apply Lv.w_gcons); (focus (exact rfl))) | ((with_reducible apply Lv.w_gnil); (focus (exact rfl))) | ((with_reducible apply Lv.w_gtup); (focus (first | assumption | (exact Lv.Join.g (by assumption) _ _ (by assumption)))); (focus (exact rfl))) | ((with_reducible apply Lv.w_eq); (focus (exact rfl))) | ((with_reducible apply Lv.w_ne); (focus (exact rfl))) | ((with_reducible apply Lv.w_tB)) | ((with_reducible apply Lv.w_test)) | ((with_reducible apply Lv.w_bl)) | ((with_reducible apply Lv.w_and)) | ((with_reducible apply Lv.w_or)) | ((with_reducible apply Lv.w_not)) | ((with_reducible apply Lv.w_andV)) | ((with_reducible apply Lv.w_orV)) | ((with_reducible apply Lv.w_notV)) | ((with_reducible apply Lv.w_ifT)) | ((with_reducible apply Lv.w_ifF)) | ((with_reducible apply Lv.w_ifNT)) | ((with_reducible apply Lv.w_ifNF)) | ((with_reducible apply Lv.w_yes)) | ((with_reducible apply Lv.w_ixT); (focus (first | assumption | (exact Lv.Join.g (by assumption) _ _ (by assumption)))); (focus (exact rfl))) | ((with_reducible apply Lv.w_aug); (focus (exact rfl))) | ((with_reducible apply Lv.w_rAdd)) | ((with_reducible apply Lv.w_rSub)) | ((with_reducible apply Lv.w_lcL)) | ((with_reducible apply Lv.w_lcT)) | ((with_reducible apply Lv.w_lcR)) | ((with_reducible apply Lv.w_sl)) | ((with_reducible apply Lv.w_npart)) | ((with_reducible apply Lv.w_part)) | ((with_reducible apply Lv.w_pint)) | ((with_reducible apply Lv.w_forR)) | ((with_reducible apply Lv.w_forR2)) | ((with_reducible apply Lv.w_par)) | ((with_reducible apply Lv.w_apar)) | ((with_reducible apply Lv.w_lcR2)) | ((with_reducible apply Lv.w_lcE)) | ((with_reducible apply Lv.w_isB)) | ((with_reducible apply Lv.w_isNB)) | ((with_reducible apply Lv.w_forL)) | ((with_reducible apply Lv.w_forT)) | ((with_reducible apply Lv.w_brk)) | ((with_reducible apply Lv.w_cont)) | ((with_reducible apply Lv.w_meth)) | ((with_reducible apply Lv.w_make)))
    have hvl := hv.1
    have hvl2 := hv2.1
    refine catA_out j6 hu2 hu3 (by simp; omega) fun u4 G7 H7 e7 j7 hu4 => ?_
    replace hT1 := e7 _ _ hT1; replace hT2 := e7 _ _ hT2; replace hv2 := hv2.mono e7
    (repeat first | ((with_reducible apply Lv.w_seq)) | ((with_reducible apply Lv.w_var); (focus (exact rfl))) | ((with_reducible apply Lv.w_op)) | ((with_reducible apply Lv.w_c)) | ((with_reducible apply Lv.w_cons)) | ((with_reducible apply Lv.w_nil)) | ((with_reducible apply Lv.w_rI0)) | ((with_reducible apply Lv.w_asg)) | ((with_reducible apply Lv.w_name)) | ((with_reducible apply Lv.w_call)) | ((with_reducible apply Lv.w_tof)) | ((with_reducible apply Lv.w_lof)) | ((with_reducible apply Lv.w_abs)) | ((with_reducible apply Lv.w_int1)) | ((with_reducible apply Lv.w_lenv)) | ((with_reducible apply Lv.w_lens)) | ((with_reducible apply Lv.w_cb)) | ((with_reducible apply Lv.w_rabs)) | ((with_reducible apply Lv.w_rint)) | ((with_reducible apply Lv.w_rintb)) | ((with_reducible apply Lv.w_rlenT); (focus (first | assumption | (exact Lv.Join.g (by assumption) _ _ (by assumption))))) | ((with_reducible apply Lv.w_rlenL); (focus (first | assumption | (exact Lv.Join.g (by assumption) _ _ (by assumption))))) | ((with_reducible apply Lv.w_slenT); (focus (first | assumption | (exact Lv.Join.g (by assumption) _ _ (by assumption))))) | ((with_reducible apply Lv.w_slenL); (focus (first | assumption | (exact Lv.Join.g (by assumption) _ _ (by assumption))))) | ((with_reducible apply Lv.w_klenT); (focus (first | assumption | (exact Lv.Join.g (by assumption) _ _ (by assumption))))) | ((with_reducible apply Lv.w_klenL); (focus (first | assumption | (exact Lv.Join.g (by assumption) _ _ (by assumption))))) | ((with_reducible apply Lv.w_bm)) | ((with_reducible apply Lv.w_bm0)) | ((with_reducible apply Lv.w_bml); (focus (first | assumption | (exact Lv.Join.g (by assumption) _ _ (by assumption))))) | ((with_reducible apply Lv.w_tup)) | ((with_reducible apply Lv.w_lst)) | ((with_reducible apply Lv.w_fld)) | ((with_reducible apply Lv.w_un)) | ((with_reducible apply Lv.w_rU)) | ((with_reducible apply Lv.w_ret)) | ((with_reducible apply Lv.w_retN)) | ((with_reducible apply Lv.w_next)) | ((with_reducible apply Lv.w_drop)) | ((with_reducible apply Lv.w_ifS)) | ((with_reducible apply Lv.w_gcons); (focus (exact rfl))) | ((with_reducible apply Lv.w_gnil); (focus (exact rfl))) | ((with_reducible apply Lv.w_gtup); (focus (first | assumption | (exact Lv.Join.g (by assumption) _ _ (by assumption)))); (focus (exact rfl))) | ((with_reducible apply Lv.w_eq); (focus (exact rfl))) | ((with_reducible apply Lv.w_ne); (focus (exact rfl))) | ((with_reducible apply Lv.w_tB)) | ((with_reducible apply Lv.w_test)) | ((with_reducible apply Lv.w_bl)) | ((with_reducible apply Lv.w_and)) | ((with_reducible apply Lv.w_or)) | ((with_reducible apply Lv.w_not)) | ((with_reducible apply Lv.w_andV)) | ((with_reducible apply Lv.w_orV)) | ((with_reducible apply Lv.w_notV)) | ((with_reducible apply Lv.w_ifT)) | ((with_reducible apply Lv.w_ifF)) | ((with_reducible apply Lv.w_ifNT)) | ((with_reducible apply Lv.w_ifNF)) | ((with_reducible apply Lv.w_yes)) | ((with_reducible apply Lv.w_ixT); (focus (first | assumption | (exact Lv.Join.g (by assumption) _ _ (by assumption)))); (focus (exact rfl))) | ((with_reducible apply Lv.w_aug); (focus (exact rfl))) | ((with_reducible apply Lv.w_rAdd)) | ((with_reducible apply Lv.w_rSub)) | ((with_reducible apply Lv.w_lcL)) | ((with_reducible apply Lv.w_lcT)) | ((with_reducible apply Lv.w_lcR)) | ((with_reducible apply Lv.w_sl)) | ((with_reducible apply Lv.w_npart)) | ((with_reducible apply Lv.w_part)) | ((with_reducible apply Lv.w_pint)) | ((with_reducible apply Lv.w_forR)) | ((with_reducible apply Lv.w_forR2)) | ((with_reducible apply Lv.w_par)) | ((with_reducible apply Lv.w_apar)) | ((with_reducible apply Lv.w_lcR2)) | ((with_reducible apply Lv.w_lcE)) | ((with_reducible apply Lv.w_isB)) | ((with_reducible apply Lv.w_isNB)) | ((with_reducible apply Lv.w_forL)) | ((with_reducible apply Lv.w_forT)) | ((with_reducible apply Lv.w_brk)) | ((with_reducible apply Lv.w_cont)) | ((with_reducible apply Lv.w_meth)) | ((with_reducible apply Lv.w_make)))
    refine aTup.go j7 (by show 1 ≤ 100000; decide) fun t4 G8 H8 ht8 e8 j8 hT4 => ?_
    replace hT1 := e8 _ _ hT1; replace hT2 := e8 _ _ hT2; replace hu4 := e8 _ _ hu4; replace hv2 := hv2.mono e8
    (repeat first | ((with_reducible apply Lv.w_seq)) | ((with_reducible apply Lv.w_var); (focus (exact rfl))) | ((with_reducible apply Lv.w_op)) | ((with_reducible apply Lv.w_c)) | ((with_reducible apply Lv.w_cons)) | ((with_reducible apply Lv.w_nil)) | ((with_reducible apply Lv.w_rI0)) | ((with_reducible apply Lv.w_asg)) | ((with_reducible apply Lv.w_name)) | ((with_reducible apply Lv.w_call)) | ((with_reducible apply Lv.w_tof)) | ((with_reducible apply Lv.w_lof)) | ((with_reducible apply Lv.w_abs)) | ((with_reducible apply Lv.w_int1)) | ((with_reducible apply Lv.w_lenv)) | ((with_reducible apply Lv.w_lens)) | ((with_reducible apply Lv.w_cb)) | ((with_reducible apply Lv.w_rabs)) | ((with_reducible apply Lv.w_rint)) | ((with_reducible apply Lv.w_rintb)) | ((with_reducible apply Lv.w_rlenT); (focus (first | assumption | (exact Lv.Join.g (by assumption) _ _ (by assumption))))) | ((with_reducible apply Lv.w_rlenL); (focus (first | assumption | (exact Lv.Join.g (by assumption) _ _ (by assumption))))) | ((with_reducible apply Lv.w_slenT); (focus (first | assumption | (exact Lv.Join.g (by assumption) _ _ (by assumption))))) | ((with_reducible apply Lv.w_slenL); (focus (first | assumption | (exact Lv.Join.g (by assumption) _ _ (by assumption))))) | ((with_reducible apply Lv.w_klenT); (focus (first | assumption | (exact Lv.Join.g (by assumption) _ _ (by assumption))))) | ((with_reducible apply Lv.w_klenL); (focus (first | assumption | (exact Lv.Join.g (by assumption) _ _ (by assumption))))) | ((with_reducible apply Lv.w_bm)) | ((with_reducible apply Lv.w_bm0)) | ((with_reducible apply Lv.w_bml); (focus (first | assumption | (exact Lv.Join.g (by assumption) _ _ (by assumption))))) | ((with_reducible apply Lv.w_tup)) | ((with_reducible apply Lv.w_lst)) | ((with_reducible apply Lv.w_fld)) | ((with_reducible apply Lv.w_un)) | ((with_reducible apply Lv.w_rU)) | ((with_reducible apply Lv.w_ret)) | ((with_reducible apply Lv.w_retN)) | ((with_reducible apply Lv.w_next)) | ((with_reducible apply Lv.w_drop)) | ((with_reducible apply Lv.w_ifS)) | ((with_reducible apply Lv.w_gcons); (focus (exact rfl))) | ((with_reducible apply Lv.w_gnil); (focus (exact rfl))) | ((with_reducible apply Lv.w_gtup); (focus (first | assumption | (exact Lv.Join.g (by assumption) _ _ (by assumption)))); (focus (exact rfl))) | ((with_reducible apply Lv.w_eq); (focus (exact rfl))) | ((with_reducible apply Lv.w_ne); (focus (exact rfl))) | ((with_reducible apply Lv.w_tB)) | ((with_reducible apply Lv.w_test)) | ((with_reducible apply Lv.w_bl)) | ((with_reducible apply Lv.w_and)) | ((with_reducible apply Lv.w_or)) | ((with_reducible apply Lv.w_not)) | ((with_reducible apply Lv.w_andV)) | ((with_reducible apply Lv.w_orV)) | ((with_reducible apply Lv.w_notV)) | ((with_reducible apply Lv.w_ifT)) | ((with_reducible apply Lv.w_ifF)) | ((with_reducible apply Lv.w_ifNT)) | ((with_reducible apply Lv.w_ifNF)) | ((with_reducible apply Lv.w_yes)) | ((with_reducible apply Lv.w_ixT); (focus (first | assumption | (exact Lv.Join.g (by assumption) _ _ (by assumption)))); (focus (exact rfl))) | ((with_reducible apply Lv.w_aug); (focus (exact rfl))) | ((with_reducible apply Lv.w_rAdd)) | ((with_reducible apply Lv.w_rSub)) | ((with_reducible apply Lv.w_lcL)) | ((with_reducible apply Lv.w_lcT)) | ((with_reducible apply Lv.w_lcR)) | ((with_reducible apply Lv.w_sl)) | ((with_reducible apply Lv.w_npart)) | ((with_reducible apply Lv.w_part)) | ((with_reducible apply Lv.w_pint)) | ((with_reducible apply Lv.w_forR)) | ((with_reducible apply Lv.w_forR2)) | ((with_reducible apply Lv.w_par)) | ((with_reducible apply Lv.w_apar)) | ((with_reducible apply Lv.w_lcR2)) | ((with_reducible apply Lv.w_lcE)) | ((with_reducible apply Lv.w_isB)) | ((with_reducible apply Lv.w_isNB)) | ((with_reducible apply Lv.w_forL)) | ((with_reducible apply Lv.w_forT)) | ((with_reducible apply Lv.w_brk)) | ((with_reducible apply Lv.w_cont)) | ((with_reducible apply Lv.w_meth)) | ((with_reducible apply Lv.w_make)))
    refine catA_out j8 hu4 hT4 (by simp; omega) fun u5 G9 H9 e9 j9 hu5 => ?_
    replace hT1 := e9 _ _ hT1; replace hT2 := e9 _ _ hT2; replace hv2 := hv2.mono e9
    (repeat first | ((with_reducible apply Lv.w_seq)) | ((with_reducible apply Lv.w_var); (focus (exact rfl))) | ((with_reducible apply Lv.w_op)) | ((with_reducible apply Lv.w_c)) | ((with_reducible apply Lv.w_cons)) | ((with_reducible apply Lv.w_nil)) | ((with_reducible apply Lv.w_rI0)) | ((with_reducible apply Lv.w_asg)) | ((with_reducible apply Lv.w_name)) | ((with_reducible apply Lv.w_call)) | ((with_reducible apply Lv.w_tof)) | ((with_reducible apply Lv.w_lof)) | ((with_reducible apply Lv.w_abs)) | ((with_reducible apply Lv.w_int1)) | ((with_reducible apply Lv.w_lenv)) | ((with_reducible apply Lv.w_lens)) | ((with_reducible apply Lv.w_cb)) | ((with_reducible apply Lv.w_rabs)) | ((with_reducible apply Lv.w_rint)) | ((with_reducible apply Lv.w_rintb)) | ((with_reducible apply Lv.w_rlenT); (focus (first | assumption | (exact Lv.Join.g (by assumption) _ _ (by assumption))))) | ((with_reducible apply Lv.w_rlenL); (focus (first | assumption | (exact Lv.Join.g (by assumption) _ _ (by assumption))))) | ((with_reducible apply Lv.w_slenT); (focus (first | assumption | (exact Lv.Join.g (by assumption) _ _ (by assumption))))) | ((with_reducible apply Lv.w_slenL); (focus (first | assumption | (exact Lv.Join.g (by assumption) _ _ (by assumption))))) | ((with_reducible apply Lv.w_klenT); (focus (first | assumption | (exact Lv.Join.g (by assumption) _ _ (by assumption))))) | ((with_reducible apply Lv.w_klenL); (focus (first | assumption | (exact Lv.Join.g (by assumption) _ _ (by assumption))))) | ((with_reducible apply Lv.w_bm)) | ((with_reducible apply Lv.w_bm0)) | ((with_reducible apply Lv.w_bml); (focus (first | assumption | (exact Lv.Join.g (by assumption) _ _ (by assumption))))) | ((with_reducible apply Lv.w_tup)) | ((with_reducible apply Lv.w_lst)) | ((with_reducible apply Lv.w_fld)) | ((with_reducible apply Lv.w_un)) | ((with_reducible apply Lv.w_rU)) | ((with_reducible apply Lv.w_ret)) | ((with_reducible apply Lv.w_retN)) | ((with_reducible apply Lv.w_next)) | ((with_reducible apply Lv.w_drop)) | ((with_reducible apply Lv.w_ifS)) | ((with_reducible apply Lv.w_gcons); (focus (exact rfl))) | ((with_reducible apply Lv.w_gnil); (focus (exact rfl))) | ((with_reducible apply Lv.w_gtup); (focus (first | assumption | (exact Lv.Join.g (by assumption) _ _ (by assumption)))); (focus (exact rfl))) | ((with_reducible apply Lv.w_eq); (focus (exact rfl))) | ((with_reducible apply Lv.w_ne); (focus (exact rfl))) | ((with_reducible apply Lv.w_tB)) | ((with_reducible apply Lv.w_test)) | ((with_reducible apply Lv.w_bl)) | ((with_reducible apply Lv.w_and)) | ((with_reducible apply Lv.w_or)) | ((with_reducible apply Lv.w_not)) | ((with_reducible apply Lv.w_andV)) | ((with_reducible apply Lv.w_orV)) | ((with_reducible apply Lv.w_notV)) | ((with_reducible apply Lv.w_ifT)) | ((with_reducible apply Lv.w_ifF)) | ((with_reducible apply Lv.w_ifNT)) | ((with_reducible apply Lv.w_ifNF)) | ((with_reducible apply Lv.w_yes)) | ((with_reducible apply Lv.w_ixT); (focus (first | assumption | (exact Lv.Join.g (by assumption) _ _ (by assumption)))); (focus (exact rfl))) | ((with_reducible apply Lv.w_aug); (focus (exact rfl))) | ((with_reducible apply Lv.w_rAdd)) | ((with_reducible apply Lv.w_rSub)) | ((with_reducible apply Lv.w_lcL)) | ((with_reducible apply Lv.w_lcT)) | ((with_reducible apply Lv.w_lcR)) | ((with_reducible apply Lv.w_sl)) | ((with_reducible apply Lv.w_npart)) | ((with_reducible apply Lv.w_part)) | ((with_reducible apply Lv.w_pint)) | ((with_reducible apply Lv.w_forR)) | ((with_reducible apply Lv.w_forR2)) | ((with_reducible apply Lv.w_par)) | ((with_reducible apply Lv.w_apar)) | ((with_reducible apply Lv.w_lcR2)) | ((with_reducible apply Lv.w_lcE)) | ((with_reducible apply Lv.w_isB)) | ((with_reducible apply Lv.w_isNB)) | ((with_reducible apply Lv.w_forL)) | ((with_reducible apply Lv.w_forT)) | ((with_reducible apply Lv.w_brk)) | ((with_reducible apply Lv.w_cont)) | ((with_reducible apply Lv.w_meth)) | ((with_reducible apply Lv.w_make)))
    have e49 := e5.trans (e6.trans (e7.trans (e8.trans e9)))
    refine aMake.go j9 fun m2 dx G10 H10 hm e10 j10 hd10 => ?_
    refine ⟨m2, u5, n + 1, dx, partE n es k e t x, G10, _, rfl, j10, hd10, ⟨_, e10 _ _ hu5, ?_⟩, by omega, by omega, ?_, ?_, fun G11 H11 j11 b11 hM11 => ⟨rfl, ?_⟩⟩
    · have f1 : TupL evV G10 _ _ := TupL.app (TupL.app (TupL.app (TupL.take (TupL.mono (e49.trans e10) hv) k) (TupL.one (f := evV) (a := ⟨e.b, n, t, x⟩) (e10 _ _ hT1))) (TupL.drop (TupL.mono e10 hv2) (k + 1))) (TupL.one (f := evV) (a := ⟨n, e.a, e.w - t, e.x - x⟩) (e10 _ _ hT2))
      exact f1
    · unfold partE; simp; omega
    · intro e' he'
      unfold partE at he'
      simp only [List.mem_append, List.mem_singleton] at he'
      rcases he' with ((h | rfl) | h) | rfl
      · have := hB.2.2.2 e' (List.mem_of_mem_take h); omega
      · exact ⟨b1, by show e.b < n + 1; omega⟩
      · have := hB.2.2.2 e' (List.mem_of_mem_drop h); omega
      · exact ⟨by show 0 ≤ n; omega, by show n < n + 1; omega⟩
    · have e09 := e02.trans ((e3.trans e4).trans e49)
      have hH : Ex H H9 := j.exH e09 j9
      exact q m2 G11 H11 (b11.ex (e09.trans e10) (j.ng (hH.back hm))) j11 (hH.back hm) hM11
/-- a run, its event k as k, N -/
def exR (k N : Nat) (rs : List Nat) : List Nat := rs.flatMap fun i => if i = k then [i, N] else [i]
def newTo (k N : Nat) (rs : List Nat) (n : Nat) : List Nat := (List.range n).flatMap fun i => if rs[i]? = some k then [(exR k N (rs.take i)).length] else []
theorem exR_more {k N i x : Nat} {rs : List Nat} (h : rs[i]? = some x) : exR k N (rs.take (i + 1)) = exR k N (rs.take i) ++ (if x = k then [x, N] else [x]) := flat_more h
theorem newTo_more {k N i x : Nat} {rs : List Nat} (h : rs[i]? = some x) : newTo k N rs (i + 1) = newTo k N rs i ++ (if x = k then [(exR k N (rs.take i)).length] else []) := by
  unfold newTo
  rw [List.range_succ, List.flatMap_append, List.flatMap_cons, List.flatMap_nil, List.append_nil, h]
  by_cases hx : x = k
  · subst hx; simp
  · rw [if_neg (fun z => hx (Option.some.inj z)), if_neg hx]
theorem exR_len (k N : Nat) (rs : List Nat) : (exR k N rs).length ≤ 2 * rs.length := flat_len (k := 2) (fun i => by by_cases h : i = k <;> simp [h]) rs
theorem rV_app (a b : List Nat) : rV (a ++ b) = rV a ++ rV b := List.map_append ..
def spTwice : Sp := fun vs H Q _ => ∃ (r : Addr) (k N : Nat) (rs : List Nat) (G P : Hp), vs = [.ref r, .int k, .int N] ∧ Join G P H ∧ G r = some (.tup (rV rs)) ∧ rs.length ≤ 10000 ∧
  ∀ (p t q : Addr) (G' H' : Hp), Ex G G' → Join G' P H' → G' p = some (.tup [.ref t, .ref q]) → G' t = some (.tup (rV (exR k N rs))) → G' q = some (.lst (rV (newTo k N rs rs.length))) → Q (.ref p) H'
theorem sc_l_twice : FnScope ["_law_run", "_law_event", "_law_last", "_law_number", "_law_found", "_law_new"] ["_law_run", "_law_event", "_law_last"] (defScope s_l_twice) := ⟨rfl, rfl, rfl, by decide +kernel, rfl, by decide +kernel, by decide +kernel⟩
theorem ok_l_twice (T : Txt K mg) : ∃ fd, Dn P w K mg base (L2.CX P w) 1 "_law_twice" ["_law_run", "_law_event", "_law_last"] spTwice fd := by
  obtain ⟨fd, F⟩ := T.d_l_twice
  refine ⟨fd, F.ok sc_l_twice (fun vs H Q E h => ?_) (fun cdv A outer s H vs Q E hr h => ?_), T.g_l_twice, F.kp, F.bindsN fun _ _ _ _ _ _ us hl => match us, hl with | [_, _, _], _ => rfl, Lv.fun_lk F⟩
  · obtain ⟨_, _, _, _, _, _, rfl, _⟩ := h
    rfl
  · have hu := hu_of hr
    refine ⟨_, PSs.nox (pss_cons (ps_par (i := 4) (j := 5) rfl sc_l_twice.nd rfl rfl (by decide) rfl rfl (pa_cons (pe_lst pa_nil) (pa_cons (pe_lst pa_nil) pa_nil)) rfl)
      (pss_cons (ps_for PassesOwn.never rfl (pi_tup (pv 0)) (pg_name (i := 3) sc_l_twice.nd rfl (Or.inl rfl)) (pss_cons (ps_expr (pe_bm PySem.F.plainAttrs_list PySem.F.slot_list_append PySem.F.type_list_append mt_append (pv 4) (pa_cons (pv 3) pa_nil)))
      (pss_one (ps_if (pt_cmpR op_eq (pv 3) (pv 1) (nomark _)) (pss_cons (ps_expr (pe_bm PySem.F.plainAttrs_list PySem.F.slot_list_append PySem.F.type_list_append mt_append (pv 5) (pa_cons (pe_op op_sub (pe_callB call_len_seq (by rfl) T.n_len PySem.boot_len (pa_cons (pv 4) pa_nil)) pe_int) pa_nil)))
      (pss_one (ps_expr (pe_bm PySem.F.plainAttrs_list PySem.F.slot_list_append PySem.F.type_list_append mt_append (pv 4) (pa_cons (pv 2) pa_nil))))) pss_nil))))
      (pss_one (ps_ret (pe_tup (pa_cons (pe_callTy call_tuple_of (by rfl) T.n_tuple (by decide +kernel) (pa_cons (pv 4) pa_nil)) (pa_cons (pv 5) pa_nil))))))), ?_⟩
    obtain ⟨r, k, N, rs, G, P0, rfl, j, hr0, hl, q⟩ := h
    (repeat first | ((with_reducible apply Lv.w_seq)) | ((with_reducible apply Lv.w_var); (focus (exact rfl))) | ((with_reducible apply Lv.w_op)) | ((with_reducible apply Lv.w_c)) | ((with_reducible apply Lv.w_cons)) | ((with_reducible apply Lv.w_nil)) | ((with_reducible apply Lv.w_rI0)) | ((with_reducible apply Lv.w_asg)) | ((with_reducible apply Lv.w_name)) | ((with_reducible apply Lv.w_call)) | ((with_reducible apply Lv.w_tof)) | ((with_reducible apply Lv.w_lof)) | ((with_reducible apply Lv.w_abs)) | ((with_reducible apply Lv.w_int1)) | ((with_reducible apply Lv.w_lenv)) | ((with_reducible apply Lv.w_lens)) | ((with_reducible apply Lv.w_cb)) | ((with_reducible apply Lv.w_rabs)) | ((with_reducible apply Lv.w_rint)) | ((with_reducible apply Lv.w_rintb)) | ((with_reducible apply Lv.w_rlenT); (focus (first | assumption | (exact Lv.Join.g (by assumption) _ _ (by assumption))))) | ((with_reducible apply Lv.w_rlenL); (focus (first | assumption | (exact Lv.Join.g (by assumption) _ _ (by assumption))))) | ((with_reducible apply Lv.w_slenT); (focus (first | assumption | (exact Lv.Join.g (by assumption) _ _ (by assumption))))) | ((with_reducible apply Lv.w_slenL); (focus (first | assumption | (exact Lv.Join.g (by assumption) _ _ (by assumption))))) | ((with_reducible apply Lv.w_klenT); (focus (first | assumption | (exact Lv.Join.g (by assumption) _ _ (by assumption))))) | ((with_reducible apply Lv.w_klenL); (focus (first | assumption | (exact Lv.Join.g (by assumption) _ _ (by assumption))))) | ((with_reducible apply Lv.w_bm)) | ((with_reducible apply Lv.w_bm0)) | ((with_reducible apply Lv.w_bml); (focus (first | assumption | (exact Lv.Join.g (by assumption) _ _ (by assumption))))) | ((with_reducible apply Lv.w_tup)) | ((with_reducible apply Lv.w_lst)) | ((with_reducible apply Lv.w_fld)) | ((with_reducible apply Lv.w_un)) | ((with_reducible apply Lv.w_rU)) | ((with_reducible apply Lv.w_ret)) | ((with_reducible apply Lv.w_retN)) | ((with_reducible apply Lv.w_next)) | ((with_reducible apply Lv.w_drop)) | ((with_reducible apply Lv.w_ifS)) | ((with_reducible apply Lv.w_gcons); (focus (exact rfl))) | ((with_reducible apply Lv.w_gnil); (focus (exact rfl))) | ((with_reducible apply Lv.w_gtup); (focus (first | assumption | (exact Lv.Join.g (by assumption) _ _ (by assumption)))); (focus (exact rfl))) | ((with_reducible apply Lv.w_eq); (focus (exact rfl))) | ((with_reducible apply Lv.w_ne); (focus (exact rfl))) | ((with_reducible apply Lv.w_tB)) | ((with_reducible apply Lv.w_test)) | ((with_reducible apply Lv.w_bl)) | ((with_reducible apply Lv.w_and)) | ((with_reducible apply Lv.w_or)) | ((with_reducible apply Lv.w_not)) | ((with_reducible apply Lv.w_andV)) | ((with_reducible apply Lv.w_orV)) | ((with_reducible apply Lv.w_notV)) | ((with_reducible apply Lv.w_ifT)) | ((with_reducible apply Lv.w_ifF)) | ((with_reducible apply Lv.w_ifNT)) | ((with_reducible apply Lv.w_ifNF)) | ((with_reducible apply Lv.w_yes)) | ((with_reducible apply Lv.w_ixT); (focus (first | assumption | (exact Lv.Join.g (by assumption) _ _ (by assumption)))); (focus (exact rfl))) | ((with_reducible apply Lv.w_aug); (focus (exact rfl))) | ((with_reducible apply Lv.w_rAdd)) | ((with_reducible apply Lv.w_rSub)) | ((with_reducible apply Lv.w_lcL)) | ((with_reducible apply Lv.w_lcT)) | ((with_reducible apply Lv.w_lcR)) | ((with_reducible apply Lv.w_sl)) | ((with_reducible apply Lv.w_npart)) | ((with_reducible apply Lv.w_part)) | ((with_reducible apply Lv.w_pint)) | ((with_reducible apply Lv.w_forR)) | ((with_reducible apply Lv.w_forR2)) | ((with_reducible apply Lv.w_par)) | ((with_reducible apply Lv.w_apar)) | ((with_reducible apply Lv.w_lcR2)) | ((with_reducible apply Lv.w_lcE)) | ((with_reducible apply Lv.w_isB)) | ((with_reducible apply Lv.w_isNB)) | ((with_reducible apply Lv.w_forL)) | ((with_reducible apply Lv.w_forT)) | ((with_reducible apply Lv.w_brk)) | ((with_reducible apply Lv.w_cont)) | ((with_reducible apply Lv.w_meth)) | ((with_reducible apply Lv.w_make)))
    refine aLst.go j (by show 0 ≤ 100000; decide) fun L G1 H1 hL e1 j1 hGL => ?_
    (repeat first | ((with_reducible apply Lv.w_seq)) | ((with_reducible apply Lv.w_var); (focus (exact rfl))) | ((with_reducible apply Lv.w_op)) | ((with_reducible apply Lv.w_c)) | ((with_reducible apply Lv.w_cons)) | ((with_reducible apply Lv.w_nil)) | ((with_reducible apply Lv.w_rI0)) | ((with_reducible apply Lv.w_asg)) | ((with_reducible apply Lv.w_name)) | ((with_reducible apply Lv.w_call)) | ((with_reducible apply Lv.w_tof)) | ((with_reducible apply Lv.w_lof)) | ((with_reducible apply Lv.w_abs)) | ((with_reducible apply Lv.w_int1)) | ((with_reducible apply Lv.w_lenv)) | ((with_reducible apply Lv.w_lens)) | ((with_reducible apply Lv.w_cb)) | ((with_reducible apply Lv.w_rabs)) | ((with_reducible apply Lv.w_rint)) | ((with_reducible apply Lv.w_rintb)) | ((with_reducible apply Lv.w_rlenT); (focus (first | assumption | (exact Lv.Join.g (by assumption) _ _ (by assumption))))) | ((with_reducible apply Lv.w_rlenL); (focus (first | assumption | (exact Lv.Join.g (by assumption) _ _ (by assumption))))) | ((with_reducible apply Lv.w_slenT); (focus (first | assumption | (exact Lv.Join.g (by assumption) _ _ (by assumption))))) | ((with_reducible apply Lv.w_slenL); (focus (first | assumption | (exact Lv.Join.g (by assumption) _ _ (by assumption))))) | ((with_reducible apply Lv.w_klenT); (focus (first | assumption | (exact Lv.Join.g (by assumption) _ _ (by assumption))))) | ((with_reducible apply Lv.w_klenL); (focus (first | assumption | (exact Lv.Join.g (by assumption) _ _ (by assumption))))) | ((with_reducible apply Lv.w_bm)) | ((with_reducible apply Lv.w_bm0)) | ((with_reducible apply Lv.w_bml); (focus (first | assumption | (exact Lv.Join.g (by assumption) _ _ (by assumption))))) | ((with_reducible apply Lv.w_tup)) | ((with_reducible apply Lv.w_lst)) | ((with_reducible apply Lv.w_fld)) | ((with_reducible apply Lv.w_un)) | ((with_reducible apply Lv.w_rU)) | ((with_reducible apply Lv.w_ret)) | ((with_reducible apply Lv.w_retN)) | ((with_reducible apply Lv.w_next)) | ((with_reducible apply Lv.w_drop)) | ((with_reducible apply Lv.w_ifS)) | ((with_reducible apply Lv.w_gcons); (focus (exact rfl))) | ((with_reducible apply Lv.w_gnil); (focus (exact rfl))) | ((with_reducible apply Lv.w_gtup); (focus (first | assumption | (exact Lv.Join.g (by assumption) _ _ (by assumption)))); (focus (exact rfl))) | ((with_reducible apply Lv.w_eq); (focus (exact rfl))) | ((with_reducible apply Lv.w_ne); (focus (exact rfl))) | ((with_reducible apply Lv.w_tB)) | ((with_reducible apply Lv.w_test)) | ((with_reducible apply Lv.w_bl)) | ((with_reducible apply Lv.w_and)) | ((with_reducible apply Lv.w_or)) | ((with_reducible apply Lv.w_not)) | ((with_reducible apply Lv.w_andV)) | ((with_reducible apply Lv.w_orV)) | ((with_reducible apply Lv.w_notV)) | ((with_reducible apply Lv.w_ifT)) | ((with_reducible apply Lv.w_ifF)) | ((with_reducible apply Lv.w_ifNT)) | ((with_reducible apply Lv.w_ifNF)) | ((with_reducible apply Lv.w_yes)) | ((with_reducible apply Lv.w_ixT); (focus (first | assumption | (exact Lv.Join.g (by assumption) _ _ (by assumption)))); (focus (exact rfl))) | ((with_reducible apply Lv.w_aug); (focus (exact rfl))) | ((with_reducible apply Lv.w_rAdd)) | ((with_reducible apply Lv.w_rSub)) | ((with_reducible apply Lv.w_lcL)) | ((with_reducible apply Lv.w_lcT)) | ((with_reducible apply Lv.w_lcR)) | ((with_reducible apply Lv.w_sl)) | ((with_reducible apply Lv.w_npart)) | ((with_reducible apply Lv.w_part)) | ((with_reducible apply Lv.w_pint)) | ((with_reducible apply Lv.w_forR)) | ((with_reducible apply Lv.w_forR2)) | ((with_reducible apply Lv.w_par)) | ((with_reducible apply Lv.w_apar)) | ((with_reducible apply Lv.w_lcR2)) | ((with_reducible apply Lv.w_lcE)) | ((with_reducible apply Lv.w_isB)) | ((with_reducible apply Lv.w_isNB)) | ((with_reducible apply Lv.w_forL)) | ((with_reducible apply Lv.w_forT)) | ((with_reducible apply Lv.w_brk)) | ((with_reducible apply Lv.w_cont)) | ((with_reducible apply Lv.w_meth)) | ((with_reducible apply Lv.w_make)))
    refine aLst.go j1 (by show 0 ≤ 100000; decide) fun M G2 H2 hM e2 j2 hGM => ?_
    have nLM : L ≠ M := fun h => by
      subst h
      have := j1.g _ _ hGL
      rw [hM] at this; cases this
    have gL : G L = none := j.ng hL
    have gM : G M = none := j.ng ((j.exH e1 j1).back hM)
    (repeat first | ((with_reducible apply Lv.w_seq)) | ((with_reducible apply Lv.w_var); (focus (exact rfl))) | ((with_reducible apply Lv.w_op)) | ((with_reducible apply Lv.w_c)) | ((with_reducible apply Lv.w_cons)) | ((with_reducible apply Lv.w_nil)) | ((with_reducible apply Lv.w_rI0)) | ((with_reducible apply Lv.w_asg)) | ((with_reducible apply Lv.w_name)) | ((with_reducible apply Lv.w_call)) | ((with_reducible apply Lv.w_tof)) | ((with_reducible apply Lv.w_lof)) | ((with_reducible apply Lv.w_abs)) | ((with_reducible apply Lv.w_int1)) | ((with_reducible apply Lv.w_lenv)) | ((with_reducible apply Lv.w_lens)) | ((with_reducible apply Lv.w_cb)) | ((with_reducible apply Lv.w_rabs)) | ((with_reducible apply Lv.w_rint)) | ((with_reducible apply Lv.w_rintb)) | ((with_reducible apply Lv.w_rlenT); (focus (first | assumption | (exact Lv.Join.g (by assumption) _ _ (by assumption))))) | ((with_reducible apply Lv.w_rlenL); (focus (first | assumption | (exact Lv.Join.g (by assumption) _ _ (by assumption))))) | ((with_reducible apply Lv.w_slenT); (focus (first | assumption | (exact Lv.Join.g (by assumption) _ _ (by assumption))))) | ((with_reducible apply Lv.w_slenL); (focus (first | assumption | (exact Lv.Join.g (by assumption) _ _ (by assumption))))) | ((with_reducible apply Lv.w_klenT); (focus (first | assumption | (exact Lv.Join.g (by assumption) _ _ (by assumption))))) | ((with_reducible apply Lv.w_klenL); (focus (first | assumption | (exact Lv.Join.g (by assumption) _ _ (by assumption))))) | ((with_reducible apply Lv.w_bm)) | ((with_reducible apply Lv.w_bm0)) | ((with_reducible apply Lv.w_bml); (focus (first | assumption | (exact Lv.Join.g (by assumption) _ _ (by assumption))))) | ((with_reducible apply Lv.w_tup)) | ((with_reducible apply Lv.w_lst)) | ((with_reducible apply Lv.w_fld)) | ((with_reducible apply Lv.w_un)) | ((with_reducible apply Lv.w_rU)) | ((with_reducible apply Lv.w_ret)) | ((with_reducible apply Lv.w_retN)) | ((with_reducible apply Lv.w_next)) | ((with_reducible apply Lv.w_drop)) | ((with_reducible apply Lv.w_ifS)) | ((with_reducible apply Lv.w_gcons); (focus (exact rfl))) | ((with_reducible apply Lv.w_gnil); (focus (exact rfl))) | ((with_reducible apply Lv.w_gtup); (focus (first | assumption | (exact Lv.Join.g (by assumption) _ _ (by assumption)))); (focus (exact rfl))) | ((with_reducible apply Lv.w_eq); (focus (exact rfl))) | ((with_reducible apply Lv.w_ne); (focus (exact rfl))) | ((with_reducible apply Lv.w_tB)) | ((with_reducible apply Lv.w_test)) | ((with_reducible apply Lv.w_bl)) | ((with_reducible apply Lv.w_and)) | ((with_reducible apply Lv.w_or)) | ((with_reducible apply Lv.w_not)) | ((with_reducible apply Lv.w_andV)) | ((with_reducible apply Lv.w_orV)) | ((with_reducible apply Lv.w_notV)) | ((with_reducible apply Lv.w_ifT)) | ((with_reducible apply Lv.w_ifF)) | ((with_reducible apply Lv.w_ifNT)) | ((with_reducible apply Lv.w_ifNF)) | ((with_reducible apply Lv.w_yes)) | ((with_reducible apply Lv.w_ixT); (focus (first | assumption | (exact Lv.Join.g (by assumption) _ _ (by assumption)))); (focus (exact rfl))) | ((with_reducible apply Lv.w_aug); (focus (exact rfl))) | ((with_reducible apply Lv.w_rAdd)) | ((with_reducible apply Lv.w_rSub)) | ((with_reducible apply Lv.w_lcL)) | ((with_reducible apply Lv.w_lcT)) | ((with_reducible apply Lv.w_lcR)) | ((with_reducible apply Lv.w_sl)) | ((with_reducible apply Lv.w_npart)) | ((with_reducible apply Lv.w_part)) | ((with_reducible apply Lv.w_pint)) | ((with_reducible apply Lv.w_forR)) | ((with_reducible apply Lv.w_forR2)) | ((with_reducible apply Lv.w_par)) | ((with_reducible apply Lv.w_apar)) | ((with_reducible apply Lv.w_lcR2)) | ((with_reducible apply Lv.w_lcE)) | ((with_reducible apply Lv.w_isB)) | ((with_reducible apply Lv.w_isNB)) | ((with_reducible apply Lv.w_forL)) | ((with_reducible apply Lv.w_forT)) | ((with_reducible apply Lv.w_brk)) | ((with_reducible apply Lv.w_cont)) | ((with_reducible apply Lv.w_meth)) | ((with_reducible apply Lv.w_make)))
    have hlv : (rV rs).length = rs.length := by simp [rV]
    refine aForT.go (xs := rV rs) (fun i G' P' σ' => P' = P0 ∧ Ex G G' ∧ ∃ (s3 : Option V), σ' = [some (.ref r), some (.int k), some (.int N), s3, some (.ref L), some (.ref M)] ∧ G' L = some (.lst (rV (exR k N (rs.take i)))) ∧ G' M = some (.lst (rV (newTo k N rs i)))) j2 ((e1.trans e2) _ _ hr0) ⟨rfl, e1.trans e2, none, rfl, e2 _ _ hGL, hGM⟩ (fun i G' P' σ' h => h.2.1 _ _ hr0) ?_ ?_
    · rintro i x G' P' H' σ' hx j' ⟨rfl, e', s3, rfl, h1, h2⟩
      obtain ⟨y, hy, rfl⟩ := rV_at hx
      have hi : i < rs.length := (List.getElem?_eq_some_iff.mp hy).1
      have hxl := exR_len k N (rs.take i)
      rw [List.length_take] at hxl
      have hnl : (newTo k N rs i).length ≤ 1 * i := by
        have := flat_len (f := fun i => if rs[i]? = some k then [(exR k N (rs.take i)).length] else []) (k := 1) (fun a => by by_cases h : rs[a]? = some k <;> simp [h]) (List.range i)
        rw [List.length_range] at this; exact this
      have hl1 : (rV (exR k N (rs.take i))).length = (exR k N (rs.take i)).length := by simp [rV]
      have hl2 : (rV (newTo k N rs i)).length = (newTo k N rs i).length := by simp [rV]
      (repeat first | ((with_reducible apply Lv.w_seq)) | ((with_reducible apply Lv.w_var); (focus (exact rfl))) | ((with_reducible apply Lv.w_op)) | ((with_reducible apply Lv.w_c)) | ((with_reducible apply Lv.w_cons)) | ((with_reducible apply Lv.w_nil)) | ((with_reducible apply Lv.w_rI0)) | ((with_reducible apply Lv.w_asg)) | ((with_reducible apply Lv.w_name)) | ((with_reducible apply Lv.w_call)) | ((with_reducible apply Lv.w_tof)) | ((with_reducible apply Lv.w_lof)) | ((with_reducible apply Lv.w_abs)) | ((with_reducible apply Lv.w_int1)) | ((with_reducible apply Lv.w_lenv)) | ((with_reducible apply Lv.w_lens)) | ((with_reducible apply Lv.w_cb)) | ((with_reducible apply Lv.w_rabs)) | ((with_reducible apply Lv.w_rint)) | ((with_reducible apply Lv.w_rintb)) | ((with_reducible apply Lv.w_rlenT); (focus (first | assumption | (exact Lv.Join.g (by assumption) _ _ (by assumption))))) | ((with_reducible apply Lv.w_rlenL); (focus (first | assumption | (exact Lv.Join.g (by assumption) _ _ (by assumption))))) | ((with_reducible apply Lv.w_slenT); (focus (first | assumption | (exact Lv.Join.g (by assumption) _ _ (by assumption))))) | ((with_reducible apply Lv.w_slenL); (focus (first | assumption | (exact Lv.Join.g (by assumption) _ _ (by assumption))))) | ((with_reducible apply Lv.w_klenT); (focus (first | assumption | (exact Lv.Join.g (by assumption) _ _ (by assumption))))) | ((with_reducible apply Lv.w_klenL); (focus (first | assumption | (exact Lv.Join.g (by assumption) _ _ (by assumption))))) | ((with_reducible apply Lv.w_bm)) | ((with_reducible apply Lv.w_bm0)) | ((with_reducible apply Lv.w_bml); (focus (first | assumption | (exact Lv.Join.g (by assumption) _ _ (by assumption))))) | ((with_reducible apply Lv.w_tup)) | ((with_reducible apply Lv.w_lst)) | ((with_reducible apply Lv.w_fld)) | ((with_reducible apply Lv.w_un)) | ((with_reducible apply Lv.w_rU)) | ((with_reducible apply Lv.w_ret)) | ((with_reducible apply Lv.w_retN)) | ((with_reducible apply Lv.w_next)) | ((with_reducible apply Lv.w_drop)) | ((with_reducible apply Lv.w_ifS)) | ((with_reducible apply Lv.w_gcons); (focus (exact rfl))) | ((with_reducible apply Lv.w_gnil); (focus (exact rfl))) | ((with_reducible apply Lv.w_gtup); (focus (first | assumption | (exact Lv.Join.g (by assumption) _ _ (by assumption)))); (focus (exact rfl))) | ((with_reducible apply Lv.w_eq); (focus (exact rfl))) | ((with_reducible apply Lv.w_ne); (focus (exact rfl))) | ((with_reducible apply Lv.w_tB)) | ((with_reducible apply Lv.w_test)) | ((with_reducible apply Lv.w_bl)) | ((with_reducible apply Lv.w_and)) | ((with_reducible apply Lv.w_or)) | ((with_reducible apply Lv.w_not)) | ((with_reducible apply Lv.w_andV)) | ((with_reducible apply Lv.w_orV)) | ((with_reducible apply Lv.w_notV)) | ((with_reducible apply Lv.w_ifT)) | ((with_reducible apply Lv.w_ifF)) | ((with_reducible apply Lv.w_ifNT)) | ((with_reducible apply Lv.w_ifNF)) | ((with_reducible apply Lv.w_yes)) | ((with_reducible apply Lv.w_ixT); (focus (first | assumption | (exact Lv.Join.g (by assumption) _ _ (by assumption)))); (focus (exact rfl))) | ((with_reducible apply Lv.w_aug); (focus (exact rfl))) | ((with_reducible apply Lv.w_rAdd)) | ((with_reducible apply Lv.w_rSub)) | ((with_reducible apply Lv.w_lcL)) | ((with_reducible apply Lv.w_lcT)) | ((with_reducible apply Lv.w_lcR)) | ((with_reducible apply Lv.w_sl)) | ((with_reducible apply Lv.w_npart)) | ((with_reducible apply Lv.w_part)) | ((with_reducible apply Lv.w_pint)) | ((with_reducible apply Lv.w_forR)) | ((with_reducible apply Lv.w_forR2)) | ((with_reducible apply Lv.w_par)) | ((with_reducible apply Lv.w_apar)) | ((with_reducible apply Lv.w_lcR2)) | ((with_reducible apply Lv.w_lcE)) | ((with_reducible apply Lv.w_isB)) | ((with_reducible apply Lv.w_isNB)) | ((with_reducible apply Lv.w_forL)) | ((with_reducible apply Lv.w_forT)) | ((with_reducible apply Lv.w_brk)) | ((with_reducible apply Lv.w_cont)) | ((with_reducible apply Lv.w_meth)) | ((with_reducible apply Lv.w_make)))
      refine append.go j' h1 (by omega) fun G3 H3 b3 j3 h3 => ?_
      replace h2 := b3 _ _ h2 nLM.symm
      have e3 := b3.ex e' gL
      (repeat first | ((with_reducible apply Lv.w_seq)) | ((with_reducible apply Lv.w_var); (focus (exact rfl))) | ((with_reducible apply Lv.w_op)) | ((with_reducible apply Lv.w_c)) | ((with_reducible apply Lv.w_cons)) | ((with_reducible apply Lv.w_nil)) | ((with_reducible apply Lv.w_rI0)) | ((with_reducible apply Lv.w_asg)) | ((with_reducible apply Lv.w_name)) | ((with_reducible apply Lv.w_call)) | ((with_reducible apply Lv.w_tof)) | ((with_reducible apply Lv.w_lof)) | ((with_reducible apply Lv.w_abs)) | ((with_reducible apply Lv.w_int1)) | ((with_reducible apply Lv.w_lenv)) | ((with_reducible apply Lv.w_lens)) | ((with_reducible apply Lv.w_cb)) | ((with_reducible apply Lv.w_rabs)) | ((with_reducible apply Lv.w_rint)) | ((with_reducible apply Lv.w_rintb)) | ((with_reducible apply Lv.w_rlenT); (focus (first | assumption | (exact Lv.Join.g (by assumption) _ _ (by assumption))))) | ((with_reducible apply Lv.w_rlenL); (focus (first | assumption | (exact Lv.Join.g (by assumption) _ _ (by assumption))))) | ((with_reducible apply Lv.w_slenT); (focus (first | assumption | (exact Lv.Join.g (by assumption) _ _ (by assumption))))) | ((with_reducible apply Lv.w_slenL); (focus (first | assumption | (exact Lv.Join.g (by assumption) _ _ (by assumption))))) | ((with_reducible apply Lv.w_klenT); (focus (first | assumption | (exact Lv.Join.g (by assumption) _ _ (by assumption))))) | ((with_reducible apply Lv.w_klenL); (focus (first | assumption | (exact Lv.Join.g (by assumption) _ _ (by assumption))))) | ((with_reducible apply Lv.w_bm)) | ((with_reducible apply Lv.w_bm0)) | ((with_reducible apply Lv.w_bml); (focus (first | assumption | (exact Lv.Join.g (by assumption) _ _ (by assumption))))) | ((with_reducible apply Lv.w_tup)) | ((with_reducible apply Lv.w_lst)) | ((with_reducible apply Lv.w_fld)) | ((with_reducible apply Lv.w_un)) | ((with_reducible apply Lv.w_rU)) | ((with_reducible apply Lv.w_ret)) | ((with_reducible apply Lv.w_retN)) | ((with_reducible apply Lv.w_next)) | ((with_reducible apply Lv.w_drop)) | ((with_reducible apply Lv.w_ifS)) | ((with_reducible apply Lv.w_gcons); (focus (exact rfl))) | ((with_reducible apply Lv.w_gnil); (focus (exact rfl))) | ((with_reducible apply Lv.w_gtup); (focus (first | assumption | (exact Lv.Join.g (by assumption) _ _ (by assumption)))); (focus (exact rfl))) | ((with_reducible apply Lv.w_eq); (focus (exact rfl))) | ((with_reducible apply Lv.w_ne); (focus (exact rfl))) | ((with_reducible apply Lv.w_tB)) | ((with_reducible apply Lv.w_test)) | ((with_reducible apply Lv.w_bl)) | ((with_reducible apply Lv.w_and)) | ((with_reducible apply Lv.w_or)) | ((with_reducible apply Lv.w_not)) | ((with_reducible apply Lv.w_andV)) | ((with_reducible apply Lv.w_orV)) | ((with_reducible apply Lv.w_notV)) | ((with_reducible apply Lv.w_ifT)) | ((with_reducible apply Lv.w_ifF)) | ((with_reducible apply Lv.w_ifNT)) | ((with_reducible apply Lv.w_ifNF)) | ((with_reducible apply Lv.w_yes)) | ((with_reducible apply Lv.w_ixT); (focus (first | assumption | (exact Lv.Join.g (by assumption) _ _ (by assumption)))); (focus (exact rfl))) | ((with_reducible apply Lv.w_aug); (focus (exact rfl))) | ((with_reducible apply Lv.w_rAdd)) | ((with_reducible apply Lv.w_rSub)) | ((with_reducible apply Lv.w_lcL)) | ((with_reducible apply Lv.w_lcT)) | ((with_reducible apply Lv.w_lcR)) | ((with_reducible apply Lv.w_sl)) | ((with_reducible apply Lv.w_npart)) | ((with_reducible apply Lv.w_part)) | ((with_reducible apply Lv.w_pint)) | ((with_reducible apply Lv.w_forR)) | ((with_reducible apply Lv.w_forR2)) | ((with_reducible apply Lv.w_par)) | ((with_reducible apply Lv.w_apar)) | ((with_reducible apply Lv.w_lcR2)) | ((with_reducible apply Lv.w_lcE)) | ((with_reducible apply Lv.w_isB)) | ((with_reducible apply Lv.w_isNB)) | ((with_reducible apply Lv.w_forL)) | ((with_reducible apply Lv.w_forT)) | ((with_reducible apply Lv.w_brk)) | ((with_reducible apply Lv.w_cont)) | ((with_reducible apply Lv.w_meth)) | ((with_reducible apply Lv.w_make)))
      by_cases hyk : y = k
      · subst hyk
        refine itT rfl ?_
        (repeat first | ((with_reducible apply Lv.w_seq)) | ((with_reducible apply Lv.w_var); (focus (exact rfl))) | ((with_reducible apply Lv.w_op)) | ((with_reducible apply Lv.w_c)) | ((with_reducible apply Lv.w_cons)) | ((with_reducible apply Lv.w_nil)) | ((with_reducible apply Lv.w_rI0)) | ((with_reducible apply Lv.w_asg)) | ((with_reducible apply Lv.w_name)) | ((with_reducible apply Lv.w_call)) | ((with_reducible apply Lv.w_tof)) | ((with_reducible apply Lv.w_lof)) | ((with_reducible apply Lv.w_abs)) | ((with_reducible apply Lv.w_int1)) | ((with_reducible apply Lv.w_lenv)) | ((with_reducible apply Lv.w_lens)) | ((with_reducible apply Lv.w_cb)) | ((with_reducible apply Lv.w_rabs)) | ((with_reducible apply Lv.w_rint)) | ((with_reducible apply Lv.w_rintb)) | ((with_reducible apply Lv.w_rlenT); (focus (first | assumption | (exact Lv.Join.g (by assumption) _ _ (by assumption))))) | ((with_reducible apply Lv.w_rlenL); (focus (first | assumption | (exact Lv.Join.g (by assumption) _ _ (by assumption))))) | ((with_reducible apply Lv.w_slenT); (focus (first | assumption | (exact Lv.Join.g (by assumption) _ _ (by assumption))))) | ((with_reducible apply Lv.w_slenL); (focus (first | assumption | (exact Lv.Join.g (by assumption) _ _ (by assumption))))) | ((with_reducible apply Lv.w_klenT); (focus (first | assumption | (exact Lv.Join.g (by assumption) _ _ (by assumption))))) | ((with_reducible apply Lv.w_klenL); (focus (first | assumption | (exact Lv.Join.g (by assumption) _ _ (by assumption))))) | ((with_reducible apply Lv.w_bm)) | ((with_reducible apply Lv.w_bm0)) | ((with_reducible apply Lv.w_bml); (focus (first | assumption | (exact Lv.Join.g (by assumption) _ _ (by assumption))))) | ((with_reducible apply Lv.w_tup)) | ((with_reducible apply Lv.w_lst)) | ((with_reducible apply Lv.w_fld)) | ((with_reducible apply Lv.w_un)) | ((with_reducible apply Lv.w_rU)) | ((with_reducible apply Lv.w_ret)) | ((with_reducible apply Lv.w_retN)) | ((with_reducible apply Lv.w_next)) | ((with_reducible apply Lv.w_drop)) | ((with_reducible apply Lv.w_ifS)) | ((with_reducible apply Lv.w_gcons); (focus (exact rfl))) | ((with_reducible apply Lv.w_gnil); (focus (exact rfl))) | ((with_reducible apply Lv.w_gtup); (focus (first | assumption | (exact Lv.Join.g (by assumption) _ _ (by assumption)))); (focus (exact rfl))) | ((with_reducible apply Lv.w_eq); (focus (exact rfl))) | ((with_reducible apply Lv.w_ne); (focus (exact rfl))) | ((with_reducible apply Lv.w_tB)) | ((with_reducible apply Lv.w_test)) | ((with_reducible apply Lv.w_bl)) | ((with_reducible apply Lv.w_and)) | ((with_reducible apply Lv.w_or)) | ((with_reducible apply Lv.w_not)) | ((with_reducible apply Lv.w_andV)) | ((with_reducible apply Lv.w_orV)) | ((with_reducible apply Lv.w_notV)) | ((with_reducible apply Lv.w_ifT)) | ((with_reducible apply Lv.w_ifF)) | ((with_reducible apply Lv.w_ifNT)) | ((with_reducible apply Lv.w_ifNF)) | ((with_reducible apply Lv.w_yes)) | ((with_reducible apply Lv.w_ixT); (focus (first | assumption | (exact Lv.Join.g (by assumption) _ _ (by assumption)))); (focus (exact rfl))) | ((with_reducible apply Lv.w_aug); (focus (exact rfl))) | ((with_reducible apply Lv.w_rAdd)) | ((with_reducible apply Lv.w_rSub)) | ((with_reducible apply Lv.w_lcL)) | ((with_reducible apply Lv.w_lcT)) | ((with_reducible apply Lv.w_lcR)) | ((with_reducible apply Lv.w_sl)) | ((with_reducible apply Lv.w_npart)) | ((with_reducible apply Lv.w_part)) | ((with_reducible apply Lv.w_pint)) | ((with_reducible apply Lv.w_forR)) | ((with_reducible apply Lv.w_forR2)) | ((with_reducible apply Lv.w_par)) | ((with_reducible apply Lv.w_apar)) | ((with_reducible apply Lv.w_lcR2)) | ((with_reducible apply Lv.w_lcE)) | ((with_reducible apply Lv.w_isB)) | ((with_reducible apply Lv.w_isNB)) | ((with_reducible apply Lv.w_forL)) | ((with_reducible apply Lv.w_forT)) | ((with_reducible apply Lv.w_brk)) | ((with_reducible apply Lv.w_cont)) | ((with_reducible apply Lv.w_meth)) | ((with_reducible apply Lv.w_make)))
        refine append.go j3 h2 (by omega) fun G4 H4 b4 j4 h4 => ?_
        replace h3 := b4 _ _ h3 nLM
        have e4 := b4.ex e3 gM
        (repeat first | ((with_reducible apply Lv.w_seq)) | ((with_reducible apply Lv.w_var); (focus (exact rfl))) | ((with_reducible apply Lv.w_op)) | ((with_reducible apply Lv.w_c)) | ((with_reducible apply Lv.w_cons)) | ((with_reducible apply Lv.w_nil)) | ((with_reducible apply Lv.w_rI0)) | ((with_reducible apply Lv.w_asg)) | ((with_reducible apply Lv.w_name)) | ((with_reducible apply Lv.w_call)) | ((with_reducible apply Lv.w_tof)) | ((with_reducible apply Lv.w_lof)) | ((with_reducible apply Lv.w_abs)) | ((with_reducible apply Lv.w_int1)) | ((with_reducible apply Lv.w_lenv)) | ((with_reducible apply Lv.w_lens)) | ((with_reducible apply Lv.w_cb)) | ((with_reducible apply Lv.w_rabs)) | ((with_reducible apply Lv.w_rint)) | ((with_reducible apply Lv.w_rintb)) | ((with_reducible apply Lv.w_rlenT); (focus (first | assumption | (exact Lv.Join.g (by assumption) _ _ (by assumption))))) | ((with_reducible apply Lv.w_rlenL); (focus (first | assumption | (exact Lv.Join.g (by assumption) _ _ (by assumption))))) | ((with_reducible apply Lv.w_slenT); (focus (first | assumption | (exact Lv.Join.g (by assumption) _ _ (by assumption))))) | ((with_reducible apply Lv.w_slenL); (focus (first | assumption | (exact Lv.Join.g (by assumption) _ _ (by assumption))))) | ((with_reducible apply Lv.w_klenT); (focus (first | assumption | (exact Lv.Join.g (by assumption) _ _ (by assumption))))) | ((with_reducible apply Lv.w_klenL); (focus (first | assumption | (exact Lv.Join.g (by assumption) _ _ (by assumption))))) | ((with_reducible apply Lv.w_bm)) | ((with_reducible apply Lv.w_bm0)) | ((with_reducible apply Lv.w_bml); (focus (first | assumption | (exact Lv.Join.g (by assumption) _ _ (by assumption))))) | ((with_reducible apply Lv.w_tup)) | ((with_reducible apply Lv.w_lst)) | ((with_reducible apply Lv.w_fld)) | ((with_reducible apply Lv.w_un)) | ((with_reducible apply Lv.w_rU)) | ((with_reducible apply Lv.w_ret)) | ((with_reducible apply Lv.w_retN)) | ((with_reducible apply Lv.w_next)) | ((with_reducible apply Lv.w_drop)) | ((with_reducible apply Lv.w_ifS)) | ((with_reducible apply Lv.w_gcons); (focus (exact rfl))) | ((with_reducible apply Lv.w_gnil); (focus (exact rfl))) | ((with_reducible apply Lv.w_gtup); (focus (first | assumption | (exact Lv.Join.g (by assumption) _ _ (by assumption)))); (focus (exact rfl))) | ((with_reducible apply Lv.w_eq); (focus (exact rfl))) | ((with_reducible apply Lv.w_ne); (focus (exact rfl))) | ((with_reducible apply Lv.w_tB)) | ((with_reducible apply Lv.w_test)) | ((with_reducible apply Lv.w_bl)) | ((with_reducible apply Lv.w_and)) | ((with_reducible apply Lv.w_or)) | ((with_reducible apply Lv.w_not)) | ((with_reducible apply Lv.w_andV)) | ((with_reducible apply Lv.w_orV)) | ((with_reducible apply Lv.w_notV)) | ((with_reducible apply Lv.w_ifT)) | ((with_reducible apply Lv.w_ifF)) | ((with_reducible apply Lv.w_ifNT)) | ((with_reducible apply Lv.w_ifNF)) | ((with_reducible apply Lv.w_yes)) | ((with_reducible apply Lv.w_ixT); (focus (first | assumption | (exact Lv.Join.g (by assumption) _ _ (by assumption)))); (focus (exact rfl))) | ((with_reducible apply Lv.w_aug); (focus (exact rfl))) | ((with_reducible apply Lv.w_rAdd)) | ((with_reducible apply Lv.w_rSub)) | ((with_reducible apply Lv.w_lcL)) | ((with_reducible apply Lv.w_lcT)) | ((with_reducible apply Lv.w_lcR)) | ((with_reducible apply Lv.w_sl)) | ((with_reducible apply Lv.w_npart)) | ((with_reducible apply Lv.w_part)) | ((with_reducible apply Lv.w_pint)) | ((with_reducible apply Lv.w_forR)) | ((with_reducible apply Lv.w_forR2)) | ((with_reducible apply Lv.w_par)) | ((with_reducible apply Lv.w_apar)) | ((with_reducible apply Lv.w_lcR2)) | ((with_reducible apply Lv.w_lcE)) | ((with_reducible apply Lv.w_isB)) | ((with_reducible apply Lv.w_isNB)) | ((with_reducible apply Lv.w_forL)) | ((with_reducible apply Lv.w_forT)) | ((with_reducible apply Lv.w_brk)) | ((with_reducible apply Lv.w_cont)) | ((with_reducible apply Lv.w_meth)) | ((with_reducible apply Lv.w_make)))
        refine append.go j4 h3 (by simp [rV]; omega) fun G5 H5 b5 j5 h5 => ?_
        replace h4 := b5 _ _ h4 nLM.symm
        (repeat first | ((with_reducible apply Lv.w_seq)) | ((with_reducible apply Lv.w_var); (focus (exact rfl))) | ((with_reducible apply Lv.w_op)) | ((with_reducible apply Lv.w_c)) | ((with_reducible apply Lv.w_cons)) | ((with_reducible apply Lv.w_nil)) | ((with_reducible apply Lv.w_rI0)) | ((with_reducible apply Lv.w_asg)) | ((with_reducible apply Lv.w_name)) | ((with_reducible apply Lv.w_call)) | ((with_reducible apply Lv.w_tof)) | ((with_reducible apply Lv.w_lof)) | ((with_reducible apply Lv.w_abs)) | ((with_reducible apply Lv.w_int1)) | ((with_reducible apply Lv.w_lenv)) | ((with_reducible apply Lv.w_lens)) | ((with_reducible apply Lv.w_cb)) | ((with_reducible apply Lv.w_rabs)) | ((with_reducible apply Lv.w_rint)) | ((with_reducible apply Lv.w_rintb)) | ((with_reducible apply Lv.w_rlenT); (focus (first | assumption | (exact Lv.Join.g (by assumption) _ _ (by assumption))))) | ((with_reducible apply Lv.w_rlenL); (focus (first | assumption | (exact Lv.Join.g (by assumption) _ _ (by assumption))))) | ((with_reducible apply Lv.w_slenT); (focus (first | assumption | (exact Lv.Join.g (by assumption) _ _ (by assumption))))) | ((with_reducible apply Lv.w_slenL); (focus (first | assumption | (exact Lv.Join.g (by assumption) _ _ (by assumption))))) | ((with_reducible apply Lv.w_klenT); (focus (first | assumption | (exact Lv.Join.g (by assumption) _ _ (by assumption))))) | ((with_reducible apply Lv.w_klenL); (focus (first | assumption | (exact Lv.Join.g (by assumption) _ _ (by assumption))))) | ((with_reducible apply Lv.w_bm)) | ((with_reducible apply Lv.w_bm0)) | ((with_reducible apply Lv.w_bml); (focus (first | assumption | (exact Lv.Join.g (by assumption) _ _ (by assumption))))) | ((with_reducible apply Lv.w_tup)) | ((with_reducible apply Lv.w_lst)) | ((with_reducible apply Lv.w_fld)) | ((with_reducible apply Lv.w_un)) | ((with_reducible apply Lv.w_rU)) | ((with_reducible apply Lv.w_ret)) | ((with_reducible apply Lv.w_retN)) | ((with_reducible apply Lv.w_next)) | ((with_reducible apply Lv.w_drop)) | ((with_reducible apply Lv.w_ifS)) | ((with_reducible apply Lv.w_gcons); (focus (exact rfl))) | ((with_reducible apply Lv.w_gnil); (focus (exact rfl))) | ((with_reducible apply Lv.w_gtup); (focus (first | assumption | (exact Lv.Join.g (by assumption) _ _ (by assumption)))); (focus (exact rfl))) | ((with_reducible apply Lv.w_eq); (focus (exact rfl))) | ((with_reducible apply Lv.w_ne); (focus (exact rfl))) | ((with_reducible apply Lv.w_tB)) | ((with_reducible apply Lv.w_test)) | ((with_reducible apply Lv.w_bl)) | ((with_reducible apply Lv.w_and)) | ((with_reducible apply Lv.w_or)) | ((with_reducible apply Lv.w_not)) | ((with_reducible apply Lv.w_andV)) | ((with_reducible apply Lv.w_orV)) | ((with_reducible apply Lv.w_notV)) | ((with_reducible apply Lv.w_ifT)) | ((with_reducible apply Lv.w_ifF)) | ((with_reducible apply Lv.w_ifNT)) | ((with_reducible apply Lv.w_ifNF)) | ((with_reducible apply Lv.w_yes)) | ((with_reducible apply Lv.w_ixT); (focus (first | assumption | (exact Lv.Join.g (by assumption) _ _ (by assumption)))); (focus (exact rfl))) | ((with_reducible apply Lv.w_aug); (focus (exact rfl))) | ((with_reducible apply Lv.w_rAdd)) | ((with_reducible apply Lv.w_rSub)) | ((with_reducible apply Lv.w_lcL)) | ((with_reducible apply Lv.w_lcT)) | ((with_reducible apply Lv.w_lcR)) | ((with_reducible apply Lv.w_sl)) | ((with_reducible apply Lv.w_npart)) | ((with_reducible apply Lv.w_part)) | ((with_reducible apply Lv.w_pint)) | ((with_reducible apply Lv.w_forR)) | ((with_reducible apply Lv.w_forR2)) | ((with_reducible apply Lv.w_par)) | ((with_reducible apply Lv.w_apar)) | ((with_reducible apply Lv.w_lcR2)) | ((with_reducible apply Lv.w_lcE)) | ((with_reducible apply Lv.w_isB)) | ((with_reducible apply Lv.w_isNB)) | ((with_reducible apply Lv.w_forL)) | ((with_reducible apply Lv.w_forT)) | ((with_reducible apply Lv.w_brk)) | ((with_reducible apply Lv.w_cont)) | ((with_reducible apply Lv.w_meth)) | ((with_reducible apply Lv.w_make)))
        refine ⟨G5, P', j5, rfl, b5.ex e4 gL, _, rfl, ?_, ?_⟩
        · rw [exR_more hy, if_pos rfl, rV_app, h5, List.append_assoc]; rfl
        · rw [newTo_more hy, if_pos rfl, rV_app, h4]
          congr 3
          show [V.int ((rV (exR y N (rs.take i)) ++ [V.int (y : Int)]).length - 1)] = [V.int ((exR y N (rs.take i)).length : Nat)]
          congr 2
          simp [rV]
      · refine itF (fun h => hyk (by have := V.int.inj h; omega)) ?_
        (repeat first | ((with_reducible apply Lv.w_seq)) | ((with_reducible apply Lv.w_var); (focus (exact rfl))) | ((with_reducible apply Lv.w_op)) | ((with_reducible apply Lv.w_c)) | ((with_reducible apply Lv.w_cons)) | ((with_reducible apply Lv.w_nil)) | ((with_reducible apply Lv.w_rI0)) | ((with_reducible apply Lv.w_asg)) | ((with_reducible apply Lv.w_name)) | ((with_reducible apply Lv.w_call)) | ((with_reducible apply Lv.w_tof)) | ((with_reducible apply Lv.w_lof)) | ((with_reducible apply Lv.w_abs)) | ((with_reducible apply Lv.w_int1)) | ((with_reducible apply Lv.w_lenv)) | ((with_reducible apply Lv.w_lens)) | ((with_reducible apply Lv.w_cb)) | ((with_reducible apply Lv.w_rabs)) | ((with_reducible apply Lv.w_rint)) | ((with_reducible apply Lv.w_rintb)) | ((with_reducible apply Lv.w_rlenT); (focus (first | assumption | (exact Lv.Join.g (by assumption) _ _ (by assumption))))) | ((with_reducible apply Lv.w_rlenL); (focus (first | assumption | (exact Lv.Join.g (by assumption) _ _ (by assumption))))) | ((with_reducible apply Lv.w_slenT); (focus (first | assumption | (exact Lv.Join.g (by assumption) _ _ (by assumption))))) | ((with_reducible apply Lv.w_slenL); (focus (first | assumption | (exact Lv.Join.g (by assumption) _ _ (by assumption))))) | ((with_reducible apply Lv.w_klenT); (focus (first | assumption | (exact Lv.Join.g (by assumption) _ _ (by assumption))))) | ((with_reducible apply Lv.w_klenL); (focus (first | assumption | (exact Lv.Join.g (by assumption) _ _ (by assumption))))) | ((with_reducible apply Lv.w_bm)) | ((with_reducible apply Lv.w_bm0)) | ((with_reducible apply Lv.w_bml); (focus (first | assumption | (exact Lv.Join.g (by assumption) _ _ (by assumption))))) | ((with_reducible apply Lv.w_tup)) | ((with_reducible apply Lv.w_lst)) | ((with_reducible apply Lv.w_fld)) | ((with_reducible apply Lv.w_un)) | ((with_reducible apply Lv.w_rU)) | ((with_reducible apply Lv.w_ret)) | ((with_reducible apply Lv.w_retN)) | ((with_reducible apply Lv.w_next)) | ((with_reducible apply Lv.w_drop)) | ((with_reducible apply Lv.w_ifS)) | ((with_reducible apply Lv.w_gcons); (focus (exact rfl))) | ((with_reducible apply Lv.w_gnil); (focus (exact rfl))) | ((with_reducible apply Lv.w_gtup); (focus (first | assumption | (exact Lv.Join.g (by assumption) _ _ (by assumption)))); (focus (exact rfl))) | ((with_reducible apply Lv.w_eq); (focus (exact rfl))) | ((with_reducible apply Lv.w_ne); (focus (exact rfl))) | ((with_reducible apply Lv.w_tB)) | ((with_reducible apply Lv.w_test)) | ((with_reducible apply Lv.w_bl)) | ((with_reducible apply Lv.w_and)) | ((with_reducible apply Lv.w_or)) | ((with_reducible apply Lv.w_not)) | ((with_reducible apply Lv.w_andV)) | ((with_reducible apply Lv.w_orV)) | ((with_reducible apply Lv.w_notV)) | ((with_reducible apply Lv.w_ifT)) | ((with_reducible apply Lv.w_ifF)) | ((with_reducible apply Lv.w_ifNT)) | ((with_reducible apply Lv.w_ifNF)) | ((with_reducible apply Lv.w_yes)) | ((with_reducible apply Lv.w_ixT); (focus (first | assumption | (exact Lv.Join.g (by assumption) _ _ (by assumption)))); (focus (exact rfl))) | ((with_reducible apply Lv.w_aug); (focus (exact rfl))) | ((with_reducible apply Lv.w_rAdd)) | ((with_reducible apply Lv.w_rSub)) | ((with_reducible apply Lv.w_lcL)) | ((with_reducible apply Lv.w_lcT)) | ((with_reducible apply Lv.w_lcR)) | ((with_reducible apply Lv.w_sl)) | ((with_reducible apply Lv.w_npart)) | ((with_reducible apply Lv.w_part)) | ((with_reducible apply Lv.w_pint)) | ((with_reducible apply Lv.w_forR)) | ((with_reducible apply Lv.w_forR2)) | ((with_reducible apply Lv.w_par)) | ((with_reducible apply Lv.w_apar)) | ((with_reducible apply Lv.w_lcR2)) | ((with_reducible apply Lv.w_lcE)) | ((with_reducible apply Lv.w_isB)) | ((with_reducible apply Lv.w_isNB)) | ((with_reducible apply Lv.w_forL)) | ((with_reducible apply Lv.w_forT)) | ((with_reducible apply Lv.w_brk)) | ((with_reducible apply Lv.w_cont)) | ((with_reducible apply Lv.w_meth)) | ((with_reducible apply Lv.w_make)))
        refine ⟨G3, P', j3, rfl, e3, _, rfl, ?_, ?_⟩
        · rw [exR_more hy, if_neg hyk, rV_app, h3]; rfl
        · rw [newTo_more hy, if_neg hyk, List.append_nil, h2]
    · rintro G' P' H' σ' j' ⟨rfl, e', s3, rfl, h1, h2⟩
      rw [hlv] at h1 h2
      rw [List.take_length] at h1
      (repeat first | ((with_reducible apply Lv.w_seq)) | ((with_reducible apply Lv.w_var); (focus (exact rfl))) | ((with_reducible apply Lv.w_op)) | ((with_reducible apply Lv.w_c)) | ((with_reducible apply Lv.w_cons)) | ((with_reducible apply Lv.w_nil)) | ((with_reducible apply Lv.w_rI0)) | ((with_reducible apply Lv.w_asg)) | ((with_reducible apply Lv.w_name)) | ((with_reducible apply Lv.w_call)) | ((with_reducible apply Lv.w_tof)) | ((with_reducible apply Lv.w_lof)) | ((with_reducible apply Lv.w_abs)) | ((with_reducible apply Lv.w_int1)) | ((with_reducible apply Lv.w_lenv)) | ((with_reducible apply Lv.w_lens)) | ((with_reducible apply Lv.w_cb)) | ((with_reducible apply Lv.w_rabs)) | ((with_reducible apply Lv.w_rint)) | ((with_reducible apply Lv.w_rintb)) | ((with_reducible apply Lv.w_rlenT); (focus (first | assumption | (exact Lv.Join.g (by assumption) _ _ (by assumption))))) | ((with_reducible apply Lv.w_rlenL); (focus (first | assumption | (exact Lv.Join.g (by assumption) _ _ (by assumption))))) | ((with_reducible apply Lv.w_slenT); (focus (first | assumption | (exact Lv.Join.g (by assumption) _ _ (by assumption))))) | ((with_reducible apply Lv.w_slenL); (focus (first | assumption | (exact Lv.Join.g (by assumption) _ _ (by assumption))))) | ((with_reducible apply Lv.w_klenT); (focus (first | assumption | (exact Lv.Join.g (by assumption) _ _ (by assumption))))) | ((with_reducible apply Lv.w_klenL); (focus (first | assumption | (exact Lv.Join.g (by assumption) _ _ (by assumption))))) | ((with_reducible apply Lv.w_bm)) | ((with_reducible apply Lv.w_bm0)) | ((with_reducible apply Lv.w_bml); (focus (first | assumption | (exact Lv.Join.g (by assumption) _ _ (by assumption))))) | ((with_reducible apply Lv.w_tup)) | ((with_reducible apply Lv.w_lst)) | ((with_reducible apply Lv.w_fld)) | ((with_reducible apply Lv.w_un)) | ((with_reducible apply Lv.w_rU)) | ((with_reducible apply Lv.w_ret)) | ((with_reducible apply Lv.w_retN)) | ((with_reducible apply Lv.w_next)) | ((with_reducible apply Lv.w_drop)) | ((with_reducible apply Lv.w_ifS)) | ((with_reducible apply Lv.w_gcons); (focus (exact rfl))) | ((with_reducible apply Lv.w_gnil); (focus (exact rfl))) | ((with_reducible apply Lv.w_gtup); (focus (first | assumption | (exact Lv.Join.g (by assumption) _ _ (by assumption)))); (focus (exact rfl))) | ((with_reducible apply Lv.w_eq); (focus (exact rfl))) | ((with_reducible apply Lv.w_ne); (focus (exact rfl))) | ((with_reducible apply Lv.w_tB)) | ((with_reducible apply Lv.w_test)) | ((with_reducible apply Lv.w_bl)) | ((with_reducible apply Lv.w_and)) | ((with_reducible apply Lv.w_or)) | ((with_reducible apply Lv.w_not)) | ((with_reducible apply Lv.w_andV)) | ((with_reducible apply Lv.w_orV)) | ((with_reducible apply Lv.w_notV)) | ((with_reducible apply Lv.w_ifT)) | ((with_reducible apply Lv.w_ifF)) | ((with_reducible apply Lv.w_ifNT)) | ((with_reducible apply Lv.w_ifNF)) | ((with_reducible apply Lv.w_yes)) | ((with_reducible apply Lv.w_ixT); (focus (first | assumption | (exact Lv.Join.g (by assumption) _ _ (by assumption)))); (focus (exact rfl))) | ((with_reducible apply Lv.w_aug); (focus (exact rfl))) | ((with_reducible apply Lv.w_rAdd)) | ((with_reducible apply Lv.w_rSub)) | ((with_reducible apply Lv.w_lcL)) | ((with_reducible apply Lv.w_lcT)) | ((with_reducible apply Lv.w_lcR)) | ((with_reducible apply Lv.w_sl)) | ((with_reducible apply Lv.w_npart)) | ((with_reducible apply Lv.w_part)) | ((with_reducible apply Lv.w_pint)) | ((with_reducible apply Lv.w_forR)) | ((with_reducible apply Lv.w_forR2)) | ((with_reducible apply Lv.w_par)) | ((with_reducible apply Lv.w_apar)) | ((with_reducible apply Lv.w_lcR2)) | ((with_reducible apply Lv.w_lcE)) | ((with_reducible apply Lv.w_isB)) | ((with_reducible apply Lv.w_isNB)) | ((with_reducible apply Lv.w_forL)) | ((with_reducible apply Lv.w_forT)) | ((with_reducible apply Lv.w_brk)) | ((with_reducible apply Lv.w_cont)) | ((with_reducible apply Lv.w_meth)) | ((with_reducible apply Lv.w_make)))
      refine tupOf_go j' h1 fun t G4 H4 ht e4 j4 hT => ?_
      (repeat first | ((with_reducible apply Lv.w_seq)) | ((with_reducible apply Lv.w_var); (focus (exact rfl))) | ((with_reducible apply Lv.w_op)) | ((with_reducible apply Lv.w_c)) | ((with_reducible apply Lv.w_cons)) | ((with_reducible apply Lv.w_nil)) | ((with_reducible apply Lv.w_rI0)) | ((with_reducible apply Lv.w_asg)) | ((with_reducible apply Lv.w_name)) | ((with_reducible apply Lv.w_call)) | ((with_reducible apply Lv.w_tof)) | ((with_reducible apply Lv.w_lof)) | ((with_reducible apply Lv.w_abs)) | ((with_reducible apply Lv.w_int1)) | ((with_reducible apply Lv.w_lenv)) | ((with_reducible apply Lv.w_lens)) | ((with_reducible apply Lv.w_cb)) | ((with_reducible apply Lv.w_rabs)) | ((with_reducible apply Lv.w_rint)) | ((with_reducible apply Lv.w_rintb)) | ((with_reducible apply Lv.w_rlenT); (focus (first | assumption | (exact Lv.Join.g (by assumption) _ _ (by assumption))))) | ((with_reducible apply Lv.w_rlenL); (focus (first | assumption | (exact Lv.Join.g (by assumption) _ _ (by assumption))))) | ((with_reducible apply Lv.w_slenT); (focus (first | assumption | (exact Lv.Join.g (by assumption) _ _ (by assumption))))) | ((with_reducible apply Lv.w_slenL); (focus (first | assumption | (exact Lv.Join.g (by assumption) _ _ (by assumption))))) | ((with_reducible apply Lv.w_klenT); (focus (first | assumption | (exact Lv.Join.g (by assumption) _ _ (by assumption))))) | ((with_reducible apply Lv.w_klenL); (focus (first | assumption | (exact Lv.Join.g (by assumption) _ _ (by assumption))))) | ((with_reducible apply Lv.w_bm)) | ((with_reducible apply Lv.w_bm0)) | ((with_reducible apply Lv.w_bml); (focus (first | assumption | (exact Lv.Join.g (by assumption) _ _ (by assumption))))) | ((with_reducible apply Lv.w_tup)) | ((with_reducible apply Lv.w_lst)) | ((with_reducible apply Lv.w_fld)) | ((with_reducible apply Lv.w_un)) | ((with_reducible apply Lv.w_rU)) | ((with_reducible apply Lv.w_ret)) | ((with_reducible apply Lv.w_retN)) | ((with_reducible apply Lv.w_next)) | ((with_reducible apply Lv.w_drop)) | ((with_reducible apply Lv.w_ifS)) | ((with_reducible apply Lv.w_gcons); (focus (exact rfl))) | ((with_reducible apply Lv.w_gnil); (focus (exact rfl))) | ((with_reducible apply Lv.w_gtup); (focus (first | assumption | (exact Lv.Join.g (by assumption) _ _ (by assumption)))); (focus (exact rfl))) | ((with_reducible apply Lv.w_eq); (focus (exact rfl))) | ((with_reducible apply Lv.w_ne); (focus (exact rfl))) | ((with_reducible apply Lv.w_tB)) | ((with_reducible apply Lv.w_test)) | ((with_reducible apply Lv.w_bl)) | ((with_reducible apply Lv.w_and)) | ((with_reducible apply Lv.w_or)) | ((with_reducible apply Lv.w_not)) | ((with_reducible apply Lv.w_andV)) | ((with_reducible apply Lv.w_orV)) | ((with_reducible apply Lv.w_notV)) | ((with_reducible apply Lv.w_ifT)) | ((with_reducible apply Lv.w_ifF)) | ((with_reducible apply Lv.w_ifNT)) | ((with_reducible apply Lv.w_ifNF)) | ((with_reducible apply Lv.w_yes)) | ((with_reducible apply Lv.w_ixT); (focus (first | assumption | (exact Lv.Join.g (by assumption) _ _ (by assumption)))); (focus (exact rfl))) | ((with_reducible apply Lv.w_aug); (focus (exact rfl))) | ((with_reducible apply Lv.w_rAdd)) | ((with_reducible apply Lv.w_rSub)) | ((with_reducible apply Lv.w_lcL)) | ((with_reducible apply Lv.w_lcT)) | ((with_reducible apply Lv.w_lcR)) | ((with_reducible apply Lv.w_sl)) | ((with_reducible apply Lv.w_npart)) | ((with_reducible apply Lv.w_part)) | ((with_reducible apply Lv.w_pint)) | ((with_reducible apply Lv.w_forR)) | ((with_reducible apply Lv.w_forR2)) | ((with_reducible apply Lv.w_par)) | ((with_reducible apply Lv.w_apar)) | ((with_reducible apply Lv.w_lcR2)) | ((with_reducible apply Lv.w_lcE)) | ((with_reducible apply Lv.w_isB)) | ((with_reducible apply Lv.w_isNB)) | ((with_reducible apply Lv.w_forL)) | ((with_reducible apply Lv.w_forT)) | ((with_reducible apply Lv.w_brk)) | ((with_reducible apply Lv.w_cont)) | ((with_reducible apply Lv.w_meth)) | ((with_reducible apply Lv.w_make)))
      refine aTup.go j4 (by show 2 ≤ 100000; decide) fun p G5 H5 hp e5 j5 hP => ?_
      exact q p t M G5 H5 (e'.trans (e4.trans e5)) j5 hP (e5 _ _ hT) (e5 _ _ (e4 _ _ h2))
end X

namespace X
open PySem PySem.Spec PyProof.Rows L2 Lv
/-- the items at places, from o on, that are not in S -/
def pickFrom {α : Type} (S : List Nat) : Nat → List α → List α
  | _, [] => []
  | o, a :: r => (if o ∈ S then [] else [a]) ++ pickFrom S (o + 1) r
theorem pick_app {α : Type} (S : List Nat) : ∀ (l m : List α) (o : Nat), pickFrom S o (l ++ m) = pickFrom S o l ++ pickFrom S (o + l.length) m
  | [], m, o => by simp [pickFrom]
  | a :: r, m, o => by
    have ih := pick_app S r m (o + 1)
    show (if o ∈ S then [] else [a]) ++ pickFrom S (o + 1) (r ++ m) = _
    rw [ih]
    have e : o + 1 + r.length = o + (a :: r).length := by simp; omega
    rw [e]
    show _ = ((if o ∈ S then [] else [a]) ++ pickFrom S (o + 1) r) ++ _
    rw [List.append_assoc]
theorem pick_skip {α : Type} (S T : List Nat) : ∀ (l : List α) (o : Nat), (∀ s ∈ T, o + l.length ≤ s) → pickFrom (S ++ T) o l = pickFrom S o l
  | [], _, _ => rfl
  | a :: r, o, h => by
    have ih := pick_skip S T r (o + 1) fun s hs => by have := h s hs; simp at this; omega
    show (if o ∈ S ++ T then [] else [a]) ++ pickFrom (S ++ T) (o + 1) r = (if o ∈ S then [] else [a]) ++ pickFrom S (o + 1) r
    rw [ih]
    have e : (o ∈ S ++ T) ↔ (o ∈ S) := ⟨fun q => (List.mem_append.mp q).elim id fun q => absurd (h o q) (by simp), fun q => List.mem_append_left _ q⟩
    simp only [e]
theorem pick_in {α : Type} {S : List Nat} {o : Nat} (a : α) (h : o ∈ S) : pickFrom S o [a] = [] := by simp [pickFrom, h]
theorem pick_out {α : Type} {S : List Nat} {o : Nat} (a : α) (h : o ∉ S) : pickFrom S o [a] = [a] := by simp [pickFrom, h]
theorem new_lt (k N : Nat) (rs : List Nat) : ∀ i, i ≤ rs.length → ∀ s ∈ newTo k N rs i, s < (exR k N (rs.take i)).length
  | 0, _, s, hs => by simp [newTo] at hs
  | i + 1, hi, s, hs => by
    obtain ⟨y, hy⟩ : ∃ y, rs[i]? = some y := ⟨_, List.getElem?_eq_getElem (by omega)⟩
    have ih := new_lt k N rs i (by omega) s
    rw [newTo_more hy] at hs
    rw [exR_more hy, List.length_append]
    rcases List.mem_append.mp hs with h | h
    · have := ih h; omega
    · by_cases hk : y = k
      · rw [if_pos hk] at h ⊢
        rw [List.mem_singleton.mp h]; simp
      · rw [if_neg hk] at h; cases h
theorem boards_snoc (es : List Ev) (l : List Nat) (a : Nat) : boardsOf es (l ++ [a]) = boardsOf es l ++ [[sumW es (l ++ [a]), sumX es (l ++ [a])]] := by
  unfold boardsOf
  rw [List.length_append, List.length_singleton, List.range_succ, List.map_append]
  congr 1
  · refine List.map_congr_left fun i hi => ?_
    have := List.mem_range.mp hi
    rw [List.take_append_of_le_length (by omega)]
  · rw [List.map_cons, List.take_of_length_le (by simp)]; rfl
theorem sumW_app (es : List Ev) (l m : List Nat) : sumW es (l ++ m) = sumW es l + sumW es m := by unfold sumW; rw [List.map_append, List.sum_append]
theorem sumX_app (es : List Ev) (l m : List Nat) : sumX es (l ++ m) = sumX es l + sumX es m := by unfold sumX; rw [List.map_append, List.sum_append]
section
variable {n : Int} {es : List Ev} {k : Nat} {e : Ev} {t x : Int}
theorem part_len (h : es[k]? = some e) : (partE n es k e t x).length = es.length + 1 := by
  have hk := (List.getElem?_eq_some_iff.mp h).1
  unfold partE; simp; omega
theorem part_k (h : es[k]? = some e) : (partE n es k e t x)[k]? = some ⟨e.b, n, t, x⟩ := by
  have hk := (List.getElem?_eq_some_iff.mp h).1
  unfold partE
  rw [List.append_assoc, List.append_assoc, List.getElem?_append_right (by simp; omega), List.length_take, Nat.min_eq_left (by omega), Nat.sub_self]; rfl
theorem part_N (h : es[k]? = some e) : (partE n es k e t x)[es.length]? = some ⟨n, e.a, e.w - t, e.x - x⟩ := by
  have hk := (List.getElem?_eq_some_iff.mp h).1
  unfold partE
  rw [List.getElem?_append_right (by simp; omega)]
  have e1 : es.length - (es.take k ++ [(⟨e.b, n, t, x⟩ : Ev)] ++ es.drop (k + 1)).length = 0 := by simp; omega
  rw [e1]; rfl
theorem part_o (h : es[k]? = some e) {i : Nat} (hi : i < es.length) (hik : i ≠ k) : (partE n es k e t x)[i]? = es[i]? := by
  have hk := (List.getElem?_eq_some_iff.mp h).1
  unfold partE
  rw [List.getElem?_append_left (by simp; omega)]
  by_cases h1 : i < k
  · rw [List.getElem?_append_left (by simp; omega), List.getElem?_append_left (by simp; omega), List.getElem?_take, if_pos h1]
  · rw [List.getElem?_append_right (by simp; omega), List.getElem?_drop]
    congr 1
    simp; omega
theorem part_leads (h : es[k]? = some e) (hn : ∀ e ∈ es, e.b < n) : ∀ (rs : List Nat) (s z : Int), leads es s rs = some z → leads (partE n es k e t x) s (exR k es.length rs) = some z
  | [], s, z, hz => hz
  | i :: r, s, z, hz => by
    have hz2 : (match es[i]? with | some e => if e.b = s then leads es e.a r else none | none => none) = some z := hz
    cases hi : es[i]? with
    | none => rw [hi] at hz2; cases hz2
    | some f =>
      rw [hi] at hz2
      have hz3 : (if f.b = s then leads es f.a r else none) = some z := hz2
      have hil := (List.getElem?_eq_some_iff.mp hi).1
      by_cases hb : f.b = s
      · rw [if_pos hb] at hz3
        have ih := part_leads h hn r f.a z hz3
        have e1 : exR k es.length (i :: r) = (if i = k then [i, es.length] else [i]) ++ exR k es.length r := List.flatMap_cons
        rw [e1]
        by_cases hik : i = k
        · subst hik
          rw [h] at hi
          cases hi
          rw [if_pos rfl]
          show (match (partE n es i e t x)[i]? with | some e' => if e'.b = s then leads _ e'.a (es.length :: exR i es.length r) else none | none => none) = some z
          rw [part_k h]
          show (if e.b = s then leads _ n (es.length :: exR i es.length r) else none) = some z
          rw [if_pos hb]
          show (match (partE n es i e t x)[es.length]? with | some e' => if e'.b = n then leads _ e'.a (exR i es.length r) else none | none => none) = some z
          rw [part_N h]
          show (if n = n then leads _ e.a (exR i es.length r) else none) = some z
          rw [if_pos rfl]; exact ih
        · rw [if_neg hik]
          show (match (partE n es k e t x)[i]? with | some e' => if e'.b = s then leads _ e'.a (exR k es.length r) else none | none => none) = some z
          rw [part_o h hil hik, hi]
          show (if f.b = s then leads _ f.a (exR k es.length r) else none) = some z
          rw [if_pos hb]; exact ih
      · rw [if_neg hb] at hz3; cases hz3
theorem part_sums (h : es[k]? = some e) : ∀ rs : List Nat, (∀ i ∈ rs, i < es.length) → sumW (partE n es k e t x) (exR k es.length rs) = sumW es rs ∧ sumX (partE n es k e t x) (exR k es.length rs) = sumX es rs
  | [], _ => ⟨rfl, rfl⟩
  | i :: r, hr => by
    obtain ⟨i1, i2⟩ := part_sums h r fun a ha => hr a (List.mem_cons_of_mem _ ha)
    have e1 : exR k es.length (i :: r) = (if i = k then [i, es.length] else [i]) ++ exR k es.length r := List.flatMap_cons
    rw [e1, sumW_app, sumX_app, i1, i2]
    have hil := hr i (List.mem_cons_self ..)
    by_cases hik : i = k
    · subst hik
      rw [if_pos rfl]
      unfold sumW sumX
      simp [part_k h, part_N h, h]
      omega
    · rw [if_neg hik]
      unfold sumW sumX
      simp [part_o h hil hik]
theorem part_boards (h : es[k]? = some e) {rs : List Nat} (hr : ∀ i ∈ rs, i < es.length) : ∀ i, i ≤ rs.length → pickFrom (newTo k es.length rs i) 0 (boardsOf (partE n es k e t x) (exR k es.length (rs.take i))) = boardsTo es rs i
  | 0, _ => by simp [boardsOf, exR, pickFrom, boardsTo]
  | i + 1, hi => by
    obtain ⟨y, hy⟩ : ∃ y, rs[i]? = some y := ⟨_, List.getElem?_eq_getElem (by omega)⟩
    have ih := part_boards h hr i (by omega)
    have hs := part_sums (n := n) (t := t) (x := x) h (rs.take (i + 1)) fun a ha => hr a (List.mem_of_mem_take ha)
    have hlt := new_lt k es.length rs i (by omega)
    have hbl : (boardsOf (partE n es k e t x) (exR k es.length (rs.take i))).length = (exR k es.length (rs.take i)).length := by simp [boardsOf]
    rw [boardsTo_more, ← hs.1, ← hs.2, newTo_more hy, exR_more hy]
    by_cases hyk : y = k
    · rw [if_pos hyk, if_pos hyk]
      rw [show exR k es.length (rs.take i) ++ [y, es.length] = (exR k es.length (rs.take i) ++ [y]) ++ [es.length] by simp, boards_snoc, boards_snoc, pick_app, pick_app, pick_skip _ _ _ _ (fun s hs => by rw [List.mem_singleton.mp hs, hbl]; omega), ih, Nat.zero_add, hbl, pick_in _ (List.mem_append_right _ (List.mem_singleton_self _)), List.append_nil, pick_out]
      intro hm
      simp only [List.length_append, List.length_singleton, hbl, Nat.zero_add] at hm
      rcases List.mem_append.mp hm with q | q
      · have := hlt _ q; omega
      · have := List.mem_singleton.mp q; omega
    · rw [if_neg hyk, if_neg hyk, List.append_nil, boards_snoc, pick_app, ih, Nat.zero_add, hbl, pick_out]
      intro hm
      have := hlt _ hm; omega
end
end X

namespace X
open PySem PySem.Spec PyProof.Rows L2 Lv
variable {P : Program} {w : World} {K : PySem.W.Frag} {mg : Str → Option Value} {base : Heap}
def flipE (e : Ev) : Ev := ⟨e.b, e.a, 40 - e.w, e.x⟩
def someE (es : List Ev) (i : Nat) : List Nat := (List.range i).filter fun k => decide (1 < ((es[k]?).map Ev.w).getD 0)
theorem someE_more (es : List Ev) (i : Nat) : someE es (i + 1) = someE es i ++ (if 1 < ((es[i]?).map Ev.w).getD 0 then [i] else []) := by
  unfold someE
  rw [List.range_succ, List.filter_append, List.filter_cons]
  by_cases h : 1 < ((es[i]?).map Ev.w).getD 0
  · rw [if_pos (decide_eq_true h), if_pos h]; rfl
  · rw [if_neg (by rw [decide_eq_false h]; decide), if_neg h]; rfl
theorem someE_len (es : List Ev) (i : Nat) : (someE es i).length ≤ i := by
  have := List.length_filter_le (fun k => decide (1 < ((es[k]?).map Ev.w).getD 0)) (List.range i)
  rw [List.length_range] at this; exact this
theorem evOk_b {n : Int} {es : List Ev} (h1 : 1 ≤ n) (h2 : n ≤ 12) (h3 : es.length ≤ 30) (h : ∀ e ∈ es, EvOk n e) : EvB n es := ⟨h1, by omega, by omega, fun e he => by
  obtain ⟨b1, b2, b3, b4, b5, b6, b7, b8⟩ := h e he
  exact ⟨b1, b2, b3, b4, b5, by omega, by omega, by omega⟩⟩
theorem rV_len (rs : List Nat) : (rV rs).length = rs.length := by simp [rV]
theorem run_lt {es : List Ev} {rs : List Nat} (h : IsRun es rs) : ∀ i ∈ rs, i < es.length := fun i hi => by
  obtain ⟨z, hz⟩ := h
  obtain ⟨j, hj⟩ := List.getElem?_of_mem hi
  obtain ⟨_, e, _, he, _⟩ := leads_at hz hj
  exact (List.getElem?_eq_some_iff.mp he).1
theorem pick_step {α : Type} {S : List Nat} {l : List α} {i : Nat} {a : α} (h : l[i]? = some a) : pickFrom S 0 (l.take (i + 1)) = pickFrom S 0 (l.take i) ++ (if i ∈ S then [] else [a]) := by
  have hi : i < l.length := (List.getElem?_eq_some_iff.mp h).1
  rw [take_more h, pick_app, List.length_take, Nat.min_eq_left (by omega), Nat.zero_add]
  by_cases hs : i ∈ S
  · rw [pick_in _ hs, if_pos hs]
  · rw [pick_out _ hs, if_neg hs]
def sp_law (K : PySem.W.Frag) : Sp := fun vs H Q _ => ∃ (a : Addr) (ns : List Int), vs = [.ref a] ∧ SqL K H a (ns.map V.int) ∧ ns.length ≤ 63 ∧ ∀ H', Q (.bl true) H'
theorem sc_law : FnScope ["_law_script", "_law_pot_here", "_law_turn", "_law_great", "_law_machine", "_law_some", "_law_standings", "_law_events", "_law_event", "_law_first", "_law_part", "_law_other", "_law_due", "_law_again", "_law_number", "_law_before", "_law_after", "_law_tries", "_law_points", "_law_run", "_law_shown", "_law_longer", "_law_new", "_law_at"] ["_law_script"] (defScope s_law) := ⟨rfl, rfl, rfl, by decide +kernel, rfl, by decide +kernel, by decide +kernel⟩
theorem ok_law (T : Txt K mg) {fd_l_pot : FuncData} (G_l_pot : Dn P w K mg base (L2.CX P w) 1 "_law_pot" ["_law_script"] (spPot K) fd_l_pot) {fd_l_draw : FuncData} (G_l_draw : Dn P w K mg base (L2.CX P w) 1 "_law_draw" ["_law_pot_here", "_law_many"] spDraw fd_l_draw) {fd_l_parts : FuncData} (G_l_parts : Dn P w K mg base (L2.CX P w) 2 "_law_parts" ["_law_pot_here", "_law_most_standings", "_law_most_events"] spParts fd_l_parts) {fd_Machine_init : FuncData} (G_Machine_init : Dm P w K mg base (L2.CX P w) 4 "Machine" "__init__" ["self", "standings", "events"] (spMInit (He.ga K "Machine")) fd_Machine_init) {fd_l_any : FuncData} (G_l_any : Dn P w K mg base (L2.CX P w) 2 "_law_any" ["_law_pot_here", "_law_items"] (spAny K) fd_l_any) {fd_parted : FuncData} (G_parted : Dn P w K mg base (L2.CX P w) 5 "parted" ["machine", "event", "tries", "points"] (sp_parted K) fd_parted) {fd_l_walk : FuncData} (G_l_walk : Dn P w K mg base (L2.CX P w) 2 "_law_walk" ["_law_pot_here", "_law_parts_here", "_law_many"] spWalk fd_l_walk) {fd_l_twice : FuncData} (G_l_twice : Dn P w K mg base (L2.CX P w) 1 "_law_twice" ["_law_run", "_law_event", "_law_last"] spTwice fd_l_twice) {fd_is_run : FuncData} (G_is_run : Dn P w K mg base (L2.CX P w) 5 "is_run" ["machine", "thing"] (sp_is_run_there K) fd_is_run) {fd_boards : FuncData} (G_boards : Dn P w K mg base (L2.CX P w) 6 "boards" ["machine", "run"] (spBoards K) fd_boards) : ∃ fd, Dn P w K mg base CX0 8 "law" ["_law_script"] (sp_law K) fd := by
  obtain ⟨fd, F⟩ := T.d_law
  refine ⟨fd, F.ok sc_law (fun vs H Q E h => ?_) (fun cdv A outer s H vs Q E hr h => ?_), T.g_law, F.kp, F.bindsN fun _ _ _ _ _ _ us hl => match us, hl with | [_], _ => rfl, Lv.fun_lk F⟩
  · obtain ⟨_, _, rfl, _⟩ := h
    rfl
  · have hu := hu_of hr
    have hr_l_pot : Room 1 _ := hr.mono (by decide)
    have hr_l_draw : Room 1 _ := hr.mono (by decide)
    have hr_l_parts : Room 2 _ := hr.mono (by decide)
    have hr_Machine_init : Room 5 _ := hr.mono (by decide)
    have hr_l_any : Room 2 _ := hr.mono (by decide)
    have hr_parted : Room 5 _ := hr.mono (by decide)
    have hr_l_walk : Room 2 _ := hr.mono (by decide)
    have hr_l_twice : Room 1 _ := hr.mono (by decide)
    have hr_is_run : Room 5 _ := hr.mono (by decide)
    have hr_boards : Room 6 _ := hr.mono (by decide)
    refine ⟨_, PSs.nox (pss_cons (ps_set (i := 1) sc_law.nd rfl (Or.inl rfl) (pe_call G_l_pot.ok hr_l_pot rfl G_l_pot.mg G_l_pot.kp G_l_pot.b .nil passL (pa_cons (pv 0) pa_nil)))
      (pss_cons (ps_for PassesOwn.never rfl (pi_range1 (by rfl) T.n_range (pa_cons pe_int pa_nil)) (pg_name (i := 2) sc_law.nd rfl (Or.inl rfl)) (pss_cons (ps_set (i := 3) sc_law.nd rfl (Or.inl rfl) (pe_cmpR op_eq (pe_call G_l_draw.ok hr_l_draw rfl G_l_draw.mg G_l_draw.kp G_l_draw.b .nil passL (pa_cons (pv 1) (pa_cons pe_int pa_nil))) pe_int (nomark _)))
      (pss_cons (ps_asg (pe_call G_l_parts.ok hr_l_parts rfl G_l_parts.mg G_l_parts.kp G_l_parts.b .nil passL (pa_cons (pv 1) (pa_cons (pe_ifExp (pt_val (pv 3)) pe_int pe_int) (pa_cons (pe_ifExp (pt_val (pv 3)) pe_int pe_int) pa_nil)))) (pg_tup rfl (pgs_cons (pg_name (i := 6) sc_law.nd rfl (Or.inl rfl)) (pgs_cons (pg_name (i := 7) sc_law.nd rfl (Or.inr rfl)) pgs_nil))))
      (Evl.pss_cut (ps_if (pt_cmpR op_eq (pe_call G_l_draw.ok hr_l_draw rfl G_l_draw.mg G_l_draw.kp G_l_draw.b .nil passL (pa_cons (pv 1) (pa_cons pe_int pa_nil))) pe_int (nomark _)) (pss_one (ps_set (i := 7) sc_law.nd rfl (Or.inr rfl) (pe_callTy call_tuple_of (by rfl) T.n_tuple (by decide +kernel) (pa_cons (pe_lc (own := [("_law_before", 15), ("_law_after", 16), ("_law_tries", 17), ("_law_points", 18)]) (g := gTup K 4 (gCons (gName 15) (gCons (gName 16) (gCons (gName 17) (gCons (gName 18) gNil))))) (tt := tYes) rfl sc_law.nd (pi_tup (pv 7)) (blkOk_by (N := ["_law_script", "_law_pot_here", "_law_turn", "_law_great", "_law_machine", "_law_some", "_law_standings", "_law_events", "_law_event", "_law_first", "_law_part", "_law_other", "_law_due", "_law_again", "_law_number", "_law_before", "_law_after", "_law_tries", "_law_points", "_law_run", "_law_shown", "_law_longer", "_law_new", "_law_at"]) (sc := defScope s_law) (by decide +kernel)) (fun _ _ _ _ _ => (pg_tup rfl (pgs_cons (pg_name (i := 15) sc_law.nd rfl (Or.inl rfl) (hf := Or.inr rfl)) (pgs_cons (pg_name (i := 16) sc_law.nd rfl (Or.inl rfl) (hf := Or.inr rfl)) (pgs_cons (pg_name (i := 17) sc_law.nd rfl (Or.inl rfl) (hf := Or.inr rfl)) (pgs_cons (pg_name (i := 18) sc_law.nd rfl (Or.inl rfl) (hf := Or.inr rfl)) pgs_nil)))))) (fun _ _ _ _ _ => pts_nil) (fun _ _ _ _ _ => (pe_tup (pa_cons (pv 15) (pa_cons (pv 16) (pa_cons (pe_op op_sub pe_int (pv 17)) (pa_cons (pv 18) pa_nil))))))) pa_nil)))) pss_nil)
      (pss_cons (ps_set (i := 4) sc_law.nd rfl (Or.inl rfl) (pe_make T.mk_Machine G_Machine_init.ok hr_Machine_init (by rfl) T.g_Machine G_Machine_init.b .nil passL (pa_cons (pv 6) (pa_cons (pv 7) pa_nil))))
      (pss_cons (ps_setLc (i := 5) (own := [("_law_number", 14)]) (g := gName 14) rfl sc_law.nd rfl rfl (sw_true rfl rfl rfl (by decide +kernel)) (pi_range1 (by rfl) T.n_range (pa_cons (pe_callB call_len (by rfl) T.n_len PySem.boot_len (pa_cons (pv 7) pa_nil)) pa_nil)) (blkOk_by (N := ["_law_script", "_law_pot_here", "_law_turn", "_law_great", "_law_machine", "_law_some", "_law_standings", "_law_events", "_law_event", "_law_first", "_law_part", "_law_other", "_law_due", "_law_again", "_law_number", "_law_before", "_law_after", "_law_tries", "_law_points", "_law_run", "_law_shown", "_law_longer", "_law_new", "_law_at"]) (sc := defScope s_law) (by decide +kernel)) (fun _ _ _ _ _ => (pg_name (i := 14) sc_law.nd rfl (Or.inl rfl) (hf := Or.inr rfl))) (fun _ _ _ _ _ => (pts_one (pt_cmpR op_gt (pe_ix (ix_tupK (K := K) rfl) (pe_ix (ix_tupK (K := K) rfl) (pv 7) (pv 14) (fun _ _ => rfl)) pe_int (fun _ _ => rfl)) pe_int (nomark _)))) (fun _ _ _ _ _ => (pv 14)))
      (pss_one (ps_if (pt_cmpR op_gt (pe_callB call_len_seq (by rfl) T.n_len PySem.boot_len (pa_cons (pv 5) pa_nil)) pe_int (nomark _)) (pss_cons (ps_set (i := 8) sc_law.nd rfl (Or.inl rfl) (pe_ix ix_list (pv 5) (pe_call G_l_draw.ok hr_l_draw rfl G_l_draw.mg G_l_draw.kp G_l_draw.b .nil passL (pa_cons (pv 1) (pa_cons (pe_callB call_len_seq (by rfl) T.n_len PySem.boot_len (pa_cons (pv 5) pa_nil)) pa_nil))) (fun _ _ => rfl)))
      (pss_cons (ps_asg (pe_ix ix_tup (pv 7) (pv 8) (fun _ _ => rfl)) (pg_tup rfl (pgs_cons (pg_name (i := 15) sc_law.nd rfl (Or.inl rfl)) (pgs_cons (pg_name (i := 16) sc_law.nd rfl (Or.inl rfl)) (pgs_cons (pg_name (i := 17) sc_law.nd rfl (Or.inl rfl)) (pgs_cons (pg_name (i := 18) sc_law.nd rfl (Or.inl rfl)) pgs_nil))))))
      (pss_cons (ps_set (i := 9) sc_law.nd rfl (Or.inl rfl) (pe_op op_add pe_int (pe_call G_l_draw.ok hr_l_draw rfl G_l_draw.mg G_l_draw.kp G_l_draw.b .nil passL (pa_cons (pv 1) (pa_cons (pe_op op_sub (pv 17) pe_int) pa_nil)))))
      (pss_cons (ps_set (i := 10) sc_law.nd rfl (Or.inl rfl) (pe_call G_l_any.ok hr_l_any rfl G_l_any.mg G_l_any.kp G_l_any.b .nil passL (pa_cons (pv 1) (pa_cons (pe_tup (pa_cons pe_int (pa_cons (pv 18) (pa_cons (pe_un un_neg pe_int) (pa_cons (pe_op op_pow pe_int pe_int) (pa_cons (pe_op op_sub (pe_call G_l_draw.ok hr_l_draw rfl G_l_draw.mg G_l_draw.kp G_l_draw.b .nil passL (pa_cons (pv 1) (pa_cons pe_int pa_nil))) pe_int) pa_nil)))))) pa_nil))))
      (pss_cons (ps_set (i := 11) sc_law.nd rfl (Or.inl rfl) (pe_call G_parted.ok hr_parted rfl G_parted.mg G_parted.kp G_parted.b .nil passL (pa_cons (pv 4) (pa_cons (pv 8) (pa_cons (pv 9) (pa_cons (pv 10) pa_nil))))))
      (pss_cons (ps_set (i := 12) sc_law.nd rfl (Or.inl rfl) (pe_op op_catA (pe_op op_catA (pe_slice sl_tupA (pv 7) po_none (po_some (pv 8))) (pe_tup (pa_cons (pe_tup (pa_cons (pv 15) (pa_cons (pv 6) (pa_cons (pv 9) (pa_cons (pv 10) pa_nil))))) pa_nil))) (pe_slice sl_tupA (pv 7) (po_some (pe_op op_add (pv 8) pe_int)) po_none)))
      (pss_cons (ps_set (i := 12) sc_law.nd rfl (Or.inl rfl) (pe_op op_catA (pv 12) (pe_tup (pa_cons (pe_tup (pa_cons (pv 6) (pa_cons (pv 16) (pa_cons (pe_op op_sub (pv 17) (pv 9)) (pa_cons (pe_op op_sub (pv 18) (pv 10)) pa_nil))))) pa_nil))))
      (pss_cons (ps_if (PW.pt (pw_or (pt_not (pt_val (pe_callB call_isi (by rfl) T.n_isinstance (by decide +kernel) (pa_cons (pv 11) (pa_cons (pe_glob (v := .ref (He.ga K "Machine")) rfl T.g_Machine rfl) pa_nil))))) (pw_or (pt_cmpR op_ne (pe_fld (pv 11) rfl) (pe_op op_add (pv 6) pe_int) (nomark _)) (pw_or1 (pt_cmpR (op_neD hr.units) (pe_fld (pv 11) rfl) (pv 12) (nomark _)))))) (pss_one (ps_ret pe_bl)) pss_nil)
      (pss_one (ps_for PassesOwn.never rfl (pi_range1 (by rfl) T.n_range (pa_cons pe_int pa_nil)) (pg_name (i := 13) sc_law.nd rfl (Or.inl rfl)) (pss_cons (ps_set (i := 19) sc_law.nd rfl (Or.inl rfl) (pe_call G_l_walk.ok hr_l_walk rfl G_l_walk.mg G_l_walk.kp G_l_walk.b .nil passL (pa_cons (pv 1) (pa_cons (pe_tup (pa_cons (pv 6) (pa_cons (pv 7) pa_nil))) (pa_cons pe_int pa_nil)))))
      (pss_cons (ps_asg (pe_call G_l_twice.ok hr_l_twice rfl G_l_twice.mg G_l_twice.kp G_l_twice.b .nil passL (pa_cons (pv 19) (pa_cons (pv 8) (pa_cons (pe_callB call_len (by rfl) T.n_len PySem.boot_len (pa_cons (pv 7) pa_nil)) pa_nil)))) (pg_tup rfl (pgs_cons (pg_name (i := 21) sc_law.nd rfl (Or.inl rfl)) (pgs_cons (pg_name (i := 22) sc_law.nd rfl (Or.inr rfl)) pgs_nil))))
      (pss_cons (ps_if (pt_cmpR Lv.op_isNotB (pe_call G_is_run.ok hr_is_run rfl G_is_run.mg G_is_run.kp G_is_run.b .nil passL (pa_cons (pv 11) (pa_cons (pv 21) pa_nil))) pe_bl (nomark _)) (pss_one (ps_ret pe_bl)) pss_nil)
      (pss_cons (ps_set (i := 20) sc_law.nd rfl (Or.inr rfl) (pe_call G_boards.ok hr_boards rfl G_boards.mg G_boards.kp G_boards.b .nil passL (pa_cons (pv 11) (pa_cons (pv 21) pa_nil))))
      (pss_one (ps_if (pt_cmpR (op_neD hr.units) (pe_lc (own := [("_law_at", 23)]) (g := gName 23) rfl sc_law.nd (pi_range1 (by rfl) T.n_range (pa_cons (pe_callB call_len_seq (by rfl) T.n_len PySem.boot_len (pa_cons (pv 20) pa_nil)) pa_nil)) (blkOk_by (N := ["_law_script", "_law_pot_here", "_law_turn", "_law_great", "_law_machine", "_law_some", "_law_standings", "_law_events", "_law_event", "_law_first", "_law_part", "_law_other", "_law_due", "_law_again", "_law_number", "_law_before", "_law_after", "_law_tries", "_law_points", "_law_run", "_law_shown", "_law_longer", "_law_new", "_law_at"]) (sc := defScope s_law) (by decide +kernel)) (fun _ _ _ _ _ => (pg_name (i := 23) sc_law.nd rfl (Or.inl rfl) (hf := Or.inr rfl))) (fun _ _ _ _ _ => (pts_one (pt_cmpR (op_notInK (K := K) rfl) (pv 23) (pv 22) (by rfl)))) (fun _ _ _ _ _ => (pe_ix (ix_listK (K := K) rfl) (pv 20) (pv 23) (fun _ _ => rfl)))) (pe_call G_boards.ok hr_boards rfl G_boards.mg G_boards.kp G_boards.b .nil passL (pa_cons (pv 4) (pa_cons (pv 19) pa_nil))) (nomark _)) (pss_one (ps_ret pe_bl)) pss_nil)))))))))))))))) pss_nil))))))))
      (pss_one (ps_ret pe_bl)))), ?_⟩
    obtain ⟨a, ns, rfl, hS, hl, k⟩ := h
    (repeat first | ((with_reducible apply Lv.w_seq)) | ((with_reducible apply Lv.w_var); (focus (exact rfl))) | ((with_reducible apply Lv.w_op)) | ((with_reducible apply Lv.w_c)) | ((with_reducible apply Lv.w_cons)) | ((with_reducible apply Lv.w_nil)) | ((with_reducible apply Lv.w_rI0)) | ((with_reducible apply Lv.w_asg)) | ((with_reducible apply Lv.w_name)) | ((with_reducible apply Lv.w_call)) | ((with_reducible apply Lv.w_tof)) | ((with_reducible apply Lv.w_lof)) | ((with_reducible apply Lv.w_abs)) | ((with_reducible apply Lv.w_int1)) | ((with_reducible apply Lv.w_lenv)) | ((with_reducible apply Lv.w_lens)) | ((with_reducible apply Lv.w_cb)) | ((with_reducible apply Lv.w_rabs)) | ((with_reducible apply Lv.w_rint)) | ((with_reducible apply Lv.w_rintb)) | ((with_reducible apply Lv.w_rlenT); (focus (first | assumption | (exact Lv.Join.g (by assumption) _ _ (by assumption))))) | ((with_reducible apply Lv.w_rlenL); (focus (first | assumption | (exact Lv.Join.g (by assumption) _ _ (by assumption))))) | ((with_reducible apply Lv.w_slenT); (focus (first | assumption | (exact Lv.Join.g (by assumption) _ _ (by assumption))))) | ((with_reducible apply Lv.w_slenL); (focus (first | assumption | (exact Lv.Join.g (by assumption) _ _ (by assumption))))) | ((with_reducible apply Lv.w_klenT); (focus (first | assumption | (exact Lv.Join.g (by assumption) _ _ (by assumption))))) | ((with_reducible apply Lv.w_klenL); (focus (first | assumption | (exact Lv.Join.g (by assumption) _ _ (by assumption))))) | ((with_reducible apply Lv.w_bm)) | ((with_reducible apply Lv.w_bm0)) | ((with_reducible apply Lv.w_bml); (focus (first | assumption | (exact Lv.Join.g (by assumption) _ _ (by assumption))))) | ((with_reducible apply Lv.w_tup)) | ((with_reducible apply Lv.w_lst)) | ((with_reducible apply Lv.w_fld)) | ((with_reducible apply Lv.w_un)) | ((with_reducible apply Lv.w_rU)) | ((with_reducible apply Lv.w_ret)) | ((with_reducible apply Lv.w_retN)) | ((with_reducible apply Lv.w_next)) | ((with_reducible apply Lv.w_drop)) | ((with_reducible apply Lv.w_ifS)) | ((with_reducible apply Lv.w_gcons); (focus (exact rfl))) | ((with_reducible apply Lv.w_gnil); (focus (exact rfl))) | ((with_reducible apply Lv.w_gtup); (focus (first | assumption | (exact Lv.Join.g (by assumption) _ _ (by assumption)))); (focus (exact rfl))) | ((with_reducible apply Lv.w_eq); (focus (exact rfl))) | ((with_reducible apply Lv.w_ne); (focus (exact rfl))) | ((with_reducible apply Lv.w_tB)) | ((with_reducible apply Lv.w_test)) | ((with_reducible apply Lv.w_bl)) | ((with_reducible apply Lv.w_and)) | ((with_reducible apply Lv.w_or)) | ((with_reducible apply Lv.w_not)) | ((with_reducible apply Lv.w_andV)) | ((with_reducible apply Lv.w_orV)) | ((with_reducible apply Lv.w_notV)) | ((with_reducible apply Lv.w_ifT)) | ((with_reducible apply Lv.w_ifF)) | ((with_reducible apply Lv.w_ifNT)) | ((with_reducible apply Lv.w_ifNF)) | ((with_reducible apply Lv.w_yes)) | ((with_reducible apply Lv.w_ixT); (focus (first | assumption | (exact Lv.Join.g (by assumption) _ _ (by assumption)))); (focus (exact rfl))) | ((with_reducible apply Lv.w_aug); (focus (exact rfl))) | ((with_reducible apply Lv.w_rAdd)) | ((with_reducible apply Lv.w_rSub)) | ((with_reducible apply Lv.w_lcL)) | ((with_reducible apply Lv.w_lcT)) | ((with_reducible apply Lv.w_lcR)) | ((with_reducible apply Lv.w_sl)) | ((with_reducible apply Lv.w_npart)) | ((with_reducible apply Lv.w_part)) | ((with_reducible apply Lv.w_pint)) | ((with_reducible apply Lv.w_forR)) | ((with_reducible apply Lv.w_forR2)) | ((with_reducible apply Lv.w_par)) | ((with_reducible apply Lv.w_apar)) | ((with_reducible apply Lv.w_lcR2)) | ((with_reducible apply Lv.w_lcE)) | ((with_reducible apply Lv.w_isB)) | ((with_reducible apply Lv.w_isNB)) | ((with_reducible apply Lv.w_forL)) | ((with_reducible apply Lv.w_forT)) | ((with_reducible apply Lv.w_brk)) | ((with_reducible apply Lv.w_cont)) | ((with_reducible apply Lv.w_meth)) | ((with_reducible apply Lv.w_make)))
    refine ⟨a, ns, rfl, hS, hl, fun l G P0 H1 e0 j hP => ?_⟩
    clear hS
    (repeat first | ((with_reducible apply Lv.w_seq)) | ((with_reducible apply Lv.w_var); (focus (exact rfl))) | ((with_reducible apply Lv.w_op)) | ((with_reducible apply Lv.w_c)) | ((with_reducible apply Lv.w_cons)) | ((with_reducible apply Lv.w_nil)) | ((with_reducible apply Lv.w_rI0)) | ((with_reducible apply Lv.w_asg)) | ((with_reducible apply Lv.w_name)) | ((with_reducible apply Lv.w_call)) | ((with_reducible apply Lv.w_tof)) | ((with_reducible apply Lv.w_lof)) | ((with_reducible apply Lv.w_abs)) | ((with_reducible apply Lv.w_int1)) | ((with_reducible apply Lv.w_lenv)) | ((with_reducible apply Lv.w_lens)) | ((with_reducible apply Lv.w_cb)) | ((with_reducible apply Lv.w_rabs)) | ((with_reducible apply Lv.w_rint)) | ((with_reducible apply Lv.w_rintb)) | ((with_reducible apply Lv.w_rlenT); (focus (first | assumption | (exact Lv.Join.g (by assumption) _ _ (by assumption))))) | ((with_reducible apply Lv.w_rlenL); (focus (first | assumption | (exact Lv.Join.g (by assumption) _ _ (by assumption))))) | ((with_reducible apply Lv.w_slenT); (focus (first | assumption | (exact Lv.Join.g (by assumption) _ _ (by assumption))))) | ((with_reducible apply Lv.w_slenL); (focus (first | assumption | (exact Lv.Join.g (by assumption) _ _ (by assumption))))) | ((with_reducible apply Lv.w_klenT); (focus (first | assumption | (exact Lv.Join.g (by assumption) _ _ (by assumption))))) | ((with_reducible apply Lv.w_klenL); (focus (first | assumption | (exact Lv.Join.g (by assumption) _ _ (by assumption))))) | ((with_reducible apply Lv.w_bm)) | ((with_reducible apply Lv.w_bm0)) | ((with_reducible apply Lv.w_bml); (focus (first | assumption | (exact Lv.Join.g (by assumption) _ _ (by assumption))))) | ((with_reducible apply Lv.w_tup)) | ((with_reducible apply Lv.w_lst)) | ((with_reducible apply Lv.w_fld)) | ((with_reducible apply Lv.w_un)) | ((with_reducible apply Lv.w_rU)) | ((with_reducible apply Lv.w_ret)) | ((with_reducible apply Lv.w_retN)) | ((with_reducible apply Lv.w_next)) | ((with_reducible apply Lv.w_drop)) | ((with_reducible apply Lv.w_ifS)) | ((with_reducible apply Lv.w_gcons); (focus (exact rfl))) | ((with_reducible apply Lv.w_gnil); (focus (exact rfl))) | ((with_reducible apply Lv.w_gtup); (focus (first | assumption | (exact Lv.Join.g (by assumption) _ _ (by assumption)))); (focus (exact rfl))) | ((with_reducible apply Lv.w_eq); (focus (exact rfl))) | ((with_reducible apply Lv.w_ne); (focus (exact rfl))) | ((with_reducible apply Lv.w_tB)) | ((with_reducible apply Lv.w_test)) | ((with_reducible apply Lv.w_bl)) | ((with_reducible apply Lv.w_and)) | ((with_reducible apply Lv.w_or)) | ((with_reducible apply Lv.w_not)) | ((with_reducible apply Lv.w_andV)) | ((with_reducible apply Lv.w_orV)) | ((with_reducible apply Lv.w_notV)) | ((with_reducible apply Lv.w_ifT)) | ((with_reducible apply Lv.w_ifF)) | ((with_reducible apply Lv.w_ifNT)) | ((with_reducible apply Lv.w_ifNF)) | ((with_reducible apply Lv.w_yes)) | ((with_reducible apply Lv.w_ixT); (focus (first | assumption | (exact Lv.Join.g (by assumption) _ _ (by assumption)))); (focus (exact rfl))) | ((with_reducible apply Lv.w_aug); (focus (exact rfl))) | ((with_reducible apply Lv.w_rAdd)) | ((with_reducible apply Lv.w_rSub)) | ((with_reducible apply Lv.w_lcL)) | ((with_reducible apply Lv.w_lcT)) | ((with_reducible apply Lv.w_lcR)) | ((with_reducible apply Lv.w_sl)) | ((with_reducible apply Lv.w_npart)) | ((with_reducible apply Lv.w_part)) | ((with_reducible apply Lv.w_pint)) | ((with_reducible apply Lv.w_forR)) | ((with_reducible apply Lv.w_forR2)) | ((with_reducible apply Lv.w_par)) | ((with_reducible apply Lv.w_apar)) | ((with_reducible apply Lv.w_lcR2)) | ((with_reducible apply Lv.w_lcE)) | ((with_reducible apply Lv.w_isB)) | ((with_reducible apply Lv.w_isNB)) | ((with_reducible apply Lv.w_forL)) | ((with_reducible apply Lv.w_forT)) | ((with_reducible apply Lv.w_brk)) | ((with_reducible apply Lv.w_cont)) | ((with_reducible apply Lv.w_meth)) | ((with_reducible apply Lv.w_make)))
    refine aForR.go (n := 4) rfl (by decide) (fun i G' P' σ' => Pot P' l ∧ ∃ (s2 s3 s4 s5 s6 s7 s8 s9 s10 s11 s12 s13 s14 s15 s16 s17 s18 s19 s20 s21 s22 s23 : Option V), σ' = [some (.ref a), some (.ref l), s2, s3, s4, s5, s6, s7, s8, s9, s10, s11, s12, s13, s14, s15, s16, s17, s18, s19, s20, s21, s22, s23]) j ⟨hP, _, _, _, _, _, _, _, _, _, _, _, _, _, _, _, _, _, _, _, _, _, _, rfl⟩ ?_ ?_
    · clear j hP e0
      rintro i G P0 H2 σ' hi j ⟨hP, s2, s3, s4, s5, s6, s7, s8, s9, s10, s11, s12, s13, s14, s15, s16, s17, s18, s19, s20, s21, s22, s23, rfl⟩
      (repeat first | ((with_reducible apply Lv.w_seq)) | ((with_reducible apply Lv.w_var); (focus (exact rfl))) | ((with_reducible apply Lv.w_op)) | ((with_reducible apply Lv.w_c)) | ((with_reducible apply Lv.w_cons)) | ((with_reducible apply Lv.w_nil)) | ((with_reducible apply Lv.w_rI0)) | ((with_reducible apply Lv.w_asg)) | ((with_reducible apply Lv.w_name)) | ((with_reducible apply Lv.w_call)) | ((with_reducible apply Lv.w_tof)) | ((with_reducible apply Lv.w_lof)) | ((with_reducible apply Lv.w_abs)) | ((with_reducible apply Lv.w_int1)) | ((with_reducible apply Lv.w_lenv)) | ((with_reducible apply Lv.w_lens)) | ((with_reducible apply Lv.w_cb)) | ((with_reducible apply Lv.w_rabs)) | ((with_reducible apply Lv.w_rint)) | ((with_reducible apply Lv.w_rintb)) | ((with_reducible apply Lv.w_rlenT); (focus (first | assumption | (exact Lv.Join.g (by assumption) _ _ (by assumption))))) | ((with_reducible apply Lv.w_rlenL); (focus (first | assumption | (exact Lv.Join.g (by assumption) _ _ (by assumption))))) | ((with_reducible apply Lv.w_slenT); (focus (first | assumption | (exact Lv.Join.g (by assumption) _ _ (by assumption))))) | ((with_reducible apply Lv.w_slenL); (focus (first | assumption | (exact Lv.Join.g (by assumption) _ _ (by assumption))))) | ((with_reducible apply Lv.w_klenT); (focus (first | assumption | (exact Lv.Join.g (by assumption) _ _ (by assumption))))) | ((with_reducible apply Lv.w_klenL); (focus (first | assumption | (exact Lv.Join.g (by assumption) _ _ (by assumption))))) | ((with_reducible apply Lv.w_bm)) | ((with_reducible apply Lv.w_bm0)) | ((with_reducible apply Lv.w_bml); (focus (first | assumption | (exact Lv.Join.g (by assumption) _ _ (by assumption))))) | ((with_reducible apply Lv.w_tup)) | ((with_reducible apply Lv.w_lst)) | ((with_reducible apply Lv.w_fld)) | ((with_reducible apply Lv.w_un)) | ((with_reducible apply Lv.w_rU)) | ((with_reducible apply Lv.w_ret)) | ((with_reducible apply Lv.w_retN)) | ((with_reducible apply Lv.w_next)) | ((with_reducible apply Lv.w_drop)) | ((with_reducible apply Lv.w_ifS)) | ((with_reducible apply Lv.w_gcons); (focus (exact rfl))) | ((with_reducible apply Lv.w_gnil); (focus (exact rfl))) | ((with_reducible apply Lv.w_gtup); (focus (first | assumption | (exact Lv.Join.g (by assumption) _ _ (by assumption)))); (focus (exact rfl))) | ((with_reducible apply Lv.w_eq); (focus (exact rfl))) | ((with_reducible apply Lv.w_ne); (focus (exact rfl))) | ((with_reducible apply Lv.w_tB)) | ((with_reducible apply Lv.w_test)) | ((with_reducible apply Lv.w_bl)) | ((with_reducible apply Lv.w_and)) | ((with_reducible apply Lv.w_or)) | ((with_reducible apply Lv.w_not)) | ((with_reducible apply Lv.w_andV)) | ((with_reducible apply Lv.w_orV)) | ((with_reducible apply Lv.w_notV)) | ((with_reducible apply Lv.w_ifT)) | ((with_reducible apply Lv.w_ifF)) | ((with_reducible apply Lv.w_ifNT)) | ((with_reducible apply Lv.w_ifNF)) | ((with_reducible apply Lv.w_yes)) | ((with_reducible apply Lv.w_ixT); (focus (first | assumption | (exact Lv.Join.g (by assumption) _ _ (by assumption)))); (focus (exact rfl))) | ((with_reducible apply Lv.w_aug); (focus (exact rfl))) | ((with_reducible apply Lv.w_rAdd)) | ((with_reducible apply Lv.w_rSub)) | ((with_reducible apply Lv.w_lcL)) | ((with_reducible apply Lv.w_lcT)) | ((with_reducible apply Lv.w_lcR)) | ((with_reducible apply Lv.w_sl)) | ((with_reducible apply Lv.w_npart)) | ((with_reducible apply Lv.w_part)) | ((with_reducible apply Lv.w_pint)) | ((with_reducible apply Lv.w_forR)) | ((with_reducible apply Lv.w_forR2)) | ((with_reducible apply Lv.w_par)) | ((with_reducible apply Lv.w_apar)) | ((with_reducible apply Lv.w_lcR2)) | ((with_reducible apply Lv.w_lcE)) | ((with_reducible apply Lv.w_isB)) | ((with_reducible apply Lv.w_isNB)) | ((with_reducible apply Lv.w_forL)) | ((with_reducible apply Lv.w_forT)) | ((with_reducible apply Lv.w_brk)) | ((with_reducible apply Lv.w_cont)) | ((with_reducible apply Lv.w_meth)) | ((with_reducible apply Lv.w_make)))
      refine ⟨l, _, G, P0, rfl, j, hP, by decide, by decide, fun d P1 H3 d0 d1 j1 hP1 => ?_⟩
      (repeat first | ((with_reducible apply Lv.w_seq)) | ((with_reducible apply Lv.w_var); (focus (exact rfl))) | ((with_reducible apply Lv.w_op)) | ((with_reducible apply Lv.w_c)) | ((with_reducible apply Lv.w_cons)) | ((with_reducible apply Lv.w_nil)) | ((with_reducible apply Lv.w_rI0)) | ((with_reducible apply Lv.w_asg)) | ((with_reducible apply Lv.w_name)) | ((with_reducible apply Lv.w_call)) | ((with_reducible apply Lv.w_tof)) | ((with_reducible apply Lv.w_lof)) | ((with_reducible apply Lv.w_abs)) | ((with_reducible apply Lv.w_int1)) | ((with_reducible apply Lv.w_lenv)) | ((with_reducible apply Lv.w_lens)) | ((with_reducible apply Lv.w_cb)) | ((with_reducible apply Lv.w_rabs)) | ((with_reducible apply Lv.w_rint)) | ((with_reducible apply Lv.w_rintb)) | ((with_reducible apply Lv.w_rlenT); (focus (first | assumption | (exact Lv.Join.g (by assumption) _ _ (by assumption))))) | ((with_reducible apply Lv.w_rlenL); (focus (first | assumption | (exact Lv.Join.g (by assumption) _ _ (by assumption))))) | ((with_reducible apply Lv.w_slenT); (focus (first | assumption | (exact Lv.Join.g (by assumption) _ _ (by assumption))))) | ((with_reducible apply Lv.w_slenL); (focus (first | assumption | (exact Lv.Join.g (by assumption) _ _ (by assumption))))) | ((with_reducible apply Lv.w_klenT); (focus (first | assumption | (exact Lv.Join.g (by assumption) _ _ (by assumption))))) | ((with_reducible apply Lv.w_klenL); (focus (first | assumption | (exact Lv.Join.g (by assumption) _ _ (by assumption))))) | ((with_reducible apply Lv.w_bm)) | ((with_reducible apply Lv.w_bm0)) | ((with_reducible apply Lv.w_bml); (focus (first | assumption | (exact Lv.Join.g (by assumption) _ _ (by assumption))))) | ((with_reducible apply Lv.w_tup)) | ((with_reducible apply Lv.w_lst)) | ((with_reducible apply Lv.w_fld)) | ((with_reducible apply Lv.w_un)) | ((with_reducible apply Lv.w_rU)) | ((with_reducible apply Lv.w_ret)) | ((with_reducible apply Lv.w_retN)) | ((with_reducible apply Lv.w_next)) | ((with_reducible apply Lv.w_drop)) | ((with_reducible apply Lv.w_ifS)) | ((with_reducible apply Lv.w_gcons); (focus (exact rfl))) | ((with_reducible apply Lv.w_gnil); (focus (exact rfl))) | ((with_reducible apply Lv.w_gtup); (focus (first | assumption | (exact Lv.Join.g (by assumption) _ _ (by assumption)))); (focus (exact rfl))) | ((with_reducible apply Lv.w_eq); (focus (exact rfl))) | ((with_reducible apply Lv.w_ne); (focus (exact rfl))) | ((with_reducible apply Lv.w_tB)) | ((with_reducible apply Lv.w_test)) | ((with_reducible apply Lv.w_bl)) | ((with_reducible apply Lv.w_and)) | ((with_reducible apply Lv.w_or)) | ((with_reducible apply Lv.w_not)) | ((with_reducible apply Lv.w_andV)) | ((with_reducible apply Lv.w_orV)) | ((with_reducible apply Lv.w_notV)) | ((with_reducible apply Lv.w_ifT)) | ((with_reducible apply Lv.w_ifF)) | ((with_reducible apply Lv.w_ifNT)) | ((with_reducible apply Lv.w_ifNF)) | ((with_reducible apply Lv.w_yes)) | ((with_reducible apply Lv.w_ixT); (focus (first | assumption | (exact Lv.Join.g (by assumption) _ _ (by assumption)))); (focus (exact rfl))) | ((with_reducible apply Lv.w_aug); (focus (exact rfl))) | ((with_reducible apply Lv.w_rAdd)) | ((with_reducible apply Lv.w_rSub)) | ((with_reducible apply Lv.w_lcL)) | ((with_reducible apply Lv.w_lcT)) | ((with_reducible apply Lv.w_lcR)) | ((with_reducible apply Lv.w_sl)) | ((with_reducible apply Lv.w_npart)) | ((with_reducible apply Lv.w_part)) | ((with_reducible apply Lv.w_pint)) | ((with_reducible apply Lv.w_forR)) | ((with_reducible apply Lv.w_forR2)) | ((with_reducible apply Lv.w_par)) | ((with_reducible apply Lv.w_apar)) | ((with_reducible apply Lv.w_lcR2)) | ((with_reducible apply Lv.w_lcE)) | ((with_reducible apply Lv.w_isB)) | ((with_reducible apply Lv.w_isNB)) | ((with_reducible apply Lv.w_forL)) | ((with_reducible apply Lv.w_forT)) | ((with_reducible apply Lv.w_brk)) | ((with_reducible apply Lv.w_cont)) | ((with_reducible apply Lv.w_meth)) | ((with_reducible apply Lv.w_make)))
      generalize hb : decide (V.int d = V.int 0) = great
      clear hb d0 d1
      refine tIf_c rfl ?_
      (repeat first | ((with_reducible apply Lv.w_seq)) | ((with_reducible apply Lv.w_var); (focus (exact rfl))) | ((with_reducible apply Lv.w_op)) | ((with_reducible apply Lv.w_c)) | ((with_reducible apply Lv.w_cons)) | ((with_reducible apply Lv.w_nil)) | ((with_reducible apply Lv.w_rI0)) | ((with_reducible apply Lv.w_asg)) | ((with_reducible apply Lv.w_name)) | ((with_reducible apply Lv.w_call)) | ((with_reducible apply Lv.w_tof)) | ((with_reducible apply Lv.w_lof)) | ((with_reducible apply Lv.w_abs)) | ((with_reducible apply Lv.w_int1)) | ((with_reducible apply Lv.w_lenv)) | ((with_reducible apply Lv.w_lens)) | ((with_reducible apply Lv.w_cb)) | ((with_reducible apply Lv.w_rabs)) | ((with_reducible apply Lv.w_rint)) | ((with_reducible apply Lv.w_rintb)) | ((with_reducible apply Lv.w_rlenT); (focus (first | assumption | (exact Lv.Join.g (by assumption) _ _ (by assumption))))) | ((with_reducible apply Lv.w_rlenL); (focus (first | assumption | (exact Lv.Join.g (by assumption) _ _ (by assumption))))) | ((with_reducible apply Lv.w_slenT); (focus (first | assumption | (exact Lv.Join.g (by assumption) _ _ (by assumption))))) | ((with_reducible apply Lv.w_slenL); (focus (first | assumption | (exact Lv.Join.g (by assumption) _ _ (by assumption))))) | ((with_reducible apply Lv.w_klenT); (focus (first | assumption | (exact Lv.Join.g (by assumption) _ _ (by assumption))))) | ((with_reducible apply Lv.w_klenL); (focus (first | assumption | (exact Lv.Join.g (by assumption) _ _ (by assumption))))) | ((with_reducible apply Lv.w_bm)) | ((with_reducible apply Lv.w_bm0)) | ((with_reducible apply Lv.w_bml); (focus (first | assumption | (exact Lv.Join.g (by assumption) _ _ (by assumption))))) | ((with_reducible apply Lv.w_tup)) | ((with_reducible apply Lv.w_lst)) | ((with_reducible apply Lv.w_fld)) | ((with_reducible apply Lv.w_un)) | ((with_reducible apply Lv.w_rU)) | ((with_reducible apply Lv.w_ret)) | ((with_reducible apply Lv.w_retN)) | ((with_reducible apply Lv.w_next)) | ((with_reducible apply Lv.w_drop)) | ((with_reducible apply Lv.w_ifS)) | ((with_reducible apply Lv.w_gcons); (focus (exact rfl))) | ((with_reducible apply Lv.w_gnil); (focus (exact rfl))) | ((with_reducible apply Lv.w_gtup); (focus (first | assumption | (exact Lv.Join.g (by assumption) _ _ (by assumption)))); (focus (exact rfl))) | ((with_reducible apply Lv.w_eq); (focus (exact rfl))) | ((with_reducible apply Lv.w_ne); (focus (exact rfl))) | ((with_reducible apply Lv.w_tB)) | ((with_reducible apply Lv.w_test)) | ((with_reducible apply Lv.w_bl)) | ((with_reducible apply Lv.w_and)) | ((with_reducible apply Lv.w_or)) | ((with_reducible apply Lv.w_not)) | ((with_reducible apply Lv.w_andV)) | ((with_reducible apply Lv.w_orV)) | ((with_reducible apply Lv.w_notV)) | ((with_reducible apply Lv.w_ifT)) | ((with_reducible apply Lv.w_ifF)) | ((with_reducible apply Lv.w_ifNT)) | ((with_reducible apply Lv.w_ifNF)) | ((with_reducible apply Lv.w_yes)) | ((with_reducible apply Lv.w_ixT); (focus (first | assumption | (exact Lv.Join.g (by assumption) _ _ (by assumption)))); (focus (exact rfl))) | ((with_reducible apply Lv.w_aug); (focus (exact rfl))) | ((with_reducible apply Lv.w_rAdd)) | ((with_reducible apply Lv.w_rSub)) | ((with_reducible apply Lv.w_lcL)) | ((with_reducible apply Lv.w_lcT)) | ((with_reducible apply Lv.w_lcR)) | ((with_reducible apply Lv.w_sl)) | ((with_reducible apply Lv.w_npart)) | ((with_reducible apply Lv.w_part)) | ((with_reducible apply Lv.w_pint)) | ((with_reducible apply Lv.w_forR)) | ((with_reducible apply Lv.w_forR2)) | ((with_reducible apply Lv.w_par)) | ((with_reducible apply Lv.w_apar)) | ((with_reducible apply Lv.w_lcR2)) | ((with_reducible apply Lv.w_lcE)) | ((with_reducible apply Lv.w_isB)) | ((with_reducible apply Lv.w_isNB)) | ((with_reducible apply Lv.w_forL)) | ((with_reducible apply Lv.w_forT)) | ((with_reducible apply Lv.w_brk)) | ((with_reducible apply Lv.w_cont)) | ((with_reducible apply Lv.w_meth)) | ((with_reducible apply Lv.w_make)))
      refine tIf_c rfl ?_
      have hw : (if great then V.int 12 else V.int 4) = .int (if great then 12 else 4) ∧ (if great then V.int 30 else V.int 6) = .int (if great then 30 else 6) := by cases great <;> exact ⟨rfl, rfl⟩
      have hw3 : (1 : Int) ≤ (if great then 12 else 4) ∧ (if great then 12 else 4) ≤ (12 : Int) ∧ (1 : Int) ≤ (if great then 30 else 6) ∧ (if great then 30 else 6) ≤ (30 : Int) := by cases great <;> decide
      rw [hw.1, hw.2]
      (repeat first | ((with_reducible apply Lv.w_seq)) | ((with_reducible apply Lv.w_var); (focus (exact rfl))) | ((with_reducible apply Lv.w_op)) | ((with_reducible apply Lv.w_c)) | ((with_reducible apply Lv.w_cons)) | ((with_reducible apply Lv.w_nil)) | ((with_reducible apply Lv.w_rI0)) | ((with_reducible apply Lv.w_asg)) | ((with_reducible apply Lv.w_name)) | ((with_reducible apply Lv.w_call)) | ((with_reducible apply Lv.w_tof)) | ((with_reducible apply Lv.w_lof)) | ((with_reducible apply Lv.w_abs)) | ((with_reducible apply Lv.w_int1)) | ((with_reducible apply Lv.w_lenv)) | ((with_reducible apply Lv.w_lens)) | ((with_reducible apply Lv.w_cb)) | ((with_reducible apply Lv.w_rabs)) | ((with_reducible apply Lv.w_rint)) | ((with_reducible apply Lv.w_rintb)) | ((with_reducible apply Lv.w_rlenT); (focus (first | assumption | (exact Lv.Join.g (by assumption) _ _ (by assumption))))) | ((with_reducible apply Lv.w_rlenL); (focus (first | assumption | (exact Lv.Join.g (by assumption) _ _ (by assumption))))) | ((with_reducible apply Lv.w_slenT); (focus (first | assumption | (exact Lv.Join.g (by assumption) _ _ (by assumption))))) | ((with_reducible apply Lv.w_slenL); (focus (first | assumption | (exact Lv.Join.g (by assumption) _ _ (by assumption))))) | ((with_reducible apply Lv.w_klenT); (focus (first | assumption | (exact Lv.Join.g (by assumption) _ _ (by assumption))))) | ((with_reducible apply Lv.w_klenL); (focus (first | assumption | (exact Lv.Join.g (by assumption) _ _ (by assumption))))) | ((with_reducible apply Lv.w_bm)) | ((with_reducible apply Lv.w_bm0)) | ((with_reducible apply Lv.w_bml); (focus (first | assumption | (exact Lv.Join.g (by assumption) _ _ (by assumption))))) | ((with_reducible apply Lv.w_tup)) | ((with_reducible apply Lv.w_lst)) | ((with_reducible apply Lv.w_fld)) | ((with_reducible apply Lv.w_un)) | ((with_reducible apply Lv.w_rU)) | ((with_reducible apply Lv.w_ret)) | ((with_reducible apply Lv.w_retN)) | ((with_reducible apply Lv.w_next)) | ((with_reducible apply Lv.w_drop)) | ((with_reducible apply Lv.w_ifS)) | ((with_reducible apply Lv.w_gcons); (focus (exact rfl))) | ((with_reducible apply Lv.w_gnil); (focus (exact rfl))) | ((with_reducible apply Lv.w_gtup); (focus (first | assumption | (exact Lv.Join.g (by assumption) _ _ (by assumption)))); (focus (exact rfl))) | ((with_reducible apply Lv.w_eq); (focus (exact rfl))) | ((with_reducible apply Lv.w_ne); (focus (exact rfl))) | ((with_reducible apply Lv.w_tB)) | ((with_reducible apply Lv.w_test)) | ((with_reducible apply Lv.w_bl)) | ((with_reducible apply Lv.w_and)) | ((with_reducible apply Lv.w_or)) | ((with_reducible apply Lv.w_not)) | ((with_reducible apply Lv.w_andV)) | ((with_reducible apply Lv.w_orV)) | ((with_reducible apply Lv.w_notV)) | ((with_reducible apply Lv.w_ifT)) | ((with_reducible apply Lv.w_ifF)) | ((with_reducible apply Lv.w_ifNT)) | ((with_reducible apply Lv.w_ifNF)) | ((with_reducible apply Lv.w_yes)) | ((with_reducible apply Lv.w_ixT); (focus (first | assumption | (exact Lv.Join.g (by assumption) _ _ (by assumption)))); (focus (exact rfl))) | ((with_reducible apply Lv.w_aug); (focus (exact rfl))) | ((with_reducible apply Lv.w_rAdd)) | ((with_reducible apply Lv.w_rSub)) | ((with_reducible apply Lv.w_lcL)) | ((with_reducible apply Lv.w_lcT)) | ((with_reducible apply Lv.w_lcR)) | ((with_reducible apply Lv.w_sl)) | ((with_reducible apply Lv.w_npart)) | ((with_reducible apply Lv.w_part)) | ((with_reducible apply Lv.w_pint)) | ((with_reducible apply Lv.w_forR)) | ((with_reducible apply Lv.w_forR2)) | ((with_reducible apply Lv.w_par)) | ((with_reducible apply Lv.w_apar)) | ((with_reducible apply Lv.w_lcR2)) | ((with_reducible apply Lv.w_lcE)) | ((with_reducible apply Lv.w_isB)) | ((with_reducible apply Lv.w_isNB)) | ((with_reducible apply Lv.w_forL)) | ((with_reducible apply Lv.w_forT)) | ((with_reducible apply Lv.w_brk)) | ((with_reducible apply Lv.w_cont)) | ((with_reducible apply Lv.w_meth)) | ((with_reducible apply Lv.w_make)))
      refine ⟨l, _, _, G, P1, rfl, j1, hP1, hw3.1, by omega, hw3.2.2.1, by omega, fun p n es G2 P2 H4 e2 j2 hP2 hpt hn1 hn2 hl1 hl2 hsm => ?_⟩
      have hn : n ≤ 12 := by omega
      have hle : es.length ≤ 30 := by omega
      clear hn2 hl2 hw hw3 hP hP1 j j1 e2
      obtain ⟨t, hp, vs, ht, hv⟩ := hpt
      (repeat first | ((with_reducible apply Lv.w_seq)) | ((with_reducible apply Lv.w_var); (focus (exact rfl))) | ((with_reducible apply Lv.w_op)) | ((with_reducible apply Lv.w_c)) | ((with_reducible apply Lv.w_cons)) | ((with_reducible apply Lv.w_nil)) | ((with_reducible apply Lv.w_rI0)) | ((with_reducible apply Lv.w_asg)) | ((with_reducible apply Lv.w_name)) | ((with_reducible apply Lv.w_call)) | ((with_reducible apply Lv.w_tof)) | ((with_reducible apply Lv.w_lof)) | ((with_reducible apply Lv.w_abs)) | ((with_reducible apply Lv.w_int1)) | ((with_reducible apply Lv.w_lenv)) | ((with_reducible apply Lv.w_lens)) | ((with_reducible apply Lv.w_cb)) | ((with_reducible apply Lv.w_rabs)) | ((with_reducible apply Lv.w_rint)) | ((with_reducible apply Lv.w_rintb)) | ((with_reducible apply Lv.w_rlenT); (focus (first | assumption | (exact Lv.Join.g (by assumption) _ _ (by assumption))))) | ((with_reducible apply Lv.w_rlenL); (focus (first | assumption | (exact Lv.Join.g (by assumption) _ _ (by assumption))))) | ((with_reducible apply Lv.w_slenT); (focus (first | assumption | (exact Lv.Join.g (by assumption) _ _ (by assumption))))) | ((with_reducible apply Lv.w_slenL); (focus (first | assumption | (exact Lv.Join.g (by assumption) _ _ (by assumption))))) | ((with_reducible apply Lv.w_klenT); (focus (first | assumption | (exact Lv.Join.g (by assumption) _ _ (by assumption))))) | ((with_reducible apply Lv.w_klenL); (focus (first | assumption | (exact Lv.Join.g (by assumption) _ _ (by assumption))))) | ((with_reducible apply Lv.w_bm)) | ((with_reducible apply Lv.w_bm0)) | ((with_reducible apply Lv.w_bml); (focus (first | assumption | (exact Lv.Join.g (by assumption) _ _ (by assumption))))) | ((with_reducible apply Lv.w_tup)) | ((with_reducible apply Lv.w_lst)) | ((with_reducible apply Lv.w_fld)) | ((with_reducible apply Lv.w_un)) | ((with_reducible apply Lv.w_rU)) | ((with_reducible apply Lv.w_ret)) | ((with_reducible apply Lv.w_retN)) | ((with_reducible apply Lv.w_next)) | ((with_reducible apply Lv.w_drop)) | ((with_reducible apply Lv.w_ifS)) | ((with_reducible apply Lv.w_gcons); (focus (exact rfl))) | ((with_reducible apply Lv.w_gnil); (focus (exact rfl))) | ((with_reducible apply Lv.w_gtup); (focus (first | assumption | (exact Lv.Join.g (by assumption) _ _ (by assumption)))); (focus (exact rfl))) | ((with_reducible apply Lv.w_eq); (focus (exact rfl))) | ((with_reducible apply Lv.w_ne); (focus (exact rfl))) | ((with_reducible apply Lv.w_tB)) | ((with_reducible apply Lv.w_test)) | ((with_reducible apply Lv.w_bl)) | ((with_reducible apply Lv.w_and)) | ((with_reducible apply Lv.w_or)) | ((with_reducible apply Lv.w_not)) | ((with_reducible apply Lv.w_andV)) | ((with_reducible apply Lv.w_orV)) | ((with_reducible apply Lv.w_notV)) | ((with_reducible apply Lv.w_ifT)) | ((with_reducible apply Lv.w_ifF)) | ((with_reducible apply Lv.w_ifNT)) | ((with_reducible apply Lv.w_ifNF)) | ((with_reducible apply Lv.w_yes)) | ((with_reducible apply Lv.w_ixT); (focus (first | assumption | (exact Lv.Join.g (by assumption) _ _ (by assumption)))); (focus (exact rfl))) | ((with_reducible apply Lv.w_aug); (focus (exact rfl))) | ((with_reducible apply Lv.w_rAdd)) | ((with_reducible apply Lv.w_rSub)) | ((with_reducible apply Lv.w_lcL)) | ((with_reducible apply Lv.w_lcT)) | ((with_reducible apply Lv.w_lcR)) | ((with_reducible apply Lv.w_sl)) | ((with_reducible apply Lv.w_npart)) | ((with_reducible apply Lv.w_part)) | ((with_reducible apply Lv.w_pint)) | ((with_reducible apply Lv.w_forR)) | ((with_reducible apply Lv.w_forR2)) | ((with_reducible apply Lv.w_par)) | ((with_reducible apply Lv.w_apar)) | ((with_reducible apply Lv.w_lcR2)) | ((with_reducible apply Lv.w_lcE)) | ((with_reducible apply Lv.w_isB)) | ((with_reducible apply Lv.w_isNB)) | ((with_reducible apply Lv.w_forL)) | ((with_reducible apply Lv.w_forT)) | ((with_reducible apply Lv.w_brk)) | ((with_reducible apply Lv.w_cont)) | ((with_reducible apply Lv.w_meth)) | ((with_reducible apply Lv.w_make)))
      refine ⟨fun σ' H' => ∃ (G P : Hp) (t : Addr) (vs : List V) (es : List Ev) (s8 s9 s10 s11 s12 s13 s14 s15 s16 s17 s18 s19 s20 s21 s22 s23 : Option V), σ' = [some (.ref a), some (.ref l), some (.int i), some (.bl great), s4, s5, some (.int n), some (.ref t), s8, s9, s10, s11, s12, s13, s14, s15, s16, s17, s18, s19, s20, s21, s22, s23] ∧ Join G P H' ∧ Pot P l ∧ G t = some (.tup vs) ∧ EvL G vs es ∧ 1 ≤ es.length ∧ es.length ≤ 30 ∧ ∀ e ∈ es, EvOk n e, ?_, ?_⟩
      · (repeat first | ((with_reducible apply Lv.w_seq)) | ((with_reducible apply Lv.w_var); (focus (exact rfl))) | ((with_reducible apply Lv.w_op)) | ((with_reducible apply Lv.w_c)) | ((with_reducible apply Lv.w_cons)) | ((with_reducible apply Lv.w_nil)) | ((with_reducible apply Lv.w_rI0)) | ((with_reducible apply Lv.w_asg)) | ((with_reducible apply Lv.w_name)) | ((with_reducible apply Lv.w_call)) | ((with_reducible apply Lv.w_tof)) | ((with_reducible apply Lv.w_lof)) | ((with_reducible apply Lv.w_abs)) | ((with_reducible apply Lv.w_int1)) | ((with_reducible apply Lv.w_lenv)) | ((with_reducible apply Lv.w_lens)) | ((with_reducible apply Lv.w_cb)) | ((with_reducible apply Lv.w_rabs)) | ((with_reducible apply Lv.w_rint)) | ((with_reducible apply Lv.w_rintb)) | ((with_reducible apply Lv.w_rlenT); (focus (first | assumption | (exact Lv.Join.g (by assumption) _ _ (by assumption))))) | ((with_reducible apply Lv.w_rlenL); (focus (first | assumption | (exact Lv.Join.g (by assumption) _ _ (by assumption))))) | ((with_reducible apply Lv.w_slenT); (focus (first | assumption | (exact Lv.Join.g (by assumption) _ _ (by assumption))))) | ((with_reducible apply Lv.w_slenL); (focus (first | assumption | (exact Lv.Join.g (by assumption) _ _ (by assumption))))) | ((with_reducible apply Lv.w_klenT); (focus (first | assumption | (exact Lv.Join.g (by assumption) _ _ (by assumption))))) | ((with_reducible apply Lv.w_klenL); (focus (first | assumption | (exact Lv.Join.g (by assumption) _ _ (by assumption))))) | ((with_reducible apply Lv.w_bm)) | ((with_reducible apply Lv.w_bm0)) | ((with_reducible apply Lv.w_bml); (focus (first | assumption | (exact Lv.Join.g (by assumption) _ _ (by assumption))))) | ((with_reducible apply Lv.w_tup)) | ((with_reducible apply Lv.w_lst)) | ((with_reducible apply Lv.w_fld)) | ((with_reducible apply Lv.w_un)) | ((with_reducible apply Lv.w_rU)) | ((with_reducible apply Lv.w_ret)) | ((with_reducible apply Lv.w_retN)) | ((with_reducible apply Lv.w_next)) | ((with_reducible apply Lv.w_drop)) | ((with_reducible apply Lv.w_ifS)) | ((with_reducible apply Lv.w_gcons); (focus (exact rfl))) | ((with_reducible apply Lv.w_gnil); (focus (exact rfl))) | ((with_reducible apply Lv.w_gtup); (focus (first | assumption | (exact Lv.Join.g (by assumption) _ _ (by assumption)))); (focus (exact rfl))) | ((with_reducible apply Lv.w_eq); (focus (exact rfl))) | ((with_reducible apply Lv.w_ne); (focus (exact rfl))) | ((with_reducible apply Lv.w_tB)) | ((with_reducible apply Lv.w_test)) | ((with_reducible apply Lv.w_bl)) | ((with_reducible apply Lv.w_and)) | ((with_reducible apply Lv.w_or)) | ((with_reducible apply Lv.w_not)) | ((with_reducible apply Lv.w_andV)) | ((with_reducible apply Lv.w_orV)) | ((with_reducible apply Lv.w_notV)) | ((with_reducible apply Lv.w_ifT)) | ((with_reducible apply Lv.w_ifF)) | ((with_reducible apply Lv.w_ifNT)) | ((with_reducible apply Lv.w_ifNF)) | ((with_reducible apply Lv.w_yes)) | ((with_reducible apply Lv.w_ixT); (focus (first | assumption | (exact Lv.Join.g (by assumption) _ _ (by assumption)))); (focus (exact rfl))) | ((with_reducible apply Lv.w_aug); (focus (exact rfl))) | ((with_reducible apply Lv.w_rAdd)) | ((with_reducible apply Lv.w_rSub)) | ((with_reducible apply Lv.w_lcL)) | ((with_reducible apply Lv.w_lcT)) | ((with_reducible apply Lv.w_lcR)) | ((with_reducible apply Lv.w_sl)) | ((with_reducible apply Lv.w_npart)) | ((with_reducible apply Lv.w_part)) | ((with_reducible apply Lv.w_pint)) | ((with_reducible apply Lv.w_forR)) | ((with_reducible apply Lv.w_forR2)) | ((with_reducible apply Lv.w_par)) | ((with_reducible apply Lv.w_apar)) | ((with_reducible apply Lv.w_lcR2)) | ((with_reducible apply Lv.w_lcE)) | ((with_reducible apply Lv.w_isB)) | ((with_reducible apply Lv.w_isNB)) | ((with_reducible apply Lv.w_forL)) | ((with_reducible apply Lv.w_forT)) | ((with_reducible apply Lv.w_brk)) | ((with_reducible apply Lv.w_cont)) | ((with_reducible apply Lv.w_meth)) | ((with_reducible apply Lv.w_make)))
        refine ⟨l, _, G2, P2, rfl, j2, hP2, by decide, by decide, fun d P3 H3 d0 d1 j3 hP3 => ?_⟩
        (repeat first | ((with_reducible apply Lv.w_seq)) | ((with_reducible apply Lv.w_var); (focus (exact rfl))) | ((with_reducible apply Lv.w_op)) | ((with_reducible apply Lv.w_c)) | ((with_reducible apply Lv.w_cons)) | ((with_reducible apply Lv.w_nil)) | ((with_reducible apply Lv.w_rI0)) | ((with_reducible apply Lv.w_asg)) | ((with_reducible apply Lv.w_name)) | ((with_reducible apply Lv.w_call)) | ((with_reducible apply Lv.w_tof)) | ((with_reducible apply Lv.w_lof)) | ((with_reducible apply Lv.w_abs)) | ((with_reducible apply Lv.w_int1)) | ((with_reducible apply Lv.w_lenv)) | ((with_reducible apply Lv.w_lens)) | ((with_reducible apply Lv.w_cb)) | ((with_reducible apply Lv.w_rabs)) | ((with_reducible apply Lv.w_rint)) | ((with_reducible apply Lv.w_rintb)) | ((with_reducible apply Lv.w_rlenT); (focus (first | assumption | (exact Lv.Join.g (by assumption) _ _ (by assumption))))) | ((with_reducible apply Lv.w_rlenL); (focus (first | assumption | (exact Lv.Join.g (by assumption) _ _ (by assumption))))) | ((with_reducible apply Lv.w_slenT); (focus (first | assumption | (exact Lv.Join.g (by assumption) _ _ (by assumption))))) | ((with_reducible apply Lv.w_slenL); (focus (first | assumption | (exact Lv.Join.g (by assumption) _ _ (by assumption))))) | ((with_reducible apply Lv.w_klenT); (focus (first | assumption | (exact Lv.Join.g (by assumption) _ _ (by assumption))))) | ((with_reducible apply Lv.w_klenL); (focus (first | assumption | (exact Lv.Join.g (by assumption) _ _ (by assumption))))) | ((with_reducible apply Lv.w_bm)) | ((with_reducible apply Lv.w_bm0)) | ((with_reducible apply Lv.w_bml); (focus (first | assumption | (exact Lv.Join.g (by assumption) _ _ (by assumption))))) | ((with_reducible apply Lv.w_tup)) | ((with_reducible apply Lv.w_lst)) | ((with_reducible apply Lv.w_fld)) | ((with_reducible apply Lv.w_un)) | ((with_reducible apply Lv.w_rU)) | ((with_reducible apply Lv.w_ret)) | ((with_reducible apply Lv.w_retN)) | ((with_reducible apply Lv.w_next)) | ((with_reducible apply Lv.w_drop)) | ((with_reducible apply Lv.w_ifS)) | ((with_reducible apply Lv.w_gcons); (focus (exact rfl))) | ((with_reducible apply Lv.w_gnil); (focus (exact rfl))) | ((with_reducible apply Lv.w_gtup); (focus (first | assumption | (exact Lv.Join.g (by assumption) _ _ (by assumption)))); (focus (exact rfl))) | ((with_reducible apply Lv.w_eq); (focus (exact rfl))) | ((with_reducible apply Lv.w_ne); (focus (exact rfl))) | ((with_reducible apply Lv.w_tB)) | ((with_reducible apply Lv.w_test)) | ((with_reducible apply Lv.w_bl)) | ((with_reducible apply Lv.w_and)) | ((with_reducible apply Lv.w_or)) | ((with_reducible apply Lv.w_not)) | ((with_reducible apply Lv.w_andV)) | ((with_reducible apply Lv.w_orV)) | ((with_reducible apply Lv.w_notV)) | ((with_reducible apply Lv.w_ifT)) | ((with_reducible apply Lv.w_ifF)) | ((with_reducible apply Lv.w_ifNT)) | ((with_reducible apply Lv.w_ifNF)) | ((with_reducible apply Lv.w_yes)) | ((with_reducible apply Lv.w_ixT); (focus (first | assumption | (exact Lv.Join.g (by assumption) _ _ (by assumption)))); (focus (exact rfl))) | ((with_reducible apply Lv.w_aug); (focus (exact rfl))) | ((with_reducible apply Lv.w_rAdd)) | ((with_reducible apply Lv.w_rSub)) | ((with_reducible apply Lv.w_lcL)) | ((with_reducible apply Lv.w_lcT)) | ((with_reducible apply Lv.w_lcR)) | ((with_reducible apply Lv.w_sl)) | ((with_reducible apply Lv.w_npart)) | ((with_reducible apply Lv.w_part)) | ((with_reducible apply Lv.w_pint)) | ((with_reducible apply Lv.w_forR)) | ((with_reducible apply Lv.w_forR2)) | ((with_reducible apply Lv.w_par)) | ((with_reducible apply Lv.w_apar)) | ((with_reducible apply Lv.w_lcR2)) | ((with_reducible apply Lv.w_lcE)) | ((with_reducible apply Lv.w_isB)) | ((with_reducible apply Lv.w_isNB)) | ((with_reducible apply Lv.w_forL)) | ((with_reducible apply Lv.w_forT)) | ((with_reducible apply Lv.w_brk)) | ((with_reducible apply Lv.w_cont)) | ((with_reducible apply Lv.w_meth)) | ((with_reducible apply Lv.w_make)))
        by_cases hd : d = 0
        · refine itT (congrArg V.int hd) ?_
          (repeat first | ((with_reducible apply Lv.w_seq)) | ((with_reducible apply Lv.w_var); (focus (exact rfl))) | ((with_reducible apply Lv.w_op)) | ((with_reducible apply Lv.w_c)) | ((with_reducible apply Lv.w_cons)) | ((with_reducible apply Lv.w_nil)) | ((with_reducible apply Lv.w_rI0)) | ((with_reducible apply Lv.w_asg)) | ((with_reducible apply Lv.w_name)) | ((with_reducible apply Lv.w_call)) | ((with_reducible apply Lv.w_tof)) | ((with_reducible apply Lv.w_lof)) | ((with_reducible apply Lv.w_abs)) | ((with_reducible apply Lv.w_int1)) | ((with_reducible apply Lv.w_lenv)) | ((with_reducible apply Lv.w_lens)) | ((with_reducible apply Lv.w_cb)) | ((with_reducible apply Lv.w_rabs)) | ((with_reducible apply Lv.w_rint)) | ((with_reducible apply Lv.w_rintb)) | ((with_reducible apply Lv.w_rlenT); (focus (first | assumption | (exact Lv.Join.g (by assumption) _ _ (by assumption))))) | ((with_reducible apply Lv.w_rlenL); (focus (first | assumption | (exact Lv.Join.g (by assumption) _ _ (by assumption))))) | ((with_reducible apply Lv.w_slenT); (focus (first | assumption | (exact Lv.Join.g (by assumption) _ _ (by assumption))))) | ((with_reducible apply Lv.w_slenL); (focus (first | assumption | (exact Lv.Join.g (by assumption) _ _ (by assumption))))) | ((with_reducible apply Lv.w_klenT); (focus (first | assumption | (exact Lv.Join.g (by assumption) _ _ (by assumption))))) | ((with_reducible apply Lv.w_klenL); (focus (first | assumption | (exact Lv.Join.g (by assumption) _ _ (by assumption))))) | ((with_reducible apply Lv.w_bm)) | ((with_reducible apply Lv.w_bm0)) | ((with_reducible apply Lv.w_bml); (focus (first | assumption | (exact Lv.Join.g (by assumption) _ _ (by assumption))))) | ((with_reducible apply Lv.w_tup)) | ((with_reducible apply Lv.w_lst)) | ((with_reducible apply Lv.w_fld)) | ((with_reducible apply Lv.w_un)) | ((with_reducible apply Lv.w_rU)) | ((with_reducible apply Lv.w_ret)) | ((with_reducible apply Lv.w_retN)) | ((with_reducible apply Lv.w_next)) | ((with_reducible apply Lv.w_drop)) | ((with_reducible apply Lv.w_ifS)) | ((with_reducible apply Lv.w_gcons); (focus (exact rfl))) | ((with_reducible apply Lv.w_gnil); (focus (exact rfl))) | ((with_reducible apply Lv.w_gtup); (focus (first | assumption | (exact Lv.Join.g (by assumption) _ _ (by assumption)))); (focus (exact rfl))) | ((with_reducible apply Lv.w_eq); (focus (exact rfl))) | ((with_reducible apply Lv.w_ne); (focus (exact rfl))) | ((with_reducible apply Lv.w_tB)) | ((with_reducible apply Lv.w_test)) | ((with_reducible apply Lv.w_bl)) | ((with_reducible apply Lv.w_and)) | ((with_reducible apply Lv.w_or)) | ((with_reducible apply Lv.w_not)) | ((with_reducible apply Lv.w_andV)) | ((with_reducible apply Lv.w_orV)) | ((with_reducible apply Lv.w_notV)) | ((with_reducible apply Lv.w_ifT)) | ((with_reducible apply Lv.w_ifF)) | ((with_reducible apply Lv.w_ifNT)) | ((with_reducible apply Lv.w_ifNF)) | ((with_reducible apply Lv.w_yes)) | ((with_reducible apply Lv.w_ixT); (focus (first | assumption | (exact Lv.Join.g (by assumption) _ _ (by assumption)))); (focus (exact rfl))) | ((with_reducible apply Lv.w_aug); (focus (exact rfl))) | ((with_reducible apply Lv.w_rAdd)) | ((with_reducible apply Lv.w_rSub)) | ((with_reducible apply Lv.w_lcL)) | ((with_reducible apply Lv.w_lcT)) | ((with_reducible apply Lv.w_lcR)) | ((with_reducible apply Lv.w_sl)) | ((with_reducible apply Lv.w_npart)) | ((with_reducible apply Lv.w_part)) | ((with_reducible apply Lv.w_pint)) | ((with_reducible apply Lv.w_forR)) | ((with_reducible apply Lv.w_forR2)) | ((with_reducible apply Lv.w_par)) | ((with_reducible apply Lv.w_apar)) | ((with_reducible apply Lv.w_lcR2)) | ((with_reducible apply Lv.w_lcE)) | ((with_reducible apply Lv.w_isB)) | ((with_reducible apply Lv.w_isNB)) | ((with_reducible apply Lv.w_forL)) | ((with_reducible apply Lv.w_forT)) | ((with_reducible apply Lv.w_brk)) | ((with_reducible apply Lv.w_cont)) | ((with_reducible apply Lv.w_meth)) | ((with_reducible apply Lv.w_make)))
          refine aLcT.go (fun P' => P' = P3) (fun i us G' => EvL G' us ((es.take i).map flipE)) j3 rfl ht (fun _ _ => EvL.nil) (fun i us G2 D _ _ hd h => h.upd hd) (fun i us G2 h => ?_) ?_ ?_
          · rw [h.1, List.length_map, List.length_take]; omega
          · intro i x us G' P' H' R R0 hx e' hI hP j' kR kR0
            subst hP
            obtain ⟨e, te, he, rfl, hte⟩ := hv.get hx
            replace hte := e' _ _ hte
            (repeat first | ((with_reducible apply Lv.w_seq)) | ((with_reducible apply Lv.w_var); (focus (exact rfl))) | ((with_reducible apply Lv.w_op)) | ((with_reducible apply Lv.w_c)) | ((with_reducible apply Lv.w_cons)) | ((with_reducible apply Lv.w_nil)) | ((with_reducible apply Lv.w_rI0)) | ((with_reducible apply Lv.w_asg)) | ((with_reducible apply Lv.w_name)) | ((with_reducible apply Lv.w_call)) | ((with_reducible apply Lv.w_tof)) | ((with_reducible apply Lv.w_lof)) | ((with_reducible apply Lv.w_abs)) | ((with_reducible apply Lv.w_int1)) | ((with_reducible apply Lv.w_lenv)) | ((with_reducible apply Lv.w_lens)) | ((with_reducible apply Lv.w_cb)) | ((with_reducible apply Lv.w_rabs)) | ((with_reducible apply Lv.w_rint)) | ((with_reducible apply Lv.w_rintb)) | ((with_reducible apply Lv.w_rlenT); (focus (first | assumption | (exact Lv.Join.g (by assumption) _ _ (by assumption))))) | ((with_reducible apply Lv.w_rlenL); (focus (first | assumption | (exact Lv.Join.g (by assumption) _ _ (by assumption))))) | ((with_reducible apply Lv.w_slenT); (focus (first | assumption | (exact Lv.Join.g (by assumption) _ _ (by assumption))))) | ((with_reducible apply Lv.w_slenL); (focus (first | assumption | (exact Lv.Join.g (by assumption) _ _ (by assumption))))) | ((with_reducible apply Lv.w_klenT); (focus (first | assumption | (exact Lv.Join.g (by assumption) _ _ (by assumption))))) | ((with_reducible apply Lv.w_klenL); (focus (first | assumption | (exact Lv.Join.g (by assumption) _ _ (by assumption))))) | ((with_reducible apply Lv.w_bm)) | ((with_reducible apply Lv.w_bm0)) | ((with_reducible apply Lv.w_bml); (focus (first | assumption | (exact Lv.Join.g (by assumption) _ _ (by assumption))))) | ((with_reducible apply Lv.w_tup)) | ((with_reducible apply Lv.w_lst)) | ((with_reducible apply Lv.w_fld)) | ((with_reducible apply Lv.w_un)) | ((with_reducible apply Lv.w_rU)) | ((with_reducible apply Lv.w_ret)) | ((with_reducible apply Lv.w_retN)) | ((with_reducible apply Lv.w_next)) | ((with_reducible apply Lv.w_drop)) | ((with_reducible apply Lv.w_ifS)) | ((with_reducible apply Lv.w_gcons); (focus (exact rfl))) | ((with_reducible apply Lv.w_gnil); (focus (exact rfl))) | ((with_reducible apply Lv.w_gtup); (focus (first | assumption | (exact Lv.Join.g (by assumption) _ _ (by assumption)))); (focus (exact rfl))) | ((with_reducible apply Lv.w_eq); (focus (exact rfl))) | ((with_reducible apply Lv.w_ne); (focus (exact rfl))) | ((with_reducible apply Lv.w_tB)) | ((with_reducible apply Lv.w_test)) | ((with_reducible apply Lv.w_bl)) | ((with_reducible apply Lv.w_and)) | ((with_reducible apply Lv.w_or)) | ((with_reducible apply Lv.w_not)) | ((with_reducible apply Lv.w_andV)) | ((with_reducible apply Lv.w_orV)) | ((with_reducible apply Lv.w_notV)) | ((with_reducible apply Lv.w_ifT)) | ((with_reducible apply Lv.w_ifF)) | ((with_reducible apply Lv.w_ifNT)) | ((with_reducible apply Lv.w_ifNF)) | ((with_reducible apply Lv.w_yes)) | ((with_reducible apply Lv.w_ixT); (focus (first | assumption | (exact Lv.Join.g (by assumption) _ _ (by assumption)))); (focus (exact rfl))) | ((with_reducible apply Lv.w_aug); (focus (exact rfl))) | ((with_reducible apply Lv.w_rAdd)) | ((with_reducible apply Lv.w_rSub)) | ((with_reducible apply Lv.w_lcL)) | ((with_reducible apply Lv.w_lcT)) | ((with_reducible apply Lv.w_lcR)) | ((with_reducible apply Lv.w_sl)) | ((with_reducible apply Lv.w_npart)) | ((with_reducible apply Lv.w_part)) | ((with_reducible apply Lv.w_pint)) | ((with_reducible apply Lv.w_forR)) | ((with_reducible apply Lv.w_forR2)) | ((with_reducible apply Lv.w_par)) | ((with_reducible apply Lv.w_apar)) | ((with_reducible apply Lv.w_lcR2)) | ((with_reducible apply Lv.w_lcE)) | ((with_reducible apply Lv.w_isB)) | ((with_reducible apply Lv.w_isNB)) | ((with_reducible apply Lv.w_forL)) | ((with_reducible apply Lv.w_forT)) | ((with_reducible apply Lv.w_brk)) | ((with_reducible apply Lv.w_cont)) | ((with_reducible apply Lv.w_meth)) | ((with_reducible apply Lv.w_make)))
            refine ⟨rfl, ?_⟩
            (repeat first | ((with_reducible apply Lv.w_seq)) | ((with_reducible apply Lv.w_var); (focus (exact rfl))) | ((with_reducible apply Lv.w_op)) | ((with_reducible apply Lv.w_c)) | ((with_reducible apply Lv.w_cons)) | ((with_reducible apply Lv.w_nil)) | ((with_reducible apply Lv.w_rI0)) | ((with_reducible apply Lv.w_asg)) | ((with_reducible apply Lv.w_name)) | ((with_reducible apply Lv.w_call)) | ((with_reducible apply Lv.w_tof)) | ((with_reducible apply Lv.w_lof)) | ((with_reducible apply Lv.w_abs)) | ((with_reducible apply Lv.w_int1)) | ((with_reducible apply Lv.w_lenv)) | ((with_reducible apply Lv.w_lens)) | ((with_reducible apply Lv.w_cb)) | ((with_reducible apply Lv.w_rabs)) | ((with_reducible apply Lv.w_rint)) | ((with_reducible apply Lv.w_rintb)) | ((with_reducible apply Lv.w_rlenT); (focus (first | assumption | (exact Lv.Join.g (by assumption) _ _ (by assumption))))) | ((with_reducible apply Lv.w_rlenL); (focus (first | assumption | (exact Lv.Join.g (by assumption) _ _ (by assumption))))) | ((with_reducible apply Lv.w_slenT); (focus (first | assumption | (exact Lv.Join.g (by assumption) _ _ (by assumption))))) | ((with_reducible apply Lv.w_slenL); (focus (first | assumption | (exact Lv.Join.g (by assumption) _ _ (by assumption))))) | ((with_reducible apply Lv.w_klenT); (focus (first | assumption | (exact Lv.Join.g (by assumption) _ _ (by assumption))))) | ((with_reducible apply Lv.w_klenL); (focus (first | assumption | (exact Lv.Join.g (by assumption) _ _ (by assumption))))) | ((with_reducible apply Lv.w_bm)) | ((with_reducible apply Lv.w_bm0)) | ((with_reducible apply Lv.w_bml); (focus (first | assumption | (exact Lv.Join.g (by assumption) _ _ (by assumption))))) | ((with_reducible apply Lv.w_tup)) | ((with_reducible apply Lv.w_lst)) | ((with_reducible apply Lv.w_fld)) | ((with_reducible apply Lv.w_un)) | ((with_reducible apply Lv.w_rU)) | ((with_reducible apply Lv.w_ret)) | ((with_reducible apply Lv.w_retN)) | ((with_reducible apply Lv.w_next)) | ((with_reducible apply Lv.w_drop)) | ((with_reducible apply Lv.w_ifS)) | ((with_reducible apply Lv.w_gcons); (focus (exact rfl))) | ((with_reducible apply Lv.w_gnil); (focus (exact rfl))) | ((with_reducible apply Lv.w_gtup); (focus (first | assumption | (exact Lv.Join.g (by assumption) _ _ (by assumption)))); (focus (exact rfl))) | ((with_reducible apply Lv.w_eq); (focus (exact rfl))) | ((with_reducible apply Lv.w_ne); (focus (exact rfl))) | ((with_reducible apply Lv.w_tB)) | ((with_reducible apply Lv.w_test)) | ((with_reducible apply Lv.w_bl)) | ((with_reducible apply Lv.w_and)) | ((with_reducible apply Lv.w_or)) | ((with_reducible apply Lv.w_not)) | ((with_reducible apply Lv.w_andV)) | ((with_reducible apply Lv.w_orV)) | ((with_reducible apply Lv.w_notV)) | ((with_reducible apply Lv.w_ifT)) | ((with_reducible apply Lv.w_ifF)) | ((with_reducible apply Lv.w_ifNT)) | ((with_reducible apply Lv.w_ifNF)) | ((with_reducible apply Lv.w_yes)) | ((with_reducible apply Lv.w_ixT); (focus (first | assumption | (exact Lv.Join.g (by assumption) _ _ (by assumption)))); (focus (exact rfl))) | ((with_reducible apply Lv.w_aug); (focus (exact rfl))) | ((with_reducible apply Lv.w_rAdd)) | ((with_reducible apply Lv.w_rSub)) | ((with_reducible apply Lv.w_lcL)) | ((with_reducible apply Lv.w_lcT)) | ((with_reducible apply Lv.w_lcR)) | ((with_reducible apply Lv.w_sl)) | ((with_reducible apply Lv.w_npart)) | ((with_reducible apply Lv.w_part)) | ((with_reducible apply Lv.w_pint)) | ((with_reducible apply Lv.w_forR)) | ((with_reducible apply Lv.w_forR2)) | ((with_reducible apply Lv.w_par)) | ((with_reducible apply Lv.w_apar)) | ((with_reducible apply Lv.w_lcR2)) | ((with_reducible apply Lv.w_lcE)) | ((with_reducible apply Lv.w_isB)) | ((with_reducible apply Lv.w_isNB)) | ((with_reducible apply Lv.w_forL)) | ((with_reducible apply Lv.w_forT)) | ((with_reducible apply Lv.w_brk)) | ((with_reducible apply Lv.w_cont)) | ((with_reducible apply Lv.w_meth)) | ((with_reducible apply Lv.w_make)))
            refine aTup.go j' (by show 4 ≤ 100000; decide) fun p2 G2 H2 hp2 e2 j2 ht2 => ?_
            refine kR _ G2 _ H2 e2 rfl j2 ?_
            rw [take_more he, List.map_append]
            exact (hI.mono e2).add ht2
          intro dl wd G8 P' H8 hdl e8 hGd hI hP j8
          subst hP
          rw [hv.1, List.take_length] at hI
          (repeat first | ((with_reducible apply Lv.w_seq)) | ((with_reducible apply Lv.w_var); (focus (exact rfl))) | ((with_reducible apply Lv.w_op)) | ((with_reducible apply Lv.w_c)) | ((with_reducible apply Lv.w_cons)) | ((with_reducible apply Lv.w_nil)) | ((with_reducible apply Lv.w_rI0)) | ((with_reducible apply Lv.w_asg)) | ((with_reducible apply Lv.w_name)) | ((with_reducible apply Lv.w_call)) | ((with_reducible apply Lv.w_tof)) | ((with_reducible apply Lv.w_lof)) | ((with_reducible apply Lv.w_abs)) | ((with_reducible apply Lv.w_int1)) | ((with_reducible apply Lv.w_lenv)) | ((with_reducible apply Lv.w_lens)) | ((with_reducible apply Lv.w_cb)) | ((with_reducible apply Lv.w_rabs)) | ((with_reducible apply Lv.w_rint)) | ((with_reducible apply Lv.w_rintb)) | ((with_reducible apply Lv.w_rlenT); (focus (first | assumption | (exact Lv.Join.g (by assumption) _ _ (by assumption))))) | ((with_reducible apply Lv.w_rlenL); (focus (first | assumption | (exact Lv.Join.g (by assumption) _ _ (by assumption))))) | ((with_reducible apply Lv.w_slenT); (focus (first | assumption | (exact Lv.Join.g (by assumption) _ _ (by assumption))))) | ((with_reducible apply Lv.w_slenL); (focus (first | assumption | (exact Lv.Join.g (by assumption) _ _ (by assumption))))) | ((with_reducible apply Lv.w_klenT); (focus (first | assumption | (exact Lv.Join.g (by assumption) _ _ (by assumption))))) | ((with_reducible apply Lv.w_klenL); (focus (first | assumption | (exact Lv.Join.g (by assumption) _ _ (by assumption))))) | ((with_reducible apply Lv.w_bm)) | ((with_reducible apply Lv.w_bm0)) | ((with_reducible apply Lv.w_bml); (focus (first | assumption | (exact Lv.Join.g (by assumption) _ _ (by assumption))))) | ((with_reducible apply Lv.w_tup)) | ((with_reducible apply Lv.w_lst)) | ((with_reducible apply Lv.w_fld)) | ((with_reducible apply Lv.w_un)) | ((with_reducible apply Lv.w_rU)) | ((with_reducible apply Lv.w_ret)) | ((with_reducible apply Lv.w_retN)) | ((with_reducible apply Lv.w_next)) | ((with_reducible apply Lv.w_drop)) | ((with_reducible apply Lv.w_ifS)) | ((with_reducible apply Lv.w_gcons); (focus (exact rfl))) | ((with_reducible apply Lv.w_gnil); (focus (exact rfl))) | ((with_reducible apply Lv.w_gtup); (focus (first | assumption | (exact Lv.Join.g (by assumption) _ _ (by assumption)))); (focus (exact rfl))) | ((with_reducible apply Lv.w_eq); (focus (exact rfl))) | ((with_reducible apply Lv.w_ne); (focus (exact rfl))) | ((with_reducible apply Lv.w_tB)) | ((with_reducible apply Lv.w_test)) | ((with_reducible apply Lv.w_bl)) | ((with_reducible apply Lv.w_and)) | ((with_reducible apply Lv.w_or)) | ((with_reducible apply Lv.w_not)) | ((with_reducible apply Lv.w_andV)) | ((with_reducible apply Lv.w_orV)) | ((with_reducible apply Lv.w_notV)) | ((with_reducible apply Lv.w_ifT)) | ((with_reducible apply Lv.w_ifF)) | ((with_reducible apply Lv.w_ifNT)) | ((with_reducible apply Lv.w_ifNF)) | ((with_reducible apply Lv.w_yes)) | ((with_reducible apply Lv.w_ixT); (focus (first | assumption | (exact Lv.Join.g (by assumption) _ _ (by assumption)))); (focus (exact rfl))) | ((with_reducible apply Lv.w_aug); (focus (exact rfl))) | ((with_reducible apply Lv.w_rAdd)) | ((with_reducible apply Lv.w_rSub)) | ((with_reducible apply Lv.w_lcL)) | ((with_reducible apply Lv.w_lcT)) | ((with_reducible apply Lv.w_lcR)) | ((with_reducible apply Lv.w_sl)) | ((with_reducible apply Lv.w_npart)) | ((with_reducible apply Lv.w_part)) | ((with_reducible apply Lv.w_pint)) | ((with_reducible apply Lv.w_forR)) | ((with_reducible apply Lv.w_forR2)) | ((with_reducible apply Lv.w_par)) | ((with_reducible apply Lv.w_apar)) | ((with_reducible apply Lv.w_lcR2)) | ((with_reducible apply Lv.w_lcE)) | ((with_reducible apply Lv.w_isB)) | ((with_reducible apply Lv.w_isNB)) | ((with_reducible apply Lv.w_forL)) | ((with_reducible apply Lv.w_forT)) | ((with_reducible apply Lv.w_brk)) | ((with_reducible apply Lv.w_cont)) | ((with_reducible apply Lv.w_meth)) | ((with_reducible apply Lv.w_make)))
          refine tupOf_go j8 hGd fun u G10 H10 hu e10 j10 hGu => ?_
          (repeat first | ((with_reducible apply Lv.w_seq)) | ((with_reducible apply Lv.w_var); (focus (exact rfl))) | ((with_reducible apply Lv.w_op)) | ((with_reducible apply Lv.w_c)) | ((with_reducible apply Lv.w_cons)) | ((with_reducible apply Lv.w_nil)) | ((with_reducible apply Lv.w_rI0)) | ((with_reducible apply Lv.w_asg)) | ((with_reducible apply Lv.w_name)) | ((with_reducible apply Lv.w_call)) | ((with_reducible apply Lv.w_tof)) | ((with_reducible apply Lv.w_lof)) | ((with_reducible apply Lv.w_abs)) | ((with_reducible apply Lv.w_int1)) | ((with_reducible apply Lv.w_lenv)) | ((with_reducible apply Lv.w_lens)) | ((with_reducible apply Lv.w_cb)) | ((with_reducible apply Lv.w_rabs)) | ((with_reducible apply Lv.w_rint)) | ((with_reducible apply Lv.w_rintb)) | ((with_reducible apply Lv.w_rlenT); (focus (first | assumption | (exact Lv.Join.g (by assumption) _ _ (by assumption))))) | ((with_reducible apply Lv.w_rlenL); (focus (first | assumption | (exact Lv.Join.g (by assumption) _ _ (by assumption))))) | ((with_reducible apply Lv.w_slenT); (focus (first | assumption | (exact Lv.Join.g (by assumption) _ _ (by assumption))))) | ((with_reducible apply Lv.w_slenL); (focus (first | assumption | (exact Lv.Join.g (by assumption) _ _ (by assumption))))) | ((with_reducible apply Lv.w_klenT); (focus (first | assumption | (exact Lv.Join.g (by assumption) _ _ (by assumption))))) | ((with_reducible apply Lv.w_klenL); (focus (first | assumption | (exact Lv.Join.g (by assumption) _ _ (by assumption))))) | ((with_reducible apply Lv.w_bm)) | ((with_reducible apply Lv.w_bm0)) | ((with_reducible apply Lv.w_bml); (focus (first | assumption | (exact Lv.Join.g (by assumption) _ _ (by assumption))))) | ((with_reducible apply Lv.w_tup)) | ((with_reducible apply Lv.w_lst)) | ((with_reducible apply Lv.w_fld)) | ((with_reducible apply Lv.w_un)) | ((with_reducible apply Lv.w_rU)) | ((with_reducible apply Lv.w_ret)) | ((with_reducible apply Lv.w_retN)) | ((with_reducible apply Lv.w_next)) | ((with_reducible apply Lv.w_drop)) | ((with_reducible apply Lv.w_ifS)) | ((with_reducible apply Lv.w_gcons); (focus (exact rfl))) | ((with_reducible apply Lv.w_gnil); (focus (exact rfl))) | ((with_reducible apply Lv.w_gtup); (focus (first | assumption | (exact Lv.Join.g (by assumption) _ _ (by assumption)))); (focus (exact rfl))) | ((with_reducible apply Lv.w_eq); (focus (exact rfl))) | ((with_reducible apply Lv.w_ne); (focus (exact rfl))) | ((with_reducible apply Lv.w_tB)) | ((with_reducible apply Lv.w_test)) | ((with_reducible apply Lv.w_bl)) | ((with_reducible apply Lv.w_and)) | ((with_reducible apply Lv.w_or)) | ((with_reducible apply Lv.w_not)) | ((with_reducible apply Lv.w_andV)) | ((with_reducible apply Lv.w_orV)) | ((with_reducible apply Lv.w_notV)) | ((with_reducible apply Lv.w_ifT)) | ((with_reducible apply Lv.w_ifF)) | ((with_reducible apply Lv.w_ifNT)) | ((with_reducible apply Lv.w_ifNF)) | ((with_reducible apply Lv.w_yes)) | ((with_reducible apply Lv.w_ixT); (focus (first | assumption | (exact Lv.Join.g (by assumption) _ _ (by assumption)))); (focus (exact rfl))) | ((with_reducible apply Lv.w_aug); (focus (exact rfl))) | ((with_reducible apply Lv.w_rAdd)) | ((with_reducible apply Lv.w_rSub)) | ((with_reducible apply Lv.w_lcL)) | ((with_reducible apply Lv.w_lcT)) | ((with_reducible apply Lv.w_lcR)) | ((with_reducible apply Lv.w_sl)) | ((with_reducible apply Lv.w_npart)) | ((with_reducible apply Lv.w_part)) | ((with_reducible apply Lv.w_pint)) | ((with_reducible apply Lv.w_forR)) | ((with_reducible apply Lv.w_forR2)) | ((with_reducible apply Lv.w_par)) | ((with_reducible apply Lv.w_apar)) | ((with_reducible apply Lv.w_lcR2)) | ((with_reducible apply Lv.w_lcE)) | ((with_reducible apply Lv.w_isB)) | ((with_reducible apply Lv.w_isNB)) | ((with_reducible apply Lv.w_forL)) | ((with_reducible apply Lv.w_forT)) | ((with_reducible apply Lv.w_brk)) | ((with_reducible apply Lv.w_cont)) | ((with_reducible apply Lv.w_meth)) | ((with_reducible apply Lv.w_make)))
          refine ⟨G10, P', u, wd, es.map flipE, _, _, _, _, _, _, _, _, _, _, _, _, _, _, _, _, rfl, j10, hP3, hGu, hI.mono e10, by rw [List.length_map]; exact hl1, by rw [List.length_map]; exact hle, fun e he => ?_⟩
          obtain ⟨e0, he0, rfl⟩ := List.mem_map.mp he
          obtain ⟨b1, b2, b3, b4, b5, b6, b7, b8⟩ := hsm e0 he0
          exact ⟨b1, b2, b3, b4, by show 1 ≤ 40 - e0.w; omega, by show 40 - e0.w ≤ 40; omega, by show -400 ≤ e0.x; omega, by show e0.x ≤ 400; omega⟩
        · refine itF (fun h => hd (V.int.inj h)) ?_
          (repeat first | ((with_reducible apply Lv.w_seq)) | ((with_reducible apply Lv.w_var); (focus (exact rfl))) | ((with_reducible apply Lv.w_op)) | ((with_reducible apply Lv.w_c)) | ((with_reducible apply Lv.w_cons)) | ((with_reducible apply Lv.w_nil)) | ((with_reducible apply Lv.w_rI0)) | ((with_reducible apply Lv.w_asg)) | ((with_reducible apply Lv.w_name)) | ((with_reducible apply Lv.w_call)) | ((with_reducible apply Lv.w_tof)) | ((with_reducible apply Lv.w_lof)) | ((with_reducible apply Lv.w_abs)) | ((with_reducible apply Lv.w_int1)) | ((with_reducible apply Lv.w_lenv)) | ((with_reducible apply Lv.w_lens)) | ((with_reducible apply Lv.w_cb)) | ((with_reducible apply Lv.w_rabs)) | ((with_reducible apply Lv.w_rint)) | ((with_reducible apply Lv.w_rintb)) | ((with_reducible apply Lv.w_rlenT); (focus (first | assumption | (exact Lv.Join.g (by assumption) _ _ (by assumption))))) | ((with_reducible apply Lv.w_rlenL); (focus (first | assumption | (exact Lv.Join.g (by assumption) _ _ (by assumption))))) | ((with_reducible apply Lv.w_slenT); (focus (first | assumption | (exact Lv.Join.g (by assumption) _ _ (by assumption))))) | ((with_reducible apply Lv.w_slenL); (focus (first | assumption | (exact Lv.Join.g (by assumption) _ _ (by assumption))))) | ((with_reducible apply Lv.w_klenT); (focus (first | assumption | (exact Lv.Join.g (by assumption) _ _ (by assumption))))) | ((with_reducible apply Lv.w_klenL); (focus (first | assumption | (exact Lv.Join.g (by assumption) _ _ (by assumption))))) | ((with_reducible apply Lv.w_bm)) | ((with_reducible apply Lv.w_bm0)) | ((with_reducible apply Lv.w_bml); (focus (first | assumption | (exact Lv.Join.g (by assumption) _ _ (by assumption))))) | ((with_reducible apply Lv.w_tup)) | ((with_reducible apply Lv.w_lst)) | ((with_reducible apply Lv.w_fld)) | ((with_reducible apply Lv.w_un)) | ((with_reducible apply Lv.w_rU)) | ((with_reducible apply Lv.w_ret)) | ((with_reducible apply Lv.w_retN)) | ((with_reducible apply Lv.w_next)) | ((with_reducible apply Lv.w_drop)) | ((with_reducible apply Lv.w_ifS)) | ((with_reducible apply Lv.w_gcons); (focus (exact rfl))) | ((with_reducible apply Lv.w_gnil); (focus (exact rfl))) | ((with_reducible apply Lv.w_gtup); (focus (first | assumption | (exact Lv.Join.g (by assumption) _ _ (by assumption)))); (focus (exact rfl))) | ((with_reducible apply Lv.w_eq); (focus (exact rfl))) | ((with_reducible apply Lv.w_ne); (focus (exact rfl))) | ((with_reducible apply Lv.w_tB)) | ((with_reducible apply Lv.w_test)) | ((with_reducible apply Lv.w_bl)) | ((with_reducible apply Lv.w_and)) | ((with_reducible apply Lv.w_or)) | ((with_reducible apply Lv.w_not)) | ((with_reducible apply Lv.w_andV)) | ((with_reducible apply Lv.w_orV)) | ((with_reducible apply Lv.w_notV)) | ((with_reducible apply Lv.w_ifT)) | ((with_reducible apply Lv.w_ifF)) | ((with_reducible apply Lv.w_ifNT)) | ((with_reducible apply Lv.w_ifNF)) | ((with_reducible apply Lv.w_yes)) | ((with_reducible apply Lv.w_ixT); (focus (first | assumption | (exact Lv.Join.g (by assumption) _ _ (by assumption)))); (focus (exact rfl))) | ((with_reducible apply Lv.w_aug); (focus (exact rfl))) | ((with_reducible apply Lv.w_rAdd)) | ((with_reducible apply Lv.w_rSub)) | ((with_reducible apply Lv.w_lcL)) | ((with_reducible apply Lv.w_lcT)) | ((with_reducible apply Lv.w_lcR)) | ((with_reducible apply Lv.w_sl)) | ((with_reducible apply Lv.w_npart)) | ((with_reducible apply Lv.w_part)) | ((with_reducible apply Lv.w_pint)) | ((with_reducible apply Lv.w_forR)) | ((with_reducible apply Lv.w_forR2)) | ((with_reducible apply Lv.w_par)) | ((with_reducible apply Lv.w_apar)) | ((with_reducible apply Lv.w_lcR2)) | ((with_reducible apply Lv.w_lcE)) | ((with_reducible apply Lv.w_isB)) | ((with_reducible apply Lv.w_isNB)) | ((with_reducible apply Lv.w_forL)) | ((with_reducible apply Lv.w_forT)) | ((with_reducible apply Lv.w_brk)) | ((with_reducible apply Lv.w_cont)) | ((with_reducible apply Lv.w_meth)) | ((with_reducible apply Lv.w_make)))
          exact ⟨G2, P3, t, vs, es, _, _, _, _, _, _, _, _, _, _, _, _, _, _, _, _, rfl, j3, hP3, ht, hv, hl1, hle, fun e he => (hsm e he).ok⟩
      clear j2 hP2 hl1 hsm hle hp ht hv
      rintro σ' H5 ⟨G, P1, t, vs, es, s8, s9, s10, s11, s12, s13, s14, s15, s16, s17, s18, s19, s20, s21, s22, s23, rfl, j, hP, ht, hv, hl1, hle, hes⟩
      (repeat first | ((with_reducible apply Lv.w_seq)) | ((with_reducible apply Lv.w_var); (focus (exact rfl))) | ((with_reducible apply Lv.w_op)) | ((with_reducible apply Lv.w_c)) | ((with_reducible apply Lv.w_cons)) | ((with_reducible apply Lv.w_nil)) | ((with_reducible apply Lv.w_rI0)) | ((with_reducible apply Lv.w_asg)) | ((with_reducible apply Lv.w_name)) | ((with_reducible apply Lv.w_call)) | ((with_reducible apply Lv.w_tof)) | ((with_reducible apply Lv.w_lof)) | ((with_reducible apply Lv.w_abs)) | ((with_reducible apply Lv.w_int1)) | ((with_reducible apply Lv.w_lenv)) | ((with_reducible apply Lv.w_lens)) | ((with_reducible apply Lv.w_cb)) | ((with_reducible apply Lv.w_rabs)) | ((with_reducible apply Lv.w_rint)) | ((with_reducible apply Lv.w_rintb)) | ((with_reducible apply Lv.w_rlenT); (focus (first | assumption | (exact Lv.Join.g (by assumption) _ _ (by assumption))))) | ((with_reducible apply Lv.w_rlenL); (focus (first | assumption | (exact Lv.Join.g (by assumption) _ _ (by assumption))))) | ((with_reducible apply Lv.w_slenT); (focus (first | assumption | (exact Lv.Join.g (by assumption) _ _ (by assumption))))) | ((with_reducible apply Lv.w_slenL); (focus (first | assumption | (exact Lv.Join.g (by assumption) _ _ (by assumption))))) | ((with_reducible apply Lv.w_klenT); (focus (first | assumption | (exact Lv.Join.g (by assumption) _ _ (by assumption))))) | ((with_reducible apply Lv.w_klenL); (focus (first | assumption | (exact Lv.Join.g (by assumption) _ _ (by assumption))))) | ((with_reducible apply Lv.w_bm)) | ((with_reducible apply Lv.w_bm0)) | ((with_reducible apply Lv.w_bml); (focus (first | assumption | (exact Lv.Join.g (by assumption) _ _ (by assumption))))) | ((with_reducible apply Lv.w_tup)) | ((with_reducible apply Lv.w_lst)) | ((with_reducible apply Lv.w_fld)) | ((with_reducible apply Lv.w_un)) | ((with_reducible apply Lv.w_rU)) | ((with_reducible apply Lv.w_ret)) | ((with_reducible apply Lv.w_retN)) | ((with_reducible apply Lv.w_next)) | ((with_reducible apply Lv.w_drop)) | ((with_reducible apply Lv.w_ifS)) | ((with_reducible apply Lv.w_gcons); (focus (exact rfl))) | ((with_reducible apply Lv.w_gnil); (focus (exact rfl))) | ((with_reducible apply Lv.w_gtup); (focus (first | assumption | (exact Lv.Join.g (by assumption) _ _ (by assumption)))); (focus (exact rfl))) | ((with_reducible apply Lv.w_eq); (focus (exact rfl))) | ((with_reducible apply Lv.w_ne); (focus (exact rfl))) | ((with_reducible apply Lv.w_tB)) | ((with_reducible apply Lv.w_test)) | ((with_reducible apply Lv.w_bl)) | ((with_reducible apply Lv.w_and)) | ((with_reducible apply Lv.w_or)) | ((with_reducible apply Lv.w_not)) | ((with_reducible apply Lv.w_andV)) | ((with_reducible apply Lv.w_orV)) | ((with_reducible apply Lv.w_notV)) | ((with_reducible apply Lv.w_ifT)) | ((with_reducible apply Lv.w_ifF)) | ((with_reducible apply Lv.w_ifNT)) | ((with_reducible apply Lv.w_ifNF)) | ((with_reducible apply Lv.w_yes)) | ((with_reducible apply Lv.w_ixT); (focus (first | assumption | (exact Lv.Join.g (by assumption) _ _ (by assumption)))); (focus (exact rfl))) | ((with_reducible apply Lv.w_aug); (focus (exact rfl))) | ((with_reducible apply Lv.w_rAdd)) | ((with_reducible apply Lv.w_rSub)) | ((with_reducible apply Lv.w_lcL)) | ((with_reducible apply Lv.w_lcT)) | ((with_reducible apply Lv.w_lcR)) | ((with_reducible apply Lv.w_sl)) | ((with_reducible apply Lv.w_npart)) | ((with_reducible apply Lv.w_part)) | ((with_reducible apply Lv.w_pint)) | ((with_reducible apply Lv.w_forR)) | ((with_reducible apply Lv.w_forR2)) | ((with_reducible apply Lv.w_par)) | ((with_reducible apply Lv.w_apar)) | ((with_reducible apply Lv.w_lcR2)) | ((with_reducible apply Lv.w_lcE)) | ((with_reducible apply Lv.w_isB)) | ((with_reducible apply Lv.w_isNB)) | ((with_reducible apply Lv.w_forL)) | ((with_reducible apply Lv.w_forT)) | ((with_reducible apply Lv.w_brk)) | ((with_reducible apply Lv.w_cont)) | ((with_reducible apply Lv.w_meth)) | ((with_reducible apply Lv.w_make)))
      refine aMake.go j fun m dx G3 H3 hm e3 j3 hd3 => ?_
      refine ⟨m, t, n, dx, es, _, P1, rfl, j3, hd3, ⟨vs, e3 _ _ ht, hv.mono e3⟩, hn1, hn, hle, hes, fun G4 H5 j4 hbut hM => ⟨rfl, ?_⟩⟩
      have hMK : MachK K G4 m n es := ⟨_, mc_M T, hM⟩
      have e4 := hbut.ex e3 (j.ng hm)
      replace ht := e4 _ _ ht; replace hv := hv.mono e4
      have hpos : ∀ e ∈ es, 0 ≤ e.a := fun e he => (hes e he).2.2.1
      have hB := evOk_b hn1 hn hle hes
      have hvl := hv.1
      clear hbut e3 e4 j j3 hm hd3 hM
      (repeat first | ((with_reducible apply Lv.w_seq)) | ((with_reducible apply Lv.w_var); (focus (exact rfl))) | ((with_reducible apply Lv.w_op)) | ((with_reducible apply Lv.w_c)) | ((with_reducible apply Lv.w_cons)) | ((with_reducible apply Lv.w_nil)) | ((with_reducible apply Lv.w_rI0)) | ((with_reducible apply Lv.w_asg)) | ((with_reducible apply Lv.w_name)) | ((with_reducible apply Lv.w_call)) | ((with_reducible apply Lv.w_tof)) | ((with_reducible apply Lv.w_lof)) | ((with_reducible apply Lv.w_abs)) | ((with_reducible apply Lv.w_int1)) | ((with_reducible apply Lv.w_lenv)) | ((with_reducible apply Lv.w_lens)) | ((with_reducible apply Lv.w_cb)) | ((with_reducible apply Lv.w_rabs)) | ((with_reducible apply Lv.w_rint)) | ((with_reducible apply Lv.w_rintb)) | ((with_reducible apply Lv.w_rlenT); (focus (first | assumption | (exact Lv.Join.g (by assumption) _ _ (by assumption))))) | ((with_reducible apply Lv.w_rlenL); (focus (first | assumption | (exact Lv.Join.g (by assumption) _ _ (by assumption))))) | ((with_reducible apply Lv.w_slenT); (focus (first | assumption | (exact Lv.Join.g (by assumption) _ _ (by assumption))))) | ((with_reducible apply Lv.w_slenL); (focus (first | assumption | (exact Lv.Join.g (by assumption) _ _ (by assumption))))) | ((with_reducible apply Lv.w_klenT); (focus (first | assumption | (exact Lv.Join.g (by assumption) _ _ (by assumption))))) | ((with_reducible apply Lv.w_klenL); (focus (first | assumption | (exact Lv.Join.g (by assumption) _ _ (by assumption))))) | ((with_reducible apply Lv.w_bm)) | ((with_reducible apply Lv.w_bm0)) | ((with_reducible apply Lv.w_bml); (focus (first | assumption | (exact Lv.Join.g (by assumption) _ _ (by assumption))))) | ((with_reducible apply Lv.w_tup)) | ((with_reducible apply Lv.w_lst)) | ((with_reducible apply Lv.w_fld)) | ((with_reducible apply Lv.w_un)) | ((with_reducible apply Lv.w_rU)) | ((with_reducible apply Lv.w_ret)) | ((with_reducible apply Lv.w_retN)) | ((with_reducible apply Lv.w_next)) | ((with_reducible apply Lv.w_drop)) | ((with_reducible apply Lv.w_ifS)) | ((with_reducible apply Lv.w_gcons); (focus (exact rfl))) | ((with_reducible apply Lv.w_gnil); (focus (exact rfl))) | ((with_reducible apply Lv.w_gtup); (focus (first | assumption | (exact Lv.Join.g (by assumption) _ _ (by assumption)))); (focus (exact rfl))) | ((with_reducible apply Lv.w_eq); (focus (exact rfl))) | ((with_reducible apply Lv.w_ne); (focus (exact rfl))) | ((with_reducible apply Lv.w_tB)) | ((with_reducible apply Lv.w_test)) | ((with_reducible apply Lv.w_bl)) | ((with_reducible apply Lv.w_and)) | ((with_reducible apply Lv.w_or)) | ((with_reducible apply Lv.w_not)) | ((with_reducible apply Lv.w_andV)) | ((with_reducible apply Lv.w_orV)) | ((with_reducible apply Lv.w_notV)) | ((with_reducible apply Lv.w_ifT)) | ((with_reducible apply Lv.w_ifF)) | ((with_reducible apply Lv.w_ifNT)) | ((with_reducible apply Lv.w_ifNF)) | ((with_reducible apply Lv.w_yes)) | ((with_reducible apply Lv.w_ixT); (focus (first | assumption | (exact Lv.Join.g (by assumption) _ _ (by assumption)))); (focus (exact rfl))) | ((with_reducible apply Lv.w_aug); (focus (exact rfl))) | ((with_reducible apply Lv.w_rAdd)) | ((with_reducible apply Lv.w_rSub)) | ((with_reducible apply Lv.w_lcL)) | ((with_reducible apply Lv.w_lcT)) | ((with_reducible apply Lv.w_lcR)) | ((with_reducible apply Lv.w_sl)) | ((with_reducible apply Lv.w_npart)) | ((with_reducible apply Lv.w_part)) | ((with_reducible apply Lv.w_pint)) | ((with_reducible apply Lv.w_forR)) | ((with_reducible apply Lv.w_forR2)) | ((with_reducible apply Lv.w_par)) | ((with_reducible apply Lv.w_apar)) | ((with_reducible apply Lv.w_lcR2)) | ((with_reducible apply Lv.w_lcE)) | ((with_reducible apply Lv.w_isB)) | ((with_reducible apply Lv.w_isNB)) | ((with_reducible apply Lv.w_forL)) | ((with_reducible apply Lv.w_forT)) | ((with_reducible apply Lv.w_brk)) | ((with_reducible apply Lv.w_cont)) | ((with_reducible apply Lv.w_meth)) | ((with_reducible apply Lv.w_make)))
      refine aLcR.go (n := es.length) (fun P' => P' = P1) (fun i us G' => us = rV (someE es i) ∧ i ≤ 1000) j4 rfl (by rw [hvl]) (by omega) (fun _ _ => ⟨rfl, by decide⟩) (fun i us G2 D _ _ hd h => h) (fun i us G2 h => ?_) ?_ ?_
      · have := someE_len es i; rw [h.1, rV_len]; omega
      · intro i us G' P' H' R R0 hi e' hI hP j' kR kR0
        subst hP
        obtain ⟨e, he⟩ : ∃ e, es[i]? = some e := ⟨_, List.getElem?_eq_getElem hi⟩
        obtain ⟨te, r1, r2⟩ := hv.2 i e he
        replace ht := e' _ _ ht; replace r2 := e' _ _ r2
        (repeat first | ((with_reducible apply Lv.w_seq)) | ((with_reducible apply Lv.w_var); (focus (exact rfl))) | ((with_reducible apply Lv.w_op)) | ((with_reducible apply Lv.w_c)) | ((with_reducible apply Lv.w_cons)) | ((with_reducible apply Lv.w_nil)) | ((with_reducible apply Lv.w_rI0)) | ((with_reducible apply Lv.w_asg)) | ((with_reducible apply Lv.w_name)) | ((with_reducible apply Lv.w_call)) | ((with_reducible apply Lv.w_tof)) | ((with_reducible apply Lv.w_lof)) | ((with_reducible apply Lv.w_abs)) | ((with_reducible apply Lv.w_int1)) | ((with_reducible apply Lv.w_lenv)) | ((with_reducible apply Lv.w_lens)) | ((with_reducible apply Lv.w_cb)) | ((with_reducible apply Lv.w_rabs)) | ((with_reducible apply Lv.w_rint)) | ((with_reducible apply Lv.w_rintb)) | ((with_reducible apply Lv.w_rlenT); (focus (first | assumption | (exact Lv.Join.g (by assumption) _ _ (by assumption))))) | ((with_reducible apply Lv.w_rlenL); (focus (first | assumption | (exact Lv.Join.g (by assumption) _ _ (by assumption))))) | ((with_reducible apply Lv.w_slenT); (focus (first | assumption | (exact Lv.Join.g (by assumption) _ _ (by assumption))))) | ((with_reducible apply Lv.w_slenL); (focus (first | assumption | (exact Lv.Join.g (by assumption) _ _ (by assumption))))) | ((with_reducible apply Lv.w_klenT); (focus (first | assumption | (exact Lv.Join.g (by assumption) _ _ (by assumption))))) | ((with_reducible apply Lv.w_klenL); (focus (first | assumption | (exact Lv.Join.g (by assumption) _ _ (by assumption))))) | ((with_reducible apply Lv.w_bm)) | ((with_reducible apply Lv.w_bm0)) | ((with_reducible apply Lv.w_bml); (focus (first | assumption | (exact Lv.Join.g (by assumption) _ _ (by assumption))))) | ((with_reducible apply Lv.w_tup)) | ((with_reducible apply Lv.w_lst)) | ((with_reducible apply Lv.w_fld)) | ((with_reducible apply Lv.w_un)) | ((with_reducible apply Lv.w_rU)) | ((with_reducible apply Lv.w_ret)) | ((with_reducible apply Lv.w_retN)) | ((with_reducible apply Lv.w_next)) | ((with_reducible apply Lv.w_drop)) | ((with_reducible apply Lv.w_ifS)) | ((with_reducible apply Lv.w_gcons); (focus (exact rfl))) | ((with_reducible apply Lv.w_gnil); (focus (exact rfl))) | ((with_reducible apply Lv.w_gtup); (focus (first | assumption | (exact Lv.Join.g (by assumption) _ _ (by assumption)))); (focus (exact rfl))) | ((with_reducible apply Lv.w_eq); (focus (exact rfl))) | ((with_reducible apply Lv.w_ne); (focus (exact rfl))) | ((with_reducible apply Lv.w_tB)) | ((with_reducible apply Lv.w_test)) | ((with_reducible apply Lv.w_bl)) | ((with_reducible apply Lv.w_and)) | ((with_reducible apply Lv.w_or)) | ((with_reducible apply Lv.w_not)) | ((with_reducible apply Lv.w_andV)) | ((with_reducible apply Lv.w_orV)) | ((with_reducible apply Lv.w_notV)) | ((with_reducible apply Lv.w_ifT)) | ((with_reducible apply Lv.w_ifF)) | ((with_reducible apply Lv.w_ifNT)) | ((with_reducible apply Lv.w_ifNF)) | ((with_reducible apply Lv.w_yes)) | ((with_reducible apply Lv.w_ixT); (focus (first | assumption | (exact Lv.Join.g (by assumption) _ _ (by assumption)))); (focus (exact rfl))) | ((with_reducible apply Lv.w_aug); (focus (exact rfl))) | ((with_reducible apply Lv.w_rAdd)) | ((with_reducible apply Lv.w_rSub)) | ((with_reducible apply Lv.w_lcL)) | ((with_reducible apply Lv.w_lcT)) | ((with_reducible apply Lv.w_lcR)) | ((with_reducible apply Lv.w_sl)) | ((with_reducible apply Lv.w_npart)) | ((with_reducible apply Lv.w_part)) | ((with_reducible apply Lv.w_pint)) | ((with_reducible apply Lv.w_forR)) | ((with_reducible apply Lv.w_forR2)) | ((with_reducible apply Lv.w_par)) | ((with_reducible apply Lv.w_apar)) | ((with_reducible apply Lv.w_lcR2)) | ((with_reducible apply Lv.w_lcE)) | ((with_reducible apply Lv.w_isB)) | ((with_reducible apply Lv.w_isNB)) | ((with_reducible apply Lv.w_forL)) | ((with_reducible apply Lv.w_forT)) | ((with_reducible apply Lv.w_brk)) | ((with_reducible apply Lv.w_cont)) | ((with_reducible apply Lv.w_meth)) | ((with_reducible apply Lv.w_make)))
        refine ⟨rfl, ?_⟩
        (repeat first | ((with_reducible apply Lv.w_seq)) | ((with_reducible apply Lv.w_var); (focus (exact rfl))) | ((with_reducible apply Lv.w_op)) | ((with_reducible apply Lv.w_c)) | ((with_reducible apply Lv.w_cons)) | ((with_reducible apply Lv.w_nil)) | ((with_reducible apply Lv.w_rI0)) | ((with_reducible apply Lv.w_asg)) | ((with_reducible apply Lv.w_name)) | ((with_reducible apply Lv.w_call)) | ((with_reducible apply Lv.w_tof)) | ((with_reducible apply Lv.w_lof)) | ((with_reducible apply Lv.w_abs)) | ((with_reducible apply Lv.w_int1)) | ((with_reducible apply Lv.w_lenv)) | ((with_reducible apply Lv.w_lens)) | ((with_reducible apply Lv.w_cb)) | ((with_reducible apply Lv.w_rabs)) | ((with_reducible apply Lv.w_rint)) | ((with_reducible apply Lv.w_rintb)) | ((with_reducible apply Lv.w_rlenT); (focus (first | assumption | (exact Lv.Join.g (by assumption) _ _ (by assumption))))) | ((with_reducible apply Lv.w_rlenL); (focus (first | assumption | (exact Lv.Join.g (by assumption) _ _ (by assumption))))) | ((with_reducible apply Lv.w_slenT); (focus (first | assumption | (exact Lv.Join.g (by assumption) _ _ (by assumption))))) | ((with_reducible apply Lv.w_slenL); (focus (first | assumption | (exact Lv.Join.g (by assumption) _ _ (by assumption))))) | ((with_reducible apply Lv.w_klenT); (focus (first | assumption | (exact Lv.Join.g (by assumption) _ _ (by assumption))))) | ((with_reducible apply Lv.w_klenL); (focus (first | assumption | (exact Lv.Join.g (by assumption) _ _ (by assumption))))) | ((with_reducible apply Lv.w_bm)) | ((with_reducible apply Lv.w_bm0)) | ((with_reducible apply Lv.w_bml); (focus (first | assumption | (exact Lv.Join.g (by assumption) _ _ (by assumption))))) | ((with_reducible apply Lv.w_tup)) | ((with_reducible apply Lv.w_lst)) | ((with_reducible apply Lv.w_fld)) | ((with_reducible apply Lv.w_un)) | ((with_reducible apply Lv.w_rU)) | ((with_reducible apply Lv.w_ret)) | ((with_reducible apply Lv.w_retN)) | ((with_reducible apply Lv.w_next)) | ((with_reducible apply Lv.w_drop)) | ((with_reducible apply Lv.w_ifS)) | ((with_reducible apply Lv.w_gcons); (focus (exact rfl))) | ((with_reducible apply Lv.w_gnil); (focus (exact rfl))) | ((with_reducible apply Lv.w_gtup); (focus (first | assumption | (exact Lv.Join.g (by assumption) _ _ (by assumption)))); (focus (exact rfl))) | ((with_reducible apply Lv.w_eq); (focus (exact rfl))) | ((with_reducible apply Lv.w_ne); (focus (exact rfl))) | ((with_reducible apply Lv.w_tB)) | ((with_reducible apply Lv.w_test)) | ((with_reducible apply Lv.w_bl)) | ((with_reducible apply Lv.w_and)) | ((with_reducible apply Lv.w_or)) | ((with_reducible apply Lv.w_not)) | ((with_reducible apply Lv.w_andV)) | ((with_reducible apply Lv.w_orV)) | ((with_reducible apply Lv.w_notV)) | ((with_reducible apply Lv.w_ifT)) | ((with_reducible apply Lv.w_ifF)) | ((with_reducible apply Lv.w_ifNT)) | ((with_reducible apply Lv.w_ifNF)) | ((with_reducible apply Lv.w_yes)) | ((with_reducible apply Lv.w_ixT); (focus (first | assumption | (exact Lv.Join.g (by assumption) _ _ (by assumption)))); (focus (exact rfl))) | ((with_reducible apply Lv.w_aug); (focus (exact rfl))) | ((with_reducible apply Lv.w_rAdd)) | ((with_reducible apply Lv.w_rSub)) | ((with_reducible apply Lv.w_lcL)) | ((with_reducible apply Lv.w_lcT)) | ((with_reducible apply Lv.w_lcR)) | ((with_reducible apply Lv.w_sl)) | ((with_reducible apply Lv.w_npart)) | ((with_reducible apply Lv.w_part)) | ((with_reducible apply Lv.w_pint)) | ((with_reducible apply Lv.w_forR)) | ((with_reducible apply Lv.w_forR2)) | ((with_reducible apply Lv.w_par)) | ((with_reducible apply Lv.w_apar)) | ((with_reducible apply Lv.w_lcR2)) | ((with_reducible apply Lv.w_lcE)) | ((with_reducible apply Lv.w_isB)) | ((with_reducible apply Lv.w_isNB)) | ((with_reducible apply Lv.w_forL)) | ((with_reducible apply Lv.w_forT)) | ((with_reducible apply Lv.w_brk)) | ((with_reducible apply Lv.w_cont)) | ((with_reducible apply Lv.w_meth)) | ((with_reducible apply Lv.w_make)))
        refine w_ixT (j'.g _ _ ht) (atI_nat r1) ?_
        (repeat first | ((with_reducible apply Lv.w_seq)) | ((with_reducible apply Lv.w_var); (focus (exact rfl))) | ((with_reducible apply Lv.w_op)) | ((with_reducible apply Lv.w_c)) | ((with_reducible apply Lv.w_cons)) | ((with_reducible apply Lv.w_nil)) | ((with_reducible apply Lv.w_rI0)) | ((with_reducible apply Lv.w_asg)) | ((with_reducible apply Lv.w_name)) | ((with_reducible apply Lv.w_call)) | ((with_reducible apply Lv.w_tof)) | ((with_reducible apply Lv.w_lof)) | ((with_reducible apply Lv.w_abs)) | ((with_reducible apply Lv.w_int1)) | ((with_reducible apply Lv.w_lenv)) | ((with_reducible apply Lv.w_lens)) | ((with_reducible apply Lv.w_cb)) | ((with_reducible apply Lv.w_rabs)) | ((with_reducible apply Lv.w_rint)) | ((with_reducible apply Lv.w_rintb)) | ((with_reducible apply Lv.w_rlenT); (focus (first | assumption | (exact Lv.Join.g (by assumption) _ _ (by assumption))))) | ((with_reducible apply Lv.w_rlenL); (focus (first | assumption | (exact Lv.Join.g (by assumption) _ _ (by assumption))))) | ((with_reducible apply Lv.w_slenT); (focus (first | assumption | (exact Lv.Join.g (by assumption) _ _ (by assumption))))) | ((with_reducible apply Lv.w_slenL); (focus (first | assumption | (exact Lv.Join.g (by assumption) _ _ (by assumption))))) | ((with_reducible apply Lv.w_klenT); (focus (first | assumption | (exact Lv.Join.g (by assumption) _ _ (by assumption))))) | ((with_reducible apply Lv.w_klenL); (focus (first | assumption | (exact Lv.Join.g (by assumption) _ _ (by assumption))))) | ((with_reducible apply Lv.w_bm)) | ((with_reducible apply Lv.w_bm0)) | ((with_reducible apply Lv.w_bml); (focus (first | assumption | (exact Lv.Join.g (by assumption) _ _ (by assumption))))) | ((with_reducible apply Lv.w_tup)) | ((with_reducible apply Lv.w_lst)) | ((with_reducible apply Lv.w_fld)) | ((with_reducible apply Lv.w_un)) | ((with_reducible apply Lv.w_rU)) | ((with_reducible apply Lv.w_ret)) | ((with_reducible apply Lv.w_retN)) | ((with_reducible apply Lv.w_next)) | ((with_reducible apply Lv.w_drop)) | ((with_reducible apply Lv.w_ifS)) | ((with_reducible apply Lv.w_gcons); (focus (exact rfl))) | ((with_reducible apply Lv.w_gnil); (focus (exact rfl))) | ((with_reducible apply Lv.w_gtup); (focus (first | assumption | (exact Lv.Join.g (by assumption) _ _ (by assumption)))); (focus (exact rfl))) | ((with_reducible apply Lv.w_eq); (focus (exact rfl))) | ((with_reducible apply Lv.w_ne); (focus (exact rfl))) | ((with_reducible apply Lv.w_tB)) | ((with_reducible apply Lv.w_test)) | ((with_reducible apply Lv.w_bl)) | ((with_reducible apply Lv.w_and)) | ((with_reducible apply Lv.w_or)) | ((with_reducible apply Lv.w_not)) | ((with_reducible apply Lv.w_andV)) | ((with_reducible apply Lv.w_orV)) | ((with_reducible apply Lv.w_notV)) | ((with_reducible apply Lv.w_ifT)) | ((with_reducible apply Lv.w_ifF)) | ((with_reducible apply Lv.w_ifNT)) | ((with_reducible apply Lv.w_ifNF)) | ((with_reducible apply Lv.w_yes)) | ((with_reducible apply Lv.w_ixT); (focus (first | assumption | (exact Lv.Join.g (by assumption) _ _ (by assumption)))); (focus (exact rfl))) | ((with_reducible apply Lv.w_aug); (focus (exact rfl))) | ((with_reducible apply Lv.w_rAdd)) | ((with_reducible apply Lv.w_rSub)) | ((with_reducible apply Lv.w_lcL)) | ((with_reducible apply Lv.w_lcT)) | ((with_reducible apply Lv.w_lcR)) | ((with_reducible apply Lv.w_sl)) | ((with_reducible apply Lv.w_npart)) | ((with_reducible apply Lv.w_part)) | ((with_reducible apply Lv.w_pint)) | ((with_reducible apply Lv.w_forR)) | ((with_reducible apply Lv.w_forR2)) | ((with_reducible apply Lv.w_par)) | ((with_reducible apply Lv.w_apar)) | ((with_reducible apply Lv.w_lcR2)) | ((with_reducible apply Lv.w_lcE)) | ((with_reducible apply Lv.w_isB)) | ((with_reducible apply Lv.w_isNB)) | ((with_reducible apply Lv.w_forL)) | ((with_reducible apply Lv.w_forT)) | ((with_reducible apply Lv.w_brk)) | ((with_reducible apply Lv.w_cont)) | ((with_reducible apply Lv.w_meth)) | ((with_reducible apply Lv.w_make)))
        have hg : ((es[i]?).map Ev.w).getD 0 = e.w := by rw [he]; rfl
        by_cases h1 : 1 < e.w
        · refine itT h1 ?_
          (repeat first | ((with_reducible apply Lv.w_seq)) | ((with_reducible apply Lv.w_var); (focus (exact rfl))) | ((with_reducible apply Lv.w_op)) | ((with_reducible apply Lv.w_c)) | ((with_reducible apply Lv.w_cons)) | ((with_reducible apply Lv.w_nil)) | ((with_reducible apply Lv.w_rI0)) | ((with_reducible apply Lv.w_asg)) | ((with_reducible apply Lv.w_name)) | ((with_reducible apply Lv.w_call)) | ((with_reducible apply Lv.w_tof)) | ((with_reducible apply Lv.w_lof)) | ((with_reducible apply Lv.w_abs)) | ((with_reducible apply Lv.w_int1)) | ((with_reducible apply Lv.w_lenv)) | ((with_reducible apply Lv.w_lens)) | ((with_reducible apply Lv.w_cb)) | ((with_reducible apply Lv.w_rabs)) | ((with_reducible apply Lv.w_rint)) | ((with_reducible apply Lv.w_rintb)) | ((with_reducible apply Lv.w_rlenT); (focus (first | assumption | (exact Lv.Join.g (by assumption) _ _ (by assumption))))) | ((with_reducible apply Lv.w_rlenL); (focus (first | assumption | (exact Lv.Join.g (by assumption) _ _ (by assumption))))) | ((with_reducible apply Lv.w_slenT); (focus (first | assumption | (exact Lv.Join.g (by assumption) _ _ (by assumption))))) | ((with_reducible apply Lv.w_slenL); (focus (first | assumption | (exact Lv.Join.g (by assumption) _ _ (by assumption))))) | ((with_reducible apply Lv.w_klenT); (focus (first | assumption | (exact Lv.Join.g (by assumption) _ _ (by assumption))))) | ((with_reducible apply Lv.w_klenL); (focus (first | assumption | (exact Lv.Join.g (by assumption) _ _ (by assumption))))) | ((with_reducible apply Lv.w_bm)) | ((with_reducible apply Lv.w_bm0)) | ((with_reducible apply Lv.w_bml); (focus (first | assumption | (exact Lv.Join.g (by assumption) _ _ (by assumption))))) | ((with_reducible apply Lv.w_tup)) | ((with_reducible apply Lv.w_lst)) | ((with_reducible apply Lv.w_fld)) | ((with_reducible apply Lv.w_un)) | ((with_reducible apply Lv.w_rU)) | ((with_reducible apply Lv.w_ret)) | ((with_reducible apply Lv.w_retN)) | ((with_reducible apply Lv.w_next)) | ((with_reducible apply Lv.w_drop)) | ((with_reducible apply Lv.w_ifS)) | ((with_reducible apply Lv.w_gcons); (focus (exact rfl))) | ((with_reducible apply Lv.w_gnil); (focus (exact rfl))) | ((with_reducible apply Lv.w_gtup); (focus (first | assumption | (exact Lv.Join.g (by assumption) _ _ (by assumption)))); (focus (exact rfl))) | ((with_reducible apply Lv.w_eq); (focus (exact rfl))) | ((with_reducible apply Lv.w_ne); (focus (exact rfl))) | ((with_reducible apply Lv.w_tB)) | ((with_reducible apply Lv.w_test)) | ((with_reducible apply Lv.w_bl)) | ((with_reducible apply Lv.w_and)) | ((with_reducible apply Lv.w_or)) | ((with_reducible apply Lv.w_not)) | ((with_reducible apply Lv.w_andV)) | ((with_reducible apply Lv.w_orV)) | ((with_reducible apply Lv.w_notV)) | ((with_reducible apply Lv.w_ifT)) | ((with_reducible apply Lv.w_ifF)) | ((with_reducible apply Lv.w_ifNT)) | ((with_reducible apply Lv.w_ifNF)) | ((with_reducible apply Lv.w_yes)) | ((with_reducible apply Lv.w_ixT); (focus (first | assumption | (exact Lv.Join.g (by assumption) _ _ (by assumption)))); (focus (exact rfl))) | ((with_reducible apply Lv.w_aug); (focus (exact rfl))) | ((with_reducible apply Lv.w_rAdd)) | ((with_reducible apply Lv.w_rSub)) | ((with_reducible apply Lv.w_lcL)) | ((with_reducible apply Lv.w_lcT)) | ((with_reducible apply Lv.w_lcR)) | ((with_reducible apply Lv.w_sl)) | ((with_reducible apply Lv.w_npart)) | ((with_reducible apply Lv.w_part)) | ((with_reducible apply Lv.w_pint)) | ((with_reducible apply Lv.w_forR)) | ((with_reducible apply Lv.w_forR2)) | ((with_reducible apply Lv.w_par)) | ((with_reducible apply Lv.w_apar)) | ((with_reducible apply Lv.w_lcR2)) | ((with_reducible apply Lv.w_lcE)) | ((with_reducible apply Lv.w_isB)) | ((with_reducible apply Lv.w_isNB)) | ((with_reducible apply Lv.w_forL)) | ((with_reducible apply Lv.w_forT)) | ((with_reducible apply Lv.w_brk)) | ((with_reducible apply Lv.w_cont)) | ((with_reducible apply Lv.w_meth)) | ((with_reducible apply Lv.w_make)))
          refine kR _ _ _ H' (Ex.refl _) rfl j' ?_
          refine ⟨?_, by omega⟩
          rw [hI.1, someE_more, if_pos (by rw [hg]; exact h1), rV_app]; rfl
        · refine itF h1 ?_
          refine kR0 _ _ H' (Ex.refl _) rfl j' ?_
          refine ⟨?_, by omega⟩
          rw [hI.1, someE_more, if_neg (by rw [hg]; exact h1), List.append_nil]
      intro sm us G5 P' H6 hsm e5 hGs hI hP j5
      subst hP
      replace hI := hI.1
      subst hI
      replace ht := e5 _ _ ht; replace hv := hv.mono e5; replace hMK := hMK.mono e5
      clear e5 j4
      (repeat first | ((with_reducible apply Lv.w_seq)) | ((with_reducible apply Lv.w_var); (focus (exact rfl))) | ((with_reducible apply Lv.w_op)) | ((with_reducible apply Lv.w_c)) | ((with_reducible apply Lv.w_cons)) | ((with_reducible apply Lv.w_nil)) | ((with_reducible apply Lv.w_rI0)) | ((with_reducible apply Lv.w_asg)) | ((with_reducible apply Lv.w_name)) | ((with_reducible apply Lv.w_call)) | ((with_reducible apply Lv.w_tof)) | ((with_reducible apply Lv.w_lof)) | ((with_reducible apply Lv.w_abs)) | ((with_reducible apply Lv.w_int1)) | ((with_reducible apply Lv.w_lenv)) | ((with_reducible apply Lv.w_lens)) | ((with_reducible apply Lv.w_cb)) | ((with_reducible apply Lv.w_rabs)) | ((with_reducible apply Lv.w_rint)) | ((with_reducible apply Lv.w_rintb)) | ((with_reducible apply Lv.w_rlenT); (focus (first | assumption | (exact Lv.Join.g (by assumption) _ _ (by assumption))))) | ((with_reducible apply Lv.w_rlenL); (focus (first | assumption | (exact Lv.Join.g (by assumption) _ _ (by assumption))))) | ((with_reducible apply Lv.w_slenT); (focus (first | assumption | (exact Lv.Join.g (by assumption) _ _ (by assumption))))) | ((with_reducible apply Lv.w_slenL); (focus (first | assumption | (exact Lv.Join.g (by assumption) _ _ (by assumption))))) | ((with_reducible apply Lv.w_klenT); (focus (first | assumption | (exact Lv.Join.g (by assumption) _ _ (by assumption))))) | ((with_reducible apply Lv.w_klenL); (focus (first | assumption | (exact Lv.Join.g (by assumption) _ _ (by assumption))))) | ((with_reducible apply Lv.w_bm)) | ((with_reducible apply Lv.w_bm0)) | ((with_reducible apply Lv.w_bml); (focus (first | assumption | (exact Lv.Join.g (by assumption) _ _ (by assumption))))) | ((with_reducible apply Lv.w_tup)) | ((with_reducible apply Lv.w_lst)) | ((with_reducible apply Lv.w_fld)) | ((with_reducible apply Lv.w_un)) | ((with_reducible apply Lv.w_rU)) | ((with_reducible apply Lv.w_ret)) | ((with_reducible apply Lv.w_retN)) | ((with_reducible apply Lv.w_next)) | ((with_reducible apply Lv.w_drop)) | ((with_reducible apply Lv.w_ifS)) | ((with_reducible apply Lv.w_gcons); (focus (exact rfl))) | ((with_reducible apply Lv.w_gnil); (focus (exact rfl))) | ((with_reducible apply Lv.w_gtup); (focus (first | assumption | (exact Lv.Join.g (by assumption) _ _ (by assumption)))); (focus (exact rfl))) | ((with_reducible apply Lv.w_eq); (focus (exact rfl))) | ((with_reducible apply Lv.w_ne); (focus (exact rfl))) | ((with_reducible apply Lv.w_tB)) | ((with_reducible apply Lv.w_test)) | ((with_reducible apply Lv.w_bl)) | ((with_reducible apply Lv.w_and)) | ((with_reducible apply Lv.w_or)) | ((with_reducible apply Lv.w_not)) | ((with_reducible apply Lv.w_andV)) | ((with_reducible apply Lv.w_orV)) | ((with_reducible apply Lv.w_notV)) | ((with_reducible apply Lv.w_ifT)) | ((with_reducible apply Lv.w_ifF)) | ((with_reducible apply Lv.w_ifNT)) | ((with_reducible apply Lv.w_ifNF)) | ((with_reducible apply Lv.w_yes)) | ((with_reducible apply Lv.w_ixT); (focus (first | assumption | (exact Lv.Join.g (by assumption) _ _ (by assumption)))); (focus (exact rfl))) | ((with_reducible apply Lv.w_aug); (focus (exact rfl))) | ((with_reducible apply Lv.w_rAdd)) | ((with_reducible apply Lv.w_rSub)) | ((with_reducible apply Lv.w_lcL)) | ((with_reducible apply Lv.w_lcT)) | ((with_reducible apply Lv.w_lcR)) | ((with_reducible apply Lv.w_sl)) | ((with_reducible apply Lv.w_npart)) | ((with_reducible apply Lv.w_part)) | ((with_reducible apply Lv.w_pint)) | ((with_reducible apply Lv.w_forR)) | ((with_reducible apply Lv.w_forR2)) | ((with_reducible apply Lv.w_par)) | ((with_reducible apply Lv.w_apar)) | ((with_reducible apply Lv.w_lcR2)) | ((with_reducible apply Lv.w_lcE)) | ((with_reducible apply Lv.w_isB)) | ((with_reducible apply Lv.w_isNB)) | ((with_reducible apply Lv.w_forL)) | ((with_reducible apply Lv.w_forT)) | ((with_reducible apply Lv.w_brk)) | ((with_reducible apply Lv.w_cont)) | ((with_reducible apply Lv.w_meth)) | ((with_reducible apply Lv.w_make)))
      have hsl := someE_len es es.length
      by_cases h0 : (0 : Int) < ((rV (someE es es.length)).length : Int)
      · refine itT h0 ?_
        (repeat first | ((with_reducible apply Lv.w_seq)) | ((with_reducible apply Lv.w_var); (focus (exact rfl))) | ((with_reducible apply Lv.w_op)) | ((with_reducible apply Lv.w_c)) | ((with_reducible apply Lv.w_cons)) | ((with_reducible apply Lv.w_nil)) | ((with_reducible apply Lv.w_rI0)) | ((with_reducible apply Lv.w_asg)) | ((with_reducible apply Lv.w_name)) | ((with_reducible apply Lv.w_call)) | ((with_reducible apply Lv.w_tof)) | ((with_reducible apply Lv.w_lof)) | ((with_reducible apply Lv.w_abs)) | ((with_reducible apply Lv.w_int1)) | ((with_reducible apply Lv.w_lenv)) | ((with_reducible apply Lv.w_lens)) | ((with_reducible apply Lv.w_cb)) | ((with_reducible apply Lv.w_rabs)) | ((with_reducible apply Lv.w_rint)) | ((with_reducible apply Lv.w_rintb)) | ((with_reducible apply Lv.w_rlenT); (focus (first | assumption | (exact Lv.Join.g (by assumption) _ _ (by assumption))))) | ((with_reducible apply Lv.w_rlenL); (focus (first | assumption | (exact Lv.Join.g (by assumption) _ _ (by assumption))))) | ((with_reducible apply Lv.w_slenT); (focus (first | assumption | (exact Lv.Join.g (by assumption) _ _ (by assumption))))) | ((with_reducible apply Lv.w_slenL); (focus (first | assumption | (exact Lv.Join.g (by assumption) _ _ (by assumption))))) | ((with_reducible apply Lv.w_klenT); (focus (first | assumption | (exact Lv.Join.g (by assumption) _ _ (by assumption))))) | ((with_reducible apply Lv.w_klenL); (focus (first | assumption | (exact Lv.Join.g (by assumption) _ _ (by assumption))))) | ((with_reducible apply Lv.w_bm)) | ((with_reducible apply Lv.w_bm0)) | ((with_reducible apply Lv.w_bml); (focus (first | assumption | (exact Lv.Join.g (by assumption) _ _ (by assumption))))) | ((with_reducible apply Lv.w_tup)) | ((with_reducible apply Lv.w_lst)) | ((with_reducible apply Lv.w_fld)) | ((with_reducible apply Lv.w_un)) | ((with_reducible apply Lv.w_rU)) | ((with_reducible apply Lv.w_ret)) | ((with_reducible apply Lv.w_retN)) | ((with_reducible apply Lv.w_next)) | ((with_reducible apply Lv.w_drop)) | ((with_reducible apply Lv.w_ifS)) | ((with_reducible apply Lv.w_gcons); (focus (exact rfl))) | ((with_reducible apply Lv.w_gnil); (focus (exact rfl))) | ((with_reducible apply Lv.w_gtup); (focus (first | assumption | (exact Lv.Join.g (by assumption) _ _ (by assumption)))); (focus (exact rfl))) | ((with_reducible apply Lv.w_eq); (focus (exact rfl))) | ((with_reducible apply Lv.w_ne); (focus (exact rfl))) | ((with_reducible apply Lv.w_tB)) | ((with_reducible apply Lv.w_test)) | ((with_reducible apply Lv.w_bl)) | ((with_reducible apply Lv.w_and)) | ((with_reducible apply Lv.w_or)) | ((with_reducible apply Lv.w_not)) | ((with_reducible apply Lv.w_andV)) | ((with_reducible apply Lv.w_orV)) | ((with_reducible apply Lv.w_notV)) | ((with_reducible apply Lv.w_ifT)) | ((with_reducible apply Lv.w_ifF)) | ((with_reducible apply Lv.w_ifNT)) | ((with_reducible apply Lv.w_ifNF)) | ((with_reducible apply Lv.w_yes)) | ((with_reducible apply Lv.w_ixT); (focus (first | assumption | (exact Lv.Join.g (by assumption) _ _ (by assumption)))); (focus (exact rfl))) | ((with_reducible apply Lv.w_aug); (focus (exact rfl))) | ((with_reducible apply Lv.w_rAdd)) | ((with_reducible apply Lv.w_rSub)) | ((with_reducible apply Lv.w_lcL)) | ((with_reducible apply Lv.w_lcT)) | ((with_reducible apply Lv.w_lcR)) | ((with_reducible apply Lv.w_sl)) | ((with_reducible apply Lv.w_npart)) | ((with_reducible apply Lv.w_part)) | ((with_reducible apply Lv.w_pint)) | ((with_reducible apply Lv.w_forR)) | ((with_reducible apply Lv.w_forR2)) | ((with_reducible apply Lv.w_par)) | ((with_reducible apply Lv.w_apar)) | ((with_reducible apply Lv.w_lcR2)) | ((with_reducible apply Lv.w_lcE)) | ((with_reducible apply Lv.w_isB)) | ((with_reducible apply Lv.w_isNB)) | ((with_reducible apply Lv.w_forL)) | ((with_reducible apply Lv.w_forT)) | ((with_reducible apply Lv.w_brk)) | ((with_reducible apply Lv.w_cont)) | ((with_reducible apply Lv.w_meth)) | ((with_reducible apply Lv.w_make)))
        refine ⟨l, _, G5, _, rfl, j5, hP, h0, by rw [rV_len]; exact Int.lt_of_le_of_lt (b := 100) (by omega) (by decide), fun d P6 H7 d0 d1 j6 hP6 => ?_⟩
        rw [rV_len] at d1
        obtain ⟨kk, hkk⟩ : ∃ kk, (someE es es.length)[d.toNat]? = some kk := ⟨_, List.getElem?_eq_getElem (by omega)⟩
        have hmem := List.mem_of_getElem? hkk
        obtain ⟨hm1, hm2⟩ := List.mem_filter.mp hmem
        have hkl := List.mem_range.mp hm1
        obtain ⟨e, he⟩ : ∃ e, es[kk]? = some e := ⟨_, List.getElem?_eq_getElem hkl⟩
        have hew : 1 < e.w := by
          have := of_decide_eq_true hm2
          rw [he] at this; exact this
        obtain ⟨b1, b2, b3, b4, b5, b6, b7, b8⟩ := hes e (List.mem_of_getElem? he)
        obtain ⟨te, r1, r2⟩ := hv.2 kk e he
        clear hmem hm1 hm2 j5 hP
        (repeat first | ((with_reducible apply Lv.w_seq)) | ((with_reducible apply Lv.w_var); (focus (exact rfl))) | ((with_reducible apply Lv.w_op)) | ((with_reducible apply Lv.w_c)) | ((with_reducible apply Lv.w_cons)) | ((with_reducible apply Lv.w_nil)) | ((with_reducible apply Lv.w_rI0)) | ((with_reducible apply Lv.w_asg)) | ((with_reducible apply Lv.w_name)) | ((with_reducible apply Lv.w_call)) | ((with_reducible apply Lv.w_tof)) | ((with_reducible apply Lv.w_lof)) | ((with_reducible apply Lv.w_abs)) | ((with_reducible apply Lv.w_int1)) | ((with_reducible apply Lv.w_lenv)) | ((with_reducible apply Lv.w_lens)) | ((with_reducible apply Lv.w_cb)) | ((with_reducible apply Lv.w_rabs)) | ((with_reducible apply Lv.w_rint)) | ((with_reducible apply Lv.w_rintb)) | ((with_reducible apply Lv.w_rlenT); (focus (first | assumption | (exact Lv.Join.g (by assumption) _ _ (by assumption))))) | ((with_reducible apply Lv.w_rlenL); (focus (first | assumption | (exact Lv.Join.g (by assumption) _ _ (by assumption))))) | ((with_reducible apply Lv.w_slenT); (focus (first | assumption | (exact Lv.Join.g (by assumption) _ _ (by assumption))))) | ((with_reducible apply Lv.w_slenL); (focus (first | assumption | (exact Lv.Join.g (by assumption) _ _ (by assumption))))) | ((with_reducible apply Lv.w_klenT); (focus (first | assumption | (exact Lv.Join.g (by assumption) _ _ (by assumption))))) | ((with_reducible apply Lv.w_klenL); (focus (first | assumption | (exact Lv.Join.g (by assumption) _ _ (by assumption))))) | ((with_reducible apply Lv.w_bm)) | ((with_reducible apply Lv.w_bm0)) | ((with_reducible apply Lv.w_bml); (focus (first | assumption | (exact Lv.Join.g (by assumption) _ _ (by assumption))))) | ((with_reducible apply Lv.w_tup)) | ((with_reducible apply Lv.w_lst)) | ((with_reducible apply Lv.w_fld)) | ((with_reducible apply Lv.w_un)) | ((with_reducible apply Lv.w_rU)) | ((with_reducible apply Lv.w_ret)) | ((with_reducible apply Lv.w_retN)) | ((with_reducible apply Lv.w_next)) | ((with_reducible apply Lv.w_drop)) | ((with_reducible apply Lv.w_ifS)) | ((with_reducible apply Lv.w_gcons); (focus (exact rfl))) | ((with_reducible apply Lv.w_gnil); (focus (exact rfl))) | ((with_reducible apply Lv.w_gtup); (focus (first | assumption | (exact Lv.Join.g (by assumption) _ _ (by assumption)))); (focus (exact rfl))) | ((with_reducible apply Lv.w_eq); (focus (exact rfl))) | ((with_reducible apply Lv.w_ne); (focus (exact rfl))) | ((with_reducible apply Lv.w_tB)) | ((with_reducible apply Lv.w_test)) | ((with_reducible apply Lv.w_bl)) | ((with_reducible apply Lv.w_and)) | ((with_reducible apply Lv.w_or)) | ((with_reducible apply Lv.w_not)) | ((with_reducible apply Lv.w_andV)) | ((with_reducible apply Lv.w_orV)) | ((with_reducible apply Lv.w_notV)) | ((with_reducible apply Lv.w_ifT)) | ((with_reducible apply Lv.w_ifF)) | ((with_reducible apply Lv.w_ifNT)) | ((with_reducible apply Lv.w_ifNF)) | ((with_reducible apply Lv.w_yes)) | ((with_reducible apply Lv.w_ixT); (focus (first | assumption | (exact Lv.Join.g (by assumption) _ _ (by assumption)))); (focus (exact rfl))) | ((with_reducible apply Lv.w_aug); (focus (exact rfl))) | ((with_reducible apply Lv.w_rAdd)) | ((with_reducible apply Lv.w_rSub)) | ((with_reducible apply Lv.w_lcL)) | ((with_reducible apply Lv.w_lcT)) | ((with_reducible apply Lv.w_lcR)) | ((with_reducible apply Lv.w_sl)) | ((with_reducible apply Lv.w_npart)) | ((with_reducible apply Lv.w_part)) | ((with_reducible apply Lv.w_pint)) | ((with_reducible apply Lv.w_forR)) | ((with_reducible apply Lv.w_forR2)) | ((with_reducible apply Lv.w_par)) | ((with_reducible apply Lv.w_apar)) | ((with_reducible apply Lv.w_lcR2)) | ((with_reducible apply Lv.w_lcE)) | ((with_reducible apply Lv.w_isB)) | ((with_reducible apply Lv.w_isNB)) | ((with_reducible apply Lv.w_forL)) | ((with_reducible apply Lv.w_forT)) | ((with_reducible apply Lv.w_brk)) | ((with_reducible apply Lv.w_cont)) | ((with_reducible apply Lv.w_meth)) | ((with_reducible apply Lv.w_make)))
        refine w_ixL (j6.g _ _ hGs) (atI_int d0 (v := .int (kk : Int)) (by rw [rV, List.getElem?_map, hkk]; rfl)) ?_
        (repeat first | ((with_reducible apply Lv.w_seq)) | ((with_reducible apply Lv.w_var); (focus (exact rfl))) | ((with_reducible apply Lv.w_op)) | ((with_reducible apply Lv.w_c)) | ((with_reducible apply Lv.w_cons)) | ((with_reducible apply Lv.w_nil)) | ((with_reducible apply Lv.w_rI0)) | ((with_reducible apply Lv.w_asg)) | ((with_reducible apply Lv.w_name)) | ((with_reducible apply Lv.w_call)) | ((with_reducible apply Lv.w_tof)) | ((with_reducible apply Lv.w_lof)) | ((with_reducible apply Lv.w_abs)) | ((with_reducible apply Lv.w_int1)) | ((with_reducible apply Lv.w_lenv)) | ((with_reducible apply Lv.w_lens)) | ((with_reducible apply Lv.w_cb)) | ((with_reducible apply Lv.w_rabs)) | ((with_reducible apply Lv.w_rint)) | ((with_reducible apply Lv.w_rintb)) | ((with_reducible apply Lv.w_rlenT); (focus (first | assumption | (exact Lv.Join.g (by assumption) _ _ (by assumption))))) | ((with_reducible apply Lv.w_rlenL); (focus (first | assumption | (exact Lv.Join.g (by assumption) _ _ (by assumption))))) | ((with_reducible apply Lv.w_slenT); (focus (first | assumption | (exact Lv.Join.g (by assumption) _ _ (by assumption))))) | ((with_reducible apply Lv.w_slenL); (focus (first | assumption | (exact Lv.Join.g (by assumption) _ _ (by assumption))))) | ((with_reducible apply Lv.w_klenT); (focus (first | assumption | (exact Lv.Join.g (by assumption) _ _ (by assumption))))) | ((with_reducible apply Lv.w_klenL); (focus (first | assumption | (exact Lv.Join.g (by assumption) _ _ (by assumption))))) | ((with_reducible apply Lv.w_bm)) | ((with_reducible apply Lv.w_bm0)) | ((with_reducible apply Lv.w_bml); (focus (first | assumption | (exact Lv.Join.g (by assumption) _ _ (by assumption))))) | ((with_reducible apply Lv.w_tup)) | ((with_reducible apply Lv.w_lst)) | ((with_reducible apply Lv.w_fld)) | ((with_reducible apply Lv.w_un)) | ((with_reducible apply Lv.w_rU)) | ((with_reducible apply Lv.w_ret)) | ((with_reducible apply Lv.w_retN)) | ((with_reducible apply Lv.w_next)) | ((with_reducible apply Lv.w_drop)) | ((with_reducible apply Lv.w_ifS)) | ((with_reducible apply Lv.w_gcons); (focus (exact rfl))) | ((with_reducible apply Lv.w_gnil); (focus (exact rfl))) | ((with_reducible apply Lv.w_gtup); (focus (first | assumption | (exact Lv.Join.g (by assumption) _ _ (by assumption)))); (focus (exact rfl))) | ((with_reducible apply Lv.w_eq); (focus (exact rfl))) | ((with_reducible apply Lv.w_ne); (focus (exact rfl))) | ((with_reducible apply Lv.w_tB)) | ((with_reducible apply Lv.w_test)) | ((with_reducible apply Lv.w_bl)) | ((with_reducible apply Lv.w_and)) | ((with_reducible apply Lv.w_or)) | ((with_reducible apply Lv.w_not)) | ((with_reducible apply Lv.w_andV)) | ((with_reducible apply Lv.w_orV)) | ((with_reducible apply Lv.w_notV)) | ((with_reducible apply Lv.w_ifT)) | ((with_reducible apply Lv.w_ifF)) | ((with_reducible apply Lv.w_ifNT)) | ((with_reducible apply Lv.w_ifNF)) | ((with_reducible apply Lv.w_yes)) | ((with_reducible apply Lv.w_ixT); (focus (first | assumption | (exact Lv.Join.g (by assumption) _ _ (by assumption)))); (focus (exact rfl))) | ((with_reducible apply Lv.w_aug); (focus (exact rfl))) | ((with_reducible apply Lv.w_rAdd)) | ((with_reducible apply Lv.w_rSub)) | ((with_reducible apply Lv.w_lcL)) | ((with_reducible apply Lv.w_lcT)) | ((with_reducible apply Lv.w_lcR)) | ((with_reducible apply Lv.w_sl)) | ((with_reducible apply Lv.w_npart)) | ((with_reducible apply Lv.w_part)) | ((with_reducible apply Lv.w_pint)) | ((with_reducible apply Lv.w_forR)) | ((with_reducible apply Lv.w_forR2)) | ((with_reducible apply Lv.w_par)) | ((with_reducible apply Lv.w_apar)) | ((with_reducible apply Lv.w_lcR2)) | ((with_reducible apply Lv.w_lcE)) | ((with_reducible apply Lv.w_isB)) | ((with_reducible apply Lv.w_isNB)) | ((with_reducible apply Lv.w_forL)) | ((with_reducible apply Lv.w_forT)) | ((with_reducible apply Lv.w_brk)) | ((with_reducible apply Lv.w_cont)) | ((with_reducible apply Lv.w_meth)) | ((with_reducible apply Lv.w_make)))
        refine w_ixT (j6.g _ _ ht) (atI_nat r1) ?_
        (repeat first | ((with_reducible apply Lv.w_seq)) | ((with_reducible apply Lv.w_var); (focus (exact rfl))) | ((with_reducible apply Lv.w_op)) | ((with_reducible apply Lv.w_c)) | ((with_reducible apply Lv.w_cons)) | ((with_reducible apply Lv.w_nil)) | ((with_reducible apply Lv.w_rI0)) | ((with_reducible apply Lv.w_asg)) | ((with_reducible apply Lv.w_name)) | ((with_reducible apply Lv.w_call)) | ((with_reducible apply Lv.w_tof)) | ((with_reducible apply Lv.w_lof)) | ((with_reducible apply Lv.w_abs)) | ((with_reducible apply Lv.w_int1)) | ((with_reducible apply Lv.w_lenv)) | ((with_reducible apply Lv.w_lens)) | ((with_reducible apply Lv.w_cb)) | ((with_reducible apply Lv.w_rabs)) | ((with_reducible apply Lv.w_rint)) | ((with_reducible apply Lv.w_rintb)) | ((with_reducible apply Lv.w_rlenT); (focus (first | assumption | (exact Lv.Join.g (by assumption) _ _ (by assumption))))) | ((with_reducible apply Lv.w_rlenL); (focus (first | assumption | (exact Lv.Join.g (by assumption) _ _ (by assumption))))) | ((with_reducible apply Lv.w_slenT); (focus (first | assumption | (exact Lv.Join.g (by assumption) _ _ (by assumption))))) | ((with_reducible apply Lv.w_slenL); (focus (first | assumption | (exact Lv.Join.g (by assumption) _ _ (by assumption))))) | ((with_reducible apply Lv.w_klenT); (focus (first | assumption | (exact Lv.Join.g (by assumption) _ _ (by assumption))))) | ((with_reducible apply Lv.w_klenL); (focus (first | assumption | (exact Lv.Join.g (by assumption) _ _ (by assumption))))) | ((with_reducible apply Lv.w_bm)) | ((with_reducible apply Lv.w_bm0)) | ((with_reducible apply Lv.w_bml); (focus (first | assumption | (exact Lv.Join.g (by assumption) _ _ (by assumption))))) | ((with_reducible apply Lv.w_tup)) | ((with_reducible apply Lv.w_lst)) | ((with_reducible apply Lv.w_fld)) | ((with_reducible apply Lv.w_un)) | ((with_reducible apply Lv.w_rU)) | ((with_reducible apply Lv.w_ret)) | ((with_reducible apply Lv.w_retN)) | ((with_reducible apply Lv.w_next)) | ((with_reducible apply Lv.w_drop)) | ((with_reducible apply Lv.w_ifS)) | ((with_reducible apply Lv.w_gcons); (focus (exact rfl))) | ((with_reducible apply Lv.w_gnil); (focus (exact rfl))) | ((with_reducible apply Lv.w_gtup); (focus (first | assumption | (exact Lv.Join.g (by assumption) _ _ (by assumption)))); (focus (exact rfl))) | ((with_reducible apply Lv.w_eq); (focus (exact rfl))) | ((with_reducible apply Lv.w_ne); (focus (exact rfl))) | ((with_reducible apply Lv.w_tB)) | ((with_reducible apply Lv.w_test)) | ((with_reducible apply Lv.w_bl)) | ((with_reducible apply Lv.w_and)) | ((with_reducible apply Lv.w_or)) | ((with_reducible apply Lv.w_not)) | ((with_reducible apply Lv.w_andV)) | ((with_reducible apply Lv.w_orV)) | ((with_reducible apply Lv.w_notV)) | ((with_reducible apply Lv.w_ifT)) | ((with_reducible apply Lv.w_ifF)) | ((with_reducible apply Lv.w_ifNT)) | ((with_reducible apply Lv.w_ifNF)) | ((with_reducible apply Lv.w_yes)) | ((with_reducible apply Lv.w_ixT); (focus (first | assumption | (exact Lv.Join.g (by assumption) _ _ (by assumption)))); (focus (exact rfl))) | ((with_reducible apply Lv.w_aug); (focus (exact rfl))) | ((with_reducible apply Lv.w_rAdd)) | ((with_reducible apply Lv.w_rSub)) | ((with_reducible apply Lv.w_lcL)) | ((with_reducible apply Lv.w_lcT)) | ((with_reducible apply Lv.w_lcR)) | ((with_reducible apply Lv.w_sl)) | ((with_reducible apply Lv.w_npart)) | ((with_reducible apply Lv.w_part)) | ((with_reducible apply Lv.w_pint)) | ((with_reducible apply Lv.w_forR)) | ((with_reducible apply Lv.w_forR2)) | ((with_reducible apply Lv.w_par)) | ((with_reducible apply Lv.w_apar)) | ((with_reducible apply Lv.w_lcR2)) | ((with_reducible apply Lv.w_lcE)) | ((with_reducible apply Lv.w_isB)) | ((with_reducible apply Lv.w_isNB)) | ((with_reducible apply Lv.w_forL)) | ((with_reducible apply Lv.w_forT)) | ((with_reducible apply Lv.w_brk)) | ((with_reducible apply Lv.w_cont)) | ((with_reducible apply Lv.w_meth)) | ((with_reducible apply Lv.w_make)))
        refine ⟨l, _, G5, P6, rfl, j6, hP6, by omega, Int.lt_of_le_of_lt (b := 100) (by omega) (by decide), fun f P7 H8 f0 f1 j7 hP7 => ?_⟩
        clear j6 hP6
        have hcp : CPow 10 20 := ⟨by decide, by decide, by decide⟩
        (repeat first | ((with_reducible apply Lv.w_seq)) | ((with_reducible apply Lv.w_var); (focus (exact rfl))) | ((with_reducible apply Lv.w_op)) | ((with_reducible apply Lv.w_c)) | ((with_reducible apply Lv.w_cons)) | ((with_reducible apply Lv.w_nil)) | ((with_reducible apply Lv.w_rI0)) | ((with_reducible apply Lv.w_asg)) | ((with_reducible apply Lv.w_name)) | ((with_reducible apply Lv.w_call)) | ((with_reducible apply Lv.w_tof)) | ((with_reducible apply Lv.w_lof)) | ((with_reducible apply Lv.w_abs)) | ((with_reducible apply Lv.w_int1)) | ((with_reducible apply Lv.w_lenv)) | ((with_reducible apply Lv.w_lens)) | ((with_reducible apply Lv.w_cb)) | ((with_reducible apply Lv.w_rabs)) | ((with_reducible apply Lv.w_rint)) | ((with_reducible apply Lv.w_rintb)) | ((with_reducible apply Lv.w_rlenT); (focus (first | assumption | (exact Lv.Join.g (by assumption) _ _ (by assumption))))) | ((with_reducible apply Lv.w_rlenL); (focus (first | assumption | (exact Lv.Join.g (by assumption) _ _ (by assumption))))) | ((with_reducible apply Lv.w_slenT); (focus (first | assumption | (exact Lv.Join.g (by assumption) _ _ (by assumption))))) | ((with_reducible apply Lv.w_slenL); (focus (first | assumption | (exact Lv.Join.g (by assumption) _ _ (by assumption))))) | ((with_reducible apply Lv.w_klenT); (focus (first | assumption | (exact Lv.Join.g (by assumption) _ _ (by assumption))))) | ((with_reducible apply Lv.w_klenL); (focus (first | assumption | (exact Lv.Join.g (by assumption) _ _ (by assumption))))) | ((with_reducible apply Lv.w_bm)) | ((with_reducible apply Lv.w_bm0)) | ((with_reducible apply Lv.w_bml); (focus (first | assumption | (exact Lv.Join.g (by assumption) _ _ (by assumption))))) | ((with_reducible apply Lv.w_tup)) | ((with_reducible apply Lv.w_lst)) | ((with_reducible apply Lv.w_fld)) | ((with_reducible apply Lv.w_un)) | ((with_reducible apply Lv.w_rU)) | ((with_reducible apply Lv.w_ret)) | ((with_reducible apply Lv.w_retN)) | ((with_reducible apply Lv.w_next)) | ((with_reducible apply Lv.w_drop)) | ((with_reducible apply Lv.w_ifS)) | ((with_reducible apply Lv.w_gcons); (focus (exact rfl))) | ((with_reducible apply Lv.w_gnil); (focus (exact rfl))) | ((with_reducible apply Lv.w_gtup); (focus (first | assumption | (exact Lv.Join.g (by assumption) _ _ (by assumption)))); (focus (exact rfl))) | ((with_reducible apply Lv.w_eq); (focus (exact rfl))) | ((with_reducible apply Lv.w_ne); (focus (exact rfl))) | ((with_reducible apply Lv.w_tB)) | ((with_reducible apply Lv.w_test)) | ((with_reducible apply Lv.w_bl)) | ((with_reducible apply Lv.w_and)) | ((with_reducible apply Lv.w_or)) | ((with_reducible apply Lv.w_not)) | ((with_reducible apply Lv.w_andV)) | ((with_reducible apply Lv.w_orV)) | ((with_reducible apply Lv.w_notV)) | ((with_reducible apply Lv.w_ifT)) | ((with_reducible apply Lv.w_ifF)) | ((with_reducible apply Lv.w_ifNT)) | ((with_reducible apply Lv.w_ifNF)) | ((with_reducible apply Lv.w_yes)) | ((with_reducible apply Lv.w_ixT); (focus (first | assumption | (exact Lv.Join.g (by assumption) _ _ (by assumption)))); (focus (exact rfl))) | ((with_reducible apply Lv.w_aug); (focus (exact rfl))) | ((with_reducible apply Lv.w_rAdd)) | ((with_reducible apply Lv.w_rSub)) | ((with_reducible apply Lv.w_lcL)) | ((with_reducible apply Lv.w_lcT)) | ((with_reducible apply Lv.w_lcR)) | ((with_reducible apply Lv.w_sl)) | ((with_reducible apply Lv.w_npart)) | ((with_reducible apply Lv.w_part)) | ((with_reducible apply Lv.w_pint)) | ((with_reducible apply Lv.w_forR)) | ((with_reducible apply Lv.w_forR2)) | ((with_reducible apply Lv.w_par)) | ((with_reducible apply Lv.w_apar)) | ((with_reducible apply Lv.w_lcR2)) | ((with_reducible apply Lv.w_lcE)) | ((with_reducible apply Lv.w_isB)) | ((with_reducible apply Lv.w_isNB)) | ((with_reducible apply Lv.w_forL)) | ((with_reducible apply Lv.w_forT)) | ((with_reducible apply Lv.w_brk)) | ((with_reducible apply Lv.w_cont)) | ((with_reducible apply Lv.w_meth)) | ((with_reducible apply Lv.w_make)))
        refine w_rI hcp ?_
        (repeat first | ((with_reducible apply Lv.w_seq)) | ((with_reducible apply Lv.w_var); (focus (exact rfl))) | ((with_reducible apply Lv.w_op)) | ((with_reducible apply Lv.w_c)) | ((with_reducible apply Lv.w_cons)) | ((with_reducible apply Lv.w_nil)) | ((with_reducible apply Lv.w_rI0)) | ((with_reducible apply Lv.w_asg)) | ((with_reducible apply Lv.w_name)) | ((with_reducible apply Lv.w_call)) | ((with_reducible apply Lv.w_tof)) | ((with_reducible apply Lv.w_lof)) | ((with_reducible apply Lv.w_abs)) | ((with_reducible apply Lv.w_int1)) | ((with_reducible apply Lv.w_lenv)) | ((with_reducible apply Lv.w_lens)) | ((with_reducible apply Lv.w_cb)) | ((with_reducible apply Lv.w_rabs)) | ((with_reducible apply Lv.w_rint)) | ((with_reducible apply Lv.w_rintb)) | ((with_reducible apply Lv.w_rlenT); (focus (first | assumption | (exact Lv.Join.g (by assumption) _ _ (by assumption))))) | ((with_reducible apply Lv.w_rlenL); (focus (first | assumption | (exact Lv.Join.g (by assumption) _ _ (by assumption))))) | ((with_reducible apply Lv.w_slenT); (focus (first | assumption | (exact Lv.Join.g (by assumption) _ _ (by assumption))))) | ((with_reducible apply Lv.w_slenL); (focus (first | assumption | (exact Lv.Join.g (by assumption) _ _ (by assumption))))) | ((with_reducible apply Lv.w_klenT); (focus (first | assumption | (exact Lv.Join.g (by assumption) _ _ (by assumption))))) | ((with_reducible apply Lv.w_klenL); (focus (first | assumption | (exact Lv.Join.g (by assumption) _ _ (by assumption))))) | ((with_reducible apply Lv.w_bm)) | ((with_reducible apply Lv.w_bm0)) | ((with_reducible apply Lv.w_bml); (focus (first | assumption | (exact Lv.Join.g (by assumption) _ _ (by assumption))))) | ((with_reducible apply Lv.w_tup)) | ((with_reducible apply Lv.w_lst)) | ((with_reducible apply Lv.w_fld)) | ((with_reducible apply Lv.w_un)) | ((with_reducible apply Lv.w_rU)) | ((with_reducible apply Lv.w_ret)) | ((with_reducible apply Lv.w_retN)) | ((with_reducible apply Lv.w_next)) | ((with_reducible apply Lv.w_drop)) | ((with_reducible apply Lv.w_ifS)) | ((with_reducible apply Lv.w_gcons); (focus (exact rfl))) | ((with_reducible apply Lv.w_gnil); (focus (exact rfl))) | ((with_reducible apply Lv.w_gtup); (focus (first | assumption | (exact Lv.Join.g (by assumption) _ _ (by assumption)))); (focus (exact rfl))) | ((with_reducible apply Lv.w_eq); (focus (exact rfl))) | ((with_reducible apply Lv.w_ne); (focus (exact rfl))) | ((with_reducible apply Lv.w_tB)) | ((with_reducible apply Lv.w_test)) | ((with_reducible apply Lv.w_bl)) | ((with_reducible apply Lv.w_and)) | ((with_reducible apply Lv.w_or)) | ((with_reducible apply Lv.w_not)) | ((with_reducible apply Lv.w_andV)) | ((with_reducible apply Lv.w_orV)) | ((with_reducible apply Lv.w_notV)) | ((with_reducible apply Lv.w_ifT)) | ((with_reducible apply Lv.w_ifF)) | ((with_reducible apply Lv.w_ifNT)) | ((with_reducible apply Lv.w_ifNF)) | ((with_reducible apply Lv.w_yes)) | ((with_reducible apply Lv.w_ixT); (focus (first | assumption | (exact Lv.Join.g (by assumption) _ _ (by assumption)))); (focus (exact rfl))) | ((with_reducible apply Lv.w_aug); (focus (exact rfl))) | ((with_reducible apply Lv.w_rAdd)) | ((with_reducible apply Lv.w_rSub)) | ((with_reducible apply Lv.w_lcL)) | ((with_reducible apply Lv.w_lcT)) | ((with_reducible apply Lv.w_lcR)) | ((with_reducible apply Lv.w_sl)) | ((with_reducible apply Lv.w_npart)) | ((with_reducible apply Lv.w_part)) | ((with_reducible apply Lv.w_pint)) | ((with_reducible apply Lv.w_forR)) | ((with_reducible apply Lv.w_forR2)) | ((with_reducible apply Lv.w_par)) | ((with_reducible apply Lv.w_apar)) | ((with_reducible apply Lv.w_lcR2)) | ((with_reducible apply Lv.w_lcE)) | ((with_reducible apply Lv.w_isB)) | ((with_reducible apply Lv.w_isNB)) | ((with_reducible apply Lv.w_forL)) | ((with_reducible apply Lv.w_forT)) | ((with_reducible apply Lv.w_brk)) | ((with_reducible apply Lv.w_cont)) | ((with_reducible apply Lv.w_meth)) | ((with_reducible apply Lv.w_make)))
        refine ⟨l, _, G5, P7, rfl, j7, hP7, by decide, by decide, fun f9 P8 H9 q0 q1 j8 hP8 => ?_⟩
        clear j7 hP7
        (repeat first | ((with_reducible apply Lv.w_seq)) | ((with_reducible apply Lv.w_var); (focus (exact rfl))) | ((with_reducible apply Lv.w_op)) | ((with_reducible apply Lv.w_c)) | ((with_reducible apply Lv.w_cons)) | ((with_reducible apply Lv.w_nil)) | ((with_reducible apply Lv.w_rI0)) | ((with_reducible apply Lv.w_asg)) | ((with_reducible apply Lv.w_name)) | ((with_reducible apply Lv.w_call)) | ((with_reducible apply Lv.w_tof)) | ((with_reducible apply Lv.w_lof)) | ((with_reducible apply Lv.w_abs)) | ((with_reducible apply Lv.w_int1)) | ((with_reducible apply Lv.w_lenv)) | ((with_reducible apply Lv.w_lens)) | ((with_reducible apply Lv.w_cb)) | ((with_reducible apply Lv.w_rabs)) | ((with_reducible apply Lv.w_rint)) | ((with_reducible apply Lv.w_rintb)) | ((with_reducible apply Lv.w_rlenT); (focus (first | assumption | (exact Lv.Join.g (by assumption) _ _ (by assumption))))) | ((with_reducible apply Lv.w_rlenL); (focus (first | assumption | (exact Lv.Join.g (by assumption) _ _ (by assumption))))) | ((with_reducible apply Lv.w_slenT); (focus (first | assumption | (exact Lv.Join.g (by assumption) _ _ (by assumption))))) | ((with_reducible apply Lv.w_slenL); (focus (first | assumption | (exact Lv.Join.g (by assumption) _ _ (by assumption))))) | ((with_reducible apply Lv.w_klenT); (focus (first | assumption | (exact Lv.Join.g (by assumption) _ _ (by assumption))))) | ((with_reducible apply Lv.w_klenL); (focus (first | assumption | (exact Lv.Join.g (by assumption) _ _ (by assumption))))) | ((with_reducible apply Lv.w_bm)) | ((with_reducible apply Lv.w_bm0)) | ((with_reducible apply Lv.w_bml); (focus (first | assumption | (exact Lv.Join.g (by assumption) _ _ (by assumption))))) | ((with_reducible apply Lv.w_tup)) | ((with_reducible apply Lv.w_lst)) | ((with_reducible apply Lv.w_fld)) | ((with_reducible apply Lv.w_un)) | ((with_reducible apply Lv.w_rU)) | ((with_reducible apply Lv.w_ret)) | ((with_reducible apply Lv.w_retN)) | ((with_reducible apply Lv.w_next)) | ((with_reducible apply Lv.w_drop)) | ((with_reducible apply Lv.w_ifS)) | ((with_reducible apply Lv.w_gcons); (focus (exact rfl))) | ((with_reducible apply Lv.w_gnil); (focus (exact rfl))) | ((with_reducible apply Lv.w_gtup); (focus (first | assumption | (exact Lv.Join.g (by assumption) _ _ (by assumption)))); (focus (exact rfl))) | ((with_reducible apply Lv.w_eq); (focus (exact rfl))) | ((with_reducible apply Lv.w_ne); (focus (exact rfl))) | ((with_reducible apply Lv.w_tB)) | ((with_reducible apply Lv.w_test)) | ((with_reducible apply Lv.w_bl)) | ((with_reducible apply Lv.w_and)) | ((with_reducible apply Lv.w_or)) | ((with_reducible apply Lv.w_not)) | ((with_reducible apply Lv.w_andV)) | ((with_reducible apply Lv.w_orV)) | ((with_reducible apply Lv.w_notV)) | ((with_reducible apply Lv.w_ifT)) | ((with_reducible apply Lv.w_ifF)) | ((with_reducible apply Lv.w_ifNT)) | ((with_reducible apply Lv.w_ifNF)) | ((with_reducible apply Lv.w_yes)) | ((with_reducible apply Lv.w_ixT); (focus (first | assumption | (exact Lv.Join.g (by assumption) _ _ (by assumption)))); (focus (exact rfl))) | ((with_reducible apply Lv.w_aug); (focus (exact rfl))) | ((with_reducible apply Lv.w_rAdd)) | ((with_reducible apply Lv.w_rSub)) | ((with_reducible apply Lv.w_lcL)) | ((with_reducible apply Lv.w_lcT)) | ((with_reducible apply Lv.w_lcR)) | ((with_reducible apply Lv.w_sl)) | ((with_reducible apply Lv.w_npart)) | ((with_reducible apply Lv.w_part)) | ((with_reducible apply Lv.w_pint)) | ((with_reducible apply Lv.w_forR)) | ((with_reducible apply Lv.w_forR2)) | ((with_reducible apply Lv.w_par)) | ((with_reducible apply Lv.w_apar)) | ((with_reducible apply Lv.w_lcR2)) | ((with_reducible apply Lv.w_lcE)) | ((with_reducible apply Lv.w_isB)) | ((with_reducible apply Lv.w_isNB)) | ((with_reducible apply Lv.w_forL)) | ((with_reducible apply Lv.w_forT)) | ((with_reducible apply Lv.w_brk)) | ((with_reducible apply Lv.w_cont)) | ((with_reducible apply Lv.w_meth)) | ((with_reducible apply Lv.w_make)))
        refine aTup.go j8 (by show 5 ≤ 100000; decide) fun t5 G9 H10 ht5 e9 j9 hT5 => ?_
        replace ht := e9 _ _ ht; replace r2 := e9 _ _ r2; replace hv := hv.mono e9; replace hMK := hMK.mono e9
        clear e9 j8
        (repeat first | ((with_reducible apply Lv.w_seq)) | ((with_reducible apply Lv.w_var); (focus (exact rfl))) | ((with_reducible apply Lv.w_op)) | ((with_reducible apply Lv.w_c)) | ((with_reducible apply Lv.w_cons)) | ((with_reducible apply Lv.w_nil)) | ((with_reducible apply Lv.w_rI0)) | ((with_reducible apply Lv.w_asg)) | ((with_reducible apply Lv.w_name)) | ((with_reducible apply Lv.w_call)) | ((with_reducible apply Lv.w_tof)) | ((with_reducible apply Lv.w_lof)) | ((with_reducible apply Lv.w_abs)) | ((with_reducible apply Lv.w_int1)) | ((with_reducible apply Lv.w_lenv)) | ((with_reducible apply Lv.w_lens)) | ((with_reducible apply Lv.w_cb)) | ((with_reducible apply Lv.w_rabs)) | ((with_reducible apply Lv.w_rint)) | ((with_reducible apply Lv.w_rintb)) | ((with_reducible apply Lv.w_rlenT); (focus (first | assumption | (exact Lv.Join.g (by assumption) _ _ (by assumption))))) | ((with_reducible apply Lv.w_rlenL); (focus (first | assumption | (exact Lv.Join.g (by assumption) _ _ (by assumption))))) | ((with_reducible apply Lv.w_slenT); (focus (first | assumption | (exact Lv.Join.g (by assumption) _ _ (by assumption))))) | ((with_reducible apply Lv.w_slenL); (focus (first | assumption | (exact Lv.Join.g (by assumption) _ _ (by assumption))))) | ((with_reducible apply Lv.w_klenT); (focus (first | assumption | (exact Lv.Join.g (by assumption) _ _ (by assumption))))) | ((with_reducible apply Lv.w_klenL); (focus (first | assumption | (exact Lv.Join.g (by assumption) _ _ (by assumption))))) | ((with_reducible apply Lv.w_bm)) | ((with_reducible apply Lv.w_bm0)) | ((with_reducible apply Lv.w_bml); (focus (first | assumption | (exact Lv.Join.g (by assumption) _ _ (by assumption))))) | ((with_reducible apply Lv.w_tup)) | ((with_reducible apply Lv.w_lst)) | ((with_reducible apply Lv.w_fld)) | ((with_reducible apply Lv.w_un)) | ((with_reducible apply Lv.w_rU)) | ((with_reducible apply Lv.w_ret)) | ((with_reducible apply Lv.w_retN)) | ((with_reducible apply Lv.w_next)) | ((with_reducible apply Lv.w_drop)) | ((with_reducible apply Lv.w_ifS)) | ((with_reducible apply Lv.w_gcons); (focus (exact rfl))) | ((with_reducible apply Lv.w_gnil); (focus (exact rfl))) | ((with_reducible apply Lv.w_gtup); (focus (first | assumption | (exact Lv.Join.g (by assumption) _ _ (by assumption)))); (focus (exact rfl))) | ((with_reducible apply Lv.w_eq); (focus (exact rfl))) | ((with_reducible apply Lv.w_ne); (focus (exact rfl))) | ((with_reducible apply Lv.w_tB)) | ((with_reducible apply Lv.w_test)) | ((with_reducible apply Lv.w_bl)) | ((with_reducible apply Lv.w_and)) | ((with_reducible apply Lv.w_or)) | ((with_reducible apply Lv.w_not)) | ((with_reducible apply Lv.w_andV)) | ((with_reducible apply Lv.w_orV)) | ((with_reducible apply Lv.w_notV)) | ((with_reducible apply Lv.w_ifT)) | ((with_reducible apply Lv.w_ifF)) | ((with_reducible apply Lv.w_ifNT)) | ((with_reducible apply Lv.w_ifNF)) | ((with_reducible apply Lv.w_yes)) | ((with_reducible apply Lv.w_ixT); (focus (first | assumption | (exact Lv.Join.g (by assumption) _ _ (by assumption)))); (focus (exact rfl))) | ((with_reducible apply Lv.w_aug); (focus (exact rfl))) | ((with_reducible apply Lv.w_rAdd)) | ((with_reducible apply Lv.w_rSub)) | ((with_reducible apply Lv.w_lcL)) | ((with_reducible apply Lv.w_lcT)) | ((with_reducible apply Lv.w_lcR)) | ((with_reducible apply Lv.w_sl)) | ((with_reducible apply Lv.w_npart)) | ((with_reducible apply Lv.w_part)) | ((with_reducible apply Lv.w_pint)) | ((with_reducible apply Lv.w_forR)) | ((with_reducible apply Lv.w_forR2)) | ((with_reducible apply Lv.w_par)) | ((with_reducible apply Lv.w_apar)) | ((with_reducible apply Lv.w_lcR2)) | ((with_reducible apply Lv.w_lcE)) | ((with_reducible apply Lv.w_isB)) | ((with_reducible apply Lv.w_isNB)) | ((with_reducible apply Lv.w_forL)) | ((with_reducible apply Lv.w_forT)) | ((with_reducible apply Lv.w_brk)) | ((with_reducible apply Lv.w_cont)) | ((with_reducible apply Lv.w_meth)) | ((with_reducible apply Lv.w_make)))
        refine ⟨l, t5, _, G9, P8, rfl, j9, hP8, sqT hT5, by show 0 < 5; decide, by show 5 ≤ 1000; decide, fun i5 x P11 H12 hx j11 hP11 => ?_⟩
        obtain ⟨z, rfl⟩ : ∃ z, x = .int z := by
          have hm := List.mem_of_getElem? hx
          simp only [List.mem_cons, List.not_mem_nil, or_false] at hm
          rcases hm with rfl | rfl | rfl | rfl | rfl <;> exact ⟨_, rfl⟩
        clear hx hT5 j9 hP8
        (repeat first | ((with_reducible apply Lv.w_seq)) | ((with_reducible apply Lv.w_var); (focus (exact rfl))) | ((with_reducible apply Lv.w_op)) | ((with_reducible apply Lv.w_c)) | ((with_reducible apply Lv.w_cons)) | ((with_reducible apply Lv.w_nil)) | ((with_reducible apply Lv.w_rI0)) | ((with_reducible apply Lv.w_asg)) | ((with_reducible apply Lv.w_name)) | ((with_reducible apply Lv.w_call)) | ((with_reducible apply Lv.w_tof)) | ((with_reducible apply Lv.w_lof)) | ((with_reducible apply Lv.w_abs)) | ((with_reducible apply Lv.w_int1)) | ((with_reducible apply Lv.w_lenv)) | ((with_reducible apply Lv.w_lens)) | ((with_reducible apply Lv.w_cb)) | ((with_reducible apply Lv.w_rabs)) | ((with_reducible apply Lv.w_rint)) | ((with_reducible apply Lv.w_rintb)) | ((with_reducible apply Lv.w_rlenT); (focus (first | assumption | (exact Lv.Join.g (by assumption) _ _ (by assumption))))) | ((with_reducible apply Lv.w_rlenL); (focus (first | assumption | (exact Lv.Join.g (by assumption) _ _ (by assumption))))) | ((with_reducible apply Lv.w_slenT); (focus (first | assumption | (exact Lv.Join.g (by assumption) _ _ (by assumption))))) | ((with_reducible apply Lv.w_slenL); (focus (first | assumption | (exact Lv.Join.g (by assumption) _ _ (by assumption))))) | ((with_reducible apply Lv.w_klenT); (focus (first | assumption | (exact Lv.Join.g (by assumption) _ _ (by assumption))))) | ((with_reducible apply Lv.w_klenL); (focus (first | assumption | (exact Lv.Join.g (by assumption) _ _ (by assumption))))) | ((with_reducible apply Lv.w_bm)) | ((with_reducible apply Lv.w_bm0)) | ((with_reducible apply Lv.w_bml); (focus (first | assumption | (exact Lv.Join.g (by assumption) _ _ (by assumption))))) | ((with_reducible apply Lv.w_tup)) | ((with_reducible apply Lv.w_lst)) | ((with_reducible apply Lv.w_fld)) | ((with_reducible apply Lv.w_un)) | ((with_reducible apply Lv.w_rU)) | ((with_reducible apply Lv.w_ret)) | ((with_reducible apply Lv.w_retN)) | ((with_reducible apply Lv.w_next)) | ((with_reducible apply Lv.w_drop)) | ((with_reducible apply Lv.w_ifS)) | ((with_reducible apply Lv.w_gcons); (focus (exact rfl))) | ((with_reducible apply Lv.w_gnil); (focus (exact rfl))) | ((with_reducible apply Lv.w_gtup); (focus (first | assumption | (exact Lv.Join.g (by assumption) _ _ (by assumption)))); (focus (exact rfl))) | ((with_reducible apply Lv.w_eq); (focus (exact rfl))) | ((with_reducible apply Lv.w_ne); (focus (exact rfl))) | ((with_reducible apply Lv.w_tB)) | ((with_reducible apply Lv.w_test)) | ((with_reducible apply Lv.w_bl)) | ((with_reducible apply Lv.w_and)) | ((with_reducible apply Lv.w_or)) | ((with_reducible apply Lv.w_not)) | ((with_reducible apply Lv.w_andV)) | ((with_reducible apply Lv.w_orV)) | ((with_reducible apply Lv.w_notV)) | ((with_reducible apply Lv.w_ifT)) | ((with_reducible apply Lv.w_ifF)) | ((with_reducible apply Lv.w_ifNT)) | ((with_reducible apply Lv.w_ifNF)) | ((with_reducible apply Lv.w_yes)) | ((with_reducible apply Lv.w_ixT); (focus (first | assumption | (exact Lv.Join.g (by assumption) _ _ (by assumption)))); (focus (exact rfl))) | ((with_reducible apply Lv.w_aug); (focus (exact rfl))) | ((with_reducible apply Lv.w_rAdd)) | ((with_reducible apply Lv.w_rSub)) | ((with_reducible apply Lv.w_lcL)) | ((with_reducible apply Lv.w_lcT)) | ((with_reducible apply Lv.w_lcR)) | ((with_reducible apply Lv.w_sl)) | ((with_reducible apply Lv.w_npart)) | ((with_reducible apply Lv.w_part)) | ((with_reducible apply Lv.w_pint)) | ((with_reducible apply Lv.w_forR)) | ((with_reducible apply Lv.w_forR2)) | ((with_reducible apply Lv.w_par)) | ((with_reducible apply Lv.w_apar)) | ((with_reducible apply Lv.w_lcR2)) | ((with_reducible apply Lv.w_lcE)) | ((with_reducible apply Lv.w_isB)) | ((with_reducible apply Lv.w_isNB)) | ((with_reducible apply Lv.w_forL)) | ((with_reducible apply Lv.w_forT)) | ((with_reducible apply Lv.w_brk)) | ((with_reducible apply Lv.w_cont)) | ((with_reducible apply Lv.w_meth)) | ((with_reducible apply Lv.w_make)))
        refine ⟨m, kk, 1 + f, z, n, es, e, G9, P11, rfl, j11, hMK, hB, by omega, by omega, he, by omega, by omega, fun o G12 H13 e12 j12 ho hMo => ?_⟩
        replace ht := e12 _ _ ht; replace r2 := e12 _ _ r2; replace hv := hv.mono e12; replace hMK := hMK.mono e12
        clear e12 j11 ho
        (repeat first | ((with_reducible apply Lv.w_seq)) | ((with_reducible apply Lv.w_var); (focus (exact rfl))) | ((with_reducible apply Lv.w_op)) | ((with_reducible apply Lv.w_c)) | ((with_reducible apply Lv.w_cons)) | ((with_reducible apply Lv.w_nil)) | ((with_reducible apply Lv.w_rI0)) | ((with_reducible apply Lv.w_asg)) | ((with_reducible apply Lv.w_name)) | ((with_reducible apply Lv.w_call)) | ((with_reducible apply Lv.w_tof)) | ((with_reducible apply Lv.w_lof)) | ((with_reducible apply Lv.w_abs)) | ((with_reducible apply Lv.w_int1)) | ((with_reducible apply Lv.w_lenv)) | ((with_reducible apply Lv.w_lens)) | ((with_reducible apply Lv.w_cb)) | ((with_reducible apply Lv.w_rabs)) | ((with_reducible apply Lv.w_rint)) | ((with_reducible apply Lv.w_rintb)) | ((with_reducible apply Lv.w_rlenT); (focus (first | assumption | (exact Lv.Join.g (by assumption) _ _ (by assumption))))) | ((with_reducible apply Lv.w_rlenL); (focus (first | assumption | (exact Lv.Join.g (by assumption) _ _ (by assumption))))) | ((with_reducible apply Lv.w_slenT); (focus (first | assumption | (exact Lv.Join.g (by assumption) _ _ (by assumption))))) | ((with_reducible apply Lv.w_slenL); (focus (first | assumption | (exact Lv.Join.g (by assumption) _ _ (by assumption))))) | ((with_reducible apply Lv.w_klenT); (focus (first | assumption | (exact Lv.Join.g (by assumption) _ _ (by assumption))))) | ((with_reducible apply Lv.w_klenL); (focus (first | assumption | (exact Lv.Join.g (by assumption) _ _ (by assumption))))) | ((with_reducible apply Lv.w_bm)) | ((with_reducible apply Lv.w_bm0)) | ((with_reducible apply Lv.w_bml); (focus (first | assumption | (exact Lv.Join.g (by assumption) _ _ (by assumption))))) | ((with_reducible apply Lv.w_tup)) | ((with_reducible apply Lv.w_lst)) | ((with_reducible apply Lv.w_fld)) | ((with_reducible apply Lv.w_un)) | ((with_reducible apply Lv.w_rU)) | ((with_reducible apply Lv.w_ret)) | ((with_reducible apply Lv.w_retN)) | ((with_reducible apply Lv.w_next)) | ((with_reducible apply Lv.w_drop)) | ((with_reducible apply Lv.w_ifS)) | ((with_reducible apply Lv.w_gcons); (focus (exact rfl))) | ((with_reducible apply Lv.w_gnil); (focus (exact rfl))) | ((with_reducible apply Lv.w_gtup); (focus (first | assumption | (exact Lv.Join.g (by assumption) _ _ (by assumption)))); (focus (exact rfl))) | ((with_reducible apply Lv.w_eq); (focus (exact rfl))) | ((with_reducible apply Lv.w_ne); (focus (exact rfl))) | ((with_reducible apply Lv.w_tB)) | ((with_reducible apply Lv.w_test)) | ((with_reducible apply Lv.w_bl)) | ((with_reducible apply Lv.w_and)) | ((with_reducible apply Lv.w_or)) | ((with_reducible apply Lv.w_not)) | ((with_reducible apply Lv.w_andV)) | ((with_reducible apply Lv.w_orV)) | ((with_reducible apply Lv.w_notV)) | ((with_reducible apply Lv.w_ifT)) | ((with_reducible apply Lv.w_ifF)) | ((with_reducible apply Lv.w_ifNT)) | ((with_reducible apply Lv.w_ifNF)) | ((with_reducible apply Lv.w_yes)) | ((with_reducible apply Lv.w_ixT); (focus (first | assumption | (exact Lv.Join.g (by assumption) _ _ (by assumption)))); (focus (exact rfl))) | ((with_reducible apply Lv.w_aug); (focus (exact rfl))) | ((with_reducible apply Lv.w_rAdd)) | ((with_reducible apply Lv.w_rSub)) | ((with_reducible apply Lv.w_lcL)) | ((with_reducible apply Lv.w_lcT)) | ((with_reducible apply Lv.w_lcR)) | ((with_reducible apply Lv.w_sl)) | ((with_reducible apply Lv.w_npart)) | ((with_reducible apply Lv.w_part)) | ((with_reducible apply Lv.w_pint)) | ((with_reducible apply Lv.w_forR)) | ((with_reducible apply Lv.w_forR2)) | ((with_reducible apply Lv.w_par)) | ((with_reducible apply Lv.w_apar)) | ((with_reducible apply Lv.w_lcR2)) | ((with_reducible apply Lv.w_lcE)) | ((with_reducible apply Lv.w_isB)) | ((with_reducible apply Lv.w_isNB)) | ((with_reducible apply Lv.w_forL)) | ((with_reducible apply Lv.w_forT)) | ((with_reducible apply Lv.w_brk)) | ((with_reducible apply Lv.w_cont)) | ((with_reducible apply Lv.w_meth)) | ((with_reducible apply Lv.w_make)))
        refine slA_take j12 ht fun u1 G13 H14 e13 j13 hu1 => ?_
        replace ht := e13 _ _ ht; replace r2 := e13 _ _ r2; replace hv := hv.mono e13; replace hMK := hMK.mono e13; replace hMo := hMo.mono e13
        clear e13 j12
        (repeat first | ((with_reducible apply Lv.w_seq)) | ((with_reducible apply Lv.w_var); (focus (exact rfl))) | ((with_reducible apply Lv.w_op)) | ((with_reducible apply Lv.w_c)) | ((with_reducible apply Lv.w_cons)) | ((with_reducible apply Lv.w_nil)) | ((with_reducible apply Lv.w_rI0)) | ((with_reducible apply Lv.w_asg)) | ((with_reducible apply Lv.w_name)) | ((with_reducible apply Lv.w_call)) | ((with_reducible apply Lv.w_tof)) | ((with_reducible apply Lv.w_lof)) | ((with_reducible apply Lv.w_abs)) | ((with_reducible apply Lv.w_int1)) | ((with_reducible apply Lv.w_lenv)) | ((with_reducible apply Lv.w_lens)) | ((with_reducible apply Lv.w_cb)) | ((with_reducible apply Lv.w_rabs)) | ((with_reducible apply Lv.w_rint)) | ((with_reducible apply Lv.w_rintb)) | ((with_reducible apply Lv.w_rlenT); (focus (first | assumption | (exact Lv.Join.g (by assumption) _ _ (by assumption))))) | ((with_reducible apply Lv.w_rlenL); (focus (first | assumption | (exact Lv.Join.g (by assumption) _ _ (by assumption))))) | ((with_reducible apply Lv.w_slenT); (focus (first | assumption | (exact Lv.Join.g (by assumption) _ _ (by assumption))))) | ((with_reducible apply Lv.w_slenL); (focus (first | assumption | (exact Lv.Join.g (by assumption) _ _ (by assumption))))) | ((with_reducible apply Lv.w_klenT); (focus (first | assumption | (exact Lv.Join.g (by assumption) _ _ (by assumption))))) | ((with_reducible apply Lv.w_klenL); (focus (first | assumption | (exact Lv.Join.g (by assumption) _ _ (by assumption))))) | ((with_reducible apply Lv.w_bm)) | ((with_reducible apply Lv.w_bm0)) | ((with_reducible apply Lv.w_bml); (focus (first | assumption | (exact Lv.Join.g (by assumption) _ _ (by assumption))))) | ((with_reducible apply Lv.w_tup)) | ((with_reducible apply Lv.w_lst)) | ((with_reducible apply Lv.w_fld)) | ((with_reducible apply Lv.w_un)) | ((with_reducible apply Lv.w_rU)) | ((with_reducible apply Lv.w_ret)) | ((with_reducible apply Lv.w_retN)) | ((with_reducible apply Lv.w_next)) | ((with_reducible apply Lv.w_drop)) | ((with_reducible apply Lv.w_ifS)) | ((with_reducible apply Lv.w_gcons); (focus (exact rfl))) | ((with_reducible apply Lv.w_gnil); (focus (exact rfl))) | ((with_reducible apply Lv.w_gtup); (focus (first | assumption | (exact Lv.Join.g (by assumption) _ _ (by assumption)))); (focus (exact rfl))) | ((with_reducible apply Lv.w_eq); (focus (exact rfl))) | ((with_reducible apply Lv.w_ne); (focus (exact rfl))) | ((with_reducible apply Lv.w_tB)) | ((with_reducible apply Lv.w_test)) | ((with_reducible apply Lv.w_bl)) | ((with_reducible apply Lv.w_and)) | ((with_reducible apply Lv.w_or)) | ((with_reducible apply Lv.w_not)) | ((with_reducible apply Lv.w_andV)) | ((with_reducible apply Lv.w_orV)) | ((with_reducible apply Lv.w_notV)) | ((with_reducible apply Lv.w_ifT)) | ((with_reducible apply Lv.w_ifF)) | ((with_reducible apply Lv.w_ifNT)) | ((with_reducible apply Lv.w_ifNF)) | ((with_reducible apply Lv.w_yes)) | ((with_reducible apply Lv.w_ixT); (focus (first | assumption | (exact Lv.Join.g (by assumption) _ _ (by assumption)))); (focus (exact rfl))) | ((with_reducible apply Lv.w_aug); (focus (exact rfl))) | ((with_reducible apply Lv.w_rAdd)) | ((with_reducible apply Lv.w_rSub)) | ((with_reducible apply Lv.w_lcL)) | ((with_reducible apply Lv.w_lcT)) | ((with_reducible apply Lv.w_lcR)) | ((with_reducible apply Lv.w_sl)) | ((with_reducible apply Lv.w_npart)) | ((with_reducible apply Lv.w_part)) | ((with_reducible apply Lv.w_pint)) | ((with_reducible apply Lv.w_forR)) | ((with_reducible apply Lv.w_forR2)) | ((with_reducible apply Lv.w_par)) | ((with_reducible apply Lv.w_apar)) | ((with_reducible apply Lv.w_lcR2)) | ((with_reducible apply Lv.w_lcE)) | ((with_reducible apply Lv.w_isB)) | ((with_reducible apply Lv.w_isNB)) | ((with_reducible apply Lv.w_forL)) | ((with_reducible apply Lv.w_forT)) | ((with_reducible apply Lv.w_brk)) | ((with_reducible apply Lv.w_cont)) | ((with_reducible apply Lv.w_meth)) | ((with_reducible apply Lv.w_make)))
        refine aTup.go j13 (by show 4 ≤ 100000; decide) fun u2 G14 H15 hu2' e14 j14 hu2 => ?_
        replace ht := e14 _ _ ht; replace r2 := e14 _ _ r2; replace hu1 := e14 _ _ hu1; replace hv := hv.mono e14; replace hMK := hMK.mono e14; replace hMo := hMo.mono e14
        clear e14 j13 hu2'
        (repeat first | ((with_reducible apply Lv.w_seq)) | ((with_reducible apply Lv.w_var); (focus (exact rfl))) | ((with_reducible apply Lv.w_op)) | ((with_reducible apply Lv.w_c)) | ((with_reducible apply Lv.w_cons)) | ((with_reducible apply Lv.w_nil)) | ((with_reducible apply Lv.w_rI0)) | ((with_reducible apply Lv.w_asg)) | ((with_reducible apply Lv.w_name)) | ((with_reducible apply Lv.w_call)) | ((with_reducible apply Lv.w_tof)) | ((with_reducible apply Lv.w_lof)) | ((with_reducible apply Lv.w_abs)) | ((with_reducible apply Lv.w_int1)) | ((with_reducible apply Lv.w_lenv)) | ((with_reducible apply Lv.w_lens)) | ((with_reducible apply Lv.w_cb)) | ((with_reducible apply Lv.w_rabs)) | ((with_reducible apply Lv.w_rint)) | ((with_reducible apply Lv.w_rintb)) | ((with_reducible apply Lv.w_rlenT); (focus (first | assumption | (exact Lv.Join.g (by assumption) _ _ (by assumption))))) | ((with_reducible apply Lv.w_rlenL); (focus (first | assumption | (exact Lv.Join.g (by assumption) _ _ (by assumption))))) | ((with_reducible apply Lv.w_slenT); (focus (first | assumption | (exact Lv.Join.g (by assumption) _ _ (by assumption))))) | ((with_reducible apply Lv.w_slenL); (focus (first | assumption | (exact Lv.Join.g (by assumption) _ _ (by assumption))))) | ((with_reducible apply Lv.w_klenT); (focus (first | assumption | (exact Lv.Join.g (by assumption) _ _ (by assumption))))) | ((with_reducible apply Lv.w_klenL); (focus (first | assumption | (exact Lv.Join.g (by assumption) _ _ (by assumption))))) | ((with_reducible apply Lv.w_bm)) | ((with_reducible apply Lv.w_bm0)) | ((with_reducible apply Lv.w_bml); (focus (first | assumption | (exact Lv.Join.g (by assumption) _ _ (by assumption))))) | ((with_reducible apply Lv.w_tup)) | ((with_reducible apply Lv.w_lst)) | ((with_reducible apply Lv.w_fld)) | ((with_reducible apply Lv.w_un)) | ((with_reducible apply Lv.w_rU)) | ((with_reducible apply Lv.w_ret)) | ((with_reducible apply Lv.w_retN)) | ((with_reducible apply Lv.w_next)) | ((with_reducible apply Lv.w_drop)) | ((with_reducible apply Lv.w_ifS)) | ((with_reducible apply Lv.w_gcons); (focus (exact rfl))) | ((with_reducible apply Lv.w_gnil); (focus (exact rfl))) | ((with_reducible apply Lv.w_gtup); (focus (first | assumption | (exact Lv.Join.g (by assumption) _ _ (by assumption)))); (focus (exact rfl))) | ((with_reducible apply Lv.w_eq); (focus (exact rfl))) | ((with_reducible apply Lv.w_ne); (focus (exact rfl))) | ((with_reducible apply Lv.w_tB)) | ((with_reducible apply Lv.w_test)) | ((with_reducible apply Lv.w_bl)) | ((with_reducible apply Lv.w_and)) | ((with_reducible apply Lv.w_or)) | ((with_reducible apply Lv.w_not)) | ((with_reducible apply Lv.w_andV)) | ((with_reducible apply Lv.w_orV)) | ((with_reducible apply Lv.w_notV)) | ((with_reducible apply Lv.w_ifT)) | ((with_reducible apply Lv.w_ifF)) | ((with_reducible apply Lv.w_ifNT)) | ((with_reducible apply Lv.w_ifNF)) | ((with_reducible apply Lv.w_yes)) | ((with_reducible apply Lv.w_ixT); (focus (first | assumption | (exact Lv.Join.g (by assumption) _ _ (by assumption)))); (focus (exact rfl))) | ((with_reducible apply Lv.w_aug); (focus (exact rfl))) | ((with_reducible apply Lv.w_rAdd)) | ((with_reducible apply Lv.w_rSub)) | ((with_reducible apply Lv.w_lcL)) | ((with_reducible apply Lv.w_lcT)) | ((with_reducible apply Lv.w_lcR)) | ((with_reducible apply Lv.w_sl)) | ((with_reducible apply Lv.w_npart)) | ((with_reducible apply Lv.w_part)) | ((with_reducible apply Lv.w_pint)) | ((with_reducible apply Lv.w_forR)) | ((with_reducible apply Lv.w_forR2)) | ((with_reducible apply Lv.w_par)) | ((with_reducible apply Lv.w_apar)) | ((with_reducible apply Lv.w_lcR2)) | ((with_reducible apply Lv.w_lcE)) | ((with_reducible apply Lv.w_isB)) | ((with_reducible apply Lv.w_isNB)) | ((with_reducible apply Lv.w_forL)) | ((with_reducible apply Lv.w_forT)) | ((with_reducible apply Lv.w_brk)) | ((with_reducible apply Lv.w_cont)) | ((with_reducible apply Lv.w_meth)) | ((with_reducible apply Lv.w_make)))
        refine aTup.go j14 (by show 1 ≤ 100000; decide) fun u3 G15 H16 hu3' e15 j15 hu3 => ?_
        replace ht := e15 _ _ ht; replace r2 := e15 _ _ r2; replace hu1 := e15 _ _ hu1; replace hu2 := e15 _ _ hu2; replace hv := hv.mono e15; replace hMK := hMK.mono e15; replace hMo := hMo.mono e15
        clear e15 j14 hu3'
        (repeat first | ((with_reducible apply Lv.w_seq)) | ((with_reducible apply Lv.w_var); (focus (exact rfl))) | ((with_reducible apply Lv.w_op)) | ((with_reducible apply Lv.w_c)) | ((with_reducible apply Lv.w_cons)) | ((with_reducible apply Lv.w_nil)) | ((with_reducible apply Lv.w_rI0)) | ((with_reducible apply Lv.w_asg)) | ((with_reducible apply Lv.w_name)) | ((with_reducible apply Lv.w_call)) | ((with_reducible apply Lv.w_tof)) | ((with_reducible apply Lv.w_lof)) | ((with_reducible apply Lv.w_abs)) | ((with_reducible apply Lv.w_int1)) | ((with_reducible apply Lv.w_lenv)) | ((with_reducible apply Lv.w_lens)) | ((with_reducible apply Lv.w_cb)) | ((with_reducible apply Lv.w_rabs)) | ((with_reducible apply Lv.w_rint)) | ((with_reducible apply Lv.w_rintb)) | ((with_reducible apply Lv.w_rlenT); (focus (first | assumption | (exact Lv.Join.g (by assumption) _ _ (by assumption))))) | ((with_reducible apply Lv.w_rlenL); (focus (first | assumption | (exact Lv.Join.g (by assumption) _ _ (by assumption))))) | ((with_reducible apply Lv.w_slenT); (focus (first | assumption | (exact Lv.Join.g (by assumption) _ _ (by assumption))))) | ((with_reducible apply Lv.w_slenL); (focus (first | assumption | (exact Lv.Join.g (by assumption) _ _ (by assumption))))) | ((with_reducible apply Lv.w_klenT); (focus (first | assumption | (exact Lv.Join.g (by assumption) _ _ (by assumption))))) | ((with_reducible apply Lv.w_klenL); (focus (first | assumption | (exact Lv.Join.g (by assumption) _ _ (by assumption))))) | ((with_reducible apply Lv.w_bm)) | ((with_reducible apply Lv.w_bm0)) | ((with_reducible apply Lv.w_bml); (focus (first | assumption | (exact Lv.Join.g (by assumption) _ _ (by assumption))))) | ((with_reducible apply Lv.w_tup)) | ((with_reducible apply Lv.w_lst)) | ((with_reducible apply Lv.w_fld)) | ((with_reducible apply Lv.w_un)) | ((with_reducible apply Lv.w_rU)) | ((with_reducible apply Lv.w_ret)) | ((with_reducible apply Lv.w_retN)) | ((with_reducible apply Lv.w_next)) | ((with_reducible apply Lv.w_drop)) | ((with_reducible apply Lv.w_ifS)) | ((with_reducible apply Lv.w_gcons); (focus (exact rfl))) | ((with_reducible apply Lv.w_gnil); (focus (exact rfl))) | ((with_reducible apply Lv.w_gtup); (focus (first | assumption | (exact Lv.Join.g (by assumption) _ _ (by assumption)))); (focus (exact rfl))) | ((with_reducible apply Lv.w_eq); (focus (exact rfl))) | ((with_reducible apply Lv.w_ne); (focus (exact rfl))) | ((with_reducible apply Lv.w_tB)) | ((with_reducible apply Lv.w_test)) | ((with_reducible apply Lv.w_bl)) | ((with_reducible apply Lv.w_and)) | ((with_reducible apply Lv.w_or)) | ((with_reducible apply Lv.w_not)) | ((with_reducible apply Lv.w_andV)) | ((with_reducible apply Lv.w_orV)) | ((with_reducible apply Lv.w_notV)) | ((with_reducible apply Lv.w_ifT)) | ((with_reducible apply Lv.w_ifF)) | ((with_reducible apply Lv.w_ifNT)) | ((with_reducible apply Lv.w_ifNF)) | ((with_reducible apply Lv.w_yes)) | ((with_reducible apply Lv.w_ixT); (focus (first | assumption | (exact Lv.Join.g (by assumption) _ _ (by assumption)))); (focus (exact rfl))) | ((with_reducible apply Lv.w_aug); (focus (exact rfl))) | ((with_reducible apply Lv.w_rAdd)) | ((with_reducible apply Lv.w_rSub)) | ((with_reducible apply Lv.w_lcL)) | ((with_reducible apply Lv.w_lcT)) | ((with_reducible apply Lv.w_lcR)) | ((with_reducible apply Lv.w_sl)) | ((with_reducible apply Lv.w_npart)) | ((with_reducible apply Lv.w_part)) | ((with_reducible apply Lv.w_pint)) | ((with_reducible apply Lv.w_forR)) | ((with_reducible apply Lv.w_forR2)) | ((with_reducible apply Lv.w_par)) | ((with_reducible apply Lv.w_apar)) | ((with_reducible apply Lv.w_lcR2)) | ((with_reducible apply Lv.w_lcE)) | ((with_reducible apply Lv.w_isB)) | ((with_reducible apply Lv.w_isNB)) | ((with_reducible apply Lv.w_forL)) | ((with_reducible apply Lv.w_forT)) | ((with_reducible apply Lv.w_brk)) | ((with_reducible apply Lv.w_cont)) | ((with_reducible apply Lv.w_meth)) | ((with_reducible apply Lv.w_make)))
        refine catA_out j15 hu1 hu3 (by simp; omega) fun u4 G16 H17 e16 j16 hu4 => ?_
        replace ht := e16 _ _ ht; replace r2 := e16 _ _ r2; replace hu2 := e16 _ _ hu2; replace hv := hv.mono e16; replace hMK := hMK.mono e16; replace hMo := hMo.mono e16
        clear e16 j15 hu1 hu3
        (repeat first | ((with_reducible apply Lv.w_seq)) | ((with_reducible apply Lv.w_var); (focus (exact rfl))) | ((with_reducible apply Lv.w_op)) | ((with_reducible apply Lv.w_c)) | ((with_reducible apply Lv.w_cons)) | ((with_reducible apply Lv.w_nil)) | ((with_reducible apply Lv.w_rI0)) | ((with_reducible apply Lv.w_asg)) | ((with_reducible apply Lv.w_name)) | ((with_reducible apply Lv.w_call)) | ((with_reducible apply Lv.w_tof)) | ((with_reducible apply Lv.w_lof)) | ((with_reducible apply Lv.w_abs)) | ((with_reducible apply Lv.w_int1)) | ((with_reducible apply Lv.w_lenv)) | ((with_reducible apply Lv.w_lens)) | ((with_reducible apply Lv.w_cb)) | ((with_reducible apply Lv.w_rabs)) | ((with_reducible apply Lv.w_rint)) | ((with_reducible apply Lv.w_rintb)) | ((with_reducible apply Lv.w_rlenT); (focus (first | assumption | (exact Lv.Join.g (by assumption) _ _ (by assumption))))) | ((with_reducible apply Lv.w_rlenL); (focus (first | assumption | (exact Lv.Join.g (by assumption) _ _ (by assumption))))) | ((with_reducible apply Lv.w_slenT); (focus (first | assumption | (exact Lv.Join.g (by assumption) _ _ (by assumption))))) | ((with_reducible apply Lv.w_slenL); (focus (first | assumption | (exact Lv.Join.g (by assumption) _ _ (by assumption))))) | ((with_reducible apply Lv.w_klenT); (focus (first | assumption | (exact Lv.Join.g (by assumption) _ _ (by assumption))))) | ((with_reducible apply Lv.w_klenL); (focus (first | assumption | (exact Lv.Join.g (by assumption) _ _ (by assumption))))) | ((with_reducible apply Lv.w_bm)) | ((with_reducible apply Lv.w_bm0)) | ((with_reducible apply Lv.w_bml); (focus (first | assumption | (exact Lv.Join.g (by assumption) _ _ (by assumption))))) | ((with_reducible apply Lv.w_tup)) | ((with_reducible apply Lv.w_lst)) | ((with_reducible apply Lv.w_fld)) | ((with_reducible apply Lv.w_un)) | ((with_reducible apply Lv.w_rU)) | ((with_reducible apply Lv.w_ret)) | ((with_reducible apply Lv.w_retN)) | ((with_reducible apply Lv.w_next)) | ((with_reducible apply Lv.w_drop)) | ((with_reducible apply Lv.w_ifS)) | ((with_reducible apply Lv.w_gcons); (focus (exact rfl))) | ((with_reducible apply Lv.w_gnil); (focus (exact rfl))) | ((with_reducible apply Lv.w_gtup); (focus (first | assumption | (exact Lv.Join.g (by assumption) _ _ (by assumption)))); (focus (exact rfl))) | ((with_reducible apply Lv.w_eq); (focus (exact rfl))) | ((with_reducible apply Lv.w_ne); (focus (exact rfl))) | ((with_reducible apply Lv.w_tB)) | ((with_reducible apply Lv.w_test)) | ((with_reducible apply Lv.w_bl)) | ((with_reducible apply Lv.w_and)) | ((with_reducible apply Lv.w_or)) | ((with_reducible apply Lv.w_not)) | ((with_reducible apply Lv.w_andV)) | ((with_reducible apply Lv.w_orV)) | ((with_reducible apply Lv.w_notV)) | ((with_reducible apply Lv.w_ifT)) | ((with_reducible apply Lv.w_ifF)) | ((with_reducible apply Lv.w_ifNT)) | ((with_reducible apply Lv.w_ifNF)) | ((with_reducible apply Lv.w_yes)) | ((with_reducible apply Lv.w_ixT); (focus (first | assumption | (exact Lv.Join.g (by assumption) _ _ (by assumption)))); (focus (exact rfl))) | ((with_reducible apply Lv.w_aug); (focus (exact rfl))) | ((with_reducible apply Lv.w_rAdd)) | ((with_reducible apply Lv.w_rSub)) | ((with_reducible apply Lv.w_lcL)) | ((with_reducible apply Lv.w_lcT)) | ((with_reducible apply Lv.w_lcR)) | ((with_reducible apply Lv.w_sl)) | ((with_reducible apply Lv.w_npart)) | ((with_reducible apply Lv.w_part)) | ((with_reducible apply Lv.w_pint)) | ((with_reducible apply Lv.w_forR)) | ((with_reducible apply Lv.w_forR2)) | ((with_reducible apply Lv.w_par)) | ((with_reducible apply Lv.w_apar)) | ((with_reducible apply Lv.w_lcR2)) | ((with_reducible apply Lv.w_lcE)) | ((with_reducible apply Lv.w_isB)) | ((with_reducible apply Lv.w_isNB)) | ((with_reducible apply Lv.w_forL)) | ((with_reducible apply Lv.w_forT)) | ((with_reducible apply Lv.w_brk)) | ((with_reducible apply Lv.w_cont)) | ((with_reducible apply Lv.w_meth)) | ((with_reducible apply Lv.w_make)))
        rw [show (kk : Int) + 1 = ((kk + 1 : Nat) : Int) by omega]
        refine slA_drop j16 ht fun u5 G17 H18 e17 j17 hu5 => ?_
        replace ht := e17 _ _ ht; replace r2 := e17 _ _ r2; replace hu2 := e17 _ _ hu2; replace hu4 := e17 _ _ hu4; replace hv := hv.mono e17; replace hMK := hMK.mono e17; replace hMo := hMo.mono e17
        clear e17 j16
        (repeat first | ((with_reducible apply Lv.w_seq)) | ((with_reducible apply Lv.w_var); (focus (exact rfl))) | ((with_reducible apply Lv.w_op)) | ((with_reducible apply Lv.w_c)) | ((with_reducible apply Lv.w_cons)) | ((with_reducible apply Lv.w_nil)) | ((with_reducible apply Lv.w_rI0)) | ((with_reducible apply Lv.w_asg)) | ((with_reducible apply Lv.w_name)) | ((with_reducible apply Lv.w_call)) | ((with_reducible apply Lv.w_tof)) | ((with_reducible apply Lv.w_lof)) | ((with_reducible apply Lv.w_abs)) | ((with_reducible apply Lv.w_int1)) | ((with_reducible apply Lv.w_lenv)) | ((with_reducible apply Lv.w_lens)) | ((with_reducible apply Lv.w_cb)) | ((with_reducible apply Lv.w_rabs)) | ((with_reducible apply Lv.w_rint)) | ((with_reducible apply Lv.w_rintb)) | ((with_reducible apply Lv.w_rlenT); (focus (first | assumption | (exact Lv.Join.g (by assumption) _ _ (by assumption))))) | ((with_reducible apply Lv.w_rlenL); (focus (first | assumption | (exact Lv.Join.g (by assumption) _ _ (by assumption))))) | ((with_reducible apply Lv.w_slenT); (focus (first | assumption | (exact Lv.Join.g (by assumption) _ _ (by assumption))))) | ((with_reducible apply Lv.w_slenL); (focus (first | assumption | (exact Lv.Join.g (by assumption) _ _ (by assumption))))) | ((with_reducible apply Lv.w_klenT); (focus (first | assumption | (exact Lv.Join.g (by assumption) _ _ (by assumption))))) | ((with_reducible apply Lv.w_klenL); (focus (first | assumption | (exact Lv.Join.g (by assumption) _ _ (by assumption))))) | ((with_reducible apply Lv.w_bm)) | ((with_reducible apply Lv.w_bm0)) | ((with_reducible apply Lv.w_bml); (focus (first | assumption | (exact Lv.Join.g (by assumption) _ _ (by assumption))))) | ((with_reducible apply Lv.w_tup)) | ((with_reducible apply Lv.w_lst)) | ((with_reducible apply Lv.w_fld)) | ((with_reducible apply Lv.w_un)) | ((with_reducible apply Lv.w_rU)) | ((with_reducible apply Lv.w_ret)) | ((with_reducible apply Lv.w_retN)) | ((with_reducible apply Lv.w_next)) | ((with_reducible apply Lv.w_drop)) | ((with_reducible apply Lv.w_ifS)) | ((with_reducible apply Lv.w_gcons); (focus (exact rfl))) | ((with_reducible apply Lv.w_gnil); (focus (exact rfl))) | ((with_reducible apply Lv.w_gtup); (focus (first | assumption | (exact Lv.Join.g (by assumption) _ _ (by assumption)))); (focus (exact rfl))) | ((with_reducible apply Lv.w_eq); (focus (exact rfl))) | ((with_reducible apply Lv.w_ne); (focus (exact rfl))) | ((with_reducible apply Lv.w_tB)) | ((with_reducible apply Lv.w_test)) | ((with_reducible apply Lv.w_bl)) | ((with_reducible apply Lv.w_and)) | ((with_reducible apply Lv.w_or)) | ((with_reducible apply Lv.w_not)) | ((with_reducible apply Lv.w_andV)) | ((with_reducible apply Lv.w_orV)) | ((with_reducible apply Lv.w_notV)) | ((with_reducible apply Lv.w_ifT)) | ((with_reducible apply Lv.w_ifF)) | ((with_reducible apply Lv.w_ifNT)) | ((with_reducible apply Lv.w_ifNF)) | ((with_reducible apply Lv.w_yes)) | ((with_reducible apply Lv.w_ixT); (focus (first | assumption | (exact Lv.Join.g (by assumption) _ _ (by assumption)))); (focus (exact rfl))) | ((with_reducible apply Lv.w_aug); (focus (exact rfl))) | ((with_reducible apply Lv.w_rAdd)) | ((with_reducible apply Lv.w_rSub)) | ((with_reducible apply Lv.w_lcL)) | ((with_reducible apply Lv.w_lcT)) | ((with_reducible apply Lv.w_lcR)) | ((with_reducible apply Lv.w_sl)) | ((with_reducible apply Lv.w_npart)) | ((with_reducible apply Lv.w_part)) | ((with_reducible apply Lv.w_pint)) | ((with_reducible apply Lv.w_forR)) | ((with_reducible apply Lv.w_forR2)) | ((with_reducible apply Lv.w_par)) | ((with_reducible apply Lv.w_apar)) | ((with_reducible apply Lv.w_lcR2)) | ((with_reducible apply Lv.w_lcE)) | ((with_reducible apply Lv.w_isB)) | ((with_reducible apply Lv.w_isNB)) | ((with_reducible apply Lv.w_forL)) | ((with_reducible apply Lv.w_forT)) | ((with_reducible apply Lv.w_brk)) | ((with_reducible apply Lv.w_cont)) | ((with_reducible apply Lv.w_meth)) | ((with_reducible apply Lv.w_make)))
        refine catA_out j17 hu4 hu5 (by simp; omega) fun u6 G18 H19 e18 j18 hu6 => ?_
        replace ht := e18 _ _ ht; replace r2 := e18 _ _ r2; replace hu2 := e18 _ _ hu2; replace hv := hv.mono e18; replace hMK := hMK.mono e18; replace hMo := hMo.mono e18
        clear e18 j17 hu4 hu5
        (repeat first | ((with_reducible apply Lv.w_seq)) | ((with_reducible apply Lv.w_var); (focus (exact rfl))) | ((with_reducible apply Lv.w_op)) | ((with_reducible apply Lv.w_c)) | ((with_reducible apply Lv.w_cons)) | ((with_reducible apply Lv.w_nil)) | ((with_reducible apply Lv.w_rI0)) | ((with_reducible apply Lv.w_asg)) | ((with_reducible apply Lv.w_name)) | ((with_reducible apply Lv.w_call)) | ((with_reducible apply Lv.w_tof)) | ((with_reducible apply Lv.w_lof)) | ((with_reducible apply Lv.w_abs)) | ((with_reducible apply Lv.w_int1)) | ((with_reducible apply Lv.w_lenv)) | ((with_reducible apply Lv.w_lens)) | ((with_reducible apply Lv.w_cb)) | ((with_reducible apply Lv.w_rabs)) | ((with_reducible apply Lv.w_rint)) | ((with_reducible apply Lv.w_rintb)) | ((with_reducible apply Lv.w_rlenT); (focus (first | assumption | (exact Lv.Join.g (by assumption) _ _ (by assumption))))) | ((with_reducible apply Lv.w_rlenL); (focus (first | assumption | (exact Lv.Join.g (by assumption) _ _ (by assumption))))) | ((with_reducible apply Lv.w_slenT); (focus (first | assumption | (exact Lv.Join.g (by assumption) _ _ (by assumption))))) | ((with_reducible apply Lv.w_slenL); (focus (first | assumption | (exact Lv.Join.g (by assumption) _ _ (by assumption))))) | ((with_reducible apply Lv.w_klenT); (focus (first | assumption | (exact Lv.Join.g (by assumption) _ _ (by assumption))))) | ((with_reducible apply Lv.w_klenL); (focus (first | assumption | (exact Lv.Join.g (by assumption) _ _ (by assumption))))) | ((with_reducible apply Lv.w_bm)) | ((with_reducible apply Lv.w_bm0)) | ((with_reducible apply Lv.w_bml); (focus (first | assumption | (exact Lv.Join.g (by assumption) _ _ (by assumption))))) | ((with_reducible apply Lv.w_tup)) | ((with_reducible apply Lv.w_lst)) | ((with_reducible apply Lv.w_fld)) | ((with_reducible apply Lv.w_un)) | ((with_reducible apply Lv.w_rU)) | ((with_reducible apply Lv.w_ret)) | ((with_reducible apply Lv.w_retN)) | ((with_reducible apply Lv.w_next)) | ((with_reducible apply Lv.w_drop)) | ((with_reducible apply Lv.w_ifS)) | ((with_reducible apply Lv.w_gcons); (focus (exact rfl))) | ((with_reducible apply Lv.w_gnil); (focus (exact rfl))) | ((with_reducible apply Lv.w_gtup); (focus (first | assumption | (exact Lv.Join.g (by assumption) _ _ (by assumption)))); (focus (exact rfl))) | ((with_reducible apply Lv.w_eq); (focus (exact rfl))) | ((with_reducible apply Lv.w_ne); (focus (exact rfl))) | ((with_reducible apply Lv.w_tB)) | ((with_reducible apply Lv.w_test)) | ((with_reducible apply Lv.w_bl)) | ((with_reducible apply Lv.w_and)) | ((with_reducible apply Lv.w_or)) | ((with_reducible apply Lv.w_not)) | ((with_reducible apply Lv.w_andV)) | ((with_reducible apply Lv.w_orV)) | ((with_reducible apply Lv.w_notV)) | ((with_reducible apply Lv.w_ifT)) | ((with_reducible apply Lv.w_ifF)) | ((with_reducible apply Lv.w_ifNT)) | ((with_reducible apply Lv.w_ifNF)) | ((with_reducible apply Lv.w_yes)) | ((with_reducible apply Lv.w_ixT); (focus (first | assumption | (exact Lv.Join.g (by assumption) _ _ (by assumption)))); (focus (exact rfl))) | ((with_reducible apply Lv.w_aug); (focus (exact rfl))) | ((with_reducible apply Lv.w_rAdd)) | ((with_reducible apply Lv.w_rSub)) | ((with_reducible apply Lv.w_lcL)) | ((with_reducible apply Lv.w_lcT)) | ((with_reducible apply Lv.w_lcR)) | ((with_reducible apply Lv.w_sl)) | ((with_reducible apply Lv.w_npart)) | ((with_reducible apply Lv.w_part)) | ((with_reducible apply Lv.w_pint)) | ((with_reducible apply Lv.w_forR)) | ((with_reducible apply Lv.w_forR2)) | ((with_reducible apply Lv.w_par)) | ((with_reducible apply Lv.w_apar)) | ((with_reducible apply Lv.w_lcR2)) | ((with_reducible apply Lv.w_lcE)) | ((with_reducible apply Lv.w_isB)) | ((with_reducible apply Lv.w_isNB)) | ((with_reducible apply Lv.w_forL)) | ((with_reducible apply Lv.w_forT)) | ((with_reducible apply Lv.w_brk)) | ((with_reducible apply Lv.w_cont)) | ((with_reducible apply Lv.w_meth)) | ((with_reducible apply Lv.w_make)))
        refine aTup.go j18 (by show 4 ≤ 100000; decide) fun u7 G19 H20 hu7' e19 j19 hu7 => ?_
        replace ht := e19 _ _ ht; replace r2 := e19 _ _ r2; replace hu2 := e19 _ _ hu2; replace hu6 := e19 _ _ hu6; replace hv := hv.mono e19; replace hMK := hMK.mono e19; replace hMo := hMo.mono e19
        clear e19 j18 hu7'
        (repeat first | ((with_reducible apply Lv.w_seq)) | ((with_reducible apply Lv.w_var); (focus (exact rfl))) | ((with_reducible apply Lv.w_op)) | ((with_reducible apply Lv.w_c)) | ((with_reducible apply Lv.w_cons)) | ((with_reducible apply Lv.w_nil)) | ((with_reducible apply Lv.w_rI0)) | ((with_reducible apply Lv.w_asg)) | ((with_reducible apply Lv.w_name)) | ((with_reducible apply Lv.w_call)) | ((with_reducible apply Lv.w_tof)) | ((with_reducible apply Lv.w_lof)) | ((with_reducible apply Lv.w_abs)) | ((with_reducible apply Lv.w_int1)) | ((with_reducible apply Lv.w_lenv)) | ((with_reducible apply Lv.w_lens)) | ((with_reducible apply Lv.w_cb)) | ((with_reducible apply Lv.w_rabs)) | ((with_reducible apply Lv.w_rint)) | ((with_reducible apply Lv.w_rintb)) | ((with_reducible apply Lv.w_rlenT); (focus (first | assumption | (exact Lv.Join.g (by assumption) _ _ (by assumption))))) | ((with_reducible apply Lv.w_rlenL); (focus (first | assumption | (exact Lv.Join.g (by assumption) _ _ (by assumption))))) | ((with_reducible apply Lv.w_slenT); (focus (first | assumption | (exact Lv.Join.g (by assumption) _ _ (by assumption))))) | ((with_reducible apply Lv.w_slenL); (focus (first | assumption | (exact Lv.Join.g (by assumption) _ _ (by assumption))))) | ((with_reducible apply Lv.w_klenT); (focus (first | assumption | (exact Lv.Join.g (by assumption) _ _ (by assumption))))) | ((with_reducible apply Lv.w_klenL); (focus (first | assumption | (exact Lv.Join.g (by assumption) _ _ (by assumption))))) | ((with_reducible apply Lv.w_bm)) | ((with_reducible apply Lv.w_bm0)) | ((with_reducible apply Lv.w_bml); (focus (first | assumption | (exact Lv.Join.g (by assumption) _ _ (by assumption))))) | ((with_reducible apply Lv.w_tup)) | ((with_reducible apply Lv.w_lst)) | ((with_reducible apply Lv.w_fld)) | ((with_reducible apply Lv.w_un)) | ((with_reducible apply Lv.w_rU)) | ((with_reducible apply Lv.w_ret)) | ((with_reducible apply Lv.w_retN)) | ((with_reducible apply Lv.w_next)) | ((with_reducible apply Lv.w_drop)) | ((with_reducible apply Lv.w_ifS)) | ((with_reducible apply Lv.w_gcons); (focus (exact rfl))) | ((with_reducible apply Lv.w_gnil); (focus (exact rfl))) | ((with_reducible apply Lv.w_gtup); (focus (first | assumption | (exact Lv.Join.g (by assumption) _ _ (by assumption)))); (focus (exact rfl))) | ((with_reducible apply Lv.w_eq); (focus (exact rfl))) | ((with_reducible apply Lv.w_ne); (focus (exact rfl))) | ((with_reducible apply Lv.w_tB)) | ((with_reducible apply Lv.w_test)) | ((with_reducible apply Lv.w_bl)) | ((with_reducible apply Lv.w_and)) | ((with_reducible apply Lv.w_or)) | ((with_reducible apply Lv.w_not)) | ((with_reducible apply Lv.w_andV)) | ((with_reducible apply Lv.w_orV)) | ((with_reducible apply Lv.w_notV)) | ((with_reducible apply Lv.w_ifT)) | ((with_reducible apply Lv.w_ifF)) | ((with_reducible apply Lv.w_ifNT)) | ((with_reducible apply Lv.w_ifNF)) | ((with_reducible apply Lv.w_yes)) | ((with_reducible apply Lv.w_ixT); (focus (first | assumption | (exact Lv.Join.g (by assumption) _ _ (by assumption)))); (focus (exact rfl))) | ((with_reducible apply Lv.w_aug); (focus (exact rfl))) | ((with_reducible apply Lv.w_rAdd)) | ((with_reducible apply Lv.w_rSub)) | ((with_reducible apply Lv.w_lcL)) | ((with_reducible apply Lv.w_lcT)) | ((with_reducible apply Lv.w_lcR)) | ((with_reducible apply Lv.w_sl)) | ((with_reducible apply Lv.w_npart)) | ((with_reducible apply Lv.w_part)) | ((with_reducible apply Lv.w_pint)) | ((with_reducible apply Lv.w_forR)) | ((with_reducible apply Lv.w_forR2)) | ((with_reducible apply Lv.w_par)) | ((with_reducible apply Lv.w_apar)) | ((with_reducible apply Lv.w_lcR2)) | ((with_reducible apply Lv.w_lcE)) | ((with_reducible apply Lv.w_isB)) | ((with_reducible apply Lv.w_isNB)) | ((with_reducible apply Lv.w_forL)) | ((with_reducible apply Lv.w_forT)) | ((with_reducible apply Lv.w_brk)) | ((with_reducible apply Lv.w_cont)) | ((with_reducible apply Lv.w_meth)) | ((with_reducible apply Lv.w_make)))
        refine aTup.go j19 (by show 1 ≤ 100000; decide) fun u8 G20 H21 hu8' e20 j20 hu8 => ?_
        replace ht := e20 _ _ ht; replace r2 := e20 _ _ r2; replace hu2 := e20 _ _ hu2; replace hu6 := e20 _ _ hu6; replace hu7 := e20 _ _ hu7; replace hv := hv.mono e20; replace hMK := hMK.mono e20; replace hMo := hMo.mono e20
        clear e20 j19 hu8'
        (repeat first | ((with_reducible apply Lv.w_seq)) | ((with_reducible apply Lv.w_var); (focus (exact rfl))) | ((with_reducible apply Lv.w_op)) | ((with_reducible apply Lv.w_c)) | ((with_reducible apply Lv.w_cons)) | ((with_reducible apply Lv.w_nil)) | ((with_reducible apply Lv.w_rI0)) | ((with_reducible apply Lv.w_asg)) | ((with_reducible apply Lv.w_name)) | ((with_reducible apply Lv.w_call)) | ((with_reducible apply Lv.w_tof)) | ((with_reducible apply Lv.w_lof)) | ((with_reducible apply Lv.w_abs)) | ((with_reducible apply Lv.w_int1)) | ((with_reducible apply Lv.w_lenv)) | ((with_reducible apply Lv.w_lens)) | ((with_reducible apply Lv.w_cb)) | ((with_reducible apply Lv.w_rabs)) | ((with_reducible apply Lv.w_rint)) | ((with_reducible apply Lv.w_rintb)) | ((with_reducible apply Lv.w_rlenT); (focus (first | assumption | (exact Lv.Join.g (by assumption) _ _ (by assumption))))) | ((with_reducible apply Lv.w_rlenL); (focus (first | assumption | (exact Lv.Join.g (by assumption) _ _ (by assumption))))) | ((with_reducible apply Lv.w_slenT); (focus (first | assumption | (exact Lv.Join.g (by assumption) _ _ (by assumption))))) | ((with_reducible apply Lv.w_slenL); (focus (first | assumption | (exact Lv.Join.g (by assumption) _ _ (by assumption))))) | ((with_reducible apply Lv.w_klenT); (focus (first | assumption | (exact Lv.Join.g (by assumption) _ _ (by assumption))))) | ((with_reducible apply Lv.w_klenL); (focus (first | assumption | (exact Lv.Join.g (by assumption) _ _ (by assumption))))) | ((with_reducible apply Lv.w_bm)) | ((with_reducible apply Lv.w_bm0)) | ((with_reducible apply Lv.w_bml); (focus (first | assumption | (exact Lv.Join.g (by assumption) _ _ (by assumption))))) | ((with_reducible apply Lv.w_tup)) | ((with_reducible apply Lv.w_lst)) | ((with_reducible apply Lv.w_fld)) | ((with_reducible apply Lv.w_un)) | ((with_reducible apply Lv.w_rU)) | ((with_reducible apply Lv.w_ret)) | ((with_reducible apply Lv.w_retN)) | ((with_reducible apply Lv.w_next)) | ((with_reducible apply Lv.w_drop)) | ((with_reducible apply Lv.w_ifS)) | ((with_reducible apply Lv.w_gcons); (focus (exact rfl))) | ((with_reducible apply Lv.w_gnil); (focus (exact rfl))) | ((with_reducible apply Lv.w_gtup); (focus (first | assumption | (exact Lv.Join.g (by assumption) _ _ (by assumption)))); (focus (exact rfl))) | ((with_reducible apply Lv.w_eq); (focus (exact rfl))) | ((with_reducible apply Lv.w_ne); (focus (exact rfl))) | ((with_reducible apply Lv.w_tB)) | ((with_reducible apply Lv.w_test)) | ((with_reducible apply Lv.w_bl)) | ((with_reducible apply Lv.w_and)) | ((with_reducible apply Lv.w_or)) | ((with_reducible apply Lv.w_not)) | ((with_reducible apply Lv.w_andV)) | ((with_reducible apply Lv.w_orV)) | ((with_reducible apply Lv.w_notV)) | ((with_reducible apply Lv.w_ifT)) | ((with_reducible apply Lv.w_ifF)) | ((with_reducible apply Lv.w_ifNT)) | ((with_reducible apply Lv.w_ifNF)) | ((with_reducible apply Lv.w_yes)) | ((with_reducible apply Lv.w_ixT); (focus (first | assumption | (exact Lv.Join.g (by assumption) _ _ (by assumption)))); (focus (exact rfl))) | ((with_reducible apply Lv.w_aug); (focus (exact rfl))) | ((with_reducible apply Lv.w_rAdd)) | ((with_reducible apply Lv.w_rSub)) | ((with_reducible apply Lv.w_lcL)) | ((with_reducible apply Lv.w_lcT)) | ((with_reducible apply Lv.w_lcR)) | ((with_reducible apply Lv.w_sl)) | ((with_reducible apply Lv.w_npart)) | ((with_reducible apply Lv.w_part)) | ((with_reducible apply Lv.w_pint)) | ((with_reducible apply Lv.w_forR)) | ((with_reducible apply Lv.w_forR2)) | ((with_reducible apply Lv.w_par)) | ((with_reducible apply Lv.w_apar)) | ((with_reducible apply Lv.w_lcR2)) | ((with_reducible apply Lv.w_lcE)) | ((with_reducible apply Lv.w_isB)) | ((with_reducible apply Lv.w_isNB)) | ((with_reducible apply Lv.w_forL)) | ((with_reducible apply Lv.w_forT)) | ((with_reducible apply Lv.w_brk)) | ((with_reducible apply Lv.w_cont)) | ((with_reducible apply Lv.w_meth)) | ((with_reducible apply Lv.w_make)))
        refine catA_out j20 hu6 hu8 (by simp; omega) fun u9 G21 H22 e21 j21 hu9 => ?_
        replace ht := e21 _ _ ht; replace r2 := e21 _ _ r2; replace hu2 := e21 _ _ hu2; replace hu7 := e21 _ _ hu7; replace hv := hv.mono e21; replace hMK := hMK.mono e21; replace hMo := hMo.mono e21
        clear e21 j20 hu6 hu8
        have hdue : EvL G21 _ (partE n es kk e (1 + f) z) := TupL.app (TupL.app (TupL.app (TupL.take hv kk) (TupL.one (f := evV) (a := ⟨e.b, n, 1 + f, z⟩) hu2)) (TupL.drop hv (kk + 1))) (TupL.one (f := evV) (a := ⟨n, e.a, e.w - (1 + f), e.x - z⟩) hu7)
        have hMoK : MachK K G21 o (n + 1) (partE n es kk e (1 + f) z) := ⟨_, mc_R T, hMo⟩
        (repeat first | ((with_reducible apply Lv.w_seq)) | ((with_reducible apply Lv.w_var); (focus (exact rfl))) | ((with_reducible apply Lv.w_op)) | ((with_reducible apply Lv.w_c)) | ((with_reducible apply Lv.w_cons)) | ((with_reducible apply Lv.w_nil)) | ((with_reducible apply Lv.w_rI0)) | ((with_reducible apply Lv.w_asg)) | ((with_reducible apply Lv.w_name)) | ((with_reducible apply Lv.w_call)) | ((with_reducible apply Lv.w_tof)) | ((with_reducible apply Lv.w_lof)) | ((with_reducible apply Lv.w_abs)) | ((with_reducible apply Lv.w_int1)) | ((with_reducible apply Lv.w_lenv)) | ((with_reducible apply Lv.w_lens)) | ((with_reducible apply Lv.w_cb)) | ((with_reducible apply Lv.w_rabs)) | ((with_reducible apply Lv.w_rint)) | ((with_reducible apply Lv.w_rintb)) | ((with_reducible apply Lv.w_rlenT); (focus (first | assumption | (exact Lv.Join.g (by assumption) _ _ (by assumption))))) | ((with_reducible apply Lv.w_rlenL); (focus (first | assumption | (exact Lv.Join.g (by assumption) _ _ (by assumption))))) | ((with_reducible apply Lv.w_slenT); (focus (first | assumption | (exact Lv.Join.g (by assumption) _ _ (by assumption))))) | ((with_reducible apply Lv.w_slenL); (focus (first | assumption | (exact Lv.Join.g (by assumption) _ _ (by assumption))))) | ((with_reducible apply Lv.w_klenT); (focus (first | assumption | (exact Lv.Join.g (by assumption) _ _ (by assumption))))) | ((with_reducible apply Lv.w_klenL); (focus (first | assumption | (exact Lv.Join.g (by assumption) _ _ (by assumption))))) | ((with_reducible apply Lv.w_bm)) | ((with_reducible apply Lv.w_bm0)) | ((with_reducible apply Lv.w_bml); (focus (first | assumption | (exact Lv.Join.g (by assumption) _ _ (by assumption))))) | ((with_reducible apply Lv.w_tup)) | ((with_reducible apply Lv.w_lst)) | ((with_reducible apply Lv.w_fld)) | ((with_reducible apply Lv.w_un)) | ((with_reducible apply Lv.w_rU)) | ((with_reducible apply Lv.w_ret)) | ((with_reducible apply Lv.w_retN)) | ((with_reducible apply Lv.w_next)) | ((with_reducible apply Lv.w_drop)) | ((with_reducible apply Lv.w_ifS)) | ((with_reducible apply Lv.w_gcons); (focus (exact rfl))) | ((with_reducible apply Lv.w_gnil); (focus (exact rfl))) | ((with_reducible apply Lv.w_gtup); (focus (first | assumption | (exact Lv.Join.g (by assumption) _ _ (by assumption)))); (focus (exact rfl))) | ((with_reducible apply Lv.w_eq); (focus (exact rfl))) | ((with_reducible apply Lv.w_ne); (focus (exact rfl))) | ((with_reducible apply Lv.w_tB)) | ((with_reducible apply Lv.w_test)) | ((with_reducible apply Lv.w_bl)) | ((with_reducible apply Lv.w_and)) | ((with_reducible apply Lv.w_or)) | ((with_reducible apply Lv.w_not)) | ((with_reducible apply Lv.w_andV)) | ((with_reducible apply Lv.w_orV)) | ((with_reducible apply Lv.w_notV)) | ((with_reducible apply Lv.w_ifT)) | ((with_reducible apply Lv.w_ifF)) | ((with_reducible apply Lv.w_ifNT)) | ((with_reducible apply Lv.w_ifNF)) | ((with_reducible apply Lv.w_yes)) | ((with_reducible apply Lv.w_ixT); (focus (first | assumption | (exact Lv.Join.g (by assumption) _ _ (by assumption)))); (focus (exact rfl))) | ((with_reducible apply Lv.w_aug); (focus (exact rfl))) | ((with_reducible apply Lv.w_rAdd)) | ((with_reducible apply Lv.w_rSub)) | ((with_reducible apply Lv.w_lcL)) | ((with_reducible apply Lv.w_lcT)) | ((with_reducible apply Lv.w_lcR)) | ((with_reducible apply Lv.w_sl)) | ((with_reducible apply Lv.w_npart)) | ((with_reducible apply Lv.w_part)) | ((with_reducible apply Lv.w_pint)) | ((with_reducible apply Lv.w_forR)) | ((with_reducible apply Lv.w_forR2)) | ((with_reducible apply Lv.w_par)) | ((with_reducible apply Lv.w_apar)) | ((with_reducible apply Lv.w_lcR2)) | ((with_reducible apply Lv.w_lcE)) | ((with_reducible apply Lv.w_isB)) | ((with_reducible apply Lv.w_isNB)) | ((with_reducible apply Lv.w_forL)) | ((with_reducible apply Lv.w_forT)) | ((with_reducible apply Lv.w_brk)) | ((with_reducible apply Lv.w_cont)) | ((with_reducible apply Lv.w_meth)) | ((with_reducible apply Lv.w_make)))
        refine isi_mach j21 hMoK ?_
        (repeat first | ((with_reducible apply Lv.w_seq)) | ((with_reducible apply Lv.w_var); (focus (exact rfl))) | ((with_reducible apply Lv.w_op)) | ((with_reducible apply Lv.w_c)) | ((with_reducible apply Lv.w_cons)) | ((with_reducible apply Lv.w_nil)) | ((with_reducible apply Lv.w_rI0)) | ((with_reducible apply Lv.w_asg)) | ((with_reducible apply Lv.w_name)) | ((with_reducible apply Lv.w_call)) | ((with_reducible apply Lv.w_tof)) | ((with_reducible apply Lv.w_lof)) | ((with_reducible apply Lv.w_abs)) | ((with_reducible apply Lv.w_int1)) | ((with_reducible apply Lv.w_lenv)) | ((with_reducible apply Lv.w_lens)) | ((with_reducible apply Lv.w_cb)) | ((with_reducible apply Lv.w_rabs)) | ((with_reducible apply Lv.w_rint)) | ((with_reducible apply Lv.w_rintb)) | ((with_reducible apply Lv.w_rlenT); (focus (first | assumption | (exact Lv.Join.g (by assumption) _ _ (by assumption))))) | ((with_reducible apply Lv.w_rlenL); (focus (first | assumption | (exact Lv.Join.g (by assumption) _ _ (by assumption))))) | ((with_reducible apply Lv.w_slenT); (focus (first | assumption | (exact Lv.Join.g (by assumption) _ _ (by assumption))))) | ((with_reducible apply Lv.w_slenL); (focus (first | assumption | (exact Lv.Join.g (by assumption) _ _ (by assumption))))) | ((with_reducible apply Lv.w_klenT); (focus (first | assumption | (exact Lv.Join.g (by assumption) _ _ (by assumption))))) | ((with_reducible apply Lv.w_klenL); (focus (first | assumption | (exact Lv.Join.g (by assumption) _ _ (by assumption))))) | ((with_reducible apply Lv.w_bm)) | ((with_reducible apply Lv.w_bm0)) | ((with_reducible apply Lv.w_bml); (focus (first | assumption | (exact Lv.Join.g (by assumption) _ _ (by assumption))))) | ((with_reducible apply Lv.w_tup)) | ((with_reducible apply Lv.w_lst)) | ((with_reducible apply Lv.w_fld)) | ((with_reducible apply Lv.w_un)) | ((with_reducible apply Lv.w_rU)) | ((with_reducible apply Lv.w_ret)) | ((with_reducible apply Lv.w_retN)) | ((with_reducible apply Lv.w_next)) | ((with_reducible apply Lv.w_drop)) | ((with_reducible apply Lv.w_ifS)) | ((with_reducible apply Lv.w_gcons); (focus (exact rfl))) | ((with_reducible apply Lv.w_gnil); (focus (exact rfl))) | ((with_reducible apply Lv.w_gtup); (focus (first | assumption | (exact Lv.Join.g (by assumption) _ _ (by assumption)))); (focus (exact rfl))) | ((with_reducible apply Lv.w_eq); (focus (exact rfl))) | ((with_reducible apply Lv.w_ne); (focus (exact rfl))) | ((with_reducible apply Lv.w_tB)) | ((with_reducible apply Lv.w_test)) | ((with_reducible apply Lv.w_bl)) | ((with_reducible apply Lv.w_and)) | ((with_reducible apply Lv.w_or)) | ((with_reducible apply Lv.w_not)) | ((with_reducible apply Lv.w_andV)) | ((with_reducible apply Lv.w_orV)) | ((with_reducible apply Lv.w_notV)) | ((with_reducible apply Lv.w_ifT)) | ((with_reducible apply Lv.w_ifF)) | ((with_reducible apply Lv.w_ifNT)) | ((with_reducible apply Lv.w_ifNF)) | ((with_reducible apply Lv.w_yes)) | ((with_reducible apply Lv.w_ixT); (focus (first | assumption | (exact Lv.Join.g (by assumption) _ _ (by assumption)))); (focus (exact rfl))) | ((with_reducible apply Lv.w_aug); (focus (exact rfl))) | ((with_reducible apply Lv.w_rAdd)) | ((with_reducible apply Lv.w_rSub)) | ((with_reducible apply Lv.w_lcL)) | ((with_reducible apply Lv.w_lcT)) | ((with_reducible apply Lv.w_lcR)) | ((with_reducible apply Lv.w_sl)) | ((with_reducible apply Lv.w_npart)) | ((with_reducible apply Lv.w_part)) | ((with_reducible apply Lv.w_pint)) | ((with_reducible apply Lv.w_forR)) | ((with_reducible apply Lv.w_forR2)) | ((with_reducible apply Lv.w_par)) | ((with_reducible apply Lv.w_apar)) | ((with_reducible apply Lv.w_lcR2)) | ((with_reducible apply Lv.w_lcE)) | ((with_reducible apply Lv.w_isB)) | ((with_reducible apply Lv.w_isNB)) | ((with_reducible apply Lv.w_forL)) | ((with_reducible apply Lv.w_forT)) | ((with_reducible apply Lv.w_brk)) | ((with_reducible apply Lv.w_cont)) | ((with_reducible apply Lv.w_meth)) | ((with_reducible apply Lv.w_make)))
        refine aFld.ns j21 hMoK ?_
        (repeat first | ((with_reducible apply Lv.w_seq)) | ((with_reducible apply Lv.w_var); (focus (exact rfl))) | ((with_reducible apply Lv.w_op)) | ((with_reducible apply Lv.w_c)) | ((with_reducible apply Lv.w_cons)) | ((with_reducible apply Lv.w_nil)) | ((with_reducible apply Lv.w_rI0)) | ((with_reducible apply Lv.w_asg)) | ((with_reducible apply Lv.w_name)) | ((with_reducible apply Lv.w_call)) | ((with_reducible apply Lv.w_tof)) | ((with_reducible apply Lv.w_lof)) | ((with_reducible apply Lv.w_abs)) | ((with_reducible apply Lv.w_int1)) | ((with_reducible apply Lv.w_lenv)) | ((with_reducible apply Lv.w_lens)) | ((with_reducible apply Lv.w_cb)) | ((with_reducible apply Lv.w_rabs)) | ((with_reducible apply Lv.w_rint)) | ((with_reducible apply Lv.w_rintb)) | ((with_reducible apply Lv.w_rlenT); (focus (first | assumption | (exact Lv.Join.g (by assumption) _ _ (by assumption))))) | ((with_reducible apply Lv.w_rlenL); (focus (first | assumption | (exact Lv.Join.g (by assumption) _ _ (by assumption))))) | ((with_reducible apply Lv.w_slenT); (focus (first | assumption | (exact Lv.Join.g (by assumption) _ _ (by assumption))))) | ((with_reducible apply Lv.w_slenL); (focus (first | assumption | (exact Lv.Join.g (by assumption) _ _ (by assumption))))) | ((with_reducible apply Lv.w_klenT); (focus (first | assumption | (exact Lv.Join.g (by assumption) _ _ (by assumption))))) | ((with_reducible apply Lv.w_klenL); (focus (first | assumption | (exact Lv.Join.g (by assumption) _ _ (by assumption))))) | ((with_reducible apply Lv.w_bm)) | ((with_reducible apply Lv.w_bm0)) | ((with_reducible apply Lv.w_bml); (focus (first | assumption | (exact Lv.Join.g (by assumption) _ _ (by assumption))))) | ((with_reducible apply Lv.w_tup)) | ((with_reducible apply Lv.w_lst)) | ((with_reducible apply Lv.w_fld)) | ((with_reducible apply Lv.w_un)) | ((with_reducible apply Lv.w_rU)) | ((with_reducible apply Lv.w_ret)) | ((with_reducible apply Lv.w_retN)) | ((with_reducible apply Lv.w_next)) | ((with_reducible apply Lv.w_drop)) | ((with_reducible apply Lv.w_ifS)) | ((with_reducible apply Lv.w_gcons); (focus (exact rfl))) | ((with_reducible apply Lv.w_gnil); (focus (exact rfl))) | ((with_reducible apply Lv.w_gtup); (focus (first | assumption | (exact Lv.Join.g (by assumption) _ _ (by assumption)))); (focus (exact rfl))) | ((with_reducible apply Lv.w_eq); (focus (exact rfl))) | ((with_reducible apply Lv.w_ne); (focus (exact rfl))) | ((with_reducible apply Lv.w_tB)) | ((with_reducible apply Lv.w_test)) | ((with_reducible apply Lv.w_bl)) | ((with_reducible apply Lv.w_and)) | ((with_reducible apply Lv.w_or)) | ((with_reducible apply Lv.w_not)) | ((with_reducible apply Lv.w_andV)) | ((with_reducible apply Lv.w_orV)) | ((with_reducible apply Lv.w_notV)) | ((with_reducible apply Lv.w_ifT)) | ((with_reducible apply Lv.w_ifF)) | ((with_reducible apply Lv.w_ifNT)) | ((with_reducible apply Lv.w_ifNF)) | ((with_reducible apply Lv.w_yes)) | ((with_reducible apply Lv.w_ixT); (focus (first | assumption | (exact Lv.Join.g (by assumption) _ _ (by assumption)))); (focus (exact rfl))) | ((with_reducible apply Lv.w_aug); (focus (exact rfl))) | ((with_reducible apply Lv.w_rAdd)) | ((with_reducible apply Lv.w_rSub)) | ((with_reducible apply Lv.w_lcL)) | ((with_reducible apply Lv.w_lcT)) | ((with_reducible apply Lv.w_lcR)) | ((with_reducible apply Lv.w_sl)) | ((with_reducible apply Lv.w_npart)) | ((with_reducible apply Lv.w_part)) | ((with_reducible apply Lv.w_pint)) | ((with_reducible apply Lv.w_forR)) | ((with_reducible apply Lv.w_forR2)) | ((with_reducible apply Lv.w_par)) | ((with_reducible apply Lv.w_apar)) | ((with_reducible apply Lv.w_lcR2)) | ((with_reducible apply Lv.w_lcE)) | ((with_reducible apply Lv.w_isB)) | ((with_reducible apply Lv.w_isNB)) | ((with_reducible apply Lv.w_forL)) | ((with_reducible apply Lv.w_forT)) | ((with_reducible apply Lv.w_brk)) | ((with_reducible apply Lv.w_cont)) | ((with_reducible apply Lv.w_meth)) | ((with_reducible apply Lv.w_make)))
        refine itNF rfl ?_
        (repeat first | ((with_reducible apply Lv.w_seq)) | ((with_reducible apply Lv.w_var); (focus (exact rfl))) | ((with_reducible apply Lv.w_op)) | ((with_reducible apply Lv.w_c)) | ((with_reducible apply Lv.w_cons)) | ((with_reducible apply Lv.w_nil)) | ((with_reducible apply Lv.w_rI0)) | ((with_reducible apply Lv.w_asg)) | ((with_reducible apply Lv.w_name)) | ((with_reducible apply Lv.w_call)) | ((with_reducible apply Lv.w_tof)) | ((with_reducible apply Lv.w_lof)) | ((with_reducible apply Lv.w_abs)) | ((with_reducible apply Lv.w_int1)) | ((with_reducible apply Lv.w_lenv)) | ((with_reducible apply Lv.w_lens)) | ((with_reducible apply Lv.w_cb)) | ((with_reducible apply Lv.w_rabs)) | ((with_reducible apply Lv.w_rint)) | ((with_reducible apply Lv.w_rintb)) | ((with_reducible apply Lv.w_rlenT); (focus (first | assumption | (exact Lv.Join.g (by assumption) _ _ (by assumption))))) | ((with_reducible apply Lv.w_rlenL); (focus (first | assumption | (exact Lv.Join.g (by assumption) _ _ (by assumption))))) | ((with_reducible apply Lv.w_slenT); (focus (first | assumption | (exact Lv.Join.g (by assumption) _ _ (by assumption))))) | ((with_reducible apply Lv.w_slenL); (focus (first | assumption | (exact Lv.Join.g (by assumption) _ _ (by assumption))))) | ((with_reducible apply Lv.w_klenT); (focus (first | assumption | (exact Lv.Join.g (by assumption) _ _ (by assumption))))) | ((with_reducible apply Lv.w_klenL); (focus (first | assumption | (exact Lv.Join.g (by assumption) _ _ (by assumption))))) | ((with_reducible apply Lv.w_bm)) | ((with_reducible apply Lv.w_bm0)) | ((with_reducible apply Lv.w_bml); (focus (first | assumption | (exact Lv.Join.g (by assumption) _ _ (by assumption))))) | ((with_reducible apply Lv.w_tup)) | ((with_reducible apply Lv.w_lst)) | ((with_reducible apply Lv.w_fld)) | ((with_reducible apply Lv.w_un)) | ((with_reducible apply Lv.w_rU)) | ((with_reducible apply Lv.w_ret)) | ((with_reducible apply Lv.w_retN)) | ((with_reducible apply Lv.w_next)) | ((with_reducible apply Lv.w_drop)) | ((with_reducible apply Lv.w_ifS)) | ((with_reducible apply Lv.w_gcons); (focus (exact rfl))) | ((with_reducible apply Lv.w_gnil); (focus (exact rfl))) | ((with_reducible apply Lv.w_gtup); (focus (first | assumption | (exact Lv.Join.g (by assumption) _ _ (by assumption)))); (focus (exact rfl))) | ((with_reducible apply Lv.w_eq); (focus (exact rfl))) | ((with_reducible apply Lv.w_ne); (focus (exact rfl))) | ((with_reducible apply Lv.w_tB)) | ((with_reducible apply Lv.w_test)) | ((with_reducible apply Lv.w_bl)) | ((with_reducible apply Lv.w_and)) | ((with_reducible apply Lv.w_or)) | ((with_reducible apply Lv.w_not)) | ((with_reducible apply Lv.w_andV)) | ((with_reducible apply Lv.w_orV)) | ((with_reducible apply Lv.w_notV)) | ((with_reducible apply Lv.w_ifT)) | ((with_reducible apply Lv.w_ifF)) | ((with_reducible apply Lv.w_ifNT)) | ((with_reducible apply Lv.w_ifNF)) | ((with_reducible apply Lv.w_yes)) | ((with_reducible apply Lv.w_ixT); (focus (first | assumption | (exact Lv.Join.g (by assumption) _ _ (by assumption)))); (focus (exact rfl))) | ((with_reducible apply Lv.w_aug); (focus (exact rfl))) | ((with_reducible apply Lv.w_rAdd)) | ((with_reducible apply Lv.w_rSub)) | ((with_reducible apply Lv.w_lcL)) | ((with_reducible apply Lv.w_lcT)) | ((with_reducible apply Lv.w_lcR)) | ((with_reducible apply Lv.w_sl)) | ((with_reducible apply Lv.w_npart)) | ((with_reducible apply Lv.w_part)) | ((with_reducible apply Lv.w_pint)) | ((with_reducible apply Lv.w_forR)) | ((with_reducible apply Lv.w_forR2)) | ((with_reducible apply Lv.w_par)) | ((with_reducible apply Lv.w_apar)) | ((with_reducible apply Lv.w_lcR2)) | ((with_reducible apply Lv.w_lcE)) | ((with_reducible apply Lv.w_isB)) | ((with_reducible apply Lv.w_isNB)) | ((with_reducible apply Lv.w_forL)) | ((with_reducible apply Lv.w_forT)) | ((with_reducible apply Lv.w_brk)) | ((with_reducible apply Lv.w_cont)) | ((with_reducible apply Lv.w_meth)) | ((with_reducible apply Lv.w_make)))
        refine aFld.ne j21 hMoK fun ot ov hot hov => ?_
        (repeat first | ((with_reducible apply Lv.w_seq)) | ((with_reducible apply Lv.w_var); (focus (exact rfl))) | ((with_reducible apply Lv.w_op)) | ((with_reducible apply Lv.w_c)) | ((with_reducible apply Lv.w_cons)) | ((with_reducible apply Lv.w_nil)) | ((with_reducible apply Lv.w_rI0)) | ((with_reducible apply Lv.w_asg)) | ((with_reducible apply Lv.w_name)) | ((with_reducible apply Lv.w_call)) | ((with_reducible apply Lv.w_tof)) | ((with_reducible apply Lv.w_lof)) | ((with_reducible apply Lv.w_abs)) | ((with_reducible apply Lv.w_int1)) | ((with_reducible apply Lv.w_lenv)) | ((with_reducible apply Lv.w_lens)) | ((with_reducible apply Lv.w_cb)) | ((with_reducible apply Lv.w_rabs)) | ((with_reducible apply Lv.w_rint)) | ((with_reducible apply Lv.w_rintb)) | ((with_reducible apply Lv.w_rlenT); (focus (first | assumption | (exact Lv.Join.g (by assumption) _ _ (by assumption))))) | ((with_reducible apply Lv.w_rlenL); (focus (first | assumption | (exact Lv.Join.g (by assumption) _ _ (by assumption))))) | ((with_reducible apply Lv.w_slenT); (focus (first | assumption | (exact Lv.Join.g (by assumption) _ _ (by assumption))))) | ((with_reducible apply Lv.w_slenL); (focus (first | assumption | (exact Lv.Join.g (by assumption) _ _ (by assumption))))) | ((with_reducible apply Lv.w_klenT); (focus (first | assumption | (exact Lv.Join.g (by assumption) _ _ (by assumption))))) | ((with_reducible apply Lv.w_klenL); (focus (first | assumption | (exact Lv.Join.g (by assumption) _ _ (by assumption))))) | ((with_reducible apply Lv.w_bm)) | ((with_reducible apply Lv.w_bm0)) | ((with_reducible apply Lv.w_bml); (focus (first | assumption | (exact Lv.Join.g (by assumption) _ _ (by assumption))))) | ((with_reducible apply Lv.w_tup)) | ((with_reducible apply Lv.w_lst)) | ((with_reducible apply Lv.w_fld)) | ((with_reducible apply Lv.w_un)) | ((with_reducible apply Lv.w_rU)) | ((with_reducible apply Lv.w_ret)) | ((with_reducible apply Lv.w_retN)) | ((with_reducible apply Lv.w_next)) | ((with_reducible apply Lv.w_drop)) | ((with_reducible apply Lv.w_ifS)) | ((with_reducible apply Lv.w_gcons); (focus (exact rfl))) | ((with_reducible apply Lv.w_gnil); (focus (exact rfl))) | ((with_reducible apply Lv.w_gtup); (focus (first | assumption | (exact Lv.Join.g (by assumption) _ _ (by assumption)))); (focus (exact rfl))) | ((with_reducible apply Lv.w_eq); (focus (exact rfl))) | ((with_reducible apply Lv.w_ne); (focus (exact rfl))) | ((with_reducible apply Lv.w_tB)) | ((with_reducible apply Lv.w_test)) | ((with_reducible apply Lv.w_bl)) | ((with_reducible apply Lv.w_and)) | ((with_reducible apply Lv.w_or)) | ((with_reducible apply Lv.w_not)) | ((with_reducible apply Lv.w_andV)) | ((with_reducible apply Lv.w_orV)) | ((with_reducible apply Lv.w_notV)) | ((with_reducible apply Lv.w_ifT)) | ((with_reducible apply Lv.w_ifF)) | ((with_reducible apply Lv.w_ifNT)) | ((with_reducible apply Lv.w_ifNF)) | ((with_reducible apply Lv.w_yes)) | ((with_reducible apply Lv.w_ixT); (focus (first | assumption | (exact Lv.Join.g (by assumption) _ _ (by assumption)))); (focus (exact rfl))) | ((with_reducible apply Lv.w_aug); (focus (exact rfl))) | ((with_reducible apply Lv.w_rAdd)) | ((with_reducible apply Lv.w_rSub)) | ((with_reducible apply Lv.w_lcL)) | ((with_reducible apply Lv.w_lcT)) | ((with_reducible apply Lv.w_lcR)) | ((with_reducible apply Lv.w_sl)) | ((with_reducible apply Lv.w_npart)) | ((with_reducible apply Lv.w_part)) | ((with_reducible apply Lv.w_pint)) | ((with_reducible apply Lv.w_forR)) | ((with_reducible apply Lv.w_forR2)) | ((with_reducible apply Lv.w_par)) | ((with_reducible apply Lv.w_apar)) | ((with_reducible apply Lv.w_lcR2)) | ((with_reducible apply Lv.w_lcE)) | ((with_reducible apply Lv.w_isB)) | ((with_reducible apply Lv.w_isNB)) | ((with_reducible apply Lv.w_forL)) | ((with_reducible apply Lv.w_forT)) | ((with_reducible apply Lv.w_brk)) | ((with_reducible apply Lv.w_cont)) | ((with_reducible apply Lv.w_meth)) | ((with_reducible apply Lv.w_make)))
        refine neD_U j21 hot hov.tupL hu9 hdue.tupL ?_
        (repeat first | ((with_reducible apply Lv.w_seq)) | ((with_reducible apply Lv.w_var); (focus (exact rfl))) | ((with_reducible apply Lv.w_op)) | ((with_reducible apply Lv.w_c)) | ((with_reducible apply Lv.w_cons)) | ((with_reducible apply Lv.w_nil)) | ((with_reducible apply Lv.w_rI0)) | ((with_reducible apply Lv.w_asg)) | ((with_reducible apply Lv.w_name)) | ((with_reducible apply Lv.w_call)) | ((with_reducible apply Lv.w_tof)) | ((with_reducible apply Lv.w_lof)) | ((with_reducible apply Lv.w_abs)) | ((with_reducible apply Lv.w_int1)) | ((with_reducible apply Lv.w_lenv)) | ((with_reducible apply Lv.w_lens)) | ((with_reducible apply Lv.w_cb)) | ((with_reducible apply Lv.w_rabs)) | ((with_reducible apply Lv.w_rint)) | ((with_reducible apply Lv.w_rintb)) | ((with_reducible apply Lv.w_rlenT); (focus (first | assumption | (exact Lv.Join.g (by assumption) _ _ (by assumption))))) | ((with_reducible apply Lv.w_rlenL); (focus (first | assumption | (exact Lv.Join.g (by assumption) _ _ (by assumption))))) | ((with_reducible apply Lv.w_slenT); (focus (first | assumption | (exact Lv.Join.g (by assumption) _ _ (by assumption))))) | ((with_reducible apply Lv.w_slenL); (focus (first | assumption | (exact Lv.Join.g (by assumption) _ _ (by assumption))))) | ((with_reducible apply Lv.w_klenT); (focus (first | assumption | (exact Lv.Join.g (by assumption) _ _ (by assumption))))) | ((with_reducible apply Lv.w_klenL); (focus (first | assumption | (exact Lv.Join.g (by assumption) _ _ (by assumption))))) | ((with_reducible apply Lv.w_bm)) | ((with_reducible apply Lv.w_bm0)) | ((with_reducible apply Lv.w_bml); (focus (first | assumption | (exact Lv.Join.g (by assumption) _ _ (by assumption))))) | ((with_reducible apply Lv.w_tup)) | ((with_reducible apply Lv.w_lst)) | ((with_reducible apply Lv.w_fld)) | ((with_reducible apply Lv.w_un)) | ((with_reducible apply Lv.w_rU)) | ((with_reducible apply Lv.w_ret)) | ((with_reducible apply Lv.w_retN)) | ((with_reducible apply Lv.w_next)) | ((with_reducible apply Lv.w_drop)) | ((with_reducible apply Lv.w_ifS)) | ((with_reducible apply Lv.w_gcons); (focus (exact rfl))) | ((with_reducible apply Lv.w_gnil); (focus (exact rfl))) | ((with_reducible apply Lv.w_gtup); (focus (first | assumption | (exact Lv.Join.g (by assumption) _ _ (by assumption)))); (focus (exact rfl))) | ((with_reducible apply Lv.w_eq); (focus (exact rfl))) | ((with_reducible apply Lv.w_ne); (focus (exact rfl))) | ((with_reducible apply Lv.w_tB)) | ((with_reducible apply Lv.w_test)) | ((with_reducible apply Lv.w_bl)) | ((with_reducible apply Lv.w_and)) | ((with_reducible apply Lv.w_or)) | ((with_reducible apply Lv.w_not)) | ((with_reducible apply Lv.w_andV)) | ((with_reducible apply Lv.w_orV)) | ((with_reducible apply Lv.w_notV)) | ((with_reducible apply Lv.w_ifT)) | ((with_reducible apply Lv.w_ifF)) | ((with_reducible apply Lv.w_ifNT)) | ((with_reducible apply Lv.w_ifNF)) | ((with_reducible apply Lv.w_yes)) | ((with_reducible apply Lv.w_ixT); (focus (first | assumption | (exact Lv.Join.g (by assumption) _ _ (by assumption)))); (focus (exact rfl))) | ((with_reducible apply Lv.w_aug); (focus (exact rfl))) | ((with_reducible apply Lv.w_rAdd)) | ((with_reducible apply Lv.w_rSub)) | ((with_reducible apply Lv.w_lcL)) | ((with_reducible apply Lv.w_lcT)) | ((with_reducible apply Lv.w_lcR)) | ((with_reducible apply Lv.w_sl)) | ((with_reducible apply Lv.w_npart)) | ((with_reducible apply Lv.w_part)) | ((with_reducible apply Lv.w_pint)) | ((with_reducible apply Lv.w_forR)) | ((with_reducible apply Lv.w_forR2)) | ((with_reducible apply Lv.w_par)) | ((with_reducible apply Lv.w_apar)) | ((with_reducible apply Lv.w_lcR2)) | ((with_reducible apply Lv.w_lcE)) | ((with_reducible apply Lv.w_isB)) | ((with_reducible apply Lv.w_isNB)) | ((with_reducible apply Lv.w_forL)) | ((with_reducible apply Lv.w_forT)) | ((with_reducible apply Lv.w_brk)) | ((with_reducible apply Lv.w_cont)) | ((with_reducible apply Lv.w_meth)) | ((with_reducible apply Lv.w_make)))
        refine itNF rfl ?_
        (repeat first | ((with_reducible apply Lv.w_seq)) | ((with_reducible apply Lv.w_var); (focus (exact rfl))) | ((with_reducible apply Lv.w_op)) | ((with_reducible apply Lv.w_c)) | ((with_reducible apply Lv.w_cons)) | ((with_reducible apply Lv.w_nil)) | ((with_reducible apply Lv.w_rI0)) | ((with_reducible apply Lv.w_asg)) | ((with_reducible apply Lv.w_name)) | ((with_reducible apply Lv.w_call)) | ((with_reducible apply Lv.w_tof)) | ((with_reducible apply Lv.w_lof)) | ((with_reducible apply Lv.w_abs)) | ((with_reducible apply Lv.w_int1)) | ((with_reducible apply Lv.w_lenv)) | ((with_reducible apply Lv.w_lens)) | ((with_reducible apply Lv.w_cb)) | ((with_reducible apply Lv.w_rabs)) | ((with_reducible apply Lv.w_rint)) | ((with_reducible apply Lv.w_rintb)) | ((with_reducible apply Lv.w_rlenT); (focus (first | assumption | (exact Lv.Join.g (by assumption) _ _ (by assumption))))) | ((with_reducible apply Lv.w_rlenL); (focus (first | assumption | (exact Lv.Join.g (by assumption) _ _ (by assumption))))) | ((with_reducible apply Lv.w_slenT); (focus (first | assumption | (exact Lv.Join.g (by assumption) _ _ (by assumption))))) | ((with_reducible apply Lv.w_slenL); (focus (first | assumption | (exact Lv.Join.g (by assumption) _ _ (by assumption))))) | ((with_reducible apply Lv.w_klenT); (focus (first | assumption | (exact Lv.Join.g (by assumption) _ _ (by assumption))))) | ((with_reducible apply Lv.w_klenL); (focus (first | assumption | (exact Lv.Join.g (by assumption) _ _ (by assumption))))) | ((with_reducible apply Lv.w_bm)) | ((with_reducible apply Lv.w_bm0)) | ((with_reducible apply Lv.w_bml); (focus (first | assumption | (exact Lv.Join.g (by assumption) _ _ (by assumption))))) | ((with_reducible apply Lv.w_tup)) | ((with_reducible apply Lv.w_lst)) | ((with_reducible apply Lv.w_fld)) | ((with_reducible apply Lv.w_un)) | ((with_reducible apply Lv.w_rU)) | ((with_reducible apply Lv.w_ret)) | ((with_reducible apply Lv.w_retN)) | ((with_reducible apply Lv.w_next)) | ((with_reducible apply Lv.w_drop)) | ((with_reducible apply Lv.w_ifS)) | ((with_reducible apply Lv.w_gcons); (focus (exact rfl))) | ((with_reducible apply Lv.w_gnil); (focus (exact rfl))) | ((with_reducible apply Lv.w_gtup); (focus (first | assumption | (exact Lv.Join.g (by assumption) _ _ (by assumption)))); (focus (exact rfl))) | ((with_reducible apply Lv.w_eq); (focus (exact rfl))) | ((with_reducible apply Lv.w_ne); (focus (exact rfl))) | ((with_reducible apply Lv.w_tB)) | ((with_reducible apply Lv.w_test)) | ((with_reducible apply Lv.w_bl)) | ((with_reducible apply Lv.w_and)) | ((with_reducible apply Lv.w_or)) | ((with_reducible apply Lv.w_not)) | ((with_reducible apply Lv.w_andV)) | ((with_reducible apply Lv.w_orV)) | ((with_reducible apply Lv.w_notV)) | ((with_reducible apply Lv.w_ifT)) | ((with_reducible apply Lv.w_ifF)) | ((with_reducible apply Lv.w_ifNT)) | ((with_reducible apply Lv.w_ifNF)) | ((with_reducible apply Lv.w_yes)) | ((with_reducible apply Lv.w_ixT); (focus (first | assumption | (exact Lv.Join.g (by assumption) _ _ (by assumption)))); (focus (exact rfl))) | ((with_reducible apply Lv.w_aug); (focus (exact rfl))) | ((with_reducible apply Lv.w_rAdd)) | ((with_reducible apply Lv.w_rSub)) | ((with_reducible apply Lv.w_lcL)) | ((with_reducible apply Lv.w_lcT)) | ((with_reducible apply Lv.w_lcR)) | ((with_reducible apply Lv.w_sl)) | ((with_reducible apply Lv.w_npart)) | ((with_reducible apply Lv.w_part)) | ((with_reducible apply Lv.w_pint)) | ((with_reducible apply Lv.w_forR)) | ((with_reducible apply Lv.w_forR2)) | ((with_reducible apply Lv.w_par)) | ((with_reducible apply Lv.w_apar)) | ((with_reducible apply Lv.w_lcR2)) | ((with_reducible apply Lv.w_lcE)) | ((with_reducible apply Lv.w_isB)) | ((with_reducible apply Lv.w_isNB)) | ((with_reducible apply Lv.w_forL)) | ((with_reducible apply Lv.w_forT)) | ((with_reducible apply Lv.w_brk)) | ((with_reducible apply Lv.w_cont)) | ((with_reducible apply Lv.w_meth)) | ((with_reducible apply Lv.w_make)))
        clear hdue hu9 hot hov hu2 hu7 r2
        refine aForR.go (n := 3) rfl (by decide) (fun i2 G' P' σ' => Ex G21 G' ∧ Pot P' l ∧ ∃ (s13 s14 s15 s16 s17 s18 s19 s20 s21 s22 s23 : Option V), σ' = [some (.ref a), some (.ref l), some (.int i), some (.bl great), some (.ref m), some (.ref sm), some (.int n), some (.ref t), some (.int kk), some (.int (1 + f)), some (.int z), some (.ref o), some (.ref u9), s13, s14, s15, s16, s17, s18, s19, s20, s21, s22, s23]) j21 ⟨Ex.refl _, hP11, _, _, _, _, _, _, _, _, _, _, _, rfl⟩ ?_ ?_
        · rintro i2 G' P' H' σ' _ j' ⟨e', hP, s13, s14, s15, s16, s17, s18, s19, s20, s21, s22, s23, rfl⟩
          replace ht := e' _ _ ht; replace hv := hv.mono e'; replace hMK := hMK.mono e'; replace hMoK := hMoK.mono e'
          clear j21 hMo hP11
          (repeat first | ((with_reducible apply Lv.w_seq)) | ((with_reducible apply Lv.w_var); (focus (exact rfl))) | ((with_reducible apply Lv.w_op)) | ((with_reducible apply Lv.w_c)) | ((with_reducible apply Lv.w_cons)) | ((with_reducible apply Lv.w_nil)) | ((with_reducible apply Lv.w_rI0)) | ((with_reducible apply Lv.w_asg)) | ((with_reducible apply Lv.w_name)) | ((with_reducible apply Lv.w_call)) | ((with_reducible apply Lv.w_tof)) | ((with_reducible apply Lv.w_lof)) | ((with_reducible apply Lv.w_abs)) | ((with_reducible apply Lv.w_int1)) | ((with_reducible apply Lv.w_lenv)) | ((with_reducible apply Lv.w_lens)) | ((with_reducible apply Lv.w_cb)) | ((with_reducible apply Lv.w_rabs)) | ((with_reducible apply Lv.w_rint)) | ((with_reducible apply Lv.w_rintb)) | ((with_reducible apply Lv.w_rlenT); (focus (first | assumption | (exact Lv.Join.g (by assumption) _ _ (by assumption))))) | ((with_reducible apply Lv.w_rlenL); (focus (first | assumption | (exact Lv.Join.g (by assumption) _ _ (by assumption))))) | ((with_reducible apply Lv.w_slenT); (focus (first | assumption | (exact Lv.Join.g (by assumption) _ _ (by assumption))))) | ((with_reducible apply Lv.w_slenL); (focus (first | assumption | (exact Lv.Join.g (by assumption) _ _ (by assumption))))) | ((with_reducible apply Lv.w_klenT); (focus (first | assumption | (exact Lv.Join.g (by assumption) _ _ (by assumption))))) | ((with_reducible apply Lv.w_klenL); (focus (first | assumption | (exact Lv.Join.g (by assumption) _ _ (by assumption))))) | ((with_reducible apply Lv.w_bm)) | ((with_reducible apply Lv.w_bm0)) | ((with_reducible apply Lv.w_bml); (focus (first | assumption | (exact Lv.Join.g (by assumption) _ _ (by assumption))))) | ((with_reducible apply Lv.w_tup)) | ((with_reducible apply Lv.w_lst)) | ((with_reducible apply Lv.w_fld)) | ((with_reducible apply Lv.w_un)) | ((with_reducible apply Lv.w_rU)) | ((with_reducible apply Lv.w_ret)) | ((with_reducible apply Lv.w_retN)) | ((with_reducible apply Lv.w_next)) | ((with_reducible apply Lv.w_drop)) | ((with_reducible apply Lv.w_ifS)) | ((with_reducible apply Lv.w_gcons); (focus (exact rfl))) | ((with_reducible apply Lv.w_gnil); (focus (exact rfl))) | ((with_reducible apply Lv.w_gtup); (focus (first | assumption | (exact Lv.Join.g (by assumption) _ _ (by assumption)))); (focus (exact rfl))) | ((with_reducible apply Lv.w_eq); (focus (exact rfl))) | ((with_reducible apply Lv.w_ne); (focus (exact rfl))) | ((with_reducible apply Lv.w_tB)) | ((with_reducible apply Lv.w_test)) | ((with_reducible apply Lv.w_bl)) | ((with_reducible apply Lv.w_and)) | ((with_reducible apply Lv.w_or)) | ((with_reducible apply Lv.w_not)) | ((with_reducible apply Lv.w_andV)) | ((with_reducible apply Lv.w_orV)) | ((with_reducible apply Lv.w_notV)) | ((with_reducible apply Lv.w_ifT)) | ((with_reducible apply Lv.w_ifF)) | ((with_reducible apply Lv.w_ifNT)) | ((with_reducible apply Lv.w_ifNF)) | ((with_reducible apply Lv.w_yes)) | ((with_reducible apply Lv.w_ixT); (focus (first | assumption | (exact Lv.Join.g (by assumption) _ _ (by assumption)))); (focus (exact rfl))) | ((with_reducible apply Lv.w_aug); (focus (exact rfl))) | ((with_reducible apply Lv.w_rAdd)) | ((with_reducible apply Lv.w_rSub)) | ((with_reducible apply Lv.w_lcL)) | ((with_reducible apply Lv.w_lcT)) | ((with_reducible apply Lv.w_lcR)) | ((with_reducible apply Lv.w_sl)) | ((with_reducible apply Lv.w_npart)) | ((with_reducible apply Lv.w_part)) | ((with_reducible apply Lv.w_pint)) | ((with_reducible apply Lv.w_forR)) | ((with_reducible apply Lv.w_forR2)) | ((with_reducible apply Lv.w_par)) | ((with_reducible apply Lv.w_apar)) | ((with_reducible apply Lv.w_lcR2)) | ((with_reducible apply Lv.w_lcE)) | ((with_reducible apply Lv.w_isB)) | ((with_reducible apply Lv.w_isNB)) | ((with_reducible apply Lv.w_forL)) | ((with_reducible apply Lv.w_forT)) | ((with_reducible apply Lv.w_brk)) | ((with_reducible apply Lv.w_cont)) | ((with_reducible apply Lv.w_meth)) | ((with_reducible apply Lv.w_make)))
          refine aTup.go j' (by show 2 ≤ 100000; decide) fun p2 G22 H23 hp2 e22 j22 hT2 => ?_
          replace ht := e22 _ _ ht; replace hv := hv.mono e22; replace hMK := hMK.mono e22; replace hMoK := hMoK.mono e22
          (repeat first | ((with_reducible apply Lv.w_seq)) | ((with_reducible apply Lv.w_var); (focus (exact rfl))) | ((with_reducible apply Lv.w_op)) | ((with_reducible apply Lv.w_c)) | ((with_reducible apply Lv.w_cons)) | ((with_reducible apply Lv.w_nil)) | ((with_reducible apply Lv.w_rI0)) | ((with_reducible apply Lv.w_asg)) | ((with_reducible apply Lv.w_name)) | ((with_reducible apply Lv.w_call)) | ((with_reducible apply Lv.w_tof)) | ((with_reducible apply Lv.w_lof)) | ((with_reducible apply Lv.w_abs)) | ((with_reducible apply Lv.w_int1)) | ((with_reducible apply Lv.w_lenv)) | ((with_reducible apply Lv.w_lens)) | ((with_reducible apply Lv.w_cb)) | ((with_reducible apply Lv.w_rabs)) | ((with_reducible apply Lv.w_rint)) | ((with_reducible apply Lv.w_rintb)) | ((with_reducible apply Lv.w_rlenT); (focus (first | assumption | (exact Lv.Join.g (by assumption) _ _ (by assumption))))) | ((with_reducible apply Lv.w_rlenL); (focus (first | assumption | (exact Lv.Join.g (by assumption) _ _ (by assumption))))) | ((with_reducible apply Lv.w_slenT); (focus (first | assumption | (exact Lv.Join.g (by assumption) _ _ (by assumption))))) | ((with_reducible apply Lv.w_slenL); (focus (first | assumption | (exact Lv.Join.g (by assumption) _ _ (by assumption))))) | ((with_reducible apply Lv.w_klenT); (focus (first | assumption | (exact Lv.Join.g (by assumption) _ _ (by assumption))))) | ((with_reducible apply Lv.w_klenL); (focus (first | assumption | (exact Lv.Join.g (by assumption) _ _ (by assumption))))) | ((with_reducible apply Lv.w_bm)) | ((with_reducible apply Lv.w_bm0)) | ((with_reducible apply Lv.w_bml); (focus (first | assumption | (exact Lv.Join.g (by assumption) _ _ (by assumption))))) | ((with_reducible apply Lv.w_tup)) | ((with_reducible apply Lv.w_lst)) | ((with_reducible apply Lv.w_fld)) | ((with_reducible apply Lv.w_un)) | ((with_reducible apply Lv.w_rU)) | ((with_reducible apply Lv.w_ret)) | ((with_reducible apply Lv.w_retN)) | ((with_reducible apply Lv.w_next)) | ((with_reducible apply Lv.w_drop)) | ((with_reducible apply Lv.w_ifS)) | ((with_reducible apply Lv.w_gcons); (focus (exact rfl))) | ((with_reducible apply Lv.w_gnil); (focus (exact rfl))) | ((with_reducible apply Lv.w_gtup); (focus (first | assumption | (exact Lv.Join.g (by assumption) _ _ (by assumption)))); (focus (exact rfl))) | ((with_reducible apply Lv.w_eq); (focus (exact rfl))) | ((with_reducible apply Lv.w_ne); (focus (exact rfl))) | ((with_reducible apply Lv.w_tB)) | ((with_reducible apply Lv.w_test)) | ((with_reducible apply Lv.w_bl)) | ((with_reducible apply Lv.w_and)) | ((with_reducible apply Lv.w_or)) | ((with_reducible apply Lv.w_not)) | ((with_reducible apply Lv.w_andV)) | ((with_reducible apply Lv.w_orV)) | ((with_reducible apply Lv.w_notV)) | ((with_reducible apply Lv.w_ifT)) | ((with_reducible apply Lv.w_ifF)) | ((with_reducible apply Lv.w_ifNT)) | ((with_reducible apply Lv.w_ifNF)) | ((with_reducible apply Lv.w_yes)) | ((with_reducible apply Lv.w_ixT); (focus (first | assumption | (exact Lv.Join.g (by assumption) _ _ (by assumption)))); (focus (exact rfl))) | ((with_reducible apply Lv.w_aug); (focus (exact rfl))) | ((with_reducible apply Lv.w_rAdd)) | ((with_reducible apply Lv.w_rSub)) | ((with_reducible apply Lv.w_lcL)) | ((with_reducible apply Lv.w_lcT)) | ((with_reducible apply Lv.w_lcR)) | ((with_reducible apply Lv.w_sl)) | ((with_reducible apply Lv.w_npart)) | ((with_reducible apply Lv.w_part)) | ((with_reducible apply Lv.w_pint)) | ((with_reducible apply Lv.w_forR)) | ((with_reducible apply Lv.w_forR2)) | ((with_reducible apply Lv.w_par)) | ((with_reducible apply Lv.w_apar)) | ((with_reducible apply Lv.w_lcR2)) | ((with_reducible apply Lv.w_lcE)) | ((with_reducible apply Lv.w_isB)) | ((with_reducible apply Lv.w_isNB)) | ((with_reducible apply Lv.w_forL)) | ((with_reducible apply Lv.w_forT)) | ((with_reducible apply Lv.w_brk)) | ((with_reducible apply Lv.w_cont)) | ((with_reducible apply Lv.w_meth)) | ((with_reducible apply Lv.w_make)))
          refine ⟨l, p2, 8, n, es, G22, P', rfl, j22, hP, ⟨t, hT2, vs, ht, hv⟩, by omega, hpos, by decide, fun r rs G23 P23 H24 e23 j23 hP23 hr hrl hrun => ?_⟩
          replace ht := e23 _ _ ht; replace hv := hv.mono e23; replace hMK := hMK.mono e23; replace hMoK := hMoK.mono e23
          clear j' hP j22 hT2
          (repeat first | ((with_reducible apply Lv.w_seq)) | ((with_reducible apply Lv.w_var); (focus (exact rfl))) | ((with_reducible apply Lv.w_op)) | ((with_reducible apply Lv.w_c)) | ((with_reducible apply Lv.w_cons)) | ((with_reducible apply Lv.w_nil)) | ((with_reducible apply Lv.w_rI0)) | ((with_reducible apply Lv.w_asg)) | ((with_reducible apply Lv.w_name)) | ((with_reducible apply Lv.w_call)) | ((with_reducible apply Lv.w_tof)) | ((with_reducible apply Lv.w_lof)) | ((with_reducible apply Lv.w_abs)) | ((with_reducible apply Lv.w_int1)) | ((with_reducible apply Lv.w_lenv)) | ((with_reducible apply Lv.w_lens)) | ((with_reducible apply Lv.w_cb)) | ((with_reducible apply Lv.w_rabs)) | ((with_reducible apply Lv.w_rint)) | ((with_reducible apply Lv.w_rintb)) | ((with_reducible apply Lv.w_rlenT); (focus (first | assumption | (exact Lv.Join.g (by assumption) _ _ (by assumption))))) | ((with_reducible apply Lv.w_rlenL); (focus (first | assumption | (exact Lv.Join.g (by assumption) _ _ (by assumption))))) | ((with_reducible apply Lv.w_slenT); (focus (first | assumption | (exact Lv.Join.g (by assumption) _ _ (by assumption))))) | ((with_reducible apply Lv.w_slenL); (focus (first | assumption | (exact Lv.Join.g (by assumption) _ _ (by assumption))))) | ((with_reducible apply Lv.w_klenT); (focus (first | assumption | (exact Lv.Join.g (by assumption) _ _ (by assumption))))) | ((with_reducible apply Lv.w_klenL); (focus (first | assumption | (exact Lv.Join.g (by assumption) _ _ (by assumption))))) | ((with_reducible apply Lv.w_bm)) | ((with_reducible apply Lv.w_bm0)) | ((with_reducible apply Lv.w_bml); (focus (first | assumption | (exact Lv.Join.g (by assumption) _ _ (by assumption))))) | ((with_reducible apply Lv.w_tup)) | ((with_reducible apply Lv.w_lst)) | ((with_reducible apply Lv.w_fld)) | ((with_reducible apply Lv.w_un)) | ((with_reducible apply Lv.w_rU)) | ((with_reducible apply Lv.w_ret)) | ((with_reducible apply Lv.w_retN)) | ((with_reducible apply Lv.w_next)) | ((with_reducible apply Lv.w_drop)) | ((with_reducible apply Lv.w_ifS)) | ((with_reducible apply Lv.w_gcons); (focus (exact rfl))) | ((with_reducible apply Lv.w_gnil); (focus (exact rfl))) | ((with_reducible apply Lv.w_gtup); (focus (first | assumption | (exact Lv.Join.g (by assumption) _ _ (by assumption)))); (focus (exact rfl))) | ((with_reducible apply Lv.w_eq); (focus (exact rfl))) | ((with_reducible apply Lv.w_ne); (focus (exact rfl))) | ((with_reducible apply Lv.w_tB)) | ((with_reducible apply Lv.w_test)) | ((with_reducible apply Lv.w_bl)) | ((with_reducible apply Lv.w_and)) | ((with_reducible apply Lv.w_or)) | ((with_reducible apply Lv.w_not)) | ((with_reducible apply Lv.w_andV)) | ((with_reducible apply Lv.w_orV)) | ((with_reducible apply Lv.w_notV)) | ((with_reducible apply Lv.w_ifT)) | ((with_reducible apply Lv.w_ifF)) | ((with_reducible apply Lv.w_ifNT)) | ((with_reducible apply Lv.w_ifNF)) | ((with_reducible apply Lv.w_yes)) | ((with_reducible apply Lv.w_ixT); (focus (first | assumption | (exact Lv.Join.g (by assumption) _ _ (by assumption)))); (focus (exact rfl))) | ((with_reducible apply Lv.w_aug); (focus (exact rfl))) | ((with_reducible apply Lv.w_rAdd)) | ((with_reducible apply Lv.w_rSub)) | ((with_reducible apply Lv.w_lcL)) | ((with_reducible apply Lv.w_lcT)) | ((with_reducible apply Lv.w_lcR)) | ((with_reducible apply Lv.w_sl)) | ((with_reducible apply Lv.w_npart)) | ((with_reducible apply Lv.w_part)) | ((with_reducible apply Lv.w_pint)) | ((with_reducible apply Lv.w_forR)) | ((with_reducible apply Lv.w_forR2)) | ((with_reducible apply Lv.w_par)) | ((with_reducible apply Lv.w_apar)) | ((with_reducible apply Lv.w_lcR2)) | ((with_reducible apply Lv.w_lcE)) | ((with_reducible apply Lv.w_isB)) | ((with_reducible apply Lv.w_isNB)) | ((with_reducible apply Lv.w_forL)) | ((with_reducible apply Lv.w_forT)) | ((with_reducible apply Lv.w_brk)) | ((with_reducible apply Lv.w_cont)) | ((with_reducible apply Lv.w_meth)) | ((with_reducible apply Lv.w_make)))
          rw [hvl]
          refine ⟨r, kk, es.length, rs, G23, P23, rfl, j23, hr, by omega, fun tp tl tn G24 H25 e24 j24 hTp hTl hTn => ?_⟩
          replace ht := e24 _ _ ht; replace hr := e24 _ _ hr; replace hv := hv.mono e24; replace hMK := hMK.mono e24; replace hMoK := hMoK.mono e24
          clear j23
          have hxl := exR_len kk es.length rs
          have hrx : IsRun (partE n es kk e (1 + f) z) (exR kk es.length rs) := by
            obtain ⟨y, hy⟩ := id hrun
            exact ⟨y, part_leads he (fun e he => (hes e he).2.1) rs 0 y hy⟩
          (repeat first | ((with_reducible apply Lv.w_seq)) | ((with_reducible apply Lv.w_var); (focus (exact rfl))) | ((with_reducible apply Lv.w_op)) | ((with_reducible apply Lv.w_c)) | ((with_reducible apply Lv.w_cons)) | ((with_reducible apply Lv.w_nil)) | ((with_reducible apply Lv.w_rI0)) | ((with_reducible apply Lv.w_asg)) | ((with_reducible apply Lv.w_name)) | ((with_reducible apply Lv.w_call)) | ((with_reducible apply Lv.w_tof)) | ((with_reducible apply Lv.w_lof)) | ((with_reducible apply Lv.w_abs)) | ((with_reducible apply Lv.w_int1)) | ((with_reducible apply Lv.w_lenv)) | ((with_reducible apply Lv.w_lens)) | ((with_reducible apply Lv.w_cb)) | ((with_reducible apply Lv.w_rabs)) | ((with_reducible apply Lv.w_rint)) | ((with_reducible apply Lv.w_rintb)) | ((with_reducible apply Lv.w_rlenT); (focus (first | assumption | (exact Lv.Join.g (by assumption) _ _ (by assumption))))) | ((with_reducible apply Lv.w_rlenL); (focus (first | assumption | (exact Lv.Join.g (by assumption) _ _ (by assumption))))) | ((with_reducible apply Lv.w_slenT); (focus (first | assumption | (exact Lv.Join.g (by assumption) _ _ (by assumption))))) | ((with_reducible apply Lv.w_slenL); (focus (first | assumption | (exact Lv.Join.g (by assumption) _ _ (by assumption))))) | ((with_reducible apply Lv.w_klenT); (focus (first | assumption | (exact Lv.Join.g (by assumption) _ _ (by assumption))))) | ((with_reducible apply Lv.w_klenL); (focus (first | assumption | (exact Lv.Join.g (by assumption) _ _ (by assumption))))) | ((with_reducible apply Lv.w_bm)) | ((with_reducible apply Lv.w_bm0)) | ((with_reducible apply Lv.w_bml); (focus (first | assumption | (exact Lv.Join.g (by assumption) _ _ (by assumption))))) | ((with_reducible apply Lv.w_tup)) | ((with_reducible apply Lv.w_lst)) | ((with_reducible apply Lv.w_fld)) | ((with_reducible apply Lv.w_un)) | ((with_reducible apply Lv.w_rU)) | ((with_reducible apply Lv.w_ret)) | ((with_reducible apply Lv.w_retN)) | ((with_reducible apply Lv.w_next)) | ((with_reducible apply Lv.w_drop)) | ((with_reducible apply Lv.w_ifS)) | ((with_reducible apply Lv.w_gcons); (focus (exact rfl))) | ((with_reducible apply Lv.w_gnil); (focus (exact rfl))) | ((with_reducible apply Lv.w_gtup); (focus (first | assumption | (exact Lv.Join.g (by assumption) _ _ (by assumption)))); (focus (exact rfl))) | ((with_reducible apply Lv.w_eq); (focus (exact rfl))) | ((with_reducible apply Lv.w_ne); (focus (exact rfl))) | ((with_reducible apply Lv.w_tB)) | ((with_reducible apply Lv.w_test)) | ((with_reducible apply Lv.w_bl)) | ((with_reducible apply Lv.w_and)) | ((with_reducible apply Lv.w_or)) | ((with_reducible apply Lv.w_not)) | ((with_reducible apply Lv.w_andV)) | ((with_reducible apply Lv.w_orV)) | ((with_reducible apply Lv.w_notV)) | ((with_reducible apply Lv.w_ifT)) | ((with_reducible apply Lv.w_ifF)) | ((with_reducible apply Lv.w_ifNT)) | ((with_reducible apply Lv.w_ifNF)) | ((with_reducible apply Lv.w_yes)) | ((with_reducible apply Lv.w_ixT); (focus (first | assumption | (exact Lv.Join.g (by assumption) _ _ (by assumption)))); (focus (exact rfl))) | ((with_reducible apply Lv.w_aug); (focus (exact rfl))) | ((with_reducible apply Lv.w_rAdd)) | ((with_reducible apply Lv.w_rSub)) | ((with_reducible apply Lv.w_lcL)) | ((with_reducible apply Lv.w_lcT)) | ((with_reducible apply Lv.w_lcR)) | ((with_reducible apply Lv.w_sl)) | ((with_reducible apply Lv.w_npart)) | ((with_reducible apply Lv.w_part)) | ((with_reducible apply Lv.w_pint)) | ((with_reducible apply Lv.w_forR)) | ((with_reducible apply Lv.w_forR2)) | ((with_reducible apply Lv.w_par)) | ((with_reducible apply Lv.w_apar)) | ((with_reducible apply Lv.w_lcR2)) | ((with_reducible apply Lv.w_lcE)) | ((with_reducible apply Lv.w_isB)) | ((with_reducible apply Lv.w_isNB)) | ((with_reducible apply Lv.w_forL)) | ((with_reducible apply Lv.w_forT)) | ((with_reducible apply Lv.w_brk)) | ((with_reducible apply Lv.w_cont)) | ((with_reducible apply Lv.w_meth)) | ((with_reducible apply Lv.w_make)))
          refine ⟨o, tl, n + 1, _, exR kk es.length rs, G24, P23, rfl, j24, hMoK, hTl, by omega, hrx, fun G25 H26 e25 j25 => ?_⟩
          replace ht := e25 _ _ ht; replace hr := e25 _ _ hr; replace hTl := e25 _ _ hTl; replace hTn := e25 _ _ hTn; replace hv := hv.mono e25; replace hMK := hMK.mono e25; replace hMoK := hMoK.mono e25
          clear j24 hTp
          (repeat first | ((with_reducible apply Lv.w_seq)) | ((with_reducible apply Lv.w_var); (focus (exact rfl))) | ((with_reducible apply Lv.w_op)) | ((with_reducible apply Lv.w_c)) | ((with_reducible apply Lv.w_cons)) | ((with_reducible apply Lv.w_nil)) | ((with_reducible apply Lv.w_rI0)) | ((with_reducible apply Lv.w_asg)) | ((with_reducible apply Lv.w_name)) | ((with_reducible apply Lv.w_call)) | ((with_reducible apply Lv.w_tof)) | ((with_reducible apply Lv.w_lof)) | ((with_reducible apply Lv.w_abs)) | ((with_reducible apply Lv.w_int1)) | ((with_reducible apply Lv.w_lenv)) | ((with_reducible apply Lv.w_lens)) | ((with_reducible apply Lv.w_cb)) | ((with_reducible apply Lv.w_rabs)) | ((with_reducible apply Lv.w_rint)) | ((with_reducible apply Lv.w_rintb)) | ((with_reducible apply Lv.w_rlenT); (focus (first | assumption | (exact Lv.Join.g (by assumption) _ _ (by assumption))))) | ((with_reducible apply Lv.w_rlenL); (focus (first | assumption | (exact Lv.Join.g (by assumption) _ _ (by assumption))))) | ((with_reducible apply Lv.w_slenT); (focus (first | assumption | (exact Lv.Join.g (by assumption) _ _ (by assumption))))) | ((with_reducible apply Lv.w_slenL); (focus (first | assumption | (exact Lv.Join.g (by assumption) _ _ (by assumption))))) | ((with_reducible apply Lv.w_klenT); (focus (first | assumption | (exact Lv.Join.g (by assumption) _ _ (by assumption))))) | ((with_reducible apply Lv.w_klenL); (focus (first | assumption | (exact Lv.Join.g (by assumption) _ _ (by assumption))))) | ((with_reducible apply Lv.w_bm)) | ((with_reducible apply Lv.w_bm0)) | ((with_reducible apply Lv.w_bml); (focus (first | assumption | (exact Lv.Join.g (by assumption) _ _ (by assumption))))) | ((with_reducible apply Lv.w_tup)) | ((with_reducible apply Lv.w_lst)) | ((with_reducible apply Lv.w_fld)) | ((with_reducible apply Lv.w_un)) | ((with_reducible apply Lv.w_rU)) | ((with_reducible apply Lv.w_ret)) | ((with_reducible apply Lv.w_retN)) | ((with_reducible apply Lv.w_next)) | ((with_reducible apply Lv.w_drop)) | ((with_reducible apply Lv.w_ifS)) | ((with_reducible apply Lv.w_gcons); (focus (exact rfl))) | ((with_reducible apply Lv.w_gnil); (focus (exact rfl))) | ((with_reducible apply Lv.w_gtup); (focus (first | assumption | (exact Lv.Join.g (by assumption) _ _ (by assumption)))); (focus (exact rfl))) | ((with_reducible apply Lv.w_eq); (focus (exact rfl))) | ((with_reducible apply Lv.w_ne); (focus (exact rfl))) | ((with_reducible apply Lv.w_tB)) | ((with_reducible apply Lv.w_test)) | ((with_reducible apply Lv.w_bl)) | ((with_reducible apply Lv.w_and)) | ((with_reducible apply Lv.w_or)) | ((with_reducible apply Lv.w_not)) | ((with_reducible apply Lv.w_andV)) | ((with_reducible apply Lv.w_orV)) | ((with_reducible apply Lv.w_notV)) | ((with_reducible apply Lv.w_ifT)) | ((with_reducible apply Lv.w_ifF)) | ((with_reducible apply Lv.w_ifNT)) | ((with_reducible apply Lv.w_ifNF)) | ((with_reducible apply Lv.w_yes)) | ((with_reducible apply Lv.w_ixT); (focus (first | assumption | (exact Lv.Join.g (by assumption) _ _ (by assumption)))); (focus (exact rfl))) | ((with_reducible apply Lv.w_aug); (focus (exact rfl))) | ((with_reducible apply Lv.w_rAdd)) | ((with_reducible apply Lv.w_rSub)) | ((with_reducible apply Lv.w_lcL)) | ((with_reducible apply Lv.w_lcT)) | ((with_reducible apply Lv.w_lcR)) | ((with_reducible apply Lv.w_sl)) | ((with_reducible apply Lv.w_npart)) | ((with_reducible apply Lv.w_part)) | ((with_reducible apply Lv.w_pint)) | ((with_reducible apply Lv.w_forR)) | ((with_reducible apply Lv.w_forR2)) | ((with_reducible apply Lv.w_par)) | ((with_reducible apply Lv.w_apar)) | ((with_reducible apply Lv.w_lcR2)) | ((with_reducible apply Lv.w_lcE)) | ((with_reducible apply Lv.w_isB)) | ((with_reducible apply Lv.w_isNB)) | ((with_reducible apply Lv.w_forL)) | ((with_reducible apply Lv.w_forT)) | ((with_reducible apply Lv.w_brk)) | ((with_reducible apply Lv.w_cont)) | ((with_reducible apply Lv.w_meth)) | ((with_reducible apply Lv.w_make)))
          refine itNF rfl ?_
          (repeat first | ((with_reducible apply Lv.w_seq)) | ((with_reducible apply Lv.w_var); (focus (exact rfl))) | ((with_reducible apply Lv.w_op)) | ((with_reducible apply Lv.w_c)) | ((with_reducible apply Lv.w_cons)) | ((with_reducible apply Lv.w_nil)) | ((with_reducible apply Lv.w_rI0)) | ((with_reducible apply Lv.w_asg)) | ((with_reducible apply Lv.w_name)) | ((with_reducible apply Lv.w_call)) | ((with_reducible apply Lv.w_tof)) | ((with_reducible apply Lv.w_lof)) | ((with_reducible apply Lv.w_abs)) | ((with_reducible apply Lv.w_int1)) | ((with_reducible apply Lv.w_lenv)) | ((with_reducible apply Lv.w_lens)) | ((with_reducible apply Lv.w_cb)) | ((with_reducible apply Lv.w_rabs)) | ((with_reducible apply Lv.w_rint)) | ((with_reducible apply Lv.w_rintb)) | ((with_reducible apply Lv.w_rlenT); (focus (first | assumption | (exact Lv.Join.g (by assumption) _ _ (by assumption))))) | ((with_reducible apply Lv.w_rlenL); (focus (first | assumption | (exact Lv.Join.g (by assumption) _ _ (by assumption))))) | ((with_reducible apply Lv.w_slenT); (focus (first | assumption | (exact Lv.Join.g (by assumption) _ _ (by assumption))))) | ((with_reducible apply Lv.w_slenL); (focus (first | assumption | (exact Lv.Join.g (by assumption) _ _ (by assumption))))) | ((with_reducible apply Lv.w_klenT); (focus (first | assumption | (exact Lv.Join.g (by assumption) _ _ (by assumption))))) | ((with_reducible apply Lv.w_klenL); (focus (first | assumption | (exact Lv.Join.g (by assumption) _ _ (by assumption))))) | ((with_reducible apply Lv.w_bm)) | ((with_reducible apply Lv.w_bm0)) | ((with_reducible apply Lv.w_bml); (focus (first | assumption | (exact Lv.Join.g (by assumption) _ _ (by assumption))))) | ((with_reducible apply Lv.w_tup)) | ((with_reducible apply Lv.w_lst)) | ((with_reducible apply Lv.w_fld)) | ((with_reducible apply Lv.w_un)) | ((with_reducible apply Lv.w_rU)) | ((with_reducible apply Lv.w_ret)) | ((with_reducible apply Lv.w_retN)) | ((with_reducible apply Lv.w_next)) | ((with_reducible apply Lv.w_drop)) | ((with_reducible apply Lv.w_ifS)) | ((with_reducible apply Lv.w_gcons); (focus (exact rfl))) | ((with_reducible apply Lv.w_gnil); (focus (exact rfl))) | ((with_reducible apply Lv.w_gtup); (focus (first | assumption | (exact Lv.Join.g (by assumption) _ _ (by assumption)))); (focus (exact rfl))) | ((with_reducible apply Lv.w_eq); (focus (exact rfl))) | ((with_reducible apply Lv.w_ne); (focus (exact rfl))) | ((with_reducible apply Lv.w_tB)) | ((with_reducible apply Lv.w_test)) | ((with_reducible apply Lv.w_bl)) | ((with_reducible apply Lv.w_and)) | ((with_reducible apply Lv.w_or)) | ((with_reducible apply Lv.w_not)) | ((with_reducible apply Lv.w_andV)) | ((with_reducible apply Lv.w_orV)) | ((with_reducible apply Lv.w_notV)) | ((with_reducible apply Lv.w_ifT)) | ((with_reducible apply Lv.w_ifF)) | ((with_reducible apply Lv.w_ifNT)) | ((with_reducible apply Lv.w_ifNF)) | ((with_reducible apply Lv.w_yes)) | ((with_reducible apply Lv.w_ixT); (focus (first | assumption | (exact Lv.Join.g (by assumption) _ _ (by assumption)))); (focus (exact rfl))) | ((with_reducible apply Lv.w_aug); (focus (exact rfl))) | ((with_reducible apply Lv.w_rAdd)) | ((with_reducible apply Lv.w_rSub)) | ((with_reducible apply Lv.w_lcL)) | ((with_reducible apply Lv.w_lcT)) | ((with_reducible apply Lv.w_lcR)) | ((with_reducible apply Lv.w_sl)) | ((with_reducible apply Lv.w_npart)) | ((with_reducible apply Lv.w_part)) | ((with_reducible apply Lv.w_pint)) | ((with_reducible apply Lv.w_forR)) | ((with_reducible apply Lv.w_forR2)) | ((with_reducible apply Lv.w_par)) | ((with_reducible apply Lv.w_apar)) | ((with_reducible apply Lv.w_lcR2)) | ((with_reducible apply Lv.w_lcE)) | ((with_reducible apply Lv.w_isB)) | ((with_reducible apply Lv.w_isNB)) | ((with_reducible apply Lv.w_forL)) | ((with_reducible apply Lv.w_forT)) | ((with_reducible apply Lv.w_brk)) | ((with_reducible apply Lv.w_cont)) | ((with_reducible apply Lv.w_meth)) | ((with_reducible apply Lv.w_make)))
          refine ⟨o, tl, n + 1, _, exR kk es.length rs, G25, P23, rfl, j25, hMoK, hTl, by omega, hrx, fun sh wsh G26 H27 e26 j26 hsh hGsh hTsh => ?_⟩
          replace ht := e26 _ _ ht; replace hr := e26 _ _ hr; replace hTl := e26 _ _ hTl; replace hTn := e26 _ _ hTn; replace hv := hv.mono e26; replace hMK := hMK.mono e26; replace hMoK := hMoK.mono e26
          clear j25 hsh
          have hbl : (boardsOf (partE n es kk e (1 + f) z) (exR kk es.length rs)).length = (exR kk es.length rs).length := by simp [boardsOf]
          (repeat first | ((with_reducible apply Lv.w_seq)) | ((with_reducible apply Lv.w_var); (focus (exact rfl))) | ((with_reducible apply Lv.w_op)) | ((with_reducible apply Lv.w_c)) | ((with_reducible apply Lv.w_cons)) | ((with_reducible apply Lv.w_nil)) | ((with_reducible apply Lv.w_rI0)) | ((with_reducible apply Lv.w_asg)) | ((with_reducible apply Lv.w_name)) | ((with_reducible apply Lv.w_call)) | ((with_reducible apply Lv.w_tof)) | ((with_reducible apply Lv.w_lof)) | ((with_reducible apply Lv.w_abs)) | ((with_reducible apply Lv.w_int1)) | ((with_reducible apply Lv.w_lenv)) | ((with_reducible apply Lv.w_lens)) | ((with_reducible apply Lv.w_cb)) | ((with_reducible apply Lv.w_rabs)) | ((with_reducible apply Lv.w_rint)) | ((with_reducible apply Lv.w_rintb)) | ((with_reducible apply Lv.w_rlenT); (focus (first | assumption | (exact Lv.Join.g (by assumption) _ _ (by assumption))))) | ((with_reducible apply Lv.w_rlenL); (focus (first | assumption | (exact Lv.Join.g (by assumption) _ _ (by assumption))))) | ((with_reducible apply Lv.w_slenT); (focus (first | assumption | (exact Lv.Join.g (by assumption) _ _ (by assumption))))) | ((with_reducible apply Lv.w_slenL); (focus (first | assumption | (exact Lv.Join.g (by assumption) _ _ (by assumption))))) | ((with_reducible apply Lv.w_klenT); (focus (first | assumption | (exact Lv.Join.g (by assumption) _ _ (by assumption))))) | ((with_reducible apply Lv.w_klenL); (focus (first | assumption | (exact Lv.Join.g (by assumption) _ _ (by assumption))))) | ((with_reducible apply Lv.w_bm)) | ((with_reducible apply Lv.w_bm0)) | ((with_reducible apply Lv.w_bml); (focus (first | assumption | (exact Lv.Join.g (by assumption) _ _ (by assumption))))) | ((with_reducible apply Lv.w_tup)) | ((with_reducible apply Lv.w_lst)) | ((with_reducible apply Lv.w_fld)) | ((with_reducible apply Lv.w_un)) | ((with_reducible apply Lv.w_rU)) | ((with_reducible apply Lv.w_ret)) | ((with_reducible apply Lv.w_retN)) | ((with_reducible apply Lv.w_next)) | ((with_reducible apply Lv.w_drop)) | ((with_reducible apply Lv.w_ifS)) | ((with_reducible apply Lv.w_gcons); (focus (exact rfl))) | ((with_reducible apply Lv.w_gnil); (focus (exact rfl))) | ((with_reducible apply Lv.w_gtup); (focus (first | assumption | (exact Lv.Join.g (by assumption) _ _ (by assumption)))); (focus (exact rfl))) | ((with_reducible apply Lv.w_eq); (focus (exact rfl))) | ((with_reducible apply Lv.w_ne); (focus (exact rfl))) | ((with_reducible apply Lv.w_tB)) | ((with_reducible apply Lv.w_test)) | ((with_reducible apply Lv.w_bl)) | ((with_reducible apply Lv.w_and)) | ((with_reducible apply Lv.w_or)) | ((with_reducible apply Lv.w_not)) | ((with_reducible apply Lv.w_andV)) | ((with_reducible apply Lv.w_orV)) | ((with_reducible apply Lv.w_notV)) | ((with_reducible apply Lv.w_ifT)) | ((with_reducible apply Lv.w_ifF)) | ((with_reducible apply Lv.w_ifNT)) | ((with_reducible apply Lv.w_ifNF)) | ((with_reducible apply Lv.w_yes)) | ((with_reducible apply Lv.w_ixT); (focus (first | assumption | (exact Lv.Join.g (by assumption) _ _ (by assumption)))); (focus (exact rfl))) | ((with_reducible apply Lv.w_aug); (focus (exact rfl))) | ((with_reducible apply Lv.w_rAdd)) | ((with_reducible apply Lv.w_rSub)) | ((with_reducible apply Lv.w_lcL)) | ((with_reducible apply Lv.w_lcT)) | ((with_reducible apply Lv.w_lcR)) | ((with_reducible apply Lv.w_sl)) | ((with_reducible apply Lv.w_npart)) | ((with_reducible apply Lv.w_part)) | ((with_reducible apply Lv.w_pint)) | ((with_reducible apply Lv.w_forR)) | ((with_reducible apply Lv.w_forR2)) | ((with_reducible apply Lv.w_par)) | ((with_reducible apply Lv.w_apar)) | ((with_reducible apply Lv.w_lcR2)) | ((with_reducible apply Lv.w_lcE)) | ((with_reducible apply Lv.w_isB)) | ((with_reducible apply Lv.w_isNB)) | ((with_reducible apply Lv.w_forL)) | ((with_reducible apply Lv.w_forT)) | ((with_reducible apply Lv.w_brk)) | ((with_reducible apply Lv.w_cont)) | ((with_reducible apply Lv.w_meth)) | ((with_reducible apply Lv.w_make)))
          refine aLcR.go (n := wsh.length) (fun P' => P' = P23) (fun i us G' => TupL iV G' us (pickFrom (newTo kk es.length rs rs.length) 0 ((boardsOf (partE n es kk e (1 + f) z) (exR kk es.length rs)).take i)) ∧ us.length ≤ i ∧ i ≤ 100000) j26 rfl rfl (by rw [hTsh.1, hbl]; omega) (fun _ _ => ⟨TupL.nil, Nat.le_refl _, Nat.zero_le _⟩) (fun i us G2 D _ _ hd h => ⟨h.1.upd hd, h.2⟩) (fun i us G2 h => by omega) ?_ ?_
          · intro i us G' P' H' R R0 hi e' hI hP j' kR kR0
            subst hP
            obtain ⟨bd, hbd⟩ : ∃ bd, (boardsOf (partE n es kk e (1 + f) z) (exR kk es.length rs))[i]? = some bd := ⟨_, List.getElem?_eq_getElem (by rw [← hTsh.1]; exact hi)⟩
            obtain ⟨tb, w1, w2⟩ := hTsh.2 i bd hbd
            replace hTn := e' _ _ hTn; replace hGsh := e' _ _ hGsh; replace w2 := e' _ _ w2
            have hil : i < 100000 := by rw [hTsh.1, hbl] at hi; omega
            (repeat first | ((with_reducible apply Lv.w_seq)) | ((with_reducible apply Lv.w_var); (focus (exact rfl))) | ((with_reducible apply Lv.w_op)) | ((with_reducible apply Lv.w_c)) | ((with_reducible apply Lv.w_cons)) | ((with_reducible apply Lv.w_nil)) | ((with_reducible apply Lv.w_rI0)) | ((with_reducible apply Lv.w_asg)) | ((with_reducible apply Lv.w_name)) | ((with_reducible apply Lv.w_call)) | ((with_reducible apply Lv.w_tof)) | ((with_reducible apply Lv.w_lof)) | ((with_reducible apply Lv.w_abs)) | ((with_reducible apply Lv.w_int1)) | ((with_reducible apply Lv.w_lenv)) | ((with_reducible apply Lv.w_lens)) | ((with_reducible apply Lv.w_cb)) | ((with_reducible apply Lv.w_rabs)) | ((with_reducible apply Lv.w_rint)) | ((with_reducible apply Lv.w_rintb)) | ((with_reducible apply Lv.w_rlenT); (focus (first | assumption | (exact Lv.Join.g (by assumption) _ _ (by assumption))))) | ((with_reducible apply Lv.w_rlenL); (focus (first | assumption | (exact Lv.Join.g (by assumption) _ _ (by assumption))))) | ((with_reducible apply Lv.w_slenT); (focus (first | assumption | (exact Lv.Join.g (by assumption) _ _ (by assumption))))) | ((with_reducible apply Lv.w_slenL); (focus (first | assumption | (exact Lv.Join.g (by assumption) _ _ (by assumption))))) | ((with_reducible apply Lv.w_klenT); (focus (first | assumption | (exact Lv.Join.g (by assumption) _ _ (by assumption))))) | ((with_reducible apply Lv.w_klenL); (focus (first | assumption | (exact Lv.Join.g (by assumption) _ _ (by assumption))))) | ((with_reducible apply Lv.w_bm)) | ((with_reducible apply Lv.w_bm0)) | ((with_reducible apply Lv.w_bml); (focus (first | assumption | (exact Lv.Join.g (by assumption) _ _ (by assumption))))) | ((with_reducible apply Lv.w_tup)) | ((with_reducible apply Lv.w_lst)) | ((with_reducible apply Lv.w_fld)) | ((with_reducible apply Lv.w_un)) | ((with_reducible apply Lv.w_rU)) | ((with_reducible apply Lv.w_ret)) | ((with_reducible apply Lv.w_retN)) | ((with_reducible apply Lv.w_next)) | ((with_reducible apply Lv.w_drop)) | ((with_reducible apply Lv.w_ifS)) | ((with_reducible apply Lv.w_gcons); (focus (exact rfl))) | ((with_reducible apply Lv.w_gnil); (focus (exact rfl))) | ((with_reducible apply Lv.w_gtup); (focus (first | assumption | (exact Lv.Join.g (by assumption) _ _ (by assumption)))); (focus (exact rfl))) | ((with_reducible apply Lv.w_eq); (focus (exact rfl))) | ((with_reducible apply Lv.w_ne); (focus (exact rfl))) | ((with_reducible apply Lv.w_tB)) | ((with_reducible apply Lv.w_test)) | ((with_reducible apply Lv.w_bl)) | ((with_reducible apply Lv.w_and)) | ((with_reducible apply Lv.w_or)) | ((with_reducible apply Lv.w_not)) | ((with_reducible apply Lv.w_andV)) | ((with_reducible apply Lv.w_orV)) | ((with_reducible apply Lv.w_notV)) | ((with_reducible apply Lv.w_ifT)) | ((with_reducible apply Lv.w_ifF)) | ((with_reducible apply Lv.w_ifNT)) | ((with_reducible apply Lv.w_ifNF)) | ((with_reducible apply Lv.w_yes)) | ((with_reducible apply Lv.w_ixT); (focus (first | assumption | (exact Lv.Join.g (by assumption) _ _ (by assumption)))); (focus (exact rfl))) | ((with_reducible apply Lv.w_aug); (focus (exact rfl))) | ((with_reducible apply Lv.w_rAdd)) | ((with_reducible apply Lv.w_rSub)) | ((with_reducible apply Lv.w_lcL)) | ((with_reducible apply Lv.w_lcT)) | ((with_reducible apply Lv.w_lcR)) | ((with_reducible apply Lv.w_sl)) | ((with_reducible apply Lv.w_npart)) | ((with_reducible apply Lv.w_part)) | ((with_reducible apply Lv.w_pint)) | ((with_reducible apply Lv.w_forR)) | ((with_reducible apply Lv.w_forR2)) | ((with_reducible apply Lv.w_par)) | ((with_reducible apply Lv.w_apar)) | ((with_reducible apply Lv.w_lcR2)) | ((with_reducible apply Lv.w_lcE)) | ((with_reducible apply Lv.w_isB)) | ((with_reducible apply Lv.w_isNB)) | ((with_reducible apply Lv.w_forL)) | ((with_reducible apply Lv.w_forT)) | ((with_reducible apply Lv.w_brk)) | ((with_reducible apply Lv.w_cont)) | ((with_reducible apply Lv.w_meth)) | ((with_reducible apply Lv.w_make)))
            refine ⟨rfl, ?_⟩
            (repeat first | ((with_reducible apply Lv.w_seq)) | ((with_reducible apply Lv.w_var); (focus (exact rfl))) | ((with_reducible apply Lv.w_op)) | ((with_reducible apply Lv.w_c)) | ((with_reducible apply Lv.w_cons)) | ((with_reducible apply Lv.w_nil)) | ((with_reducible apply Lv.w_rI0)) | ((with_reducible apply Lv.w_asg)) | ((with_reducible apply Lv.w_name)) | ((with_reducible apply Lv.w_call)) | ((with_reducible apply Lv.w_tof)) | ((with_reducible apply Lv.w_lof)) | ((with_reducible apply Lv.w_abs)) | ((with_reducible apply Lv.w_int1)) | ((with_reducible apply Lv.w_lenv)) | ((with_reducible apply Lv.w_lens)) | ((with_reducible apply Lv.w_cb)) | ((with_reducible apply Lv.w_rabs)) | ((with_reducible apply Lv.w_rint)) | ((with_reducible apply Lv.w_rintb)) | ((with_reducible apply Lv.w_rlenT); (focus (first | assumption | (exact Lv.Join.g (by assumption) _ _ (by assumption))))) | ((with_reducible apply Lv.w_rlenL); (focus (first | assumption | (exact Lv.Join.g (by assumption) _ _ (by assumption))))) | ((with_reducible apply Lv.w_slenT); (focus (first | assumption | (exact Lv.Join.g (by assumption) _ _ (by assumption))))) | ((with_reducible apply Lv.w_slenL); (focus (first | assumption | (exact Lv.Join.g (by assumption) _ _ (by assumption))))) | ((with_reducible apply Lv.w_klenT); (focus (first | assumption | (exact Lv.Join.g (by assumption) _ _ (by assumption))))) | ((with_reducible apply Lv.w_klenL); (focus (first | assumption | (exact Lv.Join.g (by assumption) _ _ (by assumption))))) | ((with_reducible apply Lv.w_bm)) | ((with_reducible apply Lv.w_bm0)) | ((with_reducible apply Lv.w_bml); (focus (first | assumption | (exact Lv.Join.g (by assumption) _ _ (by assumption))))) | ((with_reducible apply Lv.w_tup)) | ((with_reducible apply Lv.w_lst)) | ((with_reducible apply Lv.w_fld)) | ((with_reducible apply Lv.w_un)) | ((with_reducible apply Lv.w_rU)) | ((with_reducible apply Lv.w_ret)) | ((with_reducible apply Lv.w_retN)) | ((with_reducible apply Lv.w_next)) | ((with_reducible apply Lv.w_drop)) | ((with_reducible apply Lv.w_ifS)) | ((with_reducible apply Lv.w_gcons); (focus (exact rfl))) | ((with_reducible apply Lv.w_gnil); (focus (exact rfl))) | ((with_reducible apply Lv.w_gtup); (focus (first | assumption | (exact Lv.Join.g (by assumption) _ _ (by assumption)))); (focus (exact rfl))) | ((with_reducible apply Lv.w_eq); (focus (exact rfl))) | ((with_reducible apply Lv.w_ne); (focus (exact rfl))) | ((with_reducible apply Lv.w_tB)) | ((with_reducible apply Lv.w_test)) | ((with_reducible apply Lv.w_bl)) | ((with_reducible apply Lv.w_and)) | ((with_reducible apply Lv.w_or)) | ((with_reducible apply Lv.w_not)) | ((with_reducible apply Lv.w_andV)) | ((with_reducible apply Lv.w_orV)) | ((with_reducible apply Lv.w_notV)) | ((with_reducible apply Lv.w_ifT)) | ((with_reducible apply Lv.w_ifF)) | ((with_reducible apply Lv.w_ifNT)) | ((with_reducible apply Lv.w_ifNF)) | ((with_reducible apply Lv.w_yes)) | ((with_reducible apply Lv.w_ixT); (focus (first | assumption | (exact Lv.Join.g (by assumption) _ _ (by assumption)))); (focus (exact rfl))) | ((with_reducible apply Lv.w_aug); (focus (exact rfl))) | ((with_reducible apply Lv.w_rAdd)) | ((with_reducible apply Lv.w_rSub)) | ((with_reducible apply Lv.w_lcL)) | ((with_reducible apply Lv.w_lcT)) | ((with_reducible apply Lv.w_lcR)) | ((with_reducible apply Lv.w_sl)) | ((with_reducible apply Lv.w_npart)) | ((with_reducible apply Lv.w_part)) | ((with_reducible apply Lv.w_pint)) | ((with_reducible apply Lv.w_forR)) | ((with_reducible apply Lv.w_forR2)) | ((with_reducible apply Lv.w_par)) | ((with_reducible apply Lv.w_apar)) | ((with_reducible apply Lv.w_lcR2)) | ((with_reducible apply Lv.w_lcE)) | ((with_reducible apply Lv.w_isB)) | ((with_reducible apply Lv.w_isNB)) | ((with_reducible apply Lv.w_forL)) | ((with_reducible apply Lv.w_forT)) | ((with_reducible apply Lv.w_brk)) | ((with_reducible apply Lv.w_cont)) | ((with_reducible apply Lv.w_meth)) | ((with_reducible apply Lv.w_make)))
            refine in_go (ns := (newTo kk es.length rs rs.length).map fun (i : Nat) => (i : Int)) j' (.inl (by rw [hTn, rV, List.map_map]; rfl)) ?_
            (repeat first | ((with_reducible apply Lv.w_seq)) | ((with_reducible apply Lv.w_var); (focus (exact rfl))) | ((with_reducible apply Lv.w_op)) | ((with_reducible apply Lv.w_c)) | ((with_reducible apply Lv.w_cons)) | ((with_reducible apply Lv.w_nil)) | ((with_reducible apply Lv.w_rI0)) | ((with_reducible apply Lv.w_asg)) | ((with_reducible apply Lv.w_name)) | ((with_reducible apply Lv.w_call)) | ((with_reducible apply Lv.w_tof)) | ((with_reducible apply Lv.w_lof)) | ((with_reducible apply Lv.w_abs)) | ((with_reducible apply Lv.w_int1)) | ((with_reducible apply Lv.w_lenv)) | ((with_reducible apply Lv.w_lens)) | ((with_reducible apply Lv.w_cb)) | ((with_reducible apply Lv.w_rabs)) | ((with_reducible apply Lv.w_rint)) | ((with_reducible apply Lv.w_rintb)) | ((with_reducible apply Lv.w_rlenT); (focus (first | assumption | (exact Lv.Join.g (by assumption) _ _ (by assumption))))) | ((with_reducible apply Lv.w_rlenL); (focus (first | assumption | (exact Lv.Join.g (by assumption) _ _ (by assumption))))) | ((with_reducible apply Lv.w_slenT); (focus (first | assumption | (exact Lv.Join.g (by assumption) _ _ (by assumption))))) | ((with_reducible apply Lv.w_slenL); (focus (first | assumption | (exact Lv.Join.g (by assumption) _ _ (by assumption))))) | ((with_reducible apply Lv.w_klenT); (focus (first | assumption | (exact Lv.Join.g (by assumption) _ _ (by assumption))))) | ((with_reducible apply Lv.w_klenL); (focus (first | assumption | (exact Lv.Join.g (by assumption) _ _ (by assumption))))) | ((with_reducible apply Lv.w_bm)) | ((with_reducible apply Lv.w_bm0)) | ((with_reducible apply Lv.w_bml); (focus (first | assumption | (exact Lv.Join.g (by assumption) _ _ (by assumption))))) | ((with_reducible apply Lv.w_tup)) | ((with_reducible apply Lv.w_lst)) | ((with_reducible apply Lv.w_fld)) | ((with_reducible apply Lv.w_un)) | ((with_reducible apply Lv.w_rU)) | ((with_reducible apply Lv.w_ret)) | ((with_reducible apply Lv.w_retN)) | ((with_reducible apply Lv.w_next)) | ((with_reducible apply Lv.w_drop)) | ((with_reducible apply Lv.w_ifS)) | ((with_reducible apply Lv.w_gcons); (focus (exact rfl))) | ((with_reducible apply Lv.w_gnil); (focus (exact rfl))) | ((with_reducible apply Lv.w_gtup); (focus (first | assumption | (exact Lv.Join.g (by assumption) _ _ (by assumption)))); (focus (exact rfl))) | ((with_reducible apply Lv.w_eq); (focus (exact rfl))) | ((with_reducible apply Lv.w_ne); (focus (exact rfl))) | ((with_reducible apply Lv.w_tB)) | ((with_reducible apply Lv.w_test)) | ((with_reducible apply Lv.w_bl)) | ((with_reducible apply Lv.w_and)) | ((with_reducible apply Lv.w_or)) | ((with_reducible apply Lv.w_not)) | ((with_reducible apply Lv.w_andV)) | ((with_reducible apply Lv.w_orV)) | ((with_reducible apply Lv.w_notV)) | ((with_reducible apply Lv.w_ifT)) | ((with_reducible apply Lv.w_ifF)) | ((with_reducible apply Lv.w_ifNT)) | ((with_reducible apply Lv.w_ifNF)) | ((with_reducible apply Lv.w_yes)) | ((with_reducible apply Lv.w_ixT); (focus (first | assumption | (exact Lv.Join.g (by assumption) _ _ (by assumption)))); (focus (exact rfl))) | ((with_reducible apply Lv.w_aug); (focus (exact rfl))) | ((with_reducible apply Lv.w_rAdd)) | ((with_reducible apply Lv.w_rSub)) | ((with_reducible apply Lv.w_lcL)) | ((with_reducible apply Lv.w_lcT)) | ((with_reducible apply Lv.w_lcR)) | ((with_reducible apply Lv.w_sl)) | ((with_reducible apply Lv.w_npart)) | ((with_reducible apply Lv.w_part)) | ((with_reducible apply Lv.w_pint)) | ((with_reducible apply Lv.w_forR)) | ((with_reducible apply Lv.w_forR2)) | ((with_reducible apply Lv.w_par)) | ((with_reducible apply Lv.w_apar)) | ((with_reducible apply Lv.w_lcR2)) | ((with_reducible apply Lv.w_lcE)) | ((with_reducible apply Lv.w_isB)) | ((with_reducible apply Lv.w_isNB)) | ((with_reducible apply Lv.w_forL)) | ((with_reducible apply Lv.w_forT)) | ((with_reducible apply Lv.w_brk)) | ((with_reducible apply Lv.w_cont)) | ((with_reducible apply Lv.w_meth)) | ((with_reducible apply Lv.w_make)))
            have hiff : ((i : Int) ∈ (newTo kk es.length rs rs.length).map fun (i : Nat) => (i : Int)) ↔ i ∈ newTo kk es.length rs rs.length := by
              constructor
              · intro h
                obtain ⟨b, hb, e⟩ := List.mem_map.mp h
                have : b = i := by omega
                rw [← this]; exact hb
              · exact fun h => List.mem_map_of_mem h
            by_cases hin : i ∈ newTo kk es.length rs rs.length
            · refine itNF (hiff.mpr hin) ?_
              refine kR0 _ _ H' (Ex.refl _) rfl j' ⟨?_, by omega, by omega⟩
              rw [pick_step hbd, if_pos hin, List.append_nil]; exact hI.1
            · refine itNT (fun h => hin (hiff.mp h)) ?_
              (repeat first | ((with_reducible apply Lv.w_seq)) | ((with_reducible apply Lv.w_var); (focus (exact rfl))) | ((with_reducible apply Lv.w_op)) | ((with_reducible apply Lv.w_c)) | ((with_reducible apply Lv.w_cons)) | ((with_reducible apply Lv.w_nil)) | ((with_reducible apply Lv.w_rI0)) | ((with_reducible apply Lv.w_asg)) | ((with_reducible apply Lv.w_name)) | ((with_reducible apply Lv.w_call)) | ((with_reducible apply Lv.w_tof)) | ((with_reducible apply Lv.w_lof)) | ((with_reducible apply Lv.w_abs)) | ((with_reducible apply Lv.w_int1)) | ((with_reducible apply Lv.w_lenv)) | ((with_reducible apply Lv.w_lens)) | ((with_reducible apply Lv.w_cb)) | ((with_reducible apply Lv.w_rabs)) | ((with_reducible apply Lv.w_rint)) | ((with_reducible apply Lv.w_rintb)) | ((with_reducible apply Lv.w_rlenT); (focus (first | assumption | (exact Lv.Join.g (by assumption) _ _ (by assumption))))) | ((with_reducible apply Lv.w_rlenL); (focus (first | assumption | (exact Lv.Join.g (by assumption) _ _ (by assumption))))) | ((with_reducible apply Lv.w_slenT); (focus (first | assumption | (exact Lv.Join.g (by assumption) _ _ (by assumption))))) | ((with_reducible apply Lv.w_slenL); (focus (first | assumption | (exact Lv.Join.g (by assumption) _ _ (by assumption))))) | ((with_reducible apply Lv.w_klenT); (focus (first | assumption | (exact Lv.Join.g (by assumption) _ _ (by assumption))))) | ((with_reducible apply Lv.w_klenL); (focus (first | assumption | (exact Lv.Join.g (by assumption) _ _ (by assumption))))) | ((with_reducible apply Lv.w_bm)) | ((with_reducible apply Lv.w_bm0)) | ((with_reducible apply Lv.w_bml); (focus (first | assumption | (exact Lv.Join.g (by assumption) _ _ (by assumption))))) | ((with_reducible apply Lv.w_tup)) | ((with_reducible apply Lv.w_lst)) | ((with_reducible apply Lv.w_fld)) | ((with_reducible apply Lv.w_un)) | ((with_reducible apply Lv.w_rU)) | ((with_reducible apply Lv.w_ret)) | ((with_reducible apply Lv.w_retN)) | ((with_reducible apply Lv.w_next)) | ((with_reducible apply Lv.w_drop)) | ((with_reducible apply Lv.w_ifS)) | ((with_reducible apply Lv.w_gcons); (focus (exact rfl))) | ((with_reducible apply Lv.w_gnil); (focus (exact rfl))) | ((with_reducible apply Lv.w_gtup); (focus (first | assumption | (exact Lv.Join.g (by assumption) _ _ (by assumption)))); (focus (exact rfl))) | ((with_reducible apply Lv.w_eq); (focus (exact rfl))) | ((with_reducible apply Lv.w_ne); (focus (exact rfl))) | ((with_reducible apply Lv.w_tB)) | ((with_reducible apply Lv.w_test)) | ((with_reducible apply Lv.w_bl)) | ((with_reducible apply Lv.w_and)) | ((with_reducible apply Lv.w_or)) | ((with_reducible apply Lv.w_not)) | ((with_reducible apply Lv.w_andV)) | ((with_reducible apply Lv.w_orV)) | ((with_reducible apply Lv.w_notV)) | ((with_reducible apply Lv.w_ifT)) | ((with_reducible apply Lv.w_ifF)) | ((with_reducible apply Lv.w_ifNT)) | ((with_reducible apply Lv.w_ifNF)) | ((with_reducible apply Lv.w_yes)) | ((with_reducible apply Lv.w_ixT); (focus (first | assumption | (exact Lv.Join.g (by assumption) _ _ (by assumption)))); (focus (exact rfl))) | ((with_reducible apply Lv.w_aug); (focus (exact rfl))) | ((with_reducible apply Lv.w_rAdd)) | ((with_reducible apply Lv.w_rSub)) | ((with_reducible apply Lv.w_lcL)) | ((with_reducible apply Lv.w_lcT)) | ((with_reducible apply Lv.w_lcR)) | ((with_reducible apply Lv.w_sl)) | ((with_reducible apply Lv.w_npart)) | ((with_reducible apply Lv.w_part)) | ((with_reducible apply Lv.w_pint)) | ((with_reducible apply Lv.w_forR)) | ((with_reducible apply Lv.w_forR2)) | ((with_reducible apply Lv.w_par)) | ((with_reducible apply Lv.w_apar)) | ((with_reducible apply Lv.w_lcR2)) | ((with_reducible apply Lv.w_lcE)) | ((with_reducible apply Lv.w_isB)) | ((with_reducible apply Lv.w_isNB)) | ((with_reducible apply Lv.w_forL)) | ((with_reducible apply Lv.w_forT)) | ((with_reducible apply Lv.w_brk)) | ((with_reducible apply Lv.w_cont)) | ((with_reducible apply Lv.w_meth)) | ((with_reducible apply Lv.w_make)))
              refine w_ixL (j'.g _ _ hGsh) (atI_nat w1) ?_
              refine kR _ _ _ H' (Ex.refl _) rfl j' ⟨?_, by simp; omega, by omega⟩
              rw [pick_step hbd, if_neg hin]; exact hI.1.add w2
          intro bl us G27 P' H28 hbl2 e27 hGb hI hP j27
          subst hP
          replace hI := hI.1
          rw [hTsh.1, List.take_length] at hI
          have hpk := part_boards (n := n) (t := 1 + f) (x := z) he (run_lt hrun) rs.length (Nat.le_refl _)
          rw [List.take_length] at hpk
          rw [hpk] at hI
          replace hr := e27 _ _ hr; replace hv := hv.mono e27; replace hMK := hMK.mono e27
          (repeat first | ((with_reducible apply Lv.w_seq)) | ((with_reducible apply Lv.w_var); (focus (exact rfl))) | ((with_reducible apply Lv.w_op)) | ((with_reducible apply Lv.w_c)) | ((with_reducible apply Lv.w_cons)) | ((with_reducible apply Lv.w_nil)) | ((with_reducible apply Lv.w_rI0)) | ((with_reducible apply Lv.w_asg)) | ((with_reducible apply Lv.w_name)) | ((with_reducible apply Lv.w_call)) | ((with_reducible apply Lv.w_tof)) | ((with_reducible apply Lv.w_lof)) | ((with_reducible apply Lv.w_abs)) | ((with_reducible apply Lv.w_int1)) | ((with_reducible apply Lv.w_lenv)) | ((with_reducible apply Lv.w_lens)) | ((with_reducible apply Lv.w_cb)) | ((with_reducible apply Lv.w_rabs)) | ((with_reducible apply Lv.w_rint)) | ((with_reducible apply Lv.w_rintb)) | ((with_reducible apply Lv.w_rlenT); (focus (first | assumption | (exact Lv.Join.g (by assumption) _ _ (by assumption))))) | ((with_reducible apply Lv.w_rlenL); (focus (first | assumption | (exact Lv.Join.g (by assumption) _ _ (by assumption))))) | ((with_reducible apply Lv.w_slenT); (focus (first | assumption | (exact Lv.Join.g (by assumption) _ _ (by assumption))))) | ((with_reducible apply Lv.w_slenL); (focus (first | assumption | (exact Lv.Join.g (by assumption) _ _ (by assumption))))) | ((with_reducible apply Lv.w_klenT); (focus (first | assumption | (exact Lv.Join.g (by assumption) _ _ (by assumption))))) | ((with_reducible apply Lv.w_klenL); (focus (first | assumption | (exact Lv.Join.g (by assumption) _ _ (by assumption))))) | ((with_reducible apply Lv.w_bm)) | ((with_reducible apply Lv.w_bm0)) | ((with_reducible apply Lv.w_bml); (focus (first | assumption | (exact Lv.Join.g (by assumption) _ _ (by assumption))))) | ((with_reducible apply Lv.w_tup)) | ((with_reducible apply Lv.w_lst)) | ((with_reducible apply Lv.w_fld)) | ((with_reducible apply Lv.w_un)) | ((with_reducible apply Lv.w_rU)) | ((with_reducible apply Lv.w_ret)) | ((with_reducible apply Lv.w_retN)) | ((with_reducible apply Lv.w_next)) | ((with_reducible apply Lv.w_drop)) | ((with_reducible apply Lv.w_ifS)) | ((with_reducible apply Lv.w_gcons); (focus (exact rfl))) | ((with_reducible apply Lv.w_gnil); (focus (exact rfl))) | ((with_reducible apply Lv.w_gtup); (focus (first | assumption | (exact Lv.Join.g (by assumption) _ _ (by assumption)))); (focus (exact rfl))) | ((with_reducible apply Lv.w_eq); (focus (exact rfl))) | ((with_reducible apply Lv.w_ne); (focus (exact rfl))) | ((with_reducible apply Lv.w_tB)) | ((with_reducible apply Lv.w_test)) | ((with_reducible apply Lv.w_bl)) | ((with_reducible apply Lv.w_and)) | ((with_reducible apply Lv.w_or)) | ((with_reducible apply Lv.w_not)) | ((with_reducible apply Lv.w_andV)) | ((with_reducible apply Lv.w_orV)) | ((with_reducible apply Lv.w_notV)) | ((with_reducible apply Lv.w_ifT)) | ((with_reducible apply Lv.w_ifF)) | ((with_reducible apply Lv.w_ifNT)) | ((with_reducible apply Lv.w_ifNF)) | ((with_reducible apply Lv.w_yes)) | ((with_reducible apply Lv.w_ixT); (focus (first | assumption | (exact Lv.Join.g (by assumption) _ _ (by assumption)))); (focus (exact rfl))) | ((with_reducible apply Lv.w_aug); (focus (exact rfl))) | ((with_reducible apply Lv.w_rAdd)) | ((with_reducible apply Lv.w_rSub)) | ((with_reducible apply Lv.w_lcL)) | ((with_reducible apply Lv.w_lcT)) | ((with_reducible apply Lv.w_lcR)) | ((with_reducible apply Lv.w_sl)) | ((with_reducible apply Lv.w_npart)) | ((with_reducible apply Lv.w_part)) | ((with_reducible apply Lv.w_pint)) | ((with_reducible apply Lv.w_forR)) | ((with_reducible apply Lv.w_forR2)) | ((with_reducible apply Lv.w_par)) | ((with_reducible apply Lv.w_apar)) | ((with_reducible apply Lv.w_lcR2)) | ((with_reducible apply Lv.w_lcE)) | ((with_reducible apply Lv.w_isB)) | ((with_reducible apply Lv.w_isNB)) | ((with_reducible apply Lv.w_forL)) | ((with_reducible apply Lv.w_forT)) | ((with_reducible apply Lv.w_brk)) | ((with_reducible apply Lv.w_cont)) | ((with_reducible apply Lv.w_meth)) | ((with_reducible apply Lv.w_make)))
          refine ⟨m, r, n, es, rs, G27, _, rfl, j27, hMK, hr, by omega, hrun, fun b2 wb G28 H29 e28 j28 hb2 hGb2 hTb2 => ?_⟩
          (repeat first | ((with_reducible apply Lv.w_seq)) | ((with_reducible apply Lv.w_var); (focus (exact rfl))) | ((with_reducible apply Lv.w_op)) | ((with_reducible apply Lv.w_c)) | ((with_reducible apply Lv.w_cons)) | ((with_reducible apply Lv.w_nil)) | ((with_reducible apply Lv.w_rI0)) | ((with_reducible apply Lv.w_asg)) | ((with_reducible apply Lv.w_name)) | ((with_reducible apply Lv.w_call)) | ((with_reducible apply Lv.w_tof)) | ((with_reducible apply Lv.w_lof)) | ((with_reducible apply Lv.w_abs)) | ((with_reducible apply Lv.w_int1)) | ((with_reducible apply Lv.w_lenv)) | ((with_reducible apply Lv.w_lens)) | ((with_reducible apply Lv.w_cb)) | ((with_reducible apply Lv.w_rabs)) | ((with_reducible apply Lv.w_rint)) | ((with_reducible apply Lv.w_rintb)) | ((with_reducible apply Lv.w_rlenT); (focus (first | assumption | (exact Lv.Join.g (by assumption) _ _ (by assumption))))) | ((with_reducible apply Lv.w_rlenL); (focus (first | assumption | (exact Lv.Join.g (by assumption) _ _ (by assumption))))) | ((with_reducible apply Lv.w_slenT); (focus (first | assumption | (exact Lv.Join.g (by assumption) _ _ (by assumption))))) | ((with_reducible apply Lv.w_slenL); (focus (first | assumption | (exact Lv.Join.g (by assumption) _ _ (by assumption))))) | ((with_reducible apply Lv.w_klenT); (focus (first | assumption | (exact Lv.Join.g (by assumption) _ _ (by assumption))))) | ((with_reducible apply Lv.w_klenL); (focus (first | assumption | (exact Lv.Join.g (by assumption) _ _ (by assumption))))) | ((with_reducible apply Lv.w_bm)) | ((with_reducible apply Lv.w_bm0)) | ((with_reducible apply Lv.w_bml); (focus (first | assumption | (exact Lv.Join.g (by assumption) _ _ (by assumption))))) | ((with_reducible apply Lv.w_tup)) | ((with_reducible apply Lv.w_lst)) | ((with_reducible apply Lv.w_fld)) | ((with_reducible apply Lv.w_un)) | ((with_reducible apply Lv.w_rU)) | ((with_reducible apply Lv.w_ret)) | ((with_reducible apply Lv.w_retN)) | ((with_reducible apply Lv.w_next)) | ((with_reducible apply Lv.w_drop)) | ((with_reducible apply Lv.w_ifS)) | ((with_reducible apply Lv.w_gcons); (focus (exact rfl))) | ((with_reducible apply Lv.w_gnil); (focus (exact rfl))) | ((with_reducible apply Lv.w_gtup); (focus (first | assumption | (exact Lv.Join.g (by assumption) _ _ (by assumption)))); (focus (exact rfl))) | ((with_reducible apply Lv.w_eq); (focus (exact rfl))) | ((with_reducible apply Lv.w_ne); (focus (exact rfl))) | ((with_reducible apply Lv.w_tB)) | ((with_reducible apply Lv.w_test)) | ((with_reducible apply Lv.w_bl)) | ((with_reducible apply Lv.w_and)) | ((with_reducible apply Lv.w_or)) | ((with_reducible apply Lv.w_not)) | ((with_reducible apply Lv.w_andV)) | ((with_reducible apply Lv.w_orV)) | ((with_reducible apply Lv.w_notV)) | ((with_reducible apply Lv.w_ifT)) | ((with_reducible apply Lv.w_ifF)) | ((with_reducible apply Lv.w_ifNT)) | ((with_reducible apply Lv.w_ifNF)) | ((with_reducible apply Lv.w_yes)) | ((with_reducible apply Lv.w_ixT); (focus (first | assumption | (exact Lv.Join.g (by assumption) _ _ (by assumption)))); (focus (exact rfl))) | ((with_reducible apply Lv.w_aug); (focus (exact rfl))) | ((with_reducible apply Lv.w_rAdd)) | ((with_reducible apply Lv.w_rSub)) | ((with_reducible apply Lv.w_lcL)) | ((with_reducible apply Lv.w_lcT)) | ((with_reducible apply Lv.w_lcR)) | ((with_reducible apply Lv.w_sl)) | ((with_reducible apply Lv.w_npart)) | ((with_reducible apply Lv.w_part)) | ((with_reducible apply Lv.w_pint)) | ((with_reducible apply Lv.w_forR)) | ((with_reducible apply Lv.w_forR2)) | ((with_reducible apply Lv.w_par)) | ((with_reducible apply Lv.w_apar)) | ((with_reducible apply Lv.w_lcR2)) | ((with_reducible apply Lv.w_lcE)) | ((with_reducible apply Lv.w_isB)) | ((with_reducible apply Lv.w_isNB)) | ((with_reducible apply Lv.w_forL)) | ((with_reducible apply Lv.w_forT)) | ((with_reducible apply Lv.w_brk)) | ((with_reducible apply Lv.w_cont)) | ((with_reducible apply Lv.w_meth)) | ((with_reducible apply Lv.w_make)))
          refine neD_L j28 (e28 _ _ hGb) (hI.mono e28) hGb2 hTb2 ?_
          (repeat first | ((with_reducible apply Lv.w_seq)) | ((with_reducible apply Lv.w_var); (focus (exact rfl))) | ((with_reducible apply Lv.w_op)) | ((with_reducible apply Lv.w_c)) | ((with_reducible apply Lv.w_cons)) | ((with_reducible apply Lv.w_nil)) | ((with_reducible apply Lv.w_rI0)) | ((with_reducible apply Lv.w_asg)) | ((with_reducible apply Lv.w_name)) | ((with_reducible apply Lv.w_call)) | ((with_reducible apply Lv.w_tof)) | ((with_reducible apply Lv.w_lof)) | ((with_reducible apply Lv.w_abs)) | ((with_reducible apply Lv.w_int1)) | ((with_reducible apply Lv.w_lenv)) | ((with_reducible apply Lv.w_lens)) | ((with_reducible apply Lv.w_cb)) | ((with_reducible apply Lv.w_rabs)) | ((with_reducible apply Lv.w_rint)) | ((with_reducible apply Lv.w_rintb)) | ((with_reducible apply Lv.w_rlenT); (focus (first | assumption | (exact Lv.Join.g (by assumption) _ _ (by assumption))))) | ((with_reducible apply Lv.w_rlenL); (focus (first | assumption | (exact Lv.Join.g (by assumption) _ _ (by assumption))))) | ((with_reducible apply Lv.w_slenT); (focus (first | assumption | (exact Lv.Join.g (by assumption) _ _ (by assumption))))) | ((with_reducible apply Lv.w_slenL); (focus (first | assumption | (exact Lv.Join.g (by assumption) _ _ (by assumption))))) | ((with_reducible apply Lv.w_klenT); (focus (first | assumption | (exact Lv.Join.g (by assumption) _ _ (by assumption))))) | ((with_reducible apply Lv.w_klenL); (focus (first | assumption | (exact Lv.Join.g (by assumption) _ _ (by assumption))))) | ((with_reducible apply Lv.w_bm)) | ((with_reducible apply Lv.w_bm0)) | ((with_reducible apply Lv.w_bml); (focus (first | assumption | (exact Lv.Join.g (by assumption) _ _ (by assumption))))) | ((with_reducible apply Lv.w_tup)) | ((with_reducible apply Lv.w_lst)) | ((with_reducible apply Lv.w_fld)) | ((with_reducible apply Lv.w_un)) | ((with_reducible apply Lv.w_rU)) | ((with_reducible apply Lv.w_ret)) | ((with_reducible apply Lv.w_retN)) | ((with_reducible apply Lv.w_next)) | ((with_reducible apply Lv.w_drop)) | ((with_reducible apply Lv.w_ifS)) | ((with_reducible apply Lv.w_gcons); (focus (exact rfl))) | ((with_reducible apply Lv.w_gnil); (focus (exact rfl))) | ((with_reducible apply Lv.w_gtup); (focus (first | assumption | (exact Lv.Join.g (by assumption) _ _ (by assumption)))); (focus (exact rfl))) | ((with_reducible apply Lv.w_eq); (focus (exact rfl))) | ((with_reducible apply Lv.w_ne); (focus (exact rfl))) | ((with_reducible apply Lv.w_tB)) | ((with_reducible apply Lv.w_test)) | ((with_reducible apply Lv.w_bl)) | ((with_reducible apply Lv.w_and)) | ((with_reducible apply Lv.w_or)) | ((with_reducible apply Lv.w_not)) | ((with_reducible apply Lv.w_andV)) | ((with_reducible apply Lv.w_orV)) | ((with_reducible apply Lv.w_notV)) | ((with_reducible apply Lv.w_ifT)) | ((with_reducible apply Lv.w_ifF)) | ((with_reducible apply Lv.w_ifNT)) | ((with_reducible apply Lv.w_ifNF)) | ((with_reducible apply Lv.w_yes)) | ((with_reducible apply Lv.w_ixT); (focus (first | assumption | (exact Lv.Join.g (by assumption) _ _ (by assumption)))); (focus (exact rfl))) | ((with_reducible apply Lv.w_aug); (focus (exact rfl))) | ((with_reducible apply Lv.w_rAdd)) | ((with_reducible apply Lv.w_rSub)) | ((with_reducible apply Lv.w_lcL)) | ((with_reducible apply Lv.w_lcT)) | ((with_reducible apply Lv.w_lcR)) | ((with_reducible apply Lv.w_sl)) | ((with_reducible apply Lv.w_npart)) | ((with_reducible apply Lv.w_part)) | ((with_reducible apply Lv.w_pint)) | ((with_reducible apply Lv.w_forR)) | ((with_reducible apply Lv.w_forR2)) | ((with_reducible apply Lv.w_par)) | ((with_reducible apply Lv.w_apar)) | ((with_reducible apply Lv.w_lcR2)) | ((with_reducible apply Lv.w_lcE)) | ((with_reducible apply Lv.w_isB)) | ((with_reducible apply Lv.w_isNB)) | ((with_reducible apply Lv.w_forL)) | ((with_reducible apply Lv.w_forT)) | ((with_reducible apply Lv.w_brk)) | ((with_reducible apply Lv.w_cont)) | ((with_reducible apply Lv.w_meth)) | ((with_reducible apply Lv.w_make)))
          refine itNF rfl ?_
          (repeat first | ((with_reducible apply Lv.w_seq)) | ((with_reducible apply Lv.w_var); (focus (exact rfl))) | ((with_reducible apply Lv.w_op)) | ((with_reducible apply Lv.w_c)) | ((with_reducible apply Lv.w_cons)) | ((with_reducible apply Lv.w_nil)) | ((with_reducible apply Lv.w_rI0)) | ((with_reducible apply Lv.w_asg)) | ((with_reducible apply Lv.w_name)) | ((with_reducible apply Lv.w_call)) | ((with_reducible apply Lv.w_tof)) | ((with_reducible apply Lv.w_lof)) | ((with_reducible apply Lv.w_abs)) | ((with_reducible apply Lv.w_int1)) | ((with_reducible apply Lv.w_lenv)) | ((with_reducible apply Lv.w_lens)) | ((with_reducible apply Lv.w_cb)) | ((with_reducible apply Lv.w_rabs)) | ((with_reducible apply Lv.w_rint)) | ((with_reducible apply Lv.w_rintb)) | ((with_reducible apply Lv.w_rlenT); (focus (first | assumption | (exact Lv.Join.g (by assumption) _ _ (by assumption))))) | ((with_reducible apply Lv.w_rlenL); (focus (first | assumption | (exact Lv.Join.g (by assumption) _ _ (by assumption))))) | ((with_reducible apply Lv.w_slenT); (focus (first | assumption | (exact Lv.Join.g (by assumption) _ _ (by assumption))))) | ((with_reducible apply Lv.w_slenL); (focus (first | assumption | (exact Lv.Join.g (by assumption) _ _ (by assumption))))) | ((with_reducible apply Lv.w_klenT); (focus (first | assumption | (exact Lv.Join.g (by assumption) _ _ (by assumption))))) | ((with_reducible apply Lv.w_klenL); (focus (first | assumption | (exact Lv.Join.g (by assumption) _ _ (by assumption))))) | ((with_reducible apply Lv.w_bm)) | ((with_reducible apply Lv.w_bm0)) | ((with_reducible apply Lv.w_bml); (focus (first | assumption | (exact Lv.Join.g (by assumption) _ _ (by assumption))))) | ((with_reducible apply Lv.w_tup)) | ((with_reducible apply Lv.w_lst)) | ((with_reducible apply Lv.w_fld)) | ((with_reducible apply Lv.w_un)) | ((with_reducible apply Lv.w_rU)) | ((with_reducible apply Lv.w_ret)) | ((with_reducible apply Lv.w_retN)) | ((with_reducible apply Lv.w_next)) | ((with_reducible apply Lv.w_drop)) | ((with_reducible apply Lv.w_ifS)) | ((with_reducible apply Lv.w_gcons); (focus (exact rfl))) | ((with_reducible apply Lv.w_gnil); (focus (exact rfl))) | ((with_reducible apply Lv.w_gtup); (focus (first | assumption | (exact Lv.Join.g (by assumption) _ _ (by assumption)))); (focus (exact rfl))) | ((with_reducible apply Lv.w_eq); (focus (exact rfl))) | ((with_reducible apply Lv.w_ne); (focus (exact rfl))) | ((with_reducible apply Lv.w_tB)) | ((with_reducible apply Lv.w_test)) | ((with_reducible apply Lv.w_bl)) | ((with_reducible apply Lv.w_and)) | ((with_reducible apply Lv.w_or)) | ((with_reducible apply Lv.w_not)) | ((with_reducible apply Lv.w_andV)) | ((with_reducible apply Lv.w_orV)) | ((with_reducible apply Lv.w_notV)) | ((with_reducible apply Lv.w_ifT)) | ((with_reducible apply Lv.w_ifF)) | ((with_reducible apply Lv.w_ifNT)) | ((with_reducible apply Lv.w_ifNF)) | ((with_reducible apply Lv.w_yes)) | ((with_reducible apply Lv.w_ixT); (focus (first | assumption | (exact Lv.Join.g (by assumption) _ _ (by assumption)))); (focus (exact rfl))) | ((with_reducible apply Lv.w_aug); (focus (exact rfl))) | ((with_reducible apply Lv.w_rAdd)) | ((with_reducible apply Lv.w_rSub)) | ((with_reducible apply Lv.w_lcL)) | ((with_reducible apply Lv.w_lcT)) | ((with_reducible apply Lv.w_lcR)) | ((with_reducible apply Lv.w_sl)) | ((with_reducible apply Lv.w_npart)) | ((with_reducible apply Lv.w_part)) | ((with_reducible apply Lv.w_pint)) | ((with_reducible apply Lv.w_forR)) | ((with_reducible apply Lv.w_forR2)) | ((with_reducible apply Lv.w_par)) | ((with_reducible apply Lv.w_apar)) | ((with_reducible apply Lv.w_lcR2)) | ((with_reducible apply Lv.w_lcE)) | ((with_reducible apply Lv.w_isB)) | ((with_reducible apply Lv.w_isNB)) | ((with_reducible apply Lv.w_forL)) | ((with_reducible apply Lv.w_forT)) | ((with_reducible apply Lv.w_brk)) | ((with_reducible apply Lv.w_cont)) | ((with_reducible apply Lv.w_meth)) | ((with_reducible apply Lv.w_make)))
          exact ⟨G28, _, j28, ((e'.trans (e22.trans (e23.trans e24))).trans (e25.trans e26)).trans (e27.trans e28), hP23, _, _, _, _, _, _, _, _, _, _, _, rfl⟩
        · rintro G' P' H' σ' j' ⟨e', hP, s13, s14, s15, s16, s17, s18, s19, s20, s21, s22, s23, rfl⟩
          exact ⟨G', P', j', hP, _, _, _, _, _, _, _, _, _, _, _, _, _, _, _, _, _, _, _, _, _, _, rfl⟩
      · refine itF h0 ?_
        (repeat first | ((with_reducible apply Lv.w_seq)) | ((with_reducible apply Lv.w_var); (focus (exact rfl))) | ((with_reducible apply Lv.w_op)) | ((with_reducible apply Lv.w_c)) | ((with_reducible apply Lv.w_cons)) | ((with_reducible apply Lv.w_nil)) | ((with_reducible apply Lv.w_rI0)) | ((with_reducible apply Lv.w_asg)) | ((with_reducible apply Lv.w_name)) | ((with_reducible apply Lv.w_call)) | ((with_reducible apply Lv.w_tof)) | ((with_reducible apply Lv.w_lof)) | ((with_reducible apply Lv.w_abs)) | ((with_reducible apply Lv.w_int1)) | ((with_reducible apply Lv.w_lenv)) | ((with_reducible apply Lv.w_lens)) | ((with_reducible apply Lv.w_cb)) | ((with_reducible apply Lv.w_rabs)) | ((with_reducible apply Lv.w_rint)) | ((with_reducible apply Lv.w_rintb)) | ((with_reducible apply Lv.w_rlenT); (focus (first | assumption | (exact Lv.Join.g (by assumption) _ _ (by assumption))))) | ((with_reducible apply Lv.w_rlenL); (focus (first | assumption | (exact Lv.Join.g (by assumption) _ _ (by assumption))))) | ((with_reducible apply Lv.w_slenT); (focus (first | assumption | (exact Lv.Join.g (by assumption) _ _ (by assumption))))) | ((with_reducible apply Lv.w_slenL); (focus (first | assumption | (exact Lv.Join.g (by assumption) _ _ (by assumption))))) | ((with_reducible apply Lv.w_klenT); (focus (first | assumption | (exact Lv.Join.g (by assumption) _ _ (by assumption))))) | ((with_reducible apply Lv.w_klenL); (focus (first | assumption | (exact Lv.Join.g (by assumption) _ _ (by assumption))))) | ((with_reducible apply Lv.w_bm)) | ((with_reducible apply Lv.w_bm0)) | ((with_reducible apply Lv.w_bml); (focus (first | assumption | (exact Lv.Join.g (by assumption) _ _ (by assumption))))) | ((with_reducible apply Lv.w_tup)) | ((with_reducible apply Lv.w_lst)) | ((with_reducible apply Lv.w_fld)) | ((with_reducible apply Lv.w_un)) | ((with_reducible apply Lv.w_rU)) | ((with_reducible apply Lv.w_ret)) | ((with_reducible apply Lv.w_retN)) | ((with_reducible apply Lv.w_next)) | ((with_reducible apply Lv.w_drop)) | ((with_reducible apply Lv.w_ifS)) | ((with_reducible apply Lv.w_gcons); (focus (exact rfl))) | ((with_reducible apply Lv.w_gnil); (focus (exact rfl))) | ((with_reducible apply Lv.w_gtup); (focus (first | assumption | (exact Lv.Join.g (by assumption) _ _ (by assumption)))); (focus (exact rfl))) | ((with_reducible apply Lv.w_eq); (focus (exact rfl))) | ((with_reducible apply Lv.w_ne); (focus (exact rfl))) | ((with_reducible apply Lv.w_tB)) | ((with_reducible apply Lv.w_test)) | ((with_reducible apply Lv.w_bl)) | ((with_reducible apply Lv.w_and)) | ((with_reducible apply Lv.w_or)) | ((with_reducible apply Lv.w_not)) | ((with_reducible apply Lv.w_andV)) | ((with_reducible apply Lv.w_orV)) | ((with_reducible apply Lv.w_notV)) | ((with_reducible apply Lv.w_ifT)) | ((with_reducible apply Lv.w_ifF)) | ((with_reducible apply Lv.w_ifNT)) | ((with_reducible apply Lv.w_ifNF)) | ((with_reducible apply Lv.w_yes)) | ((with_reducible apply Lv.w_ixT); (focus (first | assumption | (exact Lv.Join.g (by assumption) _ _ (by assumption)))); (focus (exact rfl))) | ((with_reducible apply Lv.w_aug); (focus (exact rfl))) | ((with_reducible apply Lv.w_rAdd)) | ((with_reducible apply Lv.w_rSub)) | ((with_reducible apply Lv.w_lcL)) | ((with_reducible apply Lv.w_lcT)) | ((with_reducible apply Lv.w_lcR)) | ((with_reducible apply Lv.w_sl)) | ((with_reducible apply Lv.w_npart)) | ((with_reducible apply Lv.w_part)) | ((with_reducible apply Lv.w_pint)) | ((with_reducible apply Lv.w_forR)) | ((with_reducible apply Lv.w_forR2)) | ((with_reducible apply Lv.w_par)) | ((with_reducible apply Lv.w_apar)) | ((with_reducible apply Lv.w_lcR2)) | ((with_reducible apply Lv.w_lcE)) | ((with_reducible apply Lv.w_isB)) | ((with_reducible apply Lv.w_isNB)) | ((with_reducible apply Lv.w_forL)) | ((with_reducible apply Lv.w_forT)) | ((with_reducible apply Lv.w_brk)) | ((with_reducible apply Lv.w_cont)) | ((with_reducible apply Lv.w_meth)) | ((with_reducible apply Lv.w_make)))
        exact ⟨G5, _, j5, hP, _, _, _, _, _, _, _, _, _, _, _, _, _, _, _, _, _, _, _, _, _, _, rfl⟩
    · exact fun _ _ _ _ _ _ => k _
end X

namespace X
open PySem PySem.Spec PyProof.Rows L2 Lv
theorem facts {P : Program} {w : World} {K : PySem.W.Frag} {h : Heap} {mg : Str → Option Value} {f : Addr} (X : K.In h) (G : h.Ns mainGlobals mg) (hfa : mg ("law" : Str) = some (.ref f)) (c : He.SaysX fa fn [] [] ex w h K) :
    ∃ fd : FuncData, (∀ (s : Shared) (v : Value), BindsTo s fd ⟨[v], []⟩ [("_law_script", v)]) ∧ ∀ base : Heap, K.In base → base.Ns mainGlobals mg → FnOk P w K mg base CX0 8 f fd ["_law_script"] (sp_law K) := by
  have T := txt_of X G c
  have e := hfa.symm.trans T.g_law
  cases e
  suffices H : ∀ base : Heap, ∃ fd, Dn P w K mg base CX0 8 "law" ["_law_script"] (sp_law K) fd by
    obtain ⟨fd, F⟩ := id T.d_law
    refine ⟨fd, fun s v => FunD.bindsA (ps := ["_law_script"]) F (fun _ _ _ _ _ _ us hl => match us, hl with | [_], _ => rfl) s [v] rfl, fun base _ _ => ?_⟩
    obtain ⟨fd', D⟩ := H base
    have q : fd' = fd := Lv.fd_same D.lk (Lv.fun_lk F)
    rw [← q]; exact D.ok
  intro base
  obtain ⟨fd_is_integer, G_is_integer⟩ := ok_is_integer (P := P) (w := w) (base := base) T
  obtain ⟨fd_is_within, G_is_within⟩ := ok_is_within (P := P) (w := w) (base := base) T G_is_integer
  obtain ⟨fd_is_event, G_is_event⟩ := ok_is_event (P := P) (w := w) (base := base) T G_is_within
  obtain ⟨fd_Machine_keep, G_Machine_keep⟩ := ok_Machine_keep (P := P) (w := w) (base := base) T
  obtain ⟨fd_Machine_init, G_Machine_init⟩ := ok_Machine_init (P := P) (w := w) (base := base) T G_is_within G_is_event G_Machine_keep
  obtain ⟨fd_Machine_eq, G_Machine_eq⟩ := ok_Machine_eq (P := P) (w := w) (base := base) T
  obtain ⟨fd_l_pot, G_l_pot⟩ := ok_l_pot (P := P) (w := w) (base := base) T
  obtain ⟨fd_l_draw, G_l_draw⟩ := ok_l_draw (P := P) (w := w) (base := base) T
  obtain ⟨fd_l_any, G_l_any⟩ := ok_l_any (P := P) (w := w) (base := base) T G_l_draw
  obtain ⟨fd_l_parts, G_l_parts⟩ := ok_l_parts (P := P) (w := w) (base := base) T G_l_draw
  obtain ⟨fd_step_at, G_step_at⟩ := ok_step_at (P := P) (w := w) (base := base) T
  obtain ⟨fd_is_event_of, G_is_event_of⟩ := ok_is_event_of (P := P) (w := w) (base := base) T G_is_within
  obtain ⟨fd_is_run_there, G_is_run_there⟩ := ok_is_run_there (P := P) (w := w) (base := base) T G_is_event_of G_step_at
  obtain ⟨fd_check_run, G_check_run⟩ := ok_check_run (P := P) (w := w) (base := base) T G_is_run_there
  obtain ⟨fd_boards_of, G_boards_of⟩ := ok_boards_of (P := P) (w := w) (base := base) T G_step_at
  obtain ⟨fd_boards, G_boards⟩ := ok_boards (P := P) (w := w) (base := base) T G_check_run G_boards_of
  obtain ⟨fd_l_out, G_l_out⟩ := ok_l_out (P := P) (w := w) (base := base) T
  obtain ⟨fd_l_walk, G_l_walk⟩ := ok_l_walk (P := P) (w := w) (base := base) T G_l_out G_l_draw
  obtain ⟨fd_check_event, G_check_event⟩ := ok_check_event (P := P) (w := w) (base := base) T G_is_event_of
  obtain ⟨fd_RawMachine_init, G_RawMachine_init⟩ := ok_RawMachine_init (P := P) (w := w) (base := base) T G_Machine_keep
  obtain ⟨fd_is_run, G_is_run⟩ := ok_is_run (P := P) (w := w) (base := base) T G_is_run_there
  obtain ⟨fd_parted, G_parted⟩ := ok_parted (P := P) (w := w) (base := base) T G_check_event G_step_at G_is_within G_is_integer G_RawMachine_init
  obtain ⟨fd_l_twice, G_l_twice⟩ := ok_l_twice (P := P) (w := w) (base := base) T
  obtain ⟨fd_law, G_law⟩ := ok_law (P := P) (w := w) (base := base) T G_l_pot G_l_draw G_l_parts G_Machine_init G_l_any G_parted G_l_walk G_l_twice G_is_run G_boards
  exact ⟨fd_law, G_law⟩
end X
open PySem PySem.W PySem.Calls PyProof.Rows
theorem PySem.Challenge.cw_neverleapt_k09_whole_events_parted_holds : PySem.Challenge.rw_neverleapt_k09_whole_events_parted.Holds := by
  w_on; o_law
  refine HandSHeadRun.head_any (r := OpenLaw.row PySem.Challenge.rw_neverleapt_k09_whole_events_parted) (q := view (OpenLaw.row PySem.Challenge.rw_neverleapt_k09_whole_events_parted).prog [35]) (H := X.hk) (ob := X.ob) (M := 20000) (loose := X.loose) (d := HandSHeadRun.topDef (OpenLaw.row PySem.Challenge.rw_neverleapt_k09_whole_events_parted).prog 35) (kwd := []) X.ob_eq
    (by kernel_rfl) (fun s => by kernel_rfl) X.run (by kernel_rfl) (by kernel_rfl) (by kernel_rfl) (by rfl) (by first | assumption | decide +kernel) (by decide +kernel) ⟨rfl, rfl, rfl, rfl, rfl, by decide +kernel⟩ ?hw ?hc
  case hw => w_witness2
  case hc =>
    refine L2.walk_ofE (l := PySem.Challenge.rw_neverleapt_k09_whole_events_parted) (n := 63) (k := 8) (x := "_law_script") (CX := L2.CX0) rfl (by decide) (by kernel_rfl) ⟨rfl, by decide, by decide⟩ ?F (fun _ _ _ _ z => z)
    intro w mg fa h Y G hmg0
    obtain ⟨K, KX, c⟩ := Y
    have hmg : mg ("law" : PySem.Str) = some (.ref fa) := by
      have e : (HandSHeadRun.topDef (OpenLaw.row PySem.Challenge.rw_neverleapt_k09_whole_events_parted).prog 35).name = ("law" : PySem.Str) := by kernel_rfl
      rw [← e]
      exact hmg0
    obtain ⟨fd, hb, hF⟩ := X.facts (P := (PySem.Challenge.rw_neverleapt_k09_whole_events_parted).prog) (w := w) KX G hmg c
    exact ⟨K, fd, X.sp_law K, KX, hb, fun H a ns hl _ hS => ⟨a, ns, rfl, hS, hl, fun _ => rfl⟩, hF⟩

