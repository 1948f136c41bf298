import PyProof.Rows.All
import Wide.All
import OpenK.AllK
import Wide.FinOn
import HandS.ForMost
import HandS.Conv
import KE.KRevSl
import HandS.DictComp
import PyProof.SeqIndex
import PyProof.LongRange
import HandS.SortInts
import HandS.Exc
import HandS.TryOnly
import HandS.ExcOwn
import HandS.WordsExc
import HandS.Wide
import HandS.WideBits
import HandS.IsInst
import HandS.Defaults
import HandS.Flow
import HandS.Head0
import HandS.Head1
import HandS.Head2
import HandS.HeadEnd
import HandS.HeadHook1
import HandS.HeadHook2
import HandS.HeadHook3
import HandS.HeadHook4
import HandS.Small
import KE.GoesEnum
import HandS.Evl
import HandS.TupAny
import KE.KExcSuper
import HandS.ExcInit
import HandS.ExcField
import HandS.TryMany
import HandS.TupSets
import HandS.Deep
import HandS.TupMul
import HandS.DictTup
import KE.KDictDisplayH
import HandS.TupLen
import HandS.SetKeys
import HandS.Style
import HandS.ExcIs
import HandS.Hot
import HandS.ExcCtx
import PySem.Challenge.RW_neverleapt_k69_mends_judged
set_option Elab.async false
set_option linter.all false
set_option maxRecDepth 100000
set_option maxHeartbeats 4000000
/-! Lv: own lemmas over the hand layer: two parts of a heap (the law's pot and all else), comprehensions of ints, divisors. -/
namespace Lv
open PySem L2
/-! ### heaps in two parts -/
/-- H' has all that H has -/
def Ex (H H' : Hp) : Prop := ∀ a o, H a = some o → H' a = some o
theorem Ex.refl (H : Hp) : Ex H H := fun _ _ h => h
theorem Ex.trans {H H1 H2 : Hp} (a : Ex H H1) (b : Ex H1 H2) : Ex H H2 := fun x o h => b x o (a x o h)
theorem Ex.new {H : Hp} {p : Addr} {o : HO} (h : H p = none) : Ex H (upd H p o) := fun a u e => by
  rw [upd_ne (ne_of_none e h)]
  exact e
theorem Ex.mut {H H' : Hp} {p : Addr} {o : HO} (e : Ex H H') (h : H p = none) : Ex H (upd H' p o) := fun a u ha => by
  rw [upd_ne (ne_of_none ha h)]
  exact e a u ha
theorem Ex.back {H H' : Hp} {p : Addr} (e : Ex H H') (h : H' p = none) : H p = none := by
  cases h1 : H p with
  | none => rfl
  | some o =>
    rw [e p o h1] at h
    cases h
theorem Ex.rd {H H' : Hp} {a : Addr} {u : HO} (e : Ex H H') (h : Rd H a u) : Rd H' a u := by
  rcases h with h | ⟨o, h⟩
  · exact Or.inl (e a _ h)
  · exact Or.inr ⟨o, e a _ h⟩
theorem Ex.l {K : PySem.W.Frag} {H H' : Hp} {a : Addr} {xs : List V} (e : Ex H H') (h : SqL K H a xs) : SqL K H' a xs := by
  rcases h with h | h
  · exact Or.inl (e.rd h)
  · exact Or.inr h
theorem Ex.t {K : PySem.W.Frag} {H H' : Hp} {a : Addr} {xs : List V} (e : Ex H H') (h : SqT K H a xs) : SqT K H' a xs := by
  rcases h with h | h
  · exact Or.inl (e.rd h)
  · exact Or.inr h
theorem sqL {K : PySem.W.Frag} {H : Hp} {a : Addr} {xs : List V} (h : H a = some (.lst xs)) : SqL K H a xs := Or.inl (Or.inl h)
theorem sqT {K : PySem.W.Frag} {H : Hp} {a : Addr} {xs : List V} (h : H a = some (.tup xs)) : SqT K H a xs := Or.inl (Or.inl h)
theorem szle {n : Nat} (h : n ≤ 100000) : n ≤ sizeLine := Nat.le_trans h (by decide)
theorem szlt {n : Nat} (h : n < 100000) : n < sizeLine := Nat.lt_of_lt_of_le h (by decide)
/-- H is made of G and P, apart from one another -/
structure Join (G P H : Hp) : Prop where
  ap : ∀ b o, P b = some o → G b = none
  g : ∀ b o, G b = some o → H b = some o
  p : ∀ b o, P b = some o → H b = some o
  no : ∀ b, G b = none → P b = none → H b = none
theorem Join.self (H : Hp) : Join H (fun _ => none) H := ⟨fun _ _ e => (nomatch e), fun _ _ e => e, fun _ _ e => (nomatch e), fun _ e _ => e⟩
theorem Join.ng {G P H : Hp} (j : Join G P H) {b : Addr} (h : H b = none) : G b = none := by
  cases e : G b with
  | none => rfl
  | some o => rw [j.g b o e] at h; cases h
theorem Join.np {G P H : Hp} (j : Join G P H) {b : Addr} (h : H b = none) : P b = none := by
  cases e : P b with
  | none => rfl
  | some o => rw [j.p b o e] at h; cases h
theorem Join.gp {G P H : Hp} (j : Join G P H) {b : Addr} {o : HO} (h : G b = some o) : P b = none := by
  cases e : P b with
  | none => rfl
  | some u => rw [j.ap b u e] at h; cases h
theorem Join.setG {G P H : Hp} (j : Join G P H) {b : Addr} {o : HO} (h : P b = none) : Join (upd G b o) P (upd H b o) := by
  refine ⟨fun c u e => ?_, fun c u e => ?_, fun c u e => ?_, fun c e1 e2 => ?_⟩
  · have n : c ≠ b := fun z => by rw [z, h] at e; cases e
    rw [upd_ne n]; exact j.ap c u e
  · by_cases z : c = b
    · rw [z, upd_same] at e; rw [z, upd_same]; exact e
    · rw [upd_ne z] at e; rw [upd_ne z]; exact j.g c u e
  · have n : c ≠ b := fun z => by rw [z, h] at e; cases e
    rw [upd_ne n]; exact j.p c u e
  · have n : c ≠ b := fun z => by rw [z, upd_same] at e1; cases e1
    rw [upd_ne n] at e1; rw [upd_ne n]; exact j.no c e1 e2
theorem Join.newG {G P H : Hp} (j : Join G P H) {b : Addr} {o : HO} (h : H b = none) : Join (upd G b o) P (upd H b o) := j.setG (j.np h)
theorem Join.setP {G P H : Hp} (j : Join G P H) {b : Addr} {o : HO} (h : G b = none) : Join G (upd P b o) (upd H b o) := by
  refine ⟨fun c u e => ?_, fun c u e => ?_, fun c u e => ?_, fun c e1 e2 => ?_⟩
  · by_cases z : c = b
    · rw [z]; exact h
    · rw [upd_ne z] at e; exact j.ap c u e
  · have n : c ≠ b := fun z => by rw [z, h] at e; cases e
    rw [upd_ne n]; exact j.g c u e
  · by_cases z : c = b
    · rw [z, upd_same] at e; rw [z, upd_same]; exact e
    · rw [upd_ne z] at e; rw [upd_ne z]; exact j.p c u e
  · have n : c ≠ b := fun z => by rw [z, upd_same] at e2; cases e2
    rw [upd_ne n] at e2; rw [upd_ne n]; exact j.no c e1 e2
theorem Join.exG {G P H : Hp} (j : Join G P H) : Ex G H := j.g
theorem Join.exP {G P H : Hp} (j : Join G P H) : Ex P H := j.p
/-- what extends H extends the first part -/
theorem Join.grow {G P H H' : Hp} (j : Join G P H) (e : Ex H H') : Join (fun b => if P b = none then H' b else none) P H' := by
  refine ⟨fun c u q => ?_, fun c u q => ?_, fun c u q => e c u (j.p c u q), fun c q1 q2 => ?_⟩
  · have n : P c ≠ none := fun z => by rw [z] at q; cases q
    show (if P c = none then H' c else none) = none
    rw [if_neg n]
  · by_cases z : P c = none
    · have q2 : (if P c = none then H' c else none) = some u := q
      rw [if_pos z] at q2; exact q2
    · have q2 : (if P c = none then H' c else none) = some u := q
      rw [if_neg z] at q2; cases q2
  · have q3 : (if P c = none then H' c else none) = none := q1
    rw [if_pos q2] at q3; exact q3
theorem Join.growEx {G P H H' : Hp} (j : Join G P H) (e : Ex H H') : Ex G (fun b => if P b = none then H' b else none) := fun c u q => by
  show (if P c = none then H' c else none) = some u
  rw [if_pos (j.gp q)]; exact e c u (j.g c u q)
theorem Join.growNew {G P H H' : Hp} (j : Join G P H) {b : Addr} {o : HO} (h : H b = none) (q : H' b = some o) : (fun b => if P b = none then H' b else none) b = some o := by
  show (if P b = none then H' b else none) = some o
  rw [if_pos (j.np h)]; exact q
/-! ### the items of a list of ints -/
theorem int_at {ns : List Int} {i : Nat} {y : V} (h : (ns.map V.int)[i]? = some y) : ∃ z, ns[i]? = some z ∧ y = V.int z := by
  rw [List.getElem?_map] at h
  cases e : ns[i]? with
  | none => rw [e] at h; cases h
  | some z => rw [e] at h; exact ⟨z, rfl, (Option.some.inj h).symm⟩
theorem take_more {α : Type} : ∀ {l : List α} {i : Nat} {x : α}, l[i]? = some x → l.take (i + 1) = l.take i ++ [x]
  | [], i, x, h => by simp at h
  | a :: l, 0, x, h => by
    have e : a = x := Option.some.inj h
    subst e
    rfl
  | a :: l, i + 1, x, h => by
    have ih := take_more (l := l) (i := i) (x := x) h
    show a :: l.take (i + 1) = a :: l.take i ++ [x]
    rw [ih]
    rfl
/-- [g z for z in ns if f z], nothing touched: the rest of the reading behind the walked list -/
theorem lc_ints {K : PySem.W.Frag} {a : Addr} {ns : List Int} {j : Nat} {tt : TT} {te : TE} {vs : List Nat} {σ : St} {H : Hp} {Qd : Hp → Prop} {D : Addr} (f : Int → Bool) (g : Int → Int) (hD : H D = none)
    (hS : SqL K H a (ns.map V.int)) (hn : ns.length ≤ 1000) (hw : ∀ x, wipe ((wipe σ vs).set j (some x)) vs = wipe σ vs)
    (ht : ∀ (z : Int) (H' : Hp) (R : Bool → Hp → Prop), z ∈ ns → R (f z) H' → tt ((wipe σ vs).set j (some (.int z))) H' R)
    (he : ∀ (z : Int) (H' : Hp) (R : VK), z ∈ ns → f z = true → R (.int (g z)) H' → te ((wipe σ vs).set j (some (.int z))) H' R)
    (hq : Qd (upd H D (.lst (((ns.filter f).map g).map V.int)))) :
    ∃ W : Nat → Nat → Hp → Prop, (∃ m, W 0 m (upd H D (.lst []))) ∧ ∀ i m H, W i m H →
      ((Itl K a).stop i H ∧ Qd H) ∨ ((Itl K a).go i H ∧ ∃ Nx : Hp → Prop, (∀ H', Nx H' → ∃ m', m' < m ∧ W (i + 1) m' H') ∧ ∀ x H', (Itl K a).yld i H x H' → gName j x (wipe σ vs) H' fun σ2 H2 => wipe σ2 vs = wipe σ vs ∧ tt σ2 H2 fun b H3 =>
        if b = true then te σ2 H3 fun y H4 => ∃ acc, H4 D = some (.lst acc) ∧ acc.length < sizeLine ∧ Nx (upd H4 D (.lst (acc ++ [y]))) else Nx H3) := by
  have hl : ∀ i, ((((ns.take i).filter f).map g).map V.int).length ≤ 1000 := fun i => by
    rw [List.length_map, List.length_map]
    have h1 := List.length_filter_le f (ns.take i)
    rw [List.length_take] at h1
    omega
  refine lc_list (K := K) (a := a) (xs := ns.map V.int) (Qd := Qd) (fun i H' => H' = upd H D (.lst ((((ns.take i).filter f).map g).map V.int))) rfl (fun i H' _ e => ?_) (fun i y H' hi e => ?_) (fun H' e => ?_)
  · rw [e]; exact (Ex.new hD).l hS
  · obtain ⟨z, hz, rfl⟩ := int_at hi
    have hm : z ∈ ns := List.mem_of_getElem? hz
    have tm := take_more hz
    subst e
    refine ⟨hw _, ht z _ _ hm ?_⟩
    cases hf : f z with
    | true =>
      refine (if_pos rfl).mpr ?_
      refine he z _ _ hm hf ⟨_, upd_same, Nat.lt_of_le_of_lt (hl i) (by decide), ?_⟩
      rw [upd_upd, tm, List.filter_append, List.map_append, List.map_append, List.filter_cons, if_pos hf]
      rfl
    | false =>
      refine (if_neg (by decide)).mpr ?_
      rw [tm, List.filter_append, List.map_append, List.map_append, List.filter_cons, if_neg (by rw [hf]; decide)]
      show _ = upd H D (.lst (_ ++ []))
      rw [List.append_nil]
  · rw [e]
    have e2 : ns.take (ns.map V.int).length = ns := by rw [List.length_map]; exact List.take_length
    rw [e2]; exact hq
/-! ### a def as the top leaves it -/
structure Dn (P : Program) (w : World) (K : PySem.W.Frag) (mg : Str → Option Value) (base : Heap) (CX : CXT) (k : Nat) (x : Str) (ps : List Str) (sp : Sp) (fd : FuncData) : Prop where
  ok : FnOk P w K mg base CX k (He.ga K x) fd ps sp
  mg : mg x = some (.ref (He.ga K x))
  kp : PySem.W.keepIn K (.ref (He.ga K x)) = true
  b : Binds K fd ps []
  lk : ∃ oc od osl, K.lookup (He.ga K x) = some ⟨oc, od, .func fd, osl⟩
/-- a method as the top leaves it -/
structure Dm (P : Program) (w : World) (K : PySem.W.Frag) (mg : Str → Option Value) (base : Heap) (CX : CXT) (k : Nat) (C m : Str) (ps : List Str) (sp : Sp) (fd : FuncData) : Prop where
  ok : FnOk P w K mg base CX k (He.ma K (He.ga K C) m) fd ps sp
  b : Binds K fd ps []
  lk : ∃ oc od osl, K.lookup (He.ma K (He.ga K C) m) = some ⟨oc, od, .func fd, osl⟩
theorem fun_lk {K : PySem.W.Frag} {x qual : Str} {params : Arguments} {body : List Stmt} {scope : Scope} {dvs : List V} {kws : List (Str × V)} {f : Addr} {fd : FuncData} (F : FunD K x qual params body scope dvs kws f fd) : ∃ oc od osl, K.lookup f = some ⟨oc, od, .func fd, osl⟩ := by
  obtain ⟨oc, od, _, _, _, _, _, _, _, osl, _, lk, _⟩ := F.ex
  exact ⟨oc, od, osl, lk⟩
theorem fd_same {K : PySem.W.Frag} {f : Addr} {fd fd' : FuncData} (h : ∃ oc od osl, K.lookup f = some ⟨oc, od, .func fd, osl⟩) (h' : ∃ oc od osl, K.lookup f = some ⟨oc, od, .func fd', osl⟩) : fd = fd' := by
  obtain ⟨_, _, _, e⟩ := h
  obtain ⟨_, _, _, e'⟩ := h'
  rw [e] at e'
  injection e' with e'
  injection e' with _ _ e' _
  injection e'
/-! ### the pot -/
/-- a pot at l: great numbers, small ones (one at least), the turn, one number more -/
def Pot (P : Hp) (l : Addr) : Prop := ∃ (g s : Addr) (gs ss : List Int) (t c : Int), P l = some (.lst [.ref g, .ref s, .int t, .int c]) ∧ P g = some (.lst (gs.map V.int)) ∧ P s = some (.lst (ss.map V.int)) ∧ g ≠ s ∧ 0 < ss.length ∧ ss.length ≤ 1000 ∧ gs.length ≤ 1000
def spPot (K : PySem.W.Frag) : Sp := fun vs H Q _ => ∃ (a : Addr) (ns : List Int), vs = [.ref a] ∧ SqL K H a (ns.map V.int) ∧ ns.length ≤ 63 ∧ ∀ l G P H', Ex H G → Join G P H' → Pot P l → Q (.ref l) H'
def spDraw : Sp := fun vs H Q _ => ∃ (l : Addr) (n : Int) (G P : Hp), vs = [.ref l, .int n] ∧ Join G P H ∧ Pot P l ∧ 0 < n ∧ n < 2 ^ 200 ∧ ∀ (r : Int) (P' H' : Hp), 0 ≤ r → r < n → Join G P' H' → Pot P' l → Q (.int r) H'
/-- one of some things, at a tuple -/
def spAny (K : PySem.W.Frag) : Sp := fun vs H Q _ => ∃ (l t : Addr) (xs : List V) (G P : Hp), vs = [.ref l, .ref t] ∧ Join G P H ∧ Pot P l ∧ SqT K G t xs ∧ 0 < xs.length ∧ xs.length ≤ 1000 ∧ ∀ (i : Nat) (x : V) (P' H' : Hp), xs[i]? = some x → Join G P' H' → Pot P' l → Q x H'
end Lv

namespace Lv
open PySem L2
/-! ### tests -/
theorem itT {c A B : Prop} [Decidable c] (h : c) (a : A) : if decide c = true then A else B := by
  rw [if_pos (decide_eq_true h)]; exact a
theorem itF {c A B : Prop} [Decidable c] (h : ¬ c) (a : B) : if decide c = true then A else B := by
  rw [if_neg (by rw [decide_eq_false h]; decide)]; exact a
theorem itBT {b : Bool} {A B : Prop} (h : b = true) (a : A) : if b = true then A else B := by
  rw [if_pos h]; exact a
theorem itBF {b : Bool} {A B : Prop} (h : b = false) (a : B) : if b = true then A else B := by
  rw [if_neg (by rw [h]; decide)]; exact a
theorem itNT {c A B : Prop} [Decidable c] (h : ¬ c) (a : A) : if (!decide c) = true then A else B := by
  rw [if_pos (by rw [decide_eq_false h]; rfl)]; exact a
theorem itNF {c A B : Prop} [Decidable c] (h : c) (a : B) : if (!decide c) = true then A else B := by
  rw [if_neg (by rw [decide_eq_true h]; decide)]; exact a
theorem qT {Q : VK} {H : Hp} {b : Bool} (h : b = true) (k : Q (.bl true) H) : Q (.bl b) H := by rw [h]; exact k
/-! ### numbers -/
theorem abs_if (a : Int) : (if a < 0 then -a else a) = (a.natAbs : Int) := by split <;> omega
theorem emod_cast (m n : Nat) : ((m : Int) % (n : Int)) = ((m % n : Nat) : Int) := rfl
theorem gcd_turn (m n : Nat) : Nat.gcd n (m % n) = Nat.gcd m n := by
  rw [Nat.gcd_comm n, ← Nat.gcd_rec n m, Nat.gcd_comm]
/-- Euclid's product halves -/
theorem euclid_half {m n : Nat} (h : n < m) (h0 : 0 < n) : 2 * (n * (m % n)) < m * n := by
  have h1 : m % n < n := Nat.mod_lt _ h0
  have h2 : n + m % n ≤ m := by
    have e := Nat.div_add_mod m n
    have q : 1 ≤ m / n := Nat.div_pos (Nat.le_of_lt h) h0
    have q2 : n * 1 ≤ n * (m / n) := Nat.mul_le_mul_left n q
    omega
  have h3 : 2 * (m % n) < m := by omega
  have h4 : n * (2 * (m % n)) < n * m := Nat.mul_lt_mul_of_pos_left h3 h0
  have e1 : n * (2 * (m % n)) = 2 * (n * (m % n)) := by rw [Nat.mul_left_comm]
  have e2 : n * m = m * n := Nat.mul_comm _ _
  omega
end Lv

namespace Lv
open PySem L2
theorem ixN_nat {n j : Nat} (h : j < n) : ixN n (j : Int) = some j := by
  unfold ixN
  rw [if_pos (by omega), if_pos (by omega)]; simp
theorem seq_nat {n j : Nat} (h : j < n) : seqIndex? (j : Int) n = some j := (ixN_seq (ixN_nat h)).1
theorem atI_int {α : Type} {xs : List α} {i : Int} {v : α} (h0 : 0 ≤ i) (h : xs[i.toNat]? = some v) : atI xs i = some v := by
  have e : (i.toNat : Int) = i := by omega
  rw [← e]; exact atI_nat h
theorem nat1000 {i : Int} (h0 : 0 ≤ i) (h : i < 2 ^ 200) : i.natAbs < 2 ^ 1000 := by
  have h1 : i.natAbs < 2 ^ 200 := by
    have e : ((2 : Int) ^ 200) = ((2 ^ 200 : Nat) : Int) := by norm_cast
    omega
  exact Nat.lt_of_lt_of_le h1 (Nat.pow_le_pow_right (by decide) (by decide))
theorem mulW {i j : Int} (hi : i.natAbs < 2 ^ 1000) (hj : j.natAbs < 2 ^ 1000) : CMulW i j := wide_mul hi hj (by decide) (by decide) (by decide)
theorem mulSm {i j : Int} (a : 0 ≤ i) (b : i < 18446744073709551616) (c : 0 ≤ j) (d : j < 18446744073709551616) : CMulW i j := mulW (nat1000 a (Int.lt_of_lt_of_le b (by decide))) (nat1000 c (Int.lt_of_lt_of_le d (by decide)))
theorem divW {i j : Int} (h : 0 < j) (hj : j.natAbs < 2 ^ 1000) : CDivW i j := wide_div h hj (by decide) (by decide)
end Lv

namespace Lv
open PySem L2
/-- [e for x in t], t a tuple, each element's value f x, the heap may grow: the rest of the reading behind the walked tuple -/
theorem lc_mapT {K : PySem.W.Frag} {a : Addr} {xs : List V} {j : Nat} {te : TE} {vs : List Nat} {σ : L2.St} {G P H : Hp} {Qd : Hp → Prop} {D : Addr} (f : V → V) (hD : H D = none) (J : Join G P H)
    (hS : SqT K G a xs) (hn : xs.length ≤ 10000) (hw : ∀ x, wipe ((wipe σ vs).set j (some x)) vs = wipe σ vs)
    (he : ∀ (x : V) (G' H' : Hp) (R : VK), x ∈ xs → Ex G G' → Join G' P H' → (∀ H2, Ex H' H2 → R (f x) H2) → te ((wipe σ vs).set j (some x)) H' R)
    (hq : ∀ G' H', Ex G G' → Join G' P H' → G' D = some (.lst (xs.map f)) → Qd H') :
    ∃ W : Nat → Nat → Hp → Prop, (∃ m, W 0 m (upd H D (.lst []))) ∧ ∀ i m H, W i m H →
      ((Itt K a).stop i H ∧ Qd H) ∨ ((Itt K a).go i H ∧ ∃ Nx : Hp → Prop, (∀ H', Nx H' → ∃ m', m' < m ∧ W (i + 1) m' H') ∧ ∀ x H', (Itt K a).yld i H x H' → gName j x (wipe σ vs) H' fun σ2 H2 => wipe σ2 vs = wipe σ vs ∧ tYes σ2 H2 fun b H3 =>
        if b = true then te σ2 H3 fun y H4 => ∃ acc, H4 D = some (.lst acc) ∧ acc.length < sizeLine ∧ Nx (upd H4 D (.lst (acc ++ [y]))) else Nx H3) := by
  have gD : G D = none := J.ng hD
  have pD : P D = none := J.np hD
  refine lc_tup (K := K) (a := a) (xs := xs) (Qd := Qd) (fun i H' => ∃ G', Ex G G' ∧ Join G' P H' ∧ G' D = some (.lst ((xs.take i).map f))) ⟨_, Ex.new gD, J.newG hD, upd_same⟩ (fun i H' _ ⟨G', e, J', _⟩ => J'.exG.t (e.t hS)) (fun i y H' hi ⟨G', e, J', hd⟩ => ?_) (fun H' ⟨G', e, J', hd⟩ => ?_)
  · have hm : y ∈ xs := List.mem_of_getElem? hi
    refine ⟨hw _, iteT (A := te ((wipe σ vs).set j (some y)) H' _) (B := True) ?_⟩
    refine he y G' H' _ hm e J' fun H2 e2 => ⟨(xs.take i).map f, e2 D _ (J'.g D _ hd), ?_, ?_⟩
    · refine szlt ?_
      have h1 : i < xs.length := (List.getElem?_eq_some_iff.mp hi).1
      rw [List.length_map, List.length_take]; omega
    · refine ⟨upd (fun b => if P b = none then H2 b else none) D (.lst ((xs.take i).map f ++ [f y])), ?_, (J'.grow e2).setG pD, ?_⟩
      · exact fun b o q => by
          rw [upd_ne (ne_of_none q gD)]
          exact J'.growEx e2 b o (e b o q)
      · rw [upd_same, take_more hi, List.map_append]; rfl
  · refine hq G' H' e J' ?_
    rw [hd, List.take_length]
end Lv

/-! enumerate over a tuple: a rule of our own -/
namespace Lv
open PySem PySem.Spec PyProof.Rows L2
set_option maxHeartbeats 4000000 in
theorem meets_enum1 {v : Value} {o : Obj} {H : Heap → Prop} (B : Begins v o H) :
    Meets (Builtin.«enumerate.__new__» ⟨[.type "enumerate", v], []⟩) (fun _ R s => H s.heap ∧
      R (.ok (.ret (.ref (s.heap.push o).objs.size))) { s with heap := (s.heap.push o).push { cls := .type "enumerate", data := .fields #[.none, .bool false, .ref s.heap.objs.size, rawInt 0, .none, .none] } }) :=
  .of_wp fun prog w A R s h => by
    obtain ⟨hp, g, d, tk, os⟩ := s; obtain ⟨h1, h⟩ := h
    have hsub := sub_enumerate
    have q1 : ∀ {A' : Around} {E : Value → Shared → Prop} {Q : Value → Shared → Prop}, Q (.ref hp.objs.size) ⟨hp.push o, g, d, tk, os⟩ → wpAny (model prog w) A' (pyIter v) Q E ⟨hp, g, d, tk, os⟩ :=
      fun q => B.iter prog w _ _ ⟨hp, g, d, tk, os⟩ _ h1 q
    wp_walk using q1
    refine wpAny_stack_any fun st => wpAny_pure ?_
    split
    · rename_i c _ _ _ _ _
      cases (c == Value.type "enumerate")
      · wp_walk using q1
        exact ⟨_, rfl, h⟩
      · wp_walk using q1
        exact ⟨_, rfl, h⟩
    · wp_walk using q1
      exact ⟨_, rfl, h⟩
theorem call_enum1 {prog : Program} {w : World} {A : Around} {E : Value → Shared → Prop} {s : Shared} {v : Value} {o : Obj} {H : Heap → Prop} {Q : Value → Shared → Prop} (B : Begins v o H) (h1 : H s.heap)
    (h : ∀ h', IsEnum h' (s.heap.objs.size + 1) s.heap.objs.size 0 .none → h'.get? s.heap.objs.size = some o → h'.objs.size = s.heap.objs.size + 2 →
      (∀ b o, s.heap.get? b = some o → h'.get? b = some o) → Q (.ref (s.heap.objs.size + 1)) { s with heap := h' }) :
    wpAny (model prog w) A (call (.type "enumerate") [v]) Q E s := by
  refine callType_new F.called_enumerate (by decide) (F.typeCall_enumerate_1 _) (F.newCall_enumerate_1 _) (fun obj => F.args_object_init_2 obj _) F.entry_enumerate_new
    (meets_enum1 B) ⟨h1, ?_⟩
  have hz : (s.heap.push o).objs.size = s.heap.objs.size + 1 := Heap.size_push ..
  show _ ∧ _
  rw [hz]
  have he : IsEnum ((s.heap.push o).push { cls := .type "enumerate", data := .fields #[.none, .bool false, .ref s.heap.objs.size, rawInt 0, .none, .none] }) (s.heap.objs.size + 1) s.heap.objs.size 0 .none := by
    have := Heap.get?_push_size (s.heap.push o) (o := { cls := .type "enumerate", data := .fields #[.none, .bool false, .ref s.heap.objs.size, rawInt 0, .none, .none] }) rfl
    rw [hz] at this; exact this
  refine ⟨⟨_, he, rfl⟩, h _ he (Heap.get?_push_of_some _ (Heap.get?_push_size _ B.free)) (by rw [Heap.size_push, hz]) fun b o x => Heap.get?_push_of_some _ (Heap.get?_push_of_some _ x)⟩
/-- the tuple at a, each item in a new pair -/
def Itet (K : PySem.W.Frag) (a : Addr) : It :=
  ⟨fun i H => ∃ (xs : List V) (x : V), SqT K H a xs ∧ xs[i]? = some x, fun i H v H' => ∃ T x, v = .ref T ∧ H T = none ∧ H' = upd H T (.tup [.int (i : Nat), x]) ∧ ∀ xs, SqT K H a xs → xs[i]? = some x, fun i H => ∃ xs : List V, SqT K H a xs ∧ xs.length = i⟩
theorem turn_enumT {P : Program} {w : World} {K : PySem.W.Frag} {elts : List Expr} {kk : Nat} {tpos : Pos} (a e it : Addr) (hat : a ≠ it) :
    Turn P w K (.Tuple elts kk tpos) (Itet K a) [e, it] e (fun i h => (∃ old, IsEnum h e it ((i : Nat) : Int) old) ∧ h.IsTupleIter it a i ∧ e ≠ it ∧ a ≠ e) where
  mem := by simp
  obj := fun i h st b hb => by
    obtain ⟨⟨old, he⟩, ⟨o, ho, hc, hd⟩, _⟩ := st
    have e' : b = e ∨ b = it := by simpa using hb
    rcases e' with z | z
    · rw [z]; exact ⟨_, he, fun v q => nomatch q⟩
    · rw [z]; exact ⟨o, ho, fun v q => by rw [hd] at q; cases q⟩
  keep := fun i h h' st k => let ⟨⟨old, he⟩, hi, hne⟩ := st; ⟨⟨old, k e (by simp) _ he⟩, hi.at fun o q => k it (by simp) o q, hne⟩
  item := by
    intro X hP hw hK hc i pins s σ H E I hf st hg
    subst hP hw hK
    obtain ⟨⟨old, he⟩, hit, hne, hae⟩ := st
    obtain ⟨xs, x, hq, hx⟩ := hg
    obtain ⟨its, rv, p, hz⟩ := I.tuple hq
    obtain ⟨u, hu, ru⟩ := rv.get hx
    have hel : e < s.heap.objs.size := Heap.lt_size he
    have hil : it < s.heap.objs.size := by obtain ⟨_, q, _⟩ := hit; exact Heap.lt_size q
    have hlt : i < its.toArray.size := by
      have := (List.getElem?_eq_some_iff.mp hu).1
      simpa using this
    refine wpAny_pyNext_enum_itemD (fp := [it, a]) (Draws.tuple (A := X.A.in1) (I.ok.hd hc) it a hat its.toArray) he ⟨hit, show s.heap.IsTuple a its.toArray from p⟩ hlt hne (by simp [hne, Ne.symm hae]) fun x' h' tk hx' ho hst' hT hsz hk => ?_
    have ex : x' = u := by
      have h1 : its.toArray[i]? = some u := by simpa using hu
      rw [h1] at hx'
      exact (Option.some.inj hx').symm
    subst ex
    refine ⟨_, rfl, wpAny_letOwnedTupleGo_enum (s := { s with heap := h', toks := tk + 1 }) ho fun h'' he' sb => ?_⟩
    have hT2 : h''.get? s.heap.objs.size = some { cls := .type "tuple", data := .seq #[.int i tk, x'] } := (sb.2 _ (Nat.ne_of_gt hel)).trans hT
    have new : ObjOk X.prog X.w (upd H s.heap.objs.size (.tup [.int (i : Nat), x])) h'' s.heap.objs.size (.tup [.int (i : Nat), x]) :=
      ⟨by show 2 ≤ sizeLine; decide, [.int i tk, x'], .cons ⟨_, rfl⟩ (.cons ru .nil), ⟨_, hT2, rfl, _, rfl⟩⟩
    have I1 : Inv X pins σ (upd H s.heap.objs.size (.tup [.int (i : Nat), x])) { s with heap := h'', toks := tk + 1 } :=
      I.turnedNew (ch := [e, it]) (fun b ob hb q => (sb.2 b (fun z => hb (by simp [z]))).trans (hk b ob (fun z => hb (by simp [z])) (fun z => hb (by simp [z])) q)) hf (Nat.le_refl _) new
    refine ⟨.ref s.heap.objs.size, _, I1, rfl, ⟨_, x, rfl, I.hok.fresh (Nat.le_refl _), rfl, fun ys hy => by rw [I.tuple_inj hy hq]; exact hx⟩, ⟨⟨x', ?_⟩, hst'.1.at fun o q => (sb.2 it (Ne.symm hne)).trans q, hne, hae⟩, fun b hb => ?_⟩
    · have e1 : ((i + 1 : Nat) : Int) = (i : Int) + 1 := by omega
      rw [e1]; exact he'
    · have hb' : b < s.heap.objs.size := by
        have e' : b = e ∨ b = it := by simpa using hb
        rcases e' with z | z
        · rw [z]; exact hel
        · rw [z]; exact hil
      rw [upd_ne (Nat.ne_of_lt hb')]
      exact (hf b hb).1
  done := by
    intro X hP hw hK hc i pins s σ H E I hf st hg
    subst hP hw hK
    obtain ⟨⟨old, he⟩, hit, hne, hae⟩ := st
    obtain ⟨xs, hq, hx⟩ := hg
    obtain ⟨its, rv, p, hz⟩ := I.tuple hq
    obtain ⟨f0, f1, f2, f3, f4, f5⟩ := hf it (by simp)
    have hl := rv.length
    have hpt : s.heap.IsTuple a its.toArray := p
    have hn : its.toArray.size = i := by
      rw [← hx, hl]; simp
    refine wpAny_pyNext_enum_endD (fp := [it, a]) (n := its.toArray.size) (Draws.tuple (A := X.A.in1) (I.ok.hd hc) it a hat its.toArray) he ⟨by rw [hn]; exact hit, hpt⟩ fun h' eb => ⟨rfl, I.turned (t' := s.toks) (fun b o hb q => eb b o hb q) f0 f1 f3 f4 f5⟩
  self := fun A i s Q E st h => let ⟨⟨_, he⟩, _⟩ := st; wpAny_pyIter_enum he h
def iEnumT (K : PySem.W.Frag) (ta : TA) : TI := fun σ H R => ta σ H fun vs H1 => ∃ a xs, vs = [.ref a] ∧ SqT K H1 a xs ∧ R (Itet K a) H1
theorem pi_enumT {X : Cx} {e : Expr} {ta : TA} {p pos tpos : Pos} {elts : List Expr} {kk : Nat} (hg : Gl X "enumerate") (hm : X.mg "enumerate" = none) (ha : PA X [e] ta) (hs : starEach [e] X.env = [(false, eval e X.env)] := by rfl) :
    PI X (.Tuple elts kk tpos) (.Call (.Name "enumerate" p) [e] [] pos) (iEnumT X.K ta) := by
  refine ⟨fun pins s σ H R I h => ?_⟩
  refine Call_ (ld_blt I hg hm boot_enumerate (PyProof.Rows.callWith_type1 (thn (ha.run pos pins s σ H _ I h) fun us s1 ⟨vs, H1, I1, r1, q1⟩ => ?_) hs rfl))
  obtain ⟨a, xs, ex, hq, q⟩ := q1
  subst ex
  cases r1 with
  | cons r rr =>
    cases rr
    cases r
    obtain ⟨its, rv, p', hz⟩ := I1.tuple hq
    have hpt : s1.heap.IsTuple a its.toArray := p'
    have hal : a < s1.heap.objs.size := p'.lt
    refine call_enum1 (begins_tuple a its.toArray) hpt fun h' he hit hsz hk => wpAny_pyIter_enum he ?_
    have I2 : Inv X pins σ H1 { s1 with heap := h' } := I1.kept (t' := s1.toks) hk
    refine ⟨s1.heap.objs.size + 1, [s1.heap.objs.size + 1, s1.heap.objs.size], _, _, H1, rfl, I2, turn_enumT a (s1.heap.objs.size + 1) s1.heap.objs.size (Nat.ne_of_lt hal), ⟨⟨.none, he⟩, ⟨_, hit, rfl, rfl⟩, Nat.succ_ne_self _, Nat.ne_of_lt (Nat.lt_succ_of_lt hal)⟩, fun b hb => ?_, q⟩
    have e' : b = s1.heap.objs.size + 1 ∨ b = s1.heap.objs.size := by simpa using hb
    have hle : s1.heap.objs.size ≤ b := by
      rcases e' with z | z
      · rw [z]; exact Nat.le_add_right _ _
      · rw [z]; exact Nat.le_refl _
    exact I1.fpOk hle (I1.hok.fresh hle)
theorem for_enumT {K : PySem.W.Frag} {a : Addr} {xs : List V} {g : TG} {tb : TS} {D : Ends} {σ : L2.St} {H : Hp} (Pv : Nat → L2.St → Hp → Prop) (h0 : Pv 0 σ H) (hl : ∀ i σ H, i ≤ xs.length → Pv i σ H → SqT K H a xs)
    (hs : ∀ (i : Nat) x σ H T, xs[i]? = some x → Pv i σ H → H T = none → g (.ref T) σ (upd H T (.tup [.int i, x])) fun σ2 H2 => tb { D with nx := Pv (i + 1), ct := Pv (i + 1), bk := D.nx } σ2 H2) (hd : ∀ σ H, Pv xs.length σ H → D.nx σ H) :
    ∃ W : Nat → Nat → L2.St → Hp → Prop, (∃ m, W 0 m σ H) ∧ ∀ i m σ H, W i m σ H →
      ((Itet K a).stop i H ∧ D.nx σ H) ∨ ((Itet K a).go i H ∧ ∃ N : L2.St → Hp → Prop, (∀ σ' H', N σ' H' → ∃ m', m' < m ∧ W (i + 1) m' σ' H') ∧ ∀ x H', (Itet K a).yld i H x H' → g x σ H' fun σ2 H2 => tb { D with nx := N, ct := N, bk := D.nx } σ2 H2) := by
  refine ⟨fun i m σ H => m = xs.length - i ∧ i ≤ xs.length ∧ Pv i σ H, ⟨xs.length, by simp, Nat.zero_le _, h0⟩, ?_⟩
  rintro i m σ H ⟨rfl, hi, p⟩
  have q := hl i σ H hi p
  by_cases hlt : i < xs.length
  · refine .inr ⟨⟨xs, xs[i], q, by simp [hlt]⟩, Pv (i + 1), fun σ' H' p' => ⟨xs.length - (i + 1), by omega, rfl, hlt, p'⟩, fun x H' y => ?_⟩
    obtain ⟨T, z, e1, e2, e3, y⟩ := y
    subst e1 e3
    exact hs i z σ H T (y xs q) p e2
  · have e : i = xs.length := by omega
    subst e
    exact .inl ⟨⟨xs, q, rfl⟩, hd σ H p⟩
end Lv

/-! machines over a heap -/
namespace Lv
open PySem L2
/-- an event: before, after, tries, points -/
structure Ev where
  b : Int
  a : Int
  w : Int
  x : Int
deriving DecidableEq
def evV (e : Ev) : List V := [.int e.b, .int e.a, .int e.w, .int e.x]
def EvOk (n : Int) (e : Ev) : Prop := 0 ≤ e.b ∧ e.b < n ∧ 0 ≤ e.a ∧ e.a < n ∧ 1 ≤ e.w ∧ e.w ≤ 40 ∧ -400 ≤ e.x ∧ e.x ≤ 400
def EvL (G : Hp) (vs : List V) (es : List Ev) : Prop := vs.length = es.length ∧ ∀ (i : Nat) (e : Ev), es[i]? = some e → ∃ t : Addr, vs[i]? = some (.ref t) ∧ G t = some (.tup (evV e))
theorem EvL.mono {G G' : Hp} {vs : List V} {es : List Ev} (e : Ex G G') (h : EvL G vs es) : EvL G' vs es := ⟨h.1, fun i z hz => by
  obtain ⟨t, h1, h2⟩ := h.2 i z hz
  exact ⟨t, h1, e _ _ h2⟩⟩
theorem EvL.get {G : Hp} {vs : List V} {es : List Ev} (h : EvL G vs es) {i : Nat} {v : V} (hv : vs[i]? = some v) : ∃ (e : Ev) (t : Addr), es[i]? = some e ∧ v = .ref t ∧ G t = some (.tup (evV e)) := by
  have hi : i < es.length := by rw [← h.1]; exact (List.getElem?_eq_some_iff.mp hv).1
  obtain ⟨t, h1, h2⟩ := h.2 i es[i] (List.getElem?_eq_getElem hi)
  rw [hv] at h1
  exact ⟨es[i], t, List.getElem?_eq_getElem hi, Option.some.inj h1, h2⟩
def EvsAt (G : Hp) (t : Addr) (es : List Ev) : Prop := ∃ vs : List V, G t = some (.tup vs) ∧ EvL G vs es
theorem EvsAt.mono {G G' : Hp} {t : Addr} {es : List Ev} (e : Ex G G') (h : EvsAt G t es) : EvsAt G' t es := by
  obtain ⟨vs, h1, h2⟩ := h
  exact ⟨vs, e _ _ h1, h2.mono e⟩
/-- the numbers, from k on, of the events that lead from s -/
def outs (k : Nat) : List Ev → Nat → List Int
  | [], _ => []
  | e :: r, s => if e.b = (s : Int) then (k : Int) :: outs (k + 1) r s else outs (k + 1) r s
theorem outs_app (s : Nat) (e : Ev) : ∀ (l : List Ev) (k : Nat), outs k (l ++ [e]) s = outs k l s ++ (if e.b = (s : Int) then [((k + l.length : Nat) : Int)] else [])
  | [], k => by
    show (if e.b = (s : Int) then (k : Int) :: outs (k + 1) [] s else outs (k + 1) [] s) = _
    split
    · rfl
    · rfl
  | a :: r, k => by
    have ih := outs_app s e r (k + 1)
    have e2 : k + 1 + r.length = k + (a :: r).length := by simp; omega
    rw [e2] at ih
    show (if a.b = (s : Int) then (k : Int) :: outs (k + 1) (r ++ [e]) s else outs (k + 1) (r ++ [e]) s) = (if a.b = (s : Int) then (k : Int) :: outs (k + 1) r s else outs (k + 1) r s) ++ _
    rw [ih]
    split
    · rfl
    · rfl
theorem outs_len (s : Nat) : ∀ (l : List Ev) (k : Nat), (outs k l s).length ≤ l.length
  | [], _ => Nat.le_refl _
  | a :: r, k => by
    have ih := outs_len s r (k + 1)
    show (if a.b = (s : Int) then (k : Int) :: outs (k + 1) r s else outs (k + 1) r s).length ≤ r.length + 1
    split
    · simp; omega
    · omega
def mfl (n : Int) (t ko : Addr) : List (Str × V) := [("standings", .int n), ("events", .ref t), ("kept_out", .ref ko)]
theorem nse : ¬ (("standings" : Str) = "events") := by decide +kernel
theorem nsk : ¬ (("standings" : Str) = "kept_out") := by decide +kernel
theorem nek : ¬ (("events" : Str) = "kept_out") := by decide +kernel
theorem mf1 (n : Int) : putF "standings" (.int n) [] = ([("standings", V.int n)] : List (Str × V)) := rfl
theorem mf2 (n : Int) (t : Addr) : putF "events" (.ref t) ([("standings", V.int n)] : List (Str × V)) = ([("standings", V.int n), ("events", V.ref t)] : List (Str × V)) := by
  show (if ("standings" : Str) = "events" then _ else _) = _
  rw [if_neg nse]; rfl
theorem mf3 (n : Int) (t ko : Addr) : putF "kept_out" (.ref ko) ([("standings", V.int n), ("events", V.ref t)] : List (Str × V)) = mfl n t ko := by
  show (if ("standings" : Str) = "kept_out" then _ else (("standings" : Str), V.int n) :: (if ("events" : Str) = "kept_out" then _ else _)) = _
  rw [if_neg nsk, if_neg nek]; rfl
theorem ml1 (n : Int) (t ko : Addr) : (mfl n t ko).lookup ("standings" : Str) = some (.int n) := by simp [mfl, List.lookup]
theorem ml2 (n : Int) (t ko : Addr) : (mfl n t ko).lookup ("events" : Str) = some (.ref t) := by
  have h : (("events" : Str) == "standings") = false := by decide +kernel
  simp [mfl, List.lookup, h]
theorem ml3 (n : Int) (t ko : Addr) : (mfl n t ko).lookup ("kept_out" : Str) = some (.ref ko) := by
  have h : (("kept_out" : Str) == "standings") = false := by decide +kernel
  have h2 : (("kept_out" : Str) == "events") = false := by decide +kernel
  simp [mfl, List.lookup, h, h2]
/-- a machine of the class at C: n standings, the events es -/
def MachAt (C : Addr) (G : Hp) (m : Addr) (n : Int) (es : List Ev) : Prop := ∃ (dx t ko : Addr) (ks : List V), G m = some (.ins C dx (mfl n t ko)) ∧ EvsAt G t es ∧ G ko = some (.lst ks) ∧ (ks.length : Int) = n ∧
  ∀ i : Nat, i < ks.length → ∃ k : Addr, ks[i]? = some (.ref k) ∧ G k = some (.lst ((outs 0 es i).map V.int))
theorem MachAt.mono {C : Addr} {G G' : Hp} {m : Addr} {n : Int} {es : List Ev} (e : Ex G G') (h : MachAt C G m n es) : MachAt C G' m n es := by
  obtain ⟨dx, t, ko, ks, h1, h2, h3, h4, h5⟩ := h
  refine ⟨dx, t, ko, ks, e _ _ h1, h2.mono e, e _ _ h3, h4, fun i hi => ?_⟩
  obtain ⟨k, q1, q2⟩ := h5 i hi
  exact ⟨k, q1, e _ _ q2⟩
/-- all that stood but x stands -/
def But (x : Addr) (G G' : Hp) : Prop := ∀ b o, G b = some o → b ≠ x → G' b = some o
/-- Machine.keep and its __init__: a fresh instance at x becomes a machine -/
def spKeep (C : Addr) : Sp := fun vs H Q _ => ∃ (x t : Addr) (n : Int) (dx : Addr) (es : List Ev) (G P : Hp), vs = [.ref x, .int n, .ref t] ∧ Join G P H ∧ G x = some (.ins C dx []) ∧ EvsAt G t es ∧ 1 ≤ n ∧ n ≤ 10000 ∧ es.length ≤ 10000 ∧
  (∀ e ∈ es, 0 ≤ e.b ∧ e.b < n) ∧ ∀ G' H', Join G' P H' → But x G G' → MachAt C G' x n es → Q .non H'
def spMInit (C : Addr) : Sp := fun vs H Q _ => ∃ (x t : Addr) (n : Int) (dx : Addr) (es : List Ev) (G P : Hp), vs = [.ref x, .int n, .ref t] ∧ Join G P H ∧ G x = some (.ins C dx []) ∧ EvsAt G t es ∧ 1 ≤ n ∧ n ≤ 12 ∧ es.length ≤ 30 ∧
  (∀ e ∈ es, EvOk n e) ∧ ∀ G' H', Join G' P H' → But x G G' → MachAt C G' x n es → Q .non H'
end Lv

namespace Lv
open PySem L2
theorem low_facts {a b : Int} (hb : 0 < b) : 1 ≤ b / (Int.gcd a b : Nat) ∧ Int.gcd (a / (Int.gcd a b : Nat)) (b / (Int.gcd a b : Nat)) = 1 ∧ (a / (Int.gcd a b : Nat)).natAbs ≤ a.natAbs ∧ (b / (Int.gcd a b : Nat)).natAbs ≤ b.natAbs := by
  have g0 : 0 < Int.gcd a b := Int.gcd_pos_of_ne_zero_right a (by omega)
  have h1 : ((Int.gcd a b : Nat) : Int) ∣ a := Int.gcd_dvd_left ..
  have h2 : ((Int.gcd a b : Nat) : Int) ∣ b := Int.gcd_dvd_right ..
  refine ⟨?_, Int.gcd_ediv_gcd_ediv_gcd_of_ne_zero_right (by omega), ?_, ?_⟩
  · obtain ⟨c, hc⟩ := h2
    have : b / (Int.gcd a b : Nat) = c := by
      rw [hc]
      rw [← hc]
      exact Int.ediv_eq_of_eq_mul_right (by omega) hc
    rw [this]
    by_cases h : 1 ≤ c
    · exact h
    · exfalso
      have : ((Int.gcd a b : Nat) : Int) * c ≤ 0 := Int.mul_nonpos_of_nonneg_of_nonpos (by omega) (by omega)
      omega
  · rw [Int.natAbs_ediv_of_dvd h1]
    exact Nat.div_le_self _ _
  · rw [Int.natAbs_ediv_of_dvd h2]
    exact Nat.div_le_self _ _
theorem blT {p : Prop} [Decidable p] (h : p) : V.bl (decide p) = V.bl true := by rw [decide_eq_true h]
theorem blF {p : Prop} [Decidable p] (h : ¬ p) : V.bl (decide p) = V.bl false := by rw [decide_eq_false h]
end Lv

namespace Lv
open PySem L2
theorem EvL.upd {G : Hp} {vs : List V} {es : List Ev} {L : Addr} {xs : List V} {o : HO} (h : EvL G vs es) (hL : G L = some (.lst xs)) : EvL (L2.upd G L o) vs es := ⟨h.1, fun i e he => by
  obtain ⟨t, h1, h2⟩ := h.2 i e he
  exact ⟨t, h1, by rw [upd_ne (ne_of h2 hL (by intro z; cases z))]; exact h2⟩⟩
theorem EvL.add {G : Hp} {vs : List V} {es : List Ev} {t : Addr} {e : Ev} (h : EvL G vs es) (ht : G t = some (.tup (evV e))) : EvL G (vs ++ [.ref t]) (es ++ [e]) := ⟨by simp [h.1], fun i e' he => by
  by_cases hi : i < es.length
  · rw [List.getElem?_append_left hi] at he
    obtain ⟨t', h1, h2⟩ := h.2 i e' he
    exact ⟨t', by rw [List.getElem?_append_left (by rw [h.1]; exact hi)]; exact h1, h2⟩
  · have hl := (List.getElem?_eq_some_iff.mp he).1
    simp at hl
    have ei : i = es.length := by omega
    subst ei
    simp at he
    subst he
    exact ⟨t, by rw [← h.1]; simp, ht⟩⟩
theorem EvL.nil {G : Hp} : EvL G [] [] := ⟨rfl, fun i e he => by simp at he⟩
/-- events as the law draws them -/
def EvSm (n : Int) (e : Ev) : Prop := 0 ≤ e.b ∧ e.b < n ∧ 0 ≤ e.a ∧ e.a < n ∧ 1 ≤ e.w ∧ e.w ≤ 3 ∧ -4 ≤ e.x ∧ e.x ≤ 4
theorem EvSm.ok {n : Int} {e : Ev} (h : EvSm n e) : EvOk n e := by
  obtain ⟨h1, h2, h3, h4, h5, h6, h7, h8⟩ := h
  exact ⟨h1, h2, h3, h4, h5, by omega, by omega, by omega⟩
/-- (standings, events) at p -/
def PartsAt (G : Hp) (p : Addr) (n : Int) (es : List Ev) : Prop := ∃ t, G p = some (.tup [.int n, .ref t]) ∧ EvsAt G t es
theorem PartsAt.mono {G G' : Hp} {p : Addr} {n : Int} {es : List Ev} (e : Ex G G') (h : PartsAt G p n es) : PartsAt G' p n es := by
  obtain ⟨t, h1, h2⟩ := h
  exact ⟨t, e _ _ h1, h2.mono e⟩
def spParts : Sp := fun vs H Q _ => ∃ (l : Addr) (a b : Int) (G P : Hp), vs = [.ref l, .int a, .int b] ∧ Join G P H ∧ Pot P l ∧ 1 ≤ a ∧ a ≤ 1000 ∧ 1 ≤ b ∧ b ≤ 1000 ∧
  ∀ (p : Addr) (n : Int) (es : List Ev) (G' P' H' : Hp), Ex G G' → Join G' P' H' → Pot P' l → PartsAt G' p n es → 1 ≤ n → n ≤ a → 1 ≤ es.length → (es.length : Int) ≤ b → (∀ e ∈ es, EvSm n e) → Q (.ref p) H'
end Lv
namespace Lv
open PySem L2
theorem Join.exH {G P H G' H' : Hp} (j : Join G P H) (e : Ex G G') (j' : Join G' P H') : Ex H H' := fun b o h => by
  cases hg : G b with
  | some u =>
    have h1 := j.g _ _ hg
    rw [h] at h1
    rw [Option.some.inj h1]
    exact j'.g _ _ (e _ _ hg)
  | none =>
    cases hp : P b with
    | some u =>
      have h1 := j.p _ _ hp
      rw [h] at h1
      rw [Option.some.inj h1]
      exact j'.p _ _ hp
    | none => rw [j.no _ hg hp] at h; cases h
end Lv

namespace Lv
open PySem L2
/-! ### lists of tuples -/
def TupL {α : Type} (f : α → List V) (G : Hp) (vs : List V) (as : List α) : Prop := vs.length = as.length ∧ ∀ (i : Nat) (a : α), as[i]? = some a → ∃ t : Addr, vs[i]? = some (.ref t) ∧ G t = some (.tup (f a))
section
variable {α : Type} {f : α → List V} {G G' : Hp} {vs : List V} {as : List α}
theorem TupL.mono (e : Ex G G') (h : TupL f G vs as) : TupL f G' vs as := ⟨h.1, fun i a ha => by
  obtain ⟨t, h1, h2⟩ := h.2 i a ha
  exact ⟨t, h1, e _ _ h2⟩⟩
theorem TupL.get (h : TupL f G vs as) {i : Nat} {v : V} (hv : vs[i]? = some v) : ∃ (a : α) (t : Addr), as[i]? = some a ∧ v = .ref t ∧ G t = some (.tup (f a)) := by
  have hi : i < as.length := by rw [← h.1]; exact (List.getElem?_eq_some_iff.mp hv).1
  obtain ⟨t, h1, h2⟩ := h.2 i as[i] (List.getElem?_eq_getElem hi)
  rw [hv] at h1
  exact ⟨as[i], t, List.getElem?_eq_getElem hi, Option.some.inj h1, h2⟩
theorem TupL.upd {L : Addr} {xs : List V} {o : HO} (h : TupL f G vs as) (hL : G L = some (.lst xs)) : TupL f (L2.upd G L o) vs as := ⟨h.1, fun i a ha => by
  obtain ⟨t, h1, h2⟩ := h.2 i a ha
  exact ⟨t, h1, by rw [upd_ne (ne_of h2 hL (by intro z; cases z))]; exact h2⟩⟩
theorem TupL.add {t : Addr} {a : α} (h : TupL f G vs as) (ht : G t = some (.tup (f a))) : TupL f G (vs ++ [.ref t]) (as ++ [a]) := ⟨by simp [h.1], fun i a' ha => by
  by_cases hi : i < as.length
  · rw [List.getElem?_append_left hi] at ha
    obtain ⟨t', h1, h2⟩ := h.2 i a' ha
    exact ⟨t', by rw [List.getElem?_append_left (by rw [h.1]; exact hi)]; exact h1, h2⟩
  · have hl := (List.getElem?_eq_some_iff.mp ha).1
    simp at hl
    have ei : i = as.length := by omega
    subst ei
    simp at ha
    subst ha
    exact ⟨t, by rw [← h.1]; simp, ht⟩⟩
theorem TupL.nil : TupL f G [] [] := ⟨rfl, fun i e he => by simp at he⟩
end
/-- a tuple of ints, a list of such, as data -/
def iV (l : List Int) : List V := l.map V.int
def dT (l : List Int) : PyData := .tuple (l.map PyData.int)
def dL (ls : List (List Int)) : PyData := .list (ls.map dT)
theorem dp_ints {K : PySem.W.Frag} {H : Hp} : ∀ l : List Int, DpAll K H (iV l) (l.map PyData.int)
  | [] => .nil
  | a :: r => .cons (.int a) (dp_ints r)
theorem dp_tup {K : PySem.W.Frag} {H : Hp} {t : Addr} {l : List Int} (h : H t = some (.tup (iV l))) : Dp K H (.ref t) (dT l) := .tup (sqT h) (dp_ints l)
theorem dp_all {K : PySem.W.Frag} {H : Hp} : ∀ (ls : List (List Int)) (vs : List V), TupL iV H vs ls → DpAll K H vs (ls.map dT)
  | [], [], _ => .nil
  | [], v :: vs, h => by have := h.1; simp at this
  | l :: r, [], h => by have := h.1; simp at this
  | l :: r, v :: vs, h => by
    obtain ⟨t, h1, h2⟩ := h.2 0 l rfl
    have e : v = .ref t := Option.some.inj h1
    subst e
    exact .cons (dp_tup h2) (dp_all r vs ⟨by have := h.1; simp at this; exact this, fun i a ha => h.2 (i + 1) a ha⟩)
theorem dp_lst {K : PySem.W.Frag} {H : Hp} {p : Addr} {vs : List V} {ls : List (List Int)} (hp : H p = some (.lst vs)) (h : TupL iV H vs ls) : Dp K H (.ref p) (dL ls) := .lst (sqL hp) (dp_all ls vs h)
theorem lay_ints : ∀ l : List Int, PyData.canLayAll0 (l.map PyData.int) = true
  | [] => rfl
  | a :: r => by
    have ih := lay_ints r
    simp [PyData.canLayAll0, PyData.canLay0, ih]
theorem lay_tups : ∀ ls : List (List Int), PyData.canLayAll0 (ls.map dT) = true
  | [] => rfl
  | l :: r => by
    have ih := lay_tups r
    simp [PyData.canLayAll0, dT, PyData.canLay0, ih, lay_ints l]
theorem dep_ints : ∀ l : List Int, PyData.depthAll (l.map PyData.int) ≤ 1
  | [] => by simp [PyData.depthAll]
  | a :: r => by
    have ih := dep_ints r
    simp [PyData.depthAll, PyData.depth]
    omega
theorem dep_tups : ∀ ls : List (List Int), PyData.depthAll (ls.map dT) ≤ 2
  | [] => by simp [PyData.depthAll]
  | l :: r => by
    have ih := dep_tups r
    have h := dep_ints l
    simp [PyData.depthAll, PyData.depth, dT]
    omega
theorem shaped_dL (ls : List (List Int)) : SeqAt.shaped (dL ls) = true := by
  have h1 := lay_tups ls
  have h2 := dep_tups ls
  unfold SeqAt.shaped dL
  rw [PyData.canLay0, h1, PyData.depth]
  simp
  omega
theorem shaped_dT (l : List Int) : SeqAt.shaped (dT l) = true := by
  have h1 := lay_ints l
  have h2 := dep_ints l
  unfold SeqAt.shaped dT
  rw [PyData.canLay0, h1, PyData.depth]
  simp
  omega
theorem eqv_ints : ∀ l m : List Int, PyData.eqvAll (l.map PyData.int) (m.map PyData.int) = decide (l = m)
  | [], [] => by simp [PyData.eqvAll]
  | [], b :: m => by simp [PyData.eqvAll]
  | a :: l, [] => by simp [PyData.eqvAll]
  | a :: l, b :: m => by
    have ih := eqv_ints l m
    simp only [List.map_cons, PyData.eqvAll, PyData.eqv, ih]
    by_cases h : a = b
    · subst h; simp
    · simp [h]
theorem eqv_dT (l m : List Int) : PyData.eqv (dT l) (dT m) = decide (l = m) := by
  unfold dT; rw [PyData.eqv]; exact eqv_ints l m
theorem eqv_tups : ∀ l m : List (List Int), PyData.eqvAll (l.map dT) (m.map dT) = decide (l = m)
  | [], [] => by simp [PyData.eqvAll]
  | [], b :: m => by simp [PyData.eqvAll]
  | a :: l, [] => by simp [PyData.eqvAll]
  | a :: l, b :: m => by
    have ih := eqv_tups l m
    simp only [List.map_cons, PyData.eqvAll, eqv_dT, ih]
    by_cases h : a = b
    · subst h; simp
    · simp [h]
theorem eqv_dL (l m : List (List Int)) : PyData.eqv (dL l) (dL m) = decide (l = m) := by
  unfold dL; rw [PyData.eqv]; exact eqv_tups l m
/-! ### runs -/
def leads (es : List Ev) : Int → List Nat → Option Int
  | s, [] => some s
  | s, i :: r => match es[i]? with
    | some e => if e.b = s then leads es e.a r else none
    | none => none
theorem leads_app (es : List Ev) : ∀ (l m : List Nat) (s : Int), leads es s (l ++ m) = (leads es s l).bind fun y => leads es y m
  | [], m, s => rfl
  | i :: r, m, s => by
    show (match es[i]? with | some e => if e.b = s then leads es e.a (r ++ m) else none | none => none) = (match es[i]? with | some e => if e.b = s then leads es e.a r else none | none => none).bind _
    cases es[i]? with
    | none => rfl
    | some e =>
      show (if e.b = s then leads es e.a (r ++ m) else none) = (if e.b = s then leads es e.a r else none).bind _
      by_cases h : e.b = s
      · rw [if_pos h, if_pos h]; exact leads_app es r m e.a
      · rw [if_neg h, if_neg h]; rfl
theorem leads_at {es : List Ev} {rs : List Nat} {s z : Int} (h : leads es s rs = some z) {i k : Nat} (hk : rs[i]? = some k) : ∃ y e, leads es s (rs.take i) = some y ∧ es[k]? = some e ∧ e.b = y ∧ leads es s (rs.take (i + 1)) = some e.a := by
  have hi : i < rs.length := (List.getElem?_eq_some_iff.mp hk).1
  have e1 : rs = rs.take i ++ (k :: rs.drop (i + 1)) := by
    have h1 := List.take_append_drop i rs
    have h2 : rs.drop i = k :: rs.drop (i + 1) := by
      rw [List.drop_eq_getElem_cons hi]
      rw [List.getElem?_eq_getElem hi] at hk
      rw [Option.some.inj hk]
    rw [h2] at h1
    exact h1.symm
  have h2 : leads es s (rs.take i ++ (k :: rs.drop (i + 1))) = some z := by rw [← e1]; exact h
  rw [leads_app] at h2
  cases hy : leads es s (rs.take i) with
  | none => rw [hy] at h2; cases h2
  | some y =>
    rw [hy] at h2
    have h3 : (match es[k]? with | some e => if e.b = y then leads es e.a (rs.drop (i + 1)) else none | none => none) = some z := h2
    cases he : es[k]? with
    | none => rw [he] at h3; cases h3
    | some e =>
      rw [he] at h3
      have h4 : (if e.b = y then leads es e.a (rs.drop (i + 1)) else none) = some z := h3
      by_cases hb : e.b = y
      · refine ⟨y, e, rfl, rfl, hb, ?_⟩
        rw [take_more hk, leads_app, hy]
        show (match es[k]? with | some e => if e.b = y then leads es e.a [] else none | none => none) = some e.a
        rw [he]
        show (if e.b = y then some e.a else none) = some e.a
        rw [if_pos hb]
      · rw [if_neg hb] at h4; cases h4
/-- a run: its numbers -/
def IsRun (es : List Ev) (rs : List Nat) : Prop := ∃ z, leads es 0 rs = some z
def rV (rs : List Nat) : List V := rs.map fun (i : Nat) => V.int (i : Int)
theorem rV_at {rs : List Nat} {i : Nat} {y : V} (h : (rV rs)[i]? = some y) : ∃ k, rs[i]? = some k ∧ y = V.int (k : Int) := by
  unfold rV at h
  rw [List.getElem?_map] at h
  cases e : rs[i]? with
  | none => rw [e] at h; cases h
  | some z => rw [e] at h; exact ⟨z, rfl, (Option.some.inj h).symm⟩
/-- the sums of tries, of points -/
def sumW (es : List Ev) (rs : List Nat) : Int := (rs.map fun k => ((es[k]?).map Ev.w).getD 0).sum
def sumX (es : List Ev) (rs : List Nat) : Int := (rs.map fun k => ((es[k]?).map Ev.x).getD 0).sum
theorem sumW_more {es : List Ev} {rs : List Nat} {i k : Nat} {e : Ev} (hk : rs[i]? = some k) (he : es[k]? = some e) : sumW es (rs.take (i + 1)) = sumW es (rs.take i) + e.w := by
  unfold sumW
  rw [take_more hk, List.map_append, List.sum_append]
  simp [he]
theorem sumX_more {es : List Ev} {rs : List Nat} {i k : Nat} {e : Ev} (hk : rs[i]? = some k) (he : es[k]? = some e) : sumX es (rs.take (i + 1)) = sumX es (rs.take i) + e.x := by
  unfold sumX
  rw [take_more hk, List.map_append, List.sum_append]
  simp [he]
def boardsOf (es : List Ev) (rs : List Nat) : List (List Int) := (List.range rs.length).map fun i => [sumW es (rs.take (i + 1)), sumX es (rs.take (i + 1))]
def boardsTo (es : List Ev) (rs : List Nat) (n : Nat) : List (List Int) := (List.range n).map fun i => [sumW es (rs.take (i + 1)), sumX es (rs.take (i + 1))]
theorem boardsTo_more (es : List Ev) (rs : List Nat) (n : Nat) : boardsTo es rs (n + 1) = boardsTo es rs n ++ [[sumW es (rs.take (n + 1)), sumX es (rs.take (n + 1))]] := by
  unfold boardsTo
  rw [List.range_succ, List.map_append]; rfl
theorem leads_map {f : Ev → Ev} (hf : ∀ e, (f e).b = e.b ∧ (f e).a = e.a) (es : List Ev) : ∀ (rs : List Nat) (s : Int), leads (es.map f) s rs = leads es s rs
  | [], s => rfl
  | i :: r, s => by
    show (match (es.map f)[i]? with | some e => if e.b = s then leads (es.map f) e.a r else none | none => none) = (match es[i]? with | some e => if e.b = s then leads es e.a r else none | none => none)
    rw [List.getElem?_map]
    cases es[i]? with
    | none => rfl
    | some e =>
      show (if (f e).b = s then leads (es.map f) (f e).a r else none) = (if e.b = s then leads es e.a r else none)
      rw [(hf e).1, (hf e).2, leads_map hf es r]
end Lv

/-! comprehensions, by an invariant over what is made so far -/
namespace Lv
open PySem L2
theorem lcG_list {K : PySem.W.Frag} {a : Addr} {xs : List V} {g : TG} {tt : TT} {te : TE} {vs : List Nat} {σ : L2.St} {G P H : Hp} {Qd : Hp → Prop} {D : Addr} (Pp : Hp → Prop) (I : Nat → List V → Hp → Prop) (hD : H D = none) (J : Join G P H) (hP : Pp P)
    (hS : SqL K G a xs) (h0 : I 0 [] (upd G D (.lst []))) (hI : ∀ i ws G2 us ts, G2 D = some (.lst us) → I i ws G2 → I i ws (upd G2 D (.lst ts))) (hz : ∀ i ws G2, I i ws G2 → ws.length ≤ 1000000)
    (hs : ∀ (i : Nat) (x : V) (ws : List V) (G' P' H' : Hp) (R : VK) (R0 : Hp → Prop), xs[i]? = some x → Ex G G' → I i ws G' → Pp P' → Join G' P' H' →
      (∀ v G2 P2 H2, Ex G' G2 → Pp P2 → Join G2 P2 H2 → I (i + 1) (ws ++ [v]) G2 → R v H2) → (∀ G2 P2 H2, Ex G' G2 → Pp P2 → Join G2 P2 H2 → I (i + 1) ws G2 → R0 H2) →
      g x (wipe σ vs) H' fun σ2 H2 => wipe σ2 vs = wipe σ vs ∧ tt σ2 H2 fun b H3 => if b = true then te σ2 H3 R else R0 H3)
    (hq : ∀ ws G' P' H', Ex G G' → G' D = some (.lst ws) → I xs.length ws G' → Pp P' → Join G' P' H' → Qd H') :
    ∃ W : Nat → Nat → Hp → Prop, (∃ m, W 0 m (upd H D (.lst []))) ∧ ∀ i m H, W i m H →
      ((Itl K a).stop i H ∧ Qd H) ∨ ((Itl K a).go i H ∧ ∃ Nx : Hp → Prop, (∀ H', Nx H' → ∃ m', m' < m ∧ W (i + 1) m' H') ∧ ∀ x H', (Itl K a).yld i H x H' → g x (wipe σ vs) H' fun σ2 H2 => wipe σ2 vs = wipe σ vs ∧ tt σ2 H2 fun b H3 =>
        if b = true then te σ2 H3 fun y H4 => ∃ acc, H4 D = some (.lst acc) ∧ acc.length < sizeLine ∧ Nx (upd H4 D (.lst (acc ++ [y]))) else Nx H3) := by
  have gD : G D = none := J.ng hD
  refine lc_list (K := K) (a := a) (xs := xs) (Qd := Qd) (fun i H' => ∃ (ws : List V) (G' P' : Hp), Ex G G' ∧ G' D = some (.lst ws) ∧ I i ws G' ∧ Pp P' ∧ Join G' P' H') ⟨[], _, P, Ex.new gD, upd_same, h0, hP, J.newG hD⟩ (fun i H' _ ⟨ws, G', P', e, _, _, _, j⟩ => (e.trans j.exG).l hS) (fun i x H' hi ⟨ws, G', P', e, hd, hi2, hp, j⟩ => ?_) (fun H' ⟨ws, G', P', e, hd, hi2, hp, j⟩ => hq ws G' P' H' e hd hi2 hp j)
  refine hs i x ws G' P' H' _ _ hi e hi2 hp j (fun v G2 P2 H2 e2 hp2 j2 hi3 => ⟨ws, j2.g _ _ (e2 _ _ hd), Nat.lt_of_le_of_lt (hz _ _ _ hi2) (by decide), ws ++ [v], _, P2, ?_, upd_same, hI _ _ _ _ _ (e2 _ _ hd) hi3, hp2, j2.setG (j2.gp (e2 _ _ hd))⟩) (fun G2 P2 H2 e2 hp2 j2 hi3 => ⟨ws, G2, P2, e.trans e2, e2 _ _ hd, hi3, hp2, j2⟩)
  exact (e.trans e2).mut gD
theorem lcG_tup {K : PySem.W.Frag} {a : Addr} {xs : List V} {g : TG} {tt : TT} {te : TE} {vs : List Nat} {σ : L2.St} {G P H : Hp} {Qd : Hp → Prop} {D : Addr} (Pp : Hp → Prop) (I : Nat → List V → Hp → Prop) (hD : H D = none) (J : Join G P H) (hP : Pp P)
    (hS : SqT K G a xs) (h0 : I 0 [] (upd G D (.lst []))) (hI : ∀ i ws G2 us ts, G2 D = some (.lst us) → I i ws G2 → I i ws (upd G2 D (.lst ts))) (hz : ∀ i ws G2, I i ws G2 → ws.length ≤ 1000000)
    (hs : ∀ (i : Nat) (x : V) (ws : List V) (G' P' H' : Hp) (R : VK) (R0 : Hp → Prop), xs[i]? = some x → Ex G G' → I i ws G' → Pp P' → Join G' P' H' →
      (∀ v G2 P2 H2, Ex G' G2 → Pp P2 → Join G2 P2 H2 → I (i + 1) (ws ++ [v]) G2 → R v H2) → (∀ G2 P2 H2, Ex G' G2 → Pp P2 → Join G2 P2 H2 → I (i + 1) ws G2 → R0 H2) →
      g x (wipe σ vs) H' fun σ2 H2 => wipe σ2 vs = wipe σ vs ∧ tt σ2 H2 fun b H3 => if b = true then te σ2 H3 R else R0 H3)
    (hq : ∀ ws G' P' H', Ex G G' → G' D = some (.lst ws) → I xs.length ws G' → Pp P' → Join G' P' H' → Qd H') :
    ∃ W : Nat → Nat → Hp → Prop, (∃ m, W 0 m (upd H D (.lst []))) ∧ ∀ i m H, W i m H →
      ((Itt K a).stop i H ∧ Qd H) ∨ ((Itt K a).go i H ∧ ∃ Nx : Hp → Prop, (∀ H', Nx H' → ∃ m', m' < m ∧ W (i + 1) m' H') ∧ ∀ x H', (Itt K a).yld i H x H' → g x (wipe σ vs) H' fun σ2 H2 => wipe σ2 vs = wipe σ vs ∧ tt σ2 H2 fun b H3 =>
        if b = true then te σ2 H3 fun y H4 => ∃ acc, H4 D = some (.lst acc) ∧ acc.length < sizeLine ∧ Nx (upd H4 D (.lst (acc ++ [y]))) else Nx H3) := by
  have gD : G D = none := J.ng hD
  refine lc_tup (K := K) (a := a) (xs := xs) (Qd := Qd) (fun i H' => ∃ (ws : List V) (G' P' : Hp), Ex G G' ∧ G' D = some (.lst ws) ∧ I i ws G' ∧ Pp P' ∧ Join G' P' H') ⟨[], _, P, Ex.new gD, upd_same, h0, hP, J.newG hD⟩ (fun i H' _ ⟨ws, G', P', e, _, _, _, j⟩ => (e.trans j.exG).t hS) (fun i x H' hi ⟨ws, G', P', e, hd, hi2, hp, j⟩ => ?_) (fun H' ⟨ws, G', P', e, hd, hi2, hp, j⟩ => hq ws G' P' H' e hd hi2 hp j)
  refine hs i x ws G' P' H' _ _ hi e hi2 hp j (fun v G2 P2 H2 e2 hp2 j2 hi3 => ⟨ws, j2.g _ _ (e2 _ _ hd), Nat.lt_of_le_of_lt (hz _ _ _ hi2) (by decide), ws ++ [v], _, P2, ?_, upd_same, hI _ _ _ _ _ (e2 _ _ hd) hi3, hp2, j2.setG (j2.gp (e2 _ _ hd))⟩) (fun G2 P2 H2 e2 hp2 j2 hi3 => ⟨ws, G2, P2, e.trans e2, e2 _ _ hd, hi3, hp2, j2⟩)
  exact (e.trans e2).mut gD
theorem lcG_range {lo : Int} {n : Nat} {g : TG} {tt : TT} {te : TE} {vs : List Nat} {σ : L2.St} {G P H : Hp} {Qd : Hp → Prop} {D : Addr} (Pp : Hp → Prop) (I : Nat → List V → Hp → Prop) (hD : H D = none) (J : Join G P H) (hP : Pp P)
    (h0 : I 0 [] (upd G D (.lst []))) (hI : ∀ i ws G2 us ts, G2 D = some (.lst us) → I i ws G2 → I i ws (upd G2 D (.lst ts))) (hz : ∀ i ws G2, I i ws G2 → ws.length ≤ 1000000)
    (hs : ∀ (i : Nat) (ws : List V) (G' P' H' : Hp) (R : VK) (R0 : Hp → Prop), i < n → Ex G G' → I i ws G' → Pp P' → Join G' P' H' →
      (∀ v G2 P2 H2, Ex G' G2 → Pp P2 → Join G2 P2 H2 → I (i + 1) (ws ++ [v]) G2 → R v H2) → (∀ G2 P2 H2, Ex G' G2 → Pp P2 → Join G2 P2 H2 → I (i + 1) ws G2 → R0 H2) →
      g (.int (lo + i)) (wipe σ vs) H' fun σ2 H2 => wipe σ2 vs = wipe σ vs ∧ tt σ2 H2 fun b H3 => if b = true then te σ2 H3 R else R0 H3)
    (hq : ∀ ws G' P' H', Ex G G' → G' D = some (.lst ws) → I n ws G' → Pp P' → Join G' P' H' → Qd H') :
    ∃ W : Nat → Nat → Hp → Prop, (∃ m, W 0 m (upd H D (.lst []))) ∧ ∀ i m H, W i m H →
      ((Itr lo n).stop i H ∧ Qd H) ∨ ((Itr lo n).go i H ∧ ∃ Nx : Hp → Prop, (∀ H', Nx H' → ∃ m', m' < m ∧ W (i + 1) m' H') ∧ ∀ x H', (Itr lo n).yld i H x H' → g x (wipe σ vs) H' fun σ2 H2 => wipe σ2 vs = wipe σ vs ∧ tt σ2 H2 fun b H3 =>
        if b = true then te σ2 H3 fun y H4 => ∃ acc, H4 D = some (.lst acc) ∧ acc.length < sizeLine ∧ Nx (upd H4 D (.lst (acc ++ [y]))) else Nx H3) := by
  have gD : G D = none := J.ng hD
  refine lc_range (lo := lo) (n := n) (Qd := Qd) (fun i H' => ∃ (ws : List V) (G' P' : Hp), Ex G G' ∧ G' D = some (.lst ws) ∧ I i ws G' ∧ Pp P' ∧ Join G' P' H') ⟨[], _, P, Ex.new gD, upd_same, h0, hP, J.newG hD⟩ (fun i H' hi ⟨ws, G', P', e, hd, hi2, hp, j⟩ => ?_) (fun H' ⟨ws, G', P', e, hd, hi2, hp, j⟩ => hq ws G' P' H' e hd hi2 hp j)
  refine hs i ws G' P' H' _ _ hi e hi2 hp j (fun v G2 P2 H2 e2 hp2 j2 hi3 => ⟨ws, j2.g _ _ (e2 _ _ hd), Nat.lt_of_le_of_lt (hz _ _ _ hi2) (by decide), ws ++ [v], _, P2, ?_, upd_same, hI _ _ _ _ _ (e2 _ _ hd) hi3, hp2, j2.setG (j2.gp (e2 _ _ hd))⟩) (fun G2 P2 H2 e2 hp2 j2 hi3 => ⟨ws, G2, P2, e.trans e2, e2 _ _ hd, hi3, hp2, j2⟩)
  exact (e.trans e2).mut gD
end Lv

/-! rules whose reading names a fixed written part (within a comprehension's block) -/
namespace Lv
open PySem PySem.Spec PyProof.Rows L2
section
variable {X : Cx} {K : PySem.W.Frag}
theorem ix_tupK (h : X.K = K) : IxR X (rIxT K) := h ▸ ix_tup
theorem ix_listK (h : X.K = K) : IxR X (rIxL K) := h ▸ ix_list
theorem sl_listK (h : X.K = K) : SlR X (rSlL K) := h ▸ sl_list
theorem sl_tupAK (h : X.K = K) : SlR X (rSlA K) := h ▸ sl_tupA
theorem op_inK (h : X.K = K) : OpR X (compareOp .In) (rIn K false) := h ▸ op_in_seq
theorem op_notInK (h : X.K = K) : OpR X (compareOp .NotIn) (rIn K true) := h ▸ op_notIn_seq
theorem op_catAK (h : X.K = K) : OpR X (binaryOp .Add) (rCatA K) := h ▸ op_catA
theorem op_eqDK (h : X.K = K) (hu : X.A.units + 64 < cLine) : OpR X (compareOp .Eq) (rEqD K) := h ▸ op_eqD hu
theorem op_neDK (h : X.K = K) (hu : X.A.units + 64 < cLine) : OpR X (compareOp .NotEq) (rNeD K) := h ▸ op_neD hu
def rLenS (K : PySem.W.Frag) : List V → Hp → VK → Prop := fun xs H Q => ∃ p ys, xs = [.ref p] ∧ (SqL K H p ys ∨ SqT K H p ys) ∧ Q (.int ys.length) H
theorem call_lenK (h : X.K = K) : CallR X (.builtin "len") (rLenS K) := h ▸ call_len_seq
theorem cr_sumK (h : X.K = K) (hc : X.calm = true) : CallR X (.builtin "sum") (rSum K) := h ▸ cr_sum hc
theorem cr_maxK (h : X.K = K) (hc : X.calm = true) : CallR X (.builtin "max") (rMax K) := h ▸ cr_max hc
theorem cr_minK (h : X.K = K) (hc : X.calm = true) : CallR X (.builtin "min") (rMin K) := h ▸ cr_min hc
theorem call_isiK (h : X.K = K) : CallR X (.builtin "isinstance") (rIsi K) := h ▸ call_isi
theorem pe_fldK {e : Expr} {f : Str} {pos : Pos} {ta : TE} (h : X.K = K) (he : PE X e ta) (hb : attributeBase e f X.env (eval e X.env) = eval e X.env) : PE X (.Attribute e f pos) (tFld K ta f) := h ▸ pe_fld he hb
theorem pi_listK {tg e : Expr} {tl : TE} (h : X.K = K) (he : PE X e tl) : PI X tg e (iList K tl) := h ▸ pi_list he
theorem pi_tupK {tg e : Expr} {tl : TE} (h : X.K = K) (he : PE X e tl) : PI X tg e (iTup K tl) := h ▸ pi_tup he
def rTupOf (K : PySem.W.Frag) : List V → Hp → VK → Prop := fun xs H Q => ∃ p ys, xs = [.ref p] ∧ ((SqL K H p ys ∧ ∀ l, H l = none → Q (.ref l) (upd H l (.tup ys))) ∨ (SqT K H p ys ∧ Q (.ref p) H))
theorem call_tupleK (h : X.K = K) : CallR X (.type "tuple") (rTupOf K) := h ▸ call_tuple_of
end
/-- t[:m], by what it leaves -/
theorem slA_take {K : PySem.W.Frag} {G P H : Hp} {r : Addr} {xs : List V} {m : Nat} {Q : VK} (j : Join G P H) (hr : G r = some (.tup xs)) (q : ∀ t G' H', Ex G G' → Join G' P H' → G' t = some (.tup (xs.take m)) → Q (.ref t) H') : rSlA K (.ref r) none (some (m : Int)) H Q := by
  refine ⟨r, xs, rfl, sqT (j.g _ _ hr), fun h => ?_, fun _ p hp => ?_⟩
  · have h2 := h.2
    rw [HT.sIx_nat] at h2
    refine q r G H (Ex.refl _) j ?_
    rw [List.take_of_length_le (by omega)]; exact hr
  · refine q p _ _ (Ex.new (j.ng hp)) (j.newG hp) ?_
    have e : cutV xs none (some (m : Int)) = xs.take m := by
      unfold cutV
      rw [HT.sIx_nat, HT.sIx_none, List.drop_zero, Nat.sub_zero]
      by_cases hm : m ≤ xs.length
      · rw [Nat.min_eq_left hm]
      · rw [Nat.min_eq_right (by omega), List.take_length, List.take_of_length_le (by omega)]
    rw [e]; exact upd_same
/-- t + u, by what it leaves -/
theorem catA_out {K : PySem.W.Frag} {G P H : Hp} {a b : Addr} {xs ys : List V} {Q : VK} (j : Join G P H) (ha : G a = some (.tup xs)) (hb : G b = some (.tup ys)) (hz : xs.length + ys.length < 100000) (q : ∀ t G' H', Ex G G' → Join G' P H' → G' t = some (.tup (xs ++ ys)) → Q (.ref t) H') : rCatA K (.ref a) (.ref b) H Q := by
  refine ⟨a, b, xs, ys, rfl, rfl, sqT (j.g _ _ ha), sqT (j.g _ _ hb), Nat.le_of_lt (szlt hz), fun e => ?_, fun _ e => ?_, fun _ _ p hp => ?_⟩
  · subst e
    exact q b G H (Ex.refl _) j hb
  · subst e
    refine q a G H (Ex.refl _) j ?_
    rw [List.append_nil]; exact ha
  · exact q p _ _ (Ex.new (j.ng hp)) (j.newG hp) upd_same
/-- xs + ys of lists, by what it leaves -/
theorem cat_out {G P H : Hp} {a b : Addr} {xs ys : List V} {Q : VK} (j : Join G P H) (ha : G a = some (.lst xs)) (hb : G b = some (.lst ys)) (hz : xs.length + ys.length < 100000) (q : ∀ t G' H', Ex G G' → Join G' P H' → H t = none → G' t = some (.lst (xs ++ ys)) → Q (.ref t) H') : rCat (.ref a) (.ref b) H Q :=
  ⟨a, b, xs, ys, rfl, rfl, j.g _ _ ha, j.g _ _ hb, Nat.le_of_lt (szlt hz), fun p hp => q p _ _ (Ex.new (j.ng hp)) (j.newG hp) hp upd_same⟩
/-! ### lists of things that stand for others -/
def RelL {α : Type} (R : Hp → V → α → Prop) (G : Hp) (vs : List V) (as : List α) : Prop := vs.length = as.length ∧ ∀ (i : Nat) (a : α), as[i]? = some a → ∃ v, vs[i]? = some v ∧ R G v a
section
variable {α : Type} {R : Hp → V → α → Prop} {G G' : Hp} {vs ws : List V} {as bs : List α}
theorem RelL.mono (hR : ∀ v a, R G v a → R G' v a) (h : RelL R G vs as) : RelL R G' vs as := ⟨h.1, fun i a ha => by
  obtain ⟨v, h1, h2⟩ := h.2 i a ha
  exact ⟨v, h1, hR _ _ h2⟩⟩
theorem RelL.get (h : RelL R G vs as) {i : Nat} {v : V} (hv : vs[i]? = some v) : ∃ a, as[i]? = some a ∧ R G v a := by
  have hi : i < as.length := by rw [← h.1]; exact (List.getElem?_eq_some_iff.mp hv).1
  obtain ⟨v', h1, h2⟩ := h.2 i as[i] (List.getElem?_eq_getElem hi)
  rw [hv] at h1
  rw [← Option.some.inj h1] at h2
  exact ⟨as[i], List.getElem?_eq_getElem hi, h2⟩
theorem RelL.nil : RelL R G [] [] := ⟨rfl, fun i e he => by simp at he⟩
theorem RelL.app (h : RelL R G vs as) (h' : RelL R G ws bs) : RelL R G (vs ++ ws) (as ++ bs) := ⟨by simp [h.1, h'.1], fun i a ha => by
  by_cases hi : i < as.length
  · rw [List.getElem?_append_left hi] at ha
    obtain ⟨v, h1, h2⟩ := h.2 i a ha
    exact ⟨v, by rw [List.getElem?_append_left (by rw [h.1]; exact hi)]; exact h1, h2⟩
  · rw [List.getElem?_append_right (by omega)] at ha
    obtain ⟨v, h1, h2⟩ := h'.2 _ a ha
    exact ⟨v, by rw [List.getElem?_append_right (by rw [h.1]; omega), h.1]; exact h1, h2⟩⟩
theorem RelL.one {v : V} {a : α} (h : R G v a) : RelL R G [v] [a] := ⟨rfl, fun i b hb => by
  cases i with
  | zero => exact ⟨v, rfl, by rw [← Option.some.inj hb]; exact h⟩
  | succ n => simp at hb⟩
theorem RelL.add {v : V} {a : α} (h : RelL R G vs as) (h' : R G v a) : RelL R G (vs ++ [v]) (as ++ [a]) := h.app (.one h')
theorem RelL.take (h : RelL R G vs as) (m : Nat) : RelL R G (vs.take m) (as.take m) := ⟨by simp [h.1], fun i a ha => by
  have h1 : i < m := by
    have := (List.getElem?_eq_some_iff.mp ha).1
    rw [List.length_take] at this; omega
  rw [List.getElem?_take, if_pos h1] at ha
  obtain ⟨v, h2, h3⟩ := h.2 i a ha
  exact ⟨v, by rw [List.getElem?_take, if_pos h1]; exact h2, h3⟩⟩
end
/-- a run and the standing to which it leads -/
def RunAt (G : Hp) (v : V) (p : List Nat × Int) : Prop := ∃ t r : Addr, v = .ref t ∧ G t = some (.tup [.ref r, .int p.2]) ∧ G r = some (.tup (rV p.1))
theorem RunAt.mono {G G' : Hp} (e : Ex G G') : ∀ v p, RunAt G v p → RunAt G' v p := fun _ _ ⟨t, r, h1, h2, h3⟩ => ⟨t, r, h1, e _ _ h2, e _ _ h3⟩
theorem RunAt.upd {G : Hp} {L : Addr} {xs : List V} {o : HO} (hL : G L = some (.lst xs)) : ∀ v p, RunAt G v p → RunAt (L2.upd G L o) v p := fun _ _ ⟨t, r, h1, h2, h3⟩ => ⟨t, r, h1, by rw [upd_ne (ne_of h2 hL (by intro z; cases z))]; exact h2, by rw [upd_ne (ne_of h3 hL (by intro z; cases z))]; exact h3⟩
def stepR (es : List Ev) (p : List Nat × Int) : List (List Nat × Int) := (outs 0 es p.2.toNat).map fun v => (p.1 ++ [v.toNat], ((es[v.toNat]?).map Ev.a).getD 0)
def runsL (es : List Ev) : Nat → List (List Nat × Int)
  | 0 => [([], 0)]
  | n + 1 => (runsL es n).flatMap (stepR es)
theorem stepR_len (es : List Ev) (p : List Nat × Int) : (stepR es p).length ≤ es.length := by
  unfold stepR
  rw [List.length_map]
  exact outs_len _ _ _
theorem flat_len {α β : Type} {f : α → List β} {k : Nat} (hk : ∀ a, (f a).length ≤ k) : ∀ l : List α, (l.flatMap f).length ≤ k * l.length
  | [] => by simp
  | a :: r => by
    have ih := flat_len hk r
    have h := hk a
    rw [List.flatMap_cons, List.length_append, List.length_cons, Nat.mul_succ]
    omega
theorem runsL_len (es : List Ev) : ∀ n, (runsL es n).length ≤ es.length ^ n
  | 0 => by simp [runsL]
  | n + 1 => by
    have ih := runsL_len es n
    have h := flat_len (stepR_len es) (runsL es n)
    show ((runsL es n).flatMap (stepR es)).length ≤ _
    rw [Nat.pow_succ, Nat.mul_comm]
    exact Nat.le_trans h (Nat.mul_le_mul_left _ ih)
theorem flat_more {α β : Type} {f : α → List β} {l : List α} {i : Nat} {a : α} (h : l[i]? = some a) : (l.take (i + 1)).flatMap f = (l.take i).flatMap f ++ f a := by
  rw [take_more h, List.flatMap_append]; simp
/-- x if c else y, c a flag that is kept -/
theorem tIf_c {i : Nat} {x y : V} {σ : L2.St} {H : Hp} {Q : VK} {b : Bool} (hv : σ[i]? = some (some (.bl b))) (h : Q (if b then x else y) H) : tIf (tB (tVar i)) (tC x) (tC y) σ H Q := by
  refine ⟨_, hv, b, rfl, ?_⟩
  cases b
  · exact iteF h
  · exact iteT h
/-- runs of at most k events -/
def RunV (es : List Ev) (k : Nat) (G : Hp) (v : V) : Prop := ∃ (r : Addr) (rs : List Nat), v = .ref r ∧ G r = some (.tup (rV rs)) ∧ rs.length ≤ k ∧ IsRun es rs
def RunsV (es : List Ev) (k : Nat) (G : Hp) (us : List V) : Prop := ∀ v ∈ us, RunV es k G v
theorem RunsV.mono {es : List Ev} {k : Nat} {G G' : Hp} {us : List V} (e : Ex G G') (h : RunsV es k G us) : RunsV es k G' us := fun v hv => by
  obtain ⟨r, rs, h1, h2, h3⟩ := h v hv
  exact ⟨r, rs, h1, e _ _ h2, h3⟩
theorem RunsV.upd {es : List Ev} {k : Nat} {G : Hp} {us xs : List V} {L : Addr} {o : HO} (hL : G L = some (.lst xs)) (h : RunsV es k G us) : RunsV es k (L2.upd G L o) us := fun v hv => by
  obtain ⟨r, rs, h1, h2, h3⟩ := h v hv
  exact ⟨r, rs, h1, by rw [upd_ne (ne_of h2 hL (by intro z; cases z))]; exact h2, h3⟩
theorem RunsV.nil {es : List Ev} {k : Nat} {G : Hp} : RunsV es k G [] := fun v hv => by cases hv
theorem RunsV.app {es : List Ev} {k : Nat} {G : Hp} {us ws : List V} (h : RunsV es k G us) (h' : RunsV es k G ws) : RunsV es k G (us ++ ws) := fun v hv => (List.mem_append.mp hv).elim (h v) (h' v)
theorem RunsV.add {es : List Ev} {k : Nat} {G : Hp} {us : List V} {v : V} (h : RunsV es k G us) (h' : RunV es k G v) : RunsV es k G (us ++ [v]) := h.app fun x hx => by rw [List.mem_singleton.mp hx]; exact h'
theorem RunsV.take {es : List Ev} {k : Nat} {G : Hp} {us : List V} (m : Nat) (h : RunsV es k G us) : RunsV es k G (us.take m) := fun v hv => h v (List.mem_of_mem_take hv)
/-- xs[:m] of a list, by what it leaves -/
theorem slL_take {K : PySem.W.Frag} {G P H : Hp} {r : Addr} {xs : List V} {m : Nat} {Q : VK} (j : Join G P H) (hr : G r = some (.lst xs)) (q : ∀ t G' H', Ex G G' → Join G' P H' → H t = none → G' t = some (.lst (xs.take m)) → Q (.ref t) H') : rSlL K (.ref r) none (some (m : Int)) H Q := by
  refine ⟨r, xs, rfl, sqL (j.g _ _ hr), fun p hp => q p _ _ (Ex.new (j.ng hp)) (j.newG hp) hp ?_⟩
  rw [upd_same]
  congr 2
  unfold cutV
  rw [HT.sIx_nat, HT.sIx_none, List.drop_zero, Nat.sub_zero]
  by_cases hm : m ≤ xs.length
  · rw [Nat.min_eq_left hm]
  · rw [Nat.min_eq_right (by omega), List.take_length, List.take_of_length_le (by omega)]
theorem TupL.monoJ {α : Type} {f : α → List V} {G P H : Hp} {vs : List V} {as : List α} (j : Join G P H) (h : TupL f G vs as) : TupL f H vs as := h.mono j.exG
end Lv

/-! == and != by an own __eq__ -/
namespace Lv
open PySem PySem.Spec PyProof.Rows PySem.SeqAt L2
section
variable {prog : Program} {w : World} {A : Around} {E : Value → Shared → Prop} {s : Shared} {K : PySem.W.Frag} {x C f : Addr} {ox : Obj} {od : Option Obj} {b tb : Value}
theorem ifBound_B {M : Model} {args : List Value} {name : Str} {id : String} {Q : Option Value → Shared → Prop} (sl : Slot "object" name id) (X : K.In s.heap) (I : PySem.W.InstAt s.heap x ox C od) (hs : PySem.W.findIn K (.ref C) name = some (some (.builtin id)))
    (h : wpAny M A (call (.builtin id) (.ref x :: args)) (fun v => Q (some v)) E s) : wpAny M A (callSpecialIfBound? (.ref x) name args) Q E s := by
  simp only [callSpecialIfBound?, bindSpecialIfBound?]
  refine wpAny_holding (wpAny_bind (wpAny_bind (wpAny_bind (I.type.here ((PySem.W.looks_findIn X hs).here ?_)))))
  refine wpAny_bind (wpAny_askSetting (wpAny_ite ?_))
  have fin : wpAny M A (call (.builtin id) ([.ref x] ++ args) >>= fun v => pure (some v)) Q E s := wpAny_bind (wpAny_mono h (fun v s' h' => wpAny_pure h') fun _ _ h' => h')
  split
  · exact wpAny_bind (wpAny_of_eq (sl.bind _) (wpAny_pure (by exact fin)))
  · exact wpAny_tryCatch (wpAny_bind (wpAny_of_eq (sl.bind _) (wpAny_pure (by exact fin))))
theorem objNe_entry (hu : A.units < cLine) (X : K.In s.heap) (I : PySem.W.InstAt s.heap x ox C od) (hs : PySem.W.findIn K (.ref C) "__eq__" = some (some (.ref f))) (hf : PySem.W.isFn K (.ref f) = true) {Q : Fin → Shared → Prop}
    (hcall : wpAny (model prog w) A (call (.ref f) [.ref x, b]) (fun v s' => ∃ c, v = .bool c ∧ Q (.done (.ret (.bool (!c)))) s') E s) :
    wpAny (model prog w) A (Builtin.«object.__ne__» ⟨[.ref x, b], []⟩) Q E s := by
  unfold Builtin.«object.__ne__»
  repeat (first
    | with_reducible refine wpAny_cRoomFor hu ?_
    | (refine wpAny_bind (m := callSpecialIfBound? (.ref x) (Str.ofString "__eq__") [b])
        (PySem.W.ifBound_K X I hs hf (wpAny_mono hcall (fun r s' hr => by
          obtain ⟨c, rfl, hq⟩ := hr
          repeat (first | exact hq | exact wpAny_pure hq | exact wpAny_truthy_bool hq | (refine wpAny_bind (m := truthy (.bool _)) (wpAny_truthy_bool ?_)) | wp_step)) fun _ _ e => e)))
    | wp_step)
theorem ne_own {Q : Value → Shared → Prop} (hu : A.units + 1 < cLine) (X : K.In s.heap) (I : PySem.W.InstAt s.heap x ox C od) (hb : PySem.W.Looks (model prog w) s.heap (typeOf b) tb) (hn : PySem.W.notFirst K C tb = true)
    (hm : PySem.W.mroIn K C (.type "object") = some true) (hne : PySem.W.findIn K (.ref C) "__ne__" = some (some (.builtin "object.__ne__"))) (hs : PySem.W.findIn K (.ref C) "__eq__" = some (some (.ref f))) (hf : PySem.W.isFn K (.ref f) = true)
    (h : wpAny (model prog w) A.in1 (call (.ref f) [.ref x, b]) (fun v s' => ∃ c, v = .bool c ∧ Q (.bool (!c)) s') E s) : wpAny (model prog w) A (richCompare .NotEq (.ref x) b) Q E s := by
  have one : wpAny (model prog w) A (tryCompare (.ref x) "__ne__" b) (fun r s' => ∃ v, r = some v ∧ Q v s') E s := by
    unfold tryCompare
    refine wpAny_bind (ifBound_B F.cmp_object.ne X I hne ?_)
    refine wpAny_call (codeAny_call_builtin F.cmp_object.ne.plain F.cmpEntry_ne (PySem.W.check_slot F.cmpKind_ne F.cmpSplit_ne (I.type.andThen (PySem.W.looks_mroIn X hm)) (F.cmpArgs_ne _ _) (objNe_entry (A := A.in1) (Nat.lt_of_le_of_lt (by first | exact Nat.le_refl _ | (simp [Around.in1, Around.units])) hu) X I hs hf (wpAny_mono h (fun v s' hv => ?_) fun _ _ e => e))))
    obtain ⟨c, rfl, hq⟩ := hv
    exact ⟨c, rfl, wpAny_pure ⟨_, rfl, hq⟩⟩
  unfold richCompare
  simp only [oneThing_ref]
  refine wpAny_holding (wpAny_bind (wpAny_cRoomFor (Nat.lt_of_succ_lt hu) ?_))
  rw [cmpInfo_NotEq]
  dsimp only
  refine wpAny_bind (I.type.here (wpAny_bind (hb.here ?_)))
  split
  · rename_i q
    have e : PySem.W.subIn K tb (.ref C) = some false := by
      rcases Bool.or_eq_true_iff.mp hn with e | e
      · rw [beq_iff_eq.mp e] at q; simp at q
      · exact beq_iff_eq.mp e
    refine wpAny_bind ((PySem.W.looks_subIn X e).here ?_)
    simp only [Bool.false_eq_true, if_false]
    refine wpAny_bind (wpAny_mono one (fun r s' z => ?_) fun _ _ e => e)
    obtain ⟨v, rfl, hq⟩ := z
    exact wpAny_pure hq
  · refine wpAny_bind (wpAny_pure ?_)
    simp only [Bool.false_eq_true, if_false]
    refine wpAny_bind (wpAny_mono one (fun r s' z => ?_) fun _ _ e => e)
    obtain ⟨v, rfl, hq⟩ := z
    exact wpAny_pure hq
end
/-- x == y, x != y by the own __eq__ of the class at C -/
def rEqOwn (K : PySem.W.Frag) (C : Addr) (sp : Sp) (E : XK) : R2 := fun x y H Q => ∃ a dx fs t, x = .ref a ∧ H a = some (.ins C dx fs) ∧ TyX K H y t ∧ PySem.W.notFirst K C t = true ∧ sp [x, y] H (fun v H' => ∃ c, v = .bl c ∧ Q (.bl c) H') E
def rNeOwn (K : PySem.W.Frag) (C : Addr) (sp : Sp) (E : XK) : R2 := fun x y H Q => ∃ a dx fs t, x = .ref a ∧ H a = some (.ins C dx fs) ∧ TyX K H y t ∧ PySem.W.notFirst K C t = true ∧ sp [x, y] H (fun v H' => ∃ c, v = .bl c ∧ Q (.bl (!c)) H') E
section
variable {X : Cx} {CX : CXT} {C f : Addr} {fd : FuncData} {ps : List Str} {sp : Sp} {n : Nat} {E : XK}
theorem callOwn (F : FnOk X.prog X.w X.K X.mg X.base CX n f fd ps sp) (hb : Binds X.K fd ps []) (hx : Passes CX X E) {A : Around} (hr : Room n A) (hfr : A.frames = X.A.frames) {pins : List (Addr × Obj)} {s : Shared} {σ : L2.St} {H : Hp} {x y : V} {u v : Value} {R : VK} {Q : Value → Shared → Prop}
    (I : Inv X pins σ H s) (rx : RelV x u) (ry : RelV y v) (h : sp [x, y] H R E) (hq : ∀ z w H' s', Inv X pins σ H' s' → RelV z w → R z H' → Q w s') : wpAny (model X.prog X.w) A (call (.ref f) [u, v]) Q X.xe s := by
  have e0 : Env0 X.prog X.w X.K X.mg X.base A X.stack s H := by
    have e := I.env0
    exact ⟨by rw [hfr]; exact e.frames, e.mod, e.bs, e.bsz, e.funs, e.frf, e.hok, e.bare⟩
  have hl := F.len _ _ _ _ h
  have r2 : Vals [x, y] [u, v] := .cons rx (.cons ry .nil)
  refine wpAny_call (codeAny_mono (F.run A X.stack s H ⟨[u, v], []⟩ [u, v] [x, y] _ E hr e0 (by
    have := hb s [u, v] I.kIn (by simpa using hl)
    simpa using this) r2 h) fun r s' hq2 => ?_)
  cases r with
  | error e => exact hx pins σ H s e s' I hq2
  | ok fl =>
    cases fl with
    | ret w =>
      obtain ⟨z, H', I', rz, ez⟩ := I.after hq2
      exact hq z w H' s' I' rz ez
    | next => exact False.elim hq2
    | brk => exact False.elim hq2
    | cont => exact False.elim hq2
theorem op_eqOwn (F : FnOk X.prog X.w X.K X.mg X.base CX n f fd ps sp) (hs : PySem.W.findIn X.K (.ref C) "__eq__" = some (some (.ref f))) (hf : PySem.W.isFn X.K (.ref f) = true) (hb : Binds X.K fd ps []) (hx : Passes CX X E) (hr : Room n X.A) : OpR X (compareOp .Eq) (rEqOwn X.K C sp E) := by
  intro pins s σ H x y v u Q I rx ry h
  obtain ⟨a, dx, fs, t, rfl, ha, ty, hn, h⟩ := h
  cases (show v = Value.ref a from rx)
  obtain ⟨mA, J, _⟩ := ins_get I.hok ha
  obtain ⟨od, J, _⟩ := J.look
  obtain ⟨m, hF⟩ := I.fr
  obtain ⟨P, Z, p, _⟩ := kit_of I ry ty
  show wpAny (model X.prog X.w) X.A (richCompare .Eq (.ref a) u) (EP X pins σ Q) X.xe s
  refine PySem.W.cmp_K (op := .Eq) hr.units0 hF I.ok.mod.kin J (Z.ty _ _ I.kIn p) hn hs hf ?_
  refine callOwn F hb hx hr rfl I rx ry h fun z w H' s' I' rz hz => ?_
  obtain ⟨c, rfl, q⟩ := hz
  cases (show w = Value.bool c from rz)
  exact ⟨.bl c, H', I', rfl, q⟩
theorem op_neOwn (F : FnOk X.prog X.w X.K X.mg X.base CX n f fd ps sp) (hs : PySem.W.findIn X.K (.ref C) "__eq__" = some (some (.ref f))) (hne : PySem.W.findIn X.K (.ref C) "__ne__" = some (some (.builtin "object.__ne__"))) (hm : PySem.W.mroIn X.K C (.type "object") = some true) (hf : PySem.W.isFn X.K (.ref f) = true) (hb : Binds X.K fd ps []) (hx : Passes CX X E) (hr : Room (n + 1) X.A) : OpR X (compareOp .NotEq) (rNeOwn X.K C sp E) := by
  intro pins s σ H x y v u Q I rx ry h
  obtain ⟨a, dx, fs, t, rfl, ha, ty, hn, h⟩ := h
  cases (show v = Value.ref a from rx)
  obtain ⟨mA, J, _⟩ := ins_get I.hok ha
  obtain ⟨od, J, _⟩ := J.look
  obtain ⟨P, Z, p, _⟩ := kit_of I ry ty
  show wpAny (model X.prog X.w) X.A (richCompare .NotEq (.ref a) u) (EP X pins σ Q) X.xe s
  refine ne_own hr.in1.units0 I.kIn J (Z.ty _ _ I.kIn p) hn hm hne hs hf ?_
  refine callOwn F hb hx hr.in1 rfl I rx ry h fun z w H' s' I' rz hz => ?_
  obtain ⟨c, rfl, q⟩ := hz
  cases (show w = Value.bool c from rz)
  exact ⟨c, rfl, .bl (!c), H', I', rfl, q⟩
end
end Lv

/-! own classes with an own __eq__; machines by their class -/
namespace Lv
open PySem PySem.Spec PyProof.Rows L2
structure OwnC (K : PySem.W.Frag) (C M : Addr) : Prop where
  ha : PySem.W.findIn K (.ref C) "__class__" = some (some (.builtin "object.__class__"))
  hn : PySem.W.specialIn K (.builtin "object.__class__") "__get__" = some (some (.builtin "getset_descriptor.__get__"))
  htk : PySem.W.takesIn K (.builtin "object.__class__") = some true
  hm : PySem.W.mroIn K C (.type "object") = some true
  kit : PySem.W.kitOne K (.ref C) (.ref M) = some true
def ownB (K : PySem.W.Frag) (c m : Str) : Bool :=
  He.eqO (PySem.W.findIn K (.ref (He.ga K c)) "__class__") (some (some (.builtin "object.__class__"))) && (He.eqO (PySem.W.specialIn K (.builtin "object.__class__") "__get__") (some (some (.builtin "getset_descriptor.__get__"))) &&
    (decide (PySem.W.takesIn K (.builtin "object.__class__") = some true) && (decide (PySem.W.mroIn K (He.ga K c) (.type "object") = some true) && decide (PySem.W.kitOne K (.ref (He.ga K c)) (.ref (He.ga K m)) = some true))))
theorem ownB_ok {K : PySem.W.Frag} {c m : Str} (h : ownB K c m = true) : OwnC K (He.ga K c) (He.ga K m) := by
  obtain ⟨h1, h⟩ := He.ba h
  obtain ⟨h2, h⟩ := He.ba h
  obtain ⟨h3, h⟩ := He.ba h
  obtain ⟨h4, h5⟩ := He.ba h
  exact ⟨He.eqO_ok h1, He.eqO_ok h2, of_decide_eq_true h3, of_decide_eq_true h4, of_decide_eq_true h5⟩
structure OwnE (K : PySem.W.Frag) (C M f : Addr) : Prop where
  eq : PySem.W.findIn K (.ref C) "__eq__" = some (some (.ref f))
  ne : PySem.W.findIn K (.ref C) "__ne__" = some (some (.builtin "object.__ne__"))
  hm : PySem.W.mroIn K C (.type "object") = some true
  fn : PySem.W.isFn K (.ref f) = true
  first : PySem.W.notFirst K C (.ref M) = true
def eqB (K : PySem.W.Frag) (c m : Str) : Bool :=
  He.eqO (PySem.W.findIn K (.ref (He.ga K c)) "__eq__") (some (some (.ref (He.ma K (He.ga K m) "__eq__")))) && (He.eqO (PySem.W.findIn K (.ref (He.ga K c)) "__ne__") (some (some (.builtin "object.__ne__"))) &&
    (decide (PySem.W.mroIn K (He.ga K c) (.type "object") = some true) && (PySem.W.isFn K (.ref (He.ma K (He.ga K m) "__eq__")) && PySem.W.notFirst K (He.ga K c) (.ref (He.ga K m)))))
theorem eqB_ok {K : PySem.W.Frag} {c m : Str} (h : eqB K c m = true) : OwnE K (He.ga K c) (He.ga K m) (He.ma K (He.ga K m) "__eq__") := by
  obtain ⟨h1, h⟩ := He.ba h
  obtain ⟨h2, h⟩ := He.ba h
  obtain ⟨h3, h⟩ := He.ba h
  obtain ⟨h4, h5⟩ := He.ba h
  exact ⟨He.eqO_ok h1, He.eqO_ok h2, of_decide_eq_true h3, h4, h5⟩
def maB (K : PySem.W.Frag) (c m x : Str) : Bool := decide (He.ma K (He.ga K c) x = He.ma K (He.ga K m) x)
theorem meth_cast {K : PySem.W.Frag} {c m x : Str} (h : Meth K (He.ga K c) x (He.ma K (He.ga K c) x)) (e : maB K c m x = true) : Meth K (He.ga K c) x (He.ma K (He.ga K m) x) := by
  rw [← of_decide_eq_true e]; exact h
theorem first_self {K : PySem.W.Frag} {C : Addr} : PySem.W.notFirst K C (.ref C) = true := by simp [PySem.W.notFirst]
/-- x == y, x != y by the own __eq__ at f -/
def rEqO (K : PySem.W.Frag) (M f : Addr) (sp : Sp) (E : XK) : R2 := fun x y H Q => ∃ C a dx fs t, x = .ref a ∧ H a = some (.ins C dx fs) ∧ OwnE K C M f ∧ TyX K H y t ∧ PySem.W.notFirst K C t = true ∧ sp [x, y] H (fun v H' => ∃ c, v = .bl c ∧ Q (.bl c) H') E
def rNeO (K : PySem.W.Frag) (M f : Addr) (sp : Sp) (E : XK) : R2 := fun x y H Q => ∃ C a dx fs t, x = .ref a ∧ H a = some (.ins C dx fs) ∧ OwnE K C M f ∧ TyX K H y t ∧ PySem.W.notFirst K C t = true ∧ sp [x, y] H (fun v H' => ∃ c, v = .bl c ∧ Q (.bl (!c)) H') E
section
variable {X : Cx} {CX : CXT} {M f : Addr} {fd : FuncData} {ps : List Str} {sp : Sp} {n : Nat} {E : XK}
theorem op_eqO (F : FnOk X.prog X.w X.K X.mg X.base CX n f fd ps sp) (hb : Binds X.K fd ps []) (hx : Passes CX X E) (hr : Room (n + 1) X.A) : OpR X (compareOp .Eq) (rEqO X.K M f sp E) := by
  intro pins s σ H x y v u Q I rx ry h
  obtain ⟨C, a, dx, fs, t, e, ha, ho, ty, hn, h⟩ := h
  exact op_eqOwn F ho.eq ho.fn hb hx (hr.mono (Nat.le_succ _)) pins s σ H x y v u Q I rx ry ⟨a, dx, fs, t, e, ha, ty, hn, h⟩
theorem op_neO (F : FnOk X.prog X.w X.K X.mg X.base CX n f fd ps sp) (hb : Binds X.K fd ps []) (hx : Passes CX X E) (hr : Room (n + 1) X.A) : OpR X (compareOp .NotEq) (rNeO X.K M f sp E) := by
  intro pins s σ H x y v u Q I rx ry h
  obtain ⟨C, a, dx, fs, t, e, ha, ho, ty, hn, h⟩ := h
  exact op_neOwn F ho.eq ho.ne ho.hm ho.fn hb hx hr pins s σ H x y v u Q I rx ry ⟨a, dx, fs, t, e, ha, ty, hn, h⟩
end
/-- a class of machines -/
structure MC (K : PySem.W.Frag) (C : Addr) : Prop where
  c : Cls K C
  ns : NoAttr K C "standings"
  ne : NoAttr K C "events"
  nk : NoAttr K C "kept_out"
  o : OwnC K C (He.ga K "Machine")
  q : OwnE K C (He.ga K "Machine") (He.ma K (He.ga K "Machine") "__eq__")
theorem MC.ty {K : PySem.W.Frag} {C : Addr} (h : MC K C) {H : Hp} {a dx : Addr} {fs : List (Str × V)} (e : H a = some (.ins C dx fs)) : TyX K H (.ref a) (.ref C) := .base (.ins e h.c h.o.ha h.o.hn h.o.htk h.o.hm)
def MachK (K : PySem.W.Frag) (G : Hp) (m : Addr) (n : Int) (es : List Ev) : Prop := ∃ C, MC K C ∧ MachAt C G m n es
theorem MachK.mono {K : PySem.W.Frag} {G G' : Hp} {m : Addr} {n : Int} {es : List Ev} (e : Ex G G') (h : MachK K G m n es) : MachK K G' m n es := by
  obtain ⟨C, h1, h2⟩ := h
  exact ⟨C, h1, h2.mono e⟩
/-- Machine.keep, of any class of machines -/
def spKeepM (K : PySem.W.Frag) : Sp := fun vs H Q E => ∃ C, MC K C ∧ spKeep C vs H Q E
/-- == of machines, and of a machine and a thing that is none -/
def spMEq (K : PySem.W.Frag) : Sp := fun vs H Q _ => ∃ (a b : Addr) (n n' : Int) (es es' : List Ev), vs = [.ref a, .ref b] ∧ MachK K H a n es ∧ MachK K H b n' es' ∧ Q (.bl (decide (n = n' ∧ es = es'))) H
theorem MachK.eqR {K : PySem.W.Frag} {H : Hp} {a b C : Addr} {n n' : Int} {es es' : List Ev} {Q : VK} {E : XK} (ha : MachK K H a n es) (hb : MachAt (He.ga K "Machine") H b n' es') (hC : MC K (He.ga K "Machine")) (q : Q (.bl (decide (n = n' ∧ es = es'))) H) : rEqO K (He.ga K "Machine") (He.ma K (He.ga K "Machine") "__eq__") (spMEq K) E (.ref a) (.ref b) H Q := by
  obtain ⟨Ca, h1, dx, t, ko, ks, h2, h3⟩ := id ha
  obtain ⟨dy, t', ko', ks', h4, h5⟩ := id hb
  exact ⟨Ca, a, dx, _, _, rfl, h2, h1.q, hC.ty h4, h1.q.first, a, b, n, n', es, es', rfl, ha, ⟨_, hC, hb⟩, _, rfl, q⟩
theorem MachK.neR {K : PySem.W.Frag} {H : Hp} {a b : Addr} {n n' : Int} {es es' : List Ev} {Q : VK} {E : XK} (ha : MachK K H a n es) (hb : MachAt (He.ga K "Machine") H b n' es') (hC : MC K (He.ga K "Machine")) (q : Q (.bl (!decide (n = n' ∧ es = es'))) H) : rNeO K (He.ga K "Machine") (He.ma K (He.ga K "Machine") "__eq__") (spMEq K) E (.ref a) (.ref b) H Q := by
  obtain ⟨Ca, h1, dx, t, ko, ks, h2, h3⟩ := id ha
  obtain ⟨dy, t', ko', ks', h4, h5⟩ := id hb
  exact ⟨Ca, a, dx, _, _, rfl, h2, h1.q, hC.ty h4, h1.q.first, a, b, n, n', es, es', rfl, ha, ⟨_, hC, hb⟩, _, rfl, q⟩
/-- both of one class -/
theorem MachAt.neR {K : PySem.W.Frag} {H : Hp} {a b C : Addr} {n n' : Int} {es es' : List Ev} {Q : VK} {E : XK} (hC : MC K C) (ha : MachAt C H a n es) (hb : MachAt C H b n' es') (q : Q (.bl (!decide (n = n' ∧ es = es'))) H) : rNeO K (He.ga K "Machine") (He.ma K (He.ga K "Machine") "__eq__") (spMEq K) E (.ref a) (.ref b) H Q := by
  obtain ⟨dx, t, ko, ks, h2, h3⟩ := id ha
  obtain ⟨dy, t', ko', ks', h4, h5⟩ := id hb
  exact ⟨C, a, dx, _, _, rfl, h2, hC.q, hC.ty h4, first_self, a, b, n, n', es, es', rfl, ⟨_, hC, ha⟩, ⟨_, hC, hb⟩, _, rfl, q⟩
/-- the events as data -/
def evI (e : Ev) : List Int := [e.b, e.a, e.w, e.x]
theorem evI_inj {l m : List Ev} (h : l.map evI = m.map evI) : l = m := by
  induction l generalizing m with
  | nil => cases m with
    | nil => rfl
    | cons b m => simp at h
  | cons a l ih => cases m with
    | nil => simp at h
    | cons b m =>
      rw [List.map_cons, List.map_cons] at h
      obtain ⟨h1, h2⟩ := List.cons.inj h
      rw [ih h2]
      congr 1
      cases a; cases b
      simp [evI] at h1
      obtain ⟨q1, q2, q3, q4⟩ := h1
      subst q1; subst q2; subst q3; subst q4; rfl
theorem EvL.tupL {G : Hp} {vs : List V} {es : List Ev} (h : EvL G vs es) : TupL iV G vs (es.map evI) := ⟨by simp [h.1], fun i a ha => by
  rw [List.getElem?_map] at ha
  obtain ⟨e, he, rfl⟩ := Option.map_eq_some_iff.mp ha
  exact h.2 i e he⟩
def dU (ls : List (List Int)) : PyData := .tuple (ls.map dT)
theorem dp_tt {K : PySem.W.Frag} {H : Hp} {p : Addr} {vs : List V} {ls : List (List Int)} (hp : H p = some (.tup vs)) (h : TupL iV H vs ls) : Dp K H (.ref p) (dU ls) := .tup (sqT hp) (dp_all ls vs h)
theorem shaped_dU (ls : List (List Int)) : SeqAt.shaped (dU ls) = true := by
  have h1 := lay_tups ls
  have h2 := dep_tups ls
  unfold SeqAt.shaped dU
  rw [PyData.canLay0, h1, PyData.depth]
  simp
  omega
theorem eqv_dU (l m : List (List Int)) : PyData.eqv (dU l) (dU m) = decide (l = m) := by
  unfold dU; rw [PyData.eqv]; exact eqv_tups l m
/-- (standings, events) as data -/
def dP (n : Int) (ls : List (List Int)) : PyData := .tuple [.int n, dU ls]
theorem dp_parts {K : PySem.W.Frag} {H : Hp} {p : Addr} {n : Int} {es : List Ev} (h : PartsAt H p n es) : Dp K H (.ref p) (dP n (es.map evI)) := by
  obtain ⟨t, h1, vs, h2, h3⟩ := h
  exact .tup (sqT h1) (.cons (.int n) (.cons (dp_tt h2 h3.tupL) .nil))
theorem shaped_dP (n : Int) (ls : List (List Int)) : SeqAt.shaped (dP n ls) = true := by
  have h1 := lay_tups ls
  have h2 := dep_tups ls
  unfold SeqAt.shaped dP dU
  simp [PyData.canLay0, PyData.canLayAll0, PyData.depth, PyData.depthAll, h1]
  omega
theorem eqv_dP (n n' : Int) (l m : List (List Int)) : PyData.eqv (dP n l) (dP n' m) = decide (n = n' ∧ l = m) := by
  unfold dP
  simp [PyData.eqv, PyData.eqvAll, eqv_dU]
  by_cases h : n = n' <;> simp [h]
end Lv

namespace Lv
open PySem PySem.Spec PyProof.Rows L2
/-- events of small numbers, between n standings -/
def EvB (n : Int) (es : List Ev) : Prop := 1 ≤ n ∧ n ≤ 10000 ∧ es.length ≤ 10000 ∧ ∀ e ∈ es, 0 ≤ e.b ∧ e.b < n ∧ 0 ≤ e.a ∧ e.a < n ∧ 1 ≤ e.w ∧ e.w ≤ 1000000000000 ∧ -1000000000000 ≤ e.x ∧ e.x ≤ 1000000000000
end Lv

/-! the walk: readings by their head, one step each -/
namespace Lv
open PySem PySem.Spec PyProof.Rows L2
section
variable {K : PySem.W.Frag} {σ : L2.St} {H : Hp} {Q : VK} {R : Bool → Hp → Prop} {nx bk ct : L2.St → Hp → Prop} {rt : VK} {D : Ends} {v x y : V} {te ta tb : TE} {tt uu : TT} {t u : TS} {as : TA} {g : TG} {gs : TGs} {i j : Nat}
theorem w_seq (h : t ⟨u ⟨nx, rt, bk, ct⟩, rt, bk, ct⟩ σ H) : tSeq t u ⟨nx, rt, bk, ct⟩ σ H := h
theorem w_next (h : nx σ H) : tNext ⟨nx, rt, bk, ct⟩ σ H := h
theorem w_brk (h : bk σ H) : tBreak ⟨nx, rt, bk, ct⟩ σ H := h
theorem w_cont (h : ct σ H) : tCont ⟨nx, rt, bk, ct⟩ σ H := h
theorem w_drop (h : te σ H fun _ H1 => nx σ H1) : tDrop te ⟨nx, rt, bk, ct⟩ σ H := h
theorem w_ret (h : te σ H rt) : tRet te ⟨nx, rt, bk, ct⟩ σ H := h
theorem w_retN (h : rt .non H) : tRetN ⟨nx, rt, bk, ct⟩ σ H := h
theorem w_ifS (h : tt σ H fun b H1 => if b = true then t D σ H1 else u D σ H1) : tIfS tt t u D σ H := h
theorem w_asg (h : te σ H fun x H1 => g x σ H1 nx) : tAsg te g ⟨nx, rt, bk, ct⟩ σ H := h
theorem w_name {N : L2.St → Hp → Prop} (h : N (σ.set i (some v)) H) : gName i v σ H N := h
theorem w_gnil {N : L2.St → Hp → Prop} {vs : List V} (e : vs = []) (h : N σ H) : gNil vs σ H N := ⟨e, h⟩
theorem w_gcons {N : L2.St → Hp → Prop} {vs r : List V} (e : vs = v :: r) (h : g v σ H fun σ' H' => gs r σ' H' N) : gCons g gs vs σ H N := ⟨v, r, e, h⟩
theorem w_gtup {N : L2.St → Hp → Prop} {n : Nat} {a : Addr} {xs : List V} (e : H a = some (.tup xs)) (l : xs.length = n) (h : gs xs σ H N) : gTup K n gs (.ref a) σ H N := ⟨a, xs, rfl, sqT e, l, h⟩
theorem w_var (e : σ[i]? = some (some v)) (h : Q v H) : tVar i σ H Q := ⟨v, e, h⟩
theorem w_c (h : Q v H) : tC v σ H Q := h
theorem w_op {r : R2} (h : ta σ H fun x H1 => tb σ H1 fun y H2 => r x y H2 Q) : tOp r ta tb σ H Q := h
theorem w_un {r : V → Hp → VK → Prop} (h : ta σ H fun x H1 => r x H1 Q) : tUn r ta σ H Q := h
theorem w_rI0 {f : Int → Int → V} {a b : Int} (h : Q (f a b) H) : rI0 f (.int a) (.int b) H Q := ⟨a, b, rfl, rfl, h⟩
theorem w_rI {C : Int → Int → Prop} {f : Int → Int → V} {a b : Int} (c : C a b) (h : Q (f a b) H) : rI C f (.int a) (.int b) H Q := ⟨a, b, rfl, rfl, c, h⟩
theorem w_rU {f : Int → V} {a : Int} (h : Q (f a) H) : rU f (.int a) H Q := ⟨a, rfl, h⟩
theorem w_eq (e : scal x y = true) (h : Q (.bl (decide (x = y))) H) : rEq x y H Q := ⟨e, h⟩
theorem w_ne (e : scal x y = true) (h : Q (.bl (!decide (x = y))) H) : rNe x y H Q := ⟨e, h⟩
theorem w_tB (h : te σ H fun x H1 => ∃ c, x = .bl c ∧ R c H1) : tB te σ H R := h
theorem w_test (h : te σ H fun x H1 => ∃ c, x = .bl c ∧ R c H1) : tTest te σ H R := h
theorem w_bl {b : Bool} {S : Bool → Prop} (h : S b) : ∃ c, V.bl b = V.bl c ∧ S c := ⟨b, rfl, h⟩
theorem w_and (h : tt σ H fun c H1 => if c = true then uu σ H1 R else R false H1) : tAnd tt uu σ H R := h
theorem w_or (h : tt σ H fun c H1 => if c = true then R true H1 else uu σ H1 R) : tOr tt uu σ H R := h
theorem w_not (h : tt σ H fun c H1 => R (!c) H1) : tNot tt σ H R := h
theorem w_andV (h : ta σ H fun x H1 => ∃ c, x = .bl c ∧ if c = true then tb σ H1 Q else Q (.bl false) H1) : tAndV ta tb σ H Q := h
theorem w_orV (h : ta σ H fun x H1 => ∃ c, x = .bl c ∧ if c = true then Q (.bl true) H1 else tb σ H1 Q) : tOrV ta tb σ H Q := h
theorem w_notV (h : ta σ H fun x H1 => ∃ c, x = .bl c ∧ Q (.bl (!c)) H1) : tNotV ta σ H Q := h
theorem w_ifE (h : tt σ H fun c H1 => if c = true then ta σ H1 Q else tb σ H1 Q) : tIf tt ta tb σ H Q := h
theorem w_yes (h : R true H) : tYes σ H R := h
theorem w_ifT {A B : Prop} (h : A) : if true = true then A else B := (if_pos rfl).mpr h
theorem w_ifF {A B : Prop} (h : B) : if false = true then A else B := (if_neg (by decide)).mpr h
theorem w_ifNT {A B : Prop} (h : B) : if (!true) = true then A else B := (if_neg (by decide)).mpr h
theorem w_ifNF {A B : Prop} (h : A) : if (!false) = true then A else B := (if_pos rfl).mpr h
theorem w_nil {S : List V → Hp → Prop} (h : S [] H) : tNil σ H S := h
theorem w_cons {S : List V → Hp → Prop} (h : ta σ H fun x H1 => as σ H1 fun xs H2 => S (x :: xs) H2) : tCons ta as σ H S := h
theorem w_call {sp : Sp} {dvs : List V} {E : XK} (h : as σ H fun vs H1 => sp (vs ++ dvs) H1 Q E) : tCall sp dvs E as σ H Q := h
theorem w_cb {r : List V → Hp → VK → Prop} (h : as σ H fun vs H1 => r vs H1 Q) : tCB r as σ H Q := h
theorem w_ixT {a : Addr} {xs : List V} {k : Int} (e : H a = some (.tup xs)) (l : atI xs k = some v) (h : Q v H) : rIxT K (.ref a) (.int k) H Q := ⟨a, xs, k, v, rfl, rfl, sqT e, l, h⟩
theorem w_ixL {a : Addr} {xs : List V} {k : Int} (e : H a = some (.lst xs)) (l : atI xs k = some v) (h : Q v H) : rIxL K (.ref a) (.int k) H Q := ⟨a, xs, k, v, rfl, rfl, sqL e, l, h⟩
theorem w_aug {ti : TIp} (e : σ[i]? = some (some x)) (h : te σ H fun y H1 => ti x y H1 fun z H2 => nx (σ.set i (some z)) H2) : tAug i te ti ⟨nx, rt, bk, ct⟩ σ H := ⟨x, e, h⟩
theorem w_rAdd {a b : Int} (h : Q (.int (a + b)) H) : rAdd (.int a) (.int b) H Q := ⟨a, b, rfl, rfl, h⟩
theorem w_rSub {a b : Int} (h : Q (.int (a - b)) H) : rSub (.int a) (.int b) H Q := ⟨a, b, rfl, rfl, h⟩
/-- x.f -/
def aFld (K : PySem.W.Frag) (f : Str) : V → Hp → VK → Prop := fun x H Q => ∃ a C dx fs v, x = .ref a ∧ H a = some (.ins C dx fs) ∧ Cls K C ∧ NoAttr K C f ∧ fs.lookup f = some v ∧ Q v H
theorem w_fld {f : Str} (h : te σ H fun x H1 => aFld K f x H1 Q) : tFld K te f σ H Q := h
/-- a new tuple, a new list -/
def aTup : List V → Hp → VK → Prop := fun xs H Q => xs.length ≤ sizeLine ∧ ∀ p, H p = none → Q (.ref p) (upd H p (.tup xs))
def aLst : List V → Hp → VK → Prop := fun xs H Q => xs.length ≤ sizeLine ∧ ∀ p, H p = none → Q (.ref p) (upd H p (.lst xs))
theorem w_tup (h : as σ H fun xs H1 => aTup xs H1 Q) : tTup as σ H Q := h
theorem w_lst (h : as σ H fun xs H1 => aLst xs H1 Q) : tLst as σ H Q := h
theorem aTup.go {G P : Hp} {xs : List V} (J : Join G P H) (l : xs.length ≤ 100000) (q : ∀ p G' H', H p = none → Ex G G' → Join G' P H' → G' p = some (.tup xs) → Q (.ref p) H') : aTup xs H Q :=
  ⟨szle l, fun p hp => q p _ _ hp (Ex.new (J.ng hp)) (J.newG hp) upd_same⟩
theorem aLst.go {G P : Hp} {xs : List V} (J : Join G P H) (l : xs.length ≤ 100000) (q : ∀ p G' H', H p = none → Ex G G' → Join G' P H' → G' p = some (.lst xs) → Q (.ref p) H') : aLst xs H Q :=
  ⟨szle l, fun p hp => q p _ _ hp (Ex.new (J.ng hp)) (J.newG hp) upd_same⟩
/-- comprehensions over lists, tuples, ranges -/
def aLcL (K : PySem.W.Frag) (g : TG) (tt : TT) (te : TE) (vs : List Nat) (σ : L2.St) : V → Hp → VK → Prop := fun x H Q => tLc (fun _ H R => ∃ a, x = .ref a ∧ (∃ xs, SqL K H a xs) ∧ R (Itl K a) H) g tt te vs σ H Q
def aLcT (K : PySem.W.Frag) (g : TG) (tt : TT) (te : TE) (vs : List Nat) (σ : L2.St) : V → Hp → VK → Prop := fun x H Q => tLc (fun _ H R => ∃ a, x = .ref a ∧ (∃ xs, SqT K H a xs) ∧ R (Itt K a) H) g tt te vs σ H Q
def aLcR (g : TG) (tt : TT) (te : TE) (vs : List Nat) (σ : L2.St) : List V → Hp → VK → Prop := fun xs H Q => tLc (fun _ H R => ∃ j : Int, xs = [.int j] ∧ -(2 ^ 62) ≤ j ∧ j < 2 ^ 62 ∧ R (Itr 0 j.toNat) H) g tt te vs σ H Q
theorem w_lcL {ts : List Nat} (h : ta σ H fun x H1 => aLcL K g tt te ts σ x H1 Q) : tLc (iList K ta) g tt te ts σ H Q := h
theorem w_lcT {ts : List Nat} (h : ta σ H fun x H1 => aLcT K g tt te ts σ x H1 Q) : tLc (iTup K ta) g tt te ts σ H Q := h
theorem w_lcR {ts : List Nat} (h : as σ H fun xs H1 => aLcR g tt te ts σ xs H1 Q) : tLc (iRng1 as) g tt te ts σ H Q := h
theorem aLcL.go {a : Addr} {xs : List V} {ts : List Nat} {G P : Hp} (Pp : Hp → Prop) (I : Nat → List V → Hp → Prop) (J : Join G P H) (hP : Pp P)
    (hS : G a = some (.lst xs)) (h0 : ∀ G', Ex G G' → I 0 [] G') (hI : ∀ i ws G2 D us ts, G2 D = some (.lst us) → I i ws G2 → I i ws (upd G2 D (.lst ts))) (hz : ∀ i ws G2, I i ws G2 → ws.length ≤ 1000000)
    (hs : ∀ (i : Nat) (x : V) (ws : List V) (G' P' H' : Hp) (R : VK) (R0 : Hp → Prop), xs[i]? = some x → Ex G G' → I i ws G' → Pp P' → Join G' P' H' →
      (∀ v G2 P2 H2, Ex G' G2 → Pp P2 → Join G2 P2 H2 → I (i + 1) (ws ++ [v]) G2 → R v H2) → (∀ G2 P2 H2, Ex G' G2 → Pp P2 → Join G2 P2 H2 → I (i + 1) ws G2 → R0 H2) →
      g x (wipe σ ts) H' fun σ2 H2 => wipe σ2 ts = wipe σ ts ∧ tt σ2 H2 fun b H3 => if b = true then te σ2 H3 R else R0 H3)
    (hq : ∀ p ws G' P' H', H p = none → Ex G G' → G' p = some (.lst ws) → I xs.length ws G' → Pp P' → Join G' P' H' → Q (.ref p) H') : aLcL K g tt te ts σ (.ref a) H Q :=
  ⟨a, rfl, ⟨_, sqL (J.g _ _ hS)⟩, fun D hD => lcG_list (xs := xs) Pp I hD J hP (sqL hS) (h0 _ (Ex.new (J.ng hD))) (fun i ws G2 us ts' h1 h2 => hI i ws G2 D us ts' h1 h2) hz hs fun ws G' P' H' e hd hi hp j => hq D ws G' P' H' hD e hd hi hp j⟩
theorem aLcT.go {a : Addr} {xs : List V} {ts : List Nat} {G P : Hp} (Pp : Hp → Prop) (I : Nat → List V → Hp → Prop) (J : Join G P H) (hP : Pp P)
    (hS : G a = some (.tup xs)) (h0 : ∀ G', Ex G G' → I 0 [] G') (hI : ∀ i ws G2 D us ts, G2 D = some (.lst us) → I i ws G2 → I i ws (upd G2 D (.lst ts))) (hz : ∀ i ws G2, I i ws G2 → ws.length ≤ 1000000)
    (hs : ∀ (i : Nat) (x : V) (ws : List V) (G' P' H' : Hp) (R : VK) (R0 : Hp → Prop), xs[i]? = some x → Ex G G' → I i ws G' → Pp P' → Join G' P' H' →
      (∀ v G2 P2 H2, Ex G' G2 → Pp P2 → Join G2 P2 H2 → I (i + 1) (ws ++ [v]) G2 → R v H2) → (∀ G2 P2 H2, Ex G' G2 → Pp P2 → Join G2 P2 H2 → I (i + 1) ws G2 → R0 H2) →
      g x (wipe σ ts) H' fun σ2 H2 => wipe σ2 ts = wipe σ ts ∧ tt σ2 H2 fun b H3 => if b = true then te σ2 H3 R else R0 H3)
    (hq : ∀ p ws G' P' H', H p = none → Ex G G' → G' p = some (.lst ws) → I xs.length ws G' → Pp P' → Join G' P' H' → Q (.ref p) H') : aLcT K g tt te ts σ (.ref a) H Q :=
  ⟨a, rfl, ⟨_, sqT (J.g _ _ hS)⟩, fun D hD => lcG_tup (xs := xs) Pp I hD J hP (sqT hS) (h0 _ (Ex.new (J.ng hD))) (fun i ws G2 us ts' h1 h2 => hI i ws G2 D us ts' h1 h2) hz hs fun ws G' P' H' e hd hi hp j => hq D ws G' P' H' hD e hd hi hp j⟩
theorem aLcR.go {n : Nat} {ts : List Nat} {G P : Hp} (Pp : Hp → Prop) (I : Nat → List V → Hp → Prop) (J : Join G P H) (hP : Pp P) {m : Int} (hn : m = n) (hm : n ≤ 1000000)
    (h0 : ∀ G', Ex G G' → I 0 [] G') (hI : ∀ i ws G2 D us ts, G2 D = some (.lst us) → I i ws G2 → I i ws (upd G2 D (.lst ts))) (hz : ∀ i ws G2, I i ws G2 → ws.length ≤ 1000000)
    (hs : ∀ (i : Nat) (ws : List V) (G' P' H' : Hp) (R : VK) (R0 : Hp → Prop), i < n → Ex G G' → I i ws G' → Pp P' → Join G' P' H' →
      (∀ v G2 P2 H2, Ex G' G2 → Pp P2 → Join G2 P2 H2 → I (i + 1) (ws ++ [v]) G2 → R v H2) → (∀ G2 P2 H2, Ex G' G2 → Pp P2 → Join G2 P2 H2 → I (i + 1) ws G2 → R0 H2) →
      g (.int (i : Int)) (wipe σ ts) H' fun σ2 H2 => wipe σ2 ts = wipe σ ts ∧ tt σ2 H2 fun b H3 => if b = true then te σ2 H3 R else R0 H3)
    (hq : ∀ p ws G' P' H', H p = none → Ex G G' → G' p = some (.lst ws) → I n ws G' → Pp P' → Join G' P' H' → Q (.ref p) H') : aLcR g tt te ts σ [.int m] H Q := by
  subst hn
  refine ⟨(n : Int), rfl, by omega, by omega, fun D hD => lcG_range (lo := 0) (n := (n : Int).toNat) Pp I hD J hP (h0 _ (Ex.new (J.ng hD))) (fun i ws G2 us ts' h1 h2 => hI i ws G2 D us ts' h1 h2) hz ?_ fun ws G' P' H' e hd hi hp j => hq D ws G' P' H' hD e hd (by rw [Int.toNat_natCast] at hi; exact hi) hp j⟩
  intro i ws G' P' H' R R0 hi
  rw [Int.zero_add]
  rw [Int.toNat_natCast] at hi
  exact hs i ws G' P' H' R R0 hi
/-- tests of a comprehension within: both ends -/
theorem wipe_go {σ2 : L2.St} {ts : List Nat} {A : Prop} (e : wipe σ2 ts = wipe σ ts) (h : A) : wipe σ2 ts = wipe σ ts ∧ A := ⟨e, h⟩
/-- a method's call -/
def aMeth (C : Addr) (m : Str) (sp : Sp) (dvs : List V) (E : XK) (as : TA) (σ : L2.St) : V → Hp → VK → Prop := fun x H Q => ∃ a dx fs, x = .ref a ∧ H a = some (.ins C dx fs) ∧ fs.lookup m = none ∧ as σ H fun vs H1 => sp (x :: (vs ++ dvs)) H1 Q E
theorem w_meth {C : Addr} {m : Str} {sp : Sp} {dvs : List V} {E : XK} (h : ta σ H fun x H1 => aMeth C m sp dvs E as σ x H1 Q) : tMeth C m sp dvs E ta as σ H Q := h
theorem aMeth.go {C a dx : Addr} {m : Str} {sp : Sp} {dvs : List V} {E : XK} {fs : List (Str × V)} {G P : Hp} (J : Join G P H) (e : G a = some (.ins C dx fs)) (l : fs.lookup m = none) (h : as σ H fun vs H1 => sp (.ref a :: (vs ++ dvs)) H1 Q E) : aMeth C m sp dvs E as σ (.ref a) H Q := ⟨a, dx, fs, rfl, J.g _ _ e, l, h⟩
/-- fields of machines -/
theorem aFld.ns {G P : Hp} {m : Addr} {n : Int} {es : List Ev} (J : Join G P H) (h : MachK K G m n es) (q : Q (.int n) H) : aFld K "standings" (.ref m) H Q := by
  obtain ⟨C, hC, dx, t, ko, ks, h1, h2⟩ := h
  exact ⟨m, C, dx, _, _, rfl, J.g _ _ h1, hC.c, hC.ns, ml1 _ _ _, q⟩
theorem aFld.ne {G P : Hp} {m : Addr} {n : Int} {es : List Ev} (J : Join G P H) (h : MachK K G m n es) (q : ∀ t vs, G t = some (.tup vs) → EvL G vs es → Q (.ref t) H) : aFld K "events" (.ref m) H Q := by
  obtain ⟨C, hC, dx, t, ko, ks, h1, ⟨vs, h2, h3⟩, h4⟩ := h
  exact ⟨m, C, dx, _, _, rfl, J.g _ _ h1, hC.c, hC.ne, ml2 _ _ _, q t vs h2 h3⟩
theorem aFld.nk {G P : Hp} {m : Addr} {n : Int} {es : List Ev} (J : Join G P H) (h : MachK K G m n es) (q : ∀ ko ks, G ko = some (.lst ks) → (ks.length : Int) = n → (∀ i : Nat, i < ks.length → ∃ k : Addr, ks[i]? = some (.ref k) ∧ G k = some (.lst ((outs 0 es i).map V.int))) → Q (.ref ko) H) : aFld K "kept_out" (.ref m) H Q := by
  obtain ⟨C, hC, dx, t, ko, ks, h1, h2, h3, h4, h5⟩ := h
  exact ⟨m, C, dx, _, _, rfl, J.g _ _ h1, hC.c, hC.nk, ml3 _ _ _, q ko ks h3 h4 h5⟩
/-- a list's end grows -/
theorem w_append {l : Addr} {xs : List V} (e : H l = some (.lst xs)) (z : xs.length < 100000) (h : Q .non (upd H l (.lst (xs ++ [y])))) : rAppend (.ref l) [y] H Q := ⟨l, xs, y, rfl, rfl, e, szlt z, h⟩
/-- a thing made: its dict and itself are new -/
def aMake (C : Addr) (sp : Sp) (dvs : List V) (E : XK) : List V → Hp → VK → Prop := fun vs H Q => tMake C sp dvs E (fun _ H S => S vs H) [] H Q
theorem w_make {C : Addr} {sp : Sp} {dvs : List V} {E : XK} (h : as σ H fun vs H1 => aMake C sp dvs E vs H1 Q) : tMake C sp dvs E as σ H Q := h
theorem aMake.go {C : Addr} {sp : Sp} {dvs vs : List V} {E : XK} {G P : Hp} (J : Join G P H) (q : ∀ m dx G' H', H m = none → Ex G G' → Join G' P H' → G' m = some (.ins C dx []) → sp (.ref m :: (vs ++ dvs)) H' (fun v H2 => v = .non ∧ Q (.ref m) H2) E) : aMake C sp dvs E vs H Q := by
  intro m dx hm hdx hne
  have j3 := (J.newG (o := .own m) hdx).newG (o := .ins C dx []) (b := m) (Eq.trans (upd_ne (Ne.symm hne)) hm)
  have e3 : Ex G _ := (Ex.new (o := .own m) (J.ng hdx)).trans (Ex.new (o := .ins C dx []) (p := m) (Eq.trans (upd_ne (Ne.symm hne)) (J.ng hm)))
  exact q m dx _ _ hm e3 j3 upd_same
theorem But.ex {x : Addr} {G G1 G2 : Hp} (b : But x G1 G2) (e : Ex G G1) (n : G x = none) : Ex G G2 := fun a o h => b a o (e a o h) (ne_of_none h n)
theorem big15 {a : Int} (h1 : -1000000000000000 ≤ a) (h2 : a ≤ 1000000000000000) : a.natAbs < 2 ^ 1000 := Nat.lt_of_lt_of_le (show a.natAbs < 1152921504606846976 by omega) (Nat.le_trans (show 1152921504606846976 ≤ 2 ^ 60 by decide) (Nat.pow_le_pow_right (by decide) (by decide)))
theorem big199 {a : Int} (h1 : -1000000000000000000000 ≤ a) (h2 : a ≤ 1000000000000000000000) : a.natAbs < 2 ^ 199 := Nat.lt_of_lt_of_le (show a.natAbs < 1180591620717411303424 by omega) (Nat.le_trans (show 1180591620717411303424 ≤ 2 ^ 70 by decide) (Nat.pow_le_pow_right (by decide) (by decide)))
theorem big199' {a : Int} (h1 : -1000000000000000000000 ≤ a) (h2 : a ≤ 1000000000000000000000) : a.natAbs < 2 ^ 1000 := Nat.lt_of_lt_of_le (big199 h1 h2) (Nat.pow_le_pow_right (by decide) (by decide))
theorem mul15 {a b : Int} (h1 : -1000000000000000 ≤ a) (h2 : a ≤ 1000000000000000) (h3 : -1000000000000000 ≤ b) (h4 : b ≤ 1000000000000000) : CMulW a b := mulW (big15 h1 h2) (big15 h3 h4)
theorem tupOf_go {p : Addr} {ws : List V} {G P : Hp} (J : Join G P H) (h : G p = some (.lst ws)) (q : ∀ t G' H', H t = none → Ex G G' → Join G' P H' → G' t = some (.tup ws) → Q (.ref t) H') : rTupOf K [.ref p] H Q :=
  ⟨p, ws, rfl, .inl ⟨sqL (J.g _ _ h), fun l hl => q l _ _ hl (Ex.new (J.ng hl)) (J.newG hl) upd_same⟩⟩
theorem isi_mach {G P : Hp} {m : Addr} {n : Int} {es : List Ev} (J : Join G P H) (h : MachK K G m n es) (q : Q (.bl true) H) : rIsi K [.ref m, .ref (He.ga K "Machine")] H Q := by
  obtain ⟨C, hC, dx, t, ko, ks, h1, _⟩ := h
  exact ⟨_, _, _, _, true, rfl, .own _, hC.ty (J.g _ _ h1), hC.o.kit, q⟩
theorem isi_lst {a : Addr} {xs : List V} {G P : Hp} (J : Join G P H) (h : G a = some (.lst xs)) (q : Q (.bl true) H) : rIsi K [.ref a, .ty "list"] H Q := ⟨_, _, _, _, true, rfl, .ty _, .base (.lst (J.g _ _ h)), kit_ty (by decide +kernel), q⟩
theorem isi_tup {a : Addr} {xs : List V} {G P : Hp} (J : Join G P H) (h : G a = some (.tup xs)) (q : Q (.bl true) H) : rIsi K [.ref a, .ty "tuple"] H Q := ⟨_, _, _, _, true, rfl, .ty _, .base (.tup (J.g _ _ h)), kit_ty (by decide +kernel), q⟩
section
variable {a b : Addr} {G P : Hp} {vs ws : List V} {ls ms : List (List Int)} {l m : List Int}
theorem neD_U (J : Join G P H) (ha : G a = some (.tup vs)) (hv : TupL iV G vs ls) (hb : G b = some (.tup ws)) (hw : TupL iV G ws ms) (q : Q (.bl (!decide (ls = ms))) H) : rNeD K (.ref a) (.ref b) H Q :=
  ⟨_, _, dp_tt (J.g _ _ ha) (hv.monoJ J), dp_tt (J.g _ _ hb) (hw.monoJ J), shaped_dU _, shaped_dU _, by rw [eqv_dU]; exact q⟩
theorem neD_L (J : Join G P H) (ha : G a = some (.lst vs)) (hv : TupL iV G vs ls) (hb : G b = some (.lst ws)) (hw : TupL iV G ws ms) (q : Q (.bl (!decide (ls = ms))) H) : rNeD K (.ref a) (.ref b) H Q :=
  ⟨_, _, dp_lst (J.g _ _ ha) (hv.monoJ J), dp_lst (J.g _ _ hb) (hw.monoJ J), shaped_dL _, shaped_dL _, by rw [eqv_dL]; exact q⟩
theorem neD_T (J : Join G P H) (ha : G a = some (.tup (iV l))) (hb : G b = some (.tup (iV m))) (q : Q (.bl (!decide (l = m))) H) : rNeD K (.ref a) (.ref b) H Q :=
  ⟨_, _, dp_tup (J.g _ _ ha), dp_tup (J.g _ _ hb), shaped_dT _, shaped_dT _, by rw [eqv_dT]; exact q⟩
theorem eqD_U (J : Join G P H) (ha : G a = some (.tup vs)) (hv : TupL iV G vs ls) (hb : G b = some (.tup ws)) (hw : TupL iV G ws ms) (q : Q (.bl (decide (ls = ms))) H) : rEqD K (.ref a) (.ref b) H Q :=
  ⟨_, _, dp_tt (J.g _ _ ha) (hv.monoJ J), dp_tt (J.g _ _ hb) (hw.monoJ J), shaped_dU _, shaped_dU _, by rw [eqv_dU]; exact q⟩
theorem eqD_L (J : Join G P H) (ha : G a = some (.lst vs)) (hv : TupL iV G vs ls) (hb : G b = some (.lst ws)) (hw : TupL iV G ws ms) (q : Q (.bl (decide (ls = ms))) H) : rEqD K (.ref a) (.ref b) H Q :=
  ⟨_, _, dp_lst (J.g _ _ ha) (hv.monoJ J), dp_lst (J.g _ _ hb) (hw.monoJ J), shaped_dL _, shaped_dL _, by rw [eqv_dL]; exact q⟩
theorem eqD_T (J : Join G P H) (ha : G a = some (.tup (iV l))) (hb : G b = some (.tup (iV m))) (q : Q (.bl (decide (l = m))) H) : rEqD K (.ref a) (.ref b) H Q :=
  ⟨_, _, dp_tup (J.g _ _ ha), dp_tup (J.g _ _ hb), shaped_dT _, shaped_dT _, by rw [eqv_dT]; exact q⟩
theorem neD_P {n n' : Int} {es es' : List Ev} (J : Join G P H) (ha : PartsAt G a n es) (hb : PartsAt G b n' es') (q : Q (.bl (!decide (n = n' ∧ es = es'))) H) : rNeD K (.ref a) (.ref b) H Q := by
  refine ⟨_, _, dp_parts (ha.mono J.exG), dp_parts (hb.mono J.exG), shaped_dP _ _, shaped_dP _ _, ?_⟩
  rw [eqv_dP]
  have e : decide (n = n' ∧ es.map evI = es'.map evI) = decide (n = n' ∧ es = es') := decide_eq_decide.mpr ⟨fun h => ⟨h.1, evI_inj h.2⟩, fun h => ⟨h.1, by rw [h.2]⟩⟩
  rw [e]; exact q
end
/-! builtins' calls by a name -/
def rLstOf (K : PySem.W.Frag) : List V → Hp → VK → Prop := fun xs H Q => ∃ p ys, xs = [.ref p] ∧ (SqL K H p ys ∨ SqT K H p ys) ∧ ∀ l, H l = none → Q (.ref l) (upd H l (.lst ys))
def rAbs : List V → Hp → VK → Prop := fun xs H Q => ∃ i, xs = [.int i] ∧ Q (.int (if i < 0 then -i else i)) H
def rInt1 : List V → Hp → VK → Prop := fun xs H Q => (∃ i, xs = [.int i] ∧ Q (.int i) H) ∨ ∃ k, xs = [.bl k] ∧ Q (.int (if k then 1 else 0)) H
def rLenV (K : PySem.W.Frag) : List V → Hp → VK → Prop := fun xs H Q => ∃ x n, xs = [x] ∧ LenV K x H n ∧ Q (.int n) H
theorem w_tof (h : as σ H fun vs H1 => rTupOf K vs H1 Q) : tCB (fun xs H Q => ∃ p ys, xs = [.ref p] ∧ ((SqL K H p ys ∧ ∀ l, H l = none → Q (.ref l) (upd H l (.tup ys))) ∨ (SqT K H p ys ∧ Q (.ref p) H))) as σ H Q := h
theorem w_lof (h : as σ H fun vs H1 => rLstOf K vs H1 Q) : tCB (fun xs H Q => ∃ p ys, xs = [.ref p] ∧ (SqL K H p ys ∨ SqT K H p ys) ∧ ∀ l, H l = none → Q (.ref l) (upd H l (.lst ys))) as σ H Q := h
theorem w_abs (h : as σ H fun vs H1 => rAbs vs H1 Q) : tCB (fun xs H Q => ∃ i, xs = [.int i] ∧ Q (.int (if i < 0 then -i else i)) H) as σ H Q := h
theorem w_int1 (h : as σ H fun vs H1 => rInt1 vs H1 Q) : tCB (fun xs H Q => (∃ i, xs = [.int i] ∧ Q (.int i) H) ∨ ∃ k, xs = [.bl k] ∧ Q (.int (if k then 1 else 0)) H) as σ H Q := h
theorem w_lenv (h : as σ H fun vs H1 => rLenV K vs H1 Q) : tCB (fun xs H Q => ∃ x n, xs = [x] ∧ LenV K x H n ∧ Q (.int n) H) as σ H Q := h
def rLenW (K : PySem.W.Frag) : List V → Hp → VK → Prop := fun xs H Q => ∃ p ys, xs = [.ref p] ∧ (SqL K H p ys ∨ SqT K H p ys) ∧ Q (.int ys.length) H
theorem w_lens (h : as σ H fun vs H1 => rLenW K vs H1 Q) : tCB (fun xs H Q => ∃ p ys, xs = [.ref p] ∧ (SqL K H p ys ∨ SqT K H p ys) ∧ Q (.int ys.length) H) as σ H Q := h
theorem w_slenT {a : Addr} {xs : List V} (e : H a = some (.tup xs)) (h : Q (.int xs.length) H) : rLenW K [.ref a] H Q := ⟨_, _, rfl, .inr (sqT e), h⟩
theorem w_slenL {a : Addr} {xs : List V} (e : H a = some (.lst xs)) (h : Q (.int xs.length) H) : rLenW K [.ref a] H Q := ⟨_, _, rfl, .inl (sqL e), h⟩
theorem w_klenT {a : Addr} {xs : List V} (e : H a = some (.tup xs)) (h : Q (.int xs.length) H) : Lv.rLenS K [.ref a] H Q := ⟨_, _, rfl, .inr (sqT e), h⟩
theorem w_klenL {a : Addr} {xs : List V} (e : H a = some (.lst xs)) (h : Q (.int xs.length) H) : Lv.rLenS K [.ref a] H Q := ⟨_, _, rfl, .inl (sqL e), h⟩
theorem w_rabs {a : Int} (h : Q (.int (a.natAbs : Nat)) H) : rAbs [.int a] H Q := ⟨a, rfl, by rw [abs_if]; exact h⟩
theorem w_rint {a : Int} (h : Q (.int a) H) : rInt1 [.int a] H Q := .inl ⟨a, rfl, h⟩
theorem w_rintb {b : Bool} (h : Q (.int (if b then 1 else 0)) H) : rInt1 [.bl b] H Q := .inr ⟨b, rfl, h⟩
theorem w_rlenT {a : Addr} {xs : List V} (e : H a = some (.tup xs)) (h : Q (.int xs.length) H) : rLenV K [.ref a] H Q := ⟨_, _, rfl, .inr ⟨xs, sqT e, rfl⟩, h⟩
theorem w_rlenL {a : Addr} {xs : List V} (e : H a = some (.lst xs)) (h : Q (.int xs.length) H) : rLenV K [.ref a] H Q := ⟨_, _, rfl, .inl ⟨xs, sqL e, rfl⟩, h⟩
theorem lstOf_go {p : Addr} {ws : List V} {G P : Hp} (J : Join G P H) (h : G p = some (.lst ws) ∨ G p = some (.tup ws)) (q : ∀ t G' H', H t = none → Ex G G' → Join G' P H' → G' t = some (.lst ws) → Q (.ref t) H') : rLstOf K [.ref p] H Q :=
  ⟨p, ws, rfl, h.imp (fun h => sqL (J.g _ _ h)) (fun h => sqT (J.g _ _ h)), fun l hl => q l _ _ hl (Ex.new (J.ng hl)) (J.newG hl) upd_same⟩
/-- a list's method -/
def aBM (K : PySem.W.Frag) (T : String) (r : V → List V → Hp → VK → Prop) (as : TA) (σ : L2.St) : V → Hp → VK → Prop := fun x H Q => tyV K T x H ∧ as σ H fun xs H2 => r x xs H2 Q
theorem w_bm {T : String} {r : V → List V → Hp → VK → Prop} (h : ta σ H fun x H1 => aBM K T r as σ x H1 Q) : tBM K T r ta as σ H Q := h
theorem w_bm0 {T : String} {r : V → List V → Hp → VK → Prop} (h : ta σ H fun x H1 => aBM K T r tNil σ x H1 Q) : tBM0 K T r ta σ H Q := h
theorem w_bml {r : V → List V → Hp → VK → Prop} {a : Addr} {xs : List V} (e : H a = some (.lst xs)) (h : as σ H fun vs H2 => r (.ref a) vs H2 Q) : aBM K "list" r as σ (.ref a) H Q := ⟨.inl ⟨rfl, xs, sqL e⟩, h⟩
/-! loops over ranges, lists, tuples -/
def aForR (g : TG) (tb : TS) (D : Ends) (σ : L2.St) : List V → Hp → Prop := fun vs H => tFor (fun _ H R => ∃ j : Int, vs = [.int j] ∧ -(2 ^ 62) ≤ j ∧ j < 2 ^ 62 ∧ R (Itr 0 j.toNat) H) g tb D σ H
def aForL (K : PySem.W.Frag) (g : TG) (tb : TS) (D : Ends) (σ : L2.St) : V → Hp → Prop := fun x H => tFor (fun _ H R => ∃ a, x = .ref a ∧ (∃ xs, SqL K H a xs) ∧ R (Itl K a) H) g tb D σ H
def aForT (K : PySem.W.Frag) (g : TG) (tb : TS) (D : Ends) (σ : L2.St) : V → Hp → Prop := fun x H => tFor (fun _ H R => ∃ a, x = .ref a ∧ (∃ xs, SqT K H a xs) ∧ R (Itt K a) H) g tb D σ H
theorem w_forR {tb : TS} (h : as σ H fun vs H1 => aForR g tb D σ vs H1) : tFor (iRng1 as) g tb D σ H := h
theorem w_forL {tb : TS} (h : ta σ H fun x H1 => aForL K g tb D σ x H1) : tFor (iList K ta) g tb D σ H := h
theorem w_forT {tb : TS} (h : ta σ H fun x H1 => aForT K g tb D σ x H1) : tFor (iTup K ta) g tb D σ H := h
theorem aForR.go {tb : TS} {G P : Hp} {m : Int} {n : Nat} (hn : m = n) (hm : n ≤ 1000000) (I : Nat → Hp → Hp → L2.St → Prop) (J : Join G P H) (h0 : I 0 G P σ)
    (hs : ∀ (i : Nat) (G' P' H' : Hp) (σ' : L2.St), i < n → Join G' P' H' → I i G' P' σ' → g (.int (i : Int)) σ' H' fun σ2 H2 => tb ⟨fun σ3 H3 => ∃ G3 P3, Join G3 P3 H3 ∧ I (i + 1) G3 P3 σ3, rt, nx, fun σ3 H3 => ∃ G3 P3, Join G3 P3 H3 ∧ I (i + 1) G3 P3 σ3⟩ σ2 H2)
    (hq : ∀ (G' P' H' : Hp) (σ' : L2.St), Join G' P' H' → I n G' P' σ' → nx σ' H') : aForR g tb ⟨nx, rt, bk, ct⟩ σ [.int m] H := by
  subst hn
  refine ⟨(n : Int), rfl, by omega, by omega, for_range (lo := 0) (n := (n : Int).toNat) (fun i σ' H' => ∃ G3 P3, Join G3 P3 H' ∧ I i G3 P3 σ') ⟨G, P, J, h0⟩ ?_ ?_⟩
  · rintro i σ' H' hi ⟨G', P', J', hI⟩
    rw [Int.zero_add]
    rw [Int.toNat_natCast] at hi
    exact hs i G' P' H' σ' hi J' hI
  · rintro σ' H' ⟨G', P', J', hI⟩
    rw [Int.toNat_natCast] at hI
    exact hq G' P' H' σ' J' hI
theorem aForL.go {tb : TS} {G P : Hp} {a : Addr} {xs : List V} (I : Nat → Hp → Hp → L2.St → Prop) (J : Join G P H) (hS : G a = some (.lst xs)) (h0 : I 0 G P σ) (hk : ∀ i G' P' σ', I i G' P' σ' → G' a = some (.lst xs))
    (hs : ∀ (i : Nat) (x : V) (G' P' H' : Hp) (σ' : L2.St), xs[i]? = some x → Join G' P' H' → I i G' P' σ' → g x σ' H' fun σ2 H2 => tb ⟨fun σ3 H3 => ∃ G3 P3, Join G3 P3 H3 ∧ I (i + 1) G3 P3 σ3, rt, nx, fun σ3 H3 => ∃ G3 P3, Join G3 P3 H3 ∧ I (i + 1) G3 P3 σ3⟩ σ2 H2)
    (hq : ∀ (G' P' H' : Hp) (σ' : L2.St), Join G' P' H' → I xs.length G' P' σ' → nx σ' H') : aForL K g tb ⟨nx, rt, bk, ct⟩ σ (.ref a) H := by
  refine ⟨a, rfl, ⟨_, sqL (J.g _ _ hS)⟩, for_list (xs := xs) (fun i σ' H' => ∃ G3 P3, Join G3 P3 H' ∧ I i G3 P3 σ') ⟨G, P, J, h0⟩ ?_ ?_ ?_⟩
  · rintro i σ' H' _ ⟨G', P', J', hI⟩
    exact sqL (J'.g _ _ (hk _ _ _ _ hI))
  · rintro i x σ' H' hi ⟨G', P', J', hI⟩
    exact hs i x G' P' H' σ' hi J' hI
  · rintro σ' H' ⟨G', P', J', hI⟩
    exact hq G' P' H' σ' J' hI
theorem aForT.go {tb : TS} {G P : Hp} {a : Addr} {xs : List V} (I : Nat → Hp → Hp → L2.St → Prop) (J : Join G P H) (hS : G a = some (.tup xs)) (h0 : I 0 G P σ) (hk : ∀ i G' P' σ', I i G' P' σ' → G' a = some (.tup xs))
    (hs : ∀ (i : Nat) (x : V) (G' P' H' : Hp) (σ' : L2.St), xs[i]? = some x → Join G' P' H' → I i G' P' σ' → g x σ' H' fun σ2 H2 => tb ⟨fun σ3 H3 => ∃ G3 P3, Join G3 P3 H3 ∧ I (i + 1) G3 P3 σ3, rt, nx, fun σ3 H3 => ∃ G3 P3, Join G3 P3 H3 ∧ I (i + 1) G3 P3 σ3⟩ σ2 H2)
    (hq : ∀ (G' P' H' : Hp) (σ' : L2.St), Join G' P' H' → I xs.length G' P' σ' → nx σ' H') : aForT K g tb ⟨nx, rt, bk, ct⟩ σ (.ref a) H := by
  refine ⟨a, rfl, ⟨_, sqT (J.g _ _ hS)⟩, for_tup (xs := xs) (fun i σ' H' => ∃ G3 P3, Join G3 P3 H' ∧ I i G3 P3 σ') ⟨G, P, J, h0⟩ ?_ ?_ ?_⟩
  · rintro i σ' H' _ ⟨G', P', J', hI⟩
    exact sqT (J'.g _ _ (hk _ _ _ _ hI))
  · rintro i x σ' H' hi ⟨G', P', J', hI⟩
    exact hs i x G' P' H' σ' hi J' hI
  · rintro σ' H' ⟨G', P', J', hI⟩
    exact hq G' P' H' σ' J' hI
/-- a list's end grows: the heap's first part, apart from that list -/
theorem append.go {l : Addr} {xs : List V} {G P : Hp} (J : Join G P H) (e : G l = some (.lst xs)) (z : xs.length < 100000) (q : ∀ G' H', But l G G' → Join G' P H' → G' l = some (.lst (xs ++ [y])) → Q .non H') : rAppend (.ref l) [y] H Q :=
  w_append (J.g _ _ e) z (q _ _ (fun b o h n => by rw [upd_ne n]; exact h) (J.setG (J.gp e)) upd_same)
theorem But.trans {x : Addr} {G G1 G2 : Hp} (b1 : But x G G1) (b2 : But x G1 G2) : But x G G2 := fun a o h n => b2 a o (b1 a o h n) n
theorem But.ofEx {x : Addr} {G G1 : Hp} (e : Ex G G1) : But x G G1 := fun a o h _ => e a o h
theorem Ex.but {x : Addr} {G G1 G2 : Hp} (e : Ex G G1) (b : But x G1 G2) (n : G x = none) : Ex G G2 := b.ex e n
theorem w_sl {r : V → Option Int → Option Int → Hp → VK → Prop} {tl th : TO} (h : te σ H fun x H1 => tl σ H1 fun l H2 => th σ H2 fun u H3 => r x l u H3 Q) : tSl r te tl th σ H Q := h
theorem w_npart {S : Option Int → Hp → Prop} (h : S none H) : tNoPart σ H S := h
theorem w_part {S : Option Int → Hp → Prop} (h : te σ H fun x H1 => ∃ i, x = .int i ∧ S (some i) H1) : tPart te σ H S := h
theorem w_pint {k : Int} {S : Int → Prop} (h : S k) : ∃ i, V.int k = V.int i ∧ S i := ⟨k, rfl, h⟩
theorem slL_drop {r : Addr} {xs : List V} {m : Nat} {G P : Hp} (j : Join G P H) (hr : G r = some (.lst xs)) (q : ∀ t G' H', Ex G G' → Join G' P H' → H t = none → G' t = some (.lst (xs.drop m)) → Q (.ref t) H') : rSlL K (.ref r) (some (m : Int)) none H Q := by
  refine ⟨r, xs, rfl, sqL (j.g _ _ hr), fun p hp => q p _ _ (Ex.new (j.ng hp)) (j.newG hp) hp ?_⟩
  rw [upd_same]
  congr 2
  unfold cutV
  rw [HT.sIx_nat, HT.sIx_none]
  by_cases hm : m ≤ xs.length
  · rw [Nat.min_eq_left hm, List.take_of_length_le (by rw [List.length_drop]; omega)]
  · rw [Nat.min_eq_right (by omega), List.drop_length, List.drop_of_length_le (by omega)]; simp
theorem slA_drop {r : Addr} {xs : List V} {m : Nat} {G P : Hp} (j : Join G P H) (hr : G r = some (.tup xs)) (q : ∀ t G' H', Ex G G' → Join G' P H' → G' t = some (.tup (xs.drop m)) → Q (.ref t) H') : rSlA K (.ref r) (some (m : Int)) none H Q := by
  refine ⟨r, xs, rfl, sqT (j.g _ _ hr), fun h => ?_, fun _ p hp => q p _ _ (Ex.new (j.ng hp)) (j.newG hp) ?_⟩
  · have h1 := h.1
    rw [HT.sIx_nat] at h1
    refine q r G H (Ex.refl _) j ?_
    by_cases hm : m = 0
    · subst hm; exact hr
    · have : xs = [] := List.eq_nil_of_length_eq_zero (by omega)
      subst this; simpa using hr
  · rw [upd_same]
    congr 2
    unfold cutV
    rw [HT.sIx_nat, HT.sIx_none]
    by_cases hm : m ≤ xs.length
    · rw [Nat.min_eq_left hm, List.take_of_length_le (by rw [List.length_drop]; omega)]
    · rw [Nat.min_eq_right (by omega), List.drop_length, List.drop_of_length_le (by omega)]; simp
/-- lists of ints as data -/
def dI (l : List Int) : PyData := .list (l.map PyData.int)
theorem shaped_dI (l : List Int) : SeqAt.shaped (dI l) = true := by
  have h1 := lay_ints l
  have h2 := dep_ints l
  unfold SeqAt.shaped dI
  rw [PyData.canLay0, h1, PyData.depth]
  simp
  omega
theorem eqv_dI (l m : List Int) : PyData.eqv (dI l) (dI m) = decide (l = m) := by
  unfold dI; rw [PyData.eqv]; exact eqv_ints l m
theorem neD_I {a b : Addr} {l m : List Int} {G P : Hp} (J : Join G P H) (ha : G a = some (.lst (l.map V.int))) (hb : G b = some (.lst (m.map V.int))) (q : Q (.bl (!decide (l = m))) H) : rNeD K (.ref a) (.ref b) H Q :=
  ⟨_, _, .lst (sqL (J.g _ _ ha)) (dp_ints l), .lst (sqL (J.g _ _ hb)) (dp_ints m), shaped_dI _, shaped_dI _, by rw [show PyData.eqv (.list (l.map PyData.int)) (.list (m.map PyData.int)) = decide (l = m) from eqv_dI l m]; exact q⟩
theorem eqD_I {a b : Addr} {l m : List Int} {G P : Hp} (J : Join G P H) (ha : G a = some (.lst (l.map V.int))) (hb : G b = some (.lst (m.map V.int))) (q : Q (.bl (decide (l = m))) H) : rEqD K (.ref a) (.ref b) H Q :=
  ⟨_, _, .lst (sqL (J.g _ _ ha)) (dp_ints l), .lst (sqL (J.g _ _ hb)) (dp_ints m), shaped_dI _, shaped_dI _, by rw [show PyData.eqv (.list (l.map PyData.int)) (.list (m.map PyData.int)) = decide (l = m) from eqv_dI l m]; exact q⟩
end
end Lv

/-! range(i, j) of numbers of any size -/
namespace Lv
open PySem PySem.Spec PyProof.Rows L2
theorem turn_long {P : Program} {w : World} {K : PySem.W.Frag} {tg : Expr} (it : Addr) (lo : Int) (n : Nat) : Turn P w K tg (Itr lo n) [it] it (fun i h => IsLongIter h it (lo + (i : Nat) * 1) ((n : Int) - (i : Nat)) 1) where
  mem := by simp
  obj := fun i h st b hb => by
    have e : b = it := by simpa using hb
    subst e
    exact ⟨_, st, fun v z => by
      have z' : Data.fields _ = Data.cell v := z
      cases z'⟩
  keep := fun i h h' st k => k it (by simp) _ st
  item := by
    intro X hP hw hK hc i pins s σ H E I hf st hg
    subst hP hw hK
    obtain ⟨f0, f1, f2, f3, f4, f5⟩ := hf it (by simp)
    have W := Walks.longrange (prog := X.prog) (w := X.w) (I.ok.hd hc) it lo 1 n
    refine W.item i s _ _ hg st fun v h' tk hv st' kk => ?_
    obtain ⟨t, rfl⟩ := hv
    have I1 : Inv X pins σ H { s with heap := h', toks := tk } := I.turned (fun b o hb e => kk b o (by simpa using hb) e) f0 f1 f3 f4 f5
    refine ⟨_, rfl, go_of (s := { s with heap := h', toks := tk }) (n := "longrange_iterator") st' rfl rfl (by decide) ⟨.int (lo + i), H, I1, ⟨t, ?_⟩, ⟨rfl, rfl⟩, st', fun b hb => (hf b hb).1⟩⟩
    rw [Int.mul_one]
  done := by
    intro X hP hw hK hc i pins s σ H E I hf st hg
    subst hP hw hK
    obtain ⟨f0, f1, f2, f3, f4, f5⟩ := hf it (by simp)
    exact wpAny_pyNext_long_end (I.ok.hd hc) st (by have : n ≤ i := hg; omega) fun h' eb => ⟨rfl, I.turned (t' := s.toks) (fun b o hb e => eb b o hb e) f0 f1 f3 f4 f5⟩
  self := fun _ _ _ _ _ st h => wpAny_pyIter_longiter st h
section
variable {X : Cx} {tg : Expr}
theorem range_itW {pins : List (Addr × Obj)} {σ : L2.St} {H : Hp} {s : Shared} {R : It → Hp → Prop} {E : Value → Shared → Prop} {lo hi : Int} {t u v : Tok} {tk : Nat} (I : Inv X pins σ H s)
    (q : R (Itr lo (hi - lo).toNat) H) : wpAny (model X.prog X.w) X.A (pyIter (.ref s.heap.objs.size)) (PIE X pins σ tg R) E { s with heap := s.heap.push { cls := .type "range", data := .fields #[.int lo t, .int hi u, .int 1 v] }, toks := tk } := by
  have I1 : Inv X pins σ H { s with heap := s.heap.push { cls := .type "range", data := .fields #[.int lo t, .int hi u, .int 1 v] }, toks := tk } := I.kept fun b o e => Heap.get?_push_of_some _ e
  have e1 : lo + ((0 : Nat) : Int) * 1 = lo := by simp
  have e2 : (((hi - lo).toNat : Nat) : Int) - ((0 : Nat) : Int) = Builtin.Range.rangeSize lo hi 1 := by rw [rangeSize_one]; split <;> omega
  cases hsm : Builtin.Range.small lo hi 1 with
  | true =>
    refine wpAny_pyIter_range (IsRange.new ..) hsm ?_
    refine ⟨(s.heap.push { cls := .type "range", data := .fields #[.int lo t, .int hi u, .int 1 v] }).objs.size, [(s.heap.push { cls := .type "range", data := .fields #[.int lo t, .int hi u, .int 1 v] }).objs.size], _, _, H, rfl,
      I1.kept (t' := tk) fun b o e => Heap.get?_push_of_some _ e, turn_range _ lo (hi - lo).toNat, ?_, fun b hb => ?_, q⟩
    · show IsRangeIter _ _ (lo + ((0 : Nat) : Int) * 1) ((((hi - lo).toNat : Nat) : Int) - ((0 : Nat) : Int)) 1
      rw [e1, e2]
      exact Heap.get?_push_size _ rfl
    · have e : b = (s.heap.push { cls := .type "range", data := .fields #[.int lo t, .int hi u, .int 1 v] }).objs.size := by simpa using hb
      subst e
      exact I1.fpOk (Nat.le_refl _) (I1.hok.fresh (Nat.le_refl _))
  | false =>
    refine wpAny_pyIter_longrange (IsRange.new ..) hsm ?_
    refine ⟨(s.heap.push { cls := .type "range", data := .fields #[.int lo t, .int hi u, .int 1 v] }).objs.size, [(s.heap.push { cls := .type "range", data := .fields #[.int lo t, .int hi u, .int 1 v] }).objs.size], _, _, H, rfl,
      I1.kept (t' := tk) fun b o e => Heap.get?_push_of_some _ e, turn_long _ lo (hi - lo).toNat, ?_, fun b hb => ?_, q⟩
    · show IsLongIter _ _ (lo + ((0 : Nat) : Int) * 1) ((((hi - lo).toNat : Nat) : Int) - ((0 : Nat) : Int)) 1
      rw [e1, e2]
      exact Heap.get?_push_size _ rfl
    · have e : b = (s.heap.push { cls := .type "range", data := .fields #[.int lo t, .int hi u, .int 1 v] }).objs.size := by simpa using hb
      subst e
      exact I1.fpOk (Nat.le_refl _) (I1.hok.fresh (Nat.le_refl _))
def iRngW (ta : TA) : TI := fun σ H R => ta σ H fun vs H1 => ∃ i j : Int, vs = [.int i, .int j] ∧ R (Itr i (j - i).toNat) H1
theorem pi_rangeW {a b : Expr} {ta : TA} {p pos : Pos} (hg : Gl X "range") (hm : X.mg "range" = none) (ha : PA X [a, b] ta) (hs : starEach [a, b] X.env = [(false, eval a X.env), (false, eval b X.env)] := by rfl) (hs2 : starEach [b] X.env = [(false, eval b X.env)] := by rfl) :
    PI X tg (.Call (.Name "range" p) [a, b] [] pos) (iRngW ta) := by
  refine ⟨fun pins s σ H R I h => ?_⟩
  refine Call_ (ld_blt I hg hm boot_range (PyProof.Rows.callWith_type1 (thn (ha.run pos pins s σ H _ I h) fun us s1 ⟨vs, H1, I1, r1, q1⟩ => ?_) (by rw [hs, hs2]) (by rw [hs2]; rfl)))
  obtain ⟨i, j, e, q⟩ := q1
  subst e
  cases r1 with
  | cons r rr =>
    cases rr with
    | cons r' rr =>
      cases rr
      obtain ⟨t, rfl⟩ := r
      obtain ⟨t', rfl⟩ := r'
      exact call_range_2 (range_itW I1 q)
end
end Lv

/-! is True, comprehensions over enumerate and range(i, j), in for ints -/
namespace Lv
open PySem PySem.Spec PyProof.Rows L2
def rIsB (neg : Bool) : R2 := fun x y H Q => ∃ a b, x = .bl a ∧ y = .bl b ∧ Q (.bl (if neg then !decide (a = b) else decide (a = b))) H
theorem bl_beq (a b : Bool) : (Value.bool a == Value.bool b) = decide (a = b) := by cases a <;> cases b <;> rfl
section
variable {X : Cx} {K : PySem.W.Frag} {o e : Expr} {es : List Expr} {to : TE} {t : TA} {name : Str} {apos cpos : Pos} {T id : String} {r : V → List V → Hp → VK → Prop}
theorem mt_indexK (h : X.K = K) : MtR X "list.index" (rIndex K) := h ▸ mt_index
theorem pe_bmK (h : X.K = K) (pa : PlainAttrs T) (slot : Slot T name id) (hty : typeOf (.builtin id) = pure (.type "method_descriptor")) (hm : MtR X id r) (ho : PE X o to) (ha : PA X (e :: es) t)
    (hbase : attributeBase o name X.env (eval o X.env) = eval o X.env := by rfl)
    (hfew : ((backTo cpos (starEach (e :: es) X.env)).all (fun x => !x.1) && (backToKw cpos (keywordEach [] X.env)).all (fun x => x.1.isSome)
      && decide ((e :: es).length + ([] : List Keyword).length + (if ([] : List Keyword).isEmpty then 0 else 1) < 30)) = true := by rfl)
    (hline : (apos.endLine == cpos.line) = true := by rfl) (hs : starEach (e :: es) X.env = (false, eval e X.env) :: starEach es X.env := by rfl) (hplain : (backTo cpos (starEach es X.env)).any (·.1) = false := by rfl) :
    PE X (.Call (.Attribute o name apos) (e :: es) [] cpos) (tBM K T r to t) := h ▸ pe_bm pa slot hty hm ho ha hbase hfew hline hs hplain
end
section
variable {X : Cx}
theorem op_isB : OpR X (compareOp .Is) (rIsB false) := by
  intro pins s σ H x y v u Q I rx ry h
  obtain ⟨a, b, rfl, rfl, q⟩ := h
  cases (show v = Value.bool a from rx)
  cases (show u = Value.bool b from ry)
  exact wpAny_is_plain rfl (fin_bl I q (bl_beq a b).symm)
theorem op_isNotB : OpR X (compareOp .IsNot) (rIsB true) := by
  intro pins s σ H x y v u Q I rx ry h
  obtain ⟨a, b, rfl, rfl, q⟩ := h
  cases (show v = Value.bool a from rx)
  cases (show u = Value.bool b from ry)
  exact wpAny_isNot_plain rfl (fin_bl I q (congrArg not (bl_beq a b).symm))
end
section
variable {K : PySem.W.Frag} {σ : L2.St} {H : Hp} {Q : VK} {nx bk ct : L2.St → Hp → Prop} {rt : VK} {D : Ends} {v x y : V} {te ta tb : TE} {tt uu : TT} {t u : TS} {as : TA} {g : TG} {i j : Nat}
theorem w_isB {a b : Bool} (h : Q (.bl (decide (a = b))) H) : rIsB false (.bl a) (.bl b) H Q := ⟨a, b, rfl, rfl, h⟩
theorem w_isNB {a b : Bool} (h : Q (.bl (!decide (a = b))) H) : rIsB true (.bl a) (.bl b) H Q := ⟨a, b, rfl, rfl, h⟩
theorem lc_enumT {a : Addr} {xs : List V} {vs : List Nat} {H1 : Hp} {D : Addr} {Qd : Hp → Prop} (Pv : Nat → Hp → Prop) (h0 : Pv 0 (upd H1 D (.lst []))) (hl : ∀ i H, i ≤ xs.length → Pv i H → SqT K H a xs)
    (hs : ∀ (i : Nat) x H T, xs[i]? = some x → Pv i H → H T = none → g (.ref T) (wipe σ vs) (upd H T (.tup [.int i, x])) fun σ2 H2 => wipe σ2 vs = wipe σ vs ∧ tt σ2 H2 fun b H3 =>
      if b = true then te σ2 H3 fun y H4 => ∃ acc, H4 D = some (.lst acc) ∧ acc.length < sizeLine ∧ Pv (i + 1) (upd H4 D (.lst (acc ++ [y]))) else Pv (i + 1) H3) (hd : ∀ H, Pv xs.length H → Qd H) :
    ∃ W : Nat → Nat → Hp → Prop, (∃ m, W 0 m (upd H1 D (.lst []))) ∧ ∀ i m H, W i m H →
      ((Itet K a).stop i H ∧ Qd H) ∨ ((Itet K a).go i H ∧ ∃ Nx : Hp → Prop, (∀ H', Nx H' → ∃ m', m' < m ∧ W (i + 1) m' H') ∧ ∀ x H', (Itet K a).yld i H x H' → g x (wipe σ vs) H' fun σ2 H2 => wipe σ2 vs = wipe σ vs ∧ tt σ2 H2 fun b H3 =>
        if b = true then te σ2 H3 fun y H4 => ∃ acc, H4 D = some (.lst acc) ∧ acc.length < sizeLine ∧ Nx (upd H4 D (.lst (acc ++ [y]))) else Nx H3) := by
  refine ⟨fun i m H => m = xs.length - i ∧ i ≤ xs.length ∧ Pv i H, ⟨xs.length, by simp, Nat.zero_le _, h0⟩, ?_⟩
  rintro i m H ⟨rfl, hi, p⟩
  have q := hl i H hi p
  by_cases hlt : i < xs.length
  · refine .inr ⟨⟨xs, xs[i], q, by simp [hlt]⟩, Pv (i + 1), fun H' p' => ⟨xs.length - (i + 1), by omega, rfl, hlt, p'⟩, fun x H' y => ?_⟩
    obtain ⟨T, z, e1, e2, e3, y⟩ := y
    subst e1 e3
    exact hs i z H T (y xs q) p e2
  · have e : i = xs.length := by omega
    subst e
    exact .inl ⟨⟨xs, q, rfl⟩, hd H p⟩
/-- [.. for .. in enumerate(t)] -/
def aLcE (K : PySem.W.Frag) (g : TG) (tt : TT) (te : TE) (vs : List Nat) (σ : L2.St) : List V → Hp → VK → Prop := fun us H Q => tLc (fun _ H R => ∃ a xs, us = [.ref a] ∧ SqT K H a xs ∧ R (Itet K a) H) g tt te vs σ H Q
theorem w_lcE {ts : List Nat} (h : as σ H fun xs H1 => aLcE K g tt te ts σ xs H1 Q) : tLc (iEnumT K as) g tt te ts σ H Q := h
theorem aLcE.go {a : Addr} {xs : List V} {ts : List Nat} {G P : Hp} (Pp : Hp → Prop) (I : Nat → List V → Hp → Prop) (J : Join G P H) (hP : Pp P)
    (hS : G a = some (.tup xs)) (h0 : ∀ G', Ex G G' → I 0 [] G') (hI : ∀ i ws G2 D us ts, G2 D = some (.lst us) → I i ws G2 → I i ws (upd G2 D (.lst ts))) (hz : ∀ i ws G2, I i ws G2 → ws.length ≤ 1000000)
    (hm : ∀ i ws G2 G3, Ex G2 G3 → I i ws G2 → I i ws G3)
    (hs : ∀ (i : Nat) (x : V) (T : Addr) (ws : List V) (G' P' H' : Hp) (R : VK) (R0 : Hp → Prop), xs[i]? = some x → Ex G G' → I i ws G' → Pp P' → Join G' P' H' → G' T = some (.tup [.int i, x]) →
      (∀ v G2 P2 H2, Ex G' G2 → Pp P2 → Join G2 P2 H2 → I (i + 1) (ws ++ [v]) G2 → R v H2) → (∀ G2 P2 H2, Ex G' G2 → Pp P2 → Join G2 P2 H2 → I (i + 1) ws G2 → R0 H2) →
      g (.ref T) (wipe σ ts) H' fun σ2 H2 => wipe σ2 ts = wipe σ ts ∧ tt σ2 H2 fun b H3 => if b = true then te σ2 H3 R else R0 H3)
    (hq : ∀ p ws G' P' H', H p = none → Ex G G' → G' p = some (.lst ws) → I xs.length ws G' → Pp P' → Join G' P' H' → Q (.ref p) H') : aLcE K g tt te ts σ [.ref a] H Q := by
  refine ⟨a, xs, rfl, sqT (J.g _ _ hS), fun D hD => ?_⟩
  have gD : G D = none := J.ng hD
  refine lc_enumT (K := K) (a := a) (xs := xs) (fun i H' => ∃ (ws : List V) (G' P' : Hp), Ex G G' ∧ G' D = some (.lst ws) ∧ I i ws G' ∧ Pp P' ∧ Join G' P' H') ⟨[], _, P, Ex.new gD, upd_same, h0 _ (Ex.new gD), hP, J.newG hD⟩ (fun i H' _ ⟨ws, G', P', e, _, _, _, j⟩ => (e.trans j.exG).t (sqT hS)) (fun i x H' T hi ⟨ws, G', P', e, hd, hi2, hp, j⟩ hT => ?_) (fun H' ⟨ws, G', P', e, hd, hi2, hp, j⟩ => hq D ws G' P' H' hD e hd hi2 hp j)
  have eT := Ex.new (o := .tup [.int (i : Int), x]) (j.ng hT)
  refine hs i x T ws _ P' _ _ _ hi (e.trans eT) (hm _ _ _ _ eT hi2) hp (j.newG hT) upd_same (fun v G2 P2 H2 e2 hp2 j2 hi3 => ⟨ws, j2.g _ _ (e2 _ _ (eT _ _ hd)), Nat.lt_of_le_of_lt (hz _ _ _ hi2) (by decide), ws ++ [v], _, P2, ?_, upd_same, hI _ _ _ _ _ _ (e2 _ _ (eT _ _ hd)) hi3, hp2, j2.setG (j2.gp (e2 _ _ (eT _ _ hd)))⟩) (fun G2 P2 H2 e2 hp2 j2 hi3 => ⟨ws, G2, P2, (e.trans eT).trans e2, e2 _ _ (eT _ _ hd), hi3, hp2, j2⟩)
  exact ((e.trans eT).trans e2).mut gD
/-- range(i, j) -/
def aLcR2 (g : TG) (tt : TT) (te : TE) (vs : List Nat) (σ : L2.St) : List V → Hp → VK → Prop := fun xs H Q => tLc (fun _ H R => ∃ i j : Int, xs = [.int i, .int j] ∧ R (Itr i (j - i).toNat) H) g tt te vs σ H Q
theorem w_lcR2 {ts : List Nat} (h : as σ H fun xs H1 => aLcR2 g tt te ts σ xs H1 Q) : tLc (iRngW as) g tt te ts σ H Q := h
theorem aLcR2.go {lo hi : Int} {n : Nat} {ts : List Nat} {G P : Hp} (Pp : Hp → Prop) (I : Nat → List V → Hp → Prop) (J : Join G P H) (hP : Pp P) (hn : (hi - lo).toNat = n) (hb : -1000000 ≤ hi - lo ∧ hi - lo ≤ 1000000)
    (h0 : ∀ G', Ex G G' → I 0 [] G') (hI : ∀ i ws G2 D us ts, G2 D = some (.lst us) → I i ws G2 → I i ws (upd G2 D (.lst ts))) (hz : ∀ i ws G2, I i ws G2 → ws.length ≤ 1000000)
    (hs : ∀ (i : Nat) (ws : List V) (G' P' H' : Hp) (R : VK) (R0 : Hp → Prop), i < n → Ex G G' → I i ws G' → Pp P' → Join G' P' H' →
      (∀ v G2 P2 H2, Ex G' G2 → Pp P2 → Join G2 P2 H2 → I (i + 1) (ws ++ [v]) G2 → R v H2) → (∀ G2 P2 H2, Ex G' G2 → Pp P2 → Join G2 P2 H2 → I (i + 1) ws G2 → R0 H2) →
      g (.int (lo + i)) (wipe σ ts) H' fun σ2 H2 => wipe σ2 ts = wipe σ ts ∧ tt σ2 H2 fun b H3 => if b = true then te σ2 H3 R else R0 H3)
    (hq : ∀ p ws G' P' H', H p = none → Ex G G' → G' p = some (.lst ws) → I n ws G' → Pp P' → Join G' P' H' → Q (.ref p) H') : aLcR2 g tt te ts σ [.int lo, .int hi] H Q := by
  subst hn
  exact ⟨lo, hi, rfl, fun D hD => lcG_range (lo := lo) (n := (hi - lo).toNat) Pp I hD J hP (h0 _ (Ex.new (J.ng hD))) (fun i ws G2 us ts' h1 h2 => hI i ws G2 D us ts' h1 h2) hz hs fun ws G' P' H' e hd hi hp j => hq D ws G' P' H' hD e hd hi hp j⟩
def aForR2 (g : TG) (tb : TS) (D : Ends) (σ : L2.St) : List V → Hp → Prop := fun vs H => tFor (fun _ H R => ∃ i j : Int, vs = [.int i, .int j] ∧ R (Itr i (j - i).toNat) H) g tb D σ H
theorem w_forR2 {tb : TS} (h : as σ H fun vs H1 => aForR2 g tb D σ vs H1) : tFor (iRngW as) g tb D σ H := h
theorem aForR2.go {tb : TS} {G P : Hp} {lo hi : Int} {n : Nat} (hn : (hi - lo).toNat = n) (hb : -1000000 ≤ hi - lo ∧ hi - lo ≤ 1000000) (I : Nat → Hp → Hp → L2.St → Prop) (J : Join G P H) (h0 : I 0 G P σ)
    (hs : ∀ (i : Nat) (G' P' H' : Hp) (σ' : L2.St), i < n → Join G' P' H' → I i G' P' σ' → g (.int (lo + i)) σ' H' fun σ2 H2 => tb ⟨fun σ3 H3 => ∃ G3 P3, Join G3 P3 H3 ∧ I (i + 1) G3 P3 σ3, rt, nx, fun σ3 H3 => ∃ G3 P3, Join G3 P3 H3 ∧ I (i + 1) G3 P3 σ3⟩ σ2 H2)
    (hq : ∀ (G' P' H' : Hp) (σ' : L2.St), Join G' P' H' → I n G' P' σ' → nx σ' H') : aForR2 g tb ⟨nx, rt, bk, ct⟩ σ [.int lo, .int hi] H := by
  subst hn
  refine ⟨lo, hi, rfl, for_range (lo := lo) (n := (hi - lo).toNat) (fun i σ' H' => ∃ G3 P3, Join G3 P3 H' ∧ I i G3 P3 σ') ⟨G, P, J, h0⟩ ?_ ?_⟩
  · rintro i σ' H' hi ⟨G', P', J', hI⟩
    exact hs i G' P' H' σ' hi J' hI
  · rintro σ' H' ⟨G', P', J', hI⟩
    exact hq G' P' H' σ' J' hI
/-- a, b = x, y -/
def aPar (i j : Nat) (N : L2.St → Hp → Prop) (σ : L2.St) : List V → Hp → Prop := fun vs H => ∃ v w, vs = [v, w] ∧ N ((σ.set i (some v)).set j (some w)) H
theorem w_par (h : as σ H fun vs H1 => aPar i j nx σ vs H1) : tPar i j as ⟨nx, rt, bk, ct⟩ σ H := h
theorem w_apar {N : L2.St → Hp → Prop} (h : N ((σ.set i (some x)).set j (some y)) H) : aPar i j N σ [x, y] H := ⟨x, y, rfl, h⟩
theorem w_chain {r r' : R2} {tc : TE} (h : ta σ H fun x H1 => tb σ H1 fun y H2 => r x y H2 fun z H3 => ∃ k, z = .bl k ∧ (if k = true then tc σ H3 fun w' H4 => r' y w' H4 Q else Q (.bl false) H3)) : tChain r r' ta tb tc σ H Q := h
theorem atI_end1 {ws : List V} {n : Nat} {v : V} (hl : ws.length = n + 1) (h : ws[n]? = some v) : atI ws (-1) = some v := by
  have h1 : ws = ws.take n ++ [v] := by
    have h2 := take_more h
    rw [show n + 1 = ws.length by omega, List.take_length] at h2
    exact h2
  rw [h1]; exact atI_last _ _
theorem atI_end2 {ws : List V} {n : Nat} {v : V} (hl : ws.length = n + 2) (h : ws[n]? = some v) : atI ws (-2) = some v := by
  unfold atI ixN
  rw [hl, if_neg (by decide), if_pos (by omega)]
  show ws[((-2 : Int) + ((n + 2 : Nat) : Int)).toNat]? = some v
  rw [show ((-2 : Int) + ((n + 2 : Nat) : Int)).toNat = n by omega]; exact h
/-! in -/
theorem inV_ints (x : Int) : ∀ ns : List Int, inV (.int x) (ns.map V.int) = decide (x ∈ ns)
  | [] => by simp [inV]
  | a :: r => by
    have ih := inV_ints x r
    unfold inV at *
    rw [List.map_cons, List.any_cons, ih]
    show ((a == x) || _) = _
    by_cases h : a = x
    · subst h; simp
    · have h2 : (a == x) = false := by simp [h]
      rw [h2, Bool.false_or]
      exact decide_eq_decide.mpr ⟨fun h => List.mem_cons_of_mem _ h, fun q => (List.mem_cons.mp q).resolve_left fun z => h z.symm⟩
theorem all_flat (ns : List Int) : (ns.map V.int).all flatV = true := List.all_eq_true.mpr fun v hv => by
  obtain ⟨a, _, rfl⟩ := List.mem_map.mp hv
  rfl
theorem in_go {neg : Bool} {k : Int} {p : Addr} {ns : List Int} {G P : Hp} (J : Join G P H) (h : G p = some (.lst (ns.map V.int)) ∨ G p = some (.tup (ns.map V.int))) (q : Q (.bl (if neg then !decide (k ∈ ns) else decide (k ∈ ns))) H) : rIn K neg (.int k) (.ref p) H Q :=
  ⟨p, ns.map V.int, rfl, h.imp (fun h => sqL (J.g _ _ h)) (fun h => sqT (J.g _ _ h)), rfl, all_flat ns, by rw [inV_ints]; exact q⟩
/-! list(range(..)), list.index -/
def aLstRg (a b : Int) : Hp → VK → Prop := fun H Q => RgOk a b ∧ ∀ q, H q = none → Q (.ref q) (upd H q (.lst (rgV a b)))
theorem w_lstRg {tr : L2.St → Hp → (Int → Int → Hp → Prop) → Prop} (h : tr σ H fun a b H1 => aLstRg a b H1 Q) : tLstRg tr σ H Q := h
theorem w_rg1 {S : Int → Int → Hp → Prop} (h : ta σ H fun x H1 => ∃ n, x = .int n ∧ S 0 n H1) : tRg1 ta σ H S := h
theorem aLstRg.go {n : Nat} {m : Int} {G P : Hp} (J : Join G P H) (hn : m = n) (hm : n ≤ 100000) (q : ∀ p G' H', H p = none → Ex G G' → Join G' P H' → G' p = some (.lst (rV (List.range n))) → Q (.ref p) H') : aLstRg 0 m H Q := by
  subst hn
  refine ⟨RgOk.of_le (by omega) (by omega) (by omega) (by omega), fun p hp => q p _ _ hp (Ex.new (J.ng hp)) (J.newG hp) ?_⟩
  rw [upd_same]
  congr 2
  unfold rgV rV
  rw [Int.sub_zero, Int.toNat_natCast]
  refine List.map_congr_left fun i _ => ?_
  rw [Int.zero_add]
theorem idx_first : ∀ (ks : List Nat) (k : Nat), k ∈ ks → ks[ks.idxOf k]? = some k ∧ ∀ m : Nat, m < ks.idxOf k → ks[m]? ≠ some k
  | a :: r, k, h => by
    by_cases e : a = k
    · subst e
      rw [List.idxOf_cons_self]
      exact ⟨rfl, fun m hm => absurd hm (Nat.not_lt_zero _)⟩
    · have hr : k ∈ r := (List.mem_cons.mp h).resolve_left fun q => e q.symm
      obtain ⟨h1, h2⟩ := idx_first r k hr
      have e2 : (a :: r).idxOf k = r.idxOf k + 1 := by rw [List.idxOf_cons, show (a == k) = false by simp [e]]; rfl
      rw [e2]
      refine ⟨h1, fun m hm => ?_⟩
      cases m with
      | zero => exact fun q => e (Option.some.inj q)
      | succ m => exact h2 m (by omega)
theorem index_go {a : Addr} {ks : List Nat} {k : Nat} {G P : Hp} (J : Join G P H) (h : G a = some (.lst (rV ks))) (hk : k ∈ ks) (q : Q (.int ((ks.idxOf k : Nat) : Int)) H) : rIndex K (.ref a) [.int (k : Int)] H Q := by
  obtain ⟨h1, h2⟩ := idx_first ks k hk
  refine ⟨a, rV ks, .int k, ks.idxOf k, .int k, rfl, rfl, sqL (J.g _ _ h), rfl, ?_, ?_, ?_, fun m z hm hz => ?_, q⟩
  · have := all_flat (ks.map fun (i : Nat) => (i : Int))
    rw [List.map_map] at this; exact this
  · rw [rV, List.getElem?_map, h1]; rfl
  · show ((k : Int) == (k : Int)) = true
    simp
  · obtain ⟨y, hy, rfl⟩ := rV_at hz
    show ((y : Int) == (k : Int)) = false
    have : y ≠ k := fun e => h2 m hm (by rw [hy, e])
    simp; omega
end
section
variable {α : Type} {f : α → List V} {G G' : Hp} {vs ws : List V} {as bs : List α}
theorem TupL.app (h : TupL f G vs as) (h' : TupL f G ws bs) : TupL f G (vs ++ ws) (as ++ bs) := ⟨by simp [h.1, h'.1], fun i a ha => by
  by_cases hi : i < as.length
  · rw [List.getElem?_append_left hi] at ha
    obtain ⟨v, h1, h2⟩ := h.2 i a ha
    exact ⟨v, by rw [List.getElem?_append_left (by rw [h.1]; exact hi)]; exact h1, h2⟩
  · rw [List.getElem?_append_right (by omega)] at ha
    obtain ⟨v, h1, h2⟩ := h'.2 _ a ha
    exact ⟨v, by rw [List.getElem?_append_right (by rw [h.1]; omega), h.1]; exact h1, h2⟩⟩
theorem TupL.one {t : Addr} {a : α} (h : G t = some (.tup (f a))) : TupL f G [.ref t] [a] := TupL.add .nil h
theorem TupL.take (h : TupL f G vs as) (m : Nat) : TupL f G (vs.take m) (as.take m) := ⟨by simp [h.1], fun i a ha => by
  have h1 : i < m := by
    have := (List.getElem?_eq_some_iff.mp ha).1
    rw [List.length_take] at this; omega
  rw [List.getElem?_take, if_pos h1] at ha
  obtain ⟨v, h2, h3⟩ := h.2 i a ha
  exact ⟨v, by rw [List.getElem?_take, if_pos h1]; exact h2, h3⟩⟩
theorem TupL.drop (h : TupL f G vs as) (m : Nat) : TupL f G (vs.drop m) (as.drop m) := ⟨by simp [h.1], fun i a ha => by
  rw [List.getElem?_drop] at ha
  obtain ⟨v, h2, h3⟩ := h.2 _ a ha
  exact ⟨v, by rw [List.getElem?_drop]; exact h2, h3⟩⟩
end
end Lv

/-! exceptions of own classes; values of any kind -/
namespace Lv
open PySem PySem.Spec PyProof.Rows L2
theorem pmk_exc0 {X : Cx} {x : Str} {p pos : Pos} (c : (He.Fa.exc x).ok X.K = true) (gC : X.mg x = some (.ref (He.ga X.K x))) (hg : Gl X x) (hdb : (x == ("__debug__" : Str)) = false := by decide) :
    PMk X (.Call (.Name x p) [] [] pos) (fun _ H Q => Q (.ref (He.ga X.K x)) none H) := by
  obtain ⟨q, kC, s1, t1⟩ := He.exc_ok c
  intro pins s σ H Q I h
  refine wpAny_Call_Name_kw (ld_glob I hg gC ?_ hdb)
  refine PySem.W.callWith_K0 I.kIn kC ?_
  show wpAny _ _ (call (.ref (He.ga X.K x)) []) _ _ _
  obtain ⟨bm, N, nm, qn, bs, hdct, sn, sub, ab, col, dd, k0, k1, k2, k3, k5, mN, hC, hN, hni, T⟩ := exc_obj I.kIn q
  refine wpAny_call_exc_subT PySem.F.excBase_ValueError T hC hN hni (fun h' e hm => ?_) (by show 0 ≤ sizeLine; exact Nat.zero_le _)
  exact mk_of I hm (raises_own s1 t1) h (I.hok.gone hm.new)
/-- a value of a kind that the laws draw -/
inductive Kd (G : Hp) : V → Prop where
  | int (n : Int) : Kd G (.int n)
  | bl (b : Bool) : Kd G (.bl b)
  | non : Kd G .non
  | str (z : Str) : Kd G (.str z)
  | lst {a : Addr} {xs : List V} (h : G a = some (.lst xs)) : Kd G (.ref a)
  | tup {a : Addr} {xs : List V} (h : G a = some (.tup xs)) : Kd G (.ref a)
  | dic {a : Addr} {kvs : List (L2.Key × V)} (h : G a = some (.dK kvs)) : Kd G (.ref a)
theorem Kd.mono {G G' : Hp} (e : Ex G G') {v : V} (h : Kd G v) : Kd G' v := by
  cases h with
  | int n => exact .int n
  | bl b => exact .bl b
  | non => exact .non
  | str z => exact .str z
  | lst h => exact .lst (e _ _ h)
  | tup h => exact .tup (e _ _ h)
  | dic h => exact .dic (e _ _ h)
def isI : V → Bool
  | .int _ => true
  | _ => false
def isB : V → Bool
  | .bl _ => true
  | _ => false
section
variable {K : PySem.W.Frag} {G H : Hp} {v : V} {Q : VK}
theorem isi_I (J : Ex G H) (h : Kd G v) (q : Q (.bl (isI v || isB v)) H) : rIsi K [v, .ty "int"] H Q := by
  cases h with
  | int n => exact ⟨_, _, _, _, true, rfl, .ty _, .base (.int n), kit_ty (by decide +kernel), q⟩
  | bl b => exact ⟨_, _, _, _, true, rfl, .ty _, .base (.bl b), kit_ty (by decide +kernel), q⟩
  | non => exact ⟨_, _, _, _, false, rfl, .ty _, .base .non, kit_ty (by decide +kernel), q⟩
  | str z => exact ⟨_, _, _, _, false, rfl, .ty _, .base (.str z), kit_ty (by decide +kernel), q⟩
  | lst h => exact ⟨_, _, _, _, false, rfl, .ty _, .base (.lst (J _ _ h)), kit_ty (by decide +kernel), q⟩
  | tup h => exact ⟨_, _, _, _, false, rfl, .ty _, .base (.tup (J _ _ h)), kit_ty (by decide +kernel), q⟩
  | dic h => exact ⟨_, _, _, _, false, rfl, .ty _, .base (.dK (J _ _ h)), kit_ty (by decide +kernel), q⟩
theorem isi_B (J : Ex G H) (h : Kd G v) (q : Q (.bl (isB v)) H) : rIsi K [v, .ty "bool"] H Q := by
  cases h with
  | int n => exact ⟨_, _, _, _, false, rfl, .ty _, .base (.int n), kit_ty (by decide +kernel), q⟩
  | bl b => exact ⟨_, _, _, _, true, rfl, .ty _, .base (.bl b), kit_ty (by decide +kernel), q⟩
  | non => exact ⟨_, _, _, _, false, rfl, .ty _, .base .non, kit_ty (by decide +kernel), q⟩
  | str z => exact ⟨_, _, _, _, false, rfl, .ty _, .base (.str z), kit_ty (by decide +kernel), q⟩
  | lst h => exact ⟨_, _, _, _, false, rfl, .ty _, .base (.lst (J _ _ h)), kit_ty (by decide +kernel), q⟩
  | tup h => exact ⟨_, _, _, _, false, rfl, .ty _, .base (.tup (J _ _ h)), kit_ty (by decide +kernel), q⟩
  | dic h => exact ⟨_, _, _, _, false, rfl, .ty _, .base (.dK (J _ _ h)), kit_ty (by decide +kernel), q⟩
/-- a tuple or not -/
theorem isi_T (J : Ex G H) (h : Kd G v) (q1 : ∀ a xs, v = .ref a → G a = some (.tup xs) → Q (.bl true) H) (q2 : (∀ a xs, v = .ref a → G a ≠ some (.tup xs)) → Q (.bl false) H) : rIsi K [v, .ty "tuple"] H Q := by
  cases h with
  | int n => exact ⟨_, _, _, _, false, rfl, .ty _, .base (.int n), kit_ty (by decide +kernel), q2 fun a xs h => nomatch h⟩
  | bl b => exact ⟨_, _, _, _, false, rfl, .ty _, .base (.bl b), kit_ty (by decide +kernel), q2 fun a xs h => nomatch h⟩
  | non => exact ⟨_, _, _, _, false, rfl, .ty _, .base .non, kit_ty (by decide +kernel), q2 fun a xs h => nomatch h⟩
  | str z => exact ⟨_, _, _, _, false, rfl, .ty _, .base (.str z), kit_ty (by decide +kernel), q2 fun a xs h => nomatch h⟩
  | lst h => exact ⟨_, _, _, _, false, rfl, .ty _, .base (.lst (J _ _ h)), kit_ty (by decide +kernel), q2 fun a xs e q => by injection e with e; subst e; rw [h] at q; cases q⟩
  | tup h => exact ⟨_, _, _, _, true, rfl, .ty _, .base (.tup (J _ _ h)), kit_ty (by decide +kernel), q1 _ _ rfl h⟩
  | dic h => exact ⟨_, _, _, _, false, rfl, .ty _, .base (.dK (J _ _ h)), kit_ty (by decide +kernel), q2 fun a xs e q => by injection e with e; subst e; rw [h] at q; cases q⟩
end
section
variable {K : PySem.W.Frag} {σ : L2.St} {H : Hp} {Q : VK} {as : TA} {sp : Sp} {E : L2.St → XK}
theorem w_callS (h : as σ H fun vs H1 => sp vs H1 Q (E σ)) : tCallS sp E as σ H Q := h
/-- what is raised is caught -/
theorem only_go {c cls : Value} {ts : Addr → Value → Option Addr → TS} {Wout : WX} {D : Ends} {d : Option Addr} (h : PySem.W.exmOne K cls c = some true) (q : ∀ a, H a = none → ts a cls d D σ H) : wOnly K c ts Wout D cls d σ H := ⟨true, h, fun _ => q, fun h => nomatch h⟩
end
end Lv

/-! t[::-1] of a tuple; {}; tuple(range(..)) -/
namespace Lv
open PySem PySem.Spec PyProof.Rows HT
variable {prog : Program} {w : World} {A : Around} {E : Value → Shared → Prop} {s : Shared}
theorem adjust_rev (n : Nat) : Builtin.Slice.sliceAdjust none none (-1) (n : Int) = ((n : Int) - 1, -1) := rfl
theorem places_rev (n : Nat) : Builtin.Slice.slicePlaces ((n : Int) - 1) (-1) (-1) = n := by
  unfold Builtin.Slice.slicePlaces
  have h1 : ¬ ((-1 : Int) > 0) := by omega
  simp only [h1, if_false]
  by_cases h : (n : Int) - 1 > -1
  · rw [if_pos h]
    have : ((n : Int) - 1 - -1 - 1) / (- -1) = (n : Int) - 1 := by
      rw [show (- -1 : Int) = 1 by decide, Int.ediv_one]; omega
    rw [this]; omega
  · rw [if_neg h]; omega
theorem pick_rev (xs : Array Value) : ((List.range xs.size).filterMap fun (m : Nat) => xs[(((xs.size : Int) - 1) + (m : Int) * (-1)).toNat]?).toArray = xs.toList.reverse.toArray := by
  congr 1
  have e : (List.range xs.size).filterMap (fun (m : Nat) => xs[(((xs.size : Int) - 1) + (m : Int) * (-1)).toNat]?) = ((List.range xs.size).map fun k => xs.size - 1 - k).filterMap fun i => xs[i]? := by
    rw [List.filterMap_map]
    congr 1
    funext m
    show xs[_]? = xs[xs.size - 1 - m]?
    congr 1
    omega
  rw [e, PySem.W.krv_range, List.filterMap_reverse, PySem.W.krv_all]
theorem sliceApplied_rev {sl : Addr} {vl vu vs : Value} {n : Nat} {Q : Int × Int × Nat → Shared → Prop} (hs : s.heap.IsSliceOf sl vl vu vs) (pl : IsPart vl none) (pu : IsPart vu none) (ps : IsPart vs (some (-1)))
    (h : Q ((n : Int) - 1, -1, n) s) : wpAny (model prog w) A (Builtin.Slice.sliceApplied (.ref sl) (pure (n : Int))) Q E s := by
  obtain ⟨os, hos, hcs, hds⟩ := id hs
  unfold Builtin.Slice.sliceApplied Builtin.Slice.sliceFields
  refine wpAny_bind (wpAny_bind (wpAny_field hos hds (x := vl) rfl (wpAny_bind (wpAny_field hos hds (x := vu) rfl (wpAny_bind (wpAny_field hos hds (x := vs) rfl (wpAny_pure ?_)))))))
  refine wpAny_bind (slicePart_ ps ?_)
  show wpAny _ _ (if ((-1 : Int) == 0) = true then _ else _) _ _ s
  rw [if_neg (by decide)]
  refine wpAny_bind (slicePart_ pl (wpAny_bind (slicePart_ pu (wpAny_bind (wpAny_pure ?_)))))
  show wpAny _ _ (match Builtin.Slice.sliceAdjust none none (-1) (n : Int) with | (lo, hi) => pure (lo, (-1 : Int), Builtin.Slice.slicePlaces lo hi (-1))) _ _ s
  rw [adjust_rev n]
  show wpAny _ _ (pure ((n : Int) - 1, (-1 : Int), Builtin.Slice.slicePlaces ((n : Int) - 1) (-1) (-1))) _ _ s
  rw [places_rev]
  exact wpAny_pure h
theorem getItem_tuple_rev {t sl : Addr} {items : Array Value} {vl vu vs : Value} {Q : Value → Shared → Prop} (ht : IsTup s.heap t items) (hs : s.heap.IsSliceOf sl vl vu vs) (pl : IsPart vl none) (pu : IsPart vu none) (ps : IsPart vs (some (-1)))
    (h : Q (.ref s.heap.objs.size) { s with heap := s.heap.push { cls := .type "tuple", data := .seq items.toList.reverse.toArray } })
    (hsz : items.size ≤ sizeLine) : wpAny (model prog w) A (getItem (.ref t) (.ref sl)) Q E s := by
  have htake : sizeOk (.seq items.toList.reverse.toArray) := by
    show items.toList.reverse.toArray.size ≤ sizeLine
    rw [List.size_toArray, List.length_reverse, Array.length_toList]
    omega
  obtain ⟨os, hos, hcs, hds⟩ := id hs
  have hTs : s.TypeIs (.ref sl) "slice" := ⟨os, hos, hcs⟩
  unfold getItem
  try with_reducible refine wpAny_holding ?_
  first | refine wpAny_bind (wpAny_pure ?_) | skip
  refine wpAny_bind (wpAny_sequenceKey ht.typeIs (by decide) ?_)
  refine wpAny_bind (wpAny_callSpecial?_slot (name := Str.ofString "__getitem__") ht.typeIs PyProof.Rows.slot_tuple_getitem
    (wpAny_call_entry PyProof.Rows.slot_tuple_getitem ht.typeIs entry_tuple_getitem ?_ (args_tuple_getitem _ _)))
  show wpAny _ _ (Builtin.Tuple.tupleItemsOf (.ref t) >>= _) _ _ s
  refine wpAny_bind (tupleItemsOf_ ht ?_)
  refine wpAny_bind (wpAny_typeOf hTs ?_)
  rw [if_pos (by decide)]
  refine wpAny_bind (sliceApplied_rev hs pl pu ps ?_)
  have hno : ¬ ((((items.size : Int) - 1) == 0 && (-1 : Int) == 1 && items.size == items.size) = true) := by
    intro q
    rw [Bool.and_eq_true, Bool.and_eq_true] at q
    exact absurd q.1.2 (by decide)
  show wpAny _ _ (if (((items.size : Int) - 1) == 0 && (-1 : Int) == 1 && items.size == items.size) = true then _ else _) _ _ s
  rw [if_neg hno, pick_rev]
  first
    | exact wpAny_bind (m := Builtin.Tuple.tupleExact _) (wpAny_newObj_type (wpAny_pure ⟨_, rfl, wpAny_pure h⟩) htake)
    | exact wpAny_bind (m := Builtin.Tuple.tupleExact _) (wpAny_newObj_type (wpAny_bind (wpAny_pure (wpAny_pure ⟨_, rfl, wpAny_pure h⟩))) htake)
    | exact wpAny_bind (wpAny_bind (m := Builtin.Tuple.tupleExact _) (wpAny_newObj_type (wpAny_pure (wpAny_pure ⟨_, rfl, wpAny_pure h⟩)) htake))
    | exact wpAny_bind (wpAny_bind (m := Builtin.Tuple.tupleExact _) (wpAny_newObj_type (wpAny_pure ⟨_, rfl, wpAny_pure h⟩) htake))
end Lv

namespace Lv
open PySem PySem.Spec PyProof.Rows L2
/-- t[::-1] of a tuple -/
def tRevT (K : PySem.W.Frag) (te : TE) : TE := fun σ H Q => te σ H fun x H1 => ∃ a xs, x = .ref a ∧ SqT K H1 a xs ∧ ∀ p, H1 p = none → Q (.ref p) (upd H1 p (.tup xs.reverse))
theorem pe_revT {X : Cx} {e : Expr} {te : TE} {k : Nat} {p1 p2 p3 pos : Pos} (he : PE X e te) : PE X (.Subscript e (.Slice none none (some (.UnaryOp .USub (.Constant (.int 1) k p1) p2)) p3) pos) (tRevT X.K te) := by
  refine ⟨fun pins s σ H Q I h => ?_⟩
  refine Subscript_ (thn (he.run pins s σ H _ I h) fun v s1 ⟨x, H1, I1, r1, q1⟩ => ?_)
  obtain ⟨a, xs, ex, hx, q⟩ := q1
  subst ex
  cases r1
  have hst : PO X (some (.UnaryOp .USub (.Constant (.int 1) k p1) p2)) (tPart (tUn (rU fun i => .int (-i)) (tC (.int 1)))) := po_some (pe_un un_neg pe_int)
  refine wpAny_Slice (thn (po_none.run pins s1 σ H1 (fun o H2 => o = none ∧ H2 = H1) I1 ⟨rfl, rfl⟩) fun vl s2 ⟨l, H2, I2, pl, el, e2⟩ => ?_)
  subst el e2
  refine thn (po_none.run pins s2 σ H2 (fun o H3 => o = none ∧ H3 = H2) I2 ⟨rfl, rfl⟩) fun vu s3 ⟨u, H3, I3, pu, eu, e3⟩ => ?_
  subst eu e3
  refine thn (hst.run pins s3 σ H3 (fun o H4 => o = some (-1) ∧ H4 = H3) I3 ⟨1, rfl, -1, rfl, rfl, rfl⟩) fun vs s4 ⟨o, H4, I4, ps, eo, e4⟩ => ?_
  subst eo e4
  have I5 : Inv X pins σ H4 { s4 with heap := s4.heap.push { cls := .type "slice", data := .fields #[vl, vu, vs] } } := I4.kept (t' := s4.toks) fun b ob q => Heap.get?_push_of_some _ q
  obtain ⟨its, r, ht, hz⟩ := I5.tuple hx
  have hlen := r.length
  show wpAny (model X.prog X.w) X.A (subscriptTail e (.Slice none none (some (.UnaryOp .USub (.Constant (.int 1) k p1) p2)) p3) (.ref a) (.ref s4.heap.objs.size)) (EP X pins σ Q) X.xe { s4 with heap := s4.heap.push { cls := .type "slice", data := .fields #[vl, vu, vs] } }
  refine tail_any (ops := [.ref a, .ref s4.heap.objs.size]) ht.typeIs (PyProof.Rows.slot_tuple_getitem.lookup) ?_ (by with_unfolding_all rfl)
  refine getItem_tuple_rev ht (Heap.IsSliceOf.new _ vl vu vs) pl pu ps ?_ (by rw [List.size_toArray]; omega)
  refine ⟨.ref _, _, I5.laid (t' := s4.toks) (o := .tup xs.reverse) (fun b ob q => Heap.get?_push_of_some _ q) (Nat.le_refl _) ?_, rfl, q _ (I5.hok.fresh (Nat.le_refl _))⟩
  exact ⟨by rw [List.length_reverse]; exact hz, _, r.reverse, IsTup.new _ _⟩
end Lv

namespace Lv
open PySem PySem.Spec PyProof.Rows L2
section
variable {K : PySem.W.Frag} {σ : L2.St} {H : Hp} {Q : VK} {te : TE}
def aRevT (K : PySem.W.Frag) : V → Hp → VK → Prop := fun x H Q => ∃ a xs, x = .ref a ∧ SqT K H a xs ∧ ∀ p, H p = none → Q (.ref p) (upd H p (.tup xs.reverse))
theorem w_revT (h : te σ H fun x H1 => aRevT K x H1 Q) : tRevT K te σ H Q := h
theorem aRevT.go {G P : Hp} {a : Addr} {xs : List V} (J : Join G P H) (h : G a = some (.tup xs)) (q : ∀ p G' H', H p = none → Ex G G' → Join G' P H' → G' p = some (.tup xs.reverse) → Q (.ref p) H') : aRevT K (.ref a) H Q :=
  ⟨a, xs, rfl, sqT (J.g _ _ h), fun p hp => q p _ _ hp (Ex.new (J.ng hp)) (J.newG hp) upd_same⟩
def aDNew : Hp → VK → Prop := fun H Q => ∀ p, H p = none → Q (.ref p) (upd H p (.dK []))
theorem w_dnew (h : aDNew H Q) : tDNewK σ H Q := h
theorem aDNew.go {G P : Hp} (J : Join G P H) (q : ∀ p G' H', H p = none → Ex G G' → Join G' P H' → G' p = some (.dK []) → Q (.ref p) H') : aDNew H Q := fun p hp => q p _ _ hp (Ex.new (J.ng hp)) (J.newG hp) upd_same
def aTupRg (a b : Int) : Hp → VK → Prop := fun H Q => RgOk a b ∧ ∀ q, H q = none → Q (.ref q) (upd H q (.tup (rgV a b)))
theorem w_tupRg {tr : L2.St → Hp → (Int → Int → Hp → Prop) → Prop} (h : tr σ H fun a b H1 => aTupRg a b H1 Q) : tTupRg tr σ H Q := h
theorem aTupRg.go {n : Nat} {m : Int} {G P : Hp} (J : Join G P H) (hn : m = n) (hm : n ≤ 100000) (q : ∀ p G' H', H p = none → Ex G G' → Join G' P H' → G' p = some (.tup (rV (List.range n))) → Q (.ref p) H') : aTupRg 0 m H Q := by
  subst hn
  refine ⟨RgOk.of_le (by omega) (by omega) (by omega) (by omega), fun p hp => q p _ _ hp (Ex.new (J.ng hp)) (J.newG hp) ?_⟩
  rw [upd_same]
  congr 2
  unfold rgV rV
  rw [Int.sub_zero, Int.toNat_natCast]
  refine List.map_congr_left fun i _ => ?_
  rw [Int.zero_add]
end
end Lv

/-! dicts of ints as sets; while -/
namespace Lv
open PySem PySem.Spec PyProof.Rows L2
def keyP (ns : List Int) : List (L2.Key × V) := ns.map fun n => ((Sum.inl n : L2.Key), V.bl true)
theorem keyP_any (ns : List Int) (k : Int) : ((keyP ns).any fun kv => decide (kv.1 = (Sum.inl k : L2.Key))) = decide (k ∈ ns) := by
  induction ns with
  | nil => simp [keyP]
  | cons a r ih =>
    unfold keyP at *
    rw [List.map_cons, List.any_cons, ih]
    by_cases h : a = k
    · subst h; simp
    · have h2 : ¬ ((Sum.inl a : L2.Key) = Sum.inl k) := fun q => h (Sum.inl.inj q)
      have h3 : ¬ k = a := fun q => h q.symm
      simp [h, h3]
theorem keyP_val (ns : List Int) (k : Int) : (valV (keyP ns) (.inl k)).isSome = decide (k ∈ ns) := by rw [← valV_any, keyP_any]
theorem keyP_put {ns : List Int} {k : Int} (h : k ∉ ns) : putK (keyP ns) (.inl k) (.bl true) = keyP (ns ++ [k]) := by
  unfold putK
  rw [keyP_any, if_neg (by simp [h])]
  simp [keyP]
section
variable {K : PySem.W.Frag} {σ : L2.St} {H : Hp} {Q : VK} {R : Bool → Hp → Prop} {nx bk ct : L2.St → Hp → Prop} {rt : VK} {D : Ends} {ta td ty : TE} {tt : TT} {as : TA} {g : TG} {tk tv : TE}
/-- y in d -/
def rDIn (neg : Bool) : V → V → Hp → VK → Prop := fun y x H Q => ∃ a o, x = .ref a ∧ DGet H a y o ∧ Q (.bl (if neg then !o.isSome else o.isSome)) H
theorem w_din (h : ty σ H fun y H1 => td σ H1 fun x H2 => rDIn false y x H2 Q) : tDIn ty td σ H Q := h
theorem w_dnotin (h : ty σ H fun y H1 => td σ H1 fun x H2 => rDIn true y x H2 Q) : tDNotIn ty td σ H Q := h
theorem din_go {neg : Bool} {G P : Hp} {d : Addr} {ns : List Int} {k : Int} (J : Join G P H) (h : G d = some (.dK (keyP ns))) (q : Q (.bl (if neg then !decide (k ∈ ns) else decide (k ∈ ns))) H) : rDIn neg (.int k) (.ref d) H Q :=
  ⟨d, _, rfl, DGet.k (k := .inl k) (J.g _ _ h), by rw [keyP_val]; exact q⟩
/-- {n: True for n in t} -/
def aDcT (K : PySem.W.Frag) (g : TG) (tt : TT) (tk tv : TE) (vs : List Nat) (σ : L2.St) : V → Hp → VK → Prop := fun x H Q => tDc (fun _ H R => ∃ a, x = .ref a ∧ (∃ xs, SqT K H a xs) ∧ R (Itt K a) H) g tt tk tv vs σ H Q
theorem w_dcT {ts : List Nat} (h : ta σ H fun x H1 => aDcT K g tt tk tv ts σ x H1 Q) : tDc (iTup K ta) g tt tk tv ts σ H Q := h
/-- the numbers of a tuple, each once, to a dict -/
theorem aDcT.go {j : Nat} {a : Addr} {ns : List Int} {ts : List Nat} {G P : Hp} (J : Join G P H) (hS : G a = some (.tup (ns.map V.int))) (hn : ns.Nodup) (hl : ns.length ≤ 100000) (hw : ∀ x, wipe ((wipe σ ts).set j (some x)) ts = wipe σ ts)
    (hk : ∀ (n : Int) (H' : Hp) (S : VK), S (.int n) H' → tk ((wipe σ ts).set j (some (.int n))) H' S) (hv : ∀ (x : V) (H' : Hp) (S : VK), S (.bl true) H' → tv ((wipe σ ts).set j (some x)) H' S)
    (hq : ∀ p G' H', H p = none → Ex G G' → Join G' P H' → G' p = some (.dK (keyP ns)) → Q (.ref p) H') : aDcT K (gName j) tYes tk tv ts σ (.ref a) H Q := by
  refine ⟨a, rfl, ⟨_, sqT (J.g _ _ hS)⟩, fun D hD => ?_⟩
  have gD : G D = none := J.ng hD
  refine dc_tup (K := K) (a := a) (xs := ns.map V.int) (fun i H' => ∃ G', Ex G G' ∧ Join G' P H' ∧ G' D = some (.dK (keyP (ns.take i)))) ⟨_, Ex.new gD, J.newG hD, upd_same⟩ (fun i H' _ ⟨G', e, j', _⟩ => sqT (j'.g _ _ (e _ _ hS))) (fun i x H' hi ⟨G', e, j', hd⟩ => ?_) (fun H' ⟨G', e, j', hd⟩ => ?_)
  · obtain ⟨n, hi2, rfl⟩ := int_at hi
    have hil := (List.getElem?_eq_some_iff.mp hi2).1
    refine ⟨hw _, iteT (B := True) (hk n H' _ (hv _ H' _ ⟨keyP (ns.take i), .inl n, rfl, j'.g _ _ hd, ?_, _, ?_, j'.setG (j'.gp hd), ?_⟩))⟩
    · refine szlt ?_
      unfold keyP
      rw [List.length_map, List.length_take]; omega
    · exact e.mut gD
    · rw [upd_same, keyP_put, take_more hi2]
      intro hm
      obtain ⟨c, hc⟩ := List.getElem?_of_mem hm
      have hc1 := (List.getElem?_eq_some_iff.mp hc).1
      rw [List.length_take] at hc1
      rw [List.getElem?_take, if_pos (by omega)] at hc
      obtain ⟨b1, b2⟩ := List.getElem?_eq_some_iff.mp hc
      obtain ⟨b3, b4⟩ := List.getElem?_eq_some_iff.mp hi2
      have := (List.getElem_inj hn).mp (b2.trans b4.symm)
      omega
  · rw [List.length_map, List.take_length] at hd
    exact hq D G' H' hD e j' hd
/-- while: a turn -/
def turnW (I : Nat → Hp → Hp → L2.St → Prop) (m : Nat) (tb : TS) (nx : L2.St → Hp → Prop) (rt : VK) : L2.St → Hp → Prop := fun σ H => ∃ N : L2.St → Hp → Prop, (∀ σ' H', N σ' H' → ∃ m', m' < m ∧ ∃ G P, Join G P H' ∧ I m' G P σ') ∧ tb ⟨N, rt, nx, N⟩ σ H
theorem w_turn {I : Nat → Hp → Hp → L2.St → Prop} {m : Nat} {tb : TS} (h : tb ⟨fun σ3 H3 => ∃ m' G3 P3, m' < m ∧ Join G3 P3 H3 ∧ I m' G3 P3 σ3, rt, nx, fun σ3 H3 => ∃ m' G3 P3, m' < m ∧ Join G3 P3 H3 ∧ I m' G3 P3 σ3⟩ σ H) : turnW I m tb nx rt σ H :=
  ⟨_, fun _ _ ⟨m', G3, P3, h1, h2, h3⟩ => ⟨m', h1, G3, P3, h2, h3⟩, h⟩
theorem while_go {c : TT} {tb : TS} {G P : Hp} (I : Nat → Hp → Hp → L2.St → Prop) (J : Join G P H) (m0 : Nat) (h0 : I m0 G P σ)
    (hs : ∀ (m : Nat) (G' P' H' : Hp) (σ' : L2.St), Join G' P' H' → I m G' P' σ' → c σ' H' fun b H1 => if b = true then turnW I m tb nx rt σ' H1 else nx σ' H1) : tWhile c tb ⟨nx, rt, bk, ct⟩ σ H := by
  refine ⟨fun m σ H => ∃ G' P', Join G' P' H ∧ I m G' P' σ, ⟨m0, G, P, J, h0⟩, ?_⟩
  rintro m σ' H' ⟨G', P', J', hI⟩
  exact hs m G' P' H' σ' J' hI
theorem w_ip {f : Int → Int → Int} {a b : Int} (h : Q (.int (f a b)) H) : ipI f (.int a) (.int b) H Q := ⟨a, b, rfl, rfl, h⟩
/-- len of a dict -/
def rLenD : List V → Hp → VK → Prop := fun xs H Q => ∃ a kvs, xs = [.ref a] ∧ H a = some (.dK kvs) ∧ Q (.int kvs.length) H
theorem rLenD.go {G P : Hp} {d : Addr} {ns : List Int} (J : Join G P H) (h : G d = some (.dK (keyP ns))) (q : Q (.int ns.length) H) : rLenD [.ref d] H Q :=
  ⟨d, _, rfl, J.g _ _ h, by rw [keyP, List.length_map]; exact q⟩
theorem w_lend (h : as σ H fun vs H1 => rLenD vs H1 Q) : tCB (fun xs H Q => ∃ a kvs, xs = [.ref a] ∧ H a = some (.dK kvs) ∧ Q (.int kvs.length) H) as σ H Q := h
def rMin2 : List V → Hp → VK → Prop := fun xs H Q => ∃ i j, xs = [.int i, .int j] ∧ Q (.int (if j < i then j else i)) H
def rMax2 : List V → Hp → VK → Prop := fun xs H Q => ∃ i j, xs = [.int i, .int j] ∧ Q (.int (if i < j then j else i)) H
theorem w_rmin {a b : Int} (h : Q (.int (min a b)) H) : rMin2 [.int a, .int b] H Q := ⟨a, b, rfl, by rw [show (if b < a then b else a) = min a b by omega]; exact h⟩
theorem w_rmax {a b : Int} (h : Q (.int (max a b)) H) : rMax2 [.int a, .int b] H Q := ⟨a, b, rfl, by rw [show (if a < b then b else a) = max a b by omega]; exact h⟩
theorem w_min2 (h : as σ H fun vs H1 => rMin2 vs H1 Q) : tCB (fun xs H Q => ∃ i j, xs = [.int i, .int j] ∧ Q (.int (if j < i then j else i)) H) as σ H Q := h
theorem w_max2 (h : as σ H fun vs H1 => rMax2 vs H1 Q) : tCB (fun xs H Q => ∃ i j, xs = [.int i, .int j] ∧ Q (.int (if i < j then j else i)) H) as σ H Q := h
end
end Lv

/-! fields by names in a row -/
namespace Lv
open PySem PySem.Spec PyProof.Rows L2
theorem putF_zip : ∀ (ks : List Str) (vs : List V) {f : Str} {y : V}, ks.Nodup → ks[vs.length]? = some f → putF f y (ks.zip vs) = ks.zip (vs ++ [y])
  | [], vs, f, y, _, h => by simp at h
  | k :: ks, [], f, y, _, h => by
    have h' : k = f := by simpa using h
    subst h'; simp [putF]
  | k :: ks, v :: vs, f, y, hN, h => by
    have h' : ks[vs.length]? = some f := by simpa using h
    have hk : ¬ k = f := fun e => (List.nodup_cons.mp hN).1 (e ▸ List.mem_of_getElem? h')
    show (if k = f then (k, y) :: ks.zip vs else (k, v) :: putF f y (ks.zip vs)) = _
    rw [if_neg hk, putF_zip ks vs (List.nodup_cons.mp hN).2 h']; rfl
theorem lookup_zip : ∀ (ks : List Str) (vs : List V) {f : Str} {i : Nat} {v : V}, ks.Nodup → ks[i]? = some f → vs[i]? = some v → (ks.zip vs).lookup f = some v
  | [], vs, f, i, v, _, h, _ => by simp at h
  | k :: ks, [], f, i, v, _, _, h => by simp at h
  | k :: ks, w :: vs, f, 0, v, _, h, h2 => by
    have h' : k = f := by simpa using h
    have h2' : w = v := by simpa using h2
    subst h' h2'; simp
  | k :: ks, w :: vs, f, i + 1, v, hN, h, h2 => by
    have h' : ks[i]? = some f := by simpa using h
    have h2' : vs[i]? = some v := by simpa using h2
    have hk : (f == k) = false := by
      cases e : f == k with
      | false => rfl
      | true => exact absurd (List.mem_of_getElem? h') (by rw [eq_of_beq e]; exact (List.nodup_cons.mp hN).1)
    rw [List.zip_cons_cons, List.lookup_cons, hk]
    exact lookup_zip ks vs (List.nodup_cons.mp hN).2 h' h2'
theorem lookup_none : ∀ (ks : List Str) (vs : List V) {f : Str}, f ∉ ks → (ks.zip vs).lookup f = none
  | [], _, _, _ => rfl
  | k :: ks, [], _, _ => rfl
  | k :: ks, w :: vs, f, h => by
    have hk : (f == k) = false := by
      cases e : f == k with
      | false => rfl
      | true => exact absurd (by rw [eq_of_beq e]; exact List.mem_cons_self ..) h
    rw [List.zip_cons_cons, List.lookup_cons, hk]
    exact lookup_none ks vs fun q => h (List.mem_cons_of_mem _ q)
section
variable {K : PySem.W.Frag} {σ : L2.St} {H : Hp} {Q : VK} {nx bk ct : L2.St → Hp → Prop} {rt : VK} {ta tv : TE}
/-- x.f = y -/
def aSFld (K : PySem.W.Frag) (f : Str) (y : V) (N : L2.St → Hp → Prop) (σ : L2.St) : V → Hp → Prop := fun x H2 => ∃ a C dx fs, x = .ref a ∧ H2 a = some (.ins C dx fs) ∧ Cls K C ∧ NoAttr K C f ∧ fs.length < 1000 ∧ N σ (upd H2 a (.ins C dx (putF f y fs)))
theorem w_isN {A : Prop} (h : A) : V.non = V.non ∧ A := ⟨rfl, h⟩
theorem w_sfld {f : Str} (h : tv σ H fun y H1 => ta σ H1 fun x H2 => aSFld K f y nx σ x H2) : sFld K ta tv f ⟨nx, rt, bk, ct⟩ σ H := h
theorem aSFld.go {G P : Hp} {x C dx : Addr} {ks : List Str} {vs : List V} {f : Str} {y : V} {N : L2.St → Hp → Prop} (J : Join G P H) (e : G x = some (.ins C dx (ks.zip vs))) (hc : Cls K C) (hn : NoAttr K C f) (hN : ks.Nodup) (hi : ks[vs.length]? = some f) (hl : ks.length ≤ 900)
    (q : ∀ G' H', But x G G' → Join G' P H' → G' x = some (.ins C dx (ks.zip (vs ++ [y]))) → N σ H') : aSFld K f y N σ (.ref x) H := by
  refine ⟨x, C, dx, _, rfl, J.g _ _ e, hc, hn, by rw [List.length_zip]; omega, ?_⟩
  rw [putF_zip ks vs hN hi]
  exact q _ _ (fun b o h nb => by rw [upd_ne nb]; exact h) (J.setG (J.gp e)) upd_same
theorem aFld.go {G P : Hp} {x C dx : Addr} {ks : List Str} {vs : List V} {f : Str} {v : V} {i : Nat} (J : Join G P H) (e : G x = some (.ins C dx (ks.zip vs))) (hc : Cls K C) (hn : NoAttr K C f) (hN : ks.Nodup) (hi : ks[i]? = some f) (hv : vs[i]? = some v) (q : Q v H) : aFld K f (.ref x) H Q :=
  ⟨x, C, dx, _, _, rfl, J.g _ _ e, hc, hn, lookup_zip ks vs hN hi hv, q⟩
theorem sortI_go {a : Addr} {ns : List Int} {G P : Hp} (J : Join G P H) (h : G a = some (.lst (ns.map V.int))) (q : ∀ (ns' : List Int) p G' H', ns'.Perm ns → ns'.Pairwise (· ≤ ·) → H p = none → Ex G G' → Join G' P H' → G' p = some (.lst (ns'.map V.int)) → Q (.ref p) H') : rSortedI K [.ref a] H Q :=
  ⟨a, ns, rfl, sqL (J.g _ _ h), fun ns' p h1 h2 hp => q ns' p _ _ h1 h2 hp (Ex.new (J.ng hp)) (J.newG hp) upd_same⟩
end
theorem cr_sortedIK {X : Cx} {K : PySem.W.Frag} (h : X.K = K) : CallR X (.builtin "sorted") (rSortedI K) := h ▸ cr_sortedI
end Lv

/-! comprehensions of ints and flags -/
namespace Lv
open PySem PySem.Spec PyProof.Rows L2
/-- lo, lo + 1, .. -/
def rgI (lo : Int) (n : Nat) : List Int := (List.range n).map fun (i : Nat) => lo + i
theorem rgI_len (lo : Int) (n : Nat) : (rgI lo n).length = n := by simp [rgI]
theorem rgI_at {lo : Int} {n i : Nat} (h : i < n) : (rgI lo n)[i]? = some (lo + i) := by
  unfold rgI; rw [List.getElem?_map, List.getElem?_range h]; rfl
theorem rgI_mem {lo : Int} {n : Nat} {x : Int} : x ∈ rgI lo n ↔ lo ≤ x ∧ x < lo + n := by
  unfold rgI
  rw [List.mem_map]
  exact ⟨fun ⟨i, h1, h2⟩ => by have := List.mem_range.mp h1; omega, fun h => ⟨(x - lo).toNat, List.mem_range.mpr (by omega), by omega⟩⟩
theorem rgI_asc (lo : Int) (n : Nat) : (rgI lo n).Pairwise (· < ·) := by
  unfold rgI
  exact List.pairwise_map.mpr (List.pairwise_lt_range.imp fun {a b} h => by omega)
section
variable {K : PySem.W.Frag} {σ : L2.St} {H : Hp} {Q : VK} {te : TE} {tt : TT} {g : TG} {ts : List Nat} {G P : Hp} {a : Addr} {xs : List Int}
/-- what a turn has to show: f k the test, v k the value -/
def Turn (g : TG) (tt : TT) (te : TE) (ts : List Nat) (σ : L2.St) (G P : Hp) (xs : List Int) (f : Int → Bool) (v : Int → V) : Prop :=
  ∀ (k : Int) (G' H' : Hp) (R : VK) (R0 : Hp → Prop), k ∈ xs → Ex G G' → Join G' P H' → (f k = true → ∀ G2 H2, Ex G' G2 → Join G2 P H2 → R (v k) H2) → (f k = false → ∀ G2 H2, Ex G' G2 → Join G2 P H2 → R0 H2) →
      g (.int k) (wipe σ ts) H' fun σ2 H2 => wipe σ2 ts = wipe σ ts ∧ tt σ2 H2 fun b H3 => if b = true then te σ2 H3 R else R0 H3
theorem take_fil {f : Int → Bool} {v : Int → V} {i : Nat} {k : Int} (h : xs[i]? = some k) : ((xs.take (i + 1)).filter f).map v = ((xs.take i).filter f).map v ++ (if f k then [v k] else []) := by
  rw [take_more h, List.filter_append, List.map_append]
  congr 1
  cases e : f k with
  | true => rw [List.filter_cons_of_pos e]; rfl
  | false => rw [List.filter_cons_of_neg (by simp [e])]; rfl
theorem fil_len {f : Int → Bool} {v : Int → V} {i : Nat} (hl : xs.length ≤ 1000000) : (((xs.take i).filter f).map v).length ≤ 1000000 := by
  rw [List.length_map]
  have := List.length_filter_le f (xs.take i)
  rw [List.length_take] at this
  omega
theorem aLcT.fil (f : Int → Bool) (v : Int → V) (J : Join G P H) (hS : G a = some (.tup (xs.map V.int))) (hl : xs.length ≤ 1000000) (hs : Turn g tt te ts σ G P xs f v)
    (hq : ∀ p G' H', H p = none → Ex G G' → Join G' P H' → G' p = some (.lst ((xs.filter f).map v)) → Q (.ref p) H') : aLcT K g tt te ts σ (.ref a) H Q := by
  refine aLcT.go (fun P' => P' = P) (fun i us G' => us = (((xs.take i).filter f).map v)) J rfl hS (fun _ _ => rfl) (fun _ _ _ _ _ _ _ h => h) (fun i us G2 h => by rw [h]; exact fil_len hl) ?_ ?_
  · intro i x us G' P' H' R R0 hx e' hI hP j' kR kR0
    subst hP
    obtain ⟨k, hk, rfl⟩ := int_at hx
    refine hs k G' H' R R0 (List.mem_of_getElem? hk) e' j' (fun h G2 H2 e2 j2 => kR _ G2 _ H2 e2 rfl j2 ?_) (fun h G2 H2 e2 j2 => kR0 G2 _ H2 e2 rfl j2 ?_)
    · rw [take_fil hk, h, if_pos rfl, hI]
    · rw [take_fil hk, h, if_neg (by decide), hI, List.append_nil]
  · intro p us G' P' H' hp e' hd hI hP j'
    subst hP
    rw [List.length_map, List.take_length] at hI
    subst hI
    exact hq p G' H' hp e' j' hd
theorem aLcL.fil (f : Int → Bool) (v : Int → V) (J : Join G P H) (hS : G a = some (.lst (xs.map V.int))) (hl : xs.length ≤ 1000000) (hs : Turn g tt te ts σ G P xs f v)
    (hq : ∀ p G' H', H p = none → Ex G G' → Join G' P H' → G' p = some (.lst ((xs.filter f).map v)) → Q (.ref p) H') : aLcL K g tt te ts σ (.ref a) H Q := by
  refine aLcL.go (fun P' => P' = P) (fun i us G' => us = (((xs.take i).filter f).map v)) J rfl hS (fun _ _ => rfl) (fun _ _ _ _ _ _ _ h => h) (fun i us G2 h => by rw [h]; exact fil_len hl) ?_ ?_
  · intro i x us G' P' H' R R0 hx e' hI hP j' kR kR0
    subst hP
    obtain ⟨k, hk, rfl⟩ := int_at hx
    refine hs k G' H' R R0 (List.mem_of_getElem? hk) e' j' (fun h G2 H2 e2 j2 => kR _ G2 _ H2 e2 rfl j2 ?_) (fun h G2 H2 e2 j2 => kR0 G2 _ H2 e2 rfl j2 ?_)
    · rw [take_fil hk, h, if_pos rfl, hI]
    · rw [take_fil hk, h, if_neg (by decide), hI, List.append_nil]
  · intro p us G' P' H' hp e' hd hI hP j'
    subst hP
    rw [List.length_map, List.take_length] at hI
    subst hI
    exact hq p G' H' hp e' j' hd
theorem aLcR2.fil {lo hi : Int} {n : Nat} (f : Int → Bool) (v : Int → V) (J : Join G P H) (hn : (hi - lo).toNat = n) (hb : -1000000 ≤ hi - lo ∧ hi - lo ≤ 1000000) (hs : Turn g tt te ts σ G P (rgI lo n) f v)
    (hq : ∀ p G' H', H p = none → Ex G G' → Join G' P H' → G' p = some (.lst (((rgI lo n).filter f).map v)) → Q (.ref p) H') : aLcR2 g tt te ts σ [.int lo, .int hi] H Q := by
  have hl : (rgI lo n).length ≤ 1000000 := by rw [rgI_len]; omega
  refine aLcR2.go (n := n) (fun P' => P' = P) (fun i us G' => us = ((((rgI lo n).take i).filter f).map v)) J rfl hn hb (fun _ _ => rfl) (fun _ _ _ _ _ _ _ h => h) (fun i us G2 h => by rw [h]; exact fil_len hl) ?_ ?_
  · intro i us G' P' H' R R0 hi e' hI hP j' kR kR0
    subst hP
    have hk := rgI_at (lo := lo) hi
    refine hs _ G' H' R R0 (List.mem_of_getElem? hk) e' j' (fun h G2 H2 e2 j2 => kR _ G2 _ H2 e2 rfl j2 ?_) (fun h G2 H2 e2 j2 => kR0 G2 _ H2 e2 rfl j2 ?_)
    · rw [take_fil hk, h, if_pos rfl, hI]
    · rw [take_fil hk, h, if_neg (by decide), hI, List.append_nil]
  · intro p us G' P' H' hp e' hd hI hP j'
    subst hP
    rw [show (rgI lo n).take n = rgI lo n by rw [List.take_of_length_le (by rw [rgI_len]; exact Nat.le_refl _)]] at hI
    subst hI
    exact hq p G' H' hp e' j' hd
theorem aLcR.fil {m : Int} {n : Nat} (f : Int → Bool) (v : Int → V) (J : Join G P H) (hn : m = n) (hb : n ≤ 1000000) (hs : Turn g tt te ts σ G P (rgI 0 n) f v)
    (hq : ∀ p G' H', H p = none → Ex G G' → Join G' P H' → G' p = some (.lst (((rgI 0 n).filter f).map v)) → Q (.ref p) H') : aLcR g tt te ts σ [.int m] H Q := by
  have hl : (rgI 0 n).length ≤ 1000000 := by rw [rgI_len]; omega
  refine aLcR.go (n := n) (fun P' => P' = P) (fun i us G' => us = ((((rgI 0 n).take i).filter f).map v)) J rfl hn hb (fun _ _ => rfl) (fun _ _ _ _ _ _ _ h => h) (fun i us G2 h => by rw [h]; exact fil_len hl) ?_ ?_
  · intro i us G' P' H' R R0 hi e' hI hP j' kR kR0
    subst hP
    have hk := rgI_at (lo := 0) hi
    rw [Int.zero_add] at hk
    refine hs _ G' H' R R0 (List.mem_of_getElem? hk) e' j' (fun h G2 H2 e2 j2 => kR _ G2 _ H2 e2 rfl j2 ?_) (fun h G2 H2 e2 j2 => kR0 G2 _ H2 e2 rfl j2 ?_)
    · rw [take_fil hk, h, if_pos rfl, hI]
    · rw [take_fil hk, h, if_neg (by decide), hI, List.append_nil]
  · intro p us G' P' H' hp e' hd hI hP j'
    subst hP
    rw [show (rgI 0 n).take n = rgI 0 n by rw [List.take_of_length_le (by rw [rgI_len]; exact Nat.le_refl _)]] at hI
    subst hI
    exact hq p G' H' hp e' j' hd
theorem fil_all : xs.filter (fun _ => true) = xs := List.filter_eq_self.mpr fun _ _ => rfl
theorem mapI {l : List Int} (h : Int → Int) : l.map (fun k => V.int (h k)) = (l.map h).map V.int := by rw [List.map_map]; rfl
theorem mapB {l : List Int} (h : Int → Bool) : l.map (fun k => V.bl (h k)) = (l.map h).map V.bl := by rw [List.map_map]; rfl
theorem all_go {f : Int → Bool} (J : Join G P H) (h : G a = some (.lst (xs.map fun k => V.bl (f k)))) (q : Q (.bl (xs.all f)) H) : rAll K [.ref a] H Q :=
  ⟨a, xs.map f, rfl, sqL (J.g _ _ (by rw [← mapB]; exact h)), by rw [List.all_map]; exact q⟩
theorem any_go {f : Int → Bool} (J : Join G P H) (h : G a = some (.lst (xs.map fun k => V.bl (f k)))) (q : Q (.bl (xs.any f)) H) : rAny K [.ref a] H Q :=
  ⟨a, xs.map f, rfl, sqL (J.g _ _ (by rw [← mapB]; exact h)), by rw [List.any_map]; exact q⟩
end
end Lv

/-! flags added, lists by a step -/
namespace Lv
open PySem PySem.Spec PyProof.Rows PySem.SeqAt L2
def rAddB : R2 := fun x y H Q => ∃ i k, x = .bl i ∧ y = .bl k ∧ Q (.int (b2i i + b2i k)) H
theorem Vals_at {xs : List V} {us : List Value} (r : Vals xs us) : ∀ i : Nat, (∃ x u, xs[i]? = some x ∧ us[i]? = some u ∧ RelV x u) ∨ (xs[i]? = none ∧ us[i]? = none) := by
  induction r with
  | nil => exact fun i => .inr ⟨rfl, rfl⟩
  | cons h _ ih =>
    intro i
    cases i with
    | zero => exact .inl ⟨_, _, rfl, rfl, h⟩
    | succ i => exact ih i
theorem Vals_pick {xs : List V} {us : List Value} (r : Vals xs us) : ∀ is : List Nat, Vals (is.filterMap (xs[·]?)) (is.filterMap (us[·]?))
  | [] => .nil
  | i :: is => by
    rcases Vals_at r i with ⟨x, u, h1, h2, h3⟩ | ⟨h1, h2⟩
    · rw [List.filterMap_cons_some h1, List.filterMap_cons_some h2]
      exact .cons h3 (Vals_pick r is)
    · rw [List.filterMap_cons_none h1, List.filterMap_cons_none h2]
      exact Vals_pick r is
section
variable {X : Cx}
theorem op_addBB : OpR X (binaryOp .Add) rAddB := by
  intro pins s σ H x y v u Q I rx ry h
  obtain ⟨i, k, rfl, rfl, q⟩ := h
  cases (show v = Value.bool i from rx)
  cases (show u = Value.bool k from ry)
  exact add_bool ⟨.int (b2i i + b2i k), H, I.tok _, ⟨_, rfl⟩, q⟩
/-- xs[::k] -/
def rStepL (K : PySem.W.Frag) : V → Option Int → Hp → VK → Prop := fun x o H Q => ∃ a xs k, x = .ref a ∧ o = some k ∧ 1 ≤ k ∧ SqL K H a xs ∧ ∀ p zs, H p = none → zs.length ≤ xs.length → (∀ z ∈ zs, z ∈ xs) → Q (.ref p) (upd H p (.lst zs))
def tStepL (K : PySem.W.Frag) (te : TE) (th : TO) : TE := fun σ H Q => te σ H fun x H1 => th σ H1 fun o H2 => rStepL K x o H2 Q
theorem pe_stepL {e f : Expr} {te : TE} {th : TO} {p3 pos : Pos} (he : PE X e te) (hf : PO X (some f) th) (hsub : ∀ (v w : Value), subscripted (.Slice none none (some f) p3) false v w = operate [v, w] (getItem v w) := by intro v w; with_unfolding_all rfl) : PE X (.Subscript e (.Slice none none (some f) p3) pos) (tStepL X.K te th) := by
  refine ⟨fun pins s σ H Q I h => ?_⟩
  refine Subscript_ (thn (he.run pins s σ H _ I h) fun v s1 ⟨x, H1, I1, r1, q1⟩ => ?_)
  refine wpAny_Slice (thn (po_none.run pins s1 σ H1 (fun o H2 => o = none ∧ H2 = H1) I1 ⟨rfl, rfl⟩) fun vl s2 ⟨l, H2, I2, pl, el, e2⟩ => ?_)
  subst el e2
  refine thn (po_none.run pins s2 σ H2 (fun o H3 => o = none ∧ H3 = H2) I2 ⟨rfl, rfl⟩) fun vu s3 ⟨u, H3, I3, pu, eu, e3⟩ => ?_
  subst eu e3
  refine thn (hf.run pins s3 σ H3 _ I3 q1) fun vs s4 ⟨o, H4, I4, ps, q2⟩ => ?_
  obtain ⟨a, xs, k, ex, eo, hk, hx, q⟩ := q2
  subst ex eo
  cases r1
  have I5 : Inv X pins σ H4 { s4 with heap := s4.heap.push { cls := .type "slice", data := .fields #[vl, vu, vs] } } := I4.kept (t' := s4.toks) fun b ob q => Heap.get?_push_of_some _ q
  obtain ⟨its, r, ht, hz⟩ := I5.list hx
  have hlen := r.length
  show wpAny (model X.prog X.w) X.A (subscriptTail e (.Slice none none (some f) p3) (.ref a) (.ref s4.heap.objs.size)) (EP X pins σ Q) X.xe { s4 with heap := s4.heap.push { cls := .type "slice", data := .fields #[vl, vu, vs] } }
  refine tail_any (ops := [.ref a, .ref s4.heap.objs.size]) ht.isList.typeIs (PySem.slot_list_getitem.lookup) ?_ (hsub _ _)
  refine wpAny_getItem_list_slice ht.isList (Heap.IsSliceOf.new _ vl vu vs) pl pu ps (by intro h; injection h with h; omega) ?_ (by rw [List.size_toArray]; omega)
  obtain ⟨is, e1⟩ : ∃ is : List Nat, slicePick its.toArray none none (some k) = (is.filterMap (its[·]?)).toArray := by
    refine ⟨sliceRange (sliceBounds none none (some k) its.toArray.size).1 (sliceBounds none none (some k) its.toArray.size).2.1 (sliceBounds none none (some k) its.toArray.size).2.2, ?_⟩
    unfold slicePick
    simp only [List.getElem?_toArray]
  have hle := slicePick_size_le its.toArray none none (some k)
  rw [e1] at hle ⊢
  have r2 := Vals_pick r is
  have hl2 := r2.length
  simp only [List.size_toArray] at hle
  refine ⟨.ref _, _, I5.laid (t' := s4.toks) (o := .lst (is.filterMap (xs[·]?))) (fun b ob q => Heap.get?_push_of_some _ q) (Nat.le_refl _) ?_, rfl, q _ (is.filterMap (xs[·]?)) (I5.hok.fresh (Nat.le_refl _)) (by omega) fun z hz => ?_⟩
  · exact ⟨by omega, _, 0, r2, Heap.get?_push_size _ rfl⟩
  · obtain ⟨i, _, hi⟩ := List.mem_filterMap.mp hz
    exact List.mem_of_getElem? hi
end
section
variable {K : PySem.W.Frag} {σ : L2.St} {H : Hp} {Q : VK} {te : TE} {th : TO}
theorem w_addB {a b : Bool} (h : Q (.int (b2i a + b2i b)) H) : rAddB (.bl a) (.bl b) H Q := ⟨a, b, rfl, rfl, h⟩
theorem w_stepL (h : te σ H fun x H1 => th σ H1 fun o H2 => rStepL K x o H2 Q) : tStepL K te th σ H Q := h
theorem stepL_go {G P : Hp} {a : Addr} {xs : List V} {k : Int} (J : Join G P H) (h : G a = some (.lst xs)) (hk : 1 ≤ k) (q : ∀ p zs G' H', H p = none → zs.length ≤ xs.length → (∀ z ∈ zs, z ∈ xs) → Ex G G' → Join G' P H' → G' p = some (.lst zs) → Q (.ref p) H') : rStepL K (.ref a) (some k) H Q :=
  ⟨a, xs, k, rfl, rfl, hk, sqL (J.g _ _ h), fun p zs hp hl hm => q p zs _ _ hp hl hm (Ex.new (J.ng hp)) (J.newG hp) upd_same⟩
end
end Lv

/-! list(range(i, j)) of numbers of any size -/
namespace Lv
open PySem PySem.Spec PyProof.Rows L2
section
variable {prog : Program} {w : World} {A : Around} {E : Value → Shared → Prop} {s : Shared}
theorem ext_long {R : Result → Shared → Prop} {r : Addr} {a b c : Int} {t u v : Tok} {n : Nat} (nh : A.handled = none) (rg : IsRange s.heap r a b c t u v) (big : Builtin.Range.small a b c = false)
    (sz : Builtin.Range.rangeSize a b c = n) (le : n ≤ 2 ^ 24) (L : Addr) (res : Value) (c0 : Nat) (atL : s.heap.get? L = some { cls := .type "list", data := .seq #[] c0 })
    (out : ∀ h' tk xs c', (∀ b o, b ≠ L → s.heap.get? b = some o → h'.get? b = some o) → h'.get? L = some { cls := .type "list", dict := none, data := .seq xs c', slots := #[] } →
      ItemsOf (fun i v => ∃ t, v = .int (a + i * c) t) xs n → R (.ok (.ret res)) { s with heap := h', toks := tk }) :
    wpAny (model prog w) A.in1 (Builtin.List.listExtendWith (.ref L) (.ref r) res)
      (fun fin s' => match fin with | .done f => R (.ok f) s' | .again c' => c'.quiet = true ∧ codeAny (model prog w) A c' R s') (fun e s' => R (.error e) s') s := by
  have nLr : L ≠ r := fun e => by rw [e, rg] at atL; simp at atL
  have nLI : L ≠ s.heap.objs.size := Nat.ne_of_lt (Heap.lt_size atL)
  have W := (Walks.longrange (prog := prog) (w := w) (A := A.in1) nh s.heap.objs.size a c n).toS
  have loop : ∀ (h : Heap) (c1 tk : Nat), IsLongIter h s.heap.objs.size (a + ((0 : Nat) : Int) * c) ((n : Int) - ((0 : Nat) : Int)) c → (∀ b o, b ≠ L → s.heap.get? b = some o → h.get? b = some o) → h.get? L = some { cls := .type "list", data := .seq #[] c1 } →
      codeAny (model prog w) A (.builtin "list.extend.loop" ⟨[.ref L, .ref s.heap.objs.size, res], []⟩) R { s with heap := h, toks := tk } := fun h c1 tk it keep one => by
    refine codeAny_extend_loopS W (by rw [sizeLine_eq]; omega) L (fun m => nLI (List.mem_singleton.mp m)) res n 0 _ #[] c1 rfl (Nat.zero_le _) it one (ItemsOf.nil _) fun s' xs c' mv gL its => ?_
    rw [Moved.eq_with mv]
    refine out s'.heap s'.toks xs c' (fun b o nb e => mv.heap b o (fun m => ?_) (keep b o nb e)) gL its
    rcases List.mem_cons.mp m with q | q
    · exact nb q
    · rw [List.mem_singleton.mp q] at e; exact absurd (Heap.lt_size e) (Nat.lt_irrefl _)
  unfold Builtin.List.listExtendWith
  have d1 : Builtin.List.listSameRef (.ref L) (.ref r) = false := by simp [Builtin.List.listSameRef, nLr]
  have d2 : ((Value.type "range" == Value.type "list") || (Value.type "range" == Value.type "tuple")) = false := by decide
  refine wpAny_bind (wpAny_typeOf (T := "range") ⟨_, rg, rfl⟩ ?_)
  simp only [d1, d2, Bool.or_false, Bool.false_or, Bool.false_eq_true, if_false]
  first
    | refine wpAny_bind (wpAny_pyIter_longrange rg big ?_)
    | (simp only [show (Value.type "range" == Value.type "list") = false by decide, show (Value.type "range" == Value.type "tuple") = false by decide, Bool.or_false, Bool.false_eq_true, if_false]
       refine wpAny_bind (wpAny_pyIter_longrange rg big ?_))
  have ext : ∀ z o, s.heap.get? z = some o → (s.heap.push { cls := .type "longrange_iterator", data := .fields #[rawInt a, rawInt (Builtin.Range.rangeSize a b c), rawInt c] }).get? z = some o := fun z o e => Heap.get?_push_of_some _ e
  have it1 : IsLongIter (s.heap.push { cls := .type "longrange_iterator", data := .fields #[rawInt a, rawInt (Builtin.Range.rangeSize a b c), rawInt c] }) s.heap.objs.size (a + ((0 : Nat) : Int) * c) ((n : Int) - ((0 : Nat) : Int)) c := by
    unfold IsLongIter
    rw [sz]; simpa using Heap.get?_push_size _ rfl
  generalize (s.heap.push { cls := .type "longrange_iterator", data := .fields #[rawInt a, rawInt (Builtin.Range.rangeSize a b c), rawInt c] }) = h1 at ext it1
  have L1 := ext _ _ atL
  refine wpAny_bind (wpAny_holding (wpAny_hint_range (n := n) (ext _ _ rg) sz le ?_))
  refine wpAny_ite_split (fun _ => wpAny_bind (wpAny_rule (wpAny_bind ?_))) (fun _ => wpAny_pure ⟨plainId_quiet F.plain_extend_loop _, loop h1 c0 _ it1 (fun b o _ e => ext b o e) L1⟩)
  show wpAny _ _ (updateSeq L (·.push .none) >>= fun _ => updateSeq L (·.pop)) _ _ _
  have L2' := Heap.get?_update_self (Obj.mapSeq (·.push Value.none)) L1 rfl
  have L3 := Heap.get?_update_self (Obj.mapSeq (·.pop)) L2' rfl
  refine wpAny_bind (wpAny_updateSeq L1 rfl (wpAny_updateSeq (hz := by seq_fits) L2' rfl (wpAny_pure ⟨plainId_quiet F.plain_extend_loop _, loop _ _ _ (Eq.trans (Heap.get?_update_other _ _ nLI) (Eq.trans (Heap.get?_update_other _ _ nLI) it1)) (fun b o nb e => ?_) L3⟩)))
  exact Eq.trans (Heap.get?_update_other _ _ (Ne.symm nb)) (Eq.trans (Heap.get?_update_other _ _ (Ne.symm nb)) (ext b o e))
theorem init_long {R : Result → Shared → Prop} {r : Addr} {a b c : Int} {t u v : Tok} {n : Nat} (nh : A.handled = none) (rg : IsRange s.heap r a b c t u v) (big : Builtin.Range.small a b c = false)
    (sz : Builtin.Range.rangeSize a b c = n) (le : n ≤ 2 ^ 24) (L : Addr) (atL : s.heap.get? L = some { cls := .type "list", data := .seq #[] })
    (out : ∀ h' tk xs c', (∀ b o, b ≠ L → s.heap.get? b = some o → h'.get? b = some o) → h'.get? L = some { cls := .type "list", dict := none, data := .seq xs c', slots := #[] } →
      ItemsOf (fun i v => ∃ t, v = .int (a + i * c) t) xs n → R (.ok (.ret .none)) { s with heap := h', toks := tk }) :
    wpAny (model prog w) A.in1 (Builtin.«list.__init__» ⟨[.ref L, .ref r], []⟩)
      (fun fin s' => match fin with | .done f => R (.ok f) s' | .again c' => c'.quiet = true ∧ codeAny (model prog w) A c' R s') (fun e s' => R (.error e) s') s := by
  have nLr : L ≠ r := fun e => by rw [e, rg] at atL; simp at atL
  show wpAny _ _ (do let old ← Builtin.List.listItems (.ref L); Builtin.List.listUpdate (.ref L) (fun _ => #[]); letGo old.toList.reverse; Builtin.List.listExtendWith (.ref L) (.ref r) .none) _ _ s
  refine wpAny_bind (m := Builtin.List.listItems (.ref L)) ?_
  unfold Builtin.List.listItems
  refine wpAny_bind (wpAny_seqItems atL rfl ?_); refine wpAny_pure ?_
  show wpAny _ _ (updateSeq L (fun _ => #[]) >>= fun _ => letGo (#[] : Array Value).toList.reverse >>= fun _ => Builtin.List.listExtendWith (.ref L) (.ref r) .none) _ _ s
  have keep : ∀ b o, b ≠ L → s.heap.get? b = some o → (s.heap.update L (Obj.mapSeq (fun _ => (#[] : Array Value)))).get? b = some o := fun b o nb e => Eq.trans (Heap.get?_update_other _ _ (Ne.symm nb)) e
  have L2' := Heap.get?_update_self (Obj.mapSeq (fun _ => (#[] : Array Value))) atL rfl
  refine wpAny_bind (wpAny_updateSeq atL rfl (wpAny_bind (wpAny_letGo ?_)))
  exact ext_long nh (keep r _ (Ne.symm nLr) rg) big sz le L .none _ L2' fun h' tk xs c' k' g its => out h' tk xs c' (fun b o nb e => k' b o nb (keep b o nb e)) g its
theorem list_long {Q : Value → Shared → Prop} {r : Addr} {a b c : Int} {t u v : Tok} {n : Nat} (nh : A.handled = none) (rg : IsRange s.heap r a b c t u v) (big : Builtin.Range.small a b c = false)
    (sz : Builtin.Range.rangeSize a b c = n) (le : n ≤ 2 ^ 24)
    (out : ∀ h' tk xs c', (∀ b o, s.heap.get? b = some o → h'.get? b = some o) →
      h'.get? s.heap.objs.size = some { cls := .type "list", dict := none, data := .seq xs c', slots := #[] } → ItemsOf (fun i v => ∃ t, v = .int (a + i * c) t) xs n → Q (.ref s.heap.objs.size) { s with heap := h', toks := tk }) :
    wpAny (model prog w) A (call (.type "list") [.ref r]) Q E s := by
  have new : (s.heap.push { cls := .type "list", data := .seq #[] }).get? s.heap.objs.size = some { cls := .type "list", data := .seq #[] } := Heap.get?_push_size _ rfl
  refine callType_codes (Q₁ := fun obj s1 => obj = .ref s.heap.objs.size ∧ s1 = { s with heap := s.heap.push { cls := .type "list", data := .seq #[] } }) F.called_list (F.typeCall_list_1 _) F.entry_list_init (code_list_new _ ⟨rfl, rfl⟩) fun obj s1 h1 => ?_
  obtain ⟨rfl, rfl⟩ := h1
  exact ⟨⟨_, new, rfl⟩, F.args_list_init_2 _ _, init_long (A := A.in1) nh (Heap.get?_push_of_some _ rg) big sz le _ new fun h' tk xs c' k' g its => ⟨rfl, out h' tk xs c' (fun b o e => k' b o (Nat.ne_of_lt (Heap.lt_size e)) (Heap.get?_push_of_some _ e)) g its⟩⟩
end
section
variable {X : Cx} {e : Expr} {te : L2.St → Hp → (Int → Int → Hp → Prop) → Prop}
def tLstRgW (te : L2.St → Hp → (Int → Int → Hp → Prop) → Prop) : TE := fun σ H Q => te σ H fun a b H1 => (b - a).toNat ≤ 2 ^ 24 ∧ ∀ q, H1 q = none → Q (.ref q) (upd H1 q (.lst (rgV a b)))
theorem pe_listRgW {p pos : Pos} (hc : X.calm = true) (hg : Gl X "list") (hm : X.mg "list" = none) (he : PRg X e te) (na : starEach [e] X.env = (false, eval e X.env) :: starEach [] X.env := by rfl) : PE X (.Call (.Name "list" p) [e] [] pos) (tLstRgW te) := by
  refine ⟨fun pins s σ H Q I h => ?_⟩
  refine Call_ (ld_blt I hg hm boot_list (PyProof.Rows.callWith_type1 (args_cons (thn (he pins s σ H _ I h) fun x s1 ⟨r, a, b, t, u, v, H1, ex, hr, I1, b5, q⟩ => args_nil ?_) na) na))
  subst ex
  have fin : ∀ h' tk acc c', (∀ b o, s1.heap.get? b = some o → h'.get? b = some o) → h'.get? s1.heap.objs.size = some { cls := .type "list", dict := none, data := .seq acc c', slots := #[] } → ItemsOf (fun i v => ∃ t, v = .int (a + i * 1) t) acc (b - a).toNat →
      EP X pins σ Q (.ref s1.heap.objs.size) { s1 with heap := h', toks := tk } := fun h' tk acc c' hk e' hi => by
    refine ⟨.ref s1.heap.objs.size, upd H1 s1.heap.objs.size (.lst (rgV a b)), I1.laid hk (Nat.le_refl _) (show ObjOk X.prog X.w _ _ _ (.lst (rgV a b)) from ⟨?_, acc.toList, c', vals_rg hi, ?_⟩), rfl, q _ (I1.hok.fresh (Nat.le_refl _))⟩
    · rw [rgV_length, sizeLine_eq]; omega
    · rw [Array.toArray_toList]; exact e'
  cases hsm : Builtin.Range.small a b 1 with
  | true => exact call_list_range (n := (b - a).toNat) (I1.ok.hd hc) hr hsm (rangeSize_nat a b) b5 fin
  | false => exact list_long (n := (b - a).toNat) (I1.ok.hd hc) hr hsm (rangeSize_nat a b) b5 fin
end
section
variable {K : PySem.W.Frag} {σ : L2.St} {H : Hp} {Q : VK} {ta tb : TE}
def aLstRgW (a b : Int) : Hp → VK → Prop := fun H Q => (b - a).toNat ≤ 2 ^ 24 ∧ ∀ q, H q = none → Q (.ref q) (upd H q (.lst (rgV a b)))
theorem w_lstRgW {tr : L2.St → Hp → (Int → Int → Hp → Prop) → Prop} (h : tr σ H fun a b H1 => aLstRgW a b H1 Q) : tLstRgW tr σ H Q := h
theorem w_rg2 {S : Int → Int → Hp → Prop} (h : ta σ H fun x H1 => tb σ H1 fun y H2 => ∃ i j : Int, x = .int i ∧ y = .int j ∧ S i j H2) : tRg2 ta tb σ H S := h
theorem w_rg2' {S : Int → Int → Hp → Prop} {a b : Int} (h : S a b H) : ∃ i j : Int, V.int a = .int i ∧ V.int b = .int j ∧ S i j H := ⟨a, b, rfl, rfl, h⟩
theorem aLstRgW.go {lo hi : Int} {n : Nat} {G P : Hp} (J : Join G P H) (hn : (hi - lo).toNat = n) (hm : n ≤ 100000) (q : ∀ p G' H', H p = none → Ex G G' → Join G' P H' → G' p = some (.lst ((rgI lo n).map V.int)) → Q (.ref p) H') : aLstRgW lo hi H Q := by
  subst hn
  refine ⟨by omega, fun p hp => q p _ _ hp (Ex.new (J.ng hp)) (J.newG hp) ?_⟩
  rw [upd_same]
  congr 2
  unfold rgV rgI
  rw [List.map_map]
  rfl
end
end Lv

/-! walks of dicts that are locked; d.get(k, x) -/
namespace Lv
open PySem PySem.Spec PyProof.Rows L2
theorem for_keys {d : Addr} {o : Obj} {kvs : List (L2.Key × V)} {g : TG} {tb : TS} {D : Ends} {σ : L2.St} {H : Hp} (Pv : Nat → L2.St → Hp → Prop) (h0 : Pv 0 σ H) (hl : ∀ i σ H, i ≤ kvs.length → Pv i σ H → H d = some (.frz o (.dK kvs)))
    (hs : ∀ (i : Nat) (k : L2.Key) (v : V) σ H, kvs[i]? = some (k, v) → Pv i σ H → g (kV k) σ H fun σ2 H2 => tb { D with nx := Pv (i + 1), ct := Pv (i + 1), bk := D.nx } σ2 H2) (hd : ∀ σ H, Pv kvs.length σ H → D.nx σ H) :
    ∃ W : Nat → Nat → L2.St → Hp → Prop, (∃ m, W 0 m σ H) ∧ ∀ i m σ H, W i m σ H →
      ((Itk d o kvs).stop i H ∧ D.nx σ H) ∨ ((Itk d o kvs).go i H ∧ ∃ N : L2.St → Hp → Prop, (∀ σ' H', N σ' H' → ∃ m', m' < m ∧ W (i + 1) m' σ' H') ∧ ∀ x H', (Itk d o kvs).yld i H x H' → g x σ H' fun σ2 H2 => tb { D with nx := N, ct := N, bk := D.nx } σ2 H2) := by
  refine ⟨fun i m σ H => m = kvs.length - i ∧ i ≤ kvs.length ∧ Pv i σ H, ⟨kvs.length, by simp, Nat.zero_le _, h0⟩, ?_⟩
  rintro i m σ H ⟨rfl, hi, p⟩
  have q := hl i σ H hi p
  by_cases c : i < kvs.length
  · refine .inr ⟨⟨q, c⟩, Pv (i + 1), fun σ' H' p' => ⟨kvs.length - (i + 1), by omega, rfl, c, p'⟩, fun x H' y => ?_⟩
    obtain ⟨e, k, v, hk, rfl⟩ := y
    subst e
    exact hs i k v σ _ hk p
  · have e : i = kvs.length := by omega
    subst e
    exact .inl ⟨⟨q, Nat.le_refl _⟩, hd σ H p⟩
theorem lc_keys {d : Addr} {o : Obj} {kvs : List (L2.Key × V)} {g : TG} {tt : TT} {te : TE} {vs : List Nat} {σ : L2.St} {H1 : Hp} {D : Addr} {Qd : Hp → Prop} (Pv : Nat → Hp → Prop) (h0 : Pv 0 (upd H1 D (.lst []))) (hl : ∀ i H, i ≤ kvs.length → Pv i H → H d = some (.frz o (.dK kvs)))
    (hs : ∀ (i : Nat) (k : L2.Key) (v : V) H, kvs[i]? = some (k, v) → Pv i H → g (kV k) (wipe σ vs) H fun σ2 H2 => wipe σ2 vs = wipe σ vs ∧ tt σ2 H2 fun b H3 =>
      if b = true then te σ2 H3 fun y H4 => ∃ acc, H4 D = some (.lst acc) ∧ acc.length < sizeLine ∧ Pv (i + 1) (upd H4 D (.lst (acc ++ [y]))) else Pv (i + 1) H3) (hd : ∀ H, Pv kvs.length H → Qd H) :
    ∃ W : Nat → Nat → Hp → Prop, (∃ m, W 0 m (upd H1 D (.lst []))) ∧ ∀ i m H, W i m H →
      ((Itk d o kvs).stop i H ∧ Qd H) ∨ ((Itk d o kvs).go i H ∧ ∃ Nx : Hp → Prop, (∀ H', Nx H' → ∃ m', m' < m ∧ W (i + 1) m' H') ∧ ∀ x H', (Itk d o kvs).yld i H x H' → g x (wipe σ vs) H' fun σ2 H2 => wipe σ2 vs = wipe σ vs ∧ tt σ2 H2 fun b H3 =>
        if b = true then te σ2 H3 fun y H4 => ∃ acc, H4 D = some (.lst acc) ∧ acc.length < sizeLine ∧ Nx (upd H4 D (.lst (acc ++ [y]))) else Nx H3) := by
  refine ⟨fun i m H => m = kvs.length - i ∧ i ≤ kvs.length ∧ Pv i H, ⟨kvs.length, by simp, Nat.zero_le _, h0⟩, ?_⟩
  rintro i m H ⟨rfl, hi, p⟩
  have q := hl i H hi p
  by_cases c : i < kvs.length
  · refine .inr ⟨⟨q, c⟩, Pv (i + 1), fun H' p' => ⟨kvs.length - (i + 1), by omega, rfl, c, p'⟩, fun x H' y => ?_⟩
    obtain ⟨e, k, v, hk, rfl⟩ := y
    subst e
    exact hs i k v _ hk p
  · have e : i = kvs.length := by omega
    subst e
    exact .inl ⟨⟨q, Nat.le_refl _⟩, hd H p⟩
theorem keyP_at {ns : List Int} {i : Nat} {k : L2.Key} {v : V} (h : (keyP ns)[i]? = some (k, v)) : ∃ n, ns[i]? = some n ∧ k = .inl n := by
  unfold keyP at h
  rw [List.getElem?_map] at h
  cases e : ns[i]? with
  | none => rw [e] at h; cases h
  | some n => rw [e] at h; injection h with h; injection h with h1 h2; exact ⟨n, rfl, h1.symm⟩
section
variable {σ : L2.St} {G P H : Hp} {Q : VK} {nx bk ct : L2.St → Hp → Prop} {rt : VK} {td ty tx : TE} {tt : TT} {te : TE} {g : TG} {tb : TS} {d : Addr} {ns : List Int} {ts : List Nat}
theorem forK_go (J : Join G P H) (h : G d = some (.dK (keyP ns))) (htd : ∀ (H' : Hp) (Q : VK), Q (.ref d) H' → td σ H' Q) (I : Nat → Hp → Hp → L2.St → Prop) (h0 : ∀ od, I 0 (upd G d (.frz od (.dK (keyP ns)))) P σ)
    (hs : ∀ (od : Obj) (rt' : VK) (bk' : L2.St → Hp → Prop) (i : Nat) (n : Int) (G' P' H' : Hp) (σ' : L2.St), ns[i]? = some n → G' d = some (.frz od (.dK (keyP ns))) → Join G' P' H' → I i G' P' σ' →
      g (.int n) σ' H' fun σ2 H2 => tb ⟨fun σ3 H3 => ∃ G3 P3, Join G3 P3 H3 ∧ G3 d = some (.frz od (.dK (keyP ns))) ∧ I (i + 1) G3 P3 σ3, rt', bk', fun σ3 H3 => ∃ G3 P3, Join G3 P3 H3 ∧ G3 d = some (.frz od (.dK (keyP ns))) ∧ I (i + 1) G3 P3 σ3⟩ σ2 H2)
    (hq : ∀ (od : Obj) (G' P' H' : Hp) (σ' : L2.St), G' d = some (.frz od (.dK (keyP ns))) → Join G' P' H' → I ns.length G' P' σ' → nx σ' (upd H' d (.dK (keyP ns)))) : tLock (tFor (iKeys td) g tb) ⟨nx, rt, bk, ct⟩ σ H := by
  refine ⟨d, .dK (keyP ns), J.g _ _ h, trivial, fun od => htd _ _ ⟨d, od, rfl, .inl ⟨keyP ns, upd_same, ?_⟩⟩⟩
  refine for_keys (fun i σ' H' => ∃ G3 P3, Join G3 P3 H' ∧ G3 d = some (.frz od (.dK (keyP ns))) ∧ I i G3 P3 σ') ⟨_, P, J.setG (J.gp h), upd_same, h0 od⟩ (fun i σ' H' _ ⟨G', P', j', hd, _⟩ => j'.g _ _ hd) (fun i k v σ' H' hk ⟨G', P', j', hd, hI⟩ => ?_) (fun σ' H' ⟨G', P', j', hd, hI⟩ => ?_)
  · obtain ⟨n, hn, rfl⟩ := keyP_at hk
    exact hs od _ _ i n G' P' H' σ' hn hd j' hI
  · rw [keyP, List.length_map] at hI
    exact ⟨j'.g _ _ hd, hq od G' P' H' σ' hd j' hI⟩
/-- [.. for n in d], d locked -/
theorem lcK_go {f : Int → Bool} {v : Int → V} (J : Join G P H) (h : G d = some (.dK (keyP ns))) (hl : ns.length ≤ 1000000) (htd : ∀ (H' : Hp) (Q : VK), Q (.ref d) H' → td σ H' Q)
    (hs : ∀ (k : Int) (G' H' : Hp) (R : VK) (R0 : Hp → Prop), k ∈ ns → But d G G' → Join G' P H' → (f k = true → R (v k) H') → (f k = false → R0 H') →
      g (.int k) (wipe σ ts) H' fun σ2 H2 => wipe σ2 ts = wipe σ ts ∧ tt σ2 H2 fun b H3 => if b = true then te σ2 H3 R else R0 H3)
    (hq : ∀ p G' H', H p = none → Ex G G' → Join G' P H' → G' p = some (.lst ((ns.filter f).map v)) → Q (.ref p) H') : tLockE (tLc (iKeys td) g tt te ts) σ H Q := by
  refine ⟨d, .dK (keyP ns), J.g _ _ h, trivial, fun od => htd _ _ ⟨d, od, rfl, .inl ⟨keyP ns, upd_same, fun D hD => ?_⟩⟩⟩
  have nD : D ≠ d := fun e => by rw [e, upd_same] at hD; cases hD
  have hD0 : H D = none := by rw [upd_ne nD] at hD; exact hD
  have gD : G D = none := J.ng hD0
  have jl : Join (upd G d (.frz od (.dK (keyP ns)))) P (upd H d (.frz od (.dK (keyP ns)))) := J.setG (J.gp h)
  refine lc_keys (fun i H' => ∃ G', But d G G' ∧ G' d = some (.frz od (.dK (keyP ns))) ∧ G' D = some (.lst (((ns.take i).filter f).map v)) ∧ Join G' P H') ⟨_, fun b o e nb => ?_, Eq.trans (upd_ne (Ne.symm nD)) upd_same, upd_same, jl.newG hD⟩ (fun i H' _ ⟨G', _, hd, _, j'⟩ => j'.g _ _ hd) (fun i k x H' hk ⟨G', b', hd, hDl, j'⟩ => ?_) (fun H' ⟨G', b', hd, hDl, j'⟩ => ?_)
  · rw [upd_ne (ne_of_none e gD), upd_ne nb]; exact e
  · obtain ⟨n, hn, rfl⟩ := keyP_at hk
    refine hs n G' H' _ _ (List.mem_of_getElem? hn) b' j' (fun c => ⟨_, j'.g _ _ hDl, Nat.lt_of_le_of_lt (fil_len hl) (by decide), _, fun b o e nb => ?_, Eq.trans (upd_ne (Ne.symm nD)) hd, ?_, j'.setG (j'.gp hDl)⟩) (fun c => ⟨G', b', hd, ?_, j'⟩)
    · rw [upd_ne (ne_of_none e gD)]; exact b' b o e nb
    · rw [upd_same, take_fil hn, c, if_pos rfl]
    · rw [hDl, take_fil hn, c, if_neg (by decide), List.append_nil]
  · rw [keyP, List.length_map, List.take_length] at hDl
    refine ⟨j'.g _ _ hd, hq D (upd G' d (.dK (keyP ns))) _ hD0 (fun b o e => ?_) (j'.setG (j'.gp hd)) (Eq.trans (upd_ne nD) hDl)⟩
    by_cases c : b = d
    · subst c; rw [upd_same, ← h]; exact e
    · rw [upd_ne c]; exact b' b o e c
/-- d.get(k, x) -/
def aDGet2 (ty tx : TE) (σ : L2.St) : V → Hp → VK → Prop := fun x H1 Q => ∃ a, x = .ref a ∧ IsD H1 a ∧ ty σ H1 fun y H2 => tx σ H2 fun z H3 => ∃ o, DGet H3 a y o ∧ Q (o.getD z) H3
theorem w_dget2 (h : td σ H fun x H1 => aDGet2 ty tx σ x H1 Q) : tDGet2 td ty tx σ H Q := h
def rDGet2 (a : Addr) (y z : V) : Hp → VK → Prop := fun H Q => ∃ o, DGet H a y o ∧ Q (o.getD z) H
theorem dget2_go {kvs : List (L2.Key × V)} (J : Join G P H) (h : G d = some (.dK kvs)) (q : ty σ H fun y H2 => tx σ H2 fun z H3 => rDGet2 d y z H3 Q) : aDGet2 ty tx σ (.ref d) H Q :=
  ⟨d, rfl, .inl ⟨kvs, .inl (J.g _ _ h)⟩, q⟩
theorem rdget2_go {kvs : List (L2.Key × V)} {k : Int} {z : V} (J : Join G P H) (h : G d = some (.dK kvs)) (q : Q ((valV kvs (.inl k)).getD z) H) : rDGet2 d (.int k) z H Q :=
  ⟨_, DGet.k (k := .inl k) (J.g _ _ h), q⟩
def aDPut (v y : V) (nx : L2.St → Hp → Prop) (σ : L2.St) : V → Hp → Prop := fun x H3 => ∃ a H4, x = .ref a ∧ DPut H3 a y v H4 ∧ nx σ H4
theorem w_dput {tv : TE} (h : tv σ H fun v H1 => td σ H1 fun x H2 => ty σ H2 fun y H3 => aDPut v y nx σ x H3) : sDPut td ty tv ⟨nx, rt, bk, ct⟩ σ H := h
theorem dput_go {kvs : List (L2.Key × V)} {k : Int} {v : V} (J : Join G P H) (h : G d = some (.dK kvs)) (hl : kvs.length < 100000) (q : ∀ G' H', But d G G' → Join G' P H' → G' d = some (.dK (putK kvs (.inl k) v)) → nx σ H') : aDPut v (.int k) nx σ (.ref d) H :=
  ⟨d, _, rfl, DPut.k (k := .inl k) (J.g _ _ h) (szlt hl), q _ _ (fun b o e nb => by rw [upd_ne nb]; exact e) (J.setG (J.gp h)) upd_same⟩
end
end Lv

/-! lists unpacked -/
namespace Lv
open PySem PySem.Spec PyProof.Rows L2
theorem w_glst {K : PySem.W.Frag} {σ : L2.St} {H : Hp} {N : L2.St → Hp → Prop} {gs : TGs} {n : Nat} {a : Addr} {xs : List V} (e : H a = some (.lst xs)) (l : xs.length = n) (h : gs xs σ H N) : gLst K n gs (.ref a) σ H N := ⟨a, xs, rfl, sqL e, l, h⟩
end Lv

/-! things of other kinds than a class's own -/
namespace Lv
open PySem PySem.Spec PyProof.Rows L2
def kindN : List String := ["int", "bool", "NoneType", "str", "list", "tuple", "dict"]
/-- what a class with an own == has to do with the kinds -/
def otB (K : PySem.W.Frag) (c : Str) : Bool := kindN.all fun t => PySem.W.notFirst K (He.ga K c) (.type t) && (decide (PySem.W.kitOne K (.type t) (.ref (He.ga K c)) = some false) && decide (PySem.W.kitOne K (.ref (He.ga K c)) (.type t) = some false))
theorem otB_ok {K : PySem.W.Frag} {c : Str} (h : otB K c = true) {t : String} (ht : t ∈ kindN) : PySem.W.notFirst K (He.ga K c) (.type t) = true ∧ PySem.W.kitOne K (.type t) (.ref (He.ga K c)) = some false ∧ PySem.W.kitOne K (.ref (He.ga K c)) (.type t) = some false := by
  have := List.all_eq_true.mp h t ht
  rw [Bool.and_eq_true, Bool.and_eq_true, decide_eq_true_iff, decide_eq_true_iff] at this
  exact this
section
variable {K : PySem.W.Frag} {G H : Hp} {v : V} {Q : VK}
theorem kd_ty (J : Ex G H) (h : Kd G v) : ∃ t ∈ kindN, TyX K H v (.type t) := by
  cases h with
  | int n => exact ⟨_, by decide, .base (.int n)⟩
  | bl b => exact ⟨_, by decide, .base (.bl b)⟩
  | non => exact ⟨_, by decide, .base .non⟩
  | str z => exact ⟨_, by decide, .base (.str z)⟩
  | lst h => exact ⟨_, by decide, .base (.lst (J _ _ h))⟩
  | tup h => exact ⟨_, by decide, .base (.tup (J _ _ h))⟩
  | dic h => exact ⟨_, by decide, .base (.dK (J _ _ h))⟩
theorem isi_kd {c : Str} (o : otB K c = true) (J : Ex G H) (h : Kd G v) (q : Q (.bl false) H) : rIsi K [v, .ref (He.ga K c)] H Q := by
  obtain ⟨t, ht, ty⟩ := kd_ty (K := K) J h
  exact ⟨_, _, _, _, false, rfl, .own _, ty, (otB_ok o ht).2.1, q⟩
end
end Lv

namespace Lv
open PySem PySem.Spec PyProof.Rows L2

/-! ### the hook with the interpreter's own statics -/
def asV (n : Nat) (g : Addr → Option Obj) : List Addr := He.asD g n ++ [cStatics]
def obsV (n : Nat) (fa : List He.Fa) (fn : List He.DefD) (ex : PySem.W.Frag → Bool) (g : Addr → Option Obj) : He.AlX := (He.obsT fa fn [] (He.frT g (asV n g)), ex (He.frT g (asV n g)))
theorem saysV_of {n : Nat} {fa : List He.Fa} {fn : List He.DefD} {ex : PySem.W.Frag → Bool} {w : World} {h : Heap} (e : obsV n fa fn ex h.get? = He.valX fn [] w) : He.SaysX fa fn [] [] ex w h (He.frT h.get? (asV n h.get?)) :=
  ⟨congrArg (fun z : He.AlX => z.1) e, congrArg (fun z : He.AlX => z.2) e, fun p hp => absurd hp (by simp), fun p hp => absurd hp (by simp), fun p hp => absurd hp (by simp)⟩
def hookV (n : Nat) (fa : List He.Fa) (fn : List He.DefD) (ex : PySem.W.Frag → Bool) : PySem.W.Hook where
  α := He.AlX
  obs := fun s => obsV n fa fn ex s.heap.get?
  val := fun w => He.valX fn [] w
  says := fun w h => ∃ K : PySem.W.Frag, K.In h ∧ He.SaysX fa fn [] [] ex w h K
  of := fun _ _ e => ⟨_, He.frT_in, saysV_of e⟩
  keeps := fun _ _ _ ⟨K, hK, c⟩ k => ⟨K, PySem.W.Frag.In.keeps hK k, ⟨c.t, c.more, c.hd, c.out, fun p hp => k _ _ (c.empty p hp)⟩⟩
theorem obsV_eq {n : Nat} {fa : List He.Fa} {fn : List He.DefD} {ex : PySem.W.Frag → Bool} {g : Addr → Option Obj} {s : Shared} (h : ∀ a, g a = s.heap.get? a) : obsV n fa fn ex g = (hookV n fa fn ex).obs s := by
  have e : g = s.heap.get? := funext h
  rw [e] <;> rfl

/-! ### an exception class of one field whose __init__ says super().__init__(x) and self.x = x -/
def xiBd (f : Str) : FuncBody → Bool
  | .stmts [.Expr (.Call (.Attribute (.Call (.Name a _) [] [] _) b p3) [.Name c _] [] p5) _, .Assign [.Attribute (.Name d _) e _] (.Name g _) _] =>
    decide (p3.endLine = p5.line) && (decide (a = "super") && (decide (b = "__init__") && (decide (c = f) && (decide (d = "self") && (decide (e = f) && decide (g = f))))))
  | _ => false
theorem xiBd_ok {f : Str} {b : FuncBody} (h : xiBd f b = true) : ∃ p1 p2 p3 p4 p5 p6 p7 p8 p9 p10 : Pos, p3.endLine = p5.line ∧
    b = .stmts [.Expr (.Call (.Attribute (.Call (.Name "super" p1) [] [] p2) "__init__" p3) [.Name f p4] [] p5) p6, .Assign [.Attribute (.Name "self" p7) f p8] (.Name f p9) p10] := by
  unfold xiBd at h
  split at h
  · simp only [Bool.and_eq_true, decide_eq_true_eq] at h
    obtain ⟨hp, rfl, rfl, rfl, rfl, rfl, rfl⟩ := h
    exact ⟨_, _, _, _, _, _, _, _, _, _, hp, rfl⟩
  · cases h
def xiPr (f : Str) : Arguments → Bool
  | ⟨[], [a, b], none, [], [], none, []⟩ => decide (a.arg = "self") && decide (b.arg = f)
  | _ => false
theorem xiPr_ok {f : Str} {b : Arguments} (h : xiPr f b = true) : ∃ a1 a2 : Arg, b = ⟨[], [a1, a2], none, [], [], none, []⟩ ∧ a1.arg = "self" ∧ a2.arg = f := by
  unfold xiPr at h
  split at h
  · simp only [Bool.and_eq_true, decide_eq_true_eq] at h
    exact ⟨_, _, rfl, h.1, h.2⟩
  · cases h
def xiSc (f : Str) (sc : Scope) : Bool := decide (sc.kind = .function) && (!sc.isGenerator && (!sc.isCoroutine && (decide (sc.names.lookup ("super" : Str) = some .globalImplicit) && (decide (sc.names.lookup ("__class__" : Str) = some .free) &&
  (decide (sc.names.lookup ("self" : Str) = some .local) && (decide (sc.names.lookup f = some .local) && sc.names.all fun x => decide (x.2 ≠ .cell)))))))
def xiCell (K : PySem.W.Frag) (C a : Addr) : Bool := match K.lookup a with
  | some ⟨_, _, .cell (some (.ref v)), _⟩ => decide (v = C)
  | _ => false
theorem xiCell_ok {K : PySem.W.Frag} {C a : Addr} (h : xiCell K C a = true) : ∃ cl cd sl, K.lookup a = some ⟨cl, cd, .cell (some (.ref C)), sl⟩ := by
  unfold xiCell at h
  split at h
  · rename_i e
    exact ⟨_, _, _, by rw [e, of_decide_eq_true h]⟩
  · cases h
def xiFile (K : PySem.W.Frag) (file : Str) : Value → Bool
  | .ref c => (match K.lookup c with
    | some ⟨_, _, .fields vs, _⟩ => (match (vs[2]? : Option Value) with
      | some (.str g _) => decide (g = file)
      | _ => false)
    | _ => false)
  | _ => false
theorem xiFile_ok {K : PySem.W.Frag} {file : Str} {v : Value} (h : xiFile K file v = true) : ∃ (c : Addr) (cl : Value) (cd : Option Addr) (vs : Array Value) (sl : Array (Option Value)) (t : Tok), v = .ref c ∧ K.lookup c = some ⟨cl, cd, .fields vs, sl⟩ ∧ vs[2]? = some (.str file t) := by
  unfold xiFile at h
  split at h
  · split at h
    · rename_i e
      split at h
      · rename_i e2
        rw [of_decide_eq_true h] at e2
        exact ⟨_, _, _, _, _, _, rfl, e, e2⟩
      · cases h
    · cases h
  · cases h
def xiFn (K : PySem.W.Frag) (file f : Str) (C : Addr) (fd : FuncData) : Bool :=
  decide (fd.defaults = .none) && (decide (fd.kwdefaults = .none) && (xiBd f fd.body && (xiPr f fd.params && (xiSc f fd.scope && (decide (fd.globals = mainGlobals) && (decide (fd.builtins = builtinsNs) && (PySem.W.codeIn K fd.code fd.qualname && (xiFile K file fd.code && (match fd.closure with
    | [(c, a)] => decide (c = "__class__") && xiCell K C a
    | _ => false)))))))))
def xiCl (K : PySem.W.Frag) (C : Addr) : Bool := match K.lookup C with
  | some ⟨.type t, _, .cls cd, sl⟩ => decide (t = "type") && (match cd.mro, sl.toList with
    | .ref C' :: bm, [_, _, _, _, some (.builtin n), _] => decide (C' = C) && (decide (n = "ValueError.__new__") && (!cd.hasDel && (cd.hasDict && PySem.HandSPX.refsVE bm)))
    | _, _ => false)
  | _ => false
theorem xiCl_ok {K : PySem.W.Frag} {C : Addr} (h : xiCl K C = true) : ∃ nm q N bs bm sn sub ab col dd k0 k1 k2 k3 k5, K.lookup C = some (excClassObj nm q C N bs bm true sn sub ab col dd k0 k1 k2 k3 k5 "ValueError.__new__") ∧ PySem.HandSPX.refsVE bm = true := by
  unfold xiCl at h
  split at h
  · rename_i t dd cd sl ho
    obtain ⟨h1, h⟩ := Bool.and_eq_true_iff.mp h
    split at h
    · rename_i C' bm k0 k1 k2 k3 n k5 hm hs
      simp only [Bool.and_eq_true, decide_eq_true_eq, Bool.not_eq_true'] at h h1
      obtain ⟨rfl, rfl, hdel, hd, ht⟩ := h
      subst h1
      obtain ⟨nm, bs, mro, ns, qn, hdi, sn, sub, ab, col, del⟩ := cd
      dsimp only at hm hdel hd
      subst hm hdel hd
      have hsl : sl = #[k0, k1, k2, k3, some (.builtin "ValueError.__new__"), k5] := by
        obtain ⟨l⟩ := sl
        simp only at hs
        rw [hs]
      subst hsl
      exact ⟨nm, qn, ns, bs, bm, sn, sub, ab, col, dd, k0, k1, k2, k3, k5, ho, ht⟩
    · cases h
  · cases h
def xiB (K : PySem.W.Frag) (file x f : Str) : Bool :=
  xiCl K (He.ga K x) && (decide (PySem.W.findIn K (.ref (He.ga K x)) "__setattr__" = some (some (.builtin "object.__setattr__"))) && (decide (PySem.W.subIn K (.ref (He.ga K x)) (.type "BaseException") = some true) &&
  (decide (PySem.W.typeIn K (.ref (He.ga K x)) = some (.type "type")) && (PySem.W.keepIn K (.ref (He.ga K x)) && (decide (PySem.W.findIn K (.ref (He.ga K x)) "__init__" = some (some (.ref (He.ma K (He.ga K x) "__init__")))) &&
  (decide (PySem.W.typeIn K (.ref (He.ma K (He.ga K x) "__init__")) = some (.type "function")) && (decide (PySem.W.findIn K (.ref (He.ga K x)) f = some none) && (xfB K (He.ga K x) &&
  (decide (PySem.W.subIn K (.ref (He.ga K x)) (.type "ValueError") = some true) && (decide (PySem.W.ks_superIn K (He.ga K x) (He.ga K x) "__init__" = some (some (.builtin "ValueError.__init__"))) &&
  (decide (PySem.W.mroIn K (He.ga K x) (.ref (He.ga K x)) = some true) && (decide (PySem.W.nsIn K mainGlobals "super" = some none) && (decide (PySem.W.nsIn K cStatics "thirdparty.any" = some none) &&
  (match K.lookup (He.ma K (He.ga K x) "__init__") with
    | some ⟨_, _, .func fd, _⟩ => xiFn K file f (He.ga K x) fd
    | _ => false))))))))))))))
/-- what the program's file must say -/
structure XpOk (P : Program) (file : Str) : Prop where
  file : P.main.file = file
  top : (P.main.scope.names.lookup ("super" : Str)).isSome = false
structure XiC (K : PySem.W.Frag) (file : Str) (C : Addr) (f : Str) : Prop where
  oex : OexC K C
  fI : ∃ fi : Addr, PySem.W.findIn K (.ref C) "__init__" = some (some (.ref fi)) ∧ PySem.W.typeIn K (.ref fi) = some (.type "function") ∧ ∃ oc od fd osl, K.lookup fi = some ⟨oc, od, .func fd, osl⟩ ∧ xiFn K file f C fd = true
  noat : PySem.W.findIn K (.ref C) f = some none
  xf : XfC K C
  ve : PySem.W.subIn K (.ref C) (.type "ValueError") = some true
  sup : PySem.W.ks_superIn K C C "__init__" = some (some (.builtin "ValueError.__init__"))
  mro : PySem.W.mroIn K C (.ref C) = some true
  nosup : PySem.W.nsIn K mainGlobals "super" = some none
  noany : PySem.W.nsIn K cStatics "thirdparty.any" = some none
theorem xi_ok {K : PySem.W.Frag} {file x f : Str} (h : xiB K file x f = true) : XiC K file (He.ga K x) f := by
  unfold xiB at h
  simp only [Bool.and_eq_true, decide_eq_true_eq] at h
  obtain ⟨h1, h2, h3, h4, h5, h6, h7, h8, h9, h10, h11, h12, h13, h14, h15⟩ := h
  refine ⟨⟨xiCl_ok h1, h2, h3, h4, h5⟩, ⟨_, h6, h7, ?_⟩, h8, xfB_ok h9, h10, h11, h12, h13, h14⟩
  split at h15
  · rename_i e
    exact ⟨_, _, _, _, e, h15⟩
  · cases h15

section
variable {prog : Program} {w : World} {A : Around} {E : Value → Shared → Prop} {h : Heap} {g : Array GenState} {d : Drawn} {t : Nat} {os : OsState}
variable {nm q : Str} {C N : Addr} {bs bm : List Value} {hdct : Bool} {sn : List Str} {sub : List Value} {ab : Bool} {col : Option Bool} {dd : Option Addr} {k0 k1 k2 k3 k5 : Option Value}
theorem call_bwV {u e t0 : Addr} {rest : List Value} {Q : Value → Shared → Prop}
    (hC : h.get? C = some (excClassObj nm q C N bs bm hdct sn sub ab col dd k0 k1 k2 k3 k5 "ValueError.__new__")) (he : h.get? e = some (PySem.HandSPX.excO C t0)) (hu : h.get? u = some (PySem.W.kxs_mw "ValueError.__init__" e)) (hrest : rest.length ≤ sizeLine)
    (hq : ∀ h' t1, (∀ b o, b ≠ e → h.get? b = some o → h'.get? b = some o) → h'.get? e = some (PySem.HandSPX.excO C t1) → Q .none ⟨h', g, d, t, os⟩) :
    wpAny (model prog w) A (call (.ref u) rest) Q E ⟨h, g, d, t, os⟩ := by
  refine wpAny_call (codeAny_of_tree ?_)
  show wpAny _ A.in1 (callAny (.ref u) ⟨rest, []⟩) _ _ _
  simp only [callAny]
  refine wpAny_bind (wpAny_load hu ?_)
  simp only [PySem.W.kxs_mw, show (Value.type "method-wrapper" == Value.type "method" || Value.type "method-wrapper" == Value.type "builtin_function_or_method" || Value.type "method-wrapper" == Value.type "method-wrapper") = true by decide, if_true]
  refine PySem.W.KFB.if_so (by decide) ?_
  refine wpAny_bind (PySem.W.check_bound_init F.excBase_ValueError.toExcCallFacts hC he rfl ?_)
  refine wpAny_bind (wpAny_pure (wpAny_pure ?_))
  refine ⟨plainId_quiet F.excBase_ValueError.init.plain _, codeAny_builtin F.excBase_ValueError.initEntry ?_⟩
  rw [Around.under_plainId F.excBase_ValueError.init.plain _]
  wp_walk
  refine hq _ h.objs.size (fun b o hb ho => ?_) ?_
  · rw [Heap.get?_update_other _ _ (Ne.symm hb)]
    exact Heap.get?_push_of_some _ ho
  · rw [Heap.get?_update_self _ (Heap.get?_push_of_some _ he) rfl]
    rfl
end

theorem eval_methodCall1 {o e : Expr} {name : Str} {apos pos : Pos} {env : Env} (h : apos.endLine = pos.line) (hs : starEach [e] env = [(false, eval e env)]) : eval (.Call (.Attribute o name apos) [e] [] pos) env = (do
      let ov ← attributeBase o name env (eval o env)
      standAt apos.atName
      let (f, first) ← holding [ov] (getMethod ov name (do return (← importBound o env).getD true))
      callWith pos f first (backTo pos (starEach [e] env)) []) := by
  have hb : (apos.endLine == pos.line) = true := by simp [h]
  show (do
    let ov ← attributeBase o name env (eval o env)
    standAt apos.atName
    methodCall o name apos pos env ov 1 (backTo pos (starEach [e] env)) []) = _
  have hm : methodCallForm 1 (backTo pos (starEach [e] env)) [] = true := by
    rw [hs]
    rfl
  simp only [methodCall, methodCallPos, hm, hb, Bool.or_true, if_true, calleeOf, pure_bind]
/-- __init__ of such a class -/
def spXi (C : Addr) (f : Str) : Sp := fun vs H Q _ => ∃ (a : Addr) (y : V), vs = [.ref a, y] ∧ H a = some (exo a C none) ∧ ∀ dx, H dx = none → dx ≠ a → Q .non (upd (upd H dx (exd dx [(f, y)])) a (exo a C (some dx)))
theorem fn_xi {P : Program} {w : World} {K : PySem.W.Frag} {mg : Str → Option Value} {base : Heap} {CX : CXT} {file f : Str} {C fi : Addr} {oc : Value} {od : Option Addr} {fd : FuncData} {osl : Array (Option Value)} (D : XiC K file C f) (Pk : XpOk P file)
    (lk : K.lookup fi = some ⟨oc, od, .func fd, osl⟩) (hfn : xiFn K file f C fd = true) (hf1 : f ≠ "self") (hdb : (f == ("__debug__" : Str)) = false) : FnOk P w K mg base CX 1 fi fd ["self", f] (spXi C f) := by
  obtain ⟨nm, qn, pr, bd, sc, gl, cl, dV, kV, doc, pm, an, cdv, ct, bl⟩ := fd
  have hfn' := hfn
  simp only [xiFn, Bool.and_eq_true, decide_eq_true_eq] at hfn'
  obtain ⟨_, _, hbd, hpr, hsc, e1, e2, hcd, hfile, hcl⟩ := hfn'
  obtain ⟨p1, p2, p3, p4, p5, p6, p7, p8, p9, p10, hpos, rfl⟩ := xiBd_ok hbd
  obtain ⟨a1, a2, rfl, ha1, ha2⟩ := xiPr_ok hpr
  simp only [xiSc, Bool.and_eq_true, decide_eq_true_eq, Bool.not_eq_true'] at hsc
  obtain ⟨hk, hgen, hco, hks, hkc, hkself, hkf, hcells⟩ := hsc
  subst e1 e2
  obtain ⟨cda, ccl, cdd, cvs, ccs, ctk, rfl, lcd, hvs⟩ := xiFile_ok hfile
  obtain ⟨cc, rfl, lcc⟩ : ∃ cc, cl = [(("__class__" : Str), cc)] ∧ ∃ cl' cd' sl', K.lookup cc = some ⟨cl', cd', .cell (some (.ref C)), sl'⟩ := by
    split at hcl
    · simp only [Bool.and_eq_true, decide_eq_true_eq] at hcl
      obtain ⟨rfl, hc⟩ := hcl
      exact ⟨_, rfl, xiCell_ok hc⟩
    · cases hcl
  obtain ⟨ccl', ccd', csl', lcc⟩ := lcc
  obtain ⟨nmC, qC, NC, bsC, bmC, snC, subC, abC, colC, ddC, k0, k1, k2, k3, k5, lC, hbm⟩ := D.oex.cls
  refine ⟨fun vs H Q E q => ?_, fun A outer s H args us vs Q E hr e0 hb r hsp => ?_⟩
  · obtain ⟨a, y, rfl, _⟩ := q
    rfl
  obtain ⟨a, y, rfl, ea, hq⟩ := hsp
  obtain ⟨u0, us1, rfl, ra, rs⟩ : ∃ u0 us1, us = u0 :: us1 ∧ RelV (.ref a) u0 ∧ Vals [y] us1 := by
    cases r with
    | cons h1 h2 => exact ⟨_, _, rfl, h1, h2⟩
  obtain ⟨u, rfl, ry⟩ : ∃ u, us1 = [u] ∧ RelV y u := by
    cases rs with
    | cons h1 h2 =>
      cases h2
      exact ⟨_, rfl, h1⟩
  obtain rfl : u0 = Value.ref a := ra
  have KX : K.In s.heap := e0.mod.kin.keeps fun b o e => (e0.bs b o e).1
  have lim : s.heap.NoLimit := e0.mod.nolimit.keeps fun b o e => (e0.bs b o e).1
  obtain ⟨t1, hea⟩ := exo_at e0.hok ea
  have hroom : A.depth < recursionLimit := by have := hr.dp; omega
  obtain ⟨hp, gs, dr, tk, oss⟩ := s
  refine ks_codeAny_call_defAt hroom (KX _ _ lk) rfl lim (PySem.W.codeRec_of KX hcd) rfl hb (fun x hx => ?_) (fun x hx => ?_) (fun h1 hns hk1 => ?_) hco hgen hk
  · have z := List.all_eq_true.mp hcells x hx
    simpa using z
  · simp only [List.zip_cons_cons, List.zip_nil_right, List.mem_cons, List.not_mem_nil, or_false] at hx
    rcases hx with rfl | rfl
    · exact hkself
    · exact hkf
  have nL : ∀ {b : Addr} {o : Obj}, hp.get? b = some o → b ≠ hp.objs.size := fun {b o} z => Nat.ne_of_lt (Heap.lt_size z)
  have hLa : hp.objs.size ≠ a := (nL hea).symm
  have X1 : K.In h1 := KX.keeps hk1
  have hea1 := hk1 _ _ hea
  have hC1 := X1 _ _ lC
  have m1 : (fun x : Str => (((["self", f] : List Str).zip [Value.ref a, u]).reverse.lookup x)) "self" = some (.ref a) := by
    simp only [List.zip_cons_cons, List.zip_nil_right, List.reverse_cons, List.reverse_nil, List.nil_append, List.singleton_append]
    rw [List.lookup_cons, List.lookup_cons]
    have z : (("self" : Str) == f) = false := by simpa using (Ne.symm hf1)
    rw [z]
    rfl
  have m2 : (fun x : Str => (((["self", f] : List Str).zip [Value.ref a, u]).reverse.lookup x)) f = some u := by
    simp only [List.zip_cons_cons, List.zip_nil_right, List.reverse_cons, List.reverse_nil, List.nil_append, List.singleton_append]
    rw [List.lookup_cons]
    simp
  refine PySem.ks_wpAt_execs_cons (PySem.ks_wpAt_Expr_any (PySem.ks_wpAt_MethodCall ?_ (eval_methodCall1 hpos rfl)) ?hi)
  case hi =>
    show (sc.kind == .module && _) = false
    rw [hk]
    rfl
  refine PySem.ks_wpAt_super_base hks hkc (by decide) rfl (X1 _ _ lk) rfl rfl rfl (X1 _ _ lcd) rfl hvs (by rw [Pk.file]; simp) Pk.top ?_
  obtain ⟨mb, hmb, hmb2⟩ := e0.mod.blt
  have bk : ∀ b o, base.get? b = some o → h1.get? b = some o := fun b o e => hk1 _ _ (e0.bs b o e).1
  refine PySem.W.ks_loadName_global hk hks (PySem.Calls.loadGlobal_builtin (e0.mod.glob.keeps bk) (PySem.W.mg_none_of e0.mod.kin e0.mod.glob D.nosup) (hmb.keeps bk) ((hmb2 _ (by decide)).trans (by decide +kernel : bootBuiltins "super" = some (.type "super"))) ⟨rfl, ?_⟩)
  refine wpAny_loadName_free hk hkc rfl ⟨_, X1 _ _ lcc, rfl⟩ ?_
  rw [ha1]
  refine wpAny_loadName_local hk hkself hns m1 ?_
  refine PySem.ks_wpAny_isType_cls hC1 rfl ⟨rfl, ?_⟩
  refine PySem.ks_wpAny_call_super hC1 rfl hea1 rfl (fun c z => by cases z) (PySem.W.looks_mroIn X1 D.mro) (fun h2 e2 k2 => ?_)
  have X2 : K.In h2 := X1.keeps k2
  have hea2 := k2 _ _ hea1
  have hC2 := k2 _ _ hC1
  have hac : a ≠ C := fun z => by
    rw [z] at hea1
    rw [hC1] at hea1
    cases hea1
  have hclC : PySem.W.clsIn K C = some { name := nmC, bases := bsC, mro := .ref C :: bmC, ns := NC, qualname := qC, hasDict := true, slotNames := snC, subclasses := subC, abstract := abC, collection := colC, hasDel := false } := by
    unfold PySem.W.clsIn
    rw [lC]
  have hsup := D.sup
  unfold PySem.W.ks_superIn at hsup
  rw [hclC] at hsup
  have I2 : PySem.W.InstAt h2 a { cls := .ref C, dict := none, data := .fields #[.ref t1, .none, .none, .none, .bool false, .none] } C none := ⟨hea2, rfl, rfl, trivial⟩
  refine PySem.W.kxs_getMethod PySem.W.kxs_ValueError e2 (PySem.W.looks_opaque X2 D.noany) (l₀ := .ref C :: bmC) (fun A Q E s k q => wpAny_bind ((PySem.W.looks_clsIn X2 hclC) A _ E s k (wpAny_pure q))) rfl X2 hsup
    (I2.type.andThen (PySem.W.looks_subIn X2 D.ve)) hac (by decide) ?_
  have hu : (h2.push (PySem.W.kxs_mw "ValueError.__init__" a)).get? h2.objs.size = some (PySem.W.kxs_mw "ValueError.__init__" a) := Heap.get?_push_at rfl rfl
  have k3 : ∀ b o, h2.get? b = some o → (h2.push (PySem.W.kxs_mw "ValueError.__init__" a)).get? b = some o := fun b o e => Heap.get?_push_of_some _ e
  refine PySem.W.kxs_callWith (i := "ValueError.__init__") (x := a) rfl (PySem.Calls.evalArgs_plain ?_)
  refine PySem.Calls.spliced_cons (wpAny_Name (wpAny_loadName_local hk hkf ((hns.keeps k2).keeps k3) m2 ?_) hdb)
  refine PySem.Calls.spliced_nil ⟨hu, ?_⟩
  refine call_bwV (k3 _ _ hC2) (k3 _ _ hea2) hu (by rw [sizeLine_eq]; show 1 ≤ _; decide) (fun h4 t4 k4 e4 => ?_)
  have kk : ∀ b o, b ≠ a → hp.get? b = some o → h4.get? b = some o := fun b o n e => k4 b o n (k3 _ _ (k2 _ _ (hk1 _ _ e)))
  have X4 : K.In h4 := fun b o e => kk b o (fun z => by
    rw [z] at e
    have y := (e0.bs _ _ (e0.mod.kin _ _ e)).2
    rw [ea] at y
    cases y) (KX _ _ e)
  have hns4 := (((hns.keeps k2).keeps k3)).at (h' := h4) (fun o e => k4 _ o hLa e)
  refine wpAt_of_wpAny (wpAny_execs_cons (plainObj_wpAny_Assign_Attribute (wpAny_Name (wpAny_loadName_local hk hkf hns4 m2 ?_) hdb)))
  refine wpAny_Name (wpAny_loadName_local hk hkself hns4 m1 ?_) (by decide)
  refine PySem.W.set_plain X4 (ox := { cls := .ref C, dict := none, data := .fields #[.ref t4, .none, .none, .none, .bool false, .none] }) (od := none) ⟨e4, rfl, rfl, trivial⟩ D.oex.sa ?_
  refine PySem.HandSPX.exc_osa X4 e4 hclC (show PySem.HandSPX.refsVE (.ref C :: bmC) = true from hbm) rfl D.noat (fun h5 tk' dx k5 dn dne hx hn => ?_)
  have kf : ∀ b o, b ≠ a → hp.get? b = some o → h5.get? b = some o := fun b o n e => k5 b o n (kk b o n e)
  have hsz : hp.objs.size ≤ dx := Nat.le_of_lt (Nat.lt_of_lt_of_le hns4.lt dn)
  have hnd : H dx = none := e0.hok.fresh hsz
  have nd : ∀ {b : Addr} {o : Obj}, hp.get? b = some o → b ≠ dx := fun {b o} z => Nat.ne_of_lt (Nat.lt_of_lt_of_le (Heap.lt_size z) hsz)
  have na : ∀ {b : Addr}, H b = none → b ≠ a := fun {b} n z => by
    rw [z, ea] at n
    cases n
  refine wpAny_execs_nil ?_
  refine ⟨.non, _, rfl, e0.bare, ?_, ?_, rfl, hq dx hnd dne⟩
  · exact {
      keep := fun b o q n _ _ => kf b o (na n) q
      slot := fun b o q n _ _ => ⟨o.slots, kf b o (na n) q⟩
      free := fun b o q n _ => by rw [upd_ne (na n), upd_ne (nd q)]; exact n
      there := fun b o q _ => by
        by_cases hb : b = a
        · exact ⟨_, by rw [hb]; exact hx⟩
        · exact ⟨o, kf b o hb q⟩
      tups := fun b xs q => by rw [upd_ne (at_ne ea q exo_tup), upd_ne (ne_of_none q hnd)]; exact q
      frzs := fun b o v q => by rw [upd_ne (at_ne ea q exo_frz), upd_ne (ne_of_none q hnd)]; exact q
      tbls := fun b ps q => ⟨#[], by rw [upd_ne (at_ne ea q exo_tbl), upd_ne (ne_of_none q hnd), q]; simp⟩ }
  · intro b o q
    by_cases hb : b = a
    · subst hb
      rw [upd_same] at q
      cases q
      exact exo_ok hx
    · rw [upd_ne hb] at q
      by_cases hd : b = dx
      · subst hd
        rw [upd_same] at q
        cases q
        exact exd_ok hn (relO_put (fs := []) ry fun g => True.intro)
      · rw [upd_ne hd] at q
        exact (e0.hok b o q).stay (fun c v hc z => kf c v (by
            rcases hc with hc | hc
            · rw [hc]
              exact hb
            · exact at_ne ea hc exo_own) z)
          (fun c hc => by rw [upd_ne (at_ne ea hc exo_own), upd_ne (ne_of_none hc hnd)]; exact hc) (fun c xs hc => by rw [upd_ne (at_ne ea hc exo_tup), upd_ne (ne_of_none hc hnd)]; exact hc)
theorem pe_imp {X : Cx} {e : Expr} {te : TE} (h : PE X e te) : PE X e (fun σ H Q' => ∃ Q, te σ H Q ∧ ∀ v H1, Q v H1 → Q' v H1) :=
  ⟨fun pins s σ H Q' I ⟨Q, ht, hi⟩ => wpAny_mono (h.run pins s σ H Q I ht) (fun _ _ ⟨v, H1, I1, r, q⟩ => ⟨v, H1, I1, r, hi _ _ q⟩) fun _ _ z => z⟩
/-- C(e): the exception stands with its dict of one field -/
def tMkX (C : Addr) (f : Str) (te : TE) : L2.St → Hp → XK → Prop := fun σ H Q => te σ H fun y H1 => ∀ d, H1 d = none → Q (.ref C) (some d) (upd H1 d (.xd [(f, y)]))
def BindsXi (f : Str) : Prop := ∀ (nm qn : Str) (bd : FuncBody) (sc : Scope) (gl : Addr) (cl : List (Str × Addr)) (doc pm : Value) (an : Option Addr) (cdv ct : Value) (bl : Addr) (n1 n2 : Option Expr) (q1 q2 : Pos) (u0 u1 : Value),
  bindArgs ⟨nm, qn, ⟨[], [⟨"self", n1, q1⟩, ⟨f, n2, q2⟩], none, [], [], none, []⟩, bd, sc, gl, cl, .none, .none, doc, pm, an, cdv, ct, bl⟩ ⟨[u0, u1], []⟩ = pure ((["self", f] : List Str).zip [u0, u1])
theorem bx_part : BindsXi "part" := fun _ _ _ _ _ _ _ _ _ _ _ _ _ _ _ _ _ _ => rfl
theorem bx_most : BindsXi "most" := fun _ _ _ _ _ _ _ _ _ _ _ _ _ _ _ _ _ _ => rfl
theorem bx_line : BindsXi "line" := fun _ _ _ _ _ _ _ _ _ _ _ _ _ _ _ _ _ _ => rfl
theorem bx_name : BindsXi "name" := fun _ _ _ _ _ _ _ _ _ _ _ _ _ _ _ _ _ _ => rfl
theorem pmk_xi {X : Cx} {x f file : Str} {e : Expr} {te : TE} {p pos : Pos} (D : XiC X.K file (He.ga X.K x) f) (Pk : XpOk X.prog file) (bx : BindsXi f) (hr : Room 2 X.A) (hg : Gl X x) (hm : X.mg x = some (.ref (He.ga X.K x))) (ha : PE X e te)
    (hf1 : f ≠ "self" := by decide) (hdf : (f == ("__debug__" : Str)) = false := by decide) (hdb : (x == ("__debug__" : Str)) = false := by decide) (he : starEach [e] X.env = (false, eval e X.env) :: starEach [] X.env := by rfl) :
    PMk X (.Call (.Name x p) [e] [] pos) (tMkX (He.ga X.K x) f te) := by
  obtain ⟨fi, hi, ht, oc, od, fd, osl, lk, hfn⟩ := D.fI
  have hpr : fd.defaults = .none ∧ fd.kwdefaults = .none ∧ xiPr f fd.params = true := by
    simp only [xiFn, Bool.and_eq_true, decide_eq_true_eq] at hfn
    exact ⟨hfn.1, hfn.2.1, hfn.2.2.2.1⟩
  have hb : Binds X.K fd ["self", f] [] := Binds.all fun us hl => by
    obtain ⟨d1, d2, hpr⟩ := hpr
    obtain ⟨a1, a2, e1, e2, e3⟩ := xiPr_ok hpr
    obtain ⟨u0, u1, rfl⟩ : ∃ u0 u1, us = [u0, u1] := by
      match us, hl with
      | [u0, u1], _ => exact ⟨u0, u1, rfl⟩
    obtain ⟨_, n1, q1⟩ := a1
    obtain ⟨_, n2, q2⟩ := a2
    dsimp only at e2 e3
    subst e2 e3
    obtain ⟨nm, qn, pr, bd, sc, gl, cl, dV, kV, doc, pm, an, cdv, ct, bl⟩ := fd
    dsimp only at e1 d1 d2
    subst e1 d1 d2
    exact bx _ _ _ _ _ _ _ _ _ _ _ _ _ _ _ _ _ _
  have F1 := fn_xi (w := X.w) (mg := X.mg) (base := X.base) (CX := fun _ _ _ _ _ _ => False) D Pk lk hfn hf1 hdf
  intro pins s σ H Q I h
  refine pmk_oex (sp := spXi (He.ga X.K x) f) (dvs := []) (ds := []) D.oex hi ht F1 hr hb .nil (fun _ _ _ _ _ _ _ z => z.elim) hg hm (pa_cons (pe_imp ha) pa_nil he) hdb he rfl pins s σ H Q I ⟨_, h, fun y H1 q => ?_⟩
  refine ⟨by show 1 ≤ 1000; decide, fun a na => ⟨a, y, rfl, upd_same, fun dx nx ne => ⟨rfl, dx, [(f, y)], upd_same, ?_, ?_, ?_⟩⟩⟩
  · rw [upd_ne ne, upd_same]
  · rw [← nx, upd_ne ne]
  · have nx' : H1 dx = none := by rw [← nx, upd_ne ne]
    have z : upd (del (upd (upd (upd H1 a (exo a (He.ga X.K x) none)) dx (exd dx [(f, y)])) a (exo a (He.ga X.K x) (some dx))) a) dx (.xd [(f, y)]) = upd H1 dx (.xd [(f, y)]) := by
      funext b
      by_cases hb : b = dx
      · rw [hb, upd_same, upd_same]
      · rw [upd_ne hb, upd_ne hb]
        by_cases ha : b = a
        · rw [ha, del_same, na]
        · rw [del_ne ha, upd_ne ha, upd_ne hb, upd_ne ha]
    rw [z]
    exact q dx nx'
theorem as_go {K : PySem.W.Frag} {H : Hp} {σ : L2.St} {i : Nat} {c cls : Value} {ts : Addr → Value → Option Addr → TS} {Wout : WX} {D : Ends} {d : Option Addr} (h : PySem.W.exmOne K cls c = some true)
    (q : ∀ a, H a = none → ts a cls d { nx := fun σ' H' => D.nx (σ'.set i none) H', rt := D.rt, bk := fun σ' H' => D.bk (σ'.set i none) H', ct := fun σ' H' => D.ct (σ'.set i none) H' } (σ.set i (some (.ref a))) H) :
    wAs K c i ts Wout D cls d σ H := ⟨true, h, fun _ => q, fun h => nomatch h⟩
theorem xf_go {a C dd : Addr} {f : Str} {te : TE} {σ : L2.St} {H : Hp} {Q : VK} {y : V} (ea : H dd = some (.xd [(f, y)])) (h : te σ H fun x H1 => x = .ref a ∧ H1 = H) (q : Q y H) (hm : ∀ (Q Q' : VK), (∀ v H1, Q v H1 → Q' v H1) → te σ H Q → te σ H Q') :
    tXf a (.ref C) (some dd) C f te σ H Q := hm _ _ (fun v H1 ⟨hv, hH⟩ => ⟨hv, rfl, dd, [(f, y)], y, rfl, by rw [hH]; exact ea, by simp [List.lookup], by rw [hH]; exact q⟩) h
theorem w_mkx {C : Addr} {f : Str} {te : TE} {σ : L2.St} {H : Hp} {Q : XK} (h : te σ H fun y H1 => ∀ d, H1 d = none → Q (.ref C) (some d) (upd H1 d (.xd [(f, y)]))) : tMkX C f te σ H Q := h
end Lv

/-! sorted(xs), sorted(d): fewer than 64 tuples of ints of any length, in the order of tuples -/
namespace Lv
open PySem PySem.Spec PyProof.Rows L2
def lexLt : List Int → List Int → Bool
  | [], m => !m.isEmpty
  | _ :: _, [] => false
  | p :: ns, q :: ms => if p = q then lexLt ns ms else decide (p < q)
theorem lexLt_irr : ∀ a : List Int, lexLt a a = false
  | [] => rfl
  | p :: ns => by unfold lexLt; rw [if_pos rfl]; exact lexLt_irr ns
theorem lexLt_tri : ∀ a b : List Int, lexLt a b = false → lexLt b a = false → a = b
  | [], [], _, _ => rfl
  | [], _ :: _, h, _ => by cases h
  | _ :: _, [], _, h => by cases h
  | p :: ns, q :: ms, h1, h2 => by
    unfold lexLt at h1 h2
    by_cases e : p = q
    · subst e
      rw [if_pos rfl] at h1 h2
      rw [lexLt_tri ns ms h1 h2]
    · rw [if_neg e] at h1
      rw [if_neg (Ne.symm e)] at h2
      have := of_decide_eq_false h1
      have := of_decide_eq_false h2
      omega
theorem lexLt_trans : ∀ a b c : List Int, lexLt a b = true → lexLt b c = true → lexLt a c = true
  | [], [], _, h, _ => by cases h
  | [], _ :: _, [], _, h => by cases h
  | [], _ :: _, _ :: _, _, _ => rfl
  | _ :: _, [], _, h, _ => by cases h
  | _ :: _, _ :: _, [], _, h => by cases h
  | p :: ns, q :: ms, r :: ls, h1, h2 => by
    unfold lexLt at h1 h2 ⊢
    by_cases e1 : p = q
    · subst e1
      rw [if_pos rfl] at h1
      by_cases e2 : p = r
      · subst e2
        rw [if_pos rfl] at h2 ⊢
        exact lexLt_trans ns ms ls h1 h2
      · rw [if_neg e2] at h2 ⊢; exact h2
    · rw [if_neg e1] at h1
      have l1 := of_decide_eq_true h1
      by_cases e2 : q = r
      · subst e2
        rw [if_neg e1]; exact h1
      · rw [if_neg e2] at h2
        have l2 := of_decide_eq_true h2
        rw [if_neg (by omega)]
        exact decide_eq_true (by omega)
theorem lexLt_neg {a b c : List Int} (h1 : lexLt b a = false) (h2 : lexLt c b = false) : lexLt c a = false := by
  cases e : lexLt c a with
  | false => rfl
  | true =>
    cases e2 : lexLt a b with
    | true =>
      have := lexLt_trans _ _ _ e e2
      rw [h2] at this; cases this
    | false =>
      have := lexLt_tri a b e2 h1
      subst this
      rw [h2] at e; cases e
def lexRk (L : List (List Int)) (a : List Int) : Int := ((L.filter fun b => lexLt b a).length : Nat)
theorem filter_lt {α : Type} {f g : α → Bool} (h : ∀ x, f x = true → g x = true) : ∀ {l : List α} {y : α}, y ∈ l → f y = false → g y = true → (l.filter f).length < (l.filter g).length
  | [], _, hy, _, _ => nomatch hy
  | x :: l, y, hy, h1, h2 => by
    have mono : ∀ l : List α, (l.filter f).length ≤ (l.filter g).length := by
      intro l
      induction l with
      | nil => exact Nat.le_refl _
      | cons x l ih =>
        rw [List.filter_cons, List.filter_cons]
        cases e : f x with
        | true => rw [if_pos rfl, if_pos (h x e)]; simp only [List.length_cons]; omega
        | false =>
          rw [if_neg (by decide)]
          split
          · simp only [List.length_cons]; omega
          · exact ih
    rw [List.filter_cons, List.filter_cons]
    rcases List.mem_cons.mp hy with rfl | hy
    · rw [if_neg (by rw [h1]; decide), if_pos h2]
      have := mono l
      simp only [List.length_cons]; omega
    · have ih := filter_lt h hy h1 h2
      cases e : f x with
      | true => rw [if_pos rfl, if_pos (h x e)]; simp only [List.length_cons]; omega
      | false =>
        rw [if_neg (by decide)]
        split
        · simp only [List.length_cons]; omega
        · exact ih
theorem lexRk_lt {L : List (List Int)} {a b : List Int} (ha : a ∈ L) (h : lexLt a b = true) : lexRk L a < lexRk L b := by
  have := filter_lt (f := fun c => lexLt c a) (g := fun c => lexLt c b) (fun x hx => lexLt_trans x a b hx h) ha (lexLt_irr a) h
  unfold lexRk
  omega
theorem lexRk_eq {L : List (List Int)} {a b : List Int} (ha : a ∈ L) (hb : b ∈ L) : decide (lexRk L a < lexRk L b) = lexLt a b := by
  cases e : lexLt a b with
  | true => exact decide_eq_true (lexRk_lt ha e)
  | false =>
    refine decide_eq_false ?_
    cases e2 : lexLt b a with
    | true => have := lexRk_lt hb e2; omega
    | false => rw [lexLt_tri a b e e2]; omega
section
variable {prog : Program} {w : World} {A : Around} {E : Value → Shared → Prop} {s : Shared}
theorem lex_any {Q : Bool → Shared → Prop} {b : Bool} {xs ys : List Value} {ns ms : List Int} (i : Nat) (hx : IntsAre xs ns) (hy : IntsAre ys ms) (h : Q (lexLt ns ms) s) : PySem.W.KatLex prog w A b (decide (xs.length < ys.length)) Q (xs.zip ys) i s := by
  induction hx generalizing ys ms i with
  | nil =>
    cases hy with
    | nil => exact PySem.W.kat_nil h
    | cons q u hy => exact PySem.W.kat_nil (by simpa [lexLt] using h)
  | @cons p t xs ns hx ih =>
    cases hy with
    | nil => exact PySem.W.kat_nil (by simpa [lexLt] using h)
    | @cons q u ys ms hy =>
      have e0 : decide ((Value.int p t :: xs).length < (Value.int q u :: ys).length) = decide (xs.length < ys.length) := by
        simp only [List.length_cons]
        exact decide_eq_decide.mpr ⟨fun h => by omega, fun h => by omega⟩
      rw [e0]
      show PySem.W.KatLex prog w A b (decide (xs.length < ys.length)) Q ((Value.int p t, Value.int q u) :: xs.zip ys) i s
      refine PySem.W.kat_cons (wpAny_eqBool_int ?_)
      by_cases e : p = q
      · subst e
        rw [beq_self_eq_true]
        unfold lexLt at h
        rw [if_pos rfl] at h
        exact PySem.W.kat_yes (ih (i + 1) hy h)
      · rw [show (p == q) = false from beq_eq_false_iff_ne.mpr e]
        unfold lexLt at h
        rw [if_neg e] at h
        exact PySem.W.kat_no (TS.oneLt_ints _ h)
/-- what is sorted -/
def LexOk (h : Heap) (vs : List Value) : Prop := ∀ v, v ∈ vs → ∃ ns, TS.TupInts h v ns ∧ ns ≠ []
theorem lex_firsts {h : Heap} : ∀ vs : List Value, LexOk h vs → ∃ fs, PySem.W.KatTups h vs fs ∧ fs.length = vs.length ∧ ∀ f, f ∈ fs → ∃ n t, f = Value.int n t
  | [], _ => ⟨[], PySem.W.KatTups.nil, rfl, fun f hf => by simp at hf⟩
  | v :: vs, x => by
    obtain ⟨fs, k, hl, hi⟩ := lex_firsts vs fun u hu => x u (List.mem_cons_of_mem _ hu)
    obtain ⟨ns, ⟨a, xs, rfl, ⟨o, ho, hc, n, hdt⟩, i⟩, hn⟩ := x v (List.mem_cons_self ..)
    obtain ⟨y, ys, e⟩ : ∃ y ys, xs.toList = y :: ys := by
      cases q : xs.toList with
      | nil =>
        rw [q] at i
        have l := i.length
        rw [List.length_nil] at l
        exact absurd (List.eq_nil_of_length_eq_zero (by omega)) hn
      | cons y ys => exact ⟨y, ys, rfl⟩
    obtain ⟨m, t, hy⟩ := i.all y (by rw [e]; exact List.mem_cons_self ..)
    refine ⟨y :: fs, PySem.W.KatTups.cons ho hc hdt ?_ k, by simp [hl], ?_⟩
    · have z := congrArg (fun l : List Value => l[0]?) e
      simpa using z
    · intro f hf
      rcases List.mem_cons.mp hf with rfl | hf
      · exact ⟨m, t, hy⟩
      · exact hi f hf
theorem kind_lex {vs : List Value} (h2 : 2 ≤ vs.length) (x : LexOk s.heap vs) (r : Value → Int) (hr : ∀ v ∈ vs, ∀ u ∈ vs, ∀ ns ms, TS.TupInts s.heap v ns → TS.TupInts s.heap u ms → decide (r v < r u) = lexLt ns ms) (Q : SortKind → Shared → Prop)
    (h : ∀ κ, TS.Cmp prog w A s κ (pairsOf vs) r → Q κ s) : wpAny (model prog w) A (keyKind' vs.toArray) Q E s := by
  obtain ⟨fs, k, hl, hi⟩ := lex_firsts vs x
  refine PySem.W.kat_kind (T := Value.type "int") k (by omega) (fun f hf => ?_) rfl (h _ ?_)
  · obtain ⟨n, t, rfl⟩ := hi f hf
    exact PySem.W.Looks.of_pure rfl
  · intro p q hp hq Q' E' hQ
    rw [pairsOf_toList] at hp hq
    obtain ⟨ns, tp, np⟩ := x _ (mem_zip_self hp).2
    obtain ⟨ms, tq, nq⟩ := x _ (mem_zip_self hq).2
    have z := hr _ (mem_zip_self hp).2 _ (mem_zip_self hq).2 ns ms tp tq
    rw [z] at hQ
    obtain ⟨a, xs, e1, ⟨o, ho, hc, n, hdt⟩, i⟩ := tp
    obtain ⟨a', ys, e2, ⟨o', ho', hc', n', hdt'⟩, i'⟩ := tq
    rw [e1, e2]
    refine PySem.W.kat_lt ho hdt ho' hdt' ?_
    have l1 : xs.size = xs.toList.length := (Array.length_toList ..).symm
    have l2 : ys.size = ys.toList.length := (Array.length_toList ..).symm
    rw [l1, l2]
    exact lex_any 0 i i' hQ
def ltI (h : Heap) (v u : Value) : Bool := lexLt (TS.intsOf h v) (TS.intsOf h u)
theorem swo_ltI (h : Heap) : SrtO.Swo (ltI h) := by
  refine ⟨fun x y hxy => ?_, fun x y z h1 h2 => ?_⟩
  · unfold ltI at hxy ⊢
    cases e : lexLt (TS.intsOf h y) (TS.intsOf h x) with
    | false => rfl
    | true =>
      have := lexLt_trans _ _ _ hxy e
      rw [lexLt_irr] at this; cases this
  · unfold ltI at h1 h2 ⊢
    revert h1 h2
    generalize TS.intsOf h x = a
    generalize TS.intsOf h y = b
    generalize TS.intsOf h z = c
    intro h1 h2
    first
      | exact lexLt_neg h1 h2
      | exact lexLt_neg h2 h1
theorem lex_sortable {a : Addr} {vs : List Value} (h0 : 0 < vs.length) (x : LexOk s.heap vs) (ha : ∀ o, s.heap.get? a = some o → o.cls ≠ .type "tuple") : SrtO.SortableO prog w A s a vs (ltI s.heap) := by
  intro h' keep
  have keep2 : ∀ b o, s.heap.get? b = some o → o.cls = .type "tuple" → h'.get? b = some o := fun b o e c => keep b o (fun z => by subst z; exact ha o e c) e
  have x' : LexOk h' vs := fun v hv => let ⟨ns, t, hn⟩ := x v hv; ⟨ns, t.keeps keep2, hn⟩
  obtain ⟨fs, k, hl, hi⟩ := lex_firsts vs x'
  refine ⟨PyProof.Rows.tuples' true, fun Q E hq => ?_, fun p q hm hm' => ?_⟩
  · refine PySem.W.kat_kind (T := Value.type "int") k (by omega) (fun f hf => ?_) rfl ?_
    · obtain ⟨n, t, rfl⟩ := hi f hf
      exact PySem.W.Looks.of_pure rfl
    · have e : (Value.type "int" != Value.type "tuple") = true := by first | decide +kernel | rfl | decide
      rw [e]
      exact hq
  · obtain ⟨ns, tp, np⟩ := x p.1 hm
    obtain ⟨ms, tq, nq⟩ := x q.1 hm'
    have tp' := tp.keeps keep2
    have tq' := tq.keeps keep2
    have e0 : SrtO.lt2 (ltI s.heap) p q = lexLt ns ms := by
      show ltI s.heap p.1 q.1 = _
      unfold ltI
      rw [tp.ints, tq.ints]
    rw [e0]
    obtain ⟨a, xs, e1, ⟨o, ho, hc, n, hdt⟩, i⟩ := tp'
    obtain ⟨a', ys, e2, ⟨o', ho', hc', n', hdt'⟩, i'⟩ := tq'
    rw [e1, e2]
    refine PySem.W.kat_lt ho hdt ho' hdt' ?_
    have l1 : xs.size = xs.toList.length := (Array.length_toList ..).symm
    have l2 : ys.size = ys.toList.length := (Array.length_toList ..).symm
    rw [l1, l2]
    exact lex_any 0 i i' ⟨rfl, rfl⟩
/-- list.sort -/
theorem sort_lex {a : Addr} {vs : List Value} {n : Nat} {P : PySem.Fin → Shared → Prop} (ho : s.heap.get? a = some (seqObj "list" vs.toArray n)) (hz : vs.length ≤ sizeLine) (x : LexOk s.heap vs)
    (h : ∀ out : Array Value, out.toList.Perm vs → out.toList.Pairwise (fun u v => lexLt (TS.intsOf s.heap v) (TS.intsOf s.heap u) = false) → P (.done (.ret .none)) { s with heap := sortedHeap s.heap a vs out }) :
    wpAny (model prog w) A (Builtin.«list.sort» ⟨[.ref a], []⟩) P E s := by
  refine SrtO.list_sort_ord (swo_ltI s.heap) ho hz (fun h2 => lex_sortable (by omega) x fun o e => ?_) fun out h1 h2 => h out.toArray h2.perm h1
  rw [ho] at e
  have e' : seqObj "list" vs.toArray n = o := Option.some.inj e
  rw [← e']
  intro c
  exact absurd (Value.type.inj c) (by decide)
end
section
variable {X : Cx}
/-- tuples, sorted by their ints -/
def lexP (K : PySem.W.Frag) (H : Hp) (x y : V) : Prop := ∀ n m, TupI K H x n → TupI K H y m → lexLt m n = false
theorem lex_vals {pins : List (Addr × Obj)} {σ : L2.St} {H : Hp} {s : Shared} (I : Inv X pins σ H s) {xs : List V} {us : List Value} (rv : Vals xs us) (hx : ∀ x ∈ xs, ∃ ns, TupI X.K H x ns ∧ ns ≠ []) :
    xs = us.map bkV ∧ (∀ u ∈ us, ∃ a, u = Value.ref a) ∧ LexOk s.heap us := by
  obtain ⟨e1, e2⟩ := bkV_refs rv fun x m => by
    obtain ⟨ns, ⟨t, e, _⟩, _⟩ := hx x m
    exact ⟨t, e⟩
  refine ⟨e1, e2, fun v hv => ?_⟩
  obtain ⟨t, rfl⟩ := e2 v hv
  have hm : V.ref t ∈ xs := by
    rw [e1]
    exact List.mem_map.mpr ⟨_, hv, rfl⟩
  obtain ⟨ns, ⟨t', e, ht⟩, hn⟩ := hx _ hm
  cases e
  exact ⟨ns, tupI_raw I ht, hn⟩
theorem lexP_of {pins : List (Addr × Obj)} {σ : L2.St} {H : Hp} {s : Shared} (I : Inv X pins σ H s) {us : List Value} (h : us.Pairwise (fun u v => lexLt (TS.intsOf s.heap v) (TS.intsOf s.heap u) = false)) : (us.map bkV).Pairwise (lexP X.K H) := by
  rw [List.pairwise_map]
  refine List.Pairwise.imp (fun {u v} huv n m hn hm => ?_) h
  obtain ⟨t, et, ht⟩ := hn
  obtain ⟨t', et', ht'⟩ := hm
  have eu := bkV_ref et
  have ev := bkV_ref et'
  have i1 : TS.intsOf s.heap u = n := by
    rw [eu]
    exact (tupI_raw I ht).ints
  have i2 : TS.intsOf s.heap v = m := by
    rw [ev]
    exact (tupI_raw I ht').ints
  rw [← i1, ← i2]
  exact huv
/-- sorted(xs) of a list -/
def rSortLL (K : PySem.W.Frag) : List V → Hp → VK → Prop := fun vs H Q => ∃ (a : Addr) (xs : List V), vs = [V.ref a] ∧ SqL K H a xs ∧ (∀ x ∈ xs, ∃ ns, TupI K H x ns ∧ ns ≠ []) ∧
  ∀ (ys : List V) (p : Addr), ys.Perm xs → ys.Pairwise (lexP K H) → H p = none → Q (.ref p) (upd H p (.lst ys))
theorem cr_sortLL : CallR X (.builtin "sorted") (rSortLL X.K) := by
  intro pins s σ H vs us Q I r h
  obtain ⟨a, xs, rfl, hs, hx, q⟩ := h
  obtain ⟨its, rv, hl, hz⟩ := I.list hs
  rw [Vals.ref1 r]
  obtain ⟨e1, e2, x⟩ := lex_vals I rv hx
  have hzi : its.length ≤ sizeLine := by rw [← rv.length]; exact hz
  refine Calls.call_function_entry kind_sorted plain_sorted entry_sorted (args_sorted1 _) ?_
  unfold Builtin.«sorted»
  refine wpAny_bind (m := checkCount "sorted" 1 1 _) (wpAny_pure ?_)
  refine wpAny_bind (collect_list hl.isList ?_ (by simpa using hzi))
  refine wpAny_bind (wpAny_newList ?_ (by simpa using hzi))
  have hsz : ((s.heap.push (seqObj "list" #[] 0)).update s.heap.objs.size (Obj.mapSeq (· ++ its.toArray))).objs.size = s.heap.objs.size + 1 := by
    rw [Heap.size_update, size_push']
  have hoL : (((s.heap.push (seqObj "list" #[] 0)).update s.heap.objs.size (Obj.mapSeq (· ++ its.toArray))).push (seqObj "list" its.toArray 0)).get? (s.heap.objs.size + 1) = some (seqObj "list" its.toArray 0) := by
    rw [← hsz]; exact Heap.get?_push_size _ rfl
  have keep : ∀ b o, s.heap.get? b = some o → o.cls = .type "tuple" → (((s.heap.push (seqObj "list" #[] 0)).update s.heap.objs.size (Obj.mapSeq (· ++ its.toArray))).push (seqObj "list" its.toArray 0)).get? b = some o := fun b o q _ => by
    have hlt : b < s.heap.objs.size := Heap.lt_size q
    rw [Heap.get?_push_ne _ _ _ (by rw [hsz]; exact Nat.ne_of_lt (Nat.lt_succ_of_lt hlt)), Heap.get?_update_ne _ _ _ _ (Nat.ne_of_lt hlt), Heap.get?_push_ne _ _ _ (Nat.ne_of_lt hlt)]
    exact q
  show wpAny _ _ _ _ _ { s with heap := ((s.heap.push (seqObj "list" #[] 0)).update s.heap.objs.size (Obj.mapSeq (· ++ its.toArray))).push (seqObj "list" its.toArray 0) }
  rw [hsz]
  have ik : ∀ u ∈ its, TS.intsOf (((s.heap.push (seqObj "list" #[] 0)).update s.heap.objs.size (Obj.mapSeq (· ++ its.toArray))).push (seqObj "list" its.toArray 0)) u = TS.intsOf s.heap u := fun u hu => by
    obtain ⟨ns, t, _⟩ := x u hu
    rw [t.ints, (t.keeps keep).ints]
  refine wpAny_bind (wpAny_holding (wpAny_call_entry slot_list_sort ⟨_, hoL, rfl⟩ entry_list_sort (sort_lex hoL hzi (fun v hv => let ⟨ns, t, hn⟩ := x v hv; ⟨ns, t.keeps keep, hn⟩) fun out a1 a2 => ⟨_, rfl, ?_⟩) (args_list_sort _)))
  refine wpAny_pure ⟨_, rfl, ?_⟩
  obtain ⟨ep, he'⟩ := PyProof.Rows.sortedAll_at s.heap its out
  have h3 : ∀ u ∈ out.toList, ∃ a, u = Value.ref a := fun u hu => e2 u (a1.mem_iff.mp hu)
  have hp : (out.toList.map bkV).Perm xs := by
    rw [e1]
    exact a1.map bkV
  have hlen : (out.toList.map bkV).length ≤ sizeLine := by
    rw [hp.length_eq]
    exact hz
  refine ⟨.ref _, upd H (s.heap.objs.size + 1) (.lst (out.toList.map bkV)), I.laid (t' := s.toks) (fun _ _ => PyProof.Rows.sortedAll_old) (Nat.le_succ _) ⟨hlen, out.toList, ep, bkV_vals h3, he'⟩, rfl, q _ _ hp ?_ (I.hok.fresh (Nat.le_succ _))⟩
  refine lexP_of I (List.Pairwise.imp_of_mem (fun {u v} hu hv huv => ?_) a2)
  rw [ik u (a1.mem_iff.mp hu), ik v (a1.mem_iff.mp hv)] at huv
  exact huv
/-- sorted(d) of a dict with tuple keys -/
def rSortLD (K : PySem.W.Frag) : List V → Hp → VK → Prop := fun vs H Q => ∃ (d : Addr) (kvs : List (List L2.Key × V)), vs = [V.ref d] ∧ Rd H d (.dT kvs) ∧ (∀ kv ∈ kvs, ∃ ns : List Int, kv.1 = ns.map Sum.inl ∧ ns ≠ []) ∧
  ∀ (bs : List Addr) (ys : List V) (p : Addr), IsKeys H kvs bs → ys.Perm (bs.map V.ref) → ys.Pairwise (lexP K H) → H p = none → Q (.ref p) (upd H p (.lst ys))
theorem isKeys_tup {K : PySem.W.Frag} {H : Hp} {kvs : List (List L2.Key × V)} {bs : List Addr} (h : IsKeys H kvs bs) (hk : ∀ kv ∈ kvs, ∃ ns : List Int, kv.1 = ns.map Sum.inl ∧ ns ≠ []) : ∀ x ∈ bs.map V.ref, ∃ ns, TupI K H x ns ∧ ns ≠ [] := by
  unfold IsKeys at h
  induction h with
  | nil => intro x hx; exact nomatch hx
  | @cons p b ps bs hb t ih =>
    intro x hx
    rcases List.mem_cons.mp hx with rfl | hx
    · obtain ⟨ns, e, hn⟩ := hk p List.mem_cons_self
      refine ⟨ns, ⟨b, rfl, sqT ?_⟩, hn⟩
      rw [hb, e, List.map_map]
      rfl
    · exact ih (fun kv hkv => hk kv (List.mem_cons_of_mem _ hkv)) x hx
theorem cr_sortLD (hc : X.calm = true) : CallR X (.builtin "sorted") (rSortLD X.K) := by
  intro pins s σ H vs us Q I r h
  obtain ⟨d, kvs, rfl, hd, hk, q⟩ := h
  rw [Vals.ref1 r]
  obtain ⟨z, hs, ks, pr, o, es, ep, ho, hx, hdt, he, hn⟩ := (show ObjOk X.prog X.w H s.heap d (.dT kvs) from hd.ok I.hok)
  have l1 : es.size = ks.length := size_of_entries he
  have l2 : kvs.length = ks.length := Paired.length pr
  refine Calls.call_function_entry kind_sorted plain_sorted entry_sorted (args_sorted1 _) ?_
  unfold Builtin.«sorted»
  refine wpAny_bind (m := checkCount "sorted" 1 1 _) (wpAny_pure ?_)
  refine wpAny_bind (PySem.W.kdu_collect (A := X.A.in1) (kdl_raw hs hx hdt) (I.ok.hd hc) ho (by omega) fun h' tk acc hkp it => ?_)
  have ea : acc.toList = ks.map fun x => Value.ref x.2.1 := by
    have hl : acc.toList.length = ks.length := by rw [Array.length_toList, it.1]; exact l1
    apply List.ext_getElem?
    intro j
    rw [List.getElem?_map]
    cases hj : acc.toList[j]? with
    | none =>
      have h1 := List.getElem?_eq_none_iff.mp hj
      rw [List.getElem?_eq_none (by omega)]
      all_goals rfl
    | some v =>
      obtain ⟨en, hen, hv⟩ := it.2 j v (by rw [← Array.getElem?_toList]; exact hj)
      have qe := entry_at he j
      rw [hen] at qe
      cases hb : ks[j]? with
      | none =>
        rw [hb] at qe
        exact nomatch (show some en = none from qe)
      | some b =>
        rw [hb] at qe
        have e2 : en = entryOfKey (tupleKind (mixKind X.prog X.w)) b := Option.some.inj qe
        rw [hv, e2]
        rfl
  have I1 : Inv X pins σ H { s with heap := h', toks := tk } := I.kept hkp
  have hbs : IsKeys H kvs (ks.map fun x => x.2.1) := isKeys_of pr
  have hxs := isKeys_tup (K := X.K) hbs hk
  have rv : Vals ((ks.map fun x => x.2.1).map V.ref) acc.toList := by
    rw [ea]
    have z := vals_refs (ks.map fun x => x.2.1)
    rw [List.map_map] at z
    rw [List.map_map] at z ⊢
    exact z
  obtain ⟨e1, e2, x⟩ := lex_vals I1 rv hxs
  have hal : acc.toList.length ≤ sizeLine := by rw [ea, List.length_map]; omega
  refine wpAny_bind (wpAny_newList ?_ hal)
  have hoL : (h'.push (seqObj "list" acc.toList.toArray 0)).get? h'.objs.size = some (seqObj "list" acc.toList.toArray 0) := Heap.get?_push_size _ rfl
  have keep : ∀ b o, h'.get? b = some o → o.cls = .type "tuple" → (h'.push (seqObj "list" acc.toList.toArray 0)).get? b = some o := fun b o e _ => Heap.get?_push_of_some _ e
  have ik : ∀ u ∈ acc.toList, TS.intsOf (h'.push (seqObj "list" acc.toList.toArray 0)) u = TS.intsOf h' u := fun u hu => by
    obtain ⟨ns, t, _⟩ := x u hu
    rw [(show TS.TupInts h' u ns from t).ints, (TS.TupInts.keeps (h := h') t keep).ints]
  show wpAny _ _ _ _ _ { s with heap := h'.push (seqObj "list" acc.toList.toArray 0), toks := tk }
  refine wpAny_bind (wpAny_holding (wpAny_call_entry PyProof.Rows.slot_list_sort ⟨_, hoL, rfl⟩ PyProof.Rows.entry_list_sort
    (sort_lex (s := { s with heap := h'.push (seqObj "list" acc.toList.toArray 0), toks := tk }) hoL hal (fun v hv => let ⟨ns, t, hn⟩ := x v hv; ⟨ns, TS.TupInts.keeps (h := h') t keep, hn⟩) fun out a1 a2 => ⟨_, rfl, ?_⟩) (PyProof.Rows.args_list_sort _)))
  obtain ⟨e', he'⟩ := PyProof.Rows.sortedHeap_at (vs := acc.toList) (out := out) hoL
  have h3 : ∀ u ∈ out.toList, ∃ a, u = Value.ref a := fun u hu => e2 u (a1.mem_iff.mp hu)
  have hp : (out.toList.map bkV).Perm ((ks.map fun x => x.2.1).map V.ref) := by
    rw [e1]
    exact a1.map bkV
  have hlen : (out.toList.map bkV).length ≤ sizeLine := by
    rw [hp.length_eq, List.length_map, List.length_map]
    rw [ea, List.length_map] at hal
    exact hal
  refine wpAny_pure ⟨_, rfl, .ref h'.objs.size, upd H h'.objs.size (.lst (out.toList.map bkV)), I1.laid (t' := tk) (fun b u e => ?_) (Nat.le_refl _)
    (show ObjOk X.prog X.w _ _ _ (.lst (out.toList.map bkV)) from ⟨hlen, out.toList, e', bkV_vals h3, by rw [Array.toArray_toList]; exact he'⟩), rfl, q _ _ _ hbs hp ?_ (I1.hok.fresh (Nat.le_refl _))⟩
  · have hb : b < h'.objs.size := Heap.lt_size e
    rw [PyProof.Rows.sortedHeap_old (Nat.ne_of_lt hb) (by rw [size_push']; exact Nat.lt_succ_of_lt hb)]
    exact Heap.get?_push_of_some _ e
  · refine lexP_of I1 (List.Pairwise.imp_of_mem (fun {u v} hu hv huv => ?_) a2)
    have z1 := ik u (a1.mem_iff.mp hu)
    have z2 := ik v (a1.mem_iff.mp hv)
    have huv' : lexLt (TS.intsOf (h'.push (seqObj "list" acc.toList.toArray 0)) v) (TS.intsOf (h'.push (seqObj "list" acc.toList.toArray 0)) u) = false := huv
    rw [z1, z2] at huv'
    exact huv'
end
end Lv

/-! things that change stand in the heap's second part; dicts, their walks, comprehensions of dicts -/
namespace Lv
open PySem PySem.Spec PyProof.Rows L2
theorem room65 {k : Nat} {A : Around} (r : Room k A) : A.units + 65 < cLine := by have := r.un; omega
/-- the second part given back: what the function made goes to the first -/
theorem Join.back {G P P' H : Hp} (j : Join G P' H) (e : Ex P P') : ∃ G', Join G' P H ∧ Ex G G' ∧ ∀ c o, P' c = some o → P c = none → G' c = some o := by
  have hg : ∀ c (o : HO), (if P c = none then H c else none) = some o ↔ P c = none ∧ H c = some o := fun c o => by
    by_cases z : P c = none
    · rw [if_pos z]; exact ⟨fun h => ⟨z, h⟩, fun h => h.2⟩
    · rw [if_neg z]; exact ⟨fun h => (nomatch h), fun h => absurd h.1 z⟩
  refine ⟨fun c => if P c = none then H c else none, ⟨fun c u q => ?_, fun c u q => ((hg c u).mp q).2, fun c u q => j.p c u (e c u q), fun c q1 q2 => ?_⟩, fun c u q => ?_, fun c o q n => (hg c o).mpr ⟨n, j.p c o q⟩⟩
  · have n : P c ≠ none := fun z => by rw [z] at q; cases q
    show (if P c = none then H c else none) = none
    rw [if_neg n]
  · have q3 : (if P c = none then H c else none) = none := q1
    rw [if_pos q2] at q3; exact q3
  · refine (hg c u).mpr ⟨?_, j.g c u q⟩
    cases h : P c with
    | none => rfl
    | some o =>
      have := j.ap c o (e c o h)
      rw [this] at q; cases q
/-- a new thing of the first part goes to the second -/
theorem Join.toP {G0 G P H : Hp} {p : Addr} {o : HO} (j : Join G P H) (e : Ex G0 G) (n : G0 p = none) (h : G p = some o) : ∃ G', Join G' (upd P p o) H ∧ Ex G0 G' ∧ ∀ c u, c ≠ p → G c = some u → G' c = some u := by
  have np : P p = none := j.gp h
  refine ⟨fun c => if c = p then none else G c, ⟨fun c u q => ?_, fun c u q => ?_, fun c u q => ?_, fun c q1 q2 => ?_⟩, fun c u q => ?_, fun c u nc q => ?_⟩
  · show (if c = p then none else G c) = none
    by_cases z : c = p
    · rw [if_pos z]
    · rw [if_neg z]; rw [upd_ne z] at q; exact j.ap c u q
  · have q2 : (if c = p then none else G c) = some u := q
    by_cases z : c = p
    · rw [if_pos z] at q2; cases q2
    · rw [if_neg z] at q2; exact j.g c u q2
  · by_cases z : c = p
    · rw [z, upd_same] at q; rw [z, j.g p o h]; exact q
    · rw [upd_ne z] at q; exact j.p c u q
  · have z : c ≠ p := fun z => by rw [z, upd_same] at q2; cases q2
    have q3 : (if c = p then none else G c) = none := q1
    rw [if_neg z] at q3
    rw [upd_ne z] at q2
    exact j.no c q3 q2
  · show (if c = p then none else G c) = some u
    have z : c ≠ p := fun z => by rw [z, n] at q; cases q
    rw [if_neg z]; exact e c u q
  · show (if c = p then none else G c) = some u
    rw [if_neg nc]; exact q
theorem Join.gn {G P H : Hp} (j : Join G P H) {b : Addr} {o : HO} (h : P b = some o) : G b = none := j.ap b o h
theorem Ex.rdP {H H' : Hp} {a : Addr} {u : HO} (e : Ex H H') (h : Rd H a u) : Rd H' a u := Ex.rd e h
section
variable {K : PySem.W.Frag} {σ : L2.St} {G P H : Hp} {Q : VK} {nx bk ct : L2.St → Hp → Prop} {rt : VK} {D : Ends} {tt : TT} {td ty tx te tk tv : TE} {g : TG} {tb : TS} {as : TA} {d : Addr} {ts : List Nat} {j : Nat}
theorem aTup.goP {xs : List V} (J : Join G P H) (l : xs.length ≤ 100000) (q : ∀ p P' H', H p = none → Ex P P' → Join G P' H' → P' p = some (.tup xs) → Q (.ref p) H') : aTup xs H Q :=
  ⟨szle l, fun p hp => q p _ _ hp (Ex.new (J.np hp)) (J.setP (J.ng hp)) upd_same⟩
theorem aLst.goP {xs : List V} (J : Join G P H) (l : xs.length ≤ 100000) (q : ∀ p P' H', H p = none → Ex P P' → Join G P' H' → P' p = some (.lst xs) → Q (.ref p) H') : aLst xs H Q :=
  ⟨szle l, fun p hp => q p _ _ hp (Ex.new (J.np hp)) (J.setP (J.ng hp)) upd_same⟩
theorem aDNew.goP (J : Join G P H) (q : ∀ p P' H', H p = none → Ex P P' → Join G P' H' → P' p = some (.dK []) → Q (.ref p) H') : aDNew H Q := fun p hp => q p _ _ hp (Ex.new (J.np hp)) (J.setP (J.ng hp)) upd_same
def aDNewT : Hp → VK → Prop := fun H Q => ∀ p, H p = none → Q (.ref p) (upd H p (.dT []))
theorem w_dnewT (h : aDNewT H Q) : tDNewT σ H Q := h
theorem aDNewT.goP (J : Join G P H) (q : ∀ p P' H', H p = none → Ex P P' → Join G P' H' → P' p = some (.dT []) → Q (.ref p) H') : aDNewT H Q := fun p hp => q p _ _ hp (Ex.new (J.np hp)) (J.setP (J.ng hp)) upd_same
/-- {k: v} -/
theorem aDisp1.goP {k : L2.Key} {v : V} (J : Join G P H) (hk : ∀ H' S, S (kV k) H' → tk σ H' S) (hv : ∀ H' S, S v H' → tv σ H' S) (q : ∀ p P' H', H p = none → Ex P P' → Join G P' H' → P' p = some (.dK [(k, v)]) → Q (.ref p) H') : tDisp [(tk, tv)] σ H Q := by
  intro p hp
  refine hk _ _ (hv _ _ ⟨upd_same, [(k, v)], rfl, Nat.le_of_ble_eq_true rfl, ?_⟩)
  have e : upd (upd H p (.dK [])) p (.dK (mergeK [] [(k, v)])) = upd H p (.dK [(k, v)]) := by
    funext c
    by_cases z : c = p
    · rw [z, upd_same, upd_same]; rfl
    · rw [upd_ne z, upd_ne z, upd_ne z]
  rw [e]
  exact q p _ _ hp (Ex.new (J.np hp)) (J.setP (J.ng hp)) upd_same
/-- lists that change -/
theorem appendP {l : Addr} {xs : List V} {y : V} (J : Join G P H) (e : P l = some (.lst xs)) (z : xs.length < 100000) (q : ∀ H', Join G (upd P l (.lst (xs ++ [y]))) H' → Q .non H') : rAppend (.ref l) [y] H Q :=
  w_append (J.p _ _ e) z (q _ (J.setP (J.gn e)))
theorem popP {l : Addr} {xs : List V} {y : V} (J : Join G P H) (e : P l = some (.lst (xs ++ [y]))) (q : ∀ H', Join G (upd P l (.lst xs)) H' → Q y H') : rPop (.ref l) [] H Q := by
  refine ⟨l, xs ++ [y], y, rfl, rfl, J.p _ _ e, ?_, ?_⟩
  · rw [List.length_append, List.length_singleton, Nat.add_sub_cancel, List.getElem?_append_right (Nat.le_refl _), Nat.sub_self]; rfl
  · rw [List.dropLast_concat]
    exact q _ (J.setP (J.gn e))
/-! dicts -/
theorem din_rd {neg : Bool} {ns : List Int} {k : Int} (h : Rd H d (.dK (keyP ns))) (q : Q (.bl (if neg then !decide (k ∈ ns) else decide (k ∈ ns))) H) : rDIn neg (.int k) (.ref d) H Q :=
  ⟨d, _, rfl, .inl ⟨keyP ns, .inl k, h, rfl, rfl⟩, by rw [keyP_val]; exact q⟩
theorem dnot_rd {ns : List Int} {k : Int} (h : Rd H d (.dK (keyP ns))) (q : Q (.bl (!decide (k ∈ ns))) H) : rDIn true (.int k) (.ref d) H Q := din_rd h (by rw [if_pos rfl]; exact q)
theorem dyes_rd {ns : List Int} {k : Int} (h : Rd H d (.dK (keyP ns))) (q : Q (.bl (decide (k ∈ ns))) H) : rDIn false (.int k) (.ref d) H Q := din_rd h (by rw [if_neg (by decide)]; exact q)
theorem din_kv {neg : Bool} {kvs : List (L2.Key × V)} {k : L2.Key} {v : V} (hv : v = kV k) (h : Rd H d (.dK kvs)) (q : Q (.bl (if neg then !(valV kvs k).isSome else (valV kvs k).isSome)) H) : rDIn neg v (.ref d) H Q :=
  ⟨d, _, rfl, .inl ⟨kvs, k, h, hv, rfl⟩, q⟩
theorem din_t {neg : Bool} {kvs : List (List L2.Key × V)} {b : Addr} {ks : List Int} (h : Rd H d (.dT kvs)) (hb : H b = some (.tup (ks.map V.int))) (q : Q (.bl (if neg then !(valV kvs (ks.map Sum.inl)).isSome else (valV kvs (ks.map Sum.inl)).isSome)) H) : rDIn neg (.ref b) (.ref d) H Q :=
  ⟨d, _, rfl, .inr ⟨kvs, ks.map Sum.inl, b, h, rfl, by rw [hb, List.map_map]; rfl, rfl⟩, q⟩
/-- d[k] -/
def aDGet : V → V → Hp → VK → Prop := fun x y H Q => ∃ a v, x = .ref a ∧ DGet H a y (some v) ∧ Q v H
theorem w_dgetI (h : td σ H fun x H1 => ty σ H1 fun y H2 => aDGet x y H2 Q) : tDGet td ty σ H Q := h
theorem dget_kv {kvs : List (L2.Key × V)} {k : L2.Key} {v y : V} (hy : y = kV k) (h : Rd H d (.dK kvs)) (hv : valV kvs k = some v) (q : Q v H) : aDGet (.ref d) y H Q := ⟨d, v, rfl, .inl ⟨kvs, k, h, hy, hv.symm⟩, q⟩
theorem dget_t {kvs : List (List L2.Key × V)} {b : Addr} {ks : List Int} {v : V} (h : Rd H d (.dT kvs)) (hb : H b = some (.tup (ks.map V.int))) (hv : valV kvs (ks.map Sum.inl) = some v) (q : Q v H) : aDGet (.ref d) (.ref b) H Q :=
  ⟨d, v, rfl, .inr ⟨kvs, ks.map Sum.inl, b, h, rfl, by rw [hb, List.map_map]; rfl, hv.symm⟩, q⟩
theorem dputP {kvs : List (L2.Key × V)} {k : L2.Key} {v y : V} (J : Join G P H) (hy : y = kV k) (h : P d = some (.dK kvs)) (hl : kvs.length < 100000) (q : ∀ H', Join G (upd P d (.dK (putK kvs k v))) H' → nx σ H') : aDPut v y nx σ (.ref d) H := by
  subst hy
  exact ⟨d, _, rfl, DPut.k (J.p _ _ h) (szlt hl), q _ (J.setP (J.gn h))⟩
theorem dputTP {kvs : List (List L2.Key × V)} {b : Addr} {ks : List Int} {v : V} (J : Join G P H) (hb : H b = some (.tup (ks.map V.int))) (h : P d = some (.dT kvs)) (hl : kvs.length < 100000) (q : ∀ H', Join G (upd P d (.dT (putK kvs (ks.map Sum.inl) v))) H' → nx σ H') : aDPut v (.ref b) nx σ (.ref d) H :=
  ⟨d, _, rfl, DPut.t (k := ks.map Sum.inl) (J.p _ _ h) (by rw [hb, List.map_map]; rfl) (szlt hl), q _ (J.setP (J.gn h))⟩
theorem lenP {kvs : List (L2.Key × V)} (h : H d = some (.dK kvs)) (q : Q (.int kvs.length) H) : rLenD [.ref d] H Q := ⟨d, kvs, rfl, h, q⟩
/-- for k in d: d stands in the second part, locked -/
theorem forKP.go {kvs : List (L2.Key × V)} (J : Join G P H) (h : P d = some (.dK kvs)) (htd : ∀ (H' : Hp) (Q : VK), Q (.ref d) H' → td σ H' Q) (I : Nat → Hp → Hp → L2.St → Prop) (h0 : ∀ od, I 0 G (upd P d (.frz od (.dK kvs))) σ)
    (hs : ∀ (od : Obj) (rt' : VK) (bk' : L2.St → Hp → Prop) (i : Nat) (k : L2.Key) (v : V) (G' P' H' : Hp) (σ' : L2.St), kvs[i]? = some (k, v) → P' d = some (.frz od (.dK kvs)) → Join G' P' H' → I i G' P' σ' →
      g (kV k) σ' H' fun σ2 H2 => tb ⟨fun σ3 H3 => ∃ G3 P3, Join G3 P3 H3 ∧ P3 d = some (.frz od (.dK kvs)) ∧ I (i + 1) G3 P3 σ3, rt', bk', fun σ3 H3 => ∃ G3 P3, Join G3 P3 H3 ∧ P3 d = some (.frz od (.dK kvs)) ∧ I (i + 1) G3 P3 σ3⟩ σ2 H2)
    (hq : ∀ (od : Obj) (G' P' H' : Hp) (σ' : L2.St), P' d = some (.frz od (.dK kvs)) → I kvs.length G' P' σ' → Join G' (upd P' d (.dK kvs)) H' → nx σ' H') : tLock (tFor (iKeys td) g tb) ⟨nx, rt, bk, ct⟩ σ H := by
  refine ⟨d, .dK kvs, J.p _ _ h, trivial, fun od => htd _ _ ⟨d, od, rfl, .inl ⟨kvs, upd_same, ?_⟩⟩⟩
  refine for_keys (fun i σ' H' => ∃ G3 P3, Join G3 P3 H' ∧ P3 d = some (.frz od (.dK kvs)) ∧ I i G3 P3 σ') ⟨G, _, J.setP (J.gn h), upd_same, h0 od⟩ (fun i σ' H' _ ⟨G', P', j', hd, _⟩ => j'.p _ _ hd) (fun i k v σ' H' hk ⟨G', P', j', hd, hI⟩ => hs od _ _ i k v G' P' H' σ' hk hd j' hI) (fun σ' H' ⟨G', P', j', hd, hI⟩ => ⟨j'.p _ _ hd, hq od G' P' _ σ' hd hI (j'.setP (j'.gn hd))⟩)
/-- [.. for k in d ..]: d stands in the second part, locked -/
theorem lcKP.go {kvs : List (L2.Key × V)} (I : Nat → List V → Hp → Prop) (J : Join G P H) (h : P d = some (.dK kvs)) (htd : ∀ (H' : Hp) (Q : VK), Q (.ref d) H' → td σ H' Q) (hl : kvs.length ≤ 1000000)
    (h0 : I 0 [] G) (hm : ∀ i us G1 G2, Ex G1 G2 → I i us G1 → I i us G2) (hz : ∀ i us G2, I i us G2 → us.length ≤ i)
    (hs : ∀ (od : Obj) (i : Nat) (k : L2.Key) (v : V) (us : List V) (G' P' H' : Hp) (R : VK) (R0 : Hp → Prop), kvs[i]? = some (k, v) → Ex G G' → (∀ c o, c ≠ d → P c = some o → P' c = some o) → P' d = some (.frz od (.dK kvs)) → Join G' P' H' → I i us G' →
      (∀ y G2 H2, Ex G' G2 → Join G2 P' H2 → I (i + 1) (us ++ [y]) G2 → R y H2) → (∀ G2 H2, Ex G' G2 → Join G2 P' H2 → I (i + 1) us G2 → R0 H2) →
      g (kV k) (wipe σ ts) H' fun σ2 H2 => wipe σ2 ts = wipe σ ts ∧ tt σ2 H2 fun b H3 => if b = true then te σ2 H3 R else R0 H3)
    (hq : ∀ p us G' H', H p = none → Ex G G' → Join G' P H' → G' p = some (.lst us) → I kvs.length us G' → Q (.ref p) H') : tLockE (tLc (iKeys td) g tt te ts) σ H Q := by
  refine ⟨d, .dK kvs, J.p _ _ h, trivial, fun od => htd _ _ ⟨d, od, rfl, .inl ⟨kvs, upd_same, fun L hL => ?_⟩⟩⟩
  have nL : L ≠ d := fun e => by rw [e, upd_same] at hL; cases hL
  have hL0 : H L = none := by rw [upd_ne nL] at hL; exact hL
  have gL : G L = none := J.ng hL0
  have pL : P L = none := J.np hL0
  have j1 : Join G (upd P d (.frz od (.dK kvs))) (upd H d (.frz od (.dK kvs))) := J.setP (J.gn h)
  refine lc_keys (fun i H' => ∃ G' P' us, Ex G G' ∧ (∀ c o, c ≠ d → P c = some o → P' c = some o) ∧ P' d = some (.frz od (.dK kvs)) ∧ P' L = some (.lst us) ∧ I i us G' ∧ Join G' P' H') ⟨G, upd (upd P d (.frz od (.dK kvs))) L (.lst []), [], Ex.refl _, fun c o nc hc => ?_, Eq.trans (upd_ne (Ne.symm nL)) upd_same, upd_same, h0, j1.setP gL⟩ (fun i H' _ ⟨G', P', us, _, _, hd, _, _, j'⟩ => j'.p _ _ hd) (fun i k x H' hk ⟨G', P', us, e', hP, hd, hLs, hI, j'⟩ => ?_) (fun H' ⟨G', P', us, e', hP, hd, hLs, hI, j'⟩ => ?_)
  · rw [upd_ne (ne_of_none hc pL), upd_ne nc]; exact hc
  · have hul := hz _ _ _ hI
    have hil := (List.getElem?_eq_some_iff.mp hk).1
    refine hs od i k x us G' P' H' _ _ hk e' hP hd j' hI (fun y G2 H2 e2 j2 hI2 => ⟨us, j2.p _ _ hLs, Nat.lt_of_le_of_lt (show us.length ≤ 1000000 by omega) (by decide), G2, upd P' L (.lst (us ++ [y])), us ++ [y], e'.trans e2, fun c o nc hc => ?_, Eq.trans (upd_ne (Ne.symm nL)) hd, upd_same, hI2, j2.setP (j2.gn hLs)⟩) (fun G2 H2 e2 j2 hI2 => ⟨G2, P', us, e'.trans e2, hP, hd, hLs, hI2, j2⟩)
    rw [upd_ne (ne_of_none hc pL)]; exact hP c o nc hc
  · have j3 : Join G' (upd P' d (.dK kvs)) (upd H' d (.dK kvs)) := j'.setP (j'.gn hd)
    obtain ⟨G2, j4, e4, k4⟩ := j3.back (P := P) fun c o hc => by
      by_cases z : c = d
      · subst z; rw [upd_same, ← h]; exact hc
      · rw [upd_ne z]; exact hP c o z hc
    exact ⟨j'.p _ _ hd, hq L us G2 _ hL0 (e'.trans e4) j4 (k4 L _ (Eq.trans (upd_ne nL) hLs) pL) (hm _ _ _ _ e4 hI)⟩
/-- {n: .. for n in range(m)} -/
def aDcR (g : TG) (tt : TT) (tk tv : TE) (vs : List Nat) (σ : L2.St) : List V → Hp → VK → Prop := fun xs H Q => tDc (fun _ H R => ∃ j : Int, xs = [.int j] ∧ -(2 ^ 62) ≤ j ∧ j < 2 ^ 62 ∧ R (Itr 0 j.toNat) H) g tt tk tv vs σ H Q
theorem w_dcR (h : as σ H fun xs H1 => aDcR g tt tk tv ts σ xs H1 Q) : tDc (iRng1 as) g tt tk tv ts σ H Q := h
theorem putK_keyv {κ : Type} [DecidableEq κ] {kvs : List (κ × V)} {k : κ} {v : V} (h : ∀ x ∈ kvs, x.1 ≠ k) : putK kvs k v = kvs ++ [(k, v)] := by
  refine putK_new v ?_
  cases e : valV kvs k with
  | none => rfl
  | some y =>
    unfold valV at e
    cases e2 : kvs.find? fun kv => decide (kv.1 = k) with
    | none => rw [e2] at e; cases e
    | some z =>
      have h1 := List.find?_some e2
      exact absurd (of_decide_eq_true h1) (h z (List.mem_of_find?_eq_some e2))
theorem dc_range {lo : Int} {n : Nat} {vs : List Nat} {H1 : Hp} {D : Addr} {Qd : Hp → Prop} (Pv : Nat → Hp → Prop) (h0 : Pv 0 (upd H1 D (.dK [])))
    (hs : ∀ i H, i < n → Pv i H → g (.int (lo + (i : Int))) (wipe σ vs) H fun σ2 H2 => wipe σ2 vs = wipe σ vs ∧ tt σ2 H2 fun b H3 =>
      if b = true then tk σ2 H3 fun y H4 => tv σ2 H4 fun z H5 => ∃ kvs k, y = kV k ∧ H5 D = some (.dK kvs) ∧ kvs.length < sizeLine ∧ Pv (i + 1) (upd H5 D (.dK (putK kvs k z))) else Pv (i + 1) H3) (hd : ∀ H, Pv n H → Qd H) :
    ∃ W : Nat → Nat → Hp → Prop, (∃ m, W 0 m (upd H1 D (.dK []))) ∧ ∀ i m H, W i m H →
      ((Itr lo n).stop i H ∧ Qd H) ∨ ((Itr lo n).go i H ∧ ∃ Nx : Hp → Prop, (∀ H', Nx H' → ∃ m', m' < m ∧ W (i + 1) m' H') ∧ ∀ x H', (Itr lo n).yld i H x H' → g x (wipe σ vs) H' fun σ2 H2 => wipe σ2 vs = wipe σ vs ∧ tt σ2 H2 fun b H3 =>
        if b = true then tk σ2 H3 fun y H4 => tv σ2 H4 fun z H5 => ∃ kvs k, y = kV k ∧ H5 D = some (.dK kvs) ∧ kvs.length < sizeLine ∧ Nx (upd H5 D (.dK (putK kvs k z))) else Nx H3) := by
  refine ⟨fun i m H => m = n - i ∧ i ≤ n ∧ Pv i H, ⟨n, by simp, Nat.zero_le _, h0⟩, ?_⟩
  rintro i m H ⟨rfl, hi, p⟩
  by_cases hlt : i < n
  · refine .inr ⟨hlt, Pv (i + 1), fun H' p' => ⟨n - (i + 1), by omega, rfl, hlt, p'⟩, fun x H' y => ?_⟩
    obtain ⟨e, y⟩ := y
    subst e y
    exact hs i _ hlt p
  · have e : i = n := by omega
    subst e
    exact .inl ⟨Nat.le_refl _, hd H p⟩
theorem aDcR.go {n : Nat} {m : Int} (J : Join G P H) (hn : m = n) (hl : n ≤ 100000) (hw : ∀ x, wipe ((wipe σ ts).set j (some x)) ts = wipe σ ts)
    (hk : ∀ (n : Int) (H' : Hp) (S : VK), S (.int n) H' → tk ((wipe σ ts).set j (some (.int n))) H' S) (hv : ∀ (x : V) (H' : Hp) (S : VK), S (.bl true) H' → tv ((wipe σ ts).set j (some x)) H' S)
    (hq : ∀ p P' H', H p = none → Ex P P' → Join G P' H' → P' p = some (.dK (keyP (rgI 0 n))) → Q (.ref p) H') : aDcR (gName j) tYes tk tv ts σ [.int m] H Q := by
  subst hn
  refine ⟨(n : Int), rfl, by omega, by omega, fun D hD => ?_⟩
  have pD : P D = none := J.np hD
  have gD : G D = none := J.ng hD
  refine dc_range (n := (n : Int).toNat) (fun i H' => ∃ P', Ex P P' ∧ Join G P' H' ∧ P' D = some (.dK (keyP (rgI 0 i)))) ⟨_, Ex.new pD, J.setP gD, upd_same⟩ (fun i H' hi ⟨P', e, j', hd⟩ => ?_) (fun H' ⟨P', e, j', hd⟩ => ?_)
  · rw [Int.toNat_natCast] at hi
    refine ⟨hw _, iteT (B := True) (hk _ H' _ (hv _ H' _ ⟨keyP (rgI 0 i), .inl _, rfl, j'.p _ _ hd, ?_, _, ?_, j'.setP (j'.gn hd), ?_⟩))⟩
    · refine szlt ?_
      unfold keyP
      rw [List.length_map, rgI_len]; omega
    · exact e.mut pD
    · rw [upd_same, keyP_put]
      · congr 3
        unfold rgI
        rw [List.range_succ, List.map_append]; rfl
      · intro hm
        have := rgI_mem.mp hm
        omega
  · rw [Int.toNat_natCast] at hd
    exact hq D P' H' hD e j' hd
/-- {n: .. for n in d}: d stands in the second part, locked; the new dict, too -/
theorem dc_keys {o : Obj} {kvs0 : List (L2.Key × V)} {vs : List Nat} {H1 : Hp} {D : Addr} {Qd : Hp → Prop} (Pv : Nat → Hp → Prop) (h0 : Pv 0 (upd H1 D (.dK []))) (hl : ∀ i H, i ≤ kvs0.length → Pv i H → H d = some (.frz o (.dK kvs0)))
    (hs : ∀ (i : Nat) (k0 : L2.Key) (v0 : V) H, kvs0[i]? = some (k0, v0) → Pv i H → g (kV k0) (wipe σ vs) H fun σ2 H2 => wipe σ2 vs = wipe σ vs ∧ tt σ2 H2 fun b H3 =>
      if b = true then tk σ2 H3 fun y H4 => tv σ2 H4 fun z H5 => ∃ kvs k, y = kV k ∧ H5 D = some (.dK kvs) ∧ kvs.length < sizeLine ∧ Pv (i + 1) (upd H5 D (.dK (putK kvs k z))) else Pv (i + 1) H3) (hd : ∀ H, Pv kvs0.length H → Qd H) :
    ∃ W : Nat → Nat → Hp → Prop, (∃ m, W 0 m (upd H1 D (.dK []))) ∧ ∀ i m H, W i m H →
      ((Itk d o kvs0).stop i H ∧ Qd H) ∨ ((Itk d o kvs0).go i H ∧ ∃ Nx : Hp → Prop, (∀ H', Nx H' → ∃ m', m' < m ∧ W (i + 1) m' H') ∧ ∀ x H', (Itk d o kvs0).yld i H x H' → g x (wipe σ vs) H' fun σ2 H2 => wipe σ2 vs = wipe σ vs ∧ tt σ2 H2 fun b H3 =>
        if b = true then tk σ2 H3 fun y H4 => tv σ2 H4 fun z H5 => ∃ kvs k, y = kV k ∧ H5 D = some (.dK kvs) ∧ kvs.length < sizeLine ∧ Nx (upd H5 D (.dK (putK kvs k z))) else Nx H3) := by
  refine ⟨fun i m H => m = kvs0.length - i ∧ i ≤ kvs0.length ∧ Pv i H, ⟨kvs0.length, by simp, Nat.zero_le _, h0⟩, ?_⟩
  rintro i m H ⟨rfl, hi, p⟩
  have q := hl i H hi p
  by_cases c : i < kvs0.length
  · refine .inr ⟨⟨q, c⟩, Pv (i + 1), fun H' p' => ⟨kvs0.length - (i + 1), by omega, rfl, c, p'⟩, fun x H' y => ?_⟩
    obtain ⟨e, k, v, hk, rfl⟩ := y
    subst e
    exact hs i k v _ hk p
  · have e : i = kvs0.length := by omega
    subst e
    exact .inl ⟨⟨q, Nat.le_refl _⟩, hd H p⟩
def kvZ (ns : List Int) (vs : List V) : List (L2.Key × V) := (ns.zip vs).map fun z => (Sum.inl z.1, z.2)
theorem zip_more {α β : Type} : ∀ {ns : List α} {vs : List β} {n : α} {v : β}, ns[vs.length]? = some n → ns.zip (vs ++ [v]) = ns.zip vs ++ [(n, v)]
  | [], vs, _, _, h => by simp at h
  | a :: ns, [], n, v, h => by
    have e : a = n := by simpa using h
    subst e; simp
  | a :: ns, b :: vs, n, v, h => by
    have h2 : ns[vs.length]? = some n := by simpa using h
    have ih := zip_more (v := v) h2
    rw [List.cons_append, List.zip_cons_cons, ih, List.zip_cons_cons]; rfl
theorem kvZ_ne {ns : List Int} {vs : List V} {n : Int} (hn : ns.Nodup) (h : ns[vs.length]? = some n) : ∀ x ∈ kvZ ns vs, x.1 ≠ (Sum.inl n : L2.Key) := fun x hx e => by
  unfold kvZ at hx
  obtain ⟨z, hz, rfl⟩ := List.mem_map.mp hx
  injection e with e
  obtain ⟨a, ha⟩ := List.getElem?_of_mem hz
  obtain ⟨h1, h2⟩ := List.getElem?_zip_eq_some.mp ha
  have hlt := (List.getElem?_eq_some_iff.mp h2).1
  obtain ⟨b1, b2⟩ := List.getElem?_eq_some_iff.mp h1
  obtain ⟨b3, b4⟩ := List.getElem?_eq_some_iff.mp h
  have := (List.getElem_inj hn).mp (b2.trans (e.trans b4.symm))
  omega
theorem valV_kvZ : ∀ {ns : List Int} {vs : List V} {i : Nat} {n : Int} {v : V}, ns.Nodup → ns[i]? = some n → vs[i]? = some v → valV (kvZ ns vs) (.inl n) = some v
  | [], _, _, _, _, _, h, _ => by simp at h
  | _ :: _, [], _, _, _, _, _, h => by simp at h
  | a :: ns, b :: vs, 0, n, v, _, h1, h2 => by
    have e1 : a = n := by simpa using h1
    have e2 : b = v := by simpa using h2
    subst e1 e2
    exact valV_pos (p := ((Sum.inl a : L2.Key), b)) (r := kvZ ns vs) rfl
  | a :: ns, b :: vs, i + 1, n, v, hn, h1, h2 => by
    have h1' : ns[i]? = some n := by simpa using h1
    have h2' : vs[i]? = some v := by simpa using h2
    have ne : a ≠ n := fun e => by
      subst e
      exact (List.nodup_cons.mp hn).1 (List.mem_of_getElem? h1')
    rw [show kvZ (a :: ns) (b :: vs) = ((Sum.inl a : L2.Key), b) :: kvZ ns vs from rfl, valV_neg (fun e => ne (Sum.inl.inj e))]
    exact valV_kvZ (List.nodup_cons.mp hn).2 h1' h2'
theorem dcKP.go {ns : List Int} (Pv : Int → V → Hp → Prop) (J : Join G P H) (h : P d = some (.dK (keyP ns))) (htd : ∀ (H' : Hp) (Q : VK), Q (.ref d) H' → td σ H' Q) (hn : ns.Nodup) (hl : ns.length ≤ 100000)
    (hm : ∀ n v G1 G2, Ex G1 G2 → Pv n v G1 → Pv n v G2) (hw : ∀ x, wipe ((wipe σ ts).set j (some x)) ts = wipe σ ts) (hk : ∀ (n : Int) (H' : Hp) (S : VK), S (.int n) H' → tk ((wipe σ ts).set j (some (.int n))) H' S)
    (hv : ∀ (od : Obj) (n : Int) (G' P' H' : Hp) (S : VK), n ∈ ns → Ex G G' → (∀ c o, c ≠ d → P c = some o → P' c = some o) → P' d = some (.frz od (.dK (keyP ns))) → Join G' P' H' → (∀ v G2 H2, Ex G' G2 → Join G2 P' H2 → Pv n v G2 → S v H2) → tv ((wipe σ ts).set j (some (.int n))) H' S)
    (hq : ∀ p vs G' H', H p = none → vs.length = ns.length → (∀ (i : Nat) n v, ns[i]? = some n → vs[i]? = some v → Pv n v G') → Ex G G' → Join G' (upd P p (.dK (kvZ ns vs))) H' → Q (.ref p) H') : tLockE (tDc (iKeys td) (gName j) tYes tk tv ts) σ H Q := by
  refine ⟨d, .dK (keyP ns), J.p _ _ h, trivial, fun od => htd _ _ ⟨d, od, rfl, .inl ⟨keyP ns, upd_same, fun L hL => ?_⟩⟩⟩
  have nL : L ≠ d := fun e => by rw [e, upd_same] at hL; cases hL
  have hL0 : H L = none := by rw [upd_ne nL] at hL; exact hL
  have gL : G L = none := J.ng hL0
  have pL : P L = none := J.np hL0
  have j1 : Join G (upd P d (.frz od (.dK (keyP ns)))) (upd H d (.frz od (.dK (keyP ns)))) := J.setP (J.gn h)
  have lk : (keyP ns).length = ns.length := by unfold keyP; rw [List.length_map]
  have dP : ∀ o : HO, upd (upd P d (.frz od (.dK (keyP ns)))) L o d = some (.frz od (.dK (keyP ns))) := fun o => Eq.trans (upd_ne (Ne.symm nL)) upd_same
  have again : ∀ o u : HO, upd (upd (upd P d (.frz od (.dK (keyP ns)))) L o) L u = upd (upd P d (.frz od (.dK (keyP ns)))) L u := fun o u => by
    funext c
    by_cases z : c = L
    · rw [z, upd_same, upd_same]
    · rw [upd_ne z, upd_ne z, upd_ne z]
  refine dc_keys (fun i H' => ∃ G' vs, Ex G G' ∧ vs.length = i ∧ (∀ (i : Nat) n v, ns[i]? = some n → vs[i]? = some v → Pv n v G') ∧ Join G' (upd (upd P d (.frz od (.dK (keyP ns)))) L (.dK (kvZ ns vs))) H')
    ⟨G, [], Ex.refl _, rfl, fun i n v _ h2 => by simp at h2, ?_⟩ (fun i H' _ ⟨G', vs, _, _, _, j'⟩ => j'.p _ _ (dP _)) (fun i k x H' hk0 ⟨G', vs, e', hvl, hI, j'⟩ => ?_) (fun H' ⟨G', vs, e', hvl, hI, j'⟩ => ?_)
  · have e : kvZ ns [] = [] := by unfold kvZ; simp
    rw [e]; exact j1.setP gL
  · obtain ⟨n, hni, rfl⟩ := keyP_at hk0
    have hil := (List.getElem?_eq_some_iff.mp hni).1
    refine ⟨hw _, iteT (B := True) (hk n H' _ (hv od n G' _ H' _ (List.mem_of_getElem? hni) e' (fun c o nc hc => by rw [upd_ne (ne_of_none hc pL), upd_ne nc]; exact hc) (dP _) j' fun v G2 H2 e2 j2 hp => ⟨kvZ ns vs, .inl n, rfl, j2.p _ _ upd_same, ?_, G2, vs ++ [v], e'.trans e2, by rw [List.length_append, hvl]; rfl, fun a m u h1 h2 => ?_, ?_⟩))⟩
    · refine szlt ?_
      unfold kvZ
      rw [List.length_map, List.length_zip]; omega
    · by_cases c : a < vs.length
      · rw [List.getElem?_append_left c] at h2
        exact hm _ _ _ _ e2 (hI a m u h1 h2)
      · rw [List.getElem?_append_right (by omega)] at h2
        have e0 : a - vs.length = 0 := by
          cases e : a - vs.length with
          | zero => rfl
          | succ z => rw [e] at h2; simp at h2
        rw [e0] at h2
        have ea : a = i := by omega
        subst ea
        rw [hni] at h1
        cases h1
        cases h2
        exact hp
    · have e : putK (kvZ ns vs) (.inl n) v = kvZ ns (vs ++ [v]) := by
        rw [putK_keyv (kvZ_ne hn (by rw [hvl]; exact hni))]
        unfold kvZ
        rw [zip_more (by rw [hvl]; exact hni), List.map_append]; rfl
      rw [e, ← again (.dK (kvZ ns vs))]
      exact j2.setP (j2.gn upd_same)
  · have j3 := j'.setP (o := .dK (keyP ns)) (j'.gn (dP _))
    refine ⟨j'.p _ _ (dP _), hq L vs G' _ hL0 (by rw [hvl, lk]) hI e' ?_⟩
    have e : upd (upd (upd P d (.frz od (.dK (keyP ns)))) L (.dK (kvZ ns vs))) d (.dK (keyP ns)) = upd P L (.dK (kvZ ns vs)) := by
      funext c
      by_cases z : c = L
      · rw [z, upd_ne nL, upd_same, upd_same]
      · by_cases z2 : c = d
        · rw [z2, upd_same, upd_ne (Ne.symm nL), h]
        · rw [upd_ne z2, upd_ne z, upd_ne z2, upd_ne z]
    rw [e] at j3
    exact j3
/-- sorted(d) of a dict with int keys -/
def rSortDI : List V → Hp → VK → Prop := fun xs H Q => ∃ (a : Addr) (kvs : List (L2.Key × V)) (ks : List Int), xs = [.ref a] ∧ Rd H a (.dK kvs) ∧ kvs.map (·.1) = ks.map Sum.inl ∧ ks.length < 64 ∧
    ∀ (ys : List Int) (p : Addr), ys.Perm ks → ys.Pairwise (· ≤ ·) → H p = none → Q (.ref p) (upd H p (.lst (ys.map V.int)))
theorem cr_sortDI {X : Cx} (hc : X.calm = true) : CallR X (.builtin "sorted") rSortDI := call_sortedDI hc
theorem keyP_keys (ns : List Int) : (keyP ns).map (·.1) = ns.map Sum.inl := by unfold keyP; rw [List.map_map]; rfl
theorem kvZ_keys {ns : List Int} {vs : List V} (h : vs.length = ns.length) : (kvZ ns vs).map (·.1) = ns.map Sum.inl := by
  unfold kvZ
  rw [List.map_map]
  have e : ((fun x : L2.Key × V => x.1) ∘ fun z : Int × V => ((Sum.inl z.1 : L2.Key), z.2)) = (fun n : Int => (Sum.inl n : L2.Key)) ∘ Prod.fst := rfl
  rw [e, ← List.map_map, List.map_fst_zip (by omega)]
theorem sortDI_go {kvs : List (L2.Key × V)} {ns : List Int} (J : Join G P H) (h : Rd H d (.dK kvs)) (hk : kvs.map (·.1) = ns.map Sum.inl) (hl : ns.length < 64) (q : ∀ (ns' : List Int) p G' H', ns'.Perm ns → ns'.Pairwise (· ≤ ·) → H p = none → Ex G G' → Join G' P H' → G' p = some (.lst (ns'.map V.int)) → Q (.ref p) H') : rSortDI [.ref d] H Q :=
  ⟨d, kvs, ns, rfl, h, hk, hl, fun ys p h1 h2 hp => q ys p _ _ h1 h2 hp (Ex.new (J.ng hp)) (J.newG hp) upd_same⟩
/-- no tuple stands in the second part -/
def NT (P : Hp) : Prop := ∀ b xs, P b ≠ some (.tup xs)
theorem NT.gt {b : Addr} {xs : List V} (n : NT P) (J : Join G P H) (h : H b = some (.tup xs)) : G b = some (.tup xs) := by
  cases e : G b with
  | some o => rw [J.g b o e] at h; exact h
  | none =>
    cases e2 : P b with
    | none => rw [J.no b e e2] at h; cases h
    | some o => rw [J.p b o e2] at h; cases h; exact absurd e2 (n b xs)
theorem NT.upd {b : Addr} {o : HO} (n : NT P) (h : ∀ xs, o ≠ .tup xs) : NT (upd P b o) := fun c xs e => by
  by_cases z : c = b
  · rw [z, upd_same] at e; exact h xs (Option.some.inj e)
  · rw [upd_ne z] at e; exact n c xs e
theorem tupL_zip {α : Type} {f : α → List V} {G : Hp} {zs : List (V × α)} (h : ∀ z ∈ zs, ∃ t : Addr, z.1 = .ref t ∧ G t = some (.tup (f z.2))) : TupL f G (zs.map (·.1)) (zs.map (·.2)) := by
  refine ⟨by simp, fun i a ha => ?_⟩
  rw [List.getElem?_map] at ha
  cases e : zs[i]? with
  | none => rw [e] at ha; cases ha
  | some z =>
    rw [e] at ha
    have ea : z.2 = a := Option.some.inj ha
    subst ea
    obtain ⟨t, h1, h2⟩ := h z (List.mem_of_getElem? e)
    exact ⟨t, by rw [List.getElem?_map, e, ← h1]; rfl, h2⟩
theorem tupL_mem {α : Type} {f : α → List V} {G : Hp} {xs : List V} {as : List α} (h : TupL f G xs as) : ∀ z ∈ xs.zip as, ∃ t : Addr, z.1 = .ref t ∧ G t = some (.tup (f z.2)) := fun z hz => by
  obtain ⟨i, hi⟩ := List.getElem?_of_mem hz
  obtain ⟨h1, h2⟩ := List.getElem?_zip_eq_some.mp hi
  obtain ⟨t, h3, h4⟩ := h.2 i z.2 h2
  rw [h1] at h3
  exact ⟨t, Option.some.inj h3, h4⟩
theorem lex_perm {G H : Hp} {xs ys : List V} {nss : List (List Int)} (e : Ex G H) (ht : TupL iV G xs nss) (hp : ys.Perm xs) (hs : ys.Pairwise (lexP K H)) : ∃ nss', nss'.Perm nss ∧ nss'.Pairwise (fun a b => lexLt b a = false) ∧ TupL iV G ys nss' := by
  obtain ⟨zs, h1, h2⟩ := perm_lift (f := fun z : V × List Int => z.1) hp (xs.zip nss) (List.map_fst_zip (by rw [ht.1]; exact Nat.le_refl _))
  have hz : ∀ z ∈ zs, ∃ t : Addr, z.1 = .ref t ∧ G t = some (.tup (iV z.2)) := fun z hz => tupL_mem ht z (h1.mem_iff.mp hz)
  refine ⟨zs.map (·.2), ?_, ?_, ?_⟩
  · have := h1.map (fun z : V × List Int => z.2)
    rw [show (xs.zip nss).map (fun z : V × List Int => z.2) = nss from List.map_snd_zip (by rw [ht.1]; exact Nat.le_refl _)] at this
    exact this
  · rw [List.pairwise_map]
    have h3 : zs.Pairwise (fun a b => lexP K H a.1 b.1) := by rw [← List.pairwise_map (f := fun z : V × List Int => z.1), h2]; exact hs
    refine List.Pairwise.imp_of_mem (fun {a b} ha hb h => ?_) h3
    obtain ⟨t, e1, h4⟩ := hz a ha
    obtain ⟨u, e2, h5⟩ := hz b hb
    exact h a.2 b.2 ⟨t, e1, sqT (e _ _ h4)⟩ ⟨u, e2, sqT (e _ _ h5)⟩
  · have := tupL_zip hz
    rw [h2] at this
    exact this
theorem sortLL_go {a : Addr} {xs : List V} {nss : List (List Int)} (J : Join G P H) (h : H a = some (.lst xs)) (ht : TupL iV G xs nss) (hl : nss.length ≤ 100000) (hne : ∀ ns ∈ nss, ns ≠ [])
    (q : ∀ (nss' : List (List Int)) ys p G' H', nss'.Perm nss → nss'.Pairwise (fun a b => lexLt b a = false) → H p = none → Ex G G' → Join G' P H' → G' p = some (.lst ys) → TupL iV G' ys nss' → Q (.ref p) H') : rSortLL K [.ref a] H Q := by
  refine ⟨a, xs, rfl, sqL h, fun x hx => ?_, fun ys p h1 h2 hp => ?_⟩
  · obtain ⟨i, hi⟩ := List.getElem?_of_mem hx
    obtain ⟨ns, t, h1, h2, h3⟩ := ht.get hi
    exact ⟨ns, ⟨t, h2, sqT (J.g _ _ h3)⟩, hne ns (List.mem_of_getElem? h1)⟩
  · obtain ⟨nss', k1, k2, k3⟩ := lex_perm J.exG ht h1 h2
    have e : Ex G (upd G p (.lst ys)) := Ex.new (J.ng hp)
    exact q nss' ys p _ _ k1 k2 hp e (J.newG hp) upd_same (k3.mono e)
theorem isKeys_zip {H : Hp} {kvs : List (List L2.Key × V)} {bs : List Addr} (h : IsKeys H kvs bs) : ∀ {nss : List (List Int)}, kvs.map (·.1) = nss.map (·.map Sum.inl) → bs.length = nss.length ∧ ∀ z ∈ (bs.map V.ref).zip nss, ∃ t : Addr, z.1 = .ref t ∧ H t = some (.tup (iV z.2)) := by
  unfold IsKeys at h
  induction h with
  | nil =>
    intro nss hk
    cases nss with
    | nil => exact ⟨rfl, fun z hz => by simp at hz⟩
    | cons _ _ => cases hk
  | @cons p b ps bs hb t ih =>
    intro nss hk
    cases nss with
    | nil => cases hk
    | cons ns nss =>
      rw [List.map_cons, List.map_cons] at hk
      injection hk with k1 k2
      obtain ⟨l, r⟩ := ih k2
      refine ⟨by rw [List.length_cons, List.length_cons, l], fun z hz => ?_⟩
      rw [List.map_cons, List.zip_cons_cons] at hz
      rcases List.mem_cons.mp hz with rfl | hz
      · refine ⟨b, rfl, ?_⟩
        show H b = some (.tup (iV ns))
        rw [hb, k1, List.map_map]; rfl
      · exact r z hz
theorem sortLD_go {kvs : List (List L2.Key × V)} {nss : List (List Int)} (J : Join G P H) (n : NT P) (h : Rd H d (.dT kvs)) (hk : kvs.map (·.1) = nss.map (·.map Sum.inl)) (hl : nss.length ≤ 100000) (hne : ∀ ns ∈ nss, ns ≠ [])
    (q : ∀ (nss' : List (List Int)) ys p G' H', nss'.Perm nss → nss'.Pairwise (fun a b => lexLt b a = false) → H p = none → Ex G G' → Join G' P H' → G' p = some (.lst ys) → TupL iV G' ys nss' → Q (.ref p) H') : rSortLD K [.ref d] H Q := by
  have lk : kvs.length = nss.length := by have := congrArg List.length hk; simpa using this
  refine ⟨d, kvs, rfl, h, fun kv hkv => ?_, fun bs ys p hb h1 h2 hp => ?_⟩
  · have hm : kv.1 ∈ nss.map (·.map Sum.inl) := by rw [← hk]; exact List.mem_map.mpr ⟨kv, hkv, rfl⟩
    obtain ⟨ns, hns, e⟩ := List.mem_map.mp hm
    exact ⟨ns, e.symm, hne ns hns⟩
  · obtain ⟨l1, hz⟩ := isKeys_zip hb hk
    have ht : TupL iV G (bs.map V.ref) nss := by
      have := tupL_zip (f := iV) (G := G) (zs := (bs.map V.ref).zip nss) fun z hz1 => by
        obtain ⟨t, e1, e2⟩ := hz z hz1
        exact ⟨t, e1, n.gt J e2⟩
      rw [List.map_fst_zip (by rw [List.length_map, l1]; exact Nat.le_refl _), List.map_snd_zip (by rw [List.length_map, l1]; exact Nat.le_refl _)] at this
      exact this
    obtain ⟨nss', k1, k2, k3⟩ := lex_perm J.exG ht h1 h2
    have e : Ex G (upd G p (.lst ys)) := Ex.new (J.ng hp)
    exact q nss' ys p _ _ k1 k2 hp e (J.newG hp) upd_same (k3.mono e)
theorem lex_unique : ∀ {l m : List (List Int)}, l.Pairwise (fun a b => lexLt a b = true) → m.Pairwise (fun a b => lexLt a b = true) → (∀ x, x ∈ l ↔ x ∈ m) → l = m
  | [], [], _, _, _ => rfl
  | [], b :: m, _, _, h => nomatch (h b).mpr List.mem_cons_self
  | a :: l, [], _, _, h => nomatch (h a).mp List.mem_cons_self
  | a :: l, b :: m, h1, h2, h => by
    obtain ⟨a1, a2⟩ := List.pairwise_cons.mp h1
    obtain ⟨b1, b2⟩ := List.pairwise_cons.mp h2
    have e : a = b := by
      rcases List.mem_cons.mp ((h a).mp List.mem_cons_self) with e | hm
      · exact e
      · rcases List.mem_cons.mp ((h b).mpr List.mem_cons_self) with e | hl
        · exact e.symm
        · have x := lexLt_trans a b a (a1 b hl) (b1 a hm)
          rw [lexLt_irr] at x; cases x
    subst e
    have na : a ∉ l := fun hm => by have := a1 a hm; rw [lexLt_irr] at this; cases this
    have nb : a ∉ m := fun hm => by have := b1 a hm; rw [lexLt_irr] at this; cases this
    rw [lex_unique a2 b2 fun x => ⟨fun hx => by
      rcases List.mem_cons.mp ((h x).mp (List.mem_cons_of_mem _ hx)) with e | hm
      · subst e; exact absurd hx na
      · exact hm, fun hx => by
      rcases List.mem_cons.mp ((h x).mpr (List.mem_cons_of_mem _ hx)) with e | hm
      · subst e; exact absurd hx nb
      · exact hm⟩]
theorem lex_strict {l : List (List Int)} (h : l.Pairwise (fun a b => lexLt b a = false)) (hn : l.Nodup) : l.Pairwise (fun a b => lexLt a b = true) := by
  refine (h.and hn).imp fun {a b} hab => ?_
  cases e : lexLt a b with
  | true => rfl
  | false => exact absurd (lexLt_tri a b e hab.1) hab.2
theorem aDNewT.goP2 (J : Join G P H) (nt : NT P) (q : ∀ p P' H', H p = none → Ex P P' → Join G P' H' → P' p = some (.dT []) → NT P' → Q (.ref p) H') : aDNewT H Q := fun p hp => q p _ _ hp (Ex.new (J.np hp)) (J.setP (J.ng hp)) upd_same (nt.upd fun _ e => nomatch e)
theorem aDNew.goP2 (J : Join G P H) (nt : NT P) (q : ∀ p P' H', H p = none → Ex P P' → Join G P' H' → P' p = some (.dK []) → NT P' → Q (.ref p) H') : aDNew H Q := fun p hp => q p _ _ hp (Ex.new (J.np hp)) (J.setP (J.ng hp)) upd_same (nt.upd fun _ e => nomatch e)
theorem aLst.goP2 {xs : List V} (J : Join G P H) (nt : NT P) (l : xs.length ≤ 100000) (q : ∀ p P' H', H p = none → Ex P P' → Join G P' H' → P' p = some (.lst xs) → NT P' → Q (.ref p) H') : aLst xs H Q :=
  ⟨szle l, fun p hp => q p _ _ hp (Ex.new (J.np hp)) (J.setP (J.ng hp)) upd_same (nt.upd fun _ e => nomatch e)⟩
/-- k in xs, ints -/
theorem inH_yes {k : Int} {p : Addr} {ns : List Int} (h : H p = some (.lst (ns.map V.int)) ∨ H p = some (.tup (ns.map V.int))) (q : Q (.bl (decide (k ∈ ns))) H) : rIn K false (.int k) (.ref p) H Q := in_go (Join.self H) h (by rw [if_neg (by decide)]; exact q)
theorem inH_no {k : Int} {p : Addr} {ns : List Int} (h : H p = some (.lst (ns.map V.int)) ∨ H p = some (.tup (ns.map V.int))) (q : Q (.bl (!decide (k ∈ ns))) H) : rIn K true (.int k) (.ref p) H Q := in_go (Join.self H) h (by rw [if_pos rfl]; exact q)
theorem any_dT {ks : List Int} : ∀ nss : List (List Int), ((nss.map dT).any fun z => PyData.eqv z (dT ks)) = decide (ks ∈ nss)
  | [] => rfl
  | n :: nss => by
    rw [List.map_cons, List.any_cons, any_dT nss, eqv_dT]
    by_cases c : n = ks
    · subst c; simp
    · have c2 : ¬ ks = n := fun e => c e.symm
      simp [c, c2]
/-- t not in xs, tuples of ints -/
theorem notInD_go {tk a : Addr} {xs : List V} {nss : List (List Int)} {ks : List Int} (h : H a = some (.lst xs)) (ht : TupL iV H xs nss) (hk : H tk = some (.tup (ks.map V.int))) (q : Q (.bl (!decide (ks ∈ nss))) H) : rNotInD K (.ref tk) (.ref a) H Q :=
  ⟨dT ks, nss.map dT, dp_tup hk, dp_lst h ht, shaped_dT _, shaped_dL _, by rw [any_dT]; exact q⟩
theorem TupL.keep {α : Type} {f : α → List V} {G2 : Hp} {p : Addr} {xs ys : List V} {as : List α} (h : TupL f G ys as) (hp : G p = some (.lst xs)) (k : ∀ c u, c ≠ p → G c = some u → G2 c = some u) : TupL f G2 ys as := ⟨h.1, fun i a ha => by
  obtain ⟨t, h1, h2⟩ := h.2 i a ha
  exact ⟨t, h1, k t _ (fun e => by rw [e, hp] at h2; cases h2) h2⟩⟩
theorem clearP {l : Addr} {xs : List V} (J : Join G P H) (e : P l = some (.lst xs)) (q : ∀ H', Join G (upd P l (.lst [])) H' → Q .non H') : rClear (.ref l) [] H Q := ⟨l, xs, rfl, rfl, J.p _ _ e, q _ (J.setP (J.gn e))⟩
/-- the pot's part of a heap's second part -/
theorem Pot.norm {l : Addr} (J : Join G P H) (h : Pot P l) : ∃ G' P', Join G' P' H ∧ Ex G G' ∧ Pot P' l ∧ NT P' := by
  obtain ⟨g, s, gs, ss, t, c, h1, h2, h3, h4⟩ := h
  have e0 : Ex (fun b => if b = l ∨ b = g ∨ b = s then P b else none) P := fun b o q => by
    have q2 : (if b = l ∨ b = g ∨ b = s then P b else none) = some o := q
    by_cases z : b = l ∨ b = g ∨ b = s
    · rw [if_pos z] at q2; exact q2
    · rw [if_neg z] at q2; cases q2
  obtain ⟨G', j', e', _⟩ := J.back e0
  refine ⟨G', _, j', e', ⟨g, s, gs, ss, t, c, ?_, ?_, ?_, h4⟩, fun b xs q => ?_⟩
  · show (if l = l ∨ l = g ∨ l = s then P l else none) = _
    rw [if_pos (.inl rfl)]; exact h1
  · show (if g = l ∨ g = g ∨ g = s then P g else none) = _
    rw [if_pos (.inr (.inl rfl))]; exact h2
  · show (if s = l ∨ s = g ∨ s = s then P s else none) = _
    rw [if_pos (.inr (.inr rfl))]; exact h3
  · have q1 := e0 _ _ q
    have q2 : (if b = l ∨ b = g ∨ b = s then P b else none) = some (.tup xs) := q
    by_cases z : b = l ∨ b = g ∨ b = s
    · rcases z with z | z | z
      · rw [z, h1] at q1; cases q1
      · rw [z, h2] at q1; cases q1
      · rw [z, h3] at q1; cases q1
    · rw [if_neg z] at q2; cases q2
end
end Lv

/-! for .. in enumerate(t) -/
namespace Lv
open PySem PySem.Spec PyProof.Rows L2
section
variable {K : PySem.W.Frag} {σ : L2.St} {G P H : Hp} {nx bk ct : L2.St → Hp → Prop} {rt : VK} {D : Ends} {g : TG} {tb : TS} {as : TA}
def aForE (K : PySem.W.Frag) (g : TG) (tb : TS) (D : Ends) (σ : L2.St) : List V → Hp → Prop := fun us H => tFor (fun _ H R => ∃ a xs, us = [.ref a] ∧ SqT K H a xs ∧ R (Itet K a) H) g tb D σ H
theorem w_forE (h : as σ H fun xs H1 => aForE K g tb D σ xs H1) : tFor (iEnumT K as) g tb D σ H := h
theorem aForE.go {a : Addr} {xs : List V} (I : Nat → Hp → Hp → L2.St → Prop) (J : Join G P H) (hS : G a = some (.tup xs)) (h0 : I 0 G P σ) (hk : ∀ i G' P' σ', I i G' P' σ' → G' a = some (.tup xs))
    (hs : ∀ (i : Nat) (x : V) (T : Addr) (G0 G' P' H' : Hp) (σ' : L2.St), xs[i]? = some x → Join G' P' H' → G' T = some (.tup [.int i, x]) → Ex G0 G' → I i G0 P' σ' → g (.ref T) σ' H' fun σ2 H2 => tb ⟨fun σ3 H3 => ∃ G3 P3, Join G3 P3 H3 ∧ I (i + 1) G3 P3 σ3, rt, nx, fun σ3 H3 => ∃ G3 P3, Join G3 P3 H3 ∧ I (i + 1) G3 P3 σ3⟩ σ2 H2)
    (hq : ∀ (G' P' H' : Hp) (σ' : L2.St), Join G' P' H' → I xs.length G' P' σ' → nx σ' H') : aForE K g tb ⟨nx, rt, bk, ct⟩ σ [.ref a] H := by
  refine ⟨a, xs, rfl, sqT (J.g _ _ hS), for_enumT (K := K) (a := a) (xs := xs) (fun i σ' H' => ∃ G3 P3, Join G3 P3 H' ∧ I i G3 P3 σ') ⟨G, P, J, h0⟩ ?_ ?_ ?_⟩
  · rintro i σ' H' _ ⟨G', P', J', hI⟩
    exact sqT (J'.g _ _ (hk _ _ _ _ hI))
  · rintro i x σ' H' T hi ⟨G', P', J', hI⟩ hT
    exact hs i x T G' _ P' _ σ' hi (J'.newG hT) upd_same (Ex.new (J'.ng hT)) hI
  · rintro σ' H' ⟨G', P', J', hI⟩
    exact hq G' P' H' σ' J' hI
/-- {k: v}, v new -/
theorem aDisp1.goG {k : L2.Key} {tk tv : TE} {Q : VK} (Pv : V → Hp → Prop) (J : Join G P H) (hk : ∀ H' S, S (kV k) H' → tk σ H' S) (hv : ∀ P' H' S, Join G P' H' → (∀ v G2 H2, Ex G G2 → Join G2 P' H2 → Pv v G2 → S v H2) → tv σ H' S)
    (q : ∀ p v P' G' H', H p = none → Ex P P' → Ex G G' → Join G' P' H' → P' p = some (.dK [(k, v)]) → Pv v G' → Q (.ref p) H') : tDisp [(tk, tv)] σ H Q := by
  intro p hp
  have j1 : Join G (upd P p (.dK [])) (upd H p (.dK [])) := J.setP (J.ng hp)
  refine hk _ _ (hv _ _ _ j1 fun v G2 H2 e2 j2 pv => ⟨j2.p _ _ upd_same, [(k, v)], rfl, Nat.le_of_ble_eq_true rfl, ?_⟩)
  exact q p v _ G2 _ hp ((Ex.new (J.np hp)).mut (J.np hp)) e2 (j2.setP (o := .dK (mergeK [] [(k, v)])) (j2.gn upd_same)) upd_same pv
end
end Lv

/-! C(..) of an own class, within try -/
namespace Lv
open PySem PySem.Spec PyProof.Rows L2
section
variable {X : Cx} {CX : CXT} {k : Nat} {f C : Addr} {fd : FuncData} {ps : List Str} {sp : Sp} {E : L2.St → XK} {x : Str} {p pos : Pos} {e : Expr} {es : List Expr} {t : TA}
theorem run_makeS {dvs : List V} {ds : List Value} {pins : List (Addr × Obj)} {σ : L2.St} {H : Hp} {s : Shared} {Q : VK} {us : List Value} {vs : List V} (M : Mk X.K C f) (F : FnOk X.prog X.w X.K X.mg X.base CX k f fd ps sp) (hr : Room (k + 1) X.A) (hb : Binds X.K fd ps ds) (hd : Vals dvs ds)
    (hx : PassesAt CX X σ (E σ)) (I : Inv X pins σ H s) (r : Vals vs us)
    (h : ∀ x dx, H x = none → H dx = none → dx ≠ x → sp (.ref x :: (vs ++ dvs)) (upd (upd H dx (.own x)) x (.ins C dx [])) (fun v H2 => v = .non ∧ Q (.ref x) H2) (E σ)) :
    wpAny (model X.prog X.w) X.A (call (.ref C) us) (EP X pins σ Q) X.xe s := by
  have hq := h (s.heap.objs.size + 1) s.heap.objs.size (I.hok.fresh (Nat.le_succ _)) (I.hok.fresh (Nat.le_refl _)) (Nat.ne_of_lt (Nat.lt_succ_self _))
  have I2 := Inv.made (C := C) I
  have r2 : Vals (V.ref (s.heap.objs.size + 1) :: (vs ++ dvs)) (Value.ref (s.heap.objs.size + 1) :: (us ++ ds)) := .cons rfl (r.append hd)
  have hl : (Value.ref (s.heap.objs.size + 1) :: us ++ ds).length = ps.length := by
    have e := r2.length
    rw [F.len _ _ _ _ hq] at e
    exact e.symm
  refine wpAny_call (make_map (f := f) I.kIn M.makes M.init (beq_iff_eq.mp M.fn) (codeAny_mono (F.run _ X.stack _ _ ⟨Value.ref (s.heap.objs.size + 1) :: us, []⟩ (Value.ref (s.heap.objs.size + 1) :: (us ++ ds)) _ _ (E σ) (hr.make C us [])
    (I2.env0.make C us []) (hb _ (Value.ref (s.heap.objs.size + 1) :: us) I2.kIn hl) r2 hq) fun r s' hq' => ?_))
  cases r with
  | error e => exact hx pins _ _ e s' I2 hq'
  | ok fl =>
    cases fl with
    | ret u =>
      obtain ⟨v, H', I3, rv, ev, q3⟩ := I2.after hq'
      subst ev
      exact ⟨rv, ⟨V.ref (s.heap.objs.size + 1), H', I3, rfl, q3⟩⟩
    | next => exact False.elim hq'
    | brk => exact False.elim hq'
    | cont => exact False.elim hq'
def tMakeS (C : Addr) (sp : Sp) (E : L2.St → XK) (t : TA) : TE := fun σ H Q => tMake C sp [] (E σ) t σ H Q
theorem pe_makeS (M : Mk X.K C f) (F : FnOk X.prog X.w X.K X.mg X.base CX k f fd ps sp) (hr : Room (k + 1) X.A) (hg : Gl X x) (hm : X.mg x = some (.ref C)) (hb : Binds X.K fd ps []) (hx : ∀ σ, PassesAt CX X σ (E σ))
    (ha : PA X (e :: es) t) (hdb : (x == ("__debug__" : Str)) = false := by decide) (he : starEach (e :: es) X.env = (false, eval e X.env) :: starEach es X.env := by rfl) (hpl : (backTo pos (starEach es X.env)).any (·.1) = false := by rfl) :
    PE X (.Call (.Name x p) (e :: es) [] pos) (tMakeS C sp E t) := by
  refine ⟨fun pins s σ H Q I h => ?_⟩
  refine wpAny_Call_Name_kw (ld_glob I hg hm ?_ hdb)
  refine PySem.W.callWith_K (h₀ := X.base) I.ok.mod.kin M.kp (thn (ha.run pos pins s σ H _ I h) fun us s1 ⟨vs, H1, I1, r, q⟩ => ⟨I1.kIn, ?_⟩) he hpl
  exact run_makeS M F hr hb .nil (hx σ) I1 r q
theorem w_makeS {σ : L2.St} {H : Hp} {Q : VK} (h : t σ H fun vs H1 => aMake C sp [] (E σ) vs H1 Q) : tMakeS C sp E t σ H Q := h
end
end Lv

/-! a value that is a list or a tuple; dicts whose keys are tuples of ints -/
namespace Lv
open PySem PySem.Spec PyProof.Rows L2
section
variable {X : Cx} {tg : Expr}
/-- a walk over a list or a tuple -/
def iSeq (K : PySem.W.Frag) (tl : TE) : TI := fun σ H R => tl σ H fun x H1 => ∃ a, x = .ref a ∧ (((∃ xs, SqL K H1 a xs) ∧ R (Itl K a) H1) ∨ ((∃ xs, SqT K H1 a xs) ∧ R (Itt K a) H1))
theorem pi_seq {l : Expr} {tl : TE} (hl : PE X l tl) : PI X tg l (iSeq X.K tl) := by
  refine ⟨fun pins s σ H R I h => ?_⟩
  refine thn (hl.run pins s σ H _ I h) fun v s1 ⟨x, H1, I1, r1, q1⟩ => ?_
  obtain ⟨a, e, q1⟩ := q1
  subst e
  cases r1
  rcases q1 with ⟨⟨xs, hq⟩, q⟩ | ⟨⟨xs, hq⟩, q⟩
  · obtain ⟨its, rv, p, hz⟩ := I1.list hq
    refine wpAny_pyIter_list p.isList ?_
    refine ⟨s1.heap.objs.size, [s1.heap.objs.size], _, _, H1, rfl, I1.kept (t' := s1.toks) fun b o e => Heap.get?_push_of_some _ e, turn_list a _, ⟨_, Heap.get?_push_size _ rfl, rfl, rfl⟩, fun b hb => ?_, q⟩
    have e : b = s1.heap.objs.size := by simpa using hb
    subst e
    exact I1.fpOk (Nat.le_refl _) (I1.hok.fresh (Nat.le_refl _))
  · obtain ⟨its, rv, p, hz⟩ := I1.tuple hq
    refine wpAny_pyIter_tuple (show s1.heap.IsTuple a its.toArray from p) ?_
    refine ⟨s1.heap.objs.size, [s1.heap.objs.size], _, _, H1, rfl, I1.kept (t' := s1.toks) fun b o e => Heap.get?_push_of_some _ e, turn_tuple a _, ⟨_, Heap.get?_push_size _ rfl, rfl, rfl⟩, fun b hb => ?_, q⟩
    have e : b = s1.heap.objs.size := by simpa using hb
    subst e
    exact I1.fpOk (Nat.le_refl _) (I1.hok.fresh (Nat.le_refl _))
theorem pi_seqK {K : PySem.W.Frag} {e : Expr} {tl : TE} (h : X.K = K) (he : PE X e tl) : PI X tg e (iSeq K tl) := h ▸ pi_seq he
/-- enumerate of a list or a tuple -/
def iEnumS (K : PySem.W.Frag) (ta : TA) : TI := fun σ H R => ta σ H fun vs H1 => ∃ a xs, vs = [.ref a] ∧ ((SqL K H1 a xs ∧ R (Ite K a) H1) ∨ (SqT K H1 a xs ∧ R (Itet K a) H1))
theorem pi_enumS {e : Expr} {ta : TA} {p pos tpos : Pos} {elts : List Expr} {kk : Nat} (hg : Gl X "enumerate") (hm : X.mg "enumerate" = none) (ha : PA X [e] ta) (hs : starEach [e] X.env = [(false, eval e X.env)] := by rfl) :
    PI X (.Tuple elts kk tpos) (.Call (.Name "enumerate" p) [e] [] pos) (iEnumS X.K ta) := by
  refine ⟨fun pins s σ H R I h => ?_⟩
  refine Call_ (ld_blt I hg hm boot_enumerate (PyProof.Rows.callWith_type1 (thn (ha.run pos pins s σ H _ I h) fun us s1 ⟨vs, H1, I1, r1, q1⟩ => ?_) hs rfl))
  obtain ⟨a, xs, ex, q1⟩ := q1
  subst ex
  cases r1 with
  | cons r rr =>
    cases rr
    cases r
    rcases q1 with ⟨hq, q⟩ | ⟨hq, q⟩
    · obtain ⟨its, rv, p', hz⟩ := I1.list hq
      refine call_enumerate_list p'.isList fun h' he hit hsz hk => wpAny_pyIter_enum he ?_
      have I2 : Inv X pins σ H1 { s1 with heap := h' } := I1.kept (t' := s1.toks) hk
      refine ⟨s1.heap.objs.size + 1, [s1.heap.objs.size + 1, s1.heap.objs.size], _, _, H1, rfl, I2, turn_enum a (s1.heap.objs.size + 1) s1.heap.objs.size, ⟨⟨.none, he⟩, hit, Nat.succ_ne_self _⟩, fun b hb => ?_, q⟩
      have e' : b = s1.heap.objs.size + 1 ∨ b = s1.heap.objs.size := by simpa using hb
      have hle : s1.heap.objs.size ≤ b := by
        rcases e' with z | z
        · rw [z]; exact Nat.le_add_right _ _
        · rw [z]; exact Nat.le_refl _
      exact I1.fpOk hle (I1.hok.fresh hle)
    · obtain ⟨its, rv, p', hz⟩ := I1.tuple hq
      have hpt : s1.heap.IsTuple a its.toArray := p'
      have hal : a < s1.heap.objs.size := p'.lt
      refine call_enum1 (begins_tuple a its.toArray) hpt fun h' he hit hsz hk => wpAny_pyIter_enum he ?_
      have I2 : Inv X pins σ H1 { s1 with heap := h' } := I1.kept (t' := s1.toks) hk
      refine ⟨s1.heap.objs.size + 1, [s1.heap.objs.size + 1, s1.heap.objs.size], _, _, H1, rfl, I2, turn_enumT a (s1.heap.objs.size + 1) s1.heap.objs.size (Nat.ne_of_lt hal), ⟨⟨.none, he⟩, ⟨_, hit, rfl, rfl⟩, Nat.succ_ne_self _, Nat.ne_of_lt (Nat.lt_succ_of_lt hal)⟩, fun b hb => ?_, q⟩
      have e' : b = s1.heap.objs.size + 1 ∨ b = s1.heap.objs.size := by simpa using hb
      have hle : s1.heap.objs.size ≤ b := by
        rcases e' with z | z
        · rw [z]; exact Nat.le_add_right _ _
        · rw [z]; exact Nat.le_refl _
      exact I1.fpOk hle (I1.hok.fresh hle)
end
section
variable {K : PySem.W.Frag} {σ : L2.St} {G P H : Hp} {Q : VK} {nx bk ct : L2.St → Hp → Prop} {rt : VK} {D : Ends} {tt : TT} {td te ta : TE} {g : TG} {tb : TS} {as : TA} {ts : List Nat} {a : Addr} {xs : List V}
/-- a list or a tuple stands there -/
def Sq (G : Hp) (a : Addr) (xs : List V) : Prop := G a = some (.lst xs) ∨ G a = some (.tup xs)
theorem Sq.mono {G G' : Hp} (e : Ex G G') (h : Sq G a xs) : Sq G' a xs := h.imp (e _ _) (e _ _)
def aForS (K : PySem.W.Frag) (g : TG) (tb : TS) (D : Ends) (σ : L2.St) : V → Hp → Prop := fun x H => tFor (fun _ H R => ∃ a, x = .ref a ∧ (((∃ xs, SqL K H a xs) ∧ R (Itl K a) H) ∨ ((∃ xs, SqT K H a xs) ∧ R (Itt K a) H))) g tb D σ H
theorem w_forS (h : ta σ H fun x H1 => aForS K g tb D σ x H1) : tFor (iSeq K ta) g tb D σ H := h
theorem aForS.go (I : Nat → Hp → Hp → L2.St → Prop) {Gb : Hp} (J : Join G P H) (eb : Ex Gb G) (hS : Sq Gb a xs) (h0 : I 0 G P σ) (hk : ∀ i G' P' σ', I i G' P' σ' → Ex Gb G')
    (hs : ∀ (i : Nat) (x : V) (G' P' H' : Hp) (σ' : L2.St), xs[i]? = some x → Join G' P' H' → I i G' P' σ' → g x σ' H' fun σ2 H2 => tb ⟨fun σ3 H3 => ∃ G3 P3, Join G3 P3 H3 ∧ I (i + 1) G3 P3 σ3, rt, nx, fun σ3 H3 => ∃ G3 P3, Join G3 P3 H3 ∧ I (i + 1) G3 P3 σ3⟩ σ2 H2)
    (hq : ∀ (G' P' H' : Hp) (σ' : L2.St), Join G' P' H' → I xs.length G' P' σ' → nx σ' H') : aForS K g tb ⟨nx, rt, bk, ct⟩ σ (.ref a) H := by
  rcases hS with h | h
  · obtain ⟨b, e, h1, h2⟩ := (aForL.go (K := K) (bk := bk) (ct := ct) I J (eb _ _ h) h0 (fun i G' P' σ' hI => hk i G' P' σ' hI _ _ h) hs hq : aForL K g tb ⟨nx, rt, bk, ct⟩ σ (.ref a) H)
    exact ⟨b, e, .inl ⟨h1, h2⟩⟩
  · obtain ⟨b, e, h1, h2⟩ := (aForT.go (K := K) (bk := bk) (ct := ct) I J (eb _ _ h) h0 (fun i G' P' σ' hI => hk i G' P' σ' hI _ _ h) hs hq : aForT K g tb ⟨nx, rt, bk, ct⟩ σ (.ref a) H)
    exact ⟨b, e, .inr ⟨h1, h2⟩⟩
def aLcS (K : PySem.W.Frag) (g : TG) (tt : TT) (te : TE) (vs : List Nat) (σ : L2.St) : V → Hp → VK → Prop := fun x H Q => tLc (fun _ H R => ∃ a, x = .ref a ∧ (((∃ xs, SqL K H a xs) ∧ R (Itl K a) H) ∨ ((∃ xs, SqT K H a xs) ∧ R (Itt K a) H))) g tt te vs σ H Q
theorem w_lcS (h : ta σ H fun x H1 => aLcS K g tt te ts σ x H1 Q) : tLc (iSeq K ta) g tt te ts σ H Q := h
theorem aLcS.ofL (h : aLcL K g tt te ts σ (.ref a) H Q) : aLcS K g tt te ts σ (.ref a) H Q := by
  obtain ⟨b, e, h1, h2⟩ := h
  exact ⟨b, e, .inl ⟨h1, h2⟩⟩
theorem aLcS.ofT (h : aLcT K g tt te ts σ (.ref a) H Q) : aLcS K g tt te ts σ (.ref a) H Q := by
  obtain ⟨b, e, h1, h2⟩ := h
  exact ⟨b, e, .inr ⟨h1, h2⟩⟩
theorem aLcS.go (Pp : Hp → Prop) (I : Nat → List V → Hp → Prop) (J : Join G P H) (hP : Pp P)
    (hS : Sq G a xs) (h0 : ∀ G', Ex G G' → I 0 [] G') (hI : ∀ i ws G2 D us ts, G2 D = some (.lst us) → I i ws G2 → I i ws (upd G2 D (.lst ts))) (hz : ∀ i ws G2, I i ws G2 → ws.length ≤ 1000000)
    (hs : ∀ (i : Nat) (x : V) (ws : List V) (G' P' H' : Hp) (R : VK) (R0 : Hp → Prop), xs[i]? = some x → Ex G G' → I i ws G' → Pp P' → Join G' P' H' →
      (∀ v G2 P2 H2, Ex G' G2 → Pp P2 → Join G2 P2 H2 → I (i + 1) (ws ++ [v]) G2 → R v H2) → (∀ G2 P2 H2, Ex G' G2 → Pp P2 → Join G2 P2 H2 → I (i + 1) ws G2 → R0 H2) →
      g x (wipe σ ts) H' fun σ2 H2 => wipe σ2 ts = wipe σ ts ∧ tt σ2 H2 fun b H3 => if b = true then te σ2 H3 R else R0 H3)
    (hq : ∀ p ws G' P' H', H p = none → Ex G G' → G' p = some (.lst ws) → I xs.length ws G' → Pp P' → Join G' P' H' → Q (.ref p) H') : aLcS K g tt te ts σ (.ref a) H Q := by
  rcases hS with h | h
  · exact aLcS.ofL (aLcL.go Pp I J hP h h0 hI hz hs hq)
  · exact aLcS.ofT (aLcT.go Pp I J hP h h0 hI hz hs hq)
theorem for_enumL {D : Ends} (Pv : Nat → L2.St → Hp → Prop) (h0 : Pv 0 σ H) (hl : ∀ i σ H, i ≤ xs.length → Pv i σ H → SqL K H a xs)
    (hs : ∀ (i : Nat) x σ H T, xs[i]? = some x → Pv i σ H → H T = none → g (.ref T) σ (upd H T (.tup [.int i, x])) fun σ2 H2 => tb { D with nx := Pv (i + 1), ct := Pv (i + 1), bk := D.nx } σ2 H2) (hd : ∀ σ H, Pv xs.length σ H → D.nx σ H) :
    ∃ W : Nat → Nat → L2.St → Hp → Prop, (∃ m, W 0 m σ H) ∧ ∀ i m σ H, W i m σ H →
      ((Ite K a).stop i H ∧ D.nx σ H) ∨ ((Ite K a).go i H ∧ ∃ N : L2.St → Hp → Prop, (∀ σ' H', N σ' H' → ∃ m', m' < m ∧ W (i + 1) m' σ' H') ∧ ∀ x H', (Ite K a).yld i H x H' → g x σ H' fun σ2 H2 => tb { D with nx := N, ct := N, bk := D.nx } σ2 H2) := by
  refine ⟨fun i m σ H => m = xs.length - i ∧ i ≤ xs.length ∧ Pv i σ H, ⟨xs.length, by simp, Nat.zero_le _, h0⟩, ?_⟩
  rintro i m σ H ⟨rfl, hi, p⟩
  have q := hl i σ H hi p
  by_cases hlt : i < xs.length
  · refine .inr ⟨⟨xs, xs[i], q, by simp [hlt]⟩, Pv (i + 1), fun σ' H' p' => ⟨xs.length - (i + 1), by omega, rfl, hlt, p'⟩, fun x H' y => ?_⟩
    obtain ⟨T, z, e1, e2, e3, y⟩ := y
    subst e1 e3
    exact hs i z σ H T (y xs q) p e2
  · have e : i = xs.length := by omega
    subst e
    exact .inl ⟨⟨xs, q, Nat.le_refl _⟩, hd σ H p⟩
def aForES (K : PySem.W.Frag) (g : TG) (tb : TS) (D : Ends) (σ : L2.St) : List V → Hp → Prop := fun us H => tFor (fun _ H R => ∃ a xs, us = [.ref a] ∧ ((SqL K H a xs ∧ R (Ite K a) H) ∨ (SqT K H a xs ∧ R (Itet K a) H))) g tb D σ H
theorem w_forES (h : as σ H fun xs H1 => aForES K g tb D σ xs H1) : tFor (iEnumS K as) g tb D σ H := h
theorem aForES.go (I : Nat → Hp → Hp → L2.St → Prop) {Gb : Hp} (J : Join G P H) (eb : Ex Gb G) (hS : Sq Gb a xs) (h0 : I 0 G P σ) (hk : ∀ i G' P' σ', I i G' P' σ' → Ex Gb G')
    (hs : ∀ (i : Nat) (x : V) (T : Addr) (G0 G' P' H' : Hp) (σ' : L2.St), xs[i]? = some x → Join G' P' H' → G' T = some (.tup [.int i, x]) → Ex G0 G' → I i G0 P' σ' → g (.ref T) σ' H' fun σ2 H2 => tb ⟨fun σ3 H3 => ∃ G3 P3, Join G3 P3 H3 ∧ I (i + 1) G3 P3 σ3, rt, nx, fun σ3 H3 => ∃ G3 P3, Join G3 P3 H3 ∧ I (i + 1) G3 P3 σ3⟩ σ2 H2)
    (hq : ∀ (G' P' H' : Hp) (σ' : L2.St), Join G' P' H' → I xs.length G' P' σ' → nx σ' H') : aForES K g tb ⟨nx, rt, bk, ct⟩ σ [.ref a] H := by
  have hS' := hS
  rcases hS with h | h
  · refine ⟨a, xs, rfl, .inl ⟨sqL (J.g _ _ (eb _ _ h)), for_enumL (K := K) (a := a) (xs := xs) (fun i σ' H' => ∃ G3 P3, Join G3 P3 H' ∧ I i G3 P3 σ') ⟨G, P, J, h0⟩ ?_ ?_ ?_⟩⟩
    · rintro i σ' H' _ ⟨G', P', J', hI⟩
      exact sqL (J'.g _ _ (hk _ _ _ _ hI _ _ h))
    · rintro i x σ' H' T hi ⟨G', P', J', hI⟩ hT
      exact hs i x T G' _ P' _ σ' hi (J'.newG hT) upd_same (Ex.new (J'.ng hT)) hI
    · rintro σ' H' ⟨G', P', J', hI⟩
      exact hq G' P' H' σ' J' hI
  · refine ⟨a, xs, rfl, .inr ⟨sqT (J.g _ _ (eb _ _ h)), for_enumT (K := K) (a := a) (xs := xs) (fun i σ' H' => ∃ G3 P3, Join G3 P3 H' ∧ I i G3 P3 σ') ⟨G, P, J, h0⟩ ?_ ?_ ?_⟩⟩
    · rintro i σ' H' _ ⟨G', P', J', hI⟩
      exact sqT (J'.g _ _ (hk _ _ _ _ hI _ _ h))
    · rintro i x σ' H' T hi ⟨G', P', J', hI⟩ hT
      exact hs i x T G' _ P' _ σ' hi (J'.newG hT) upd_same (Ex.new (J'.ng hT)) hI
    · rintro σ' H' ⟨G', P', J', hI⟩
      exact hq G' P' H' σ' J' hI
/-- len, isinstance, list, tuple of such -/
theorem lenS_go (J : Join G P H) (h : Sq G a xs) (q : Q (.int xs.length) H) : rLenW K [.ref a] H Q :=
  ⟨_, _, rfl, h.imp (fun h => sqL (J.g _ _ h)) (fun h => sqT (J.g _ _ h)), q⟩
theorem lenV_go (J : Join G P H) (h : Sq G a xs) (q : Q (.int xs.length) H) : rLenV K [.ref a] H Q := by
  rcases h with h | h
  · exact w_rlenL (J.g _ _ h) q
  · exact w_rlenT (J.g _ _ h) q
end
/-! dicts whose keys are tuples of ints -/
def tK (kvs : List (List Int × V)) : List (List L2.Key × V) := kvs.map fun z => (z.1.map Sum.inl, z.2)
theorem inl_inj : ∀ {a b : List Int}, a.map (Sum.inl : Int → L2.Key) = b.map Sum.inl ↔ a = b
  | [], [] => by simp
  | [], b :: c => by simp
  | a :: c, [] => by simp
  | a :: c, b :: d => by
    rw [List.map_cons, List.map_cons, List.cons.injEq, List.cons.injEq, inl_inj]
    constructor
    · rintro ⟨h, k⟩; exact ⟨Sum.inl.inj h, k⟩
    · rintro ⟨h, k⟩; exact ⟨congrArg _ h, k⟩
theorem tK_len (kvs : List (List Int × V)) : (tK kvs).length = kvs.length := by simp [tK]
theorem tK_val (kvs : List (List Int × V)) (k : List Int) : valV (tK kvs) (k.map Sum.inl) = valV kvs k := by
  induction kvs with
  | nil => rfl
  | cons p r ih =>
    by_cases c : p.1 = k
    · rw [valV_pos c]
      show valV ((p.1.map Sum.inl, p.2) :: tK r) _ = _
      rw [valV_pos (inl_inj.mpr c)]
    · rw [valV_neg c]
      show valV ((p.1.map Sum.inl, p.2) :: tK r) _ = _
      rw [valV_neg (fun h => c (inl_inj.mp h)), ih]
theorem tK_put (kvs : List (List Int × V)) (k : List Int) (v : V) : putK (tK kvs) (k.map Sum.inl) v = tK (putK kvs k v) := by
  cases h : valV kvs k with
  | none =>
    rw [putK_new v h, putK_new v (by rw [tK_val]; exact h)]
    simp [tK]
  | some y =>
    have h2 : valV (tK kvs) (k.map Sum.inl) = some y := by rw [tK_val]; exact h
    unfold putK
    have a1 : (kvs.any fun kv => decide (kv.1 = k)) = true := by rw [valV_any, h]; rfl
    have a2 : ((tK kvs).any fun kv => decide (kv.1 = k.map Sum.inl)) = true := by rw [valV_any, h2]; rfl
    rw [if_pos a1, if_pos a2]
    unfold tK
    rw [List.map_map, List.map_map]
    refine List.map_congr_left fun z _ => ?_
    show (if z.1.map Sum.inl = k.map (Sum.inl : Int → L2.Key) then (z.1.map (Sum.inl : Int → L2.Key), v) else (z.1.map Sum.inl, z.2)) = ((if z.1 = k then (z.1, v) else z).1.map Sum.inl, (if z.1 = k then (z.1, v) else z).2)
    by_cases c : z.1 = k
    · rw [if_pos c, if_pos (inl_inj.mpr c)]
    · rw [if_neg c, if_neg (fun h => c (inl_inj.mp h))]
theorem tK_at {kvs : List (List Int × V)} {i : Nat} {k : List L2.Key} {v : V} (h : (tK kvs)[i]? = some (k, v)) : ∃ n, kvs[i]? = some (n, v) ∧ k = n.map Sum.inl := by
  unfold tK at h
  rw [List.getElem?_map] at h
  cases e : kvs[i]? with
  | none => rw [e] at h; cases h
  | some z => rw [e] at h; injection h with h; injection h with h1 h2; exact ⟨z.1, by rw [← h2], h1.symm⟩
theorem tup_kV (k : List Int) : (k.map (Sum.inl : Int → L2.Key)).map kV = k.map V.int := by rw [List.map_map]; rfl
/-- the keys, each a tuple that stands -/
theorem for_keysT {d : Addr} {o : Obj} {kvs : List (List L2.Key × V)} {g : TG} {tb : TS} {D : Ends} {σ : L2.St} {H : Hp} (Pv : Nat → L2.St → Hp → Prop) (h0 : Pv 0 σ H) (hl : ∀ i σ H, i ≤ kvs.length → Pv i σ H → H d = some (.frz o (.dT kvs)))
    (hs : ∀ (i : Nat) (k : List L2.Key) (v : V) (q : Addr) σ H, kvs[i]? = some (k, v) → H q = some (.tup (k.map kV)) → Pv i σ H → g (.ref q) σ H fun σ2 H2 => tb { D with nx := Pv (i + 1), ct := Pv (i + 1), bk := D.nx } σ2 H2) (hd : ∀ σ H, Pv kvs.length σ H → D.nx σ H) :
    ∃ W : Nat → Nat → L2.St → Hp → Prop, (∃ m, W 0 m σ H) ∧ ∀ i m σ H, W i m σ H →
      ((Itkt d o kvs).stop i H ∧ D.nx σ H) ∨ ((Itkt d o kvs).go i H ∧ ∃ N : L2.St → Hp → Prop, (∀ σ' H', N σ' H' → ∃ m', m' < m ∧ W (i + 1) m' σ' H') ∧ ∀ x H', (Itkt d o kvs).yld i H x H' → g x σ H' fun σ2 H2 => tb { D with nx := N, ct := N, bk := D.nx } σ2 H2) := by
  refine ⟨fun i m σ H => m = kvs.length - i ∧ i ≤ kvs.length ∧ Pv i σ H, ⟨kvs.length, by simp, Nat.zero_le _, h0⟩, ?_⟩
  rintro i m σ H ⟨rfl, hi, p⟩
  have q := hl i σ H hi p
  by_cases c : i < kvs.length
  · refine .inr ⟨⟨q, c⟩, Pv (i + 1), fun σ' H' p' => ⟨kvs.length - (i + 1), by omega, rfl, c, p'⟩, fun x H' y => ?_⟩
    obtain ⟨e, k, v, b, hk, rfl, hb⟩ := y
    subst e
    exact hs i k v b σ _ hk hb p
  · have e : i = kvs.length := by omega
    subst e
    exact .inl ⟨⟨q, Nat.le_refl _⟩, hd σ H p⟩
theorem lc_keysT {d : Addr} {o : Obj} {kvs : List (List L2.Key × V)} {g : TG} {tt : TT} {te : TE} {vs : List Nat} {σ : L2.St} {H1 : Hp} {D : Addr} {Qd : Hp → Prop} (Pv : Nat → Hp → Prop) (h0 : Pv 0 (upd H1 D (.lst []))) (hl : ∀ i H, i ≤ kvs.length → Pv i H → H d = some (.frz o (.dT kvs)))
    (hs : ∀ (i : Nat) (k : List L2.Key) (v : V) (q : Addr) H, kvs[i]? = some (k, v) → H q = some (.tup (k.map kV)) → Pv i H → g (.ref q) (wipe σ vs) H fun σ2 H2 => wipe σ2 vs = wipe σ vs ∧ tt σ2 H2 fun b H3 =>
      if b = true then te σ2 H3 fun y H4 => ∃ acc, H4 D = some (.lst acc) ∧ acc.length < sizeLine ∧ Pv (i + 1) (upd H4 D (.lst (acc ++ [y]))) else Pv (i + 1) H3) (hd : ∀ H, Pv kvs.length H → Qd H) :
    ∃ W : Nat → Nat → Hp → Prop, (∃ m, W 0 m (upd H1 D (.lst []))) ∧ ∀ i m H, W i m H →
      ((Itkt d o kvs).stop i H ∧ Qd H) ∨ ((Itkt d o kvs).go i H ∧ ∃ Nx : Hp → Prop, (∀ H', Nx H' → ∃ m', m' < m ∧ W (i + 1) m' H') ∧ ∀ x H', (Itkt d o kvs).yld i H x H' → g x (wipe σ vs) H' fun σ2 H2 => wipe σ2 vs = wipe σ vs ∧ tt σ2 H2 fun b H3 =>
        if b = true then te σ2 H3 fun y H4 => ∃ acc, H4 D = some (.lst acc) ∧ acc.length < sizeLine ∧ Nx (upd H4 D (.lst (acc ++ [y]))) else Nx H3) := by
  refine ⟨fun i m H => m = kvs.length - i ∧ i ≤ kvs.length ∧ Pv i H, ⟨kvs.length, by simp, Nat.zero_le _, h0⟩, ?_⟩
  rintro i m H ⟨rfl, hi, p⟩
  have q := hl i H hi p
  by_cases c : i < kvs.length
  · refine .inr ⟨⟨q, c⟩, Pv (i + 1), fun H' p' => ⟨kvs.length - (i + 1), by omega, rfl, c, p'⟩, fun x H' y => ?_⟩
    obtain ⟨e, k, v, b, hk, rfl, hb⟩ := y
    subst e
    exact hs i k v b _ hk hb p
  · have e : i = kvs.length := by omega
    subst e
    exact .inl ⟨⟨q, Nat.le_refl _⟩, hd H p⟩
/-- the pairs of a locked dict with tuple keys, each a new tuple -/
def Itit (d : Addr) (o : Obj) (kvs : List (List L2.Key × V)) : It :=
  ⟨fun i H => H d = some (.frz o (.dT kvs)) ∧ i < kvs.length, fun i H x H' => ∃ T k v q, kvs[i]? = some (k, v) ∧ H q = some (.tup (k.map kV)) ∧ x = .ref T ∧ H T = none ∧ H' = upd H T (.tup [.ref q, v]), fun i H => H d = some (.frz o (.dT kvs)) ∧ kvs.length ≤ i⟩
theorem frzT2 {X : Cx} {pins : List (Addr × Obj)} {σ : L2.St} {H : Hp} {s : Shared} {d : Addr} {o : Obj} {kvs : List (List L2.Key × V)} (I : Inv X pins σ H s) (h : H d = some (.frz o (.dT kvs))) :
    (d == sysModules) = false ∧ s.heap.get? d = some o ∧ o.ExactDict ∧ ∃ (es : Array DictEntry) (ep : Nat), o.data = .dict es ep ∧ es.size = kvs.length ∧
      ∀ (i : Nat) (k : List L2.Key) (v : V), kvs[i]? = some (k, v) → ∃ (en : DictEntry) (q : Addr), es[i]? = some en ∧ en.key = .ref q ∧ H q = some (.tup (k.map kV)) ∧ RelV v en.val := by
  obtain ⟨hd, z, hs, xs, pr, o', es, ep, ho, hx, hdt, he, _⟩ := I.hok d _ h
  rw [hd] at ho
  cases ho
  refine ⟨hs, hd, hx, es, ep, hdt, ?_, fun i k v e => ?_⟩
  · have l1 : es.size = xs.length := size_of_entries he
    have l2 : kvs.length = xs.length := Paired.length pr
    omega
  · obtain ⟨b, hb, e1, e2, e3⟩ := paired_get pr e
    have q := entry_at he i
    rw [hb] at q
    exact ⟨_, b.2.1, q, rfl, e2, e3⟩
theorem turn_itemsT {P : Program} {w : World} {K : PySem.W.Frag} {d : Addr} {o : Obj} {es : Array DictEntry} {ep : Nat} {kvs : List (List L2.Key × V)} {elts : List Expr} {kk : Nat} {tpos : Pos} (it : Addr) (hod : o.data = .dict es ep) :
    L2.Turn P w K (.Tuple elts kk tpos) (Itit d o kvs) [it] it (fun i h => ∃ ok ov, IsItemIter h it d i kvs.length ep ok ov) where
  mem := by simp
  obj := fun i h st b hb => by
    have e : b = it := by simpa using hb
    subst e
    obtain ⟨ok, ov, e⟩ := st
    exact ⟨_, e, fun v z => nomatch z⟩
  keep := fun i h h' st k => let ⟨ok, ov, e⟩ := st; ⟨ok, ov, k it (by simp) _ e⟩
  item := by
    intro X hP hw hK hc i pins s σ H E I hf st hg
    subst hP hw hK
    obtain ⟨hd, hi⟩ := hg
    obtain ⟨hs, hgd, hx, es', ep', hdt, hsz, ent⟩ := frzT2 I hd
    obtain ⟨rfl, rfl⟩ := dict_ep hod hdt
    obtain ⟨⟨k, v⟩, hkv⟩ : ∃ p, kvs[i]? = some p := ⟨kvs[i], List.getElem?_eq_getElem hi⟩
    obtain ⟨en, q, hen, hkey, hq, rv⟩ := ent i k v hkv
    obtain ⟨ok, ov, he⟩ := st
    rw [← hsz] at he
    have hi2 : i < es'.size := by omega
    have hes : es'[i] = en := by
      rw [Array.getElem?_eq_getElem hi2] at hen
      exact Option.some.inj hen
    have hlt : it < s.heap.objs.size := Heap.lt_size he
    refine DT.nextI he ⟨_, hgd, hx, hdt⟩ hi2 fun h' ho hT hz hk => ?_
    refine ⟨_, rfl, wpAny_letOwnedTupleGo_items (s := { s with heap := h' }) ho fun h'' he' sb => ?_⟩
    have hT2 : h''.get? s.heap.objs.size = some { cls := .type "tuple", data := .seq #[en.key, en.val] } := by
      rw [← hes]; exact (sb.2 _ (Nat.ne_of_gt hlt)).trans hT
    have new : ObjOk X.prog X.w (upd H s.heap.objs.size (.tup [.ref q, v])) h'' s.heap.objs.size (.tup [.ref q, v]) :=
      ⟨by show 2 ≤ sizeLine; decide, [en.key, en.val], .cons hkey (.cons rv .nil), ⟨_, hT2, rfl, _, rfl⟩⟩
    have I1 : Inv X pins σ (upd H s.heap.objs.size (.tup [.ref q, v])) { s with heap := h'' } :=
      I.turnedNew (t' := s.toks) (ch := [it]) (fun b ob hb e => (sb.2 b (by simpa using hb)).trans (hk b ob (by simpa using hb) e)) hf (Nat.le_refl _) new
    refine ⟨.ref s.heap.objs.size, _, I1, rfl, ⟨_, k, v, q, hkv, hq, rfl, I.hok.fresh (Nat.le_refl _), rfl⟩, ⟨es'[i].key, es'[i].val, ?_⟩, fun b hb => ?_⟩
    · rw [← hsz]; exact he'
    · have e : b = it := by simpa using hb
      rw [e, upd_ne (Nat.ne_of_lt hlt)]
      exact (hf it (by simp)).1
  done := by
    intro X hP hw hK hc i pins s σ H E I hf st hg
    subst hP hw hK
    obtain ⟨hd, hi⟩ := hg
    obtain ⟨f0, f1, f2, f3, f4, f5⟩ := hf it (by simp)
    obtain ⟨hs, hgd, hx, es', ep', hdt, hsz, ent⟩ := frzT2 I hd
    obtain ⟨rfl, rfl⟩ := dict_ep hod hdt
    obtain ⟨ok, ov, he⟩ := st
    rw [← hsz] at he
    exact DT.endI (I.ok.hd hc) he ⟨_, hgd, hx, hdt⟩ (by omega) fun h' eb => ⟨rfl, I.turned (t' := s.toks) (fun b ob hb e => eb b ob hb e) f0 f1 f3 f4 f5⟩
  self := fun A i s Q E st h => let ⟨_, _, e⟩ := st; PySem.W.kcp_self e h
def iItemsT (td : TE) : TI := fun σ H R => td σ H fun x H1 => ∃ d o kvs, x = .ref d ∧ H1 d = some (.frz o (.dT kvs)) ∧ R (Itit d o kvs) H1
theorem pi_itemsT {X : Cx} {e : Expr} {td : TE} {apos cpos : Pos} {elts : List Expr} {kk : Nat} {tpos : Pos} (he : PE X e td) (hbase : attributeBase e "items" X.env (eval e X.env) = eval e X.env := by rfl) (hline : (apos.endLine == cpos.line) = true := by rfl) :
    PI X (.Tuple elts kk tpos) (.Call (.Attribute e "items" apos) [] [] cpos) (iItemsT td) := by
  refine ⟨fun pins s σ H R I h => ?_⟩
  refine wpAny_Call_method (T := "dict") (id := "dict.items") hbase rfl hline F.plainAttrs_dict F.slot_dict_items F.type_dict_items (thn (he.run pins s σ H _ I h) fun u s1 ⟨x, H1, I1, rx, d, o, kvs, ex, hd, q⟩ => ?_)
  subst ex
  obtain rfl : u = Value.ref d := rx
  obtain ⟨hs, hgd, hx, es, ep, hdt, hsz, ent⟩ := frzT2 I1 hd
  have raw : DT.Raw s1.heap d es ep := ⟨_, hgd, hx, hdt⟩
  refine ⟨raw.typeIs, fun b e => by cases e; exact ⟨_, hgd, hx.2.1⟩, ?_⟩
  have I2 : Inv X pins σ H1 { s1 with heap := s1.heap.push { cls := .type "dict_items", data := .fields #[.ref d] } } := I1.kept (t' := s1.toks) fun b ob q => Heap.get?_push_of_some _ q
  have fin : wpAny (model X.prog X.w) X.A (pyIter (.ref s1.heap.objs.size)) (PIE X pins σ (.Tuple elts kk tpos) R) X.xe { s1 with heap := s1.heap.push { cls := .type "dict_items", data := .fields #[.ref d] } } := by
    refine DT.iterI (d := d) ⟨_, Heap.get?_push_size _ rfl, rfl, rfl⟩ (raw.push _) (pi_one (tk := s1.toks) I2 _ (turn_itemsT _ hdt) ⟨.none, .none, ?_⟩ q)
    rw [← hsz]
    exact Heap.get?_push_size _ rfl
  show wpAny _ _ (callWith cpos (.builtin "dict.items") [.ref d] [] []) _ X.xe s1
  exact method_meetsIn F.slot_dict_items F.entry_dict_items rfl (PySem.evalArgs_none ⟨rfl, raw.typeIs, F.args_dict_items_1 _, _, DT.meetsItems hs, ⟨raw, fin⟩⟩)
/-- {k: v}, k a tuple -/
def tDisp1T (tk tv : TE) : TE := fun σ H Q => ∀ p, H p = none → tk σ (upd H p (.dT [])) fun x H1 => tv σ H1 fun v H2 => H2 p = some (.dT []) ∧ ∃ (b : Addr) (ks : List L2.Key), x = .ref b ∧ H2 b = some (.tup (ks.map kV)) ∧ Q (.ref p) (upd H2 p (.dT [(ks, v)]))
theorem pe_disp1T {X : Cx} {k v : Expr} {pos : Pos} {tk tv : TE} (hu : X.A.units + 1 < cLine) (hk : PE X k tk) (hv : PE X v tv) : PE X (.Dict [some k] [v] pos) (tDisp1T tk tv) := by
  refine ⟨fun pins s σ H Q I q => ?_⟩
  have hn := I.hok.fresh (Nat.le_refl s.heap.objs.size)
  have I1 := I.laid (a := s.heap.objs.size) (o := .dT []) (h' := s.heap.push { cls := .type "dict", data := .dict #[] }) (t' := s.toks) (fun _ _ q => Heap.get?_push_of_some _ q) (Nat.le_refl _) (dt_empty s.heap I.big)
  rw [arm_eval_Dict, zip_pairTrees [some k] [v] X.env pos rfl rfl, dictDisplay_pairs _ (fun h => by have := congrArg List.length h; rw [pairTrees_length _ _ _ _ rfl rfl] at this; cases this) (by rw [pairTrees_length _ _ _ _ rfl rfl]; show 1 < 17; decide)]
  refine wpAny_bind (wpAny_standAt (wpAny_bind (wpAny_subDictH (knd := tupleKind (mixKind X.prog X.w)) (Q := fun d s' => wpAny (model X.prog X.w) X.A (pure (Value.ref d)) _ X.xe s') (show X.A.units < cLine by omega) (by rw [pairTrees_length _ _ _ _ rfl rfl]; show 1 ≤ 15; decide) ?_)))
  refine pairTrees_cons_walk (thn (hk.run pins _ σ _ _ I1 (q _ hn)) fun u s1 ⟨x, H1, I2, rx, q1⟩ => thn (hv.run pins s1 σ H1 _ I2 q1) fun r s2 ⟨y, H2, I3, ry, q2⟩ => pairTrees_nil_walk ?_)
  obtain ⟨e, b, ks, ex, hb, q3⟩ := q2
  subst ex
  obtain rfl : u = Value.ref b := rx
  obtain ⟨z, hd, xs, rel, dd⟩ := dt_of I3.hok e
  cases rel
  refine ⟨[(ks, b, r)], ⟨rfl, rfl, key_of I3.hok hb, True.intro⟩, dd, fun h' tk' dd' hs => wpAny_pure ⟨.ref s.heap.objs.size, _, ?_, rfl, q3⟩⟩
  have hl : [(ks, y)].length ≤ sizeLine := by rw [sizeLine_eq]; show 1 ≤ 16777216; decide
  have nb : b ≠ s.heap.objs.size := ne_of hb e (fun z => nomatch z)
  obtain ⟨o, es, ep, hq, h2, h3, h4, _, h5⟩ := dd'
  refine d_write I3 (by rw [e]; exact True.intro) hs ⟨o, hq⟩ ⟨hl, hd, [(ks, b, r)], .cons ⟨rfl, (upd_ne nb).trans hb, ry⟩ .nil, o, es, ep, hq, h2, h3, h4, h5⟩
section
variable {K : PySem.W.Frag} {σ : L2.St} {G P H : Hp} {Q : VK} {nx bk ct : L2.St → Hp → Prop} {rt : VK} {D : Ends} {tt : TT} {td te ta tk tv : TE} {g : TG} {tb : TS} {as : TA} {ts : List Nat} {d : Addr}
theorem aDisp1T.goP {ks : List Int} {v : V} (J : Join G P H) (nt : NT P) (hk : ∀ P' H' S, Join G P' H' → NT P' → (∀ b G2 H2, Ex G G2 → Join G2 P' H2 → G2 b = some (.tup (ks.map V.int)) → S (.ref b) H2) → tk σ H' S) (hv : ∀ H' S, S v H' → tv σ H' S)
    (q : ∀ p P' G' H', H p = none → Ex P P' → Ex G G' → Join G' P' H' → NT P' → P' p = some (.dT (tK [(ks, v)])) → Q (.ref p) H') : tDisp1T tk tv σ H Q := by
  intro p hp
  have j1 : Join G (upd P p (.dT [])) (upd H p (.dT [])) := J.setP (J.ng hp)
  have n1 : NT (upd P p (.dT [])) := nt.upd fun _ e => nomatch e
  refine hk _ _ _ j1 n1 fun b G2 H2 e2 j2 hb => hv _ _ ⟨j2.p _ _ upd_same, b, ks.map Sum.inl, rfl, by rw [tup_kV]; exact j2.g _ _ hb, ?_⟩
  exact q p _ G2 _ hp ((Ex.new (J.np hp)).mut (J.np hp)) e2 (j2.setP (o := .dT (tK [(ks, v)])) (j2.gn upd_same)) (n1.upd fun _ e => nomatch e) upd_same
/-- d[t] = v, t a tuple -/
theorem dputT_go {kvs : List (List Int × V)} {b : Addr} {ks : List Int} {v : V} (J : Join G P H) (nt : NT P) (hb : H b = some (.tup (ks.map V.int))) (h : P d = some (.dT (tK kvs))) (hl : kvs.length < 100000) (q : ∀ P' H', Join G P' H' → NT P' → P' = upd P d (.dT (tK (putK kvs ks v))) → nx σ H') : aDPut v (.ref b) nx σ (.ref d) H :=
  dputTP J hb h (by rw [tK_len]; exact hl) fun H' j' => q (upd P d (.dT (tK (putK kvs ks v)))) _ (by rw [tK_put] at j'; exact j') (nt.upd fun _ e => nomatch e) rfl
/-- t in d, t not in d -/
theorem dinT_go {kvs : List (List Int × V)} {b : Addr} {ks : List Int} (h : Rd H d (.dT (tK kvs))) (hb : H b = some (.tup (ks.map V.int))) (q : Q (.bl (valV kvs ks).isSome) H) : rDIn false (.ref b) (.ref d) H Q :=
  din_t h hb (by rw [if_neg (by decide), tK_val]; exact q)
theorem dnotT_go {kvs : List (List Int × V)} {b : Addr} {ks : List Int} (h : Rd H d (.dT (tK kvs))) (hb : H b = some (.tup (ks.map V.int))) (q : Q (.bl (!(valV kvs ks).isSome)) H) : rDIn true (.ref b) (.ref d) H Q :=
  din_t h hb (by rw [if_pos rfl, tK_val]; exact q)
theorem dgetT_go {kvs : List (List Int × V)} {b : Addr} {ks : List Int} {v : V} (h : Rd H d (.dT (tK kvs))) (hb : H b = some (.tup (ks.map V.int))) (hv : valV kvs ks = some v) (q : Q v H) : aDGet (.ref d) (.ref b) H Q :=
  dget_t h hb (by rw [tK_val]; exact hv) q
/-- d.get(t, x) -/
theorem dget2T_go {kvs : List (List Int × V)} {ty tx : TE} (h : Rd H d (.dT (tK kvs))) (q : ty σ H fun y H2 => tx σ H2 fun z H3 => rDGet2 d y z H3 Q) : aDGet2 ty tx σ (.ref d) H Q :=
  ⟨d, rfl, .inr ⟨_, h⟩, q⟩
theorem rdget2T_go {kvs : List (List Int × V)} {b : Addr} {ks : List Int} {z : V} (h : Rd H d (.dT (tK kvs))) (hb : H b = some (.tup (ks.map V.int))) (q : Q ((valV kvs ks).getD z) H) : rDGet2 d (.ref b) z H Q :=
  ⟨(valV kvs ks), .inr ⟨_, ks.map Sum.inl, b, h, rfl, by rw [hb, tup_kV], by rw [tK_val]⟩, q⟩
/-- len(d) -/
theorem lenT_go {kvs : List (List Int × V)} (h : H d = some (.dT (tK kvs))) (q : Q (.int kvs.length) H) : L2.rLenT [.ref d] H Q :=
  ⟨d, _, rfl, h, by rw [tK_len]; exact q⟩
/-- for t in d: d stands in the second part, locked -/
theorem forKT.go {kvs : List (List Int × V)} (J : Join G P H) (h : P d = some (.dT (tK kvs))) (htd : ∀ (H' : Hp) (Q : VK), Q (.ref d) H' → td σ H' Q) (I : Nat → Hp → Hp → L2.St → Prop) (h0 : ∀ od, I 0 G (upd P d (.frz od (.dT (tK kvs)))) σ)
    (hs : ∀ (od : Obj) (rt' : VK) (bk' : L2.St → Hp → Prop) (i : Nat) (k : List Int) (v : V) (b : Addr) (G' P' H' : Hp) (σ' : L2.St), kvs[i]? = some (k, v) → H' b = some (.tup (k.map V.int)) → P' d = some (.frz od (.dT (tK kvs))) → Join G' P' H' → I i G' P' σ' →
      g (.ref b) σ' H' fun σ2 H2 => tb ⟨fun σ3 H3 => ∃ G3 P3, Join G3 P3 H3 ∧ P3 d = some (.frz od (.dT (tK kvs))) ∧ I (i + 1) G3 P3 σ3, rt', bk', fun σ3 H3 => ∃ G3 P3, Join G3 P3 H3 ∧ P3 d = some (.frz od (.dT (tK kvs))) ∧ I (i + 1) G3 P3 σ3⟩ σ2 H2)
    (hq : ∀ (od : Obj) (G' P' H' : Hp) (σ' : L2.St), P' d = some (.frz od (.dT (tK kvs))) → I kvs.length G' P' σ' → Join G' (upd P' d (.dT (tK kvs))) H' → nx σ' H') : tLock (tFor (iKeys td) g tb) ⟨nx, rt, bk, ct⟩ σ H := by
  refine ⟨d, .dT (tK kvs), J.p _ _ h, trivial, fun od => htd _ _ ⟨d, od, rfl, .inr ⟨tK kvs, upd_same, ?_⟩⟩⟩
  refine for_keysT (fun i σ' H' => ∃ G3 P3, Join G3 P3 H' ∧ P3 d = some (.frz od (.dT (tK kvs))) ∧ I i G3 P3 σ') ⟨G, _, J.setP (J.gn h), upd_same, h0 od⟩ (fun i σ' H' _ ⟨G', P', j', hd, _⟩ => j'.p _ _ hd) (fun i k v b σ' H' hk hb ⟨G', P', j', hd, hI⟩ => ?_) (fun σ' H' ⟨G', P', j', hd, hI⟩ => ⟨j'.p _ _ hd, hq od G' P' _ σ' hd (by rw [tK_len] at hI; exact hI) (j'.setP (j'.gn hd))⟩)
  obtain ⟨n, hn, rfl⟩ := tK_at hk
  exact hs od _ _ i n v b G' P' H' σ' hn (by rw [hb, tup_kV]) hd j' hI
/-- for t, v in d.items() -/
def aItems (td : TE) (g : TG) (tb : TS) (D : Ends) (σ : L2.St) : Hp → Prop := fun H => tLock (tFor (iItemsT td) g tb) D σ H
theorem forIT.go {kvs : List (List Int × V)} (J : Join G P H) (h : P d = some (.dT (tK kvs))) (htd : ∀ (H' : Hp) (Q : VK), Q (.ref d) H' → td σ H' Q) (I : Nat → Hp → Hp → L2.St → Prop) (h0 : ∀ od, I 0 G (upd P d (.frz od (.dT (tK kvs)))) σ)
    (hs : ∀ (od : Obj) (rt' : VK) (bk' : L2.St → Hp → Prop) (i : Nat) (k : List Int) (v : V) (b T : Addr) (G0 G' P' H' : Hp) (σ' : L2.St), kvs[i]? = some (k, v) → H' b = some (.tup (k.map V.int)) → P' d = some (.frz od (.dT (tK kvs))) → Join G' P' H' → G' T = some (.tup [.ref b, v]) → Ex G0 G' → I i G0 P' σ' →
      g (.ref T) σ' H' fun σ2 H2 => tb ⟨fun σ3 H3 => ∃ G3 P3, Join G3 P3 H3 ∧ P3 d = some (.frz od (.dT (tK kvs))) ∧ I (i + 1) G3 P3 σ3, rt', bk', fun σ3 H3 => ∃ G3 P3, Join G3 P3 H3 ∧ P3 d = some (.frz od (.dT (tK kvs))) ∧ I (i + 1) G3 P3 σ3⟩ σ2 H2)
    (hq : ∀ (od : Obj) (G' P' H' : Hp) (σ' : L2.St), P' d = some (.frz od (.dT (tK kvs))) → I kvs.length G' P' σ' → Join G' (upd P' d (.dT (tK kvs))) H' → nx σ' H') : tLock (tFor (iItemsT td) g tb) ⟨nx, rt, bk, ct⟩ σ H := by
  refine ⟨d, .dT (tK kvs), J.p _ _ h, trivial, fun od => htd _ _ ⟨d, od, tK kvs, rfl, upd_same, ?_⟩⟩
  refine ⟨fun i m σ' H' => m = kvs.length - i ∧ i ≤ kvs.length ∧ ∃ G3 P3, Join G3 P3 H' ∧ P3 d = some (.frz od (.dT (tK kvs))) ∧ I i G3 P3 σ', ⟨kvs.length, by simp, Nat.zero_le _, G, _, J.setP (J.gn h), upd_same, h0 od⟩, ?_⟩
  rintro i m σ' H' ⟨rfl, hi, G', P', j', hd, hI⟩
  by_cases c : i < kvs.length
  · refine .inr ⟨⟨j'.p _ _ hd, by rw [tK_len]; exact c⟩, fun σ3 H3 => ∃ G3 P3, Join G3 P3 H3 ∧ P3 d = some (.frz od (.dT (tK kvs))) ∧ I (i + 1) G3 P3 σ3, fun σ3 H3 p' => ⟨kvs.length - (i + 1), by omega, rfl, c, p'⟩, fun x H2 y => ?_⟩
    obtain ⟨T, k, v, b, hk, hb, rfl, hT, rfl⟩ := y
    obtain ⟨n, hn, rfl⟩ := tK_at hk
    have nb : b ≠ T := ne_of_none hb hT
    exact hs od _ _ i n v b T G' _ P' _ σ' hn (by rw [upd_ne nb, hb, tup_kV]) hd (j'.newG hT) upd_same (Ex.new (j'.ng hT)) hI
  · have e : i = kvs.length := by omega
    subst e
    exact .inl ⟨⟨j'.p _ _ hd, by rw [tK_len]; exact Nat.le_refl _⟩, j'.p _ _ hd, hq od G' P' _ σ' hd hI (j'.setP (j'.gn hd))⟩
/-- [.. for t in d ..]: d stands in the second part, locked -/
theorem lcKT.go {kvs : List (List Int × V)} (I : Nat → List V → Hp → Prop) (J : Join G P H) (h : P d = some (.dT (tK kvs))) (htd : ∀ (H' : Hp) (Q : VK), Q (.ref d) H' → td σ H' Q) (hl : kvs.length ≤ 1000000)
    (h0 : I 0 [] G) (hm : ∀ i us G1 G2, Ex G1 G2 → I i us G1 → I i us G2) (hz : ∀ i us G2, I i us G2 → us.length ≤ i)
    (hs : ∀ (od : Obj) (i : Nat) (k : List Int) (v : V) (b : Addr) (us : List V) (G' P' H' : Hp) (R : VK) (R0 : Hp → Prop), kvs[i]? = some (k, v) → H' b = some (.tup (k.map V.int)) → Ex G G' → (∀ c o, c ≠ d → P c = some o → P' c = some o) → P' d = some (.frz od (.dT (tK kvs))) → Join G' P' H' → I i us G' →
      (∀ y G2 H2, Ex G' G2 → Join G2 P' H2 → I (i + 1) (us ++ [y]) G2 → R y H2) → (∀ G2 H2, Ex G' G2 → Join G2 P' H2 → I (i + 1) us G2 → R0 H2) →
      g (.ref b) (wipe σ ts) H' fun σ2 H2 => wipe σ2 ts = wipe σ ts ∧ tt σ2 H2 fun b H3 => if b = true then te σ2 H3 R else R0 H3)
    (hq : ∀ p us G' H', H p = none → Ex G G' → Join G' P H' → G' p = some (.lst us) → I kvs.length us G' → Q (.ref p) H') : tLockE (tLc (iKeys td) g tt te ts) σ H Q := by
  refine ⟨d, .dT (tK kvs), J.p _ _ h, trivial, fun od => htd _ _ ⟨d, od, rfl, .inr ⟨tK kvs, upd_same, fun L hL => ?_⟩⟩⟩
  have nL : L ≠ d := fun e => by rw [e, upd_same] at hL; cases hL
  have hL0 : H L = none := by rw [upd_ne nL] at hL; exact hL
  have gL : G L = none := J.ng hL0
  have pL : P L = none := J.np hL0
  have j1 : Join G (upd P d (.frz od (.dT (tK kvs)))) (upd H d (.frz od (.dT (tK kvs)))) := J.setP (J.gn h)
  refine lc_keysT (fun i H' => ∃ G' P' us, Ex G G' ∧ (∀ c o, c ≠ d → P c = some o → P' c = some o) ∧ P' d = some (.frz od (.dT (tK kvs))) ∧ P' L = some (.lst us) ∧ I i us G' ∧ Join G' P' H') ⟨G, upd (upd P d (.frz od (.dT (tK kvs)))) L (.lst []), [], Ex.refl _, fun c o nc hc => ?_, Eq.trans (upd_ne (Ne.symm nL)) upd_same, upd_same, h0, j1.setP gL⟩ (fun i H' _ ⟨G', P', us, _, _, hd, _, _, j'⟩ => j'.p _ _ hd) (fun i k x b H' hk hb ⟨G', P', us, e', hP, hd, hLs, hI, j'⟩ => ?_) (fun H' ⟨G', P', us, e', hP, hd, hLs, hI, j'⟩ => ?_)
  · rw [upd_ne (ne_of_none hc pL), upd_ne nc]; exact hc
  · obtain ⟨n, hn, rfl⟩ := tK_at hk
    have hul := hz _ _ _ hI
    have hil := (List.getElem?_eq_some_iff.mp hn).1
    refine hs od i n x b us G' P' H' _ _ hn (by rw [hb, tup_kV]) e' hP hd j' hI (fun y G2 H2 e2 j2 hI2 => ⟨us, j2.p _ _ hLs, Nat.lt_of_le_of_lt (show us.length ≤ 1000000 by omega) (by decide), G2, upd P' L (.lst (us ++ [y])), us ++ [y], e'.trans e2, fun c o nc hc => ?_, Eq.trans (upd_ne (Ne.symm nL)) hd, upd_same, hI2, j2.setP (j2.gn hLs)⟩) (fun G2 H2 e2 j2 hI2 => ⟨G2, P', us, e'.trans e2, hP, hd, hLs, hI2, j2⟩)
    rw [upd_ne (ne_of_none hc pL)]; exact hP c o nc hc
  · rw [tK_len] at hI
    have j3 : Join G' (upd P' d (.dT (tK kvs))) (upd H' d (.dT (tK kvs))) := j'.setP (j'.gn hd)
    obtain ⟨G2, j4, e4, k4⟩ := j3.back (P := P) fun c o hc => by
      by_cases z : c = d
      · subst z; rw [upd_same, ← h]; exact hc
      · rw [upd_ne z]; exact hP c o z hc
    exact ⟨j'.p _ _ hd, hq L us G2 _ hL0 (e'.trans e4) j4 (k4 L _ (Eq.trans (upd_ne nL) hLs) pL) (hm _ _ _ _ e4 hI)⟩
/-- list(d) -/
def rListT : List V → Hp → VK → Prop := fun xs H Q => ∃ d kvs, xs = [V.ref d] ∧ Rd H d (.dT kvs) ∧ ∀ p bs, H p = none → IsKeys H kvs bs → Q (.ref p) (upd H p (.lst (bs.map V.ref)))
theorem cr_listT {X : Cx} (hc : X.calm = true) : CallR X (.type "list") rListT := call_list_dT hc
theorem listT_go {kvs : List (List Int × V)} (J : Join G P H) (n : NT P) (h : Rd H d (.dT (tK kvs)))
    (q : ∀ ys p G' H', H p = none → Ex G G' → Join G' P H' → G' p = some (.lst ys) → TupL iV G' ys (kvs.map (·.1)) → Q (.ref p) H') : rListT [.ref d] H Q := by
  refine ⟨d, _, rfl, h, fun p bs hp hb => ?_⟩
  obtain ⟨l1, hz⟩ := isKeys_zip hb (nss := kvs.map (·.1)) (by unfold tK; rw [List.map_map, List.map_map]; rfl)
  have ht : TupL iV G (bs.map V.ref) (kvs.map (·.1)) := by
    have := tupL_zip (f := iV) (G := G) (zs := (bs.map V.ref).zip (kvs.map (·.1))) fun z hz1 => by
      obtain ⟨t, e1, e2⟩ := hz z hz1
      exact ⟨t, e1, n.gt J e2⟩
    rw [List.map_fst_zip (by rw [List.length_map, l1]; exact Nat.le_refl _), List.map_snd_zip (by rw [List.length_map V.ref, l1]; exact Nat.le_refl _)] at this
    exact this
  have e : Ex G (upd G p (.lst (bs.map V.ref))) := Ex.new (J.ng hp)
  exact q _ p _ _ hp e (J.newG hp) upd_same (ht.mono e)
end
end Lv

/-! items and slices of a value that is a list or a tuple; ranges that may be below 0 -/
namespace Lv
open PySem PySem.Spec PyProof.Rows L2
section
variable {X : Cx}
def rIxS (K : PySem.W.Frag) : R2 := fun x y H Q => rIxL K x y H Q ∨ rIxT K x y H Q
theorem ix_seq : IxR X (rIxS X.K) := fun value slice pins s σ H x y v u Q I rx ry h hs => h.elim (fun h => ix_list value slice pins s σ H x y v u Q I rx ry h hs) (fun h => ix_tup value slice pins s σ H x y v u Q I rx ry h hs)
theorem call_listK {K : PySem.W.Frag} (h : X.K = K) : CallR X (.type "list") (fun xs H Q => ∃ p ys, xs = [V.ref p] ∧ (SqL K H p ys ∨ SqT K H p ys) ∧ ∀ l, H l = none → Q (.ref l) (upd H l (.lst ys))) := h ▸ call_list_of
theorem ix_seqK {K : PySem.W.Frag} (h : X.K = K) : IxR X (rIxS K) := h ▸ ix_seq
def rSlS (K : PySem.W.Frag) : V → Option Int → Option Int → Hp → VK → Prop := fun x lo hi H Q => rSlL K x lo hi H Q ∨ rSlA K x lo hi H Q
theorem sl_seq : SlR X (rSlS X.K) := SlR.or sl_list sl_tupA
theorem sl_seqK {K : PySem.W.Frag} (h : X.K = K) : SlR X (rSlS K) := h ▸ sl_seq
end
section
variable {K : PySem.W.Frag} {σ : L2.St} {G P H : Hp} {Q : VK} {nx bk ct : L2.St → Hp → Prop} {rt : VK} {tt : TT} {te : TE} {g : TG} {tb : TS} {ts : List Nat} {a : Addr} {xs : List V}
theorem ixS_go {k : Int} {v : V} (J : Join G P H) (h : Sq G a xs) (l : atI xs k = some v) (q : Q v H) : rIxS K (.ref a) (.int k) H Q :=
  h.elim (fun h => .inl (w_ixL (J.g _ _ h) l q)) (fun h => .inr (w_ixT (J.g _ _ h) l q))
theorem slS_go {lo hi : Option Int} (J : Join G P H) (h : Sq G a xs) (q : ∀ t G' H', Ex G G' → Join G' P H' → Sq G' t (cutV xs lo hi) → Q (.ref t) H') : rSlS K (.ref a) lo hi H Q := by
  rcases h with h | h
  · exact .inl ⟨a, xs, rfl, sqL (J.g _ _ h), fun p hp => q p _ _ (Ex.new (J.ng hp)) (J.newG hp) (.inl upd_same)⟩
  · refine .inr ⟨a, xs, rfl, sqT (J.g _ _ h), fun hw => ?_, fun _ p hp => q p _ _ (Ex.new (J.ng hp)) (J.newG hp) (.inr upd_same)⟩
    refine q a G H (Ex.refl _) J (.inr ?_)
    unfold cutV
    rw [hw.1, hw.2, List.drop_zero, Nat.sub_zero, List.take_length]; exact h
theorem cut_mid {i j : Nat} (h : i ≤ j) (hj : j ≤ xs.length) : cutV xs (some (i : Int)) (some (j : Int)) = (xs.drop i).take (j - i) := by
  unfold cutV
  rw [HT.sIx_nat, HT.sIx_nat, Nat.min_eq_left (show i ≤ xs.length by omega), Nat.min_eq_left hj]
/-- ranges of any bound -/
theorem aLcR.goN {n : Nat} (Pp : Hp → Prop) (I : Nat → List V → Hp → Prop) (J : Join G P H) (hP : Pp P) {m : Int} (hn : m.toNat = n) (hm : -1000000 ≤ m ∧ m ≤ 1000000)
    (h0 : ∀ G', Ex G G' → I 0 [] G') (hI : ∀ i ws G2 D us ts, G2 D = some (.lst us) → I i ws G2 → I i ws (upd G2 D (.lst ts))) (hz : ∀ i ws G2, I i ws G2 → ws.length ≤ 1000000)
    (hs : ∀ (i : Nat) (ws : List V) (G' P' H' : Hp) (R : VK) (R0 : Hp → Prop), i < n → Ex G G' → I i ws G' → Pp P' → Join G' P' H' →
      (∀ v G2 P2 H2, Ex G' G2 → Pp P2 → Join G2 P2 H2 → I (i + 1) (ws ++ [v]) G2 → R v H2) → (∀ G2 P2 H2, Ex G' G2 → Pp P2 → Join G2 P2 H2 → I (i + 1) ws G2 → R0 H2) →
      g (.int (i : Int)) (wipe σ ts) H' fun σ2 H2 => wipe σ2 ts = wipe σ ts ∧ tt σ2 H2 fun b H3 => if b = true then te σ2 H3 R else R0 H3)
    (hq : ∀ p ws G' P' H', H p = none → Ex G G' → G' p = some (.lst ws) → I n ws G' → Pp P' → Join G' P' H' → Q (.ref p) H') : aLcR g tt te ts σ [.int m] H Q := by
  obtain ⟨j, e, _, _, q⟩ := (aLcR.go (m := (n : Int)) Pp I J hP rfl (by omega) h0 hI hz hs hq : aLcR g tt te ts σ [.int (n : Int)] H Q)
  injection e with e _
  injection e with e
  refine ⟨m, rfl, by omega, by omega, ?_⟩
  rw [← e, Int.toNat_natCast] at q
  rw [hn]; exact q
theorem aForR.goN {m : Int} {n : Nat} (hn : m.toNat = n) (hm : -1000000 ≤ m ∧ m ≤ 1000000) (I : Nat → Hp → Hp → L2.St → Prop) (J : Join G P H) (h0 : I 0 G P σ)
    (hs : ∀ (i : Nat) (G' P' H' : Hp) (σ' : L2.St), i < n → Join G' P' H' → I i G' P' σ' → g (.int (i : Int)) σ' H' fun σ2 H2 => tb ⟨fun σ3 H3 => ∃ G3 P3, Join G3 P3 H3 ∧ I (i + 1) G3 P3 σ3, rt, nx, fun σ3 H3 => ∃ G3 P3, Join G3 P3 H3 ∧ I (i + 1) G3 P3 σ3⟩ σ2 H2)
    (hq : ∀ (G' P' H' : Hp) (σ' : L2.St), Join G' P' H' → I n G' P' σ' → nx σ' H') : aForR g tb ⟨nx, rt, bk, ct⟩ σ [.int m] H := by
  obtain ⟨j, e, _, _, q⟩ := (aForR.go (m := (n : Int)) (bk := bk) (ct := ct) rfl (by omega) I J h0 hs hq : aForR g tb ⟨nx, rt, bk, ct⟩ σ [.int (n : Int)] H)
  injection e with e _
  injection e with e
  refine ⟨m, rfl, by omega, by omega, ?_⟩
  rw [← e, Int.toNat_natCast] at q
  rw [hn]; exact q
end
end Lv

/-! comprehensions of dicts whose keys may be tuples, of one clause and of two -/
namespace Lv
open PySem PySem.Spec PyProof.Rows L2
/-- a new dict's state -/
def Emp (o : HO) : Prop := o = .dK [] ∨ o = .dT []
theorem emp_ok {P : Program} {w : World} {H : Hp} {o : HO} (e : Emp o) (h : Heap) (hb : sysModules < h.objs.size) : ObjOk P w H (h.push { cls := .type "dict", data := .dict #[] }) h.objs.size o := by
  rcases e with rfl | rfl
  · exact dk_empty h hb
  · exact dt_empty h hb
/-- one pair more, keys of either kind -/
theorem put_any {X : Cx} {pins : List (Addr × Obj)} {σ : L2.St} {H H' : Hp} {s : Shared} {E : Value → Shared → Prop} {D : Addr} {y v : V} {u r : Value} {Q : Unit → Shared → Prop} (hu : X.A.units + 1 < cLine) (I : L2.Inv X pins σ H s) (g : DPut H D y v H')
    (ry : L2.RelV y u) (rv : L2.RelV v r) (h : ∀ s', L2.Inv X pins σ H' s' → Q () s') : wpAny (model X.prog X.w) X.A (dictSet D u r) Q E s := by
  rcases g with ⟨kvs, k, e, ey, l, eH⟩ | ⟨kvs, k, b, e, ey, eb, l, eH⟩
  · subst ey eH
    exact d_dictSet I e l ry rv h
  · subst ey eH
    cases (show u = Value.ref b from ry)
    obtain ⟨z, hd, xs, rel, dd⟩ := dt_of I.hok e
    have hz : xs.length ≤ sizeLine := by rw [← Paired.length rel]; exact z
    have hl : (putK kvs k v).length ≤ sizeLine := by have := length_putK kvs k v; omega
    refine wpAny_dictSet_heap (knd := tupleKind (mixKind X.prog X.w)) (hsz := hz) (show X.A.units < cLine by omega) (key_of I.hok eb) dd fun h' dd' hs => h _ ?_
    obtain ⟨o, es, ep, hq, h2, h3, h4, _, h5⟩ := dd'
    refine d_write I (by rw [e]; exact True.intro) hs ⟨o, hq⟩ ⟨hl, hd, _, (rel.put k eb rv).keeps fun c ys ec => ?_, o, es, ep, hq, h2, h3, h4, h5⟩
    rw [upd_ne (ne_of ec e (fun z => nomatch z))]
    exact ec
section
variable {X : Cx}
/-- where a block's loop stands -/
structure Blk (X : Cx) (own : List (Str × Nat)) (scope : Scope) (σ : L2.St) (tg : Expr) (J : It) (fp : List Addr) (it : Addr) (tn : Nat → Heap → Prop) (s3 : Shared) (H3 : Hp) (ce : Env) (C : Addr) (cl : List (Str × Addr)) (s4 : Shared) : Prop where
  ceq : ce = compEnvC scope cl C X.env
  T : L2.Turn X.prog X.w X.K tg J fp it tn
  i4 : L2.Inv (X.blk s3 H3 scope ce fp) [] (wipe σ (own.map (·.2))) H3 s4
  st : tn 0 s4.heap
  nf : ∀ b ∈ fp, H3 b = none
  stat : ∀ {σ' : L2.St} {H' : Hp} {s' : Shared}, L2.Inv (X.blk s3 H3 scope ce fp) [] σ' H' s' → (∀ b ∈ fp, H' b = none) → ∀ b ∈ fp, FpOk (X.blk s3 H3 scope ce fp) [] H' b
/-- the frame of a dict's comprehension: what is left is the loop -/
theorem dc_frame {pins : List (Addr × Obj)} {s : Shared} {σ : L2.St} {H : Hp} {Q : VK} {kx vx tg iter : Expr} {ifs : List Expr} {rest : List Comprehension} {scope : Scope} {own : List (Str × Nat)} {pos pos' : Pos} {wi : TI} {o0 : HO} {use : Option (Value → Sem Unit)} {Qf : Value → Shared → Prop} {R : It → Addr → Hp → Prop}
    (hc : X.calm = true) (hN : X.N.Nodup) (em : Emp o0) (I : L2.Inv X pins σ H s) (hi : PI X tg iter wi) (ok : BlkOk X.N X.env.scope scope own) (hs : ∀ x, foldedSetIterable iter X.env x = pure x)
    (h : wi σ H fun J H1 => ∀ D, H1 D = none → R J D (upd H1 D o0))
    (hloop : ∀ (J : It) (D : Addr) (fp : List Addr) (it : Addr) (tn : Nat → Heap → Prop) (s3 : Shared) (H3 : Hp) (ce : Env) (C : Addr) (cl : List (Str × Addr)) (s4 : Shared), R J D H3 → Blk X own scope σ tg J fp it tn s3 H3 ce C cl s4 →
      (∀ H5 s6, L2.Inv (X.blk s3 H3 scope ce fp) [] (wipe σ (own.map (·.2))) H5 s6 → Q (.ref D) H5 → compPost (model X.prog X.w) X.A X.xe use Qf (.ref D) C (.ok .next) s6) →
      codeAny (model X.prog X.w) X.A (.compLoop (.DictComp kx vx (⟨tg, iter, ifs, 0⟩ :: rest) scope pos) 0 (.ref it) (.ref D) ce) (compPost (model X.prog X.w) X.A X.xe use Qf (.ref D) C) s4)
    (hRR : ∀ D C s' m H', L2.Inv X pins σ H' s' → Q (.ref D) H' → s'.heap.Ns C m → FpOk X pins H' C → compPost (model X.prog X.w) X.A X.xe use Qf (.ref D) C (.ok .next) s') :
    wpAny (model X.prog X.w) X.A (comprehension (.DictComp kx vx (⟨tg, iter, ifs, 0⟩ :: rest) scope pos) scope X.env pos' newDict false (eval iter X.env) use) Qf X.xe s := by
  have hfree : ∀ y ∈ scope.names, y.2 = .free → ∃ c, X.env.cells.lookup y.1 = some c := fun y hy e => (ok.free y hy e).elim (fun k => I.ok.has _ (.inl k)) (fun k => I.ok.has _ (.inr k))
  refine wpAny_comprehension_free (use := use) rfl hs (closure_ok hfree) ok.kind (fun y hy e => by rw [ok.uniq y hy, e]) (thn (hi.run pins s σ H _ I h) fun xv s1 hx => thn hx fun itv s2 ⟨it, fp, tn, J, H2, e, I2, T, st2, f2, q⟩ => ?_)
  subst e
  refine wpAny_newObj_type (newEnv_comp ?_)
  generalize hD : s2.heap.objs.size = D
  have q := q D (I2.hok.fresh (Nat.le_of_eq hD))
  generalize hs3 : ({ s2 with heap := s2.heap.push { cls := .type "dict", data := .dict #[] } } : Shared) = s3
  have h3 : s3.heap = s2.heap.push { cls := .type "dict", data := .dict #[] } := by rw [← hs3]
  have I3 : L2.Inv X pins σ (upd H2 D o0) s3 := by
    rw [← hs3]
    refine I2.laid (t' := s2.toks) (fun b o e => Heap.get?_push_of_some _ e) (Nat.le_of_eq hD) ?_
    rw [← hD]
    exact emp_ok em s2.heap I2.big
  have f3 : ∀ b ∈ fp, FpOk X pins (upd H2 D o0) b ∧ b < s3.heap.objs.size := fun b hb => by
    obtain ⟨ob, eb, _⟩ := T.obj _ _ st2 b hb
    have hlt := Heap.lt_size eb
    exact ⟨⟨by rw [upd_ne (by rw [← hD]; exact Nat.ne_of_lt hlt)]; exact (f2 b hb).1, (f2 b hb).2⟩, by rw [h3, Heap.size_push]; exact Nat.lt_succ_of_lt hlt⟩
  have st3 : tn 0 s3.heap := T.keep _ _ _ st2 fun b _ o e => by rw [h3]; exact Heap.get?_push_of_some _ e
  have I4 := block_start I3 ok hN f3
  show codeAny _ _ (.compStart (.DictComp kx vx (⟨tg, iter, ifs, 0⟩ :: rest) scope pos) 0 (.ref it) (.ref D) (compEnvC scope (cellsFrom (s3.heap.objs.size + 1) scope.names (cloFrom X.env.cells scope.names [])) s3.heap.objs.size X.env)) (compPost (model X.prog X.w) X.A X.xe use Qf (.ref D) s3.heap.objs.size) { s3 with heap := pushCells (s3.heap.push { cls := .type "dict", data := .dict #[] }) scope.names }
  generalize hcl : cellsFrom (s3.heap.objs.size + 1) scope.names (cloFrom X.env.cells scope.names []) = cl at I4 ⊢
  generalize hce : compEnvC scope cl s3.heap.objs.size X.env = ce at I4 ⊢
  have cL : ce.locals = s3.heap.objs.size := by subst hce; rfl
  generalize hs4 : ({ s3 with heap := pushCells (s3.heap.push { cls := .type "dict", data := .dict #[] }) scope.names } : Shared) = s4 at I4 ⊢
  have st4 : tn 0 s4.heap := T.keep _ _ _ st3 fun b _ o e => by rw [← hs4]; exact pushCells_keeps _ _ _ _ (Heap.get?_push_of_some _ e)
  have loop := hloop J D fp it tn s3 (upd H2 D o0) ce s3.heap.objs.size cl s4 q ⟨hce.symm, T, I4, st4, fun b hb => (f3 b hb).1.1, fun {σ' H' s'} I' hn b hb =>
    ⟨hn b hb, (I'.ok.exf b hb).1, I'.ok.exfs b hb, .inl hb, fun x c e => (I'.ok.exf b hb).2 x c e, fun p hp => absurd (show p ∈ ([] : List (Addr × Obj)) ++ [] from hp) (by simp)⟩⟩ fun H5 s6 I6 qq => by
      have I7 : L2.Inv X pins σ H5 s6 := I3.call' (ch := fp) I6.os I6.base I6.hok I6.bare fun b hb => ⟨(f3 b hb).1.2.2.2.1, (f3 b hb).1.2.1, (f3 b hb).1.2.2.2.2.1, (f3 b hb).1.2.2.2.2.2⟩
      have nC : H5 s3.heap.objs.size = none := by
        have z : H5 ce.locals = none := I6.free
        rw [cL] at z; exact z
      obtain ⟨m, hn, _⟩ := I6.loc
      have hn : s6.heap.Ns ce.locals m := hn
      rw [cL] at hn
      exact hRR D s3.heap.objs.size s6 m H5 I7 qq hn (I3.fpOk (Nat.le_refl _) nC)
  exact codeAny_compStart_dict loop (T.self X.A 0 _ _ _ st4 loop)
/-- {k: v for target in iter if ..}: D the new dict, o0 its first state -/
def tDcG (o0 : HO) (wi : TI) (g : TG) (tt : TT) (tk tv : TE) (vs : List Nat) : TE := fun σ H Q => wi σ H fun J H1 => ∀ D, H1 D = none → ∃ W : Nat → Nat → Hp → Prop, (∃ m, W 0 m (upd H1 D o0)) ∧ ∀ i m H, W i m H →
  (J.stop i H ∧ Q (.ref D) H) ∨ (J.go i H ∧ ∃ Nx : Hp → Prop, (∀ H', Nx H' → ∃ m', m' < m ∧ W (i + 1) m' H') ∧ ∀ x H', J.yld i H x H' → g x (wipe σ vs) H' fun σ2 H2 => wipe σ2 vs = wipe σ vs ∧ tt σ2 H2 fun b H3 =>
    if b = true then tk σ2 H3 fun y H4 => tv σ2 H4 fun z H5 => ∃ H6, DPut H5 D y z H6 ∧ Nx H6 else Nx H3)
theorem pe_dcG {kx vx tg iter : Expr} {ifs : List Expr} {scope : Scope} {own : List (Str × Nat)} {pos : Pos} {wi : TI} {g : TG} {tt : TT} {tk tv : TE} {o0 : HO} (em : Emp o0) (hu : X.A.units + 1 < cLine) (hc : X.calm = true) (hN : X.N.Nodup) (hi : PI X tg iter wi) (ok : BlkOk X.N X.env.scope scope own)
    (hg : ∀ (s : Shared) (H : Hp) (C : Addr) (cl : List (Str × Addr)) (fp : List Addr), PG (X.blk s H scope (compEnvC scope cl C X.env) fp) tg g) (ht : ∀ (s : Shared) (H : Hp) (C : Addr) (cl : List (Str × Addr)) (fp : List Addr), PTs (X.blk s H scope (compEnvC scope cl C X.env) fp) ifs tt)
    (hk : ∀ (s : Shared) (H : Hp) (C : Addr) (cl : List (Str × Addr)) (fp : List Addr), PE (X.blk s H scope (compEnvC scope cl C X.env) fp) kx tk)
    (he : ∀ (s : Shared) (H : Hp) (C : Addr) (cl : List (Str × Addr)) (fp : List Addr), PE (X.blk s H scope (compEnvC scope cl C X.env) fp) vx tv) (hs : ∀ x, foldedSetIterable iter X.env x = pure x := by intro _; rfl) :
    PE X (.DictComp kx vx [⟨tg, iter, ifs, 0⟩] scope pos) (tDcG o0 wi g tt tk tv (own.map (·.2))) := by
  refine ⟨fun pins s σ H Q I h => ?_⟩
  rw [arm_eval_DictComp]
  refine dc_frame (Q := Q) (R := fun J D H3 => ∃ W : Nat → Nat → Hp → Prop, (∃ m, W 0 m H3) ∧ ∀ i m H, W i m H →
    (J.stop i H ∧ Q (.ref D) H) ∨ (J.go i H ∧ ∃ Nx : Hp → Prop, (∀ H', Nx H' → ∃ m', m' < m ∧ W (i + 1) m' H') ∧ ∀ x H', J.yld i H x H' → g x (wipe σ (own.map fun p : Str × Nat => p.2)) H' fun σ2 H2 => wipe σ2 (own.map fun p : Str × Nat => p.2) = wipe σ (own.map fun p : Str × Nat => p.2) ∧ tt σ2 H2 fun b H3 =>
      if b = true then tk σ2 H3 fun y H4 => tv σ2 H4 fun z H5 => ∃ H6, DPut H5 D y z H6 ∧ Nx H6 else Nx H3)) hc hN em I hi ok hs h ?_ fun D C s' m H' I' q hn f => ⟨m, hn, fun h'' sb => ?_⟩
  · rintro J D fp it tn s3 H3 ce C cl s4 ⟨W, ⟨m0, w0⟩, turn⟩ ⟨rfl, T, I4, st4, nfp, stat⟩ hexit
    refine compLoop_anyD (fun n s' => ∃ i H', L2.Inv (X.blk s3 H3 scope (compEnvC scope cl C X.env) fp) [] (wipe σ (own.map (·.2))) H' s' ∧ tn i s'.heap ∧ (∀ b ∈ fp, H' b = none) ∧ W i n H') ?_ m0 ⟨0, H3, I4, st4, nfp, w0⟩
    rintro n s5 ⟨i, H5, I5, st5, n5, w5⟩
    rcases turn i n H5 w5 with ⟨stop, qq⟩ | ⟨go, Nx, hNx, step⟩
    · refine thnF (T.done (X.blk s3 H3 scope (compEnvC scope cl C X.env) fp) rfl rfl rfl hc i [] s5 _ H5 (fun _ _ => False) I5 (stat I5 n5) st5 stop) fun r s6 ⟨hr, I6⟩ => ?_
      subst hr
      exact hexit H5 s6 I6 qq
    · refine thnF (T.item (X.blk s3 H3 scope (compEnvC scope cl C X.env) fp) rfl rfl rfl hc i [] s5 _ H5 (fun _ _ => False) I5 (stat I5 n5) st5 go) fun r s6 ⟨u, hr, h6⟩ => ?_
      subst hr
      refine thnF h6 fun _ s7 ⟨x, H7, I7, r7, y7, st7, n7⟩ => ?_
      have I7' := I7.pinned (stat I7 n7) (T.obj _ _ st7)
      refine thnF ((hg _ _ _ _ _).run _ s7 _ H7 x u _ I7' r7 (step x H7 y7)) fun _ s8 ⟨σ8, H8, I8, hw8, q8⟩ => ?_
      refine thnF ((ht _ _ _ _ _).run _ s8 σ8 H8 _ I8 q8) fun b s9 ⟨H9, I9, q9⟩ => ?_
      have fin : ∀ {s' : Shared} {H' : Hp}, L2.Inv (X.blk s3 H3 scope (compEnvC scope cl C X.env) fp) ([] ++ pinsAt fp s7.heap) σ8 H' s' → Nx H' → ∃ m, m < n ∧ ∃ i H', L2.Inv (X.blk s3 H3 scope (compEnvC scope cl C X.env) fp) [] (wipe σ (own.map (·.2))) H' s' ∧ tn i s'.heap ∧ (∀ b ∈ fp, H' b = none) ∧ W i m H' := fun {s' H'} I' nx => by
        obtain ⟨m', hm, w'⟩ := hNx H' nx
        have pin' : ∀ b ∈ fp, ∀ o, s7.heap.get? b = some o → s'.heap.get? b = some o ∧ H' b = none := fun b hb o e =>
          let z := I'.pin (b, o) (List.mem_append_right _ (List.mem_append_right _ (mem_pinsAt hb e)))
          ⟨z.1, z.2.1⟩
        refine ⟨m', hm, i + 1, H', (I'.unpinned (pins := [])).weak (by rw [← hw8, wipe_length]) (fun j v e => by rw [← hw8] at e; exact (wipe_some e).1), T.keep _ _ _ st7 fun b hb o e => (pin' b hb o e).1, fun b hb => ?_, w'⟩
        obtain ⟨o, e, _⟩ := T.obj _ _ st7 b hb
        exact (pin' b hb o e).2
      cases b with
      | false =>
        simp only [Bool.false_eq_true, if_false] at q9 ⊢
        exact fin I9 q9
      | true =>
        simp only [if_true] at q9 ⊢
        refine thnF ((hk _ _ _ _ _).run _ s9 σ8 H9 _ I9 q9) fun z s10 ⟨yk, H10, I10, r10, q10⟩ => ?_
        refine thnF ((he _ _ _ _ _).run _ s10 σ8 H10 _ I10 q10) fun z2 s11 ⟨yv, H11, I11, r11, H12, dp, nx⟩ => ?_
        exact put_any (X := X.blk s3 H3 scope (compEnvC scope cl C X.env) fp) hu I11 dp r10 r11 fun s12 I12 => fin I12 nx
  · obtain ⟨f0, f1, f2, f3, f4, f5⟩ := f
    exact ⟨.ref D, H', I'.turned (t' := s'.toks) (fun b o hb e => (sb.2 b hb).trans e) f0 f1 f3 f4 f5, rfl, q⟩
end
/-! two clauses -/
section
variable {prog : Program} {w : World} {A : Around} {R : Result → Shared → Prop} {s : Shared} {kx vx t0 i0 t1 i1 : Expr} {f0 f1 : List Expr} {scope : Scope} {pos : Pos} {it : Value} {D : Addr} {env : Env}
/-- both clauses, as a term -/
abbrev dc2 (kx vx t0 i0 t1 i1 : Expr) (f0 f1 : List Expr) (scope : Scope) (pos : Pos) : Expr := .DictComp kx vx [⟨t0, i0, f0, 0⟩, ⟨t1, i1, f1, 0⟩] scope pos
theorem turnD_out : compTurn (dc2 kx vx t0 i0 t1 i1 f0 f1 scope pos) 0 it (.ref D) env = (do
      standAt i0.pos
      match ← pyNext it with
      | none => pure (.done .next)
      | some v =>
        letOwnedTupleGo t0 it v
        assign t0 env v
        let mut ok := true
        for c in f0 do
          if ok then ok ← isTrue c env (eval c env)
        if ok then
          let x ← eval i1 env
          standAt i1.pos
          let x ← foldedSetIterable i1 env x
          let _ ← runOwn (.compStart (dc2 kx vx t0 i0 t1 i1 f0 f1 scope pos) 1 (← holding [x] (pyIter x)) (.ref D) env) env
        again (.compLoop (dc2 kx vx t0 i0 t1 i1 f0 f1 scope pos) 0 it (.ref D) env)) := by rfl
theorem turnD_in : compTurn (dc2 kx vx t0 i0 t1 i1 f0 f1 scope pos) 1 it (.ref D) env = (do
      standAt i1.pos
      match ← pyNext it with
      | none => pure (.done .next)
      | some v =>
        letOwnedTupleGo t1 it v
        assign t1 env v
        let mut ok := true
        for c in f1 do
          if ok then ok ← isTrue c env (eval c env)
        if ok then
          (do
            let kv ← eval kx env
            let vv ← holding [kv] (eval vx env)
            standAt { kx.pos with endLine := vx.pos.endLine, endCol := vx.pos.endCol }
            holding [kv, vv] (dictSet D kv vv))
        again (.compLoop (dc2 kx vx t0 i0 t1 i1 f0 f1 scope pos) 1 it (.ref D) env)) := by rfl
/-- what stands where an error is noted -/
abbrev Nt (prog : Program) (w : World) (A : Around) (env : Env) (R : Result → Shared → Prop) : Value → Shared → Prop := notedBy (model prog w) A env fun e s' => R (.error e) s'
/-- a turn's head: the item, its store, the tests -/
def Head (prog : Program) (w : World) (A : Around) (env : Env) (R : Result → Shared → Prop) (tg : Expr) (fs : List Expr) (it : Value) (B : Shared → Prop) (Z : Shared → Prop) (s : Shared) : Prop :=
  wpAny (model prog w) A (pyNext it) (fun r s₁ => match r with
    | none => R (.ok .next) s₁
    | some v => wpAny (model prog w) A (letOwnedTupleGo tg it v) (fun _ s₁' => wpAny (model prog w) A (assign tg env v) (fun _ s₂ =>
        wpAny (model prog w) A (forIn fs true fun c r => if r = true then do let ok ← isTrue c env (eval c env); pure (ForInStep.yield ok) else pure (ForInStep.yield r)) (fun ok s₃ => if ok = true then B s₃ else Z s₃) (Nt prog w A env R) s₂) (Nt prog w A env R) s₁') (Nt prog w A env R) s₁) (Nt prog w A env R) s
theorem loopD_out (hs : ∀ x, foldedSetIterable i1 env x = pure x) (I : Nat → Shared → Prop)
    (turn : ∀ n s, I n s → Head prog w A env R t0 f0 it (fun s₃ => wpAny (model prog w) A (eval i1 env) (fun x s₄ => wpAny (model prog w) A (pyIter x) (fun it1 s₅ =>
      codeAny (model prog w) A (.compStart (dc2 kx vx t0 i0 t1 i1 f0 f1 scope pos) 1 it1 (.ref D) env) (fun r s' => match r with
        | .ok _ => ∃ m, m < n ∧ I m s'
        | .error _ => False) s₅) (Nt prog w A env R) s₄) (Nt prog w A env R) s₃) (fun s₃ => ∃ m, m < n ∧ I m s₃) s)
    (n : Nat) (h : I n s) : codeAny (model prog w) A (.compLoop (dc2 kx vx t0 i0 t1 i1 f0 f1 scope pos) 0 it (.ref D) env) R s := by
  refine codeAny_loop rfl I (fun n s hI => ?_) n h
  show wpAny _ A ((compTurn (dc2 kx vx t0 i0 t1 i1 f0 f1 scope pos) 0 it (.ref D) env).onRaise (fun x => do noteFrame x env; theTreesLotGoes x)) _ _ s
  refine wpAny_noted ?_
  rw [turnD_out]
  have tn := turn n s hI
  unfold Head at tn
  refine wpAny_bind (wpAny_standAt (wpAny_bind (wpAny_mono tn (fun r s₁ h₁ => ?_) fun _ _ h' => h')))
  cases r with
  | none => exact wpAny_pure h₁
  | some v =>
    refine wpAny_bind (wpAny_mono h₁ (fun _ s₁' h₁' => wpAny_bind (wpAny_mono h₁' (fun _ s₂ h₂ => wpAny_bind (wpAny_mono h₂ (fun ok s₃ h₃ => ?_) fun _ _ h' => h')) fun _ _ h' => h')) fun _ _ h' => h')
    cases ok with
    | false => exact wpAny_pure ⟨rfl, h₃⟩
    | true =>
      refine wpAny_bind (wpAny_mono h₃ (fun x s₄ h₄ => ?_) fun _ _ h' => h')
      refine wpAny_bind (wpAny_standAt (wpAny_bind (wpAny_of_eq (hs x) (wpAny_bind (wpAny_holding (wpAny_mono h₄ (fun it1 s₅ h₅ => ?_) fun _ _ h' => h'))))))
      refine wpAny_bind (wpAny_runOwn ?_)
      rw [Around.mark_none]
      refine codeAny_mono h₅ fun r s' hr => ?_
      cases r with
      | ok f =>
        first
          | exact wpAny_pure ⟨rfl, hr⟩
          | exact wpAny_bind (wpAny_pure (wpAny_pure ⟨rfl, hr⟩))
      | error e => exact hr.elim
theorem loopD_in (I : Nat → Shared → Prop)
    (turn : ∀ n s, I n s → Head prog w A env R t1 f1 it (fun s₃ => wpAny (model prog w) A (eval kx env) (fun kv s₄ => wpAny (model prog w) A (eval vx env) (fun vv s₅ =>
      wpAny (model prog w) A (dictSet D kv vv) (fun _ s₆ => ∃ m, m < n ∧ I m s₆) (Nt prog w A env R) s₅) (Nt prog w A env R) s₄) (Nt prog w A env R) s₃) (fun s₃ => ∃ m, m < n ∧ I m s₃) s)
    (n : Nat) (h : I n s) : codeAny (model prog w) A (.compLoop (dc2 kx vx t0 i0 t1 i1 f0 f1 scope pos) 1 it (.ref D) env) R s := by
  refine codeAny_loop rfl I (fun n s hI => ?_) n h
  show wpAny _ A ((compTurn (dc2 kx vx t0 i0 t1 i1 f0 f1 scope pos) 1 it (.ref D) env).onRaise (fun x => do noteFrame x env; theTreesLotGoes x)) _ _ s
  refine wpAny_noted ?_
  rw [turnD_in]
  have tn := turn n s hI
  unfold Head at tn
  refine wpAny_bind (wpAny_standAt (wpAny_bind (wpAny_mono tn (fun r s₁ h₁ => ?_) fun _ _ h' => h')))
  cases r with
  | none => exact wpAny_pure h₁
  | some v =>
    refine wpAny_bind (wpAny_mono h₁ (fun _ s₁' h₁' => wpAny_bind (wpAny_mono h₁' (fun _ s₂ h₂ => wpAny_bind (wpAny_mono h₂ (fun ok s₃ h₃ => ?_) fun _ _ h' => h')) fun _ _ h' => h')) fun _ _ h' => h')
    cases ok with
    | false => exact wpAny_pure ⟨rfl, h₃⟩
    | true =>
      exact wpAny_bind (wpAny_bind (wpAny_mono h₃ (fun kv s₄ h₄ => wpAny_bind (wpAny_holding (wpAny_mono h₄ (fun vv s₅ h₅ => wpAny_bind (wpAny_standAt (wpAny_holding (wpAny_mono h₅ (fun _ s₆ h₆ => wpAny_pure ⟨rfl, h₆⟩) fun _ _ h' => h')))) fun _ _ h' => h'))) fun _ _ h' => h'))
/-- the second clause begins -/
theorem startD (h0 : codeAny (model prog w) A (.compLoop (dc2 kx vx t0 i0 t1 i1 f0 f1 scope pos) 1 it (.ref D) env) R s)
    (h : wpAny (model prog w) A (pyIter it) (fun it' s' => codeAny (model prog w) A (.compLoop (dc2 kx vx t0 i0 t1 i1 f0 f1 scope pos) 1 it' (.ref D) env) R s') (Nt prog w A env R) s) :
    codeAny (model prog w) A (.compStart (dc2 kx vx t0 i0 t1 i1 f0 f1 scope pos) 1 it (.ref D) env) R s := by
  refine codeAny_of_tree ?_
  show wpAny _ _ ((compStart (dc2 kx vx t0 i0 t1 i1 f0 f1 scope pos) 1 it (.ref D) env).onRaise (fun x => do noteFrame x env; standAt theWindowsPlace)) _ _ s
  refine wpAny_notedAt ?_
  unfold compStart
  show wpAny _ _ (ask >>= _) _ _ s
  refine wpAny_bind (wpAny_askSetting (wpAny_ite ?_))
  split
  · first
      | exact wpAny_bind (wpAny_pure (wpAny_pure (And.intro rfl h0)))
      | exact wpAny_pure (And.intro rfl h0)
  · first
      | exact wpAny_bind (wpAny_rule (wpAny_bind (wpAny_standAt (wpAny_bind (wpAny_mono h (fun it' s' h' => wpAny_pure (And.intro rfl h')) fun _ _ x => x)))))
      | (refine wpAny_bind (wpAny_rule ?_); show wpAny _ _ (standAt i1.pos >>= _) _ _ s; exact wpAny_bind (wpAny_standAt (wpAny_bind (wpAny_mono h (fun it' s' h' => wpAny_pure (And.intro rfl h')) fun _ _ x => x))))
end
section
variable {X : Cx}
/-- what the two clauses' loops show, D the new dict -/
def Two (J : It) (D : Addr) (H1 : Hp) (Qd : Hp → Prop) (g : TG) (tt : TT) (wi1 : TI) (g1 : TG) (tt1 : TT) (tk tv : TE) (vs vs1 : List Nat) (σ : L2.St) : Prop := ∃ W : Nat → Nat → Hp → Prop, (∃ m, W 0 m H1) ∧ ∀ i m H, W i m H →
  (J.stop i H ∧ Qd H) ∨ (J.go i H ∧ ∃ Nx : Hp → Prop, (∀ H', Nx H' → ∃ m', m' < m ∧ W (i + 1) m' H') ∧ ∀ x H', J.yld i H x H' → g x (wipe σ vs) H' fun σ2 H2 => wipe σ2 vs = wipe σ vs ∧ tt σ2 H2 fun b H3 =>
    if b = true then wi1 σ2 H3 fun J1 H4 => ∃ W1 : Nat → Nat → Hp → Prop, (∃ m, W1 0 m H4) ∧ ∀ j k H, W1 j k H →
      (J1.stop j H ∧ Nx H) ∨ (J1.go j H ∧ ∃ Nx1 : Hp → Prop, (∀ H', Nx1 H' → ∃ k', k' < k ∧ W1 (j + 1) k' H') ∧ ∀ x H', J1.yld j H x H' → g1 x (wipe σ2 vs1) H' fun σ3 H5 => wipe σ3 vs1 = wipe σ2 vs1 ∧ tt1 σ3 H5 fun b H6 =>
        if b = true then tk σ3 H6 fun y H7 => tv σ3 H7 fun z H8 => ∃ H9, DPut H8 D y z H9 ∧ Nx1 H9 else Nx1 H6)
    else Nx H3)
def tDc2G (o0 : HO) (wi : TI) (g : TG) (tt : TT) (wi1 : TI) (g1 : TG) (tt1 : TT) (tk tv : TE) (vs vs1 : List Nat) : TE := fun σ H Q => wi σ H fun J H1 => ∀ D, H1 D = none → Two J D (upd H1 D o0) (Q (.ref D)) g tt wi1 g1 tt1 tk tv vs vs1 σ
theorem pe_dc2G {kx vx tg iter tg1 iter1 : Expr} {ifs ifs1 : List Expr} {scope : Scope} {own : List (Str × Nat)} {vs1 : List Nat} {pos : Pos} {wi wi1 : TI} {g g1 : TG} {tt tt1 : TT} {tk tv : TE} {o0 : HO} (em : Emp o0) (hu : X.A.units + 1 < cLine) (hc : X.calm = true) (hN : X.N.Nodup) (hi : PI X tg iter wi) (ok : BlkOk X.N X.env.scope scope own) (hv : ∀ i ∈ vs1, i ∈ own.map (·.2))
    (hg : ∀ (s : Shared) (H : Hp) (C : Addr) (cl : List (Str × Addr)) (fp : List Addr), PG (X.blk s H scope (compEnvC scope cl C X.env) fp) tg g) (ht : ∀ (s : Shared) (H : Hp) (C : Addr) (cl : List (Str × Addr)) (fp : List Addr), PTs (X.blk s H scope (compEnvC scope cl C X.env) fp) ifs tt)
    (hi1 : ∀ (s : Shared) (H : Hp) (C : Addr) (cl : List (Str × Addr)) (fp : List Addr), PI (X.blk s H scope (compEnvC scope cl C X.env) fp) tg1 iter1 wi1)
    (hg1 : ∀ (s : Shared) (H : Hp) (C : Addr) (cl : List (Str × Addr)) (fp : List Addr), PG (X.blk s H scope (compEnvC scope cl C X.env) fp) tg1 g1) (ht1 : ∀ (s : Shared) (H : Hp) (C : Addr) (cl : List (Str × Addr)) (fp : List Addr), PTs (X.blk s H scope (compEnvC scope cl C X.env) fp) ifs1 tt1)
    (hk : ∀ (s : Shared) (H : Hp) (C : Addr) (cl : List (Str × Addr)) (fp : List Addr), PE (X.blk s H scope (compEnvC scope cl C X.env) fp) kx tk)
    (he : ∀ (s : Shared) (H : Hp) (C : Addr) (cl : List (Str × Addr)) (fp : List Addr), PE (X.blk s H scope (compEnvC scope cl C X.env) fp) vx tv) (hs : ∀ x, foldedSetIterable iter X.env x = pure x := by intro _; rfl) (hs1 : ∀ env x, foldedSetIterable iter1 env x = pure x := by intro _ _; rfl) :
    PE X (.DictComp kx vx [⟨tg, iter, ifs, 0⟩, ⟨tg1, iter1, ifs1, 0⟩] scope pos) (tDc2G o0 wi g tt wi1 g1 tt1 tk tv (own.map (·.2)) vs1) := by
  refine ⟨fun pins s σ H Q I h => ?_⟩
  rw [arm_eval_DictComp]
  refine dc_frame (Q := Q) (R := fun J D H3 => Two J D H3 (Q (.ref D)) g tt wi1 g1 tt1 tk tv (own.map fun p : Str × Nat => p.2) vs1 σ) hc hN em I hi ok hs h ?_ fun D C s' m H' I' q hn f => ⟨m, hn, fun h'' sb => ?_⟩
  · rintro J D fp it tn s3 H3 ce C cl s4 ⟨W, ⟨m0, w0⟩, turn⟩ ⟨hce, T, I4, st4, nfp, stat⟩ hexit
    have pg := hg s3 H3 C cl fp
    have pt := ht s3 H3 C cl fp
    have pi1 := hi1 s3 H3 C cl fp
    have pg1 := hg1 s3 H3 C cl fp
    have pt1 := ht1 s3 H3 C cl fp
    have pk := hk s3 H3 C cl fp
    have pv := he s3 H3 C cl fp
    rw [← hce] at pg pt pi1 pg1 pt1 pk pv
    refine loopD_out (hs1 ce) (fun n s' => ∃ i H', L2.Inv (X.blk s3 H3 scope ce fp) [] (wipe σ (own.map (·.2))) H' s' ∧ tn i s'.heap ∧ (∀ b ∈ fp, H' b = none) ∧ W i n H') ?_ m0 ⟨0, H3, I4, st4, nfp, w0⟩
    rintro n s5 ⟨i, H5, I5, st5, n5, w5⟩
    unfold Head
    rcases turn i n H5 w5 with ⟨stop, qq⟩ | ⟨go, Nx, hNx, step⟩
    · refine thnF (T.done (X.blk s3 H3 scope ce fp) rfl rfl rfl hc i [] s5 _ H5 (fun _ _ => False) I5 (stat I5 n5) st5 stop) fun r s6 ⟨hr, I6⟩ => ?_
      subst hr
      exact hexit H5 s6 I6 qq
    · refine thnF (T.item (X.blk s3 H3 scope ce fp) rfl rfl rfl hc i [] s5 _ H5 (fun _ _ => False) I5 (stat I5 n5) st5 go) fun r s6 ⟨u, hr, h6⟩ => ?_
      subst hr
      refine thnF h6 fun _ s7 ⟨x, H7, I7, r7, y7, st7, n7⟩ => ?_
      have I7' := I7.pinned (stat I7 n7) (T.obj _ _ st7)
      refine thnF (pg.run _ s7 _ H7 x u _ I7' r7 (step x H7 y7)) fun _ s8 ⟨σ8, H8, I8, hw8, q8⟩ => ?_
      refine thnF (pt.run _ s8 σ8 H8 _ I8 q8) fun b s9 ⟨H9, I9, q9⟩ => ?_
      have fin : ∀ {σ9 : L2.St} {s' : Shared} {H' : Hp}, L2.Inv (X.blk s3 H3 scope ce fp) ([] ++ pinsAt fp s7.heap) σ9 H' s' → (wipe σ (own.map (·.2))).length = σ9.length → (∀ (j : Nat) v, (wipe σ (own.map (·.2)))[j]? = some (some v) → σ9[j]? = some (some v)) → Nx H' →
          ∃ m, m < n ∧ ∃ i H', L2.Inv (X.blk s3 H3 scope ce fp) [] (wipe σ (own.map (·.2))) H' s' ∧ tn i s'.heap ∧ (∀ b ∈ fp, H' b = none) ∧ W i m H' := fun {σ9 s' H'} I' hl hk' nx => by
        obtain ⟨m', hm, w'⟩ := hNx H' nx
        have pin' : ∀ b ∈ fp, ∀ o, s7.heap.get? b = some o → s'.heap.get? b = some o ∧ H' b = none := fun b hb o e =>
          let z := I'.pin (b, o) (List.mem_append_right _ (List.mem_append_right _ (mem_pinsAt hb e)))
          ⟨z.1, z.2.1⟩
        refine ⟨m', hm, i + 1, H', (I'.unpinned (pins := [])).weak hl hk', T.keep _ _ _ st7 fun b hb o e => (pin' b hb o e).1, fun b hb => ?_, w'⟩
        obtain ⟨o, e, _⟩ := T.obj _ _ st7 b hb
        exact (pin' b hb o e).2
      have hl8 : (wipe σ (own.map (·.2))).length = σ8.length := by
        have := congrArg List.length hw8
        rw [wipe_length] at this
        exact this.symm
      have hk8 : ∀ (j : Nat) v, (wipe σ (own.map (·.2)))[j]? = some (some v) → σ8[j]? = some (some v) := fun j v e => by
        have e2 : (wipe σ8 (own.map fun p : Str × Nat => p.2))[j]? = some (some v) := by rw [hw8]; exact e
        exact (wipe_some e2).1
      have hk9 : ∀ (j : Nat) v, (wipe σ (own.map (·.2)))[j]? = some (some v) → (wipe σ8 vs1)[j]? = some (some v) := fun j v e => by
        have e2 : (wipe σ8 (own.map fun p : Str × Nat => p.2))[j]? = some (some v) := by rw [hw8]; exact e
        obtain ⟨e1, e3⟩ := wipe_some e2
        rw [wipe_out fun z => e3 (hv j z)]
        exact e1
      cases b with
      | false =>
        simp only [Bool.false_eq_true, if_false] at q9 ⊢
        exact fin I9 hl8 hk8 q9
      | true =>
        simp only [if_true] at q9 ⊢
        refine thnF (pi1.run _ s9 σ8 H9 _ I9 q9) fun xv s10 hx => thnF hx fun itv s11 ⟨it1, fp1, tn1, J1, H11, e1, I11, T1, st11, f11, W1, ⟨m1, w1⟩, turn1⟩ => ?_
        subst e1
        have stat1 : ∀ {H' : Hp}, (∀ b ∈ fp1, H' b = none) → ∀ b ∈ fp1, FpOk (X.blk s3 H3 scope ce fp) ([] ++ pinsAt fp s7.heap) H' b := fun hn b hb => ⟨hn b hb, (f11 b hb).2⟩
        have loop1 : codeAny (model X.prog X.w) X.A (.compLoop (dc2 kx vx tg iter tg1 iter1 ifs ifs1 scope pos) 1 (.ref it1) (.ref D) ce)
            (fun r s' => match r with
              | .ok _ => ∃ m, m < n ∧ ∃ i H', L2.Inv (X.blk s3 H3 scope ce fp) [] (wipe σ (own.map (·.2))) H' s' ∧ tn i s'.heap ∧ (∀ b ∈ fp, H' b = none) ∧ W i m H'
              | .error _ => False) s11 := by
          refine loopD_in (fun k s' => ∃ j H', L2.Inv (X.blk s3 H3 scope ce fp) ([] ++ pinsAt fp s7.heap) (wipe σ8 vs1) H' s' ∧ tn1 j s'.heap ∧ (∀ b ∈ fp1, H' b = none) ∧ W1 j k H') ?_ m1 ⟨0, H11, I11.weak (wipe_length _ _) (fun j v e => (wipe_some e).1), st11, fun b hb => (f11 b hb).1, w1⟩
          rintro k s12 ⟨j, H12, I12, st12, n12, w12⟩
          unfold Head
          rcases turn1 j k H12 w12 with ⟨stop1, nx1⟩ | ⟨go1, Nx1, hNx1, step1⟩
          · refine thnF (T1.done (X.blk s3 H3 scope ce fp) rfl rfl rfl hc j _ s12 (wipe σ8 vs1) H12 (fun _ _ => False) I12 (stat1 n12) st12 stop1) fun r s13 ⟨hr, I13⟩ => ?_
            subst hr
            exact fin I13 (hl8.trans (wipe_length σ8 vs1).symm) hk9 nx1
          · refine thnF (T1.item (X.blk s3 H3 scope ce fp) rfl rfl rfl hc j _ s12 (wipe σ8 vs1) H12 (fun _ _ => False) I12 (stat1 n12) st12 go1) fun r s13 ⟨u1, hr, h13⟩ => ?_
            subst hr
            refine thnF h13 fun _ s14 ⟨x1, H14, I14, r14, y14, st14, n14⟩ => ?_
            have I14' := I14.pinned (stat1 n14) (T1.obj _ _ st14)
            refine thnF (pg1.run _ s14 (wipe σ8 vs1) H14 x1 u1 _ I14' r14 (step1 x1 H14 y14)) fun _ s15 ⟨σ15, H15, I15, hw15, q15⟩ => ?_
            refine thnF (pt1.run _ s15 σ15 H15 _ I15 q15) fun b1 s16 ⟨H16, I16, q16⟩ => ?_
            have fin1 : ∀ {s' : Shared} {H' : Hp}, L2.Inv (X.blk s3 H3 scope ce fp) (([] ++ pinsAt fp s7.heap) ++ pinsAt fp1 s14.heap) σ15 H' s' → Nx1 H' → ∃ m, m < k ∧ ∃ j H', L2.Inv (X.blk s3 H3 scope ce fp) ([] ++ pinsAt fp s7.heap) (wipe σ8 vs1) H' s' ∧ tn1 j s'.heap ∧ (∀ b ∈ fp1, H' b = none) ∧ W1 j m H' := fun {s' H'} I' nx => by
              obtain ⟨m', hm, w'⟩ := hNx1 H' nx
              have pin' : ∀ b ∈ fp1, ∀ o, s14.heap.get? b = some o → s'.heap.get? b = some o ∧ H' b = none := fun b hb o e =>
                let z := I'.pin (b, o) (List.mem_append_right _ (List.mem_append_right _ (mem_pinsAt hb e)))
                ⟨z.1, z.2.1⟩
              refine ⟨m', hm, j + 1, H', I'.unpinned.weak (by rw [← hw15, wipe_length]) (fun j v e => by rw [← hw15] at e; exact (wipe_some e).1), T1.keep _ _ _ st14 fun b hb o e => (pin' b hb o e).1, fun b hb => ?_, w'⟩
              obtain ⟨o, e, _⟩ := T1.obj _ _ st14 b hb
              exact (pin' b hb o e).2
            cases b1 with
            | false =>
              simp only [Bool.false_eq_true, if_false] at q16 ⊢
              exact fin1 I16 q16
            | true =>
              simp only [if_true] at q16 ⊢
              refine thnF (pk.run _ s16 σ15 H16 _ I16 q16) fun z s17 ⟨yk, H17, I17, r17, q17⟩ => ?_
              refine thnF (pv.run _ s17 σ15 H17 _ I17 q17) fun z2 s18 ⟨yv, H18, I18, r18, H19, dp, nx⟩ => ?_
              exact put_any (X := X.blk s3 H3 scope ce fp) hu I18 dp r17 r18 fun s19 I19 => fin1 I19 nx
        exact startD loop1 (T1.self X.A 0 _ _ _ st11 loop1)
  · obtain ⟨f0, f1, f2, f3, f4, f5⟩ := f
    exact ⟨.ref D, H', I'.turned (t' := s'.toks) (fun b o hb e => (sb.2 b hb).trans e) f0 f1 f3 f4 f5, rfl, q⟩
end
end Lv

/-! division by any number but 0; {n: t for t in ts for n in t} -/
namespace Lv
open PySem PySem.Spec PyProof.Rows L2
def CDivZ (_ j : Int) : Prop := j ≠ 0 ∧ j.natAbs.log2 < 9000
theorem op_fdivZ {X : Cx} : OpR X (binaryOp .FloorDiv) (rI CDivZ fun i j => .int (Int.fdiv i j)) := opI fun _ _ _ _ _ _ _ hc q => floordiv_int hc.1 q (.inl (PyProof.noPylong_of_log2 hc.2))
theorem divZ {i j : Int} (h : j ≠ 0) (hb : j.natAbs < 2 ^ 8000) : CDivZ i j := ⟨h, Nat.lt_of_lt_of_le (PySem.Flt.log2_lt_of (by decide) hb) (by decide)⟩
/-- the pairs that stand there then -/
def prs (nss : List (List Int)) (xs : List V) : List (L2.Key × V) := (nss.zip xs).flatMap fun z => z.1.map fun n => ((Sum.inl n : L2.Key), z.2)
theorem prs_more {nss : List (List Int)} {xs : List V} {i : Nat} {ns : List Int} {x : V} (h1 : nss[i]? = some ns) (h2 : xs[i]? = some x) : prs (nss.take (i + 1)) (xs.take (i + 1)) = prs (nss.take i) (xs.take i) ++ ns.map fun n => ((Sum.inl n : L2.Key), x) := by
  unfold prs
  rw [take_more h1, take_more h2, List.zip_append (by
    have a := (List.getElem?_eq_some_iff.mp h1).1
    have b := (List.getElem?_eq_some_iff.mp h2).1
    rw [List.length_take, List.length_take]; omega), List.flatMap_append]
  simp
theorem prs_keys : ∀ {nss : List (List Int)} {xs : List V}, nss.length = xs.length → (prs nss xs).map (·.1) = nss.flatten.map (fun n : Int => (Sum.inl n : L2.Key))
  | [], [], _ => rfl
  | [], _ :: _, h => by cases h
  | _ :: _, [], h => by cases h
  | ns :: nss, x :: xs, h => by
    have ih := prs_keys (nss := nss) (xs := xs) (by simpa using h)
    show ((ns.map fun n => ((Sum.inl n : L2.Key), x)) ++ prs nss xs).map (·.1) = _
    rw [List.map_append, ih, List.flatten_cons, List.map_append, List.map_map]; rfl
theorem prs_val : ∀ {nss : List (List Int)} {xs : List V} {i : Nat} {ns : List Int} {x : V} {n : Int}, nss.flatten.Nodup → nss[i]? = some ns → xs[i]? = some x → n ∈ ns → valV (prs nss xs) (.inl n) = some x
  | [], xs, i, ns, x, n, _, h1, _, _ => by simp at h1
  | m :: nss, [], i, ns, x, n, _, _, h2, _ => by simp at h2
  | m :: nss, y :: xs, i, ns, x, n, hn, h1, h2, hm => by
    have hv : ∀ (l : List Int) (r : List (L2.Key × V)), valV (l.map (fun n => ((Sum.inl n : L2.Key), y)) ++ r) (.inl n) = if n ∈ l then some y else valV r (.inl n) := fun l r => by
      induction l with
      | nil => simp
      | cons a l ih =>
        rw [List.map_cons, List.cons_append]
        by_cases c : a = n
        · subst c
          rw [valV_pos rfl, if_pos List.mem_cons_self]
        · rw [valV_neg (fun h => c (Sum.inl.inj h)), ih]
          by_cases c2 : n ∈ l
          · rw [if_pos c2, if_pos (List.mem_cons_of_mem _ c2)]
          · rw [if_neg c2, if_neg fun h => (List.mem_cons.mp h).elim (fun h => c h.symm) c2]
    show valV (m.map (fun n => ((Sum.inl n : L2.Key), y)) ++ prs nss xs) (.inl n) = some x
    rw [hv]
    rw [List.flatten_cons, List.nodup_append] at hn
    cases i with
    | zero =>
      have e1 : m = ns := by simpa using h1
      have e2 : y = x := by simpa using h2
      subst e1 e2
      rw [if_pos hm]
    | succ i =>
      have h1' : nss[i]? = some ns := by simpa using h1
      have h2' : xs[i]? = some x := by simpa using h2
      rw [if_neg fun h => hn.2.2 n h n (List.mem_flatten.mpr ⟨ns, List.mem_of_getElem? h1', hm⟩) rfl]
      exact prs_val hn.2.1 h1' h2' hm
theorem prs_no {nss : List (List Int)} {xs : List V} {n : Int} (hl : nss.length = xs.length) (h : n ∉ nss.flatten) : valV (prs nss xs) (.inl n) = none := by
  cases e : valV (prs nss xs) (.inl n) with
  | none => rfl
  | some y =>
    have := valV_in e
    rw [prs_keys hl] at this
    obtain ⟨m, hm, em⟩ := List.mem_map.mp this
    injection em with em
    subst em
    exact absurd hm h
section
variable {K : PySem.W.Frag} {σ : L2.St} {G P H : Hp} {Q : VK} {tt tt1 : TT} {ta ti tk tv : TE} {g g1 : TG} {wi1 : TI} {vs vs1 : List Nat} {o0 : HO} {a : Addr} {xs : List V} {nss : List (List Int)}
def aDc2L (o0 : HO) (K : PySem.W.Frag) (g : TG) (tt : TT) (wi1 : TI) (g1 : TG) (tt1 : TT) (tk tv : TE) (vs vs1 : List Nat) (σ : L2.St) : V → Hp → VK → Prop := fun x H Q => tDc2G o0 (fun _ H R => ∃ a, x = .ref a ∧ (∃ xs, SqL K H a xs) ∧ R (Itl K a) H) g tt wi1 g1 tt1 tk tv vs vs1 σ H Q
theorem w_dc2L (h : ta σ H fun x H1 => aDc2L o0 K g tt wi1 g1 tt1 tk tv vs vs1 σ x H1 Q) : tDc2G o0 (iList K ta) g tt wi1 g1 tt1 tk tv vs vs1 σ H Q := h
theorem nodup_mid {l m : List Int} {n : Int} (h : (l ++ n :: m).Nodup) : n ∉ l := fun hm => (List.nodup_append.mp h).2.2 n hm n List.mem_cons_self rfl
theorem flat_split {nss : List (List Int)} {i j : Nat} {ns : List Int} {n : Int} (h1 : nss[i]? = some ns) (h2 : ns[j]? = some n) : nss.flatten = ((nss.take i).flatten ++ ns.take j) ++ n :: (ns.drop (j + 1) ++ (nss.drop (i + 1)).flatten) := by
  have e1 : nss = nss.take i ++ ns :: nss.drop (i + 1) := by
    conv => lhs; rw [← List.take_append_drop i nss]
    rw [List.drop_eq_getElem_cons (List.getElem?_eq_some_iff.mp h1).1, (List.getElem?_eq_some_iff.mp h1).2]
  have e2 : ns = ns.take j ++ n :: ns.drop (j + 1) := by
    conv => lhs; rw [← List.take_append_drop j ns]
    rw [List.drop_eq_getElem_cons (List.getElem?_eq_some_iff.mp h2).1, (List.getElem?_eq_some_iff.mp h2).2]
  conv => lhs; rw [e1]
  rw [List.flatten_append, List.flatten_cons]
  conv => lhs; rw [e2]
  simp
theorem aDc2L.go {S : V → L2.St} {S2 : V → Int → L2.St} (J : Join G P H) (hS : G a = some (.lst xs)) (hT : TupL iV G xs nss) (hnd : nss.flatten.Nodup) (hl : nss.flatten.length ≤ 100000)
    (hg : ∀ (x : V) (H' : Hp) (N : L2.St → Hp → Prop), N (S x) H' → g x (wipe σ vs) H' N) (hw : ∀ x, wipe (S x) vs = wipe σ vs) (hti : ∀ (x : V) (H' : Hp) (R : VK), R x H' → ti (S x) H' R)
    (hg1 : ∀ (x : V) (n : Int) (H' : Hp) (N : L2.St → Hp → Prop), N (S2 x n) H' → g1 (.int n) (wipe (S x) vs1) H' N) (hw1 : ∀ x n, wipe (S2 x n) vs1 = wipe (S x) vs1)
    (hk : ∀ (x : V) (n : Int) (H' : Hp) (R : VK), R (.int n) H' → tk (S2 x n) H' R) (hv : ∀ (x : V) (n : Int) (H' : Hp) (R : VK), R x H' → tv (S2 x n) H' R)
    (hq : ∀ d G' H', H d = none → Ex G G' → Join G' P H' → G' d = some (.dK (prs nss xs)) → Q (.ref d) H') : aDc2L (.dK []) K g tYes (iTup K ti) g1 tYes tk tv vs vs1 σ (.ref a) H Q := by
  refine ⟨a, rfl, ⟨_, sqL (J.g _ _ hS)⟩, fun D hD => ?_⟩
  have hlx := hT.1
  have oth : ∀ {c : Addr} {o u : HO}, H c = some o → upd H D u c = some o := fun {c o u} h => by rw [upd_ne (ne_of_none h hD)]; exact h
  refine ⟨fun i m H' => m = xs.length - i ∧ i ≤ xs.length ∧ H' = upd H D (.dK (prs (nss.take i) (xs.take i))), ⟨xs.length, by simp, Nat.zero_le _, by simp [prs]⟩, ?_⟩
  rintro i m H' ⟨rfl, hi, rfl⟩
  by_cases hlt : i < xs.length
  · refine .inr ⟨⟨xs, xs[i], sqL (oth (J.g _ _ hS)), by simp [hlt]⟩, fun H2 => i + 1 ≤ xs.length ∧ H2 = upd H D (.dK (prs (nss.take (i + 1)) (xs.take (i + 1)))), fun H2 p => ⟨xs.length - (i + 1), by omega, rfl, p⟩, fun x H2 y => ?_⟩
    obtain ⟨rfl, y⟩ := y
    have hx := y xs (sqL (oth (J.g _ _ hS)))
    obtain ⟨ns, t, hns, rfl, ht⟩ := hT.get hx
    refine hg _ _ _ ⟨hw _, w_yes (w_ifT (hti _ _ _ ⟨t, rfl, ⟨_, sqT (oth (J.g _ _ ht))⟩, ?_⟩))⟩
    refine ⟨fun j k H3 => k = ns.length - j ∧ j ≤ ns.length ∧ H3 = upd H D (.dK (prs (nss.take i) (xs.take i) ++ (ns.take j).map fun n => ((Sum.inl n : L2.Key), .ref t))), ⟨ns.length, by simp, Nat.zero_le _, by simp⟩, ?_⟩
    rintro j k H3 ⟨rfl, hj, rfl⟩
    by_cases hjl : j < ns.length
    · have hnj : ns[j]? = some ns[j] := List.getElem?_eq_getElem hjl
      refine .inr ⟨⟨iV ns, .int ns[j], sqT (oth (J.g _ _ ht)), by show (ns.map V.int)[j]? = _; rw [List.getElem?_map, hnj]; rfl⟩, fun H4 => j + 1 ≤ ns.length ∧ H4 = upd H D (.dK (prs (nss.take i) (xs.take i) ++ (ns.take (j + 1)).map fun n => ((Sum.inl n : L2.Key), .ref t))), fun H4 p => ⟨ns.length - (j + 1), by omega, rfl, p⟩, fun z H4 yz => ?_⟩
      obtain ⟨rfl, yz⟩ := yz
      have hz := yz (iV ns) (sqT (oth (J.g _ _ ht)))
      have hz2 : (ns.map V.int)[j]? = some z := hz
      rw [List.getElem?_map, hnj] at hz2
      cases hz2
      have fs := flat_split hns hnj
      have hkeys : (prs (nss.take i) (xs.take i) ++ (ns.take j).map fun n => ((Sum.inl n : L2.Key), V.ref t)).map (·.1) = ((nss.take i).flatten ++ ns.take j).map fun n : Int => (Sum.inl n : L2.Key) := by
        rw [List.map_append, prs_keys (by rw [List.length_take, List.length_take]; omega), List.map_append, List.map_map]; rfl
      have hlen : (prs (nss.take i) (xs.take i) ++ (ns.take j).map fun n => ((Sum.inl n : L2.Key), V.ref t)).length < 100001 := by
        have h1 := congrArg List.length hkeys
        rw [List.length_map, List.length_map] at h1
        rw [h1]
        have h2 := congrArg List.length fs
        rw [List.length_append] at h2
        simp at h2 ⊢
        simp at hl
        omega
      refine hg1 _ _ _ _ ⟨hw1 _ _, w_yes (w_ifT (hk _ _ _ _ (hv _ _ _ _ ⟨_, DPut.k (k := .inl ns[j]) upd_same (Nat.lt_of_lt_of_le hlen (by rw [sizeLine_eq]; decide)), hjl, ?_⟩)))⟩
      have nk : ∀ x ∈ (prs (nss.take i) (xs.take i) ++ (ns.take j).map fun n => ((Sum.inl n : L2.Key), V.ref t)), x.1 ≠ .inl ns[j] := fun x hx e => by
        have hm : x.1 ∈ ((nss.take i).flatten ++ ns.take j).map fun n : Int => (Sum.inl n : L2.Key) := by rw [← hkeys]; exact List.mem_map_of_mem hx
        obtain ⟨n, hn, en⟩ := List.mem_map.mp hm
        rw [e] at en
        injection en with en
        subst en
        rw [fs] at hnd
        exact nodup_mid hnd hn
      rw [putK_keyv nk, take_more hnj, List.map_append, ← List.append_assoc]
      funext c
      by_cases hc : c = D
      · rw [hc, upd_same, upd_same]; rfl
      · rw [upd_ne hc, upd_ne hc, upd_ne hc]
    · have ej : j = ns.length := by omega
      subst ej
      refine .inl ⟨⟨iV ns, sqT (oth (J.g _ _ ht)), by simp [iV]⟩, hlt, ?_⟩
      rw [List.take_length, prs_more hns hx]
  · have ei : i = xs.length := by omega
    subst ei
    refine .inl ⟨⟨xs, sqL (oth (J.g _ _ hS)), Nat.le_refl _⟩, ?_⟩
    rw [List.take_length, show nss.take xs.length = nss by rw [hlx, List.take_length]]
    exact hq D (upd G D _) _ hD (Ex.new (J.ng hD)) (J.newG hD) upd_same
end
end Lv

/-! {k: v}, k read from the heap, v new; dicts of pairs -/
namespace Lv
open PySem PySem.Spec PyProof.Rows L2
section
variable {K : PySem.W.Frag} {σ : L2.St} {G P H : Hp}
theorem aDisp1.goGK {k : L2.Key} {tk tv : TE} {Q : VK} (Pv : V → Hp → Prop) (J : Join G P H) (hk : ∀ P' H' S, Join G P' H' → S (kV k) H' → tk σ H' S) (hv : ∀ P' H' S, Join G P' H' → (∀ v G2 H2, Ex G G2 → Join G2 P' H2 → Pv v G2 → S v H2) → tv σ H' S)
    (q : ∀ p v P' G' H', H p = none → Ex P P' → Ex G G' → Join G' P' H' → P' p = some (.dK [(k, v)]) → Pv v G' → Q (.ref p) H') : tDisp [(tk, tv)] σ H Q := by
  intro p hp
  have j1 : Join G (upd P p (.dK [])) (upd H p (.dK [])) := J.setP (J.ng hp)
  refine hk _ _ _ j1 (hv _ _ _ j1 fun v G2 H2 e2 j2 pv => ⟨j2.p _ _ upd_same, [(k, v)], rfl, Nat.le_of_ble_eq_true rfl, ?_⟩)
  exact q p v _ G2 _ hp ((Ex.new (J.np hp)).mut (J.np hp)) e2 (j2.setP (o := .dK (mergeK [] [(k, v)])) (j2.gn upd_same)) upd_same pv
end
theorem kvZ_more {ns : List Int} {vs : List V} {n : Int} {v : V} (h : vs.length = ns.length) : kvZ (ns ++ [n]) (vs ++ [v]) = kvZ ns vs ++ [((Sum.inl n : L2.Key), v)] := by
  unfold kvZ
  rw [List.zip_append h.symm, List.map_append]; rfl
theorem kvZ_put {ns : List Int} {vs : List V} {n : Int} {v : V} (h : vs.length = ns.length) (hn : n ∉ ns) : putK (kvZ ns vs) (.inl n) v = kvZ (ns ++ [n]) (vs ++ [v]) := by
  rw [kvZ_more h, putK_keyv]
  intro x hx e
  have hm : x.1 ∈ (kvZ ns vs).map (·.1) := List.mem_map_of_mem hx
  rw [kvZ_keys h] at hm
  obtain ⟨m, hm, em⟩ := List.mem_map.mp hm
  rw [e] at em
  injection em with em
  subst em
  exact hn hm
theorem kvZ_len {ns : List Int} {vs : List V} (h : vs.length = ns.length) : (kvZ ns vs).length = ns.length := by
  unfold kvZ
  rw [List.length_map, List.length_zip]; omega
theorem kvZ_some {ns : List Int} {vs : List V} {n : Int} (hn : ns.Nodup) (h : vs.length = ns.length) : (valV (kvZ ns vs) (.inl n)).isSome = decide (n ∈ ns) := by
  by_cases c : n ∈ ns
  · rw [decide_eq_true c]
    obtain ⟨i, hi⟩ := List.getElem?_of_mem c
    have il := (List.getElem?_eq_some_iff.mp hi).1
    rw [valV_kvZ hn hi (List.getElem?_eq_getElem (by omega : i < vs.length))]; rfl
  · rw [decide_eq_false c]
    cases e : valV (kvZ ns vs) (.inl n) with
    | none => rfl
    | some y =>
      have := valV_in e
      rw [kvZ_keys h] at this
      obtain ⟨m, hm, em⟩ := List.mem_map.mp this
      injection em with em
      subst em
      exact absurd hm c
end Lv

/-! d.setdefault(k, x) -/
namespace Lv
open PySem PySem.Spec PyProof.Rows L2
section
variable {σ : L2.St} {G P H : Hp} {Q : VK} {td ty tx : TE} {d : Addr}
def rDSetd (a : Addr) (y z : V) : Hp → VK → Prop := fun H3 Q => ∃ (kvs : List (L2.Key × V)) (k : L2.Key), H3 a = some (.dK kvs) ∧ y = kV k ∧ kvs.length < sizeLine ∧
  (∀ v, valV kvs k = some v → Q v H3) ∧ (valV kvs k = none → Q z (upd H3 a (.dK (putK kvs k z))))
def aDSetd (ty tx : TE) (σ : L2.St) : V → Hp → VK → Prop := fun x H1 Q => ∃ a, x = .ref a ∧ IsD H1 a ∧ ty σ H1 fun y H2 => tx σ H2 fun z H3 => rDSetd a y z H3 Q
theorem w_dsetd (h : td σ H fun x H1 => aDSetd ty tx σ x H1 Q) : tDSetd td ty tx σ H Q := h
theorem dsetdP {kvs : List (L2.Key × V)} (J : Join G P H) (h : P d = some (.dK kvs)) (q : ty σ H fun y H2 => tx σ H2 fun z H3 => rDSetd d y z H3 Q) : aDSetd ty tx σ (.ref d) H Q :=
  ⟨d, rfl, .inl ⟨kvs, .inl (J.p _ _ h)⟩, q⟩
theorem rdsetdP {kvs : List (L2.Key × V)} {k : L2.Key} {y z : V} (hy : y = kV k) (J : Join G P H) (h : P d = some (.dK kvs)) (hl : kvs.length < 100000) (q1 : ∀ v, valV kvs k = some v → Q v H) (q2 : valV kvs k = none → ∀ H', Join G (upd P d (.dK (putK kvs k z))) H' → Q z H') : rDSetd d y z H Q :=
  ⟨kvs, k, J.p _ _ h, hy, szlt hl, q1, fun hn => q2 hn _ (J.setP (J.gn h))⟩
end
end Lv

/-! x = {..} by a comprehension, on one line, x a local -/
namespace Lv
open PySem PySem.Spec PyProof.Rows L2
section
variable {X : Cx}
theorem sw_trueD {kx vx : Expr} {gs : List Comprehension} {scope : Scope} {pos py : Pos} {y : Str} {l : Nat} {env : Env} (hk : env.scope.kind = .function) (hy : env.scope.names.lookup y = some .local) (hl : (py.line == pos.line) = true)
    (ha : (scope.names.any fun (n, k) => n == y && (k == .local || k == .cell)) = false) : swapsWith (.DictComp kx vx gs scope pos) (some (.Name y py)) l env = pure true := by
  have ky : env.kindOf y = some .local := hy
  have hb : env.blockKind = .function := by unfold Env.blockKind; rw [hk]; rfl
  unfold swapsWith
  simp only [hb, ky, ha, Expr.pos, hl]
  rfl
theorem ps_setDc {i : Nat} {y : Str} {py : Pos} {kx vx tg iter : Expr} {ifs : List Expr} {scope : Scope} {own : List (Str × Nat)} {pos spos : Pos} {wi : TI} {g : TG} {tt : TT} {tk tv : TE} (hc : X.calm = true) (hN : X.N.Nodup) (hy : X.N[i]? = some y) (hyl : X.env.scope.names.lookup y = some .local)
    (hsw : swapsWith (.DictComp kx vx [⟨tg, iter, ifs, 0⟩] scope pos) (some (.Name y py)) spos.line X.env = pure true) (hi : PI X tg iter wi) (ok : BlkOk X.N X.env.scope scope own)
    (hg : ∀ (s : Shared) (H : Hp) (C : Addr) (cl : List (Str × Addr)) (fp : List Addr), PG (X.blk s H scope (compEnvC scope cl C X.env) fp) tg g) (ht : ∀ (s : Shared) (H : Hp) (C : Addr) (cl : List (Str × Addr)) (fp : List Addr), PTs (X.blk s H scope (compEnvC scope cl C X.env) fp) ifs tt)
    (hk : ∀ (s : Shared) (H : Hp) (C : Addr) (cl : List (Str × Addr)) (fp : List Addr), PE (X.blk s H scope (compEnvC scope cl C X.env) fp) kx tk)
    (he : ∀ (s : Shared) (H : Hp) (C : Addr) (cl : List (Str × Addr)) (fp : List Addr), PE (X.blk s H scope (compEnvC scope cl C X.env) fp) vx tv) (hs : ∀ x, foldedSetIterable iter X.env x = pure x := by intro _; rfl) :
    PS X (.Assign [.Name y py] (.DictComp kx vx [⟨tg, iter, ifs, 0⟩] scope pos) spos) (tAsg (tDc wi g tt tk tv (own.map (·.2))) (gName i)) := by
  refine ⟨fun pins s σ H D I h => ?_⟩
  rw [exec_Assign_Name_used _ _ _ _ hsw]
  refine wpAny_bind (wpAny_standAt (wpAny_bind ?_))
  show wpAny _ X.A (do let _ ← comprehension (.DictComp kx vx [⟨tg, iter, ifs, 0⟩] scope pos) scope X.env (firstIterPos [⟨tg, iter, ifs, 0⟩] pos) newDict false (eval iter X.env) (some (assign (.Name y py) X.env))) _ _ s
  have h : tDc wi g tt tk tv (own.map (·.2)) σ H (fun x H1 => gName i x σ H1 D.nx) := h
  refine wpAny_bind (thn (dc_core (Qf := fun _ s' => SP X pins D .next s') hc hN I hi ok hg ht hk he hs h fun L C s' m H' I' q hn f => ?_) fun _ s' hq => wpAny_pure (wpAny_pure hq))
  show wpAny _ _ (assign (.Name y py) X.env (.ref L)) _ _ _
  refine wpAny_assign_Name (store_ok2 (v := V.ref L) I' hN hy (.inl hyl) rfl (fun s2 I2 ⟨a, sb, ha⟩ => ?_) (.inr hyl))
  obtain ⟨f0, f1, f2, f3, f4, f5⟩ := f
  have haC : C ≠ a := by
    rcases ha with z | z
    · rw [z]; exact f1
    · exact fun e => f4 y a z e.symm
  refine ⟨m, hn.sameBut sb haC, fun h3 sb3 => ?_⟩
  exact ⟨_, H', I2.turned (t' := s2.toks) (fun b o hb e => (sb3.2 b hb).trans e) f0 f1 f3 f4 f5, q⟩
end
end Lv

/-! {n: c for n in t}, a dict that changes later -/
namespace Lv
open PySem PySem.Spec PyProof.Rows L2
section
variable {K : PySem.W.Frag} {σ : L2.St} {H : Hp} {Q : VK} {tk tv : TE}
theorem aDcT.goC {j : Nat} {a : Addr} {ns : List Int} {ts : List Nat} {G P : Hp} {c : V} (J : Join G P H) (hS : G a = some (.tup (ns.map V.int))) (hn : ns.Nodup) (hl : ns.length ≤ 100000) (hw : ∀ x, wipe ((wipe σ ts).set j (some x)) ts = wipe σ ts)
    (hk : ∀ (n : Int) (H' : Hp) (S : VK), S (.int n) H' → tk ((wipe σ ts).set j (some (.int n))) H' S) (hv : ∀ (x : V) (H' : Hp) (S : VK), S c H' → tv ((wipe σ ts).set j (some x)) H' S)
    (hq : ∀ p P' H', H p = none → Ex P P' → Join G P' H' → P' p = some (.dK (kvZ ns (ns.map fun _ => c))) → Q (.ref p) H') : aDcT K (gName j) tYes tk tv ts σ (.ref a) H Q := by
  refine ⟨a, rfl, ⟨_, sqT (J.g _ _ hS)⟩, fun D hD => ?_⟩
  have pD : P D = none := J.np hD
  have gD : G D = none := J.ng hD
  refine dc_tup (K := K) (a := a) (xs := ns.map V.int) (fun i H' => ∃ P', Ex P P' ∧ Join G P' H' ∧ P' D = some (.dK (kvZ (ns.take i) ((ns.take i).map fun _ => c)))) ⟨_, Ex.new pD, J.setP gD, upd_same⟩ (fun i H' _ ⟨P', e, j', _⟩ => sqT (j'.g _ _ hS)) (fun i x H' hi ⟨P', e, j', hd⟩ => ?_) (fun H' ⟨P', e, j', hd⟩ => ?_)
  · obtain ⟨n, hi2, rfl⟩ := int_at hi
    have hil := (List.getElem?_eq_some_iff.mp hi2).1
    have hlen : ((ns.take i).map fun _ => c).length = (ns.take i).length := by rw [List.length_map]
    refine ⟨hw _, iteT (B := True) (hk n H' _ (hv _ H' _ ⟨_, .inl n, rfl, j'.p _ _ hd, ?_, _, ?_, j'.setP (j'.gn hd), ?_⟩))⟩
    · refine szlt ?_
      rw [kvZ_len hlen, List.length_take]; omega
    · exact e.mut pD
    · rw [upd_same, kvZ_put hlen, take_more hi2, List.map_append]; rfl
      intro hm
      obtain ⟨b, hc⟩ := List.getElem?_of_mem hm
      have hc1 := (List.getElem?_eq_some_iff.mp hc).1
      rw [List.length_take] at hc1
      rw [List.getElem?_take, if_pos (by omega)] at hc
      obtain ⟨b1, b2⟩ := List.getElem?_eq_some_iff.mp hc
      obtain ⟨b3, b4⟩ := List.getElem?_eq_some_iff.mp hi2
      have := (List.getElem_inj hn).mp (b2.trans b4.symm)
      omega
  · rw [List.length_map, List.take_length] at hd
    exact hq D P' H' hD e j' hd
end
end Lv

/-! xs[::-1] -/
namespace Lv
open PySem PySem.Spec PyProof.Rows L2
section
variable {K : PySem.W.Frag} {σ : L2.St} {G P H : Hp} {Q : VK} {te : TE}
def aRevL (K : PySem.W.Frag) : V → Hp → VK → Prop := fun x H1 Q => ∃ a xs, x = .ref a ∧ SqL K H1 a xs ∧ ∀ p, H1 p = none → Q (.ref p) (upd H1 p (.lst xs.reverse))
theorem w_revL (h : te σ H fun x H1 => aRevL K x H1 Q) : tRevL K te σ H Q := h
theorem aRevL.go {a : Addr} {xs : List V} (J : Join G P H) (h : H a = some (.lst xs)) (q : ∀ p G' H', H p = none → Ex G G' → Join G' P H' → G' p = some (.lst xs.reverse) → Q (.ref p) H') : aRevL K (.ref a) H Q :=
  ⟨a, xs, rfl, sqL h, fun p hp => q p _ _ hp (Ex.new (J.ng hp)) (J.newG hp) upd_same⟩
end
end Lv

/-! isinstance(e, C) of an error that is caught: its class is told where the suite is entered -/
namespace Lv
open PySem PySem.Spec PyProof.Rows L2
/-- what an own error class must say, and which of some classes it is -/
def excB (K : PySem.W.Frag) (c : Str) (cs : List Str) : Bool :=
  decide (PySem.W.findIn K (.ref (He.ga K c)) "__getattribute__" = some (some (.builtin "BaseException.__getattribute__"))) &&
  (decide (PySem.W.findIn K (.ref (He.ga K c)) "__getattr__" = some none) &&
  (decide (PySem.W.subIn K (.ref (He.ga K c)) (.type "BaseException") = some true) &&
  (decide (PySem.W.hasDictIn K (He.ga K c) = true) &&
  (decide (PySem.W.findIn K (.ref (He.ga K c)) "__class__" = some (some (.builtin "object.__class__"))) &&
  (decide (PySem.W.specialIn K (.builtin "object.__class__") "__get__" = some (some (.builtin "getset_descriptor.__get__"))) &&
  (decide (PySem.W.takesIn K (.builtin "object.__class__") = some true) &&
  (decide (PySem.W.mroIn K (He.ga K c) (.type "object") = some true) &&
  (decide (PySem.W.kitOne K (.ref (He.ga K c)) (.type "ValueError") = some true) &&
  cs.all fun y => decide (PySem.W.kitOne K (.ref (He.ga K c)) (.ref (He.ga K y)) = some (decide (c = y)))))))))))
theorem excB_ok {K : PySem.W.Frag} {c : Str} {cs : List Str} (h : excB K c cs = true) : ExcC K (He.ga K c) ∧ PySem.W.kitOne K (.ref (He.ga K c)) (.type "ValueError") = some true ∧ ∀ y ∈ cs, PySem.W.kitOne K (.ref (He.ga K c)) (.ref (He.ga K y)) = some (decide (c = y)) := by
  unfold excB at h
  simp only [Bool.and_eq_true, decide_eq_true_eq, List.all_eq_true] at h
  obtain ⟨h1, h2, h3, h4, h5, h6, h7, h8, h9, h10⟩ := h
  exact ⟨⟨h1, h2, h3, h4, h5, h6, h7, h8⟩, h9, h10⟩
/-- isinstance(e, c), e the error that the suite holds, of the class cls -/
def rIsG (K : PySem.W.Frag) (cls : Value) (d : Option Addr) (a : Addr) : List V → Hp → VK → Prop := fun xs H Q => ∃ D, cls = .ref D ∧ d = none ∧ ExcC K D ∧ rIsE K D a xs H Q
theorem call_isG {X : Cx} {a : Addr} {oe : Obj} {cls : Value} {d : Option Addr} {pn : List (Addr × Obj)} (hz : Zc cls d oe) (hf : ∃ vs, oe.data = .fields vs) : CallR (X.suite a ((a, oe) :: pn)) (.builtin "isinstance") (rIsG X.K cls d a) := by
  intro pins s σ H xs us Q I r h
  obtain ⟨D, rfl, rfl, C, h⟩ := h
  exact call_isE C hz hf pins s σ H xs us Q I r h
theorem call_isGK {X : Cx} {K : PySem.W.Frag} {a : Addr} {oe : Obj} {cls : Value} {d : Option Addr} {pn : List (Addr × Obj)} (h : X.K = K) (hz : Zc cls d oe) (hf : ∃ vs, oe.data = .fields vs) : CallR (X.suite a ((a, oe) :: pn)) (.builtin "isinstance") (rIsG K cls d a) := h ▸ call_isG hz hf
section
variable {K : PySem.W.Frag} {H : Hp} {σ : L2.St} {Q : VK} {a : Addr}
theorem w_isG {cls : Value} {d : Option Addr} {as : TA} (h : as σ H fun vs H1 => rIsG K cls d a vs H1 Q) : tCB (rIsG K cls d a) as σ H Q := h
theorem isG_own {c y : Str} {cs : List Str} (hB : excB K c cs = true) (hy : y ∈ cs) (q : Q (.bl (decide (c = y))) H) : rIsG K (.ref (He.ga K c)) none a [.ref a, .ref (He.ga K y)] H Q :=
  ⟨_, rfl, rfl, (excB_ok hB).1, _, .ref (He.ga K y), _, rfl, fun u r => r, (excB_ok hB).2.2 y hy, q⟩
theorem isG_val {c : Str} {cs : List Str} (hB : excB K c cs = true) (q : Q (.bl true) H) : rIsG K (.ref (He.ga K c)) none a [.ref a, .ty "ValueError"] H Q :=
  ⟨_, rfl, rfl, (excB_ok hB).1, _, .type "ValueError", _, rfl, fun u r => r, (excB_ok hB).2.1, q⟩
end
end Lv

/-! a comprehension over a list within an except suite, and what raises so that it can stand there -/
namespace Lv
open PySem PySem.Spec PyProof.Rows L2
section
variable {prog : Program} {w : World} {A : Around} {E : Value → Shared → Prop} {s : Shared}
/-- the end of a list's iterator while an error is handled -/
theorem next_hot {it l x1 : Addr} {i : Nat} {items : Array Value} {Q : Option Value → Shared → Prop}
    (hot : HotX.HotAt A x1 s.heap) (hne : x1 ≠ it) (hit : s.heap.IsListIter it l i)
    (hl : s.heap.IsList l items) (hx : items[i]? = none)
    (hQ : ∀ h', Heap.ExtBut it s.heap h' → Q none { s with heap := h' }) :
    wpAny (model prog w) A (pyNext (.ref it)) Q E s := by
  obtain ⟨oi, hoi, hci, hdi⟩ := id hit
  obtain ⟨ol, hol, _, _, hdl⟩ := hl
  obtain ⟨hh, o1, vs1, h1, d1, c1⟩ := hot
  unfold pyNext
  refine wpAny_bind (wpAny_attempt (wpAny_callSpecial?_slot
    (name := Str.ofString "__next__") hit.typeIs slot_listiter_next
    (wpAny_call_entry slot_listiter_next hit.typeIs
      entry_listiter_next ?_ (args_listiter_next _))))
  change wpAny _ _ (field (.ref it) 0 >>= _) _ _ _
  refine wpAny_bind (wpAny_field hoi hdi (x := .ref l) rfl ?_)
  change wpAny _ _ (if (Value.ref l == Value.none) = true then _ else _) _ _ _
  rw [if_neg (by exact Bool.false_ne_true)]
  change wpAny _ _ (field (.ref it) 1 >>= _) _ _ _
  refine wpAny_bind (wpAny_field hoi hdi (x := .int i 0) rfl ?_)
  change wpAny _ _ (seqItems? (.ref l) >>= _) _ _ _
  refine wpAny_bind (wpAny_seqItems hol hdl ?_)
  simp only [hx, Int.toNat_natCast]
  refine wpAny_bind (wpAny_rule (wpAny_bind
    (wpAny_setField hoi hdi (by simp) ?_)))
  change wpAny _ _ (newExc (.type "StopIteration") [] >>= _) _ _ _
  refine wpAny_bind ?_
  simp only [newTuple, newExc]
  refine wpAny_bind (wpAny_newObj_type ?_ (by size_fits))
  refine wpAny_bind (m := firstArgMember _ _)
    (wpAny_of_eq (a := Value.none) (by first | rfl | (simp only [firstArgMember]; rfl)) ?_)
  refine wpAny_newObj_type ?_ (by size_fits)
  refine HotX.raiseNew_hot
    ⟨hh, o1, vs1, Heap.get?_push_of_some _ (Heap.get?_push_of_some _
      ((Heap.get?_update_other _ _ (Ne.symm hne)).trans h1)), d1, c1⟩
    (Nat.ne_of_lt (Heap.lt_size (Heap.get?_push_of_some _
      ((Heap.get?_update_other _ _ (Ne.symm hne)).trans h1))))
    (Heap.get?_push_size _ rfl) rfl
    (by first | (simp; done) | (simp; omega)) ?_
  refine wpAny_bind (wpAny_isInstance (T := "StopIteration") (b := true)
    ⟨_, Heap.get?_update_self _ (Heap.get?_push_size _ rfl) rfl, rfl⟩
    isSubtype_stop ?_)
  refine wpAny_pure (hQ _ fun b o nb e => ?_)
  have e2 := (Heap.get?_update_other s.heap (Obj.mapFields fun x => x.setIfInBounds 0 Value.none) (Ne.symm nb)).trans e
  have e3 := Heap.get?_push_of_some { cls := Value.type "tuple", data := Data.seq #[] } e2
  refine (Heap.get?_update_other _ _ (Nat.ne_of_gt (Heap.lt_size e3))).trans ?_
  exact Heap.get?_push_of_some _ e3
end
/-- the error that is handled, pinned, its context None -/
structure HotCx (X : Cx) (x1 : Addr) (o1 : Obj) : Prop where
  han : X.A.handled = some (.ref x1)
  pin : (x1, o1) ∈ X.pn
  ctx : ∃ vs, o1.data = .fields vs ∧ vs[2]? = some .none
theorem HotCx.out {X : Cx} {x1 : Addr} {o1 : Obj} {pins : List (Addr × Obj)} {σ : L2.St} {H : Hp} {s : Shared} (h : HotCx X x1 o1) (I : Inv X pins σ H s) : x1 ∉ frs X.stack := by
  obtain ⟨_, _, h3, h4, _⟩ := I.pin (x1, o1) (List.mem_append_left _ h.pin)
  rcases I.ok.stk with e | ⟨e, e2⟩
  · rw [e]; exact h4
  · rw [e]
    unfold frs
    rw [List.filterMap_cons, e2]
    intro z
    rcases List.mem_cons.mp z with z | z
    · exact h3 z
    · exact h4 z
section
variable {X : Cx} {x1 : Addr} {o1 : Obj}
theorem pe_lcH {elt tg iter : Expr} {ifs : List Expr} {scope : Scope} {own : List (Str × Nat)} {pos : Pos} {tl : TE} {g : TG} {tt : TT} {te : TE}
    (hot : HotCx X x1 o1) (hN : X.N.Nodup) (hi : PE X iter tl) (ok : BlkOk X.N X.env.scope scope own)
    (hg : ∀ (s : Shared) (H : Hp) (C : Addr) (cl : List (Str × Addr)) (fp : List Addr), PG (X.blk s H scope (compEnvC scope cl C X.env) fp) tg g)
    (ht : ∀ (s : Shared) (H : Hp) (C : Addr) (cl : List (Str × Addr)) (fp : List Addr), PTs (X.blk s H scope (compEnvC scope cl C X.env) fp) ifs tt)
    (he : ∀ (s : Shared) (H : Hp) (C : Addr) (cl : List (Str × Addr)) (fp : List Addr), PE (X.blk s H scope (compEnvC scope cl C X.env) fp) elt te)
    (hs : ∀ x, foldedSetIterable iter X.env x = pure x := by intro _; rfl) :
    PE X (.ListComp elt [⟨tg, iter, ifs, 0⟩] scope pos) (tLc (iList X.K tl) g tt te (own.map (·.2))) := by
  refine ⟨fun pins s σ H Q I h => ?_⟩
  rw [eval_ListComp]
  have fre : ∀ y ∈ scope.names, y.2 = .free → ∃ c, X.env.cells.lookup y.1 = some c :=
    fun y hy e => (ok.free y hy e).elim (fun k => I.ok.has _ (.inl k)) fun k => I.ok.has _ (.inr k)
  refine wpAny_comprehension_free (use := none) rfl hs (closure_ok fre) ok.kind
    (fun y hy e => by rw [ok.uniq y hy, e]) (thn (hi.run pins s σ H _ I h) fun v s1 hv => ?_)
  obtain ⟨x, H1, I1, r1, a, rfl, ⟨xs, hq⟩, q⟩ := hv
  cases r1
  obtain ⟨its, rv, lsp, _⟩ := I1.list hq
  refine wpAny_pyIter_list lsp.isList ?_
  have I2 := I1.kept (t' := s1.toks) fun b o e =>
    Heap.get?_push_of_some { cls := .type "list_iterator", data := .fields #[.ref a, .int 0 0] } e
  have st2 : (s1.heap.push { cls := .type "list_iterator", data := .fields #[.ref a, .int 0 0] }).IsListIter s1.heap.objs.size a 0 :=
    ⟨_, Heap.get?_push_size _ rfl, rfl, rfl⟩
  have ft2 : FpOk X pins H1 s1.heap.objs.size := I1.fpOk (Nat.le_refl _) (I1.hok.fresh (Nat.le_refl _))
  generalize s1.heap.objs.size = it at st2 ft2 ⊢
  generalize hs2 : ({ s1 with heap := s1.heap.push { cls := .type "list_iterator", data := .fields #[.ref a, .int 0 0] } } : Shared) = s2 at I2 ⊢
  have st2 : s2.heap.IsListIter it a 0 := hs2 ▸ st2
  clear hs2
  refine wpAny_newObj_type (newEnv_comp ?_) (Nat.zero_le _)
  obtain ⟨L, hL⟩ : ∃ L, s2.heap.objs.size = L := ⟨_, rfl⟩
  have nL : H1 L = none := I2.hok.fresh (Nat.le_of_eq hL)
  rw [hL]
  obtain ⟨W, ⟨m0, w0⟩, turn⟩ := q L nL
  have I3 : Inv X pins σ (upd H1 L (.lst [])) { s2 with heap := s2.heap.push { cls := .type "list", data := .seq ([] : List Value).toArray } } :=
    I2.laid (t' := s2.toks) (fun b o e => Heap.get?_push_of_some _ e) (Nat.le_of_eq hL)
      ⟨Nat.zero_le _, [], 0, .nil, hL ▸ Heap.get?_push_size _ rfl⟩
  obtain ⟨oi, hoi, _⟩ := id st2
  have hlt := Heap.lt_size hoi
  have st3 : (s2.heap.push { cls := .type "list", data := .seq ([] : List Value).toArray }).IsListIter it a 0 :=
    st2.at fun o e => Heap.get?_push_of_some _ e
  have ft3 : ∀ b ∈ [it], FpOk X pins (upd H1 L (.lst [])) b ∧ b < (s2.heap.push { cls := .type "list", data := .seq ([] : List Value).toArray }).objs.size := fun b hb => by
    obtain rfl := List.mem_singleton.mp hb
    refine ⟨⟨?_, ft2.2⟩, by rw [Heap.size_push]; exact Nat.lt_succ_of_lt hlt⟩
    rw [upd_ne (Nat.ne_of_lt (hL ▸ hlt))]
    exact ft2.1
  generalize hs3 : ({ s2 with heap := s2.heap.push { cls := .type "list", data := .seq ([] : List Value).toArray } } : Shared) = s3 at I3 ⊢
  replace st3 : s3.heap.IsListIter it a 0 := hs3 ▸ st3
  replace ft3 : ∀ b ∈ [it], FpOk X pins (upd H1 L (.lst [])) b ∧ b < s3.heap.objs.size := hs3 ▸ ft3
  clear hs3 hoi hlt st2 ft2 I2 I1 hL
  have I4 := block_start I3 ok hN ft3
  have pG := hg s3 (upd H1 L (.lst [])) s3.heap.objs.size (cellsFrom (s3.heap.objs.size + 1) scope.names (cloFrom X.env.cells scope.names [])) [it]
  have pT := ht s3 (upd H1 L (.lst [])) s3.heap.objs.size (cellsFrom (s3.heap.objs.size + 1) scope.names (cloFrom X.env.cells scope.names [])) [it]
  have pE := he s3 (upd H1 L (.lst [])) s3.heap.objs.size (cellsFrom (s3.heap.objs.size + 1) scope.names (cloFrom X.env.cells scope.names [])) [it]
  change codeAny _ _
    (.compStart (.ListComp elt [⟨tg, iter, ifs, 0⟩] scope pos) 0 (.ref it) (.ref L)
      (compEnvC scope (cellsFrom (s3.heap.objs.size + 1) scope.names (cloFrom X.env.cells scope.names [])) s3.heap.objs.size X.env))
    (compPost (model X.prog X.w) X.A X.xe none (EP X pins σ Q) (.ref L) s3.heap.objs.size)
    { s3 with heap := pushCells (s3.heap.push { cls := .type "dict", data := .dict #[] }) scope.names }
  have n3 : (upd H1 L (.lst [])) it = none := (ft3 it (List.mem_singleton.mpr rfl)).1.1
  have hx1 := I3.pin (x1, o1) (List.mem_append_left _ hot.pin)
  have hxo := hot.out I3
  have hxi : x1 ≠ it := (ft3 it (List.mem_singleton.mpr rfl)).1.2.2.2.2.2 (x1, o1) (List.mem_append_left _ hot.pin)
  generalize hce : compEnvC scope (cellsFrom (s3.heap.objs.size + 1) scope.names (cloFrom X.env.cells scope.names [])) s3.heap.objs.size X.env = ce at I4 pG pT pE ⊢
  have cloc : ce.locals = s3.heap.objs.size := hce ▸ rfl
  generalize upd H1 L (.lst []) = H3 at I3 I4 pG pT pE w0 n3 ft3 hx1
  generalize hs4 : ({ s3 with heap := pushCells (s3.heap.push { cls := .type "dict", data := .dict #[] }) scope.names } : Shared) = s4 at I4 ⊢
  have st4 : s4.heap.IsListIter it a 0 :=
    st3.at fun o e => by rw [← hs4]; exact pushCells_keeps _ _ _ _ (Heap.get?_push_of_some _ e)
  clear hs4 hce
  have fpo : ∀ {σ' : L2.St} {H' : Hp} {s' : Shared}, Inv (X.blk s3 H3 scope ce [it]) [] σ' H' s' → H' it = none → FpOk (X.blk s3 H3 scope ce [it]) [] H' it := fun I' hn =>
    have m := List.mem_singleton.mpr rfl
    ⟨hn, (I'.ok.exf it m).1, I'.ok.exfs it m, .inl m, fun x c e => (I'.ok.exf it m).2 x c e, fun p hp => by simp at hp⟩
  have hotB : ∀ {σ' : L2.St} {H' : Hp} {s' : Shared}, Inv (X.blk s3 H3 scope ce [it]) [] σ' H' s' → HotX.HotAt X.A x1 s'.heap := fun I' => by
    obtain ⟨vs, c1, c2⟩ := hot.ctx
    exact ⟨hot.han, o1, vs, I'.base.keep x1 o1 hx1.1 hx1.2.1 hxo (fun z => hxi (List.mem_singleton.mp z)), c1, c2⟩
  have loop : codeAny (model X.prog X.w) X.A
      (.compLoop (.ListComp elt [⟨tg, iter, ifs, 0⟩] scope pos) 0 (.ref it) (.ref L) ce)
      (compPost (model X.prog X.w) X.A X.xe none (EP X pins σ Q) (.ref L) s3.heap.objs.size) s4 := by
    refine compLoop_any (fun n s' => ∃ i H', Inv (X.blk s3 H3 scope ce [it]) [] (wipe σ (own.map (·.2))) H' s' ∧
      s'.heap.IsListIter it a i ∧ H' it = none ∧ W i n H') ?_ m0 ⟨0, H3, I4, st4, n3, w0⟩
    rintro n s5 ⟨i, H5, I5, st5, n5, w5⟩
    obtain ⟨f0, f1, f2, f3, f4, f5⟩ := fpo I5 n5
    rcases turn i n H5 w5 with ⟨⟨ys, hys, hle⟩, qq⟩ | ⟨⟨ys, y, hys, hy⟩, Nx, hNx, step⟩
    · obtain ⟨jts, rv5, ls5, _⟩ := I5.list hys
      have hl5 := rv5.length
      have nx := next_hot (prog := X.prog) (w := X.w) (E := fun _ _ => False)
        (Q := fun r s' => r = none ∧ Inv (X.blk s3 H3 scope ce [it]) [] (wipe σ (own.map (·.2))) H5 s')
        (hotB I5) hxi st5 ls5.isList (by simp; omega) fun h' eb =>
          ⟨rfl, I5.turned (t' := s5.toks) (fun b o hb e => eb b o hb e) f0 f1 f3 f4 f5⟩
      refine thnF nx fun r s6 ⟨hr, I6⟩ => ?_
      subst hr
      have I7 : Inv X pins σ H5 s6 := I3.call' (ch := [it]) I6.os I6.base I6.hok I6.bare fun b hb =>
        have z := (ft3 b hb).1
        ⟨z.2.2.2.1, z.2.1, z.2.2.2.2.1, z.2.2.2.2.2⟩
      have nC : H5 s3.heap.objs.size = none := cloc ▸ I6.free
      obtain ⟨m, hn, _⟩ := I6.loc
      have hm : s6.heap.Ns s3.heap.objs.size m := cloc ▸ hn
      obtain ⟨k0, k1, k2, k3, k4, k5⟩ := I3.fpOk (H' := H5) (Nat.le_refl _) nC
      exact ⟨m, hm, fun h2 sb => ⟨.ref L, H5, I7.turned (t' := s6.toks) (fun b o hb e => (sb.2 b hb).trans e) k0 k1 k3 k4 k5, rfl, qq⟩⟩
    · obtain ⟨jts, rv5, ls5, _⟩ := I5.list hys
      obtain ⟨u, hu, ru⟩ := rv5.get hy
      refine wpAny_pyNext_list_item st5 ls5.isList (x := u) (by simpa using hu) fun h' st6 sb => ?_
      have I6 : Inv (X.blk s3 H3 scope ce [it]) [] (wipe σ (own.map (·.2))) H5 { s5 with heap := h' } :=
        I5.turned (t' := s5.toks) (fun b o hb e => (sb.2 b hb).trans e) f0 f1 f3 f4 f5
      obtain ⟨oi, ho1, ho2, ho3⟩ := id st6
      change wpAny _ _ (letOwnedTupleGo tg (.ref it) u) _ _ _
      refine go_of (s := { s5 with heap := h' }) ho1 ho2 ho3 (by decide) ?_
      replace ho1 : ({ s5 with heap := h' } : Shared).heap.get? it = some oi := ho1
      generalize ({ s5 with heap := h' } : Shared) = s7 at I6 st6 ho1 ⊢
      have hyl : (Itl X.K a).yld i H5 y H5 := ⟨rfl, fun zs hz => by rw [I6.list_inj hz hys]; exact hy⟩
      have I7 := I6.pinned (fp := [it])
        (fun b hb => by obtain rfl := List.mem_singleton.mp hb; exact fpo I6 n5)
        (fun b hb => by obtain rfl := List.mem_singleton.mp hb; exact ⟨oi, ho1, fun v z => by rw [ho3] at z; cases z⟩)
      have back : ∀ {σ' : L2.St} {s' : Shared} {H' : Hp}, wipe σ' (own.map (·.2)) = wipe σ (own.map (·.2)) →
          Inv (X.blk s3 H3 scope ce [it]) ([] ++ pinsAt [it] s7.heap) σ' H' s' → Nx H' →
          ∃ m, m < n ∧ ∃ i H', Inv (X.blk s3 H3 scope ce [it]) [] (wipe σ (own.map (·.2))) H' s' ∧ s'.heap.IsListIter it a i ∧ H' it = none ∧ W i m H' := fun {σ' s' H'} hw I' nx => by
        obtain ⟨m', hm, w'⟩ := hNx H' nx
        have hp := I'.pin (it, oi) (List.mem_append_right _ (List.mem_append_right _ (mem_pinsAt (List.mem_singleton.mpr rfl) ho1)))
        have hlen : (wipe σ (own.map (·.2))).length = σ'.length := by rw [← hw, wipe_length]
        refine ⟨m', hm, i + 1, H', (I'.unpinned (pins := [])).weak hlen (fun jj vv e => ?_), ⟨oi, hp.1, ho2, ho3⟩, hp.2.1, w'⟩
        rw [← hw] at e
        exact (wipe_some e).1
      refine thnF (pG.run _ s7 _ H5 y u _ I7 ru (step y H5 hyl)) fun _ s8 ⟨σ8, H8, I8, hw8, q8⟩ => ?_
      refine thnF (pT.run _ s8 σ8 H8 _ I8 q8) fun b s9 ⟨H9, I9, q9⟩ => ?_
      cases b with
      | false =>
        rw [if_neg (by decide)] at q9 ⊢
        exact back hw8 I9 q9
      | true =>
        rw [if_pos rfl] at q9 ⊢
        refine thnF (pE.run _ s9 σ8 H9 _ I9 q9) fun zv s10 ⟨yv, H10, I10, r10, acc, hD10, hz10, nx⟩ => ?_
        exact app_ok (X := X.blk s3 H3 scope ce [it]) I10 hD10 hz10 r10 fun s11 I11 => back hw8 I11 nx
  exact codeAny_compStart_list loop (wpAny_pyIter_listiter st4 loop)
theorem pe_lcHK {K : PySem.W.Frag} {elt tg iter : Expr} {ifs : List Expr} {scope : Scope} {own : List (Str × Nat)} {pos : Pos} {tl : TE} {g : TG} {tt : TT} {te : TE}
    (hK : X.K = K) (hot : HotCx X x1 o1) (hN : X.N.Nodup) (hi : PE X iter tl) (ok : BlkOk X.N X.env.scope scope own)
    (hg : ∀ (s : Shared) (H : Hp) (C : Addr) (cl : List (Str × Addr)) (fp : List Addr), PG (X.blk s H scope (compEnvC scope cl C X.env) fp) tg g)
    (ht : ∀ (s : Shared) (H : Hp) (C : Addr) (cl : List (Str × Addr)) (fp : List Addr), PTs (X.blk s H scope (compEnvC scope cl C X.env) fp) ifs tt)
    (he : ∀ (s : Shared) (H : Hp) (C : Addr) (cl : List (Str × Addr)) (fp : List Addr), PE (X.blk s H scope (compEnvC scope cl C X.env) fp) elt te)
    (hs : ∀ x, foldedSetIterable iter X.env x = pure x := by intro _; rfl) :
    PE X (.ListComp elt [⟨tg, iter, ifs, 0⟩] scope pos) (tLc (iList K tl) g tt te (own.map (·.2))) := hK ▸ pe_lcH hot hN hi ok hg ht he hs
theorem hot_suite {a : Addr} {oe : Obj} {cls : Value} {d : Option Addr} {pn : List (Addr × Obj)} (hz : L2N.Zn cls d oe) (hf : ∃ vs, oe.data = .fields vs) : HotCx (X.suite a ((a, oe) :: pn)) a oe :=
  ⟨rfl, List.mem_cons_self, hf.imp fun vs h => ⟨h, hz.2.2 vs h⟩⟩
end
theorem call_isGN {X : Cx} {K : PySem.W.Frag} {a : Addr} {oe : Obj} {cls : Value} {d : Option Addr} {pn : List (Addr × Obj)} (h : X.K = K) (hz : L2N.Zn cls d oe) (hf : ∃ vs, oe.data = .fields vs) : CallR (X.suite a ((a, oe) :: pn)) (.builtin "isinstance") (rIsG K cls d a) := call_isGK h hz.zc hf
theorem pmk_exc0N {X : Cx} {x : Str} {p pos : Pos} (c : (He.Fa.exc x).ok X.K = true) (gC : X.mg x = some (.ref (He.ga X.K x))) (hg : Gl X x) (hdb : (x == ("__debug__" : Str)) = false := by decide) :
    L2N.PMk X (.Call (.Name x p) [] [] pos) (fun _ H Q => Q (.ref (He.ga X.K x)) none H) := by
  obtain ⟨q, kC, s1, t1⟩ := He.exc_ok c
  intro pins s σ H Q I h
  refine wpAny_Call_Name_kw (ld_glob I hg gC ?_ hdb)
  refine PySem.W.callWith_K0 I.kIn kC ?_
  show wpAny _ _ (call (.ref (He.ga X.K x)) []) _ _ _
  obtain ⟨bm, N, nm, qn, bs, hdct, sn, sub, ab, col, dd, k0, k1, k2, k3, k5, mN, hC, hN, hni, T⟩ := exc_obj I.kIn q
  refine wpAny_call_exc_subT PySem.F.excBase_ValueError T hC hN hni (fun h' e hm => ?_) (by show 0 ≤ sizeLine; exact Nat.zero_le _)
  exact L2N.mk_of I hm (raises_own s1 t1) h (I.hok.gone hm.new)
theorem passLN {X : Cx} : Passes (L2N.CX X.prog X.w) X E0 := fun _ _ _ _ _ _ _ h => by
  obtain ⟨_, _, _, _, _, _, _, _, _, _, _, _, z⟩ := h
  exact z.elim
theorem takes0N {X : Cx} : L2N.Takes X (fun _ _ _ _ => False) := fun _ _ x => by
  obtain ⟨_, _, _, _, _, _, _, _, _, _, _, _, _, _, _, _, z⟩ := x
  exact z.elim
theorem walks_hot {prog : Program} {w : World} {A : Around} {x1 : Addr} {o1 : Obj} {vs1 : Array Value} (hh : A.handled = some (.ref x1)) (d1 : o1.data = .fields vs1) (c1 : vs1[2]? = some .none)
    (I ax : Addr) (hne : ax ≠ I) (hx : x1 ≠ I) (items : Array Value) :
    Walks prog w A I [I, ax, x1] [I] items.size (fun i v => items[i]? = some v) (fun i h => h.IsListIter I ax i ∧ h.IsList ax items ∧ h.get? x1 = some o1) where
  sub := fun b hb => by obtain rfl := List.mem_singleton.mp hb; exact List.mem_cons_self
  frame := fun _ _ _ st hk => ⟨st.1.at fun o e => hk I (by simp) o e, st.2.1.at fun o e => hk ax (by simp) o e, hk x1 (by simp) o1 st.2.2⟩
  item := fun i s Q E hi st hQ =>
    wpAny_pyNext_list_item st.1 st.2.1 (x := items[i]) (by simp [hi]) fun h' hit' sb =>
      hQ _ h' s.toks (by simp [hi]) ⟨hit', st.2.1.extBut sb.extBut hne, sb.extBut x1 o1 hx st.2.2⟩
        fun b o hb e => sb.extBut b o (fun z => hb (List.mem_singleton.mpr z)) e
  done := fun s Q E st hQ =>
    next_hot ⟨hh, o1, vs1, st.2.2, d1, c1⟩ hx st.1 st.2.1 (by simp) fun h' eb =>
      hQ h' s.toks fun b o hb e => eb b o (fun z => hb (List.mem_singleton.mpr z)) e
  self := fun _ _ _ _ st hQ => wpAny_pyIter_listiter st.1 hQ
theorem cr_sumH {X : Cx} {K : PySem.W.Frag} {x1 : Addr} {o1 : Obj} (hK : X.K = K) (hot : HotCx X x1 o1) : CallR X (.builtin "sum") (rSum K) := by
  subst hK
  intro pins s σ H vs us Q I r h
  obtain ⟨a, ns, rfl, hs, q⟩ := h
  obtain ⟨its, rv, hl, _⟩ := I.list hs
  rw [Vals.ref1 r]
  obtain ⟨xs, ei⟩ := rv.ints.allInts.items
  have hn : numsOf (intItems xs).toList = ns := by rw [← ei]; exact rv.ints.numsOf
  rw [nums_intItems] at hn
  have hli := hl.isList
  rw [ei] at hli
  obtain ⟨vs1, d1, c1⟩ := hot.ctx
  obtain ⟨px, _⟩ := I.pin (x1, o1) (List.mem_append_left _ hot.pin)
  have hlt := Heap.lt_size px
  refine call_sum_walkG (iter_intList hli fun s2 e st hfp hne => ?_)
  subst e
  have p2 := Heap.get?_push_of_some { cls := .type "list_iterator", data := .fields #[.ref a, .int 0 0] } px
  refine ⟨_, _, _, _, _, _, numAt xs, rfl, walks_hot (A := X.A.in1) hot.han d1 c1 _ a hne (Nat.ne_of_lt hlt) (intItems xs), ⟨st.1, st.2, p2⟩, fun b hb => ?_, fun _ _ => intItems_at, fun h' tk t' hk => ?_⟩
  · rcases List.mem_cons.mp hb with z | hb
    · exact hfp b (by rw [z]; simp)
    · rcases List.mem_cons.mp hb with z | hb
      · exact hfp b (by rw [z]; simp)
      · rw [List.mem_singleton.mp hb]; exact Heap.lt_size p2
  · have e : preSum (numAt xs) (intItems xs).size = ns.sum := by
      rw [preSum_eq, List.take_of_length_le (by simp [intItems]), hn]
    refine ⟨.int ns.sum, H, I.kept (t' := tk) fun b o eb => hk b o (fun z => ?_) (Heap.get?_push_of_some _ eb), ⟨t', by rw [e]⟩, q⟩
    exact absurd (List.mem_singleton.mp z) (Nat.ne_of_lt (Heap.lt_size eb))
end Lv

/-! {f(x): x for x in xs} over a list; list(d) of a dict keyed by ints; xs.extend(ys) -/
namespace Lv
open PySem PySem.Spec PyProof.Rows L2
/-- what stands there when the pairs are put behind each other -/
def PutOk (zs : List (Int × V)) (kvs : List (L2.Key × V)) : Prop := ∃ ns : List Int, kvs.map (·.1) = ns.map Sum.inl ∧ ns.Nodup ∧ (∀ k, k ∈ ns ↔ ∃ v, (k, v) ∈ zs) ∧ ∀ k ∈ ns, ∃ v, valV kvs (.inl k) = some v ∧ (k, v) ∈ zs
theorem PutOk.nil : PutOk [] [] := ⟨[], rfl, List.nodup_nil, fun k => ⟨fun h => (nomatch h), fun ⟨_, h⟩ => (nomatch h)⟩, fun k h => (nomatch h)⟩
theorem inl_mem {ns : List Int} {k : Int} : (Sum.inl k : L2.Key) ∈ ns.map Sum.inl ↔ k ∈ ns := by
  constructor
  · intro h
    obtain ⟨a, ha, e⟩ := List.mem_map.mp h
    injection e with e
    rw [← e]; exact ha
  · exact fun h => List.mem_map_of_mem h
theorem PutOk.add {zs : List (Int × V)} {kvs : List (L2.Key × V)} (h : PutOk zs kvs) (k : Int) (v : V) : PutOk (zs ++ [(k, v)]) (putK kvs (.inl k) v) := by
  obtain ⟨ns, h1, h2, h3, h4⟩ := h
  have hval : ∀ j, valV (putK kvs (.inl k) v) (.inl j) = if j = k then some v else valV kvs (.inl j) := fun j => by
    rw [valV_put]
    by_cases c : j = k
    · rw [if_pos c, if_pos (by rw [c])]
    · rw [if_neg c, if_neg fun e => c (Sum.inl.inj e)]
  by_cases m : k ∈ ns
  · refine ⟨ns, ?_, h2, fun j => ?_, fun j hj => ?_⟩
    · obtain ⟨u, hu, _⟩ := h4 k m
      have hk : (putK kvs (.inl k) v).map (·.1) = kvs.map (·.1) := by
        unfold putK
        rw [if_pos (by rw [valV_any, hu]; rfl), List.map_map]
        refine List.map_congr_left fun x _ => ?_
        show (if x.1 = Sum.inl k then (x.1, v) else x).1 = x.1
        split <;> rfl
      rw [hk, h1]
    · constructor
      · intro hj
        obtain ⟨u, hu⟩ := (h3 j).mp hj
        exact ⟨u, List.mem_append_left _ hu⟩
      · rintro ⟨u, hu⟩
        rcases List.mem_append.mp hu with hu | hu
        · exact (h3 j).mpr ⟨u, hu⟩
        · rw [List.mem_singleton] at hu
          injection hu with e1 e2
          rw [e1]; exact m
    · rw [hval]
      by_cases c : j = k
      · rw [if_pos c]
        exact ⟨v, rfl, List.mem_append_right _ (by rw [c]; exact List.mem_singleton_self _)⟩
      · rw [if_neg c]
        obtain ⟨u, q1, q2⟩ := h4 j hj
        exact ⟨u, q1, List.mem_append_left _ q2⟩
  · have hno : ∀ x ∈ kvs, x.1 ≠ Sum.inl k := fun x hx e => m (inl_mem.mp (by rw [← h1, ← e]; exact List.mem_map_of_mem hx))
    refine ⟨ns ++ [k], ?_, ?_, fun j => ?_, fun j hj => ?_⟩
    · rw [putK_keyv hno, List.map_append, h1, List.map_append]; rfl
    · refine List.nodup_append.mpr ⟨h2, List.nodup_cons.mpr ⟨fun h => (nomatch h), List.nodup_nil⟩, fun a ha b hb e => m ?_⟩
      rw [List.mem_singleton] at hb
      rw [← hb, ← e]; exact ha
    · rw [List.mem_append, List.mem_singleton, h3]
      constructor
      · rintro (⟨u, hu⟩ | rfl)
        · exact ⟨u, List.mem_append_left _ hu⟩
        · exact ⟨v, List.mem_append_right _ (List.mem_singleton_self _)⟩
      · rintro ⟨u, hu⟩
        rcases List.mem_append.mp hu with hu | hu
        · exact .inl ⟨u, hu⟩
        · rw [List.mem_singleton] at hu
          injection hu with e1 e2
          exact .inr e1
    · rw [hval]
      by_cases c : j = k
      · rw [if_pos c]
        exact ⟨v, rfl, List.mem_append_right _ (by rw [c]; exact List.mem_singleton_self _)⟩
      · rw [if_neg c]
        rcases List.mem_append.mp hj with hj | hj
        · obtain ⟨u, q1, q2⟩ := h4 j hj
          exact ⟨u, q1, List.mem_append_left _ q2⟩
        · exact absurd (List.mem_singleton.mp hj) c
theorem zip_take_more {ks : List Int} {xs : List V} {i : Nat} {k : Int} {x : V} (h1 : ks[i]? = some k) (h2 : xs[i]? = some x) : (ks.zip xs).take (i + 1) = (ks.zip xs).take i ++ [(k, x)] := take_more (List.getElem?_zip_eq_some.mpr ⟨h1, h2⟩)
section
variable {K : PySem.W.Frag} {σ : L2.St} {G P H : Hp} {Q : VK} {tt : TT} {ta tk tv : TE} {g : TG} {ts : List Nat} {a : Addr} {xs : List V} {ks : List Int} {j : Nat}
def aDcL (K : PySem.W.Frag) (g : TG) (tt : TT) (tk tv : TE) (vs : List Nat) (σ : L2.St) : V → Hp → VK → Prop := fun x H Q => tDc (fun _ H R => ∃ a, x = .ref a ∧ (∃ xs, SqL K H a xs) ∧ R (Itl K a) H) g tt tk tv vs σ H Q
theorem w_dcL (h : ta σ H fun x H1 => aDcL K g tt tk tv ts σ x H1 Q) : tDc (iList K ta) g tt tk tv ts σ H Q := h
/-- a dict of a list's things by a number of each -/
theorem aDcL.go (J : Join G P H) (hS : G a = some (.lst xs)) (hlk : ks.length = xs.length) (hl : xs.length ≤ 100000)
    (hw : ∀ x, wipe ((wipe σ ts).set j (some x)) ts = wipe σ ts)
    (hk : ∀ (i : Nat) (x : V) (k : Int) (H' : Hp) (S : VK), xs[i]? = some x → ks[i]? = some k → Ex H H' → S (.int k) H' → tk ((wipe σ ts).set j (some x)) H' S)
    (hv : ∀ (x : V) (H' : Hp) (S : VK), S x H' → tv ((wipe σ ts).set j (some x)) H' S)
    (hq : ∀ d G' H' kvs, H d = none → Ex G G' → Join G' P H' → G' d = some (.dK kvs) → PutOk (ks.zip xs) kvs → kvs.length ≤ xs.length → Q (.ref d) H') : aDcL K (gName j) tYes tk tv ts σ (.ref a) H Q := by
  refine ⟨a, rfl, ⟨_, sqL (J.g _ _ hS)⟩, fun D hD => ?_⟩
  have oth : ∀ {c : Addr} {o u : HO}, H c = some o → upd H D u c = some o := fun {c o u} h => by rw [upd_ne (ne_of_none h hD)]; exact h
  refine ⟨fun i m H' => m = xs.length - i ∧ i ≤ xs.length ∧ ∃ kvs, PutOk ((ks.zip xs).take i) kvs ∧ kvs.length ≤ i ∧ H' = upd H D (.dK kvs), ⟨xs.length, by simp, Nat.zero_le _, [], PutOk.nil, Nat.le_refl _, rfl⟩, ?_⟩
  rintro i m H' ⟨rfl, hi, kvs, hp, hle, rfl⟩
  by_cases hlt : i < xs.length
  · refine .inr ⟨⟨xs, xs[i], sqL (oth (J.g _ _ hS)), by simp [hlt]⟩, fun H2 => ∃ kvs, PutOk ((ks.zip xs).take (i + 1)) kvs ∧ kvs.length ≤ i + 1 ∧ H2 = upd H D (.dK kvs), fun H2 p => ⟨xs.length - (i + 1), by omega, rfl, by omega, p⟩, fun x H2 y => ?_⟩
    obtain ⟨rfl, y⟩ := y
    have hx : xs[i]? = some x := y xs (sqL (oth (J.g _ _ hS)))
    have hki : ks[i]? = some ks[i] := List.getElem?_eq_getElem (by omega)
    refine ⟨hw _, w_yes ?_⟩
    show tk _ _ _
    refine hk i x ks[i] _ _ hx hki (Ex.new hD) (hv x _ _ ?_)
    refine ⟨kvs, .inl ks[i], rfl, upd_same, szlt (by omega), _, (zip_take_more hki hx) ▸ hp.add ks[i] x, Nat.le_trans (length_putK _ _ _) (by omega), ?_⟩
    funext c
    by_cases hc : c = D
    · rw [hc, upd_same, upd_same]
    · rw [upd_ne hc, upd_ne hc, upd_ne hc]
  · have ei : i = xs.length := by omega
    subst ei
    refine .inl ⟨⟨xs, sqL (oth (J.g _ _ hS)), Nat.le_refl _⟩, ?_⟩
    rw [List.take_of_length_le (by rw [List.length_zip]; omega)] at hp
    exact hq D (upd G D _) _ kvs hD (Ex.new (J.ng hD)) (J.newG hD) upd_same hp hle
/-- list(d) -/
def rListDK : List V → Hp → VK → Prop := fun xs H Q => ∃ (a : Addr) (kvs : List (L2.Key × V)), xs = [.ref a] ∧ Rd H a (.dK kvs) ∧ ∀ p, H p = none → Q (.ref p) (upd H p (.lst (kvs.map fun kv => kV kv.1)))
theorem cr_listDK {X : Cx} (hc : X.calm = true) : CallR X (.type "list") rListDK := call_listD hc
theorem listDK_go {d : Addr} {kvs : List (L2.Key × V)} {ns : List Int} (J : Join G P H) (h : Rd H d (.dK kvs)) (hk : kvs.map (·.1) = ns.map Sum.inl)
    (q : ∀ p G' H', H p = none → Ex G G' → Join G' P H' → G' p = some (.lst (ns.map V.int)) → Q (.ref p) H') : rListDK [.ref d] H Q := by
  refine ⟨d, _, rfl, h, fun p hp => ?_⟩
  have e : (kvs.map fun kv => kV kv.1) = ns.map V.int := by
    have := congrArg (List.map kV) hk
    rw [List.map_map, List.map_map] at this
    exact this
  rw [e]
  exact q p _ _ hp (Ex.new (J.ng hp)) (J.newG hp) upd_same
theorem extP {l b : Addr} {xs zs : List V} (J : Join G P H) (e : P l = some (.lst xs)) (hb : H b = some (.lst zs)) (z : xs.length + zs.length < 100000) (q : ∀ H', Join G (upd P l (.lst (xs ++ zs))) H' → Q .non H') : rExtend (.ref l) [.ref b] H Q :=
  ⟨l, b, xs, zs, rfl, rfl, J.p _ _ e, hb, Nat.le_of_lt (szlt z), q _ (J.setP (J.gn e))⟩
end
end Lv

/-! for t in e, e a call that gives a dict keyed by tuples: it is locked where it stands, and stays so -/
namespace Lv
open PySem PySem.Spec PyProof.Rows L2
section
variable {X : Cx}
def iKeysF (td : TE) : TI := fun σ H R => td σ H fun x H1 => ∃ d kvs, x = .ref d ∧ H1 d = some (.dT kvs) ∧ ∀ o, R (Itkt d o kvs) (upd H1 d (.frz o (.dT kvs)))
theorem pi_keysF {tg e : Expr} {td : TE} (he : PE X e td) : PI X tg e (iKeysF td) := by
  refine ⟨fun pins s σ H R I h => ?_⟩
  refine thn (he.run pins s σ H _ I h) fun u s1 ⟨x, H1, I1, rx, d, kvs, ex, hd0, q⟩ => ?_
  subst ex
  obtain rfl : u = Value.ref d := rx
  obtain ⟨od, I2⟩ := I1.lock hd0 trivial
  have hd : (upd H1 d (.frz od (.dT kvs))) d = some (.frz od (.dT kvs)) := upd_same
  obtain ⟨hs, hgd, hx, es, ep, hdt, hsz, ent⟩ := I2.frzT hd
  refine iter_keys hs hgd hx hdt (pi_one (tk := s1.toks) I2 _ (turn_keysT _ hdt) ⟨_, Heap.get?_push_size _ rfl, rfl, ?_⟩ (q od))
  rw [hsz] <;> rfl
end
section
variable {σ : L2.St} {G P H : Hp} {nx : L2.St → Hp → Prop} {rt : VK} {bk ct : L2.St → Hp → Prop} {td : TE} {g : TG} {tb : TS} {d : Addr} {D : Ends}
def aForKF (g : TG) (tb : TS) (D : Ends) (σ : L2.St) : V → Hp → Prop := fun x H => tFor (fun _ H1 R => ∃ d kvs, x = .ref d ∧ H1 d = some (.dT kvs) ∧ ∀ o, R (Itkt d o kvs) (upd H1 d (.frz o (.dT kvs)))) g tb D σ H
theorem w_forKF (h : td σ H fun x H1 => aForKF g tb D σ x H1) : tFor (iKeysF td) g tb D σ H := h
theorem aForKF.go {kvs : List (List Int × V)} (J : Join G P H) (h : P d = some (.dT (tK kvs))) (I : Nat → Hp → Hp → L2.St → Prop) (h0 : ∀ od, I 0 G (upd P d (.frz od (.dT (tK kvs)))) σ)
    (hs : ∀ (od : Obj) (rt' : VK) (bk' : L2.St → Hp → Prop) (i : Nat) (k : List Int) (v : V) (b : Addr) (G' P' H' : Hp) (σ' : L2.St), kvs[i]? = some (k, v) → H' b = some (.tup (k.map V.int)) → P' d = some (.frz od (.dT (tK kvs))) → Join G' P' H' → I i G' P' σ' →
      g (.ref b) σ' H' fun σ2 H2 => tb ⟨fun σ3 H3 => ∃ G3 P3, Join G3 P3 H3 ∧ P3 d = some (.frz od (.dT (tK kvs))) ∧ I (i + 1) G3 P3 σ3, rt', bk', fun σ3 H3 => ∃ G3 P3, Join G3 P3 H3 ∧ P3 d = some (.frz od (.dT (tK kvs))) ∧ I (i + 1) G3 P3 σ3⟩ σ2 H2)
    (hq : ∀ (od : Obj) (G' P' H' : Hp) (σ' : L2.St), P' d = some (.frz od (.dT (tK kvs))) → I kvs.length G' P' σ' → Join G' P' H' → nx σ' H') : aForKF g tb ⟨nx, rt, bk, ct⟩ σ (.ref d) H := by
  refine ⟨d, tK kvs, rfl, J.p _ _ h, fun od => ?_⟩
  refine for_keysT (fun i σ' H' => ∃ G3 P3, Join G3 P3 H' ∧ P3 d = some (.frz od (.dT (tK kvs))) ∧ I i G3 P3 σ') ⟨G, _, J.setP (J.gn h), upd_same, h0 od⟩ (fun i σ' H' _ ⟨G', P', j', hd, _⟩ => j'.p _ _ hd) (fun i k v b σ' H' hk hb ⟨G', P', j', hd, hI⟩ => ?_) (fun σ' H' ⟨G', P', j', hd, hI⟩ => hq od G' P' _ σ' hd (by rw [tK_len] at hI; exact hI) j')
  obtain ⟨n, hn, rfl⟩ := tK_at hk
  exact hs od _ _ i n v b G' P' H' σ' hn (by rw [hb, tup_kV]) hd j' hI
end
end Lv

/-! {t: c for t in ts}, the keys tuples of ints, ts a tuple -/
namespace Lv
open PySem PySem.Spec PyProof.Rows L2
section
variable {X : Cx}
theorem dcG_core {pins : List (Addr × Obj)} {s : Shared} {σ : L2.St} {H : Hp} {Q : VK} {use : Option (Value → Sem Unit)} {Qf : Value → Shared → Prop} {pos' : Pos} {kx vx tg iter : Expr} {ifs : List Expr} {scope : Scope} {own : List (Str × Nat)} {pos : Pos} {wi : TI} {g : TG} {tt : TT} {tk tv : TE} {o0 : HO} (em : Emp o0) (hu : X.A.units + 1 < cLine) (hc : X.calm = true) (hN : X.N.Nodup) (hi : PI X tg iter wi) (ok : BlkOk X.N X.env.scope scope own)
    (hg : ∀ (s : Shared) (H : Hp) (C : Addr) (cl : List (Str × Addr)) (fp : List Addr), PG (X.blk s H scope (compEnvC scope cl C X.env) fp) tg g) (ht : ∀ (s : Shared) (H : Hp) (C : Addr) (cl : List (Str × Addr)) (fp : List Addr), PTs (X.blk s H scope (compEnvC scope cl C X.env) fp) ifs tt)
    (hk : ∀ (s : Shared) (H : Hp) (C : Addr) (cl : List (Str × Addr)) (fp : List Addr), PE (X.blk s H scope (compEnvC scope cl C X.env) fp) kx tk)
    (he : ∀ (s : Shared) (H : Hp) (C : Addr) (cl : List (Str × Addr)) (fp : List Addr), PE (X.blk s H scope (compEnvC scope cl C X.env) fp) vx tv) (hs : ∀ x, foldedSetIterable iter X.env x = pure x) (I : L2.Inv X pins σ H s) (h : tDcG o0 wi g tt tk tv (own.map (·.2)) σ H Q)
    (hRR : ∀ D C s' m H', L2.Inv X pins σ H' s' → Q (.ref D) H' → s'.heap.Ns C m → FpOk X pins H' C → compPost (model X.prog X.w) X.A X.xe use Qf (.ref D) C (.ok .next) s') :
    wpAny (model X.prog X.w) X.A (comprehension (.DictComp kx vx [⟨tg, iter, ifs, 0⟩] scope pos) scope X.env pos' newDict false (eval iter X.env) use) Qf X.xe s := by
  refine dc_frame (Q := Q) (R := fun J D H3 => ∃ W : Nat → Nat → Hp → Prop, (∃ m, W 0 m H3) ∧ ∀ i m H, W i m H →
    (J.stop i H ∧ Q (.ref D) H) ∨ (J.go i H ∧ ∃ Nx : Hp → Prop, (∀ H', Nx H' → ∃ m', m' < m ∧ W (i + 1) m' H') ∧ ∀ x H', J.yld i H x H' → g x (wipe σ (own.map fun p : Str × Nat => p.2)) H' fun σ2 H2 => wipe σ2 (own.map fun p : Str × Nat => p.2) = wipe σ (own.map fun p : Str × Nat => p.2) ∧ tt σ2 H2 fun b H3 =>
      if b = true then tk σ2 H3 fun y H4 => tv σ2 H4 fun z H5 => ∃ H6, DPut H5 D y z H6 ∧ Nx H6 else Nx H3)) hc hN em I hi ok hs h ?_ hRR
  · rintro J D fp it tn s3 H3 ce C cl s4 ⟨W, ⟨m0, w0⟩, turn⟩ ⟨rfl, T, I4, st4, nfp, stat⟩ hexit
    refine compLoop_anyD (fun n s' => ∃ i H', L2.Inv (X.blk s3 H3 scope (compEnvC scope cl C X.env) fp) [] (wipe σ (own.map (·.2))) H' s' ∧ tn i s'.heap ∧ (∀ b ∈ fp, H' b = none) ∧ W i n H') ?_ m0 ⟨0, H3, I4, st4, nfp, w0⟩
    rintro n s5 ⟨i, H5, I5, st5, n5, w5⟩
    rcases turn i n H5 w5 with ⟨stop, qq⟩ | ⟨go, Nx, hNx, step⟩
    · refine thnF (T.done (X.blk s3 H3 scope (compEnvC scope cl C X.env) fp) rfl rfl rfl hc i [] s5 _ H5 (fun _ _ => False) I5 (stat I5 n5) st5 stop) fun r s6 ⟨hr, I6⟩ => ?_
      subst hr
      exact hexit H5 s6 I6 qq
    · refine thnF (T.item (X.blk s3 H3 scope (compEnvC scope cl C X.env) fp) rfl rfl rfl hc i [] s5 _ H5 (fun _ _ => False) I5 (stat I5 n5) st5 go) fun r s6 ⟨u, hr, h6⟩ => ?_
      subst hr
      refine thnF h6 fun _ s7 ⟨x, H7, I7, r7, y7, st7, n7⟩ => ?_
      have I7' := I7.pinned (stat I7 n7) (T.obj _ _ st7)
      refine thnF ((hg _ _ _ _ _).run _ s7 _ H7 x u _ I7' r7 (step x H7 y7)) fun _ s8 ⟨σ8, H8, I8, hw8, q8⟩ => ?_
      refine thnF ((ht _ _ _ _ _).run _ s8 σ8 H8 _ I8 q8) fun b s9 ⟨H9, I9, q9⟩ => ?_
      have fin : ∀ {s' : Shared} {H' : Hp}, L2.Inv (X.blk s3 H3 scope (compEnvC scope cl C X.env) fp) ([] ++ pinsAt fp s7.heap) σ8 H' s' → Nx H' → ∃ m, m < n ∧ ∃ i H', L2.Inv (X.blk s3 H3 scope (compEnvC scope cl C X.env) fp) [] (wipe σ (own.map (·.2))) H' s' ∧ tn i s'.heap ∧ (∀ b ∈ fp, H' b = none) ∧ W i m H' := fun {s' H'} I' nx => by
        obtain ⟨m', hm, w'⟩ := hNx H' nx
        have pin' : ∀ b ∈ fp, ∀ o, s7.heap.get? b = some o → s'.heap.get? b = some o ∧ H' b = none := fun b hb o e =>
          let z := I'.pin (b, o) (List.mem_append_right _ (List.mem_append_right _ (mem_pinsAt hb e)))
          ⟨z.1, z.2.1⟩
        refine ⟨m', hm, i + 1, H', (I'.unpinned (pins := [])).weak (by rw [← hw8, wipe_length]) (fun j v e => by rw [← hw8] at e; exact (wipe_some e).1), T.keep _ _ _ st7 fun b hb o e => (pin' b hb o e).1, fun b hb => ?_, w'⟩
        obtain ⟨o, e, _⟩ := T.obj _ _ st7 b hb
        exact (pin' b hb o e).2
      cases b with
      | false =>
        simp only [Bool.false_eq_true, if_false] at q9 ⊢
        exact fin I9 q9
      | true =>
        simp only [if_true] at q9 ⊢
        refine thnF ((hk _ _ _ _ _).run _ s9 σ8 H9 _ I9 q9) fun z s10 ⟨yk, H10, I10, r10, q10⟩ => ?_
        refine thnF ((he _ _ _ _ _).run _ s10 σ8 H10 _ I10 q10) fun z2 s11 ⟨yv, H11, I11, r11, H12, dp, nx⟩ => ?_
        exact put_any (X := X.blk s3 H3 scope (compEnvC scope cl C X.env) fp) hu I11 dp r10 r11 fun s12 I12 => fin I12 nx
theorem ps_setDcG {i : Nat} {y : Str} {py spos : Pos} {kx vx tg iter : Expr} {ifs : List Expr} {scope : Scope} {own : List (Str × Nat)} {pos : Pos} {wi : TI} {g : TG} {tt : TT} {tk tv : TE} {o0 : HO} (em : Emp o0) (hu : X.A.units + 1 < cLine) (hc : X.calm = true) (hN : X.N.Nodup) (hy : X.N[i]? = some y) (hyl : X.env.scope.names.lookup y = some .local)
    (hsw : swapsWith (.DictComp kx vx [⟨tg, iter, ifs, 0⟩] scope pos) (some (.Name y py)) spos.line X.env = pure true) (hi : PI X tg iter wi) (ok : BlkOk X.N X.env.scope scope own)
    (hg : ∀ (s : Shared) (H : Hp) (C : Addr) (cl : List (Str × Addr)) (fp : List Addr), PG (X.blk s H scope (compEnvC scope cl C X.env) fp) tg g) (ht : ∀ (s : Shared) (H : Hp) (C : Addr) (cl : List (Str × Addr)) (fp : List Addr), PTs (X.blk s H scope (compEnvC scope cl C X.env) fp) ifs tt)
    (hk : ∀ (s : Shared) (H : Hp) (C : Addr) (cl : List (Str × Addr)) (fp : List Addr), PE (X.blk s H scope (compEnvC scope cl C X.env) fp) kx tk)
    (he : ∀ (s : Shared) (H : Hp) (C : Addr) (cl : List (Str × Addr)) (fp : List Addr), PE (X.blk s H scope (compEnvC scope cl C X.env) fp) vx tv) (hs : ∀ x, foldedSetIterable iter X.env x = pure x := by intro _; rfl) :
    PS X (.Assign [.Name y py] (.DictComp kx vx [⟨tg, iter, ifs, 0⟩] scope pos) spos) (tAsg (tDcG o0 wi g tt tk tv (own.map (·.2))) (gName i)) := by
  refine ⟨fun pins s σ H D I h => ?_⟩
  rw [exec_Assign_Name_used _ _ _ _ hsw]
  refine wpAny_bind (wpAny_standAt (wpAny_bind ?_))
  show wpAny _ X.A (do let _ ← comprehension (.DictComp kx vx [⟨tg, iter, ifs, 0⟩] scope pos) scope X.env (firstIterPos [⟨tg, iter, ifs, 0⟩] pos) newDict false (eval iter X.env) (some (assign (.Name y py) X.env))) _ _ s
  have h : tDcG o0 wi g tt tk tv (own.map (·.2)) σ H (fun x H1 => gName i x σ H1 D.nx) := h
  refine wpAny_bind (thn (dcG_core (Qf := fun _ s' => SP X pins D .next s') em hu hc hN hi ok hg ht hk he hs I h fun L C s' m H' I' q hn f => ?_) fun _ s' hq => wpAny_pure (wpAny_pure hq))
  show wpAny _ _ (assign (.Name y py) X.env (.ref L)) _ _ _
  refine wpAny_assign_Name (store_ok2 (v := V.ref L) I' hN hy (.inl hyl) rfl (fun s2 I2 ⟨a, sb, ha⟩ => ?_) (.inr hyl))
  obtain ⟨f0, f1, f2, f3, f4, f5⟩ := f
  have haC : C ≠ a := by
    rcases ha with z | z
    · rw [z]; exact f1
    · exact fun e => f4 y a z e.symm
  refine ⟨m, hn.sameBut sb haC, fun h3 sb3 => ?_⟩
  exact ⟨_, H', I2.turned (t' := s2.toks) (fun b o hb e => (sb3.2 b hb).trans e) f0 f1 f3 f4 f5, q⟩
end
def putAll (c : V) (acc : List (List Int × V)) (nss : List (List Int)) : List (List Int × V) := nss.foldl (fun acc k => putK acc k c) acc
theorem putAll_len (c : V) : ∀ (nss : List (List Int)) (acc : List (List Int × V)), (putAll c acc nss).length ≤ acc.length + nss.length
  | [], acc => Nat.le_refl _
  | n :: r, acc => by
    have h := putAll_len c r (putK acc n c)
    have k := length_putK acc n c
    show (putAll c (putK acc n c) r).length ≤ _
    rw [List.length_cons]; omega
theorem putAll_app (c : V) (acc : List (List Int × V)) (a b : List (List Int)) : putAll c acc (a ++ b) = putAll c (putAll c acc a) b := List.foldl_append
section
variable {K : PySem.W.Frag} {σ : L2.St} {G P H : Hp} {Q : VK} {tt : TT} {ta tk tv : TE} {g : TG} {ts : List Nat} {a : Addr} {xs : List V} {j : Nat} {o0 : HO} {c : V}
def aDcGT (K : PySem.W.Frag) (o0 : HO) (g : TG) (tt : TT) (tk tv : TE) (vs : List Nat) (σ : L2.St) : V → Hp → VK → Prop := fun x H Q => tDcG o0 (fun _ H R => ∃ a, x = .ref a ∧ (∃ xs, SqT K H a xs) ∧ R (Itt K a) H) g tt tk tv vs σ H Q
theorem w_dcGT (h : ta σ H fun x H1 => aDcGT K o0 g tt tk tv ts σ x H1 Q) : tDcG o0 (iTup K ta) g tt tk tv ts σ H Q := h
theorem aDcGT.go {nss : List (List Int)} (J : Join G P H) (nt : NT P) (hS : G a = some (.tup xs)) (hT : TupL iV G xs nss) (hl : xs.length ≤ 90000) (hw : ∀ x, wipe ((wipe σ ts).set j (some x)) ts = wipe σ ts)
    (hk : ∀ (x : V) (H' : Hp) (S : VK), S x H' → tk ((wipe σ ts).set j (some x)) H' S) (hv : ∀ (x : V) (H' : Hp) (S : VK), S c H' → tv ((wipe σ ts).set j (some x)) H' S)
    (hq : ∀ d P' H', H d = none → Ex P P' → Join G P' H' → NT P' → P' d = some (.dT (tK (putAll c [] nss))) → Q (.ref d) H') : aDcGT K (.dT []) (gName j) tYes tk tv ts σ (.ref a) H Q := by
  refine ⟨a, rfl, ⟨_, sqT (J.g _ _ hS)⟩, fun D hD => ?_⟩
  have pD : P D = none := J.np hD
  refine ⟨fun i m H' => m = xs.length - i ∧ i ≤ xs.length ∧ ∃ P', Ex P P' ∧ Join G P' H' ∧ NT P' ∧ P' D = some (.dT (tK (putAll c [] (nss.take i)))), ⟨xs.length, by simp, Nat.zero_le _, _, Ex.new pD, J.setP (J.ng hD), nt.upd fun _ e => (nomatch e), upd_same⟩, ?_⟩
  rintro i m H' ⟨rfl, hi, P', e, j', nt', hd⟩
  by_cases hlt : i < xs.length
  · refine .inr ⟨⟨xs, xs[i], sqT (j'.g _ _ hS), by simp [hlt]⟩, fun H2 => ∃ P', Ex P P' ∧ Join G P' H2 ∧ NT P' ∧ P' D = some (.dT (tK (putAll c [] (nss.take (i + 1))))), fun H2 p => ⟨xs.length - (i + 1), by omega, rfl, by omega, p⟩, fun x H2 y => ?_⟩
    obtain ⟨rfl, y⟩ := y
    have hx : xs[i]? = some x := y xs (sqT (j'.g _ _ hS))
    obtain ⟨ns, t, hns, rfl, ht⟩ := hT.get hx
    refine ⟨hw _, w_yes ?_⟩
    show tk _ _ _
    refine hk _ _ _ (hv _ _ _ ?_)
    refine ⟨_, DPut.t (k := ns.map Sum.inl) (j'.p _ _ hd) (by rw [tup_kV]; exact j'.g _ _ ht) (szlt ?_), _, ?_, j'.setP (j'.gn hd), nt'.upd fun _ e => (nomatch e), ?_⟩
    · rw [tK_len]
      have := putAll_len c (nss.take i) []
      rw [List.length_take] at this
      simp only [List.length_nil] at this
      omega
    · exact e.mut pD
    · rw [upd_same, tK_put, take_more hns, putAll_app]; rfl
  · have ei : i = xs.length := by omega
    subst ei
    rw [hT.1, List.take_length] at hd
    exact .inl ⟨⟨xs, sqT (j'.g _ _ hS), Nat.le_refl _⟩, hq D P' H' hD e j' nt' hd⟩
end
end Lv

/-! a thing of another kind == an object whose class has an own __eq__: the other side decides -/
namespace Lv
open PySem PySem.Spec PyProof.Rows PySem.SeqAt L2
open AutoSeq1 (wpAny_loadPart')
section
variable {C : Addr} {dx : Addr} {K : PySem.W.Frag}
theorem sub_step {M : Model} {A : Around} {E : Value → Shared → Prop} {s : Shared} {t : Value} {b : Bool} {Q : Bool → Shared → Prop} (X : K.In s.heap) (e : PySem.W.subIn K (.ref C) t = some b) (q : Q b s) : wpAny M A (isSubtype (.ref C) t) Q E s := (PySem.W.looks_subIn X e).here q
theorem none_own (m : Addr) : Gives (Builtin.«NoneType.__eq__» ⟨[.none, .ref m], []⟩) (.val (Value.notImplemented)) := NoneType___eq___none_ref_0 m
theorem int_own (b : Int) (u : Tok) (m : Addr) :
    Meets (Builtin.«int.__eq__» ⟨[.int b u, .ref m], []⟩) (fun _ R s => s.heap.get? m = some (PySem.W.instObj C dx) ∧ R (.ok (.ret .notImplemented)) s) :=
  .of_wp fun prog w A R s h => by obtain ⟨hp, g, d, tk, os⟩ := s; obtain ⟨hl, h⟩ := h; unfold PySem.W.instObj at hl; wp_walk using wpAny_loadPart' hl, wpAny_load hl; exact ⟨_, rfl, h⟩
theorem str_own (b : Str) (u : Tok) (m : Addr) :
    Meets (Builtin.«str.__eq__» ⟨[.str b u, .ref m], []⟩) (fun _ R s => s.heap.get? m = some (PySem.W.instObj C dx) ∧ R (.ok (.ret .notImplemented)) s) :=
  .of_wp fun prog w A R s h => by obtain ⟨hp, g, d, tk, os⟩ := s; obtain ⟨hl, h⟩ := h; unfold PySem.W.instObj at hl; wp_walk using wpAny_loadPart' hl, wpAny_load hl; exact ⟨_, rfl, h⟩
theorem tuple_own (hs : PySem.W.subIn K (.ref C) (.type "tuple") = some false) (l m : Addr) (items : Array Value) (n : Nat) (dd : Option Addr) (sl : Array (Option Value)) :
    Meets (Builtin.«tuple.__eq__» ⟨[.ref l, .ref m], []⟩) (fun _ R s => K.In s.heap ∧ s.heap.get? l = some { cls := .type "tuple", dict := dd, data := .seq items n, slots := sl } ∧ s.heap.get? m = some (PySem.W.instObj C dx) ∧ R (.ok (.ret .notImplemented)) s) :=
  .of_wp fun prog w A R s h => by obtain ⟨hp, g, d, tk, os⟩ := s; obtain ⟨X, hl, hm, h⟩ := h; unfold PySem.W.instObj at hm; wp_walk using wpAny_loadPart' hl, wpAny_loadPart' hm, wpAny_load hm, sub_step X hs; exact ⟨_, rfl, h⟩
theorem bool_own (b : Bool) (m : Addr) :
    Meets (Builtin.«int.__eq__» ⟨[.bool b, .ref m], []⟩) (fun _ R s => s.heap.get? m = some (PySem.W.instObj C dx) ∧ R (.ok (.ret .notImplemented)) s) :=
  .of_wp fun prog w A R s h => by obtain ⟨hp, g, d, tk, os⟩ := s; obtain ⟨hl, h⟩ := h; unfold PySem.W.instObj at hl; wp_walk using wpAny_loadPart' hl, wpAny_load hl; exact ⟨_, rfl, h⟩
theorem list_own (hs : PySem.W.subIn K (.ref C) (.type "list") = some false) (l m : Addr) (items : Array Value) (n : Nat) (dd : Option Addr) (sl : Array (Option Value)) :
    Meets (Builtin.«list.__eq__» ⟨[.ref l, .ref m], []⟩) (fun _ R s => K.In s.heap ∧ s.heap.get? l = some { cls := .type "list", dict := dd, data := .seq items n, slots := sl } ∧ s.heap.get? m = some (PySem.W.instObj C dx) ∧ R (.ok (.ret .notImplemented)) s) :=
  .of_wp fun prog w A R s h => by obtain ⟨hp, g, d, tk, os⟩ := s; obtain ⟨X, hl, hm, h⟩ := h; unfold PySem.W.instObj at hm; wp_walk using wpAny_loadPart' hl, wpAny_loadPart' hm, wpAny_load hm, sub_step X hs; exact ⟨_, rfl, h⟩
theorem dict_own (hs : PySem.W.subIn K (.ref C) (.type "dict") = some false) (l m : Addr) (o : Obj) (ho : o.cls = .type "dict") :
    Meets (Builtin.«dict.__eq__» ⟨[.ref l, .ref m], []⟩) (fun _ R s => K.In s.heap ∧ s.heap.get? l = some o ∧ s.heap.get? m = some (PySem.W.instObj C dx) ∧ R (.ok (.ret .notImplemented)) s) :=
  .of_wp fun prog w A R s h => by obtain ⟨hp, g, d, tk, os⟩ := s; obtain ⟨X, hl, hm, h⟩ := h; unfold PySem.W.instObj at hm; wp_walk using wpAny_loadPart' hl, wpAny_load hl, wpAny_loadPart' hm, wpAny_load hm, sub_step X hs; exact ⟨_, rfl, h⟩
end
section
variable {prog : Program} {w : World} {A : Around} {E : Value → Shared → Prop} {s : Shared} {K : PySem.W.Frag} {m C f : Addr} {ox : Obj} {od : Option Obj} {a : Value} {Ta ida : String}
theorem eq_back {Q : Value → Shared → Prop} (hu : A.units < cLine) (X : K.In s.heap) (I : PySem.W.InstAt s.heap m ox C od) (ha : s.TypeIs a Ta) (hsub : PySem.W.subIn K (.ref C) (.type Ta) = some false) (h1 : Slot Ta (cmpInfo .Eq).2.1 ida)
    (hc1 : ∀ Q' : Value → Shared → Prop, Q' .notImplemented s → wpAny (model prog w) A (call (.builtin ida) [a, .ref m]) Q' E s)
    (hs : PySem.W.findIn K (.ref C) "__eq__" = some (some (.ref f))) (hf : PySem.W.isFn K (.ref f) = true)
    (h : wpAny (model prog w) A (call (.ref f) [.ref m, a]) (PySem.W.CmpBack Q) E s) : wpAny (model prog w) A (richCompare .Eq a (.ref m)) Q E s := by
  rcases hi : cmpInfo CmpOp.Eq with ⟨sym, fn, r⟩
  have hr : r = "__eq__" := by
    have := congrArg (fun z : String × Str × Str => z.2.2) hi
    exact this.symm
  rw [hi] at h1
  simp only [richCompare, hi, ha.oneThing_none]
  refine wpAny_holding (wpAny_bind (wpAny_cRoomFor hu ?_))
  refine wpAny_bind (wpAny_typeOf ha (wpAny_bind (I.type.here ?_)))
  have hne : (Value.type Ta != Value.ref C) = true := rfl
  simp only [hne, if_true]
  refine wpAny_bind (sub_step X hsub ?_)
  simp only [Bool.false_eq_true, if_false, Bool.not_false, if_true]
  refine wpAny_bind (m := tryCompare a _ (.ref m)) (wpAny_tryCompare_declines ha h1 (hc1 _ ⟨rfl, ?_⟩))
  have one : wpAny (model prog w) A (tryCompare (.ref m) r a) (fun z s' => ∃ v, z = some v ∧ Q v s') E s := by
    unfold tryCompare
    subst hr
    refine wpAny_bind (PySem.W.ifBound_K X I hs hf (wpAny_mono h (fun v s' hv => ?_) fun _ _ e => e))
    cases v <;> first | exact hv.elim | exact wpAny_pure ⟨_, rfl, hv⟩
  refine wpAny_bind (wpAny_mono one (fun z s' hz => ?_) fun _ _ e => e)
  obtain ⟨v, rfl, hq⟩ := hz
  exact wpAny_pure hq
end
def subB (K : PySem.W.Frag) (c : Str) : Bool := kindN.all fun t => decide (PySem.W.subIn K (.ref (He.ga K c)) (.type t) = some false)
theorem subB_ok {K : PySem.W.Frag} {c : Str} (h : subB K c = true) : ∀ t ∈ kindN, PySem.W.subIn K (.ref (He.ga K c)) (.type t) = some false := fun t ht => of_decide_eq_true (List.all_eq_true.mp h t ht)
/-- x == y by the own __eq__ of y's class, x of another kind -/
def rEqR (K : PySem.W.Frag) (M f : Addr) (sp : Sp) (E : XK) : R2 := fun x y H Q => ∃ C a dx fs G, y = .ref a ∧ H a = some (.ins C dx fs) ∧ OwnE K C M f ∧ Ex G H ∧ Kd G x ∧ (∀ t ∈ kindN, PySem.W.subIn K (.ref C) (.type t) = some false) ∧ sp [y, x] H (fun v H' => ∃ c, v = .bl c ∧ Q (.bl c) H') E
section
variable {X : Cx} {CX : CXT} {M f : Addr} {fd : FuncData} {ps : List Str} {sp : Sp} {n : Nat} {E : XK}
theorem op_eqR (F : FnOk X.prog X.w X.K X.mg X.base CX n f fd ps sp) (hb : Binds X.K fd ps []) (hx : Passes CX X E) (hr : Room (n + 1) X.A) : OpR X (compareOp .Eq) (rEqR X.K M f sp E) := by
  intro pins s σ H x y v u Q I rx ry h
  obtain ⟨C, a, dx, fs, G, rfl, ha, ho, eG, hk, hsub, h⟩ := h
  cases (show u = Value.ref a from ry)
  obtain ⟨mA, J, _⟩ := ins_get I.hok ha
  have hobj := J.obj
  obtain ⟨od, J, _⟩ := J.look
  have hr' := hr.mono (Nat.le_succ n)
  show wpAny (model X.prog X.w) X.A (richCompare .Eq v (.ref a)) (EP X pins σ Q) X.xe s
  have hcall : wpAny (model X.prog X.w) X.A (call (.ref f) [.ref a, v]) (PySem.W.CmpBack (EP X pins σ Q)) X.xe s := by
    refine callOwn F hb hx hr' rfl I ry rx h fun z w H' s' I' rz hz => ?_
    obtain ⟨c, rfl, q⟩ := hz
    cases (show w = Value.bool c from rz)
    exact ⟨.bl c, H', I', rfl, q⟩
  cases hk with
  | int i =>
    obtain ⟨t, q⟩ := (show ∃ t, v = Value.int i t from rx)
    cases q
    exact eq_back hr'.units0 I.kIn J rfl (hsub _ (by decide)) PySem.F.slot_int_eq (fun _ hq => call_meets PySem.F.slot_int_eq rfl PySem.F.entry_int_eq (PySem.F.args_int_eq_2 _ _) (int_own i t a) ⟨hobj, hq⟩) ho.eq ho.fn hcall
  | bl b =>
    cases (show v = Value.bool b from rx)
    exact eq_back hr'.units0 I.kIn J rfl (hsub _ (by decide)) PySem.F.slot_bool_eq (fun _ hq => call_meets PySem.F.slot_bool_eq rfl PySem.F.entry_int_eq (PySem.F.args_int_eq_2 _ _) (bool_own b a) ⟨hobj, hq⟩) ho.eq ho.fn hcall
  | non =>
    cases (show v = Value.none from rx)
    exact eq_back hr'.units0 I.kIn J rfl (hsub _ (by decide)) PySem.F.slot_NoneType_eq (fun _ hq => call_gives PySem.F.slot_NoneType_eq rfl PySem.F.entry_NoneType_eq (PySem.F.args_NoneType_eq_2 _ _) (none_own a) hq) ho.eq ho.fn hcall
  | str z =>
    obtain ⟨t, q⟩ := (show ∃ t, v = Value.str z t from rx)
    cases q
    exact eq_back hr'.units0 I.kIn J rfl (hsub _ (by decide)) PySem.F.slot_str_eq (fun _ hq => call_meets PySem.F.slot_str_eq rfl PySem.F.entry_str_eq (PySem.F.args_str_eq_2 _ _) (str_own z t a) ⟨hobj, hq⟩) ho.eq ho.fn hcall
  | @lst b xs h1 =>
    cases (show v = Value.ref b from rx)
    obtain ⟨its, rv, ⟨⟨cls, dd, data, sls⟩, k, hob, hc, hdn, hdt⟩, hlen⟩ := I.list (sqL (K := X.K) (eG _ _ h1))
    simp only at hc hdt
    subst hc hdt
    exact eq_back hr'.units0 I.kIn J ⟨_, hob, rfl⟩ (hsub _ (by decide)) PySem.F.slot_list_eq (fun _ hq => call_meets PySem.F.slot_list_eq ⟨_, hob, rfl⟩ PySem.F.entry_list_eq (PySem.F.args_list_eq_2 _ _) (list_own (K := X.K) (hsub "list" (by decide)) b a _ _ _ _) ⟨I.kIn, hob, hobj, hq⟩) ho.eq ho.fn hcall
  | @tup b xs h1 =>
    cases (show v = Value.ref b from rx)
    obtain ⟨its, rv, p, hz⟩ := I.tuple (sqT (K := X.K) (eG _ _ h1))
    obtain ⟨⟨cls, dd, data, sls⟩, hob, hc, k, hdt⟩ := (show s.heap.IsTuple b its.toArray from p)
    simp only at hc hdt
    subst hc hdt
    exact eq_back hr'.units0 I.kIn J ⟨_, hob, rfl⟩ (hsub _ (by decide)) PySem.F.slot_tuple_eq (fun _ hq => call_meets PySem.F.slot_tuple_eq ⟨_, hob, rfl⟩ PySem.F.entry_tuple_eq (PySem.F.args_tuple_eq_2 _ _) (tuple_own (K := X.K) (hsub "tuple" (by decide)) b a _ _ _ _) ⟨I.kIn, hob, hobj, hq⟩) ho.eq ho.fn hcall
  | @dic b kvs h1 =>
    cases (show v = Value.ref b from rx)
    obtain ⟨_, _, vs, _, o, es, ep, hob, h2, _⟩ := (show ObjOk X.prog X.w H s.heap b (.dK kvs) from I.hok b _ (eG _ _ h1))
    exact eq_back hr'.units0 I.kIn J ⟨_, hob, h2.1⟩ (hsub _ (by decide)) PySem.F.slot_dict_eq (fun _ hq => call_meets PySem.F.slot_dict_eq ⟨_, hob, h2.1⟩ PySem.F.entry_dict_eq (PySem.F.args_dict_eq_2 _ _) (dict_own (K := X.K) (hsub "dict" (by decide)) b a o h2.1) ⟨I.kIn, hob, hobj, hq⟩) ho.eq ho.fn hcall
end
end Lv

/-! t.index(x) of a tuple of tuples, xs[lo::k], range(i, j, k) -/
namespace Lv
open PySem PySem.Spec PyProof.Rows PySem.SeqAt L2
def rIndexU : V → List V → Hp → VK → Prop := fun x xs H Q => ∃ (a t : Addr) (vs : List V) (nss : List (List Int)) (ns : List Int), x = .ref a ∧ xs = [.ref t] ∧ Rd H a (.tup vs) ∧ TupL iV H vs nss ∧ H t = some (.tup (iV ns)) ∧ ns ∈ nss ∧ ∃ j : Nat, nss[j]? = some ns ∧ (∀ i, i < j → nss[i]? ≠ some ns) ∧ Q (.int (j : Nat)) H
theorem idx_at {α : Type} [DecidableEq α] {a : α} : ∀ {l : List α} {j : Nat}, l[j]? = some a → (∀ i, i < j → l[i]? ≠ some a) → l.idxOf a = j
  | [], j, h, _ => by simp at h
  | b :: l, 0, h, _ => by
    have : b = a := by simpa using h
    subst this
    exact List.idxOf_cons_self
  | b :: l, j + 1, h, hn => by
    have hb : b ≠ a := fun e => hn 0 (by omega) (by simp [e])
    have ih := idx_at (l := l) (j := j) (by simpa using h) fun i hi => by
      have := hn (i + 1) (by omega)
      simpa using this
    have hb2 : (b == a) = false := by simpa using hb
    rw [List.idxOf_cons, hb2, ih]; rfl
section
variable {X : Cx}
theorem mt_indexU (hu : X.A.units + 65 < cLine) : MtR X "tuple.index" rIndexU := by
  intro pins s σ H x xs v us Q I rx rxs h
  obtain ⟨a, t, vs, nss, ns, rfl, rfl, ha, hT, ht, hm, jx, hj1, hj2, q⟩ := h
  cases rx
  cases rxs with
  | cons ry rt =>
    rename_i uy ut
    cases rt
    obtain ⟨bs, r1⟩ := Dp.reads I (dT ns) (.ref t) uy (dp_tup (K := X.K) ht) ry
    have hl : Dp X.K H (.ref a) (.tuple (nss.map dT)) := .tup (.inl ha) (dp_all nss vs hT)
    have sl : SeqAt.shaped (.tuple (nss.map dT)) = true := shaped_dU nss
    have sd : SeqAt.shaped (dT ns) = true := shaped_dT ns
    cases hl with
    | tup hs ha2 =>
      obtain ⟨its, rv, p, hz⟩ := I.tuple hs
      obtain ⟨as, h4⟩ := Dp.readsAll I _ _ its ha2 rv
      have hxs : PyData.canLayAll0 (nss.map dT) = true := SeqAt.canLay_of_shaped sl
      have hn : its.length = nss.length := by
        have := SeqAt.ReadsAll.length _ its as h4
        rw [List.length_map] at this
        exact this
      have hmap : its.map (SeqAt.readOf s.heap) = nss.map dT := SeqAt.readsAll_map _ its as hxs h4
      have hroom : X.A.units + 1 + min (PyData.depthAll (nss.map dT)) (dT ns).depth < cLine := room_in_shaped sd hu
      refine call_tuple_index (vs := its) (ks := nss) (k := ns) p ⟨hn, fun j h1 h2 => ?_⟩ hm (by rw [idx_at hj1 hj2]; exact ⟨.int (jx : Nat), H, I.tok _, ⟨s.toks, rfl⟩, q⟩)
      have e1 := SeqAt.items_eqAt (A := X.A) (vs := its.toArray) (show ReadsAll s.heap its.toArray.toList (nss.map dT) as from h4) r1 hxs (SeqAt.canLay_of_shaped sd) hroom its[j] (by simp)
      refine e1.cast ?_
      have e2 : SeqAt.readOf s.heap its[j] = dT nss[j] := by
        have h3 : (its.map (SeqAt.readOf s.heap))[j]? = (nss.map dT)[j]? := by rw [hmap]
        rw [List.getElem?_map, List.getElem?_map, List.getElem?_eq_getElem h1, List.getElem?_eq_getElem h2] at h3
        exact Option.some.inj h3
      rw [e2, eqv_dT]
/-- tuple(l) of a list, the tuple held as it stands -/
def rTupF (K : PySem.W.Frag) : List V → Hp → VK → Prop := fun xs H Q => ∃ l ys, xs = [.ref l] ∧ SqL K H l ys ∧ ∀ p o, H p = none → o.dict = none → o.cls = .type "tuple" → Q (.ref p) (upd H p (.frz o (.tup ys)))
theorem call_tupleF : CallR X (.type "tuple") (rTupF X.K) := by
  intro pins s σ H xs us Q I r h
  obtain ⟨p, ys, rfl, hq, q⟩ := h
  obtain ⟨u, rfl, rx⟩ := vals1 r
  cases rx
  obtain ⟨its, r', pl, hz⟩ := I.list hq
  have hlen := r'.length
  refine call_tuple_list pl.isList (fun h' kp => ?_) (by simp only [List.size_toArray] <;> omega)
  have I1 : Inv X pins σ H { s with heap := h' } := I.kept (t' := s.toks) kp
  have I2 : Inv X pins σ (upd H h'.objs.size (.frz { cls := .type "tuple", data := .seq its.toArray } (.tup ys))) { s with heap := h'.push { cls := .type "tuple", data := .seq its.toArray } } :=
    I1.laid (t' := s.toks) (fun b o e => Heap.get?_push_of_some _ e) (Nat.le_refl _) (show ObjOk X.prog X.w _ _ _ (.frz _ (.tup ys)) from ⟨Heap.get?_push_size _ rfl, hz, its, r', IsTup.new _ _⟩)
  exact ⟨.ref h'.objs.size, _, I2, rfl, q _ _ (I1.hok.fresh (Nat.le_refl _)) rfl rfl⟩
def tBMU (K : PySem.W.Frag) (r : V → List V → Hp → VK → Prop) (to : TE) (t : TA) : TE := fun σ H Q => to σ H fun x H1 => (∃ a o xs, x = .ref a ∧ H1 a = some (.frz o (.tup xs)) ∧ o.dict = none ∧ o.cls = .type "tuple") ∧ t σ H1 fun xs H2 => r x xs H2 Q
theorem pe_bmU {o e : Expr} {es : List Expr} {to : TE} {t : TA} {name : Str} {apos cpos : Pos} {id : String} {r : V → List V → Hp → VK → Prop} (pa : PlainAttrs "tuple") (slot : Slot "tuple" name id) (hty : typeOf (.builtin id) = pure (.type "method_descriptor")) (hm : MtR X id r) (ho : PE X o to) (ha : PA X (e :: es) t)
    (hbase : attributeBase o name X.env (eval o X.env) = eval o X.env := by rfl)
    (hfew : ((backTo cpos (starEach (e :: es) X.env)).all (fun x => !x.1) && (backToKw cpos (keywordEach [] X.env)).all (fun x => x.1.isSome)
      && decide ((e :: es).length + ([] : List Keyword).length + (if ([] : List Keyword).isEmpty then 0 else 1) < 30)) = true := by rfl)
    (hline : (apos.endLine == cpos.line) = true := by rfl) (hs : starEach (e :: es) X.env = (false, eval e X.env) :: starEach es X.env := by rfl) (hplain : (backTo cpos (starEach es X.env)).any (·.1) = false := by rfl) :
    PE X (.Call (.Attribute o name apos) (e :: es) [] cpos) (tBMU X.K r to t) := by
  refine ⟨fun pins s σ H Q I h => ?_⟩
  refine wpAny_Call_method_late hbase hfew hline rfl (thn (ho.run pins s σ H _ I h) fun v s1 ⟨x, H1, I1, r1, ⟨a, ob, xs, ex, hq, h3, h2⟩, q1⟩ => ?_)
  subst ex
  cases r1
  obtain ⟨h1, _⟩ := (show ObjOk X.prog X.w H1 s1.heap a (.frz ob (.tup xs)) from I1.hok a _ hq)
  refine ⟨"tuple", id, pa, slot, hty, ⟨ob, h1, h2⟩, fun b e => ?_, ?_⟩
  · cases e
    exact ⟨ob, h1, h3⟩
  have hA := ha.run cpos pins s1 σ H1 _ I1 q1
  rw [hs] at hA ⊢
  refine Calls.callWith_builtin (by show (false || (backTo cpos (starEach es X.env)).any (·.1)) = false; rw [hplain] <;> rfl) (Calls.evalArgs_plain ?_)
  exact thn hA fun us s2 ⟨vs, H2, I2, r2, q2⟩ => hm pins s2 σ H2 (.ref a) vs (.ref a) us Q I2 rfl r2 q2
/-- xs[lo::k] -/
def pickS (xs : List V) (lo k : Nat) : List V := (List.range ((xs.length - lo + k - 1) / k)).filterMap fun i => xs[lo + k * i]?
theorem sliceR_eq {lo k n : Nat} (hk : 1 ≤ k) : sliceRange (sliceBounds (some (lo : Int)) none (some (k : Int)) n).1 (sliceBounds (some (lo : Int)) none (some (k : Int)) n).2.1 (sliceBounds (some (lo : Int)) none (some (k : Int)) n).2.2 = (List.range ((n - lo + k - 1) / k)).map fun i => min lo n + k * i := by
  have h1 : sliceBounds (some (lo : Int)) none (some (k : Int)) n = (((min lo n : Nat) : Int), (n : Int), (k : Int)) := by
    unfold sliceBounds
    have hp : (k : Int) > 0 := by omega
    have h0 : ¬ ((lo : Int) < 0) := by omega
    simp only [Option.getD_some, hp, if_true, h0, if_false]
    have : max 0 (min (lo : Int) (n : Int)) = ((min lo n : Nat) : Int) := by omega
    rw [this]
  rw [h1]
  unfold sliceRange
  have hp : (k : Int) > 0 := by omega
  simp only [hp, if_true]
  by_cases hl : lo < n
  · have hm : min lo n = lo := by omega
    rw [hm, if_pos (by omega)]
    have hc : (((n : Int) - (lo : Int) + (k : Int) - 1) / (k : Int)).toNat = (n - lo + k - 1) / k := by
      have e : (n : Int) - (lo : Int) + (k : Int) - 1 = ((n - lo + k - 1 : Nat) : Int) := by omega
      rw [e, ← Int.natCast_ediv, Int.toNat_natCast]
    rw [hc]
    refine List.map_congr_left fun i _ => ?_
    have : (lo : Int) + (k : Int) * (i : Int) = ((lo + k * i : Nat) : Int) := by simp
    rw [this, Int.toNat_natCast]
  · have hm : min lo n = n := by omega
    rw [hm, if_neg (by omega)]
    have h0 : n - lo = 0 := by omega
    rw [h0, Nat.zero_add, Nat.div_eq_of_lt (by omega)]; rfl
theorem pick_eq {xs : List V} {lo k : Nat} (hk : 1 ≤ k) : (sliceRange (sliceBounds (some (lo : Int)) none (some (k : Int)) xs.length).1 (sliceBounds (some (lo : Int)) none (some (k : Int)) xs.length).2.1 (sliceBounds (some (lo : Int)) none (some (k : Int)) xs.length).2.2).filterMap (xs[·]?) = pickS xs lo k := by
  rw [sliceR_eq hk]
  unfold pickS
  rw [List.filterMap_map]
  by_cases hl : lo < xs.length
  · have hm : min lo xs.length = lo := by omega
    rw [hm]; rfl
  · have h0 : xs.length - lo = 0 := by omega
    rw [h0, Nat.zero_add, Nat.div_eq_of_lt (by omega)]; rfl
def rStepLo (K : PySem.W.Frag) : V → Option Int → Option Int → Hp → VK → Prop := fun x o o' H Q => ∃ (a : Addr) (xs : List V) (lo k : Nat), x = .ref a ∧ o = some (lo : Int) ∧ o' = some (k : Int) ∧ 1 ≤ k ∧ SqL K H a xs ∧ ∀ p, H p = none → Q (.ref p) (upd H p (.lst (pickS xs lo k)))
def tStepLo (K : PySem.W.Frag) (te : TE) (tl th : TO) : TE := fun σ H Q => te σ H fun x H1 => tl σ H1 fun o H2 => th σ H2 fun o' H3 => rStepLo K x o o' H3 Q
theorem pe_stepLo {e g f : Expr} {te : TE} {tl th : TO} {p3 pos : Pos} (he : PE X e te) (hg : PO X (some g) tl) (hf : PO X (some f) th) (hsub : ∀ (v w : Value), subscripted (.Slice (some g) none (some f) p3) false v w = operate [v, w] (getItem v w) := by intro v w; with_unfolding_all rfl) : PE X (.Subscript e (.Slice (some g) none (some f) p3) pos) (tStepLo X.K te tl th) := by
  refine ⟨fun pins s σ H Q I h => ?_⟩
  refine Subscript_ (thn (he.run pins s σ H _ I h) fun v s1 ⟨x, H1, I1, r1, q1⟩ => ?_)
  refine wpAny_Slice (thn (hg.run pins s1 σ H1 _ I1 q1) fun vl s2 ⟨l, H2, I2, pl, q2⟩ => ?_)
  refine thn (po_none.run pins s2 σ H2 (fun o H3 => o = none ∧ H3 = H2) I2 ⟨rfl, rfl⟩) fun vu s3 ⟨u, H3, I3, pu, eu, e3⟩ => ?_
  subst eu e3
  refine thn (hf.run pins s3 σ H3 _ I3 q2) fun vs s4 ⟨o, H4, I4, ps, q2⟩ => ?_
  obtain ⟨a, xs, lo, k, ex, el, eo, hk, hx, q⟩ := q2
  subst ex el eo
  cases r1
  have I5 : Inv X pins σ H4 { s4 with heap := s4.heap.push { cls := .type "slice", data := .fields #[vl, vu, vs] } } := I4.kept (t' := s4.toks) fun b ob q => Heap.get?_push_of_some _ q
  obtain ⟨its, r, ht, hz⟩ := I5.list hx
  have hlen := r.length
  show wpAny (model X.prog X.w) X.A (subscriptTail e (.Slice (some g) none (some f) p3) (.ref a) (.ref s4.heap.objs.size)) (EP X pins σ Q) X.xe { s4 with heap := s4.heap.push { cls := .type "slice", data := .fields #[vl, vu, vs] } }
  refine tail_any (ops := [.ref a, .ref s4.heap.objs.size]) ht.isList.typeIs (PySem.slot_list_getitem.lookup) ?_ (hsub _ _)
  refine wpAny_getItem_list_slice ht.isList (Heap.IsSliceOf.new _ vl vu vs) pl pu ps (by intro h; injection h with h; omega) ?_ (by rw [List.size_toArray]; omega)
  have hs : its.toArray.size = xs.length := by rw [List.size_toArray]; omega
  have e1 : slicePick its.toArray (some (lo : Int)) none (some (k : Int)) = ((sliceRange (sliceBounds (some (lo : Int)) none (some (k : Int)) xs.length).1 (sliceBounds (some (lo : Int)) none (some (k : Int)) xs.length).2.1 (sliceBounds (some (lo : Int)) none (some (k : Int)) xs.length).2.2).filterMap (its[·]?)).toArray := by
    unfold slicePick
    rw [hs]
    simp only [List.getElem?_toArray]
  have hle := slicePick_size_le its.toArray (some (lo : Int)) none (some (k : Int))
  rw [e1] at hle ⊢
  have r2 := Vals_pick r (sliceRange (sliceBounds (some (lo : Int)) none (some (k : Int)) xs.length).1 (sliceBounds (some (lo : Int)) none (some (k : Int)) xs.length).2.1 (sliceBounds (some (lo : Int)) none (some (k : Int)) xs.length).2.2)
  have hl2 := r2.length
  simp only [List.size_toArray] at hle
  have q1 := q s4.heap.objs.size (I4.hok.fresh (Nat.le_refl _))
  rw [pick_eq hk] at r2 hl2
  refine ⟨.ref _, _, I5.laid (t' := s4.toks) (o := .lst (pickS xs lo k)) (fun b ob q => Heap.get?_push_of_some _ q) (Nat.le_refl _) ?_, rfl, q _ (I5.hok.fresh (Nat.le_refl _))⟩
  exact ⟨by omega, _, 0, r2, Heap.get?_push_size _ rfl⟩
end
section
variable {K : PySem.W.Frag} {σ : L2.St} {H : Hp} {Q : VK} {te : TE} {tl th : TO}
theorem w_stepLo (h : te σ H fun x H1 => tl σ H1 fun o H2 => th σ H2 fun o' H3 => rStepLo K x o o' H3 Q) : tStepLo K te tl th σ H Q := h
theorem stepLo_go {G P : Hp} {a : Addr} {xs : List V} {lo k : Nat} (J : Join G P H) (h : G a = some (.lst xs)) (hk : 1 ≤ k) (q : ∀ p G' H', H p = none → Ex G G' → Join G' P H' → G' p = some (.lst (pickS xs lo k)) → Q (.ref p) H') : rStepLo K (.ref a) (some (lo : Int)) (some (k : Int)) H Q :=
  ⟨a, xs, lo, k, rfl, rfl, rfl, hk, sqL (J.g _ _ h), fun p hp => q p _ _ hp (Ex.new (J.ng hp)) (J.newG hp) upd_same⟩
end
section
variable {K : PySem.W.Frag} {σ : L2.St} {H : Hp} {Q : VK} {to : TE} {t : TA} {r : V → List V → Hp → VK → Prop}
def aBMU (K : PySem.W.Frag) (r : V → List V → Hp → VK → Prop) (t : TA) (σ : L2.St) : V → Hp → VK → Prop := fun x H Q => (∃ a o xs, x = .ref a ∧ H a = some (.frz o (.tup xs)) ∧ o.dict = none ∧ o.cls = .type "tuple") ∧ t σ H fun xs H2 => r x xs H2 Q
theorem w_bmu (h : to σ H fun x H1 => aBMU K r t σ x H1 Q) : tBMU K r to t σ H Q := h
theorem w_bmut {a : Addr} {o : Obj} {xs : List V} (e : H a = some (.frz o (.tup xs))) (h1 : o.dict = none) (h2 : o.cls = .type "tuple") (h : t σ H fun vs H2 => r (.ref a) vs H2 Q) : aBMU K r t σ (.ref a) H Q := ⟨⟨a, o, xs, rfl, e, h1, h2⟩, h⟩
theorem indexU_go {G P : Hp} {a t : Addr} {vs : List V} {nss : List (List Int)} {ns : List Int} {j : Nat} (J : Join G P H) (ha : Rd H a (.tup vs)) (hT : TupL iV G vs nss) (ht : G t = some (.tup (iV ns))) (hj : nss[j]? = some ns) (hn : ∀ i, i < j → nss[i]? ≠ some ns) (q : Q (.int (j : Nat)) H) : rIndexU (.ref a) [.ref t] H Q :=
  ⟨a, t, vs, nss, ns, rfl, rfl, ha, hT.monoJ J, J.g _ _ ht, List.mem_of_getElem? hj, j, hj, hn, q⟩
end
section
variable {K : PySem.W.Frag} {H : Hp} {Q : VK}
def FrT (G : Hp) (a : Addr) (xs : List V) : Prop := ∃ o : Obj, G a = some (.frz o (.tup xs)) ∧ o.dict = none ∧ o.cls = .type "tuple"
theorem FrT.mono {G G' : Hp} {a : Addr} {xs : List V} (e : Ex G G') (h : FrT G a xs) : FrT G' a xs := by
  obtain ⟨o, h1, h2⟩ := h
  exact ⟨o, e _ _ h1, h2⟩
theorem FrT.rd {G : Hp} {a : Addr} {xs : List V} (h : FrT G a xs) : Rd G a (.tup xs) := by
  obtain ⟨o, h1, h2⟩ := h
  exact .inr ⟨o, h1⟩
theorem FrT.len {a : Addr} {xs : List V} (e : FrT H a xs) (q : Q (.int xs.length) H) : rLenV K [.ref a] H Q := ⟨_, _, rfl, .inr ⟨xs, .inl e.rd, rfl⟩, q⟩
theorem FrT.bm {σ : L2.St} {t : TA} {r : V → List V → Hp → VK → Prop} {a : Addr} {xs : List V} (e : FrT H a xs) (h : t σ H fun vs H2 => r (.ref a) vs H2 Q) : aBMU K r t σ (.ref a) H Q := by
  obtain ⟨o, h1, h2, h3⟩ := e
  exact w_bmut h1 h2 h3 h
def aTupF (K : PySem.W.Frag) : List V → Hp → VK → Prop := fun xs H Q => rTupF K xs H Q
theorem w_tupF {σ : L2.St} {as : TA} (h : as σ H fun vs H1 => aTupF K vs H1 Q) : tCB (rTupF K) as σ H Q := h
theorem aTupF.go {G P : Hp} {p : Addr} {ws : List V} (J : Join G P H) (h : G p = some (.lst ws)) (q : ∀ t G' H', H t = none → Ex G G' → Join G' P H' → FrT G' t ws → Q (.ref t) H') : aTupF K [.ref p] H Q :=
  ⟨p, ws, rfl, sqL (J.g _ _ h), fun t o ht h1 h2 => q t _ _ ht (Ex.new (J.ng ht)) (J.newG ht) ⟨o, upd_same, h1, h2⟩⟩
theorem neD_F {G P : Hp} {a b : Addr} {vs ws : List V} {ls ms : List (List Int)} (J : Join G P H) (ha : G a = some (.tup vs)) (hv : TupL iV G vs ls) (hb : FrT G b ws) (hw : TupL iV G ws ms) (q : Q (.bl (!decide (ls = ms))) H) : rNeD K (.ref a) (.ref b) H Q :=
  ⟨_, _, dp_tt (J.g _ _ ha) (hv.monoJ J), .tup (.inl (hb.mono J.exG).rd) (dp_all ms ws (hw.monoJ J)), shaped_dU ls, shaped_dU ms, by rw [show PyData.eqv (dU ls) (PyData.tuple (ms.map dT)) = decide (ls = ms) from eqv_dU ls ms]; exact q⟩
end
/-! for in range(i, j, k) -/
section
variable {σ : L2.St} {H : Hp} {nx bk ct : L2.St → Hp → Prop} {rt : VK} {D : Ends} {g : TG} {as : TA}
def aForR3 (g : TG) (tb : TS) (D : Ends) (σ : L2.St) : List V → Hp → Prop := fun vs H => tFor (fun _ H R => ∃ (i j c : Int) (n : Nat), vs = [.int i, .int j, .int c] ∧ RgC i j c n ∧ R (Itc i c n) H) g tb D σ H
theorem w_forR3 {tb : TS} (h : as σ H fun vs H1 => aForR3 g tb D σ vs H1) : tFor (iRng3 as) g tb D σ H := h
theorem rangeSize_up {N k : Nat} (hk : 1 ≤ k) : Builtin.Range.rangeSize 0 (N : Int) (k : Int) = (((N + k - 1) / k : Nat) : Int) := by
  unfold Builtin.Range.rangeSize
  have hp : (k : Int) > 0 := by omega
  simp only [hp, if_true]
  by_cases h : 0 < N
  · rw [if_pos (by omega)]
    have e : (N : Int) - 0 - 1 = ((N - 1 : Nat) : Int) := by omega
    rw [e, ← Int.natCast_ediv, show N + k - 1 = (N - 1) + k by omega, Nat.add_div_right _ (by omega)]
    simp
  · have h0 : N = 0 := by omega
    subst h0
    rw [if_neg (by simp), Nat.zero_add, Nat.div_eq_of_lt (by omega)]; rfl
theorem aForR3.go {tb : TS} {G P : Hp} {N k n : Nat} (hN : N ≤ 1000000) (hk : 1 ≤ k) (hk2 : k ≤ 1000000) (hn : n = (N + k - 1) / k) (I : Nat → Hp → Hp → L2.St → Prop) (J : Join G P H) (h0 : I 0 G P σ)
    (hs : ∀ (i : Nat) (G' P' H' : Hp) (σ' : L2.St), i < n → Join G' P' H' → I i G' P' σ' → g (.int ((i * k : Nat) : Int)) σ' H' fun σ2 H2 => tb ⟨fun σ3 H3 => ∃ G3 P3, Join G3 P3 H3 ∧ I (i + 1) G3 P3 σ3, rt, nx, fun σ3 H3 => ∃ G3 P3, Join G3 P3 H3 ∧ I (i + 1) G3 P3 σ3⟩ σ2 H2)
    (hq : ∀ (G' P' H' : Hp) (σ' : L2.St), Join G' P' H' → I n G' P' σ' → nx σ' H') : aForR3 g tb ⟨nx, rt, bk, ct⟩ σ [.int 0, .int (N : Int), .int (k : Int)] H := by
  refine ⟨0, N, k, n, rfl, ⟨by omega, by omega, ?_, ?_⟩, for_rangeC (fun i σ' H' => ∃ G3 P3, Join G3 P3 H' ∧ I i G3 P3 σ') ⟨G, P, J, h0⟩ (fun i σ' H' hi ⟨G', P', J', hI⟩ => ?_) fun σ' H' ⟨G', P', J', hI⟩ => hq G' P' H' σ' J' hI⟩
  · unfold Builtin.Range.small
    rw [rangeSize_up hk]
    have hle : (N + k - 1) / k ≤ N + k - 1 := Nat.div_le_self _ _
    have hp : (k : Int) > 0 := by omega
    simp only [Builtin.Range.rangeFitsLong, Bool.and_eq_true, Bool.or_eq_true, decide_eq_true_eq, beq_iff_eq, hp, if_true]
    generalize (N + k - 1) / k = q at hle
    omega
  · rw [rangeSize_up hk, hn]
  · have h := hs i G' P' H' σ' hi J' hI
    have e : (0 : Int) + (i : Nat) * (k : Int) = ((i * k : Nat) : Int) := by simp
    rw [e]
    exact h
end
end Lv

/-! a test that is a conditional expression -/
namespace Lv
open PySem PySem.Spec PyProof.Rows L2
def tIfB (tc ta tb : TT) : TT := fun σ H Q => tc σ H fun c H1 => if c = true then ta σ H1 Q else tb σ H1 Q
section
variable {X : Cx} {c a b : Expr} {pos : Pos} {tc ta tb : TT}
theorem pt_ifExp (hc : PT X c tc) (ha : PT X a ta) (hb : PT X b tb) : PT X (.IfExp c a b pos) (tIfB tc ta tb) := by
  refine ⟨fun pins s σ H Q I h => ?_⟩
  rw [arm_isTrue_IfExp]
  refine wpAny_bind (thn (hc.run pins s σ H _ I h) fun d s1 ⟨H1, I1, q1⟩ => ?_)
  cases d with
  | true => exact ha.run pins s1 σ H1 Q I1 q1
  | false => exact hb.run pins s1 σ H1 Q I1 q1
end
section
variable {σ : L2.St} {H : Hp} {tc ta tb : TT} {Q : Bool → Hp → Prop}
theorem w_ifB (h : tc σ H fun c H1 => if c = true then ta σ H1 Q else tb σ H1 Q) : tIfB tc ta tb σ H Q := h
end
end Lv

/-! a hook that gathers the addresses level by level, each once, by the bits of one number -/
namespace Lv
open PySem PySem.Spec PyProof.Rows L2
def seeR (st : Nat × List Addr) (r : Addr) : Nat × List Addr := match Nat.land (Nat.shiftRight st.1 r) 1 with
  | 0 => (Nat.lor st.1 (Nat.shiftLeft 1 r), r :: st.2)
  | _ => st
def seeO (g : Addr → Option Obj) (st : Nat × List Addr) (a : Addr) : Nat × List Addr := match g a with
  | some o => (He.refsD o).foldl seeR st
  | none => st
/-- the next levels; seen, what stands ahead, all so far -/
def goW (g : Addr → Option Obj) : Nat → Nat → List Addr → List Addr → List Addr
  | 0, _, _, all => all
  | n + 1, seen, fr, all => match fr.foldl (seeO g) (seen, []) with
    | (seen', fr') => goW g n seen' fr'.reverse (all ++ fr'.reverse)
def asW (n : Nat) (g : Addr → Option Obj) : List Addr := goW g n (Nat.shiftLeft 1 mainGlobals) [mainGlobals] [mainGlobals] ++ [cStatics]
def obsW (n : Nat) (fa : List He.Fa) (fn : List He.DefD) (ex : PySem.W.Frag → Bool) (g : Addr → Option Obj) : He.AlX := (He.obsT fa fn [] (He.frT g (asW n g)), ex (He.frT g (asW n g)))
theorem saysW_of {n : Nat} {fa : List He.Fa} {fn : List He.DefD} {ex : PySem.W.Frag → Bool} {w : World} {h : Heap} (e : obsW n fa fn ex h.get? = He.valX fn [] w) : He.SaysX fa fn [] [] ex w h (He.frT h.get? (asW n h.get?)) :=
  ⟨congrArg (fun z : He.AlX => z.1) e, congrArg (fun z : He.AlX => z.2) e, fun p hp => absurd hp (by simp), fun p hp => absurd hp (by simp), fun p hp => absurd hp (by simp)⟩
def hookW (n : Nat) (fa : List He.Fa) (fn : List He.DefD) (ex : PySem.W.Frag → Bool) : PySem.W.Hook where
  α := He.AlX
  obs := fun s => obsW n fa fn ex s.heap.get?
  val := fun w => He.valX fn [] w
  says := fun w h => ∃ K : PySem.W.Frag, K.In h ∧ He.SaysX fa fn [] [] ex w h K
  of := fun _ _ e => ⟨_, He.frT_in, saysW_of e⟩
  keeps := fun _ _ _ ⟨K, hK, c⟩ k => ⟨K, PySem.W.Frag.In.keeps hK k, ⟨c.t, c.more, c.hd, c.out, fun p hp => k _ _ (c.empty p hp)⟩⟩
theorem obsW_eq {n : Nat} {fa : List He.Fa} {fn : List He.DefD} {ex : PySem.W.Frag → Bool} {g : Addr → Option Obj} {s : Shared} (h : ∀ a, g a = s.heap.get? a) : obsW n fa fn ex g = (hookW n fa fn ex).obs s := by
  have e : g = s.heap.get? := funext h
  rw [e] <;> rfl
end Lv

/-! a thing that may be a dict != a tuple -/
namespace Lv
open PySem PySem.Spec PyProof.Rows PySem.SeqAt L2
open AutoSeq1 (wpAny_loadPart')
theorem dict_ne_tup (l b : Addr) (items2 : Array Value) (o : Obj) (ho : o.cls = .type "dict") (n2 : Nat) (dd2 : Option Addr) (sl2 : Array (Option Value)) :
    Meets (Builtin.«dict.__ne__» ⟨[.ref l, .ref b], []⟩) (fun _ R s => s.heap.get? l = some o ∧ s.heap.get? b = some { cls := .type "tuple", dict := dd2, data := .seq items2 n2, slots := sl2 } ∧ R (.ok (.ret .notImplemented)) s) :=
  .of_wp fun prog w A R s h => by obtain ⟨hp, g, d, tk, os⟩ := s; obtain ⟨hl, hb, h⟩ := h; have f1 := F.sub_tuple_dict; wp_walk using wpAny_loadPart' hl, wpAny_load hl, wpAny_loadPart' hb, wpAny_load hb; exact ⟨_, rfl, h⟩
theorem tup_ne_dict (b l : Addr) (items2 : Array Value) (o : Obj) (ho : o.cls = .type "dict") (n2 : Nat) (dd2 : Option Addr) (sl2 : Array (Option Value)) :
    Meets (Builtin.«tuple.__ne__» ⟨[.ref b, .ref l], []⟩) (fun _ R s => s.heap.get? l = some o ∧ s.heap.get? b = some { cls := .type "tuple", dict := dd2, data := .seq items2 n2, slots := sl2 } ∧ R (.ok (.ret .notImplemented)) s) :=
  .of_wp fun prog w A R s h => by obtain ⟨hp, g, d, tk, os⟩ := s; obtain ⟨cls, dd, data, sl⟩ := o; simp only at ho; subst ho; obtain ⟨hl, hb, h⟩ := h; have f1 := F.sub_dict_tuple; wp_walk using wpAny_loadPart' hl, wpAny_load hl, wpAny_loadPart' hb, wpAny_load hb; exact ⟨_, rfl, h⟩
def rNeX (K : PySem.W.Frag) : R2 := fun x y H Q => rNeD K x y H Q ∨ ∃ a b ks ys, x = .ref a ∧ y = .ref b ∧ a ≠ b ∧ H a = some (.dK ks) ∧ SqT K H b ys ∧ Q (.bl true) H
section
variable {X : Cx}
theorem op_neX (hu : X.A.units + 64 < cLine) : OpR X (compareOp .NotEq) (rNeX X.K) := by
  intro pins s σ H x y v u Q I rx ry h
  rcases h with h | ⟨a, b, ks, ys, rfl, rfl, nab, ha, hb, q⟩
  · exact op_neD hu pins s σ H x y v u Q I rx ry h
  cases (show v = Value.ref a from rx)
  cases (show u = Value.ref b from ry)
  obtain ⟨_, _, vs, _, o, es, ep, hob, h2, _⟩ := (show ObjOk X.prog X.w H s.heap a (.dK ks) from I.hok a _ ha)
  obtain ⟨its, rv, p, hz⟩ := I.tuple hb
  obtain ⟨⟨cls, dd, data, sls⟩, hob2, hc, k, hdt⟩ := (show s.heap.IsTuple b its.toArray from p)
  simp only at hc hdt
  subst hc hdt
  show wpAny (model X.prog X.w) X.A (richCompare .NotEq (.ref a) (.ref b)) (EP X pins σ Q) X.xe s
  exact rc_ne_decline_or (k := false) ⟨_, hob, h2.1⟩ ⟨_, hob2, rfl⟩ (by decide) F.sub_tuple_dict F.slot_dict_ne F.slot_tuple_ne_refl
    (fun _ hq => call_meets F.slot_dict_ne ⟨_, hob, h2.1⟩ F.entry_dict_ne (F.args_dict_ne_2 _ _) (dict_ne_tup a b _ o h2.1 _ _ _) ⟨hob, hob2, hq⟩)
    (fun _ hq => call_meets F.slot_tuple_ne_refl ⟨_, hob2, rfl⟩ F.entry_tuple_ne (F.args_tuple_ne_2 _ _) (tup_ne_dict b a _ o h2.1 _ _ _) ⟨hob, hob2, hq⟩)
    (fun _ hq => wpAny_isSame_ref_other nab hob hob2 (by rw [h2.1]; simp) hq) (.inr (by omega)) ⟨.bl true, H, I, rfl, q⟩
theorem op_neXK {K : PySem.W.Frag} (h : X.K = K) (hu : X.A.units + 64 < cLine) : OpR X (compareOp .NotEq) (rNeX K) := h ▸ op_neX hu
end
end Lv

local macro_rules | `(tactic| walk_at "w") => `(tactic| (repeat first | ((with_reducible apply Lv.w_seq)) | ((with_reducible apply Lv.w_var); (focus (exact rfl))) | ((with_reducible apply Lv.w_op)) | ((with_reducible apply Lv.w_c)) | ((with_reducible apply Lv.w_cons)) | ((with_reducible apply Lv.w_nil)) | ((with_reducible apply Lv.w_rI0)) | ((with_reducible apply Lv.w_asg)) | ((with_reducible apply Lv.w_name)) | ((with_reducible apply Lv.w_call)) | ((with_reducible apply Lv.w_callS)) | ((with_reducible apply Lv.w_tof)) | ((with_reducible apply Lv.w_lof)) | ((with_reducible apply Lv.w_abs)) | ((with_reducible apply Lv.w_int1)) | ((with_reducible apply Lv.w_lenv)) | ((with_reducible apply Lv.w_lens)) | ((with_reducible apply Lv.w_lend)) | ((with_reducible apply Lv.w_min2)) | ((with_reducible apply Lv.w_max2)) | ((with_reducible apply Lv.w_rmin)) | ((with_reducible apply Lv.w_rmax)) | ((with_reducible apply Lv.w_cb)) | ((with_reducible apply Lv.w_rabs)) | ((with_reducible apply Lv.w_rint)) | ((with_reducible apply Lv.w_rintb)) | ((with_reducible apply Lv.w_rlenT); (focus (first | assumption | (exact Lv.Join.g (by assumption) _ _ (by assumption)) | (exact Lv.Join.p (by assumption) _ _ (by assumption))))) | ((with_reducible apply Lv.w_rlenL); (focus (first | assumption | (exact Lv.Join.g (by assumption) _ _ (by assumption)) | (exact Lv.Join.p (by assumption) _ _ (by assumption))))) | ((with_reducible apply Lv.w_slenT); (focus (first | assumption | (exact Lv.Join.g (by assumption) _ _ (by assumption)) | (exact Lv.Join.p (by assumption) _ _ (by assumption))))) | ((with_reducible apply Lv.w_slenL); (focus (first | assumption | (exact Lv.Join.g (by assumption) _ _ (by assumption)) | (exact Lv.Join.p (by assumption) _ _ (by assumption))))) | ((with_reducible apply Lv.w_klenT); (focus (first | assumption | (exact Lv.Join.g (by assumption) _ _ (by assumption)) | (exact Lv.Join.p (by assumption) _ _ (by assumption))))) | ((with_reducible apply Lv.w_klenL); (focus (first | assumption | (exact Lv.Join.g (by assumption) _ _ (by assumption)) | (exact Lv.Join.p (by assumption) _ _ (by assumption))))) | ((with_reducible apply Lv.w_bm)) | ((with_reducible apply Lv.w_bm0)) | ((with_reducible apply Lv.w_bml); (focus (first | assumption | (exact Lv.Join.g (by assumption) _ _ (by assumption)) | (exact Lv.Join.p (by assumption) _ _ (by assumption))))) | ((with_reducible apply Lv.w_tup)) | ((with_reducible apply Lv.w_lst)) | ((with_reducible apply Lv.w_fld)) | ((with_reducible apply Lv.w_un)) | ((with_reducible apply Lv.w_rU)) | ((with_reducible apply Lv.w_ret)) | ((with_reducible apply Lv.w_retN)) | ((with_reducible apply Lv.w_next)) | ((with_reducible apply Lv.w_drop)) | ((with_reducible apply Lv.w_ifS)) | ((with_reducible apply Lv.w_gcons); (focus (exact rfl))) | ((with_reducible apply Lv.w_gnil); (focus (exact rfl))) | ((with_reducible apply Lv.w_gtup); (focus (first | assumption | (exact Lv.Join.g (by assumption) _ _ (by assumption)) | (exact Lv.Join.p (by assumption) _ _ (by assumption)))); (focus (exact rfl))) | ((with_reducible apply Lv.w_eq); (focus (exact rfl))) | ((with_reducible apply Lv.w_ne); (focus (exact rfl))) | ((with_reducible apply Lv.w_tB)) | ((with_reducible apply Lv.w_test)) | ((with_reducible apply Lv.w_bl)) | ((with_reducible apply Lv.w_and)) | ((with_reducible apply Lv.w_or)) | ((with_reducible apply Lv.w_not)) | ((with_reducible apply Lv.w_andV)) | ((with_reducible apply Lv.w_orV)) | ((with_reducible apply Lv.w_notV)) | ((with_reducible apply Lv.w_ifT)) | ((with_reducible apply Lv.w_ifF)) | ((with_reducible apply Lv.w_ifNT)) | ((with_reducible apply Lv.w_ifNF)) | ((with_reducible apply Lv.w_yes)) | ((with_reducible apply Lv.w_ixT); (focus (first | assumption | (exact Lv.Join.g (by assumption) _ _ (by assumption)) | (exact Lv.Join.p (by assumption) _ _ (by assumption)))); (focus (exact rfl))) | ((with_reducible apply Lv.w_aug); (focus (exact rfl))) | ((with_reducible apply Lv.w_rAdd)) | ((with_reducible apply Lv.w_rSub)) | ((with_reducible apply Lv.w_lcL)) | ((with_reducible apply Lv.w_lcT)) | ((with_reducible apply Lv.w_lcR)) | ((with_reducible apply Lv.w_sl)) | ((with_reducible apply Lv.w_npart)) | ((with_reducible apply Lv.w_part)) | ((with_reducible apply Lv.w_pint)) | ((with_reducible apply Lv.w_forR)) | ((with_reducible apply Lv.w_forR2)) | ((with_reducible apply Lv.w_din)) | ((with_reducible apply Lv.w_dnotin)) | ((with_reducible apply Lv.w_dcT)) | ((with_reducible apply Lv.w_dcL)) | ((with_reducible apply Lv.w_dcGT)) | ((with_reducible apply Lv.w_bmu)) | ((with_reducible apply Lv.w_tupF)) | ((with_reducible apply Lv.w_forR3)) | ((with_reducible apply Lv.w_stepLo)) | ((with_reducible apply Lv.w_ifB)) | ((with_reducible apply Lv.w_forKF)) | ((with_reducible apply Lv.w_turn)) | ((with_reducible apply Lv.w_revT)) | ((with_reducible apply Lv.w_dnew)) | ((with_reducible apply Lv.w_tupRg)) | ((with_reducible apply Lv.w_chain)) | ((with_reducible apply Lv.w_lstRg)) | ((with_reducible apply Lv.w_rg1)) | ((with_reducible apply Lv.w_par)) | ((with_reducible apply Lv.w_apar)) | ((with_reducible apply Lv.w_lcR2)) | ((with_reducible apply Lv.w_lcE)) | ((with_reducible apply Lv.w_isB)) | ((with_reducible apply Lv.w_isNB)) | ((with_reducible apply Lv.w_forL)) | ((with_reducible apply Lv.w_forT)) | ((with_reducible apply Lv.w_brk)) | ((with_reducible apply Lv.w_cont)) | ((with_reducible apply Lv.w_meth)) | ((with_reducible apply Lv.w_make)) | ((with_reducible apply Lv.w_ip)) | ((with_reducible apply Lv.w_sfld)) | ((with_reducible apply Lv.w_isN)) | ((with_reducible apply Lv.w_addB)) | ((with_reducible apply Lv.w_stepL)) | ((with_reducible apply Lv.w_lstRgW)) | ((with_reducible apply Lv.w_rg2)) | ((with_reducible apply Lv.w_rg2')) | ((with_reducible apply Lv.w_dget2)) | ((with_reducible apply Lv.w_dsetd)) | ((with_reducible apply Lv.w_revL)) | ((with_reducible apply Lv.w_dput)) | ((with_reducible apply Lv.w_mkx)) | ((with_reducible apply Lv.w_glst); (focus (first | assumption | (exact Lv.Join.g (by assumption) _ _ (by assumption)) | (exact Lv.Join.p (by assumption) _ _ (by assumption)))); (focus (exact rfl))) | ((with_reducible apply Lv.w_dnewT)) | ((with_reducible apply Lv.w_dgetI)) | ((with_reducible apply Lv.w_dcR)) | ((with_reducible apply Lv.w_forE)) | ((with_reducible apply Lv.w_makeS)) | ((with_reducible apply Lv.w_forS)) | ((with_reducible apply Lv.w_lcS)) | ((with_reducible apply Lv.w_forES)) | ((with_reducible apply Lv.w_dc2L))))
namespace X
open PySem PySem.Spec PyProof.Rows L2 Lv
def top (i : Nat) : Stmt := PySem.Challenge.pw_neverleapt_k69_mends_judged.main.body.getD i (.Pass ⟨0, 0, 0, 0⟩)
abbrev s_is_integer : Stmt := top 10
abbrev s_is_within : Stmt := top 11
abbrev s_is_from : Stmt := top 12
abbrev s_is_pair : Stmt := top 13
abbrev s_is_ascending : Stmt := top 14
abbrev s_common_divisor : Stmt := top 15
abbrev s_lowest : Stmt := top 16
abbrev s_is_share : Stmt := top 17
abbrev s_check_share : Stmt := top 18
abbrev s_check_way : Stmt := top 19
abbrev s_is_less : Stmt := top 20
abbrev s_has_leapt : Stmt := top 21
abbrev s_is_event : Stmt := top 27
abbrev s_step_at : Stmt := top 30
abbrev s_struck_of : Stmt := top 32
abbrev s_check_events : Stmt := top 33
abbrev s_struck : Stmt := top 34
abbrev s_flooded : Stmt := top 36
abbrev s_reached_of : Stmt := top 37
abbrev s_knots_of : Stmt := top 38
abbrev s_inner_events : Stmt := top 39
abbrev s_hangs_together : Stmt := top 40
abbrev s_lift_of : Stmt := top 42
abbrev s_heights : Stmt := top 43
abbrev s_differences : Stmt := top 44
abbrev s_measure_of : Stmt := top 45
abbrev s_some_ring : Stmt := top 46
abbrev s_share_of : Stmt := top 47
abbrev s_ring_beyond : Stmt := top 48
abbrev s_led_round : Stmt := top 49
abbrev s_end_ring : Stmt := top 50
abbrev s_ends_of : Stmt := top 51
abbrev s_balanced : Stmt := top 52
abbrev s_is_rising : Stmt := top 56
abbrev s_keyed : Stmt := top 57
abbrev s_is_round : Stmt := top 58
abbrev s_least_step : Stmt := top 59
abbrev s_least_high : Stmt := top 60
abbrev s_greatest_low : Stmt := top 61
abbrev s_raw_lot : Stmt := top 64
abbrev s_empty_lot : Stmt := top 65
abbrev s_has : Stmt := top 66
abbrev s_moved_rests : Stmt := top 67
abbrev s_moved_of : Stmt := top 68
abbrev s_mirrored_of : Stmt := top 69
abbrev s_next_above_of : Stmt := top 70
abbrev s_next_below_of : Stmt := top 71
abbrev s_common_step : Stmt := top 76
abbrev s_listed_members : Stmt := top 77
abbrev s_united : Stmt := top 78
abbrev s_height_lifts : Stmt := top 79
abbrev s_values_still : Stmt := top 80
abbrev s_endless_rests : Stmt := top 81
abbrev s_rests_of : Stmt := top 82
abbrev s_values_both : Stmt := top 83
abbrev s_least_ways : Stmt := top 84
abbrev s_rise_of : Stmt := top 85
abbrev s_begun : Stmt := top 86
abbrev s_spread_whole : Stmt := top 87
abbrev s_spread_least : Stmt := top 88
abbrev s_risen_lot : Stmt := top 89
abbrev s_values_rising : Stmt := top 90
abbrev s_values_in : Stmt := top 91
abbrev s_ordered_knots : Stmt := top 92
abbrev s_values_of : Stmt := top 93
abbrev s_leap_from : Stmt := top 94
abbrev s_rule_of : Stmt := top 96
abbrev s_leaping_events : Stmt := top 97
abbrev s_never_by : Stmt := top 98
abbrev s_never : Stmt := top 99
abbrev s_mends : Stmt := top 101
abbrev s_is_mend : Stmt := top 102
abbrev s_l_pot : Stmt := top 104
abbrev s_l_draw : Stmt := top 105
abbrev s_l_mixed : Stmt := top 106
abbrev s_l_parts : Stmt := top 107
abbrev s_l_gcd : Stmt := top 108
abbrev s_l_low : Stmt := top 109
abbrev s_l_share : Stmt := top 110
abbrev s_l_lot : Stmt := top 111
abbrev s_law : Stmt := top 112
abbrev s_BadMachine_init : Stmt := inClass (top 2) 0
abbrev s_TooMany_init : Stmt := inClass (top 3) 0
abbrev s_BadLot_init : Stmt := inClass (top 4) 0
abbrev s_Machine_init : Stmt := inClass (top 28) 0
abbrev s_Machine_keep : Stmt := inClass (top 28) 1
abbrev s_Machine_eq : Stmt := inClass (top 28) 2
abbrev s_RawMachine_init : Stmt := inClass (top 29) 0
abbrev s_Lot_init : Stmt := inClass (top 62) 0
abbrev s_Lot_keep : Stmt := inClass (top 62) 1
abbrev s_Lot_told : Stmt := inClass (top 62) 2
abbrev s_Lot_eq : Stmt := inClass (top 62) 3
abbrev s_RawLot_init : Stmt := inClass (top 63) 0
def dd0 : He.DefD := ⟨("is_integer", none), "is_integer", "is_integer", defArgs s_is_integer, defBody s_is_integer, defScope s_is_integer, [], []⟩
def dd1 : He.DefD := ⟨("is_within", none), "is_within", "is_within", defArgs s_is_within, defBody s_is_within, defScope s_is_within, [], []⟩
def dd2 : He.DefD := ⟨("is_from", none), "is_from", "is_from", defArgs s_is_from, defBody s_is_from, defScope s_is_from, [], []⟩
def dd3 : He.DefD := ⟨("is_pair", none), "is_pair", "is_pair", defArgs s_is_pair, defBody s_is_pair, defScope s_is_pair, [], []⟩
def dd4 : He.DefD := ⟨("is_ascending", none), "is_ascending", "is_ascending", defArgs s_is_ascending, defBody s_is_ascending, defScope s_is_ascending, [], []⟩
def dd5 : He.DefD := ⟨("common_divisor", none), "common_divisor", "common_divisor", defArgs s_common_divisor, defBody s_common_divisor, defScope s_common_divisor, [], []⟩
def dd6 : He.DefD := ⟨("lowest", none), "lowest", "lowest", defArgs s_lowest, defBody s_lowest, defScope s_lowest, [], []⟩
def dd7 : He.DefD := ⟨("is_share", none), "is_share", "is_share", defArgs s_is_share, defBody s_is_share, defScope s_is_share, [], []⟩
def dd8 : He.DefD := ⟨("check_share", none), "check_share", "check_share", defArgs s_check_share, defBody s_check_share, defScope s_check_share, [], []⟩
def dd9 : He.DefD := ⟨("check_way", none), "check_way", "check_way", defArgs s_check_way, defBody s_check_way, defScope s_check_way, [], []⟩
def dd10 : He.DefD := ⟨("is_less", none), "is_less", "is_less", defArgs s_is_less, defBody s_is_less, defScope s_is_less, [], []⟩
def dd11 : He.DefD := ⟨("has_leapt", none), "has_leapt", "has_leapt", defArgs s_has_leapt, defBody s_has_leapt, defScope s_has_leapt, [], []⟩
def dd12 : He.DefD := ⟨("is_event", none), "is_event", "is_event", defArgs s_is_event, defBody s_is_event, defScope s_is_event, [], []⟩
def dd13 : He.DefD := ⟨("step_at", none), "step_at", "step_at", defArgs s_step_at, defBody s_step_at, defScope s_step_at, [], []⟩
def dd14 : He.DefD := ⟨("struck_of", none), "struck_of", "struck_of", defArgs s_struck_of, defBody s_struck_of, defScope s_struck_of, [], []⟩
def dd15 : He.DefD := ⟨("check_events", none), "check_events", "check_events", defArgs s_check_events, defBody s_check_events, defScope s_check_events, [], []⟩
def dd16 : He.DefD := ⟨("struck", none), "struck", "struck", defArgs s_struck, defBody s_struck, defScope s_struck, [], []⟩
def dd17 : He.DefD := ⟨("flooded", none), "flooded", "flooded", defArgs s_flooded, defBody s_flooded, defScope s_flooded, [], []⟩
def dd18 : He.DefD := ⟨("reached_of", none), "reached_of", "reached_of", defArgs s_reached_of, defBody s_reached_of, defScope s_reached_of, [], []⟩
def dd19 : He.DefD := ⟨("knots_of", none), "knots_of", "knots_of", defArgs s_knots_of, defBody s_knots_of, defScope s_knots_of, [], []⟩
def dd20 : He.DefD := ⟨("inner_events", none), "inner_events", "inner_events", defArgs s_inner_events, defBody s_inner_events, defScope s_inner_events, [], []⟩
def dd21 : He.DefD := ⟨("hangs_together", none), "hangs_together", "hangs_together", defArgs s_hangs_together, defBody s_hangs_together, defScope s_hangs_together, [], []⟩
def dd22 : He.DefD := ⟨("lift_of", none), "lift_of", "lift_of", defArgs s_lift_of, defBody s_lift_of, defScope s_lift_of, [], []⟩
def dd23 : He.DefD := ⟨("heights", none), "heights", "heights", defArgs s_heights, defBody s_heights, defScope s_heights, [], []⟩
def dd24 : He.DefD := ⟨("differences", none), "differences", "differences", defArgs s_differences, defBody s_differences, defScope s_differences, [], []⟩
def dd25 : He.DefD := ⟨("measure_of", none), "measure_of", "measure_of", defArgs s_measure_of, defBody s_measure_of, defScope s_measure_of, [], []⟩
def dd26 : He.DefD := ⟨("some_ring", none), "some_ring", "some_ring", defArgs s_some_ring, defBody s_some_ring, defScope s_some_ring, [], []⟩
def dd27 : He.DefD := ⟨("share_of", none), "share_of", "share_of", defArgs s_share_of, defBody s_share_of, defScope s_share_of, [], []⟩
def dd28 : He.DefD := ⟨("ring_beyond", none), "ring_beyond", "ring_beyond", defArgs s_ring_beyond, defBody s_ring_beyond, defScope s_ring_beyond, [], []⟩
def dd29 : He.DefD := ⟨("led_round", none), "led_round", "led_round", defArgs s_led_round, defBody s_led_round, defScope s_led_round, [], []⟩
def dd30 : He.DefD := ⟨("end_ring", none), "end_ring", "end_ring", defArgs s_end_ring, defBody s_end_ring, defScope s_end_ring, [], []⟩
def dd31 : He.DefD := ⟨("ends_of", none), "ends_of", "ends_of", defArgs s_ends_of, defBody s_ends_of, defScope s_ends_of, [], []⟩
def dd32 : He.DefD := ⟨("balanced", none), "balanced", "balanced", defArgs s_balanced, defBody s_balanced, defScope s_balanced, [], []⟩
def dd33 : He.DefD := ⟨("is_rising", none), "is_rising", "is_rising", defArgs s_is_rising, defBody s_is_rising, defScope s_is_rising, [], []⟩
def dd34 : He.DefD := ⟨("keyed", none), "keyed", "keyed", defArgs s_keyed, defBody s_keyed, defScope s_keyed, [], []⟩
def dd35 : He.DefD := ⟨("is_round", none), "is_round", "is_round", defArgs s_is_round, defBody s_is_round, defScope s_is_round, [], []⟩
def dd36 : He.DefD := ⟨("least_step", none), "least_step", "least_step", defArgs s_least_step, defBody s_least_step, defScope s_least_step, [], []⟩
def dd37 : He.DefD := ⟨("least_high", none), "least_high", "least_high", defArgs s_least_high, defBody s_least_high, defScope s_least_high, [], []⟩
def dd38 : He.DefD := ⟨("greatest_low", none), "greatest_low", "greatest_low", defArgs s_greatest_low, defBody s_greatest_low, defScope s_greatest_low, [], []⟩
def dd39 : He.DefD := ⟨("raw_lot", none), "raw_lot", "raw_lot", defArgs s_raw_lot, defBody s_raw_lot, defScope s_raw_lot, [], []⟩
def dd40 : He.DefD := ⟨("empty_lot", none), "empty_lot", "empty_lot", defArgs s_empty_lot, defBody s_empty_lot, defScope s_empty_lot, [], []⟩
def dd41 : He.DefD := ⟨("has", none), "has", "has", defArgs s_has, defBody s_has, defScope s_has, [], []⟩
def dd42 : He.DefD := ⟨("moved_rests", none), "moved_rests", "moved_rests", defArgs s_moved_rests, defBody s_moved_rests, defScope s_moved_rests, [], []⟩
def dd43 : He.DefD := ⟨("moved_of", none), "moved_of", "moved_of", defArgs s_moved_of, defBody s_moved_of, defScope s_moved_of, [], []⟩
def dd44 : He.DefD := ⟨("mirrored_of", none), "mirrored_of", "mirrored_of", defArgs s_mirrored_of, defBody s_mirrored_of, defScope s_mirrored_of, [], []⟩
def dd45 : He.DefD := ⟨("next_above_of", none), "next_above_of", "next_above_of", defArgs s_next_above_of, defBody s_next_above_of, defScope s_next_above_of, [], []⟩
def dd46 : He.DefD := ⟨("next_below_of", none), "next_below_of", "next_below_of", defArgs s_next_below_of, defBody s_next_below_of, defScope s_next_below_of, [], []⟩
def dd47 : He.DefD := ⟨("common_step", none), "common_step", "common_step", defArgs s_common_step, defBody s_common_step, defScope s_common_step, [], []⟩
def dd48 : He.DefD := ⟨("listed_members", none), "listed_members", "listed_members", defArgs s_listed_members, defBody s_listed_members, defScope s_listed_members, [], []⟩
def dd49 : He.DefD := ⟨("united", none), "united", "united", defArgs s_united, defBody s_united, defScope s_united, [], []⟩
def dd50 : He.DefD := ⟨("height_lifts", none), "height_lifts", "height_lifts", defArgs s_height_lifts, defBody s_height_lifts, defScope s_height_lifts, [], []⟩
def dd51 : He.DefD := ⟨("values_still", none), "values_still", "values_still", defArgs s_values_still, defBody s_values_still, defScope s_values_still, [], []⟩
def dd52 : He.DefD := ⟨("endless_rests", none), "endless_rests", "endless_rests", defArgs s_endless_rests, defBody s_endless_rests, defScope s_endless_rests, [], []⟩
def dd53 : He.DefD := ⟨("rests_of", none), "rests_of", "rests_of", defArgs s_rests_of, defBody s_rests_of, defScope s_rests_of, [], []⟩
def dd54 : He.DefD := ⟨("values_both", none), "values_both", "values_both", defArgs s_values_both, defBody s_values_both, defScope s_values_both, [], []⟩
def dd55 : He.DefD := ⟨("least_ways", none), "least_ways", "least_ways", defArgs s_least_ways, defBody s_least_ways, defScope s_least_ways, [], []⟩
def dd56 : He.DefD := ⟨("rise_of", none), "rise_of", "rise_of", defArgs s_rise_of, defBody s_rise_of, defScope s_rise_of, [], []⟩
def dd57 : He.DefD := ⟨("begun", none), "begun", "begun", defArgs s_begun, defBody s_begun, defScope s_begun, [], []⟩
def dd58 : He.DefD := ⟨("spread_whole", none), "spread_whole", "spread_whole", defArgs s_spread_whole, defBody s_spread_whole, defScope s_spread_whole, [], []⟩
def dd59 : He.DefD := ⟨("spread_least", none), "spread_least", "spread_least", defArgs s_spread_least, defBody s_spread_least, defScope s_spread_least, [], []⟩
def dd60 : He.DefD := ⟨("risen_lot", none), "risen_lot", "risen_lot", defArgs s_risen_lot, defBody s_risen_lot, defScope s_risen_lot, [], []⟩
def dd61 : He.DefD := ⟨("values_rising", none), "values_rising", "values_rising", defArgs s_values_rising, defBody s_values_rising, defScope s_values_rising, [], []⟩
def dd62 : He.DefD := ⟨("values_in", none), "values_in", "values_in", defArgs s_values_in, defBody s_values_in, defScope s_values_in, [], []⟩
def dd63 : He.DefD := ⟨("ordered_knots", none), "ordered_knots", "ordered_knots", defArgs s_ordered_knots, defBody s_ordered_knots, defScope s_ordered_knots, [], []⟩
def dd64 : He.DefD := ⟨("values_of", none), "values_of", "values_of", defArgs s_values_of, defBody s_values_of, defScope s_values_of, [], []⟩
def dd65 : He.DefD := ⟨("leap_from", none), "leap_from", "leap_from", defArgs s_leap_from, defBody s_leap_from, defScope s_leap_from, [], []⟩
def dd66 : He.DefD := ⟨("rule_of", none), "rule_of", "rule_of", defArgs s_rule_of, defBody s_rule_of, defScope s_rule_of, [], []⟩
def dd67 : He.DefD := ⟨("leaping_events", none), "leaping_events", "leaping_events", defArgs s_leaping_events, defBody s_leaping_events, defScope s_leaping_events, [], []⟩
def dd68 : He.DefD := ⟨("never_by", none), "never_by", "never_by", defArgs s_never_by, defBody s_never_by, defScope s_never_by, [], []⟩
def dd69 : He.DefD := ⟨("never", none), "never", "never", defArgs s_never, defBody s_never, defScope s_never, [], []⟩
def dd70 : He.DefD := ⟨("mends", none), "mends", "mends", defArgs s_mends, defBody s_mends, defScope s_mends, [], []⟩
def dd71 : He.DefD := ⟨("is_mend", none), "is_mend", "is_mend", defArgs s_is_mend, defBody s_is_mend, defScope s_is_mend, [], []⟩
def dd72 : He.DefD := ⟨("_law_pot", none), "_law_pot", "_law_pot", defArgs s_l_pot, defBody s_l_pot, defScope s_l_pot, [], []⟩
def dd73 : He.DefD := ⟨("_law_draw", none), "_law_draw", "_law_draw", defArgs s_l_draw, defBody s_l_draw, defScope s_l_draw, [], []⟩
def dd74 : He.DefD := ⟨("_law_mixed", none), "_law_mixed", "_law_mixed", defArgs s_l_mixed, defBody s_l_mixed, defScope s_l_mixed, [], []⟩
def dd75 : He.DefD := ⟨("_law_parts", none), "_law_parts", "_law_parts", defArgs s_l_parts, defBody s_l_parts, defScope s_l_parts, [], []⟩
def dd76 : He.DefD := ⟨("_law_gcd", none), "_law_gcd", "_law_gcd", defArgs s_l_gcd, defBody s_l_gcd, defScope s_l_gcd, [], []⟩
def dd77 : He.DefD := ⟨("_law_low", none), "_law_low", "_law_low", defArgs s_l_low, defBody s_l_low, defScope s_l_low, [], []⟩
def dd78 : He.DefD := ⟨("_law_share", none), "_law_share", "_law_share", defArgs s_l_share, defBody s_l_share, defScope s_l_share, [], []⟩
def dd79 : He.DefD := ⟨("_law_lot", none), "_law_lot", "_law_lot", defArgs s_l_lot, defBody s_l_lot, defScope s_l_lot, [], []⟩
def dd80 : He.DefD := ⟨("law", none), "law", "law", defArgs s_law, defBody s_law, defScope s_law, [], []⟩
def dd81 : He.DefD := ⟨("Machine", some "__init__"), "__init__", "Machine.__init__", defArgs s_Machine_init, defBody s_Machine_init, defScope s_Machine_init, [], []⟩
def dd82 : He.DefD := ⟨("Machine", some "keep"), "keep", "Machine.keep", defArgs s_Machine_keep, defBody s_Machine_keep, defScope s_Machine_keep, [], []⟩
def dd83 : He.DefD := ⟨("Machine", some "__eq__"), "__eq__", "Machine.__eq__", defArgs s_Machine_eq, defBody s_Machine_eq, defScope s_Machine_eq, [], []⟩
def dd84 : He.DefD := ⟨("RawMachine", some "__init__"), "__init__", "RawMachine.__init__", defArgs s_RawMachine_init, defBody s_RawMachine_init, defScope s_RawMachine_init, [], []⟩
def dd85 : He.DefD := ⟨("Lot", some "__init__"), "__init__", "Lot.__init__", defArgs s_Lot_init, defBody s_Lot_init, defScope s_Lot_init, [], []⟩
def dd86 : He.DefD := ⟨("Lot", some "keep"), "keep", "Lot.keep", defArgs s_Lot_keep, defBody s_Lot_keep, defScope s_Lot_keep, [], []⟩
def dd87 : He.DefD := ⟨("Lot", some "told"), "told", "Lot.told", defArgs s_Lot_told, defBody s_Lot_told, defScope s_Lot_told, [], []⟩
def dd88 : He.DefD := ⟨("Lot", some "__eq__"), "__eq__", "Lot.__eq__", defArgs s_Lot_eq, defBody s_Lot_eq, defScope s_Lot_eq, [], []⟩
def dd89 : He.DefD := ⟨("RawLot", some "__init__"), "__init__", "RawLot.__init__", defArgs s_RawLot_init, defBody s_RawLot_init, defScope s_RawLot_init, [], []⟩
def fn : List He.DefD := [dd0, dd1, dd2, dd3, dd4, dd5, dd6, dd7, dd8, dd9, dd10, dd11, dd12, dd13, dd14, dd15, dd16, dd17, dd18, dd19, dd20, dd21, dd22, dd23, dd24, dd25, dd26, dd27, dd28, dd29, dd30, dd31, dd32, dd33, dd34, dd35, dd36, dd37, dd38, dd39, dd40, dd41, dd42, dd43, dd44, dd45, dd46, dd47, dd48, dd49, dd50, dd51, dd52, dd53, dd54, dd55, dd56, dd57, dd58, dd59, dd60, dd61, dd62, dd63, dd64, dd65, dd66, dd67, dd68, dd69, dd70, dd71, dd72, dd73, dd74, dd75, dd76, dd77, dd78, dd79, dd80, dd81, dd82, dd83, dd84, dd85, dd86, dd87, dd88, dd89]
def fa0 : List He.Fa := [.glo "is_integer", .glo "is_within", .glo "is_from", .glo "is_pair", .glo "is_ascending", .glo "common_divisor", .glo "lowest", .glo "is_share", .glo "check_share", .glo "check_way", .glo "is_less", .glo "has_leapt", .glo "is_event", .glo "step_at", .glo "struck_of", .glo "check_events", .glo "struck", .glo "flooded", .glo "reached_of", .glo "knots_of", .glo "inner_events", .glo "hangs_together", .glo "lift_of", .glo "heights", .glo "differences", .glo "measure_of", .glo "some_ring", .glo "share_of", .glo "ring_beyond", .glo "led_round"]
def fa1 : List He.Fa := [.glo "end_ring", .glo "ends_of", .glo "balanced", .glo "is_rising", .glo "keyed", .glo "is_round", .glo "least_step", .glo "least_high", .glo "greatest_low", .glo "raw_lot", .glo "empty_lot", .glo "has", .glo "moved_rests", .glo "moved_of", .glo "mirrored_of", .glo "next_above_of", .glo "next_below_of", .glo "common_step", .glo "listed_members", .glo "united", .glo "height_lifts", .glo "values_still", .glo "endless_rests", .glo "rests_of", .glo "values_both", .glo "least_ways", .glo "rise_of", .glo "begun", .glo "spread_whole", .glo "spread_least"]
def fa2 : List He.Fa := [.glo "risen_lot", .glo "values_rising", .glo "values_in", .glo "ordered_knots", .glo "values_of", .glo "leap_from", .glo "rule_of", .glo "leaping_events", .glo "never_by", .glo "never", .glo "mends", .glo "is_mend", .glo "_law_pot", .glo "_law_draw", .glo "_law_mixed", .glo "_law_parts", .glo "_law_gcd", .glo "_law_low", .glo "_law_share", .glo "_law_lot", .glo "law", .glo "LeapError", .glo "BadMachine", .glo "TooMany", .glo "BadLot", .glo "NoEvents", .glo "NoShare", .glo "NoWay", .glo "Machine", .glo "RawMachine"]
def fa3 : List He.Fa := [.glo "Lot", .glo "RawLot", .glo "WAYS", .int "MOST_STANDINGS" (12), .int "MOST_EVENTS" (30), .int "MOST_TRIES" (40), .int "MOST_POINTS" (400), .int "MOST_APART_lots" (100000), .int "MOST_STEP_lots" (4000), .int "MOST_STEP_tables" (4000), .int "MOST_APART_tables" (100000), .int "MOST_MEMBERS" (20000), .free "int", .free "abs", .free "len", .free "sum", .free "isinstance", .free "range", .free "enumerate", .free "tuple", .free "list", .free "sorted", .free "max", .free "min", .free "all", .free "any", .free "bool", .free "str", .free "super", .cls "Machine"]
def fa4 : List He.Fa := [.noat "Machine" "events", .noat "Machine" "kept_out", .noat "Machine" "standings", .mkr "Machine", .meth "Machine" "keep", .cls "RawMachine", .noat "RawMachine" "events", .noat "RawMachine" "kept_out", .noat "RawMachine" "standings", .meth "RawMachine" "keep", .mkr "RawMachine", .cls "Lot", .noat "Lot" "above", .noat "Lot" "below", .noat "Lot" "has_above", .noat "Lot" "has_below", .noat "Lot" "has_members", .noat "Lot" "high", .noat "Lot" "low", .noat "Lot" "members", .noat "Lot" "step", .mkr "Lot", .meth "Lot" "keep", .meth "Lot" "told", .cls "RawLot", .noat "RawLot" "above", .noat "RawLot" "below", .noat "RawLot" "has_above", .noat "RawLot" "has_below", .noat "RawLot" "has_members"]
def fa5 : List He.Fa := [.noat "RawLot" "high", .noat "RawLot" "low", .noat "RawLot" "members", .noat "RawLot" "step", .meth "RawLot" "keep", .meth "RawLot" "told", .mkr "RawLot"]
def fa : List He.Fa := fa0 ++ fa1 ++ fa2 ++ fa3 ++ fa4 ++ fa5
def ex (K : PySem.W.Frag) : Bool := (He.tupB K "WAYS" [.str "up", .str "down"]) && (Lv.ownB K "Machine" "Machine") && (Lv.eqB K "Machine" "Machine") && (Lv.ownB K "RawMachine" "Machine") && (Lv.eqB K "RawMachine" "Machine") && (Lv.maB K "RawMachine" "Machine" "keep") && (Lv.ownB K "Lot" "Lot") && (Lv.eqB K "Lot" "Lot") && (Lv.ownB K "RawLot" "Lot") && (Lv.eqB K "RawLot" "Lot") && (Lv.maB K "RawLot" "Lot" "keep") && (Lv.maB K "RawLot" "Lot" "told")
def loose0 : List Str := ["LeapError", "BadMachine", "TooMany", "BadLot", "NoEvents", "NoShare", "NoWay", "WAYS", "is_integer", "is_within", "is_from", "is_pair", "is_ascending", "common_divisor", "lowest", "is_share", "check_share", "check_way", "is_less", "has_leapt", "MOST_STANDINGS", "MOST_EVENTS", "MOST_TRIES", "MOST_POINTS", "is_event", "Machine", "RawMachine", "step_at", "struck_of", "check_events"]
def loose1 : List Str := ["struck", "flooded", "reached_of", "knots_of", "inner_events", "hangs_together", "lift_of", "heights", "differences", "measure_of", "some_ring", "share_of", "ring_beyond", "led_round", "end_ring", "ends_of", "balanced", "MOST_APART_lots", "MOST_STEP_lots", "is_rising", "keyed", "is_round", "least_step", "least_high", "greatest_low", "Lot", "RawLot", "raw_lot", "empty_lot", "has"]
def loose2 : List Str := ["moved_rests", "moved_of", "mirrored_of", "next_above_of", "next_below_of", "MOST_STEP_tables", "MOST_APART_tables", "MOST_MEMBERS", "common_step", "listed_members", "united", "height_lifts", "values_still", "endless_rests", "rests_of", "values_both", "least_ways", "rise_of", "begun", "spread_whole", "spread_least", "risen_lot", "values_rising", "values_in", "ordered_knots", "values_of", "leap_from", "rule_of", "leaping_events", "never_by"]
def loose3 : List Str := ["never", "mends", "is_mend", "_law_pot", "_law_draw", "_law_mixed", "_law_parts", "_law_gcd", "_law_low", "_law_share", "_law_lot"]
def loose : List Str := loose0 ++ loose1 ++ loose2 ++ loose3
abbrev R : PySem.W.OpenRow := PySem.W.OpenLaw.row PySem.Challenge.rw_neverleapt_k69_mends_judged
abbrev hk : PySem.W.Hook := Lv.hookW 5 fa fn ex
def ob (s : PySem.W.SharedT) : He.AlX := Lv.obsW 5 fa fn ex (HandSHeadRun.getT s)
theorem ob_eq (s : PySem.W.SharedT) : ob s = hk.obs s.abs := Lv.obsW_eq (HandSHeadRun.getT_eq s)
theorem run (w : World) : HandSHeadRun.RunEq R (PySem.W.view R.prog [112]) hk ob 20000 loose w := by
  intro os
  kernel_rfl
structure Txt (K : PySem.W.Frag) (mg : Str → Option Value) : Prop where
  g_is_integer : mg "is_integer" = some (.ref (He.ga K "is_integer"))
  g_is_within : mg "is_within" = some (.ref (He.ga K "is_within"))
  g_is_from : mg "is_from" = some (.ref (He.ga K "is_from"))
  g_is_pair : mg "is_pair" = some (.ref (He.ga K "is_pair"))
  g_is_ascending : mg "is_ascending" = some (.ref (He.ga K "is_ascending"))
  g_common_divisor : mg "common_divisor" = some (.ref (He.ga K "common_divisor"))
  g_lowest : mg "lowest" = some (.ref (He.ga K "lowest"))
  g_is_share : mg "is_share" = some (.ref (He.ga K "is_share"))
  g_check_share : mg "check_share" = some (.ref (He.ga K "check_share"))
  g_check_way : mg "check_way" = some (.ref (He.ga K "check_way"))
  g_is_less : mg "is_less" = some (.ref (He.ga K "is_less"))
  g_has_leapt : mg "has_leapt" = some (.ref (He.ga K "has_leapt"))
  g_is_event : mg "is_event" = some (.ref (He.ga K "is_event"))
  g_step_at : mg "step_at" = some (.ref (He.ga K "step_at"))
  g_struck_of : mg "struck_of" = some (.ref (He.ga K "struck_of"))
  g_check_events : mg "check_events" = some (.ref (He.ga K "check_events"))
  g_struck : mg "struck" = some (.ref (He.ga K "struck"))
  g_flooded : mg "flooded" = some (.ref (He.ga K "flooded"))
  g_reached_of : mg "reached_of" = some (.ref (He.ga K "reached_of"))
  g_knots_of : mg "knots_of" = some (.ref (He.ga K "knots_of"))
  g_inner_events : mg "inner_events" = some (.ref (He.ga K "inner_events"))
  g_hangs_together : mg "hangs_together" = some (.ref (He.ga K "hangs_together"))
  g_lift_of : mg "lift_of" = some (.ref (He.ga K "lift_of"))
  g_heights : mg "heights" = some (.ref (He.ga K "heights"))
  g_differences : mg "differences" = some (.ref (He.ga K "differences"))
  g_measure_of : mg "measure_of" = some (.ref (He.ga K "measure_of"))
  g_some_ring : mg "some_ring" = some (.ref (He.ga K "some_ring"))
  g_share_of : mg "share_of" = some (.ref (He.ga K "share_of"))
  g_ring_beyond : mg "ring_beyond" = some (.ref (He.ga K "ring_beyond"))
  g_led_round : mg "led_round" = some (.ref (He.ga K "led_round"))
  g_end_ring : mg "end_ring" = some (.ref (He.ga K "end_ring"))
  g_ends_of : mg "ends_of" = some (.ref (He.ga K "ends_of"))
  g_balanced : mg "balanced" = some (.ref (He.ga K "balanced"))
  g_is_rising : mg "is_rising" = some (.ref (He.ga K "is_rising"))
  g_keyed : mg "keyed" = some (.ref (He.ga K "keyed"))
  g_is_round : mg "is_round" = some (.ref (He.ga K "is_round"))
  g_least_step : mg "least_step" = some (.ref (He.ga K "least_step"))
  g_least_high : mg "least_high" = some (.ref (He.ga K "least_high"))
  g_greatest_low : mg "greatest_low" = some (.ref (He.ga K "greatest_low"))
  g_raw_lot : mg "raw_lot" = some (.ref (He.ga K "raw_lot"))
  g_empty_lot : mg "empty_lot" = some (.ref (He.ga K "empty_lot"))
  g_has : mg "has" = some (.ref (He.ga K "has"))
  g_moved_rests : mg "moved_rests" = some (.ref (He.ga K "moved_rests"))
  g_moved_of : mg "moved_of" = some (.ref (He.ga K "moved_of"))
  g_mirrored_of : mg "mirrored_of" = some (.ref (He.ga K "mirrored_of"))
  g_next_above_of : mg "next_above_of" = some (.ref (He.ga K "next_above_of"))
  g_next_below_of : mg "next_below_of" = some (.ref (He.ga K "next_below_of"))
  g_common_step : mg "common_step" = some (.ref (He.ga K "common_step"))
  g_listed_members : mg "listed_members" = some (.ref (He.ga K "listed_members"))
  g_united : mg "united" = some (.ref (He.ga K "united"))
  g_height_lifts : mg "height_lifts" = some (.ref (He.ga K "height_lifts"))
  g_values_still : mg "values_still" = some (.ref (He.ga K "values_still"))
  g_endless_rests : mg "endless_rests" = some (.ref (He.ga K "endless_rests"))
  g_rests_of : mg "rests_of" = some (.ref (He.ga K "rests_of"))
  g_values_both : mg "values_both" = some (.ref (He.ga K "values_both"))
  g_least_ways : mg "least_ways" = some (.ref (He.ga K "least_ways"))
  g_rise_of : mg "rise_of" = some (.ref (He.ga K "rise_of"))
  g_begun : mg "begun" = some (.ref (He.ga K "begun"))
  g_spread_whole : mg "spread_whole" = some (.ref (He.ga K "spread_whole"))
  g_spread_least : mg "spread_least" = some (.ref (He.ga K "spread_least"))
  g_risen_lot : mg "risen_lot" = some (.ref (He.ga K "risen_lot"))
  g_values_rising : mg "values_rising" = some (.ref (He.ga K "values_rising"))
  g_values_in : mg "values_in" = some (.ref (He.ga K "values_in"))
  g_ordered_knots : mg "ordered_knots" = some (.ref (He.ga K "ordered_knots"))
  g_values_of : mg "values_of" = some (.ref (He.ga K "values_of"))
  g_leap_from : mg "leap_from" = some (.ref (He.ga K "leap_from"))
  g_rule_of : mg "rule_of" = some (.ref (He.ga K "rule_of"))
  g_leaping_events : mg "leaping_events" = some (.ref (He.ga K "leaping_events"))
  g_never_by : mg "never_by" = some (.ref (He.ga K "never_by"))
  g_never : mg "never" = some (.ref (He.ga K "never"))
  g_mends : mg "mends" = some (.ref (He.ga K "mends"))
  g_is_mend : mg "is_mend" = some (.ref (He.ga K "is_mend"))
  g_l_pot : mg "_law_pot" = some (.ref (He.ga K "_law_pot"))
  g_l_draw : mg "_law_draw" = some (.ref (He.ga K "_law_draw"))
  g_l_mixed : mg "_law_mixed" = some (.ref (He.ga K "_law_mixed"))
  g_l_parts : mg "_law_parts" = some (.ref (He.ga K "_law_parts"))
  g_l_gcd : mg "_law_gcd" = some (.ref (He.ga K "_law_gcd"))
  g_l_low : mg "_law_low" = some (.ref (He.ga K "_law_low"))
  g_l_share : mg "_law_share" = some (.ref (He.ga K "_law_share"))
  g_l_lot : mg "_law_lot" = some (.ref (He.ga K "_law_lot"))
  g_law : mg "law" = some (.ref (He.ga K "law"))
  g_LeapError : mg "LeapError" = some (.ref (He.ga K "LeapError"))
  g_BadMachine : mg "BadMachine" = some (.ref (He.ga K "BadMachine"))
  g_TooMany : mg "TooMany" = some (.ref (He.ga K "TooMany"))
  g_BadLot : mg "BadLot" = some (.ref (He.ga K "BadLot"))
  g_NoEvents : mg "NoEvents" = some (.ref (He.ga K "NoEvents"))
  g_NoShare : mg "NoShare" = some (.ref (He.ga K "NoShare"))
  g_NoWay : mg "NoWay" = some (.ref (He.ga K "NoWay"))
  g_Machine : mg "Machine" = some (.ref (He.ga K "Machine"))
  g_RawMachine : mg "RawMachine" = some (.ref (He.ga K "RawMachine"))
  g_Lot : mg "Lot" = some (.ref (He.ga K "Lot"))
  g_RawLot : mg "RawLot" = some (.ref (He.ga K "RawLot"))
  g_WAYS : mg "WAYS" = some (.ref (He.ga K "WAYS"))
  i_MOST_STANDINGS : ∃ t, mg "MOST_STANDINGS" = some (.int (12) t)
  i_MOST_EVENTS : ∃ t, mg "MOST_EVENTS" = some (.int (30) t)
  i_MOST_TRIES : ∃ t, mg "MOST_TRIES" = some (.int (40) t)
  i_MOST_POINTS : ∃ t, mg "MOST_POINTS" = some (.int (400) t)
  i_MOST_APART_lots : ∃ t, mg "MOST_APART_lots" = some (.int (100000) t)
  i_MOST_STEP_lots : ∃ t, mg "MOST_STEP_lots" = some (.int (4000) t)
  i_MOST_STEP_tables : ∃ t, mg "MOST_STEP_tables" = some (.int (4000) t)
  i_MOST_APART_tables : ∃ t, mg "MOST_APART_tables" = some (.int (100000) t)
  i_MOST_MEMBERS : ∃ t, mg "MOST_MEMBERS" = some (.int (20000) t)
  n_int : mg "int" = none
  n_abs : mg "abs" = none
  n_len : mg "len" = none
  n_sum : mg "sum" = none
  n_isinstance : mg "isinstance" = none
  n_range : mg "range" = none
  n_enumerate : mg "enumerate" = none
  n_tuple : mg "tuple" = none
  n_list : mg "list" = none
  n_sorted : mg "sorted" = none
  n_max : mg "max" = none
  n_min : mg "min" = none
  n_all : mg "all" = none
  n_any : mg "any" = none
  n_bool : mg "bool" = none
  n_str : mg "str" = none
  n_super : mg "super" = none
  c_Machine : Cls K (He.ga K "Machine")
  na_Machine_events : NoAttr K (He.ga K "Machine") "events"
  na_Machine_kept_out : NoAttr K (He.ga K "Machine") "kept_out"
  na_Machine_standings : NoAttr K (He.ga K "Machine") "standings"
  mk_Machine : Mk K (He.ga K "Machine") (He.ma K (He.ga K "Machine") "__init__")
  me_Machine_keep : Meth K (He.ga K "Machine") "keep" (He.ma K (He.ga K "Machine") "keep")
  c_RawMachine : Cls K (He.ga K "RawMachine")
  na_RawMachine_events : NoAttr K (He.ga K "RawMachine") "events"
  na_RawMachine_kept_out : NoAttr K (He.ga K "RawMachine") "kept_out"
  na_RawMachine_standings : NoAttr K (He.ga K "RawMachine") "standings"
  me_RawMachine_keep : Meth K (He.ga K "RawMachine") "keep" (He.ma K (He.ga K "RawMachine") "keep")
  mk_RawMachine : Mk K (He.ga K "RawMachine") (He.ma K (He.ga K "RawMachine") "__init__")
  c_Lot : Cls K (He.ga K "Lot")
  na_Lot_above : NoAttr K (He.ga K "Lot") "above"
  na_Lot_below : NoAttr K (He.ga K "Lot") "below"
  na_Lot_has_above : NoAttr K (He.ga K "Lot") "has_above"
  na_Lot_has_below : NoAttr K (He.ga K "Lot") "has_below"
  na_Lot_has_members : NoAttr K (He.ga K "Lot") "has_members"
  na_Lot_high : NoAttr K (He.ga K "Lot") "high"
  na_Lot_low : NoAttr K (He.ga K "Lot") "low"
  na_Lot_members : NoAttr K (He.ga K "Lot") "members"
  na_Lot_step : NoAttr K (He.ga K "Lot") "step"
  mk_Lot : Mk K (He.ga K "Lot") (He.ma K (He.ga K "Lot") "__init__")
  me_Lot_keep : Meth K (He.ga K "Lot") "keep" (He.ma K (He.ga K "Lot") "keep")
  me_Lot_told : Meth K (He.ga K "Lot") "told" (He.ma K (He.ga K "Lot") "told")
  c_RawLot : Cls K (He.ga K "RawLot")
  na_RawLot_above : NoAttr K (He.ga K "RawLot") "above"
  na_RawLot_below : NoAttr K (He.ga K "RawLot") "below"
  na_RawLot_has_above : NoAttr K (He.ga K "RawLot") "has_above"
  na_RawLot_has_below : NoAttr K (He.ga K "RawLot") "has_below"
  na_RawLot_has_members : NoAttr K (He.ga K "RawLot") "has_members"
  na_RawLot_high : NoAttr K (He.ga K "RawLot") "high"
  na_RawLot_low : NoAttr K (He.ga K "RawLot") "low"
  na_RawLot_members : NoAttr K (He.ga K "RawLot") "members"
  na_RawLot_step : NoAttr K (He.ga K "RawLot") "step"
  me_RawLot_keep : Meth K (He.ga K "RawLot") "keep" (He.ma K (He.ga K "RawLot") "keep")
  me_RawLot_told : Meth K (He.ga K "RawLot") "told" (He.ma K (He.ga K "RawLot") "told")
  mk_RawLot : Mk K (He.ga K "RawLot") (He.ma K (He.ga K "RawLot") "__init__")
  d_is_integer : ∃ fd, FunD K "is_integer" "is_integer" (defArgs s_is_integer) (defBody s_is_integer) (defScope s_is_integer) [] [] (He.ga K "is_integer") fd
  d_is_within : ∃ fd, FunD K "is_within" "is_within" (defArgs s_is_within) (defBody s_is_within) (defScope s_is_within) [] [] (He.ga K "is_within") fd
  d_is_from : ∃ fd, FunD K "is_from" "is_from" (defArgs s_is_from) (defBody s_is_from) (defScope s_is_from) [] [] (He.ga K "is_from") fd
  d_is_pair : ∃ fd, FunD K "is_pair" "is_pair" (defArgs s_is_pair) (defBody s_is_pair) (defScope s_is_pair) [] [] (He.ga K "is_pair") fd
  d_is_ascending : ∃ fd, FunD K "is_ascending" "is_ascending" (defArgs s_is_ascending) (defBody s_is_ascending) (defScope s_is_ascending) [] [] (He.ga K "is_ascending") fd
  d_common_divisor : ∃ fd, FunD K "common_divisor" "common_divisor" (defArgs s_common_divisor) (defBody s_common_divisor) (defScope s_common_divisor) [] [] (He.ga K "common_divisor") fd
  d_lowest : ∃ fd, FunD K "lowest" "lowest" (defArgs s_lowest) (defBody s_lowest) (defScope s_lowest) [] [] (He.ga K "lowest") fd
  d_is_share : ∃ fd, FunD K "is_share" "is_share" (defArgs s_is_share) (defBody s_is_share) (defScope s_is_share) [] [] (He.ga K "is_share") fd
  d_check_share : ∃ fd, FunD K "check_share" "check_share" (defArgs s_check_share) (defBody s_check_share) (defScope s_check_share) [] [] (He.ga K "check_share") fd
  d_check_way : ∃ fd, FunD K "check_way" "check_way" (defArgs s_check_way) (defBody s_check_way) (defScope s_check_way) [] [] (He.ga K "check_way") fd
  d_is_less : ∃ fd, FunD K "is_less" "is_less" (defArgs s_is_less) (defBody s_is_less) (defScope s_is_less) [] [] (He.ga K "is_less") fd
  d_has_leapt : ∃ fd, FunD K "has_leapt" "has_leapt" (defArgs s_has_leapt) (defBody s_has_leapt) (defScope s_has_leapt) [] [] (He.ga K "has_leapt") fd
  d_is_event : ∃ fd, FunD K "is_event" "is_event" (defArgs s_is_event) (defBody s_is_event) (defScope s_is_event) [] [] (He.ga K "is_event") fd
  d_step_at : ∃ fd, FunD K "step_at" "step_at" (defArgs s_step_at) (defBody s_step_at) (defScope s_step_at) [] [] (He.ga K "step_at") fd
  d_struck_of : ∃ fd, FunD K "struck_of" "struck_of" (defArgs s_struck_of) (defBody s_struck_of) (defScope s_struck_of) [] [] (He.ga K "struck_of") fd
  d_check_events : ∃ fd, FunD K "check_events" "check_events" (defArgs s_check_events) (defBody s_check_events) (defScope s_check_events) [] [] (He.ga K "check_events") fd
  d_struck : ∃ fd, FunD K "struck" "struck" (defArgs s_struck) (defBody s_struck) (defScope s_struck) [] [] (He.ga K "struck") fd
  d_flooded : ∃ fd, FunD K "flooded" "flooded" (defArgs s_flooded) (defBody s_flooded) (defScope s_flooded) [] [] (He.ga K "flooded") fd
  d_reached_of : ∃ fd, FunD K "reached_of" "reached_of" (defArgs s_reached_of) (defBody s_reached_of) (defScope s_reached_of) [] [] (He.ga K "reached_of") fd
  d_knots_of : ∃ fd, FunD K "knots_of" "knots_of" (defArgs s_knots_of) (defBody s_knots_of) (defScope s_knots_of) [] [] (He.ga K "knots_of") fd
  d_inner_events : ∃ fd, FunD K "inner_events" "inner_events" (defArgs s_inner_events) (defBody s_inner_events) (defScope s_inner_events) [] [] (He.ga K "inner_events") fd
  d_hangs_together : ∃ fd, FunD K "hangs_together" "hangs_together" (defArgs s_hangs_together) (defBody s_hangs_together) (defScope s_hangs_together) [] [] (He.ga K "hangs_together") fd
  d_lift_of : ∃ fd, FunD K "lift_of" "lift_of" (defArgs s_lift_of) (defBody s_lift_of) (defScope s_lift_of) [] [] (He.ga K "lift_of") fd
  d_heights : ∃ fd, FunD K "heights" "heights" (defArgs s_heights) (defBody s_heights) (defScope s_heights) [] [] (He.ga K "heights") fd
  d_differences : ∃ fd, FunD K "differences" "differences" (defArgs s_differences) (defBody s_differences) (defScope s_differences) [] [] (He.ga K "differences") fd
  d_measure_of : ∃ fd, FunD K "measure_of" "measure_of" (defArgs s_measure_of) (defBody s_measure_of) (defScope s_measure_of) [] [] (He.ga K "measure_of") fd
  d_some_ring : ∃ fd, FunD K "some_ring" "some_ring" (defArgs s_some_ring) (defBody s_some_ring) (defScope s_some_ring) [] [] (He.ga K "some_ring") fd
  d_share_of : ∃ fd, FunD K "share_of" "share_of" (defArgs s_share_of) (defBody s_share_of) (defScope s_share_of) [] [] (He.ga K "share_of") fd
  d_ring_beyond : ∃ fd, FunD K "ring_beyond" "ring_beyond" (defArgs s_ring_beyond) (defBody s_ring_beyond) (defScope s_ring_beyond) [] [] (He.ga K "ring_beyond") fd
  d_led_round : ∃ fd, FunD K "led_round" "led_round" (defArgs s_led_round) (defBody s_led_round) (defScope s_led_round) [] [] (He.ga K "led_round") fd
  d_end_ring : ∃ fd, FunD K "end_ring" "end_ring" (defArgs s_end_ring) (defBody s_end_ring) (defScope s_end_ring) [] [] (He.ga K "end_ring") fd
  d_ends_of : ∃ fd, FunD K "ends_of" "ends_of" (defArgs s_ends_of) (defBody s_ends_of) (defScope s_ends_of) [] [] (He.ga K "ends_of") fd
  d_balanced : ∃ fd, FunD K "balanced" "balanced" (defArgs s_balanced) (defBody s_balanced) (defScope s_balanced) [] [] (He.ga K "balanced") fd
  d_is_rising : ∃ fd, FunD K "is_rising" "is_rising" (defArgs s_is_rising) (defBody s_is_rising) (defScope s_is_rising) [] [] (He.ga K "is_rising") fd
  d_keyed : ∃ fd, FunD K "keyed" "keyed" (defArgs s_keyed) (defBody s_keyed) (defScope s_keyed) [] [] (He.ga K "keyed") fd
  d_is_round : ∃ fd, FunD K "is_round" "is_round" (defArgs s_is_round) (defBody s_is_round) (defScope s_is_round) [] [] (He.ga K "is_round") fd
  d_least_step : ∃ fd, FunD K "least_step" "least_step" (defArgs s_least_step) (defBody s_least_step) (defScope s_least_step) [] [] (He.ga K "least_step") fd
  d_least_high : ∃ fd, FunD K "least_high" "least_high" (defArgs s_least_high) (defBody s_least_high) (defScope s_least_high) [] [] (He.ga K "least_high") fd
  d_greatest_low : ∃ fd, FunD K "greatest_low" "greatest_low" (defArgs s_greatest_low) (defBody s_greatest_low) (defScope s_greatest_low) [] [] (He.ga K "greatest_low") fd
  d_raw_lot : ∃ fd, FunD K "raw_lot" "raw_lot" (defArgs s_raw_lot) (defBody s_raw_lot) (defScope s_raw_lot) [] [] (He.ga K "raw_lot") fd
  d_empty_lot : ∃ fd, FunD K "empty_lot" "empty_lot" (defArgs s_empty_lot) (defBody s_empty_lot) (defScope s_empty_lot) [] [] (He.ga K "empty_lot") fd
  d_has : ∃ fd, FunD K "has" "has" (defArgs s_has) (defBody s_has) (defScope s_has) [] [] (He.ga K "has") fd
  d_moved_rests : ∃ fd, FunD K "moved_rests" "moved_rests" (defArgs s_moved_rests) (defBody s_moved_rests) (defScope s_moved_rests) [] [] (He.ga K "moved_rests") fd
  d_moved_of : ∃ fd, FunD K "moved_of" "moved_of" (defArgs s_moved_of) (defBody s_moved_of) (defScope s_moved_of) [] [] (He.ga K "moved_of") fd
  d_mirrored_of : ∃ fd, FunD K "mirrored_of" "mirrored_of" (defArgs s_mirrored_of) (defBody s_mirrored_of) (defScope s_mirrored_of) [] [] (He.ga K "mirrored_of") fd
  d_next_above_of : ∃ fd, FunD K "next_above_of" "next_above_of" (defArgs s_next_above_of) (defBody s_next_above_of) (defScope s_next_above_of) [] [] (He.ga K "next_above_of") fd
  d_next_below_of : ∃ fd, FunD K "next_below_of" "next_below_of" (defArgs s_next_below_of) (defBody s_next_below_of) (defScope s_next_below_of) [] [] (He.ga K "next_below_of") fd
  d_common_step : ∃ fd, FunD K "common_step" "common_step" (defArgs s_common_step) (defBody s_common_step) (defScope s_common_step) [] [] (He.ga K "common_step") fd
  d_listed_members : ∃ fd, FunD K "listed_members" "listed_members" (defArgs s_listed_members) (defBody s_listed_members) (defScope s_listed_members) [] [] (He.ga K "listed_members") fd
  d_united : ∃ fd, FunD K "united" "united" (defArgs s_united) (defBody s_united) (defScope s_united) [] [] (He.ga K "united") fd
  d_height_lifts : ∃ fd, FunD K "height_lifts" "height_lifts" (defArgs s_height_lifts) (defBody s_height_lifts) (defScope s_height_lifts) [] [] (He.ga K "height_lifts") fd
  d_values_still : ∃ fd, FunD K "values_still" "values_still" (defArgs s_values_still) (defBody s_values_still) (defScope s_values_still) [] [] (He.ga K "values_still") fd
  d_endless_rests : ∃ fd, FunD K "endless_rests" "endless_rests" (defArgs s_endless_rests) (defBody s_endless_rests) (defScope s_endless_rests) [] [] (He.ga K "endless_rests") fd
  d_rests_of : ∃ fd, FunD K "rests_of" "rests_of" (defArgs s_rests_of) (defBody s_rests_of) (defScope s_rests_of) [] [] (He.ga K "rests_of") fd
  d_values_both : ∃ fd, FunD K "values_both" "values_both" (defArgs s_values_both) (defBody s_values_both) (defScope s_values_both) [] [] (He.ga K "values_both") fd
  d_least_ways : ∃ fd, FunD K "least_ways" "least_ways" (defArgs s_least_ways) (defBody s_least_ways) (defScope s_least_ways) [] [] (He.ga K "least_ways") fd
  d_rise_of : ∃ fd, FunD K "rise_of" "rise_of" (defArgs s_rise_of) (defBody s_rise_of) (defScope s_rise_of) [] [] (He.ga K "rise_of") fd
  d_begun : ∃ fd, FunD K "begun" "begun" (defArgs s_begun) (defBody s_begun) (defScope s_begun) [] [] (He.ga K "begun") fd
  d_spread_whole : ∃ fd, FunD K "spread_whole" "spread_whole" (defArgs s_spread_whole) (defBody s_spread_whole) (defScope s_spread_whole) [] [] (He.ga K "spread_whole") fd
  d_spread_least : ∃ fd, FunD K "spread_least" "spread_least" (defArgs s_spread_least) (defBody s_spread_least) (defScope s_spread_least) [] [] (He.ga K "spread_least") fd
  d_risen_lot : ∃ fd, FunD K "risen_lot" "risen_lot" (defArgs s_risen_lot) (defBody s_risen_lot) (defScope s_risen_lot) [] [] (He.ga K "risen_lot") fd
  d_values_rising : ∃ fd, FunD K "values_rising" "values_rising" (defArgs s_values_rising) (defBody s_values_rising) (defScope s_values_rising) [] [] (He.ga K "values_rising") fd
  d_values_in : ∃ fd, FunD K "values_in" "values_in" (defArgs s_values_in) (defBody s_values_in) (defScope s_values_in) [] [] (He.ga K "values_in") fd
  d_ordered_knots : ∃ fd, FunD K "ordered_knots" "ordered_knots" (defArgs s_ordered_knots) (defBody s_ordered_knots) (defScope s_ordered_knots) [] [] (He.ga K "ordered_knots") fd
  d_values_of : ∃ fd, FunD K "values_of" "values_of" (defArgs s_values_of) (defBody s_values_of) (defScope s_values_of) [] [] (He.ga K "values_of") fd
  d_leap_from : ∃ fd, FunD K "leap_from" "leap_from" (defArgs s_leap_from) (defBody s_leap_from) (defScope s_leap_from) [] [] (He.ga K "leap_from") fd
  d_rule_of : ∃ fd, FunD K "rule_of" "rule_of" (defArgs s_rule_of) (defBody s_rule_of) (defScope s_rule_of) [] [] (He.ga K "rule_of") fd
  d_leaping_events : ∃ fd, FunD K "leaping_events" "leaping_events" (defArgs s_leaping_events) (defBody s_leaping_events) (defScope s_leaping_events) [] [] (He.ga K "leaping_events") fd
  d_never_by : ∃ fd, FunD K "never_by" "never_by" (defArgs s_never_by) (defBody s_never_by) (defScope s_never_by) [] [] (He.ga K "never_by") fd
  d_never : ∃ fd, FunD K "never" "never" (defArgs s_never) (defBody s_never) (defScope s_never) [] [] (He.ga K "never") fd
  d_mends : ∃ fd, FunD K "mends" "mends" (defArgs s_mends) (defBody s_mends) (defScope s_mends) [] [] (He.ga K "mends") fd
  d_is_mend : ∃ fd, FunD K "is_mend" "is_mend" (defArgs s_is_mend) (defBody s_is_mend) (defScope s_is_mend) [] [] (He.ga K "is_mend") fd
  d_l_pot : ∃ fd, FunD K "_law_pot" "_law_pot" (defArgs s_l_pot) (defBody s_l_pot) (defScope s_l_pot) [] [] (He.ga K "_law_pot") fd
  d_l_draw : ∃ fd, FunD K "_law_draw" "_law_draw" (defArgs s_l_draw) (defBody s_l_draw) (defScope s_l_draw) [] [] (He.ga K "_law_draw") fd
  d_l_mixed : ∃ fd, FunD K "_law_mixed" "_law_mixed" (defArgs s_l_mixed) (defBody s_l_mixed) (defScope s_l_mixed) [] [] (He.ga K "_law_mixed") fd
  d_l_parts : ∃ fd, FunD K "_law_parts" "_law_parts" (defArgs s_l_parts) (defBody s_l_parts) (defScope s_l_parts) [] [] (He.ga K "_law_parts") fd
  d_l_gcd : ∃ fd, FunD K "_law_gcd" "_law_gcd" (defArgs s_l_gcd) (defBody s_l_gcd) (defScope s_l_gcd) [] [] (He.ga K "_law_gcd") fd
  d_l_low : ∃ fd, FunD K "_law_low" "_law_low" (defArgs s_l_low) (defBody s_l_low) (defScope s_l_low) [] [] (He.ga K "_law_low") fd
  d_l_share : ∃ fd, FunD K "_law_share" "_law_share" (defArgs s_l_share) (defBody s_l_share) (defScope s_l_share) [] [] (He.ga K "_law_share") fd
  d_l_lot : ∃ fd, FunD K "_law_lot" "_law_lot" (defArgs s_l_lot) (defBody s_l_lot) (defScope s_l_lot) [] [] (He.ga K "_law_lot") fd
  d_law : ∃ fd, FunD K "law" "law" (defArgs s_law) (defBody s_law) (defScope s_law) [] [] (He.ga K "law") fd
  d_Machine_init : ∃ fd, FunD K "__init__" "Machine.__init__" (defArgs s_Machine_init) (defBody s_Machine_init) (defScope s_Machine_init) [] [] (He.ma K (He.ga K "Machine") "__init__") fd
  d_Machine_keep : ∃ fd, FunD K "keep" "Machine.keep" (defArgs s_Machine_keep) (defBody s_Machine_keep) (defScope s_Machine_keep) [] [] (He.ma K (He.ga K "Machine") "keep") fd
  d_Machine_eq : ∃ fd, FunD K "__eq__" "Machine.__eq__" (defArgs s_Machine_eq) (defBody s_Machine_eq) (defScope s_Machine_eq) [] [] (He.ma K (He.ga K "Machine") "__eq__") fd
  d_RawMachine_init : ∃ fd, FunD K "__init__" "RawMachine.__init__" (defArgs s_RawMachine_init) (defBody s_RawMachine_init) (defScope s_RawMachine_init) [] [] (He.ma K (He.ga K "RawMachine") "__init__") fd
  d_Lot_init : ∃ fd, FunD K "__init__" "Lot.__init__" (defArgs s_Lot_init) (defBody s_Lot_init) (defScope s_Lot_init) [] [] (He.ma K (He.ga K "Lot") "__init__") fd
  d_Lot_keep : ∃ fd, FunD K "keep" "Lot.keep" (defArgs s_Lot_keep) (defBody s_Lot_keep) (defScope s_Lot_keep) [] [] (He.ma K (He.ga K "Lot") "keep") fd
  d_Lot_told : ∃ fd, FunD K "told" "Lot.told" (defArgs s_Lot_told) (defBody s_Lot_told) (defScope s_Lot_told) [] [] (He.ma K (He.ga K "Lot") "told") fd
  d_Lot_eq : ∃ fd, FunD K "__eq__" "Lot.__eq__" (defArgs s_Lot_eq) (defBody s_Lot_eq) (defScope s_Lot_eq) [] [] (He.ma K (He.ga K "Lot") "__eq__") fd
  d_RawLot_init : ∃ fd, FunD K "__init__" "RawLot.__init__" (defArgs s_RawLot_init) (defBody s_RawLot_init) (defScope s_RawLot_init) [] [] (He.ma K (He.ga K "RawLot") "__init__") fd
  t_WAYS : ∀ H, SqT K H (He.ga K "WAYS") (([.str "up", .str "down"] : List He.Dv).map (He.Dv.v K))
  o_Machine : Lv.OwnC K (He.ga K "Machine") (He.ga K "Machine")
  q_Machine : Lv.OwnE K (He.ga K "Machine") (He.ga K "Machine") (He.ma K (He.ga K "Machine") "__eq__")
  o_RawMachine : Lv.OwnC K (He.ga K "RawMachine") (He.ga K "Machine")
  q_RawMachine : Lv.OwnE K (He.ga K "RawMachine") (He.ga K "Machine") (He.ma K (He.ga K "Machine") "__eq__")
  j_RawMachine_keep : Lv.maB K "RawMachine" "Machine" "keep" = true
  o_Lot : Lv.OwnC K (He.ga K "Lot") (He.ga K "Lot")
  q_Lot : Lv.OwnE K (He.ga K "Lot") (He.ga K "Lot") (He.ma K (He.ga K "Lot") "__eq__")
  o_RawLot : Lv.OwnC K (He.ga K "RawLot") (He.ga K "Lot")
  q_RawLot : Lv.OwnE K (He.ga K "RawLot") (He.ga K "Lot") (He.ma K (He.ga K "Lot") "__eq__")
  j_RawLot_keep : Lv.maB K "RawLot" "Lot" "keep" = true
  j_RawLot_told : Lv.maB K "RawLot" "Lot" "told" = true
theorem txt_of {w : World} {h : Heap} {K : PySem.W.Frag} {mg : Str → Option Value} (X : K.In h) (G : h.Ns mainGlobals mg) (c : He.SaysX fa fn [] [] ex w h K) : Txt K mg := by
  have e0 : ex K = true := c.more
  unfold ex at e0
  simp only [Bool.and_eq_true] at e0
  obtain ⟨⟨⟨⟨⟨⟨⟨⟨⟨⟨⟨b0, b1⟩, b2⟩, b3⟩, b4⟩, b5⟩, b6⟩, b7⟩, b8⟩, b9⟩, b10⟩, b11⟩ := e0
  exact ⟨He.glo_ok X G (c.t.d.fact 0 rfl), He.glo_ok X G (c.t.d.fact 1 rfl), He.glo_ok X G (c.t.d.fact 2 rfl), He.glo_ok X G (c.t.d.fact 3 rfl), He.glo_ok X G (c.t.d.fact 4 rfl), He.glo_ok X G (c.t.d.fact 5 rfl), He.glo_ok X G (c.t.d.fact 6 rfl), He.glo_ok X G (c.t.d.fact 7 rfl), He.glo_ok X G (c.t.d.fact 8 rfl), He.glo_ok X G (c.t.d.fact 9 rfl), He.glo_ok X G (c.t.d.fact 10 rfl), He.glo_ok X G (c.t.d.fact 11 rfl), He.glo_ok X G (c.t.d.fact 12 rfl), He.glo_ok X G (c.t.d.fact 13 rfl), He.glo_ok X G (c.t.d.fact 14 rfl), He.glo_ok X G (c.t.d.fact 15 rfl), He.glo_ok X G (c.t.d.fact 16 rfl), He.glo_ok X G (c.t.d.fact 17 rfl), He.glo_ok X G (c.t.d.fact 18 rfl), He.glo_ok X G (c.t.d.fact 19 rfl), He.glo_ok X G (c.t.d.fact 20 rfl), He.glo_ok X G (c.t.d.fact 21 rfl), He.glo_ok X G (c.t.d.fact 22 rfl), He.glo_ok X G (c.t.d.fact 23 rfl), He.glo_ok X G (c.t.d.fact 24 rfl), He.glo_ok X G (c.t.d.fact 25 rfl), He.glo_ok X G (c.t.d.fact 26 rfl), He.glo_ok X G (c.t.d.fact 27 rfl), He.glo_ok X G (c.t.d.fact 28 rfl), He.glo_ok X G (c.t.d.fact 29 rfl), He.glo_ok X G (c.t.d.fact 30 rfl), He.glo_ok X G (c.t.d.fact 31 rfl), He.glo_ok X G (c.t.d.fact 32 rfl), He.glo_ok X G (c.t.d.fact 33 rfl), He.glo_ok X G (c.t.d.fact 34 rfl), He.glo_ok X G (c.t.d.fact 35 rfl), He.glo_ok X G (c.t.d.fact 36 rfl), He.glo_ok X G (c.t.d.fact 37 rfl), He.glo_ok X G (c.t.d.fact 38 rfl), He.glo_ok X G (c.t.d.fact 39 rfl), He.glo_ok X G (c.t.d.fact 40 rfl), He.glo_ok X G (c.t.d.fact 41 rfl), He.glo_ok X G (c.t.d.fact 42 rfl), He.glo_ok X G (c.t.d.fact 43 rfl), He.glo_ok X G (c.t.d.fact 44 rfl), He.glo_ok X G (c.t.d.fact 45 rfl), He.glo_ok X G (c.t.d.fact 46 rfl), He.glo_ok X G (c.t.d.fact 47 rfl), He.glo_ok X G (c.t.d.fact 48 rfl), He.glo_ok X G (c.t.d.fact 49 rfl), He.glo_ok X G (c.t.d.fact 50 rfl), He.glo_ok X G (c.t.d.fact 51 rfl), He.glo_ok X G (c.t.d.fact 52 rfl), He.glo_ok X G (c.t.d.fact 53 rfl), He.glo_ok X G (c.t.d.fact 54 rfl), He.glo_ok X G (c.t.d.fact 55 rfl), He.glo_ok X G (c.t.d.fact 56 rfl), He.glo_ok X G (c.t.d.fact 57 rfl), He.glo_ok X G (c.t.d.fact 58 rfl), He.glo_ok X G (c.t.d.fact 59 rfl), He.glo_ok X G (c.t.d.fact 60 rfl), He.glo_ok X G (c.t.d.fact 61 rfl), He.glo_ok X G (c.t.d.fact 62 rfl), He.glo_ok X G (c.t.d.fact 63 rfl), He.glo_ok X G (c.t.d.fact 64 rfl), He.glo_ok X G (c.t.d.fact 65 rfl), He.glo_ok X G (c.t.d.fact 66 rfl), He.glo_ok X G (c.t.d.fact 67 rfl), He.glo_ok X G (c.t.d.fact 68 rfl), He.glo_ok X G (c.t.d.fact 69 rfl), He.glo_ok X G (c.t.d.fact 70 rfl), He.glo_ok X G (c.t.d.fact 71 rfl), He.glo_ok X G (c.t.d.fact 72 rfl), He.glo_ok X G (c.t.d.fact 73 rfl), He.glo_ok X G (c.t.d.fact 74 rfl), He.glo_ok X G (c.t.d.fact 75 rfl), He.glo_ok X G (c.t.d.fact 76 rfl), He.glo_ok X G (c.t.d.fact 77 rfl), He.glo_ok X G (c.t.d.fact 78 rfl), He.glo_ok X G (c.t.d.fact 79 rfl), He.glo_ok X G (c.t.d.fact 80 rfl), He.glo_ok X G (c.t.d.fact 81 rfl), He.glo_ok X G (c.t.d.fact 82 rfl), He.glo_ok X G (c.t.d.fact 83 rfl), He.glo_ok X G (c.t.d.fact 84 rfl), He.glo_ok X G (c.t.d.fact 85 rfl), He.glo_ok X G (c.t.d.fact 86 rfl), He.glo_ok X G (c.t.d.fact 87 rfl), He.glo_ok X G (c.t.d.fact 88 rfl), He.glo_ok X G (c.t.d.fact 89 rfl), He.glo_ok X G (c.t.d.fact 90 rfl), He.glo_ok X G (c.t.d.fact 91 rfl), He.glo_ok X G (c.t.d.fact 92 rfl), He.int_ok X G (c.t.d.fact 93 rfl), He.int_ok X G (c.t.d.fact 94 rfl), He.int_ok X G (c.t.d.fact 95 rfl), He.int_ok X G (c.t.d.fact 96 rfl), He.int_ok X G (c.t.d.fact 97 rfl), He.int_ok X G (c.t.d.fact 98 rfl), He.int_ok X G (c.t.d.fact 99 rfl), He.int_ok X G (c.t.d.fact 100 rfl), He.int_ok X G (c.t.d.fact 101 rfl), He.free_ok X G (c.t.d.fact 102 rfl), He.free_ok X G (c.t.d.fact 103 rfl), He.free_ok X G (c.t.d.fact 104 rfl), He.free_ok X G (c.t.d.fact 105 rfl), He.free_ok X G (c.t.d.fact 106 rfl), He.free_ok X G (c.t.d.fact 107 rfl), He.free_ok X G (c.t.d.fact 108 rfl), He.free_ok X G (c.t.d.fact 109 rfl), He.free_ok X G (c.t.d.fact 110 rfl), He.free_ok X G (c.t.d.fact 111 rfl), He.free_ok X G (c.t.d.fact 112 rfl), He.free_ok X G (c.t.d.fact 113 rfl), He.free_ok X G (c.t.d.fact 114 rfl), He.free_ok X G (c.t.d.fact 115 rfl), He.free_ok X G (c.t.d.fact 116 rfl), He.free_ok X G (c.t.d.fact 117 rfl), He.free_ok X G (c.t.d.fact 118 rfl), He.cls_ok (c.t.d.fact 119 rfl), He.noat_ok (c.t.d.fact 120 rfl), He.noat_ok (c.t.d.fact 121 rfl), He.noat_ok (c.t.d.fact 122 rfl), He.mkr_ok (c.t.d.fact 123 rfl), He.meth_ok (c.t.d.fact 124 rfl), He.cls_ok (c.t.d.fact 125 rfl), He.noat_ok (c.t.d.fact 126 rfl), He.noat_ok (c.t.d.fact 127 rfl), He.noat_ok (c.t.d.fact 128 rfl), He.meth_ok (c.t.d.fact 129 rfl), He.mkr_ok (c.t.d.fact 130 rfl), He.cls_ok (c.t.d.fact 131 rfl), He.noat_ok (c.t.d.fact 132 rfl), He.noat_ok (c.t.d.fact 133 rfl), He.noat_ok (c.t.d.fact 134 rfl), He.noat_ok (c.t.d.fact 135 rfl), He.noat_ok (c.t.d.fact 136 rfl), He.noat_ok (c.t.d.fact 137 rfl), He.noat_ok (c.t.d.fact 138 rfl), He.noat_ok (c.t.d.fact 139 rfl), He.noat_ok (c.t.d.fact 140 rfl), He.mkr_ok (c.t.d.fact 141 rfl), He.meth_ok (c.t.d.fact 142 rfl), He.meth_ok (c.t.d.fact 143 rfl), He.cls_ok (c.t.d.fact 144 rfl), He.noat_ok (c.t.d.fact 145 rfl), He.noat_ok (c.t.d.fact 146 rfl), He.noat_ok (c.t.d.fact 147 rfl), He.noat_ok (c.t.d.fact 148 rfl), He.noat_ok (c.t.d.fact 149 rfl), He.noat_ok (c.t.d.fact 150 rfl), He.noat_ok (c.t.d.fact 151 rfl), He.noat_ok (c.t.d.fact 152 rfl), He.noat_ok (c.t.d.fact 153 rfl), He.meth_ok (c.t.d.fact 154 rfl), He.meth_ok (c.t.d.fact 155 rfl), He.mkr_ok (c.t.d.fact 156 rfl), c.t.d.def_ 0 (d := dd0) rfl, c.t.d.def_ 1 (d := dd1) rfl, c.t.d.def_ 2 (d := dd2) rfl, c.t.d.def_ 3 (d := dd3) rfl, c.t.d.def_ 4 (d := dd4) rfl, c.t.d.def_ 5 (d := dd5) rfl, c.t.d.def_ 6 (d := dd6) rfl, c.t.d.def_ 7 (d := dd7) rfl, c.t.d.def_ 8 (d := dd8) rfl, c.t.d.def_ 9 (d := dd9) rfl, c.t.d.def_ 10 (d := dd10) rfl, c.t.d.def_ 11 (d := dd11) rfl, c.t.d.def_ 12 (d := dd12) rfl, c.t.d.def_ 13 (d := dd13) rfl, c.t.d.def_ 14 (d := dd14) rfl, c.t.d.def_ 15 (d := dd15) rfl, c.t.d.def_ 16 (d := dd16) rfl, c.t.d.def_ 17 (d := dd17) rfl, c.t.d.def_ 18 (d := dd18) rfl, c.t.d.def_ 19 (d := dd19) rfl, c.t.d.def_ 20 (d := dd20) rfl, c.t.d.def_ 21 (d := dd21) rfl, c.t.d.def_ 22 (d := dd22) rfl, c.t.d.def_ 23 (d := dd23) rfl, c.t.d.def_ 24 (d := dd24) rfl, c.t.d.def_ 25 (d := dd25) rfl, c.t.d.def_ 26 (d := dd26) rfl, c.t.d.def_ 27 (d := dd27) rfl, c.t.d.def_ 28 (d := dd28) rfl, c.t.d.def_ 29 (d := dd29) rfl, c.t.d.def_ 30 (d := dd30) rfl, c.t.d.def_ 31 (d := dd31) rfl, c.t.d.def_ 32 (d := dd32) rfl, c.t.d.def_ 33 (d := dd33) rfl, c.t.d.def_ 34 (d := dd34) rfl, c.t.d.def_ 35 (d := dd35) rfl, c.t.d.def_ 36 (d := dd36) rfl, c.t.d.def_ 37 (d := dd37) rfl, c.t.d.def_ 38 (d := dd38) rfl, c.t.d.def_ 39 (d := dd39) rfl, c.t.d.def_ 40 (d := dd40) rfl, c.t.d.def_ 41 (d := dd41) rfl, c.t.d.def_ 42 (d := dd42) rfl, c.t.d.def_ 43 (d := dd43) rfl, c.t.d.def_ 44 (d := dd44) rfl, c.t.d.def_ 45 (d := dd45) rfl, c.t.d.def_ 46 (d := dd46) rfl, c.t.d.def_ 47 (d := dd47) rfl, c.t.d.def_ 48 (d := dd48) rfl, c.t.d.def_ 49 (d := dd49) rfl, c.t.d.def_ 50 (d := dd50) rfl, c.t.d.def_ 51 (d := dd51) rfl, c.t.d.def_ 52 (d := dd52) rfl, c.t.d.def_ 53 (d := dd53) rfl, c.t.d.def_ 54 (d := dd54) rfl, c.t.d.def_ 55 (d := dd55) rfl, c.t.d.def_ 56 (d := dd56) rfl, c.t.d.def_ 57 (d := dd57) rfl, c.t.d.def_ 58 (d := dd58) rfl, c.t.d.def_ 59 (d := dd59) rfl, c.t.d.def_ 60 (d := dd60) rfl, c.t.d.def_ 61 (d := dd61) rfl, c.t.d.def_ 62 (d := dd62) rfl, c.t.d.def_ 63 (d := dd63) rfl, c.t.d.def_ 64 (d := dd64) rfl, c.t.d.def_ 65 (d := dd65) rfl, c.t.d.def_ 66 (d := dd66) rfl, c.t.d.def_ 67 (d := dd67) rfl, c.t.d.def_ 68 (d := dd68) rfl, c.t.d.def_ 69 (d := dd69) rfl, c.t.d.def_ 70 (d := dd70) rfl, c.t.d.def_ 71 (d := dd71) rfl, c.t.d.def_ 72 (d := dd72) rfl, c.t.d.def_ 73 (d := dd73) rfl, c.t.d.def_ 74 (d := dd74) rfl, c.t.d.def_ 75 (d := dd75) rfl, c.t.d.def_ 76 (d := dd76) rfl, c.t.d.def_ 77 (d := dd77) rfl, c.t.d.def_ 78 (d := dd78) rfl, c.t.d.def_ 79 (d := dd79) rfl, c.t.d.def_ 80 (d := dd80) rfl, c.t.d.def_ 81 (d := dd81) rfl, c.t.d.def_ 82 (d := dd82) rfl, c.t.d.def_ 83 (d := dd83) rfl, c.t.d.def_ 84 (d := dd84) rfl, c.t.d.def_ 85 (d := dd85) rfl, c.t.d.def_ 86 (d := dd86) rfl, c.t.d.def_ 87 (d := dd87) rfl, c.t.d.def_ 88 (d := dd88) rfl, c.t.d.def_ 89 (d := dd89) rfl, He.tupB_ok (b0), Lv.ownB_ok b1, Lv.eqB_ok b2, Lv.ownB_ok b3, Lv.eqB_ok b4, b5, Lv.ownB_ok b6, Lv.eqB_ok b7, Lv.ownB_ok b8, Lv.eqB_ok b9, b10, b11⟩
end X

namespace X
open PySem PySem.Spec PyProof.Rows L2 Lv
variable {P : Program} {w : World} {K : PySem.W.Frag} {mg : Str → Option Value} {base : Heap}
def sp_is_integer (K : PySem.W.Frag) : Sp := fun vs H Q _ => ∃ n : Int, vs = [.int n] ∧ Q (.bl true) H
theorem sc_is_integer : FnScope ["thing"] ["thing"] (defScope s_is_integer) := ⟨rfl, rfl, rfl, by decide +kernel, rfl, by decide +kernel, by decide +kernel⟩
theorem ok_is_integer (T : Txt K mg) : ∃ fd, Dn P w K mg base (L2.CX P w) 1 "is_integer" ["thing"] (sp_is_integer K) fd := by
  obtain ⟨fd, F⟩ := T.d_is_integer
  refine ⟨fd, F.ok sc_is_integer (fun vs H Q E h => ?_) (fun cdv A outer s H vs Q E hr h => ?_), T.g_is_integer, F.kp, F.bindsN fun _ _ _ _ _ _ us hl => match us, hl with | [_], _ => rfl, Lv.fun_lk F⟩
  · obtain ⟨_, rfl, _⟩ := h
    rfl
  · have hu := hu_of hr
    refine ⟨_, PSs.nox (pss_one (ps_ret (pe_and (pe_callB call_isi (by rfl) T.n_isinstance (by decide +kernel) (pa_cons (pv 0) (pa_cons (pe_bltn (v := .ty "int") (by rfl) T.n_int (by decide +kernel) rfl) pa_nil))) (pe_one (pe_not (pe_callB call_isi (by rfl) T.n_isinstance (by decide +kernel) (pa_cons (pv 0) (pa_cons (pe_bltn (v := .ty "bool") (by rfl) T.n_bool (by decide +kernel) rfl) pa_nil)))))))), ?_⟩
    obtain ⟨n, rfl, k⟩ := h
    exact ⟨_, rfl, _, _, _, _, true, rfl, .ty _, .base (.int n), kit_ty (by decide +kernel), true, rfl, (if_pos rfl).mpr ⟨_, rfl, _, _, _, _, false, rfl, .ty _, .base (.int n), kit_ty (by decide +kernel), false, rfl, k⟩⟩
def sp_is_within (K : PySem.W.Frag) : Sp := fun vs H Q _ => ∃ n a b : Int, vs = [.int n, .int a, .int b] ∧ Q (.bl (decide (a ≤ n ∧ n ≤ b))) H
theorem sc_is_within : FnScope ["thing", "least", "most"] ["thing", "least", "most"] (defScope s_is_within) := ⟨rfl, rfl, rfl, by decide +kernel, rfl, by decide +kernel, by decide +kernel⟩
theorem ok_is_within (T : Txt K mg) {fd_is_integer : FuncData} (G_is_integer : Dn P w K mg base (L2.CX P w) 1 "is_integer" ["thing"] (sp_is_integer K) fd_is_integer) : ∃ fd, Dn P w K mg base (L2.CX P w) 2 "is_within" ["thing", "least", "most"] (sp_is_within K) fd := by
  obtain ⟨fd, F⟩ := T.d_is_within
  refine ⟨fd, F.ok sc_is_within (fun vs H Q E h => ?_) (fun cdv A outer s H vs Q E hr h => ?_), T.g_is_within, F.kp, F.bindsN fun _ _ _ _ _ _ us hl => match us, hl with | [_, _, _], _ => rfl, Lv.fun_lk F⟩
  · obtain ⟨_, _, _, rfl, _⟩ := h
    rfl
  · have hu := hu_of hr
    have hr_is_integer : Room 1 _ := hr.mono (by decide)
    refine ⟨_, PSs.nox (pss_one (ps_ret (pe_and (pe_call G_is_integer.ok hr_is_integer rfl G_is_integer.mg G_is_integer.kp G_is_integer.b .nil passL (pa_cons (pv 0) pa_nil)) (pe_one (pe_chain op_le op_le (pv 1) (pv 0) (pv 2)))))), ?_⟩
    obtain ⟨n, a, b, rfl, k⟩ := h
    refine ⟨_, rfl, n, rfl, true, rfl, (if_pos rfl).mpr ?_⟩
    refine ⟨_, rfl, _, rfl, a, n, rfl, rfl, _, rfl, ?_⟩
    by_cases h1 : a ≤ n
    · refine (if_pos (decide_eq_true h1)).mpr ⟨_, rfl, n, b, rfl, rfl, ?_⟩
      have e : decide (a ≤ n ∧ n ≤ b) = decide (n ≤ b) := by simp [h1]
      rw [e] at k
      exact k
    · refine (if_neg (by simp [h1])).mpr ?_
      have e : decide (a ≤ n ∧ n ≤ b) = false := by simp [h1]
      rw [e] at k
      exact k
def sp_is_from (K : PySem.W.Frag) : Sp := fun vs H Q _ => ∃ n a : Int, vs = [.int n, .int a] ∧ Q (.bl (decide (a ≤ n))) H
theorem sc_is_from : FnScope ["thing", "least"] ["thing", "least"] (defScope s_is_from) := ⟨rfl, rfl, rfl, by decide +kernel, rfl, by decide +kernel, by decide +kernel⟩
theorem ok_is_from (T : Txt K mg) {fd_is_integer : FuncData} (G_is_integer : Dn P w K mg base (L2.CX P w) 1 "is_integer" ["thing"] (sp_is_integer K) fd_is_integer) : ∃ fd, Dn P w K mg base (L2.CX P w) 2 "is_from" ["thing", "least"] (sp_is_from K) fd := by
  obtain ⟨fd, F⟩ := T.d_is_from
  refine ⟨fd, F.ok sc_is_from (fun vs H Q E h => ?_) (fun cdv A outer s H vs Q E hr h => ?_), T.g_is_from, F.kp, F.bindsN fun _ _ _ _ _ _ us hl => match us, hl with | [_, _], _ => rfl, Lv.fun_lk F⟩
  · obtain ⟨_, _, rfl, _⟩ := h
    rfl
  · have hu := hu_of hr
    have hr_is_integer : Room 1 _ := hr.mono (by decide)
    refine ⟨_, PSs.nox (pss_one (ps_ret (pe_and (pe_call G_is_integer.ok hr_is_integer rfl G_is_integer.mg G_is_integer.kp G_is_integer.b .nil passL (pa_cons (pv 0) pa_nil)) (pe_one (pe_cmpR op_ge (pv 0) (pv 1) (nomark _)))))), ?_⟩
    obtain ⟨n, a, rfl, k⟩ := h
    exact ⟨_, rfl, n, rfl, true, rfl, (if_pos rfl).mpr ⟨_, rfl, _, rfl, n, a, rfl, rfl, k⟩⟩
def sp_is_pair (K : PySem.W.Frag) : Sp := fun vs H Q _ => ∃ (p : Addr) (x y : V), vs = [.ref p] ∧ H p = some (.tup [x, y]) ∧ Q (.bl true) H
theorem sc_is_pair : FnScope ["thing"] ["thing"] (defScope s_is_pair) := ⟨rfl, rfl, rfl, by decide +kernel, rfl, by decide +kernel, by decide +kernel⟩
theorem ok_is_pair (T : Txt K mg) : ∃ fd, Dn P w K mg base (L2.CX P w) 1 "is_pair" ["thing"] (sp_is_pair K) fd := by
  obtain ⟨fd, F⟩ := T.d_is_pair
  refine ⟨fd, F.ok sc_is_pair (fun vs H Q E h => ?_) (fun cdv A outer s H vs Q E hr h => ?_), T.g_is_pair, F.kp, F.bindsN fun _ _ _ _ _ _ us hl => match us, hl with | [_], _ => rfl, Lv.fun_lk F⟩
  · obtain ⟨_, _, _, rfl, _⟩ := h
    rfl
  · have hu := hu_of hr
    refine ⟨_, PSs.nox (pss_one (ps_ret (pe_and (pe_callB call_isi (by rfl) T.n_isinstance (by decide +kernel) (pa_cons (pv 0) (pa_cons (pe_bltn (v := .ty "tuple") (by rfl) T.n_tuple (by decide +kernel) rfl) pa_nil))) (pe_one (pe_cmpR op_eq (pe_callB call_len (by rfl) T.n_len PySem.boot_len (pa_cons (pv 0) pa_nil)) pe_int (nomark _)))))), ?_⟩
    obtain ⟨p, x, y, rfl, hp, k⟩ := h
    exact ⟨_, rfl, _, _, _, _, true, rfl, .ty _, .base (.tup hp), kit_ty (by decide +kernel), true, rfl, (if_pos rfl).mpr ⟨_, rfl, _, _, rfl, .inr ⟨_, sqT hp, rfl⟩, rfl, k⟩⟩
def sp_common_divisor (K : PySem.W.Frag) : Sp := fun vs H Q _ => ∃ (a b : Int), vs = [.int a, .int b] ∧ Q (.int (Int.gcd a b : Nat)) H
theorem sc_common_divisor : FnScope ["one", "other"] ["one", "other"] (defScope s_common_divisor) := ⟨rfl, rfl, rfl, by decide +kernel, rfl, by decide +kernel, by decide +kernel⟩
theorem ok_common_divisor (T : Txt K mg) : ∃ fd, Dn P w K mg base (L2.CX P w) 1 "common_divisor" ["one", "other"] (sp_common_divisor K) fd := by
  obtain ⟨fd, F⟩ := T.d_common_divisor
  refine ⟨fd, F.ok sc_common_divisor (fun vs H Q E h => ?_) (fun cdv A outer s H vs Q E hr h => ?_), T.g_common_divisor, F.kp, F.bindsN fun _ _ _ _ _ _ us hl => match us, hl with | [_, _], _ => rfl, Lv.fun_lk F⟩
  · obtain ⟨_, _, rfl, _⟩ := h
    rfl
  · have hu := hu_of hr
    refine ⟨_, PSs.nox (pss_cons (ps_set (i := 0) sc_common_divisor.nd rfl (Or.inl rfl) (pe_callB call_abs (by rfl) T.n_abs (by decide +kernel) (pa_cons (pv 0) pa_nil)))
      (pss_cons (ps_set (i := 1) sc_common_divisor.nd rfl (Or.inl rfl) (pe_callB call_abs (by rfl) T.n_abs (by decide +kernel) (pa_cons (pv 1) pa_nil)))
      (pss_cons (ps_while PassesOwn.never (pt_cmpR op_gt (pv 1) pe_int (nomark _)) (pss_one (ps_par (i := 0) (j := 1) rfl sc_common_divisor.nd rfl rfl (by decide) rfl rfl (pa_cons (pv 1) (pa_cons (pe_op op_mod (pv 0) (pv 1)) pa_nil)) rfl)))
      (pss_one (ps_ret (pv 0)))))), ?_⟩
    obtain ⟨a, b, rfl, k⟩ := h
    refine ⟨_, rfl, _, rfl, _, rfl, _, rfl, ?_⟩
    refine ⟨fun m σ H' => H' = H ∧ ∃ x y : Nat, σ = [some (.int x), some (.int y)] ∧ m = y ∧ Nat.gcd x y = Int.gcd a b, ⟨_, rfl, a.natAbs, b.natAbs, ?_, rfl, rfl⟩, ?_⟩
    · rw [abs_if, abs_if]; rfl
    · rintro m σ H' ⟨eH, x, y, rfl, rfl, e⟩
      subst eH
      refine ⟨_, rfl, _, _, rfl, rfl, _, rfl, ?_⟩
      by_cases h : (0 : Int) < (m : Int)
      · refine itT h ⟨fun σ' H2 => H2 = H' ∧ σ' = [some (.int (m : Nat)), some (.int ((x % m : Nat) : Int))], ?_, ?_⟩
        · rintro σ' H2 ⟨rfl, rfl⟩
          exact ⟨x % m, Nat.mod_lt _ (by omega), rfl, _, _, rfl, rfl, by rw [gcd_turn]; exact e⟩
        · exact ⟨_, rfl, _, rfl, _, rfl, _, _, rfl, rfl, h, _, _, rfl, rfl, rfl⟩
      · refine itF h ?_
        have e0 : m = 0 := by omega
        subst e0
        rw [Nat.gcd_zero_right] at e
        refine ⟨_, rfl, ?_⟩
        rw [e]
        exact k
def sp_is_share (K : PySem.W.Frag) : Sp := fun vs H Q _ => ∃ (p : Addr) (a b : Int), vs = [.ref p] ∧ H p = some (.tup [.int a, .int b]) ∧ 1 ≤ b ∧ Int.gcd a b = 1 ∧ Q (.bl true) H
theorem sc_is_share : FnScope ["thing"] ["thing"] (defScope s_is_share) := ⟨rfl, rfl, rfl, by decide +kernel, rfl, by decide +kernel, by decide +kernel⟩
theorem ok_is_share (T : Txt K mg) {fd_is_pair : FuncData} (G_is_pair : Dn P w K mg base (L2.CX P w) 1 "is_pair" ["thing"] (sp_is_pair K) fd_is_pair) {fd_is_integer : FuncData} (G_is_integer : Dn P w K mg base (L2.CX P w) 1 "is_integer" ["thing"] (sp_is_integer K) fd_is_integer) {fd_is_from : FuncData} (G_is_from : Dn P w K mg base (L2.CX P w) 2 "is_from" ["thing", "least"] (sp_is_from K) fd_is_from) {fd_common_divisor : FuncData} (G_common_divisor : Dn P w K mg base (L2.CX P w) 1 "common_divisor" ["one", "other"] (sp_common_divisor K) fd_common_divisor) : ∃ fd, Dn P w K mg base (L2.CX P w) 3 "is_share" ["thing"] (sp_is_share K) fd := by
  obtain ⟨fd, F⟩ := T.d_is_share
  refine ⟨fd, F.ok sc_is_share (fun vs H Q E h => ?_) (fun cdv A outer s H vs Q E hr h => ?_), T.g_is_share, F.kp, F.bindsN fun _ _ _ _ _ _ us hl => match us, hl with | [_], _ => rfl, Lv.fun_lk F⟩
  · obtain ⟨_, _, _, rfl, _⟩ := h
    rfl
  · have hu := hu_of hr
    have hr_is_pair : Room 1 _ := hr.mono (by decide)
    have hr_is_integer : Room 1 _ := hr.mono (by decide)
    have hr_is_from : Room 2 _ := hr.mono (by decide)
    have hr_common_divisor : Room 1 _ := hr.mono (by decide)
    refine ⟨_, PSs.nox (pss_cons (ps_if (PW.pt (pw_or (pt_not (pt_val (pe_call G_is_pair.ok hr_is_pair rfl G_is_pair.mg G_is_pair.kp G_is_pair.b .nil passL (pa_cons (pv 0) pa_nil)))) (pw_or (pt_not (pt_val (pe_call G_is_integer.ok hr_is_integer rfl G_is_integer.mg G_is_integer.kp G_is_integer.b .nil passL (pa_cons (pe_ix ix_tup (pv 0) pe_int (fun _ _ => rfl)) pa_nil)))) (pw_or1 (pt_not (pt_val (pe_call G_is_from.ok hr_is_from rfl G_is_from.mg G_is_from.kp G_is_from.b .nil passL (pa_cons (pe_ix ix_tup (pv 0) pe_int (fun _ _ => rfl)) (pa_cons pe_int pa_nil))))))))) (pss_one (ps_ret pe_bl)) pss_nil)
      (pss_one (ps_ret (pe_cmpR op_eq (pe_call G_common_divisor.ok hr_common_divisor rfl G_common_divisor.mg G_common_divisor.kp G_common_divisor.b .nil passL (pa_cons (pe_ix ix_tup (pv 0) pe_int (fun _ _ => rfl)) (pa_cons (pe_ix ix_tup (pv 0) pe_int (fun _ _ => rfl)) pa_nil))) pe_int (nomark _))))), ?_⟩
    obtain ⟨p, a, b, rfl, hp, hb, hg, k⟩ := h
    exact ⟨_, rfl, p, _, _, rfl, hp, true, rfl, iteF ⟨_, rfl, p, _, 0, _, rfl, rfl, sqT hp, rfl, a, rfl, true, rfl, iteF ⟨_, rfl, p, _, 1, _, rfl, rfl, sqT hp, rfl, b, 1, rfl, true, by
      rw [decide_eq_true hb], iteF ⟨_, rfl, p, _, 0, _, rfl, rfl, sqT hp, rfl, _, rfl, p, _, 1, _, rfl, rfl, sqT hp, rfl, a, b, rfl, rfl, by
      rw [hg]; exact k⟩⟩⟩⟩
def sp_check_share (K : PySem.W.Frag) : Sp := fun vs H Q _ => ∃ (p : Addr) (a b : Int), vs = [.ref p] ∧ H p = some (.tup [.int a, .int b]) ∧ 1 ≤ b ∧ Int.gcd a b = 1 ∧ Q .non H
theorem sc_check_share : FnScope ["thing"] ["thing"] (defScope s_check_share) := ⟨rfl, rfl, rfl, by decide +kernel, rfl, by decide +kernel, by decide +kernel⟩
theorem ok_check_share (T : Txt K mg) {fd_is_share : FuncData} (G_is_share : Dn P w K mg base (L2.CX P w) 3 "is_share" ["thing"] (sp_is_share K) fd_is_share) : ∃ fd, Dn P w K mg base (L2.CX P w) 4 "check_share" ["thing"] (sp_check_share K) fd := by
  obtain ⟨fd, F⟩ := T.d_check_share
  refine ⟨fd, F.ok sc_check_share (fun vs H Q E h => ?_) (fun cdv A outer s H vs Q E hr h => ?_), T.g_check_share, F.kp, F.bindsN fun _ _ _ _ _ _ us hl => match us, hl with | [_], _ => rfl, Lv.fun_lk F⟩
  · obtain ⟨_, _, _, rfl, _⟩ := h
    rfl
  · have hu := hu_of hr
    have hr_is_share : Room 3 _ := hr.mono (by decide)
    refine ⟨_, PSs.nox (pss_one (ps_if (pt_not (pt_val (pe_call G_is_share.ok hr_is_share rfl G_is_share.mg G_is_share.kp G_is_share.b .nil passL (pa_cons (pv 0) pa_nil)))) (pss_one ps_never) pss_nil)), ?_⟩
    obtain ⟨p, a, b, rfl, hp, hb, hg, k⟩ := h
    exact ⟨_, rfl, p, a, b, rfl, hp, hb, hg, true, rfl, iteF k⟩
end X

namespace X
open PySem PySem.Spec PyProof.Rows L2 Lv
variable {P : Program} {w : World} {K : PySem.W.Frag} {mg : Str → Option Value} {base : Heap}
def sp_lowest (K : PySem.W.Frag) : Sp := fun vs H Q _ => ∃ (a b : Int), vs = [.int a, .int b] ∧ 0 < b ∧ b.natAbs < 2 ^ 199 ∧ ∀ p, H p = none → Q (.ref p) (upd H p (.tup [.int (a / (Int.gcd a b : Nat)), .int (b / (Int.gcd a b : Nat))]))
theorem sc_lowest : FnScope ["top", "bottom", "divisor"] ["top", "bottom"] (defScope s_lowest) := ⟨rfl, rfl, rfl, by decide +kernel, rfl, by decide +kernel, by decide +kernel⟩
theorem ok_lowest (T : Txt K mg) {fd_common_divisor : FuncData} (G_common_divisor : Dn P w K mg base (L2.CX P w) 1 "common_divisor" ["one", "other"] (sp_common_divisor K) fd_common_divisor) : ∃ fd, Dn P w K mg base (L2.CX P w) 2 "lowest" ["top", "bottom"] (sp_lowest K) fd := by
  obtain ⟨fd, F⟩ := T.d_lowest
  refine ⟨fd, F.ok sc_lowest (fun vs H Q E h => ?_) (fun cdv A outer s H vs Q E hr h => ?_), T.g_lowest, F.kp, F.bindsN fun _ _ _ _ _ _ us hl => match us, hl with | [_, _], _ => rfl, Lv.fun_lk F⟩
  · obtain ⟨_, _, rfl, _⟩ := h
    rfl
  · have hu := hu_of hr
    have hr_common_divisor : Room 1 _ := hr.mono (by decide)
    refine ⟨_, PSs.nox (pss_cons (ps_set (i := 2) sc_lowest.nd rfl (Or.inl rfl) (pe_call G_common_divisor.ok hr_common_divisor rfl G_common_divisor.mg G_common_divisor.kp G_common_divisor.b .nil passL (pa_cons (pv 0) (pa_cons (pv 1) pa_nil))))
      (pss_one (ps_ret (pe_tup (pa_cons (pe_op op_fdivW (pv 0) (pv 2)) (pa_cons (pe_op op_fdivW (pv 1) (pv 2)) pa_nil)))))), ?_⟩
    obtain ⟨a, b, rfl, hb, sb, k⟩ := h
    have g0 : 0 < Int.gcd a b := Int.gcd_pos_of_ne_zero_right a (by omega)
    have gl : (((Int.gcd a b : Nat) : Int)).natAbs < 2 ^ 1000 := by
      have h1 : Int.gcd a b ≤ b.natAbs := Nat.gcd_le_right _ (by omega)
      exact Nat.lt_of_le_of_lt (show ((Int.gcd a b : Nat) : Int).natAbs ≤ b.natAbs by omega) (Nat.lt_of_lt_of_le sb (Nat.pow_le_pow_right (by decide) (by decide)))
    refine ⟨_, rfl, _, rfl, a, b, rfl, ?_⟩
    refine ⟨_, rfl, _, rfl, _, _, rfl, rfl, divW (by omega) gl, _, rfl, _, rfl, _, _, rfl, rfl, divW (by omega) gl, (by show 2 ≤ sizeLine; decide), k⟩
end X

namespace X
open PySem PySem.Spec PyProof.Rows L2 Lv
variable {P : Program} {w : World} {K : PySem.W.Frag} {mg : Str → Option Value} {base : Heap}
def sp_l_gcd (K : PySem.W.Frag) : Sp := fun vs H Q _ => ∃ (a b : Int), vs = [.int a, .int b] ∧ a.natAbs * b.natAbs < 2 ^ 399 ∧ Q (.int (Int.gcd a b : Nat)) H
theorem sc_l_gcd : FnScope ["_law_one", "_law_other", "_law_turn"] ["_law_one", "_law_other"] (defScope s_l_gcd) := ⟨rfl, rfl, rfl, by decide +kernel, rfl, by decide +kernel, by decide +kernel⟩
theorem ok_l_gcd (T : Txt K mg) : ∃ fd, Dn P w K mg base (L2.CX P w) 1 "_law_gcd" ["_law_one", "_law_other"] (sp_l_gcd K) fd := by
  obtain ⟨fd, F⟩ := T.d_l_gcd
  refine ⟨fd, F.ok sc_l_gcd (fun vs H Q E h => ?_) (fun cdv A outer s H vs Q E hr h => ?_), T.g_l_gcd, F.kp, F.bindsN fun _ _ _ _ _ _ us hl => match us, hl with | [_, _], _ => rfl, Lv.fun_lk F⟩
  · obtain ⟨_, _, rfl, _⟩ := h
    rfl
  · have hu := hu_of hr
    refine ⟨_, PSs.nox (pss_cons (ps_par (i := 0) (j := 1) rfl sc_l_gcd.nd rfl rfl (by decide) rfl rfl (pa_cons (pe_callB call_abs (by rfl) T.n_abs (by decide +kernel) (pa_cons (pv 0) pa_nil)) (pa_cons (pe_callB call_abs (by rfl) T.n_abs (by decide +kernel) (pa_cons (pv 1) pa_nil)) pa_nil)) rfl)
      (pss_cons (ps_for PassesOwn.never rfl (pi_range1 (by rfl) T.n_range (pa_cons pe_int pa_nil)) (pg_name (i := 2) sc_l_gcd.nd rfl (Or.inl rfl)) (pss_cons (ps_if (pt_cmpR op_eq (pv 1) pe_int (nomark _)) (pss_one ps_break) pss_nil)
      (pss_one (ps_par (i := 0) (j := 1) rfl sc_l_gcd.nd rfl rfl (by decide) rfl rfl (pa_cons (pv 1) (pa_cons (pe_op op_mod (pv 0) (pv 1)) pa_nil)) rfl))))
      (pss_one (ps_ret (pv 0))))), ?_⟩
    obtain ⟨a, b, rfl, hab, k⟩ := h
    refine ⟨_, rfl, _, rfl, _, rfl, _, rfl, _, _, rfl, ?_⟩
    have fin : ∀ (x : Nat) (H' : Hp), H' = H → Nat.gcd x 0 = Int.gcd a b → Q (.int (x : Int)) H' := fun x H' e1 e2 => by
      rw [Nat.gcd_zero_right] at e2
      rw [e1, e2]; exact k
    refine ⟨400, rfl, by decide, by decide, for_range (lo := 0) (n := 400) (fun i σ H' => H' = H ∧ ∃ (x y : Nat) (u : Option V), σ = [some (.int x), some (.int y), u] ∧ x * y < 2 ^ (400 - i) ∧ (i = 0 → x * y < 2 ^ 399) ∧ (1 ≤ i → y < x) ∧ Nat.gcd x y = Int.gcd a b)
      ⟨rfl, a.natAbs, b.natAbs, none, ?_, Nat.lt_of_lt_of_le hab (Nat.pow_le_pow_right (by decide) (by decide)), fun _ => hab, fun h => absurd h (by decide), rfl⟩ ?_ ?_⟩
    · rw [abs_if, abs_if]; rfl
    · rintro i σ H' hi ⟨eH, x, y, u, rfl, h1, h2, h3, e⟩
      refine ⟨_, rfl, rfl, _, rfl, ?_⟩
      by_cases hy : y = 0
      · subst hy
        exact itT rfl ⟨_, rfl, fin x H' eH e⟩
      · refine itF (fun q => hy (by have := V.int.inj q; omega)) ?_
        refine ⟨_, rfl, _, rfl, _, rfl, _, _, rfl, rfl, (by show (0 : Int) < (y : Int); omega), _, _, rfl, ?_⟩
        refine ⟨eH, y, x % y, _, rfl, ?_, fun q => absurd q (by omega), fun _ => Nat.mod_lt _ (by omega), by rw [gcd_turn]; exact e⟩
        have hm : y * (x % y) ≤ x * y := by
          rw [Nat.mul_comm x y]; exact Nat.mul_le_mul_left y (Nat.mod_le x y)
        by_cases hi0 : i = 0
        · subst hi0
          exact Nat.lt_of_le_of_lt hm (h2 rfl)
        · have hh := euclid_half (h3 (by omega)) (by omega)
          have e2 : 2 ^ (400 - i) = 2 * 2 ^ (400 - (i + 1)) := by
            rw [show 400 - i = (400 - (i + 1)) + 1 by omega, Nat.pow_succ, Nat.mul_comm]
          rw [e2] at h1
          omega
    · rintro σ H' ⟨eH, x, y, u, rfl, h1, h2, h3, e⟩
      have hxy := h3 (by decide)
      have h0 : x * y = 0 := by
        have : x * y < 1 := h1
        omega
      have hy : y = 0 := by
        rcases Nat.mul_eq_zero.mp h0 with q | q
        · omega
        · exact q
      subst hy
      exact ⟨_, rfl, fin x H' eH e⟩
def sp_l_low (K : PySem.W.Frag) : Sp := fun vs H Q _ => ∃ (a b : Int), vs = [.int a, .int b] ∧ 0 < b ∧ a.natAbs < 2 ^ 199 ∧ b.natAbs < 2 ^ 199 ∧ ∀ p, H p = none → Q (.ref p) (upd H p (.tup [.int (a / (Int.gcd a b : Nat)), .int (b / (Int.gcd a b : Nat))]))
theorem sc_l_low : FnScope ["_law_top", "_law_bottom", "_law_part"] ["_law_top", "_law_bottom"] (defScope s_l_low) := ⟨rfl, rfl, rfl, by decide +kernel, rfl, by decide +kernel, by decide +kernel⟩
theorem ok_l_low (T : Txt K mg) {fd_l_gcd : FuncData} (G_l_gcd : Dn P w K mg base (L2.CX P w) 1 "_law_gcd" ["_law_one", "_law_other"] (sp_l_gcd K) fd_l_gcd) : ∃ fd, Dn P w K mg base (L2.CX P w) 2 "_law_low" ["_law_top", "_law_bottom"] (sp_l_low K) fd := by
  obtain ⟨fd, F⟩ := T.d_l_low
  refine ⟨fd, F.ok sc_l_low (fun vs H Q E h => ?_) (fun cdv A outer s H vs Q E hr h => ?_), T.g_l_low, F.kp, F.bindsN fun _ _ _ _ _ _ us hl => match us, hl with | [_, _], _ => rfl, Lv.fun_lk F⟩
  · obtain ⟨_, _, rfl, _⟩ := h
    rfl
  · have hu := hu_of hr
    have hr_l_gcd : Room 1 _ := hr.mono (by decide)
    refine ⟨_, PSs.nox (pss_cons (ps_set (i := 2) sc_l_low.nd rfl (Or.inl rfl) (pe_call G_l_gcd.ok hr_l_gcd rfl G_l_gcd.mg G_l_gcd.kp G_l_gcd.b .nil passL (pa_cons (pv 0) (pa_cons (pv 1) pa_nil))))
      (pss_one (ps_ret (pe_tup (pa_cons (pe_op op_fdivW (pv 0) (pv 2)) (pa_cons (pe_op op_fdivW (pv 1) (pv 2)) pa_nil)))))), ?_⟩
    obtain ⟨a, b, rfl, hb, sa, sb, k⟩ := h
    have g0 : 0 < Int.gcd a b := Int.gcd_pos_of_ne_zero_right a (by omega)
    have gl : (((Int.gcd a b : Nat) : Int)).natAbs < 2 ^ 1000 := by
      have h1 : Int.gcd a b ≤ b.natAbs := Nat.gcd_le_right _ (by omega)
      exact Nat.lt_of_le_of_lt (show ((Int.gcd a b : Nat) : Int).natAbs ≤ b.natAbs by omega) (Nat.lt_of_lt_of_le sb (Nat.pow_le_pow_right (by decide) (by decide)))
    refine ⟨_, rfl, _, rfl, a, b, rfl, Nat.lt_of_lt_of_le (Nat.mul_lt_mul'' sa sb) (by rw [← Nat.pow_add]; exact Nat.pow_le_pow_right (by decide) (by decide)), ?_⟩
    refine ⟨_, rfl, _, rfl, _, _, rfl, rfl, divW (by omega) gl, _, rfl, _, rfl, _, _, rfl, rfl, divW (by omega) gl, (by show 2 ≤ sizeLine; decide), k⟩
end X

namespace X
open PySem PySem.Spec PyProof.Rows L2 Lv
variable {P : Program} {w : World} {K : PySem.W.Frag} {mg : Str → Option Value} {base : Heap}
def sp_is_event (K : PySem.W.Frag) : Sp := fun vs H Q _ => ∃ (t : Addr) (n : Int) (e : Ev), vs = [.ref t, .int n] ∧ H t = some (.tup (evV e)) ∧ EvOk n e ∧ Q (.bl true) H
theorem sc_is_event : FnScope ["thing", "standings"] ["thing", "standings"] (defScope s_is_event) := ⟨rfl, rfl, rfl, by decide +kernel, rfl, by decide +kernel, by decide +kernel⟩
theorem ok_is_event (T : Txt K mg) {fd_is_within : FuncData} (G_is_within : Dn P w K mg base (L2.CX P w) 2 "is_within" ["thing", "least", "most"] (sp_is_within K) fd_is_within) : ∃ fd, Dn P w K mg base (L2.CX P w) 3 "is_event" ["thing", "standings"] (sp_is_event K) fd := by
  obtain ⟨fd, F⟩ := T.d_is_event
  refine ⟨fd, F.ok sc_is_event (fun vs H Q E h => ?_) (fun cdv A outer s H vs Q E hr h => ?_), T.g_is_event, F.kp, F.bindsN fun _ _ _ _ _ _ us hl => match us, hl with | [_, _], _ => rfl, Lv.fun_lk F⟩
  · obtain ⟨_, _, _, rfl, _⟩ := h
    rfl
  · have hu := hu_of hr
    have hr_is_within : Room 2 _ := hr.mono (by decide)
    refine ⟨_, PSs.nox (pss_cons (ps_if (PW.pt (pw_or (pt_not (pt_val (pe_callB call_isi (by rfl) T.n_isinstance (by decide +kernel) (pa_cons (pv 0) (pa_cons (pe_bltn (v := .ty "tuple") (by rfl) T.n_tuple (by decide +kernel) rfl) pa_nil))))) (pw_or1 (pt_cmpR op_ne (pe_callB call_len (by rfl) T.n_len PySem.boot_len (pa_cons (pv 0) pa_nil)) pe_int (nomark _))))) (pss_one (ps_ret pe_bl)) pss_nil)
      (pss_cons (ps_if (PW.pt (pw_or (pt_not (pt_val (pe_call G_is_within.ok hr_is_within rfl G_is_within.mg G_is_within.kp G_is_within.b .nil passL (pa_cons (pe_ix ix_tup (pv 0) pe_int (fun _ _ => rfl)) (pa_cons pe_int (pa_cons (pe_op op_sub (pv 1) pe_int) pa_nil)))))) (pw_or1 (pt_not (pt_val (pe_call G_is_within.ok hr_is_within rfl G_is_within.mg G_is_within.kp G_is_within.b .nil passL (pa_cons (pe_ix ix_tup (pv 0) pe_int (fun _ _ => rfl)) (pa_cons pe_int (pa_cons (pe_op op_sub (pv 1) pe_int) pa_nil))))))))) (pss_one (ps_ret pe_bl)) pss_nil)
      (pss_one (ps_ret (pe_and (pe_call G_is_within.ok hr_is_within rfl G_is_within.mg G_is_within.kp G_is_within.b .nil passL (pa_cons (pe_ix ix_tup (pv 0) pe_int (fun _ _ => rfl)) (pa_cons pe_int (pa_cons (pe_glob (v := .int (40)) rfl T.i_MOST_TRIES.choose_spec ⟨_, rfl⟩) pa_nil)))) (pe_one (pe_call G_is_within.ok hr_is_within rfl G_is_within.mg G_is_within.kp G_is_within.b .nil passL (pa_cons (pe_ix ix_tup (pv 0) pe_int (fun _ _ => rfl)) (pa_cons (pe_un un_neg (pe_glob (v := .int (400)) rfl T.i_MOST_POINTS.choose_spec ⟨_, rfl⟩)) (pa_cons (pe_glob (v := .int (400)) rfl T.i_MOST_POINTS.choose_spec ⟨_, rfl⟩) pa_nil)))))))))), ?_⟩
    obtain ⟨t, n, e, rfl, ht, he, k⟩ := h
    obtain ⟨h1, h2, h3, h4, h5, h6, h7, h8⟩ := he
    refine ⟨_, rfl, _, _, _, _, true, rfl, .ty _, .base (.tup ht), kit_ty (by decide +kernel), true, rfl, iteF ?_⟩
    refine ⟨_, rfl, _, _, rfl, .inr ⟨_, sqT ht, rfl⟩, rfl, false, rfl, iteF ?_⟩
    refine ⟨_, rfl, t, _, 0, _, rfl, rfl, sqT ht, rfl, _, rfl, _, _, rfl, rfl, e.b, 0, n - 1, rfl, true, by rw [decide_eq_true ⟨h1, by omega⟩], iteF ?_⟩
    refine ⟨_, rfl, t, _, 1, _, rfl, rfl, sqT ht, rfl, _, rfl, _, _, rfl, rfl, e.a, 0, n - 1, rfl, true, by rw [decide_eq_true ⟨h3, by omega⟩], iteF ?_⟩
    refine ⟨_, rfl, t, _, 2, _, rfl, rfl, sqT ht, rfl, e.w, 1, 40, rfl, true, by rw [decide_eq_true ⟨h5, h6⟩], iteT ?_⟩
    exact ⟨_, rfl, t, _, 3, _, rfl, rfl, sqT ht, rfl, _, rfl, e.x, -400, 400, rfl, qT (Q := Q) (decide_eq_true ⟨h7, h8⟩) k⟩
theorem mc_M (T : Txt K mg) : MC K (He.ga K "Machine") := ⟨T.c_Machine, T.na_Machine_standings, T.na_Machine_events, T.na_Machine_kept_out, T.o_Machine, T.q_Machine⟩
theorem sc_Machine_keep : FnScope ["self", "standings", "events", "number", "event", "standing"] ["self", "standings", "events"] (defScope s_Machine_keep) := ⟨rfl, rfl, rfl, by decide +kernel, rfl, by decide +kernel, by decide +kernel⟩
theorem ok_Machine_keep (T : Txt K mg) : ∃ fd, Dm P w K mg base (L2.CX P w) 1 "Machine" "keep" ["self", "standings", "events"] (spKeepM K) fd := by
  obtain ⟨fd, F⟩ := T.d_Machine_keep
  refine ⟨fd, F.ok sc_Machine_keep (fun vs H Q E h => ?_) (fun cdv A outer s H vs Q E hr h => ?_), F.bindsN fun _ _ _ _ _ _ us hl => match us, hl with | [_, _, _], _ => rfl, Lv.fun_lk F⟩
  · obtain ⟨_, _, _, _, _, _, _, _, _, rfl, _⟩ := h
    rfl
  · have hu := hu_of hr
    refine ⟨_, PSs.nox (pss_cons (ps_fld (pv 0) (pv 1) rfl)
      (pss_cons (ps_fld (pv 0) (pv 2) rfl)
      (pss_cons (ps_fld (pv 0) (pe_lc (own := [("standing", 5)]) (g := gName 5) (tt := tYes) rfl sc_Machine_keep.nd (pi_range1 (by rfl) T.n_range (pa_cons (pv 1) pa_nil)) (blkOk_by (N := ["self", "standings", "events", "number", "event", "standing"]) (sc := defScope s_Machine_keep) (by decide +kernel)) (fun _ _ _ _ _ => (pg_name (i := 5) sc_Machine_keep.nd rfl (Or.inl rfl) (hf := Or.inr rfl))) (fun _ _ _ _ _ => pts_nil) (fun _ _ _ _ _ => (pe_lst pa_nil))) rfl)
      (pss_one (ps_for PassesOwn.never rfl (pi_enumT (by rfl) T.n_enumerate (pa_cons (pv 2) pa_nil)) (pg_tup rfl (pgs_cons (pg_name (i := 3) sc_Machine_keep.nd rfl (Or.inl rfl)) (pgs_cons (pg_name (i := 4) sc_Machine_keep.nd rfl (Or.inl rfl)) pgs_nil))) (pss_one (ps_expr (pe_bm PySem.F.plainAttrs_list PySem.F.slot_list_append PySem.F.type_list_append mt_append (pe_ix ix_list (pe_fld (pv 0) rfl) (pe_ix ix_tup (pv 4) pe_int (fun _ _ => rfl)) (fun _ _ => rfl)) (pa_cons (pv 3) pa_nil))))))))), ?_⟩
    obtain ⟨C, hC, x, t, n, dx, es, G, P0, rfl, j, hx, hE, h1, h2, h3, hb, k⟩ := h
    obtain ⟨vs, ht, hv⟩ := hE
    have ntx : t ≠ x := ne_of ht hx (by intro z; cases z)
    refine ⟨_, rfl, _, rfl, x, _, dx, _, rfl, j.g _ _ hx, hC.c, hC.ns, (by show 0 < 1000; decide), ?_⟩
    have j1 := j.setG (o := .ins C dx [("standings", .int n)]) (j.gp hx)
    refine ⟨_, rfl, _, rfl, x, _, dx, _, rfl, upd_same, hC.c, hC.ne, (by show 1 < 1000; decide), ?_⟩
    have j2 := j1.setG (o := .ins C dx (putF "events" (.ref t) (putF "standings" (.int n) []))) (j1.gp upd_same)
    have hx2 : (upd (upd G x (.ins C dx [("standings", .int n)])) x (.ins C dx (putF "events" (.ref t) (putF "standings" (.int n) [])))) x = some (.ins C dx [("standings", .int n), ("events", .ref t)]) := by
      rw [upd_same, mf1, mf2]
    have b2 : But x G (upd (upd G x (.ins C dx [("standings", .int n)])) x (.ins C dx (putF "events" (.ref t) (putF "standings" (.int n) [])))) := fun b o e nb => by
      rw [upd_ne nb, upd_ne nb]; exact e
    have e2 : upd (upd H x (.ins C dx (putF "standings" (.int n) []))) x (.ins C dx (putF "events" (.ref t) (putF "standings" (.int n) []))) = upd (upd H x (.ins C dx [("standings", .int n)])) x (.ins C dx (putF "events" (.ref t) (putF "standings" (.int n) []))) := rfl
    generalize (upd (upd G x (.ins C dx [("standings", .int n)])) x (.ins C dx (putF "events" (.ref t) (putF "standings" (.int n) [])))) = G2 at j2 hx2 b2
    rw [← e2] at j2
    generalize (upd (upd H x (.ins C dx (putF "standings" (.int n) []))) x (.ins C dx (putF "events" (.ref t) (putF "standings" (.int n) [])))) = H2 at j2 ⊢
    clear e2 j1
    refine ⟨_, rfl, n, rfl, by omega, by omega, fun D hD => ?_⟩
    have gD := j2.ng hD
    have pD := j2.np hD
    refine lc_range (lo := 0) (n := n.toNat) (fun i H' => ∃ (G' : Hp) (ks : List V), Join G' P0 H' ∧ Ex G2 G' ∧ G' D = some (.lst ks) ∧ ks.length = i ∧ (∀ a : Nat, a < i → ∃ k : Addr, ks[a]? = some (.ref k) ∧ G' k = some (.lst []) ∧ G2 k = none ∧ k ≠ D) ∧ (∀ (a b : Nat) (k : Addr), ks[a]? = some (.ref k) → ks[b]? = some (.ref k) → a = b))
      ⟨_, [], j2.newG hD, Ex.new gD, upd_same, rfl, fun a ha => absurd ha (Nat.not_lt_zero _), fun a b k ha => by simp at ha⟩ ?_ ?_
    · rintro i H' hi ⟨G', ks, j', e', hd, hl, hk, hu'⟩
      refine ⟨rfl, iteT (B := True) ⟨Nat.zero_le _, fun q hq => ?_⟩⟩
      have nqD : D ≠ q := ne_of_none (j'.g _ _ hd) hq
      have gq := j'.ng hq
      refine ⟨ks, Eq.trans (upd_ne nqD) (j'.g _ _ hd), szlt (by omega), ?_⟩
      have j3 := (j'.newG (o := .lst []) hq).setG (o := .lst (ks ++ [.ref q])) pD
      have old : ∀ (a : Nat) (k : Addr), ks[a]? = some (.ref k) → k ≠ q := fun a k ha => by
        obtain ⟨k', q1, q2, _⟩ := hk a (by rw [← hl]; exact (List.getElem?_eq_some_iff.mp ha).1)
        rw [ha] at q1
        injection q1 with q1
        injection q1 with q1
        subst q1
        exact ne_of_none q2 gq
      refine ⟨_, _, j3, fun b o eb => ?_, upd_same, by simp [hl], fun a ha => ?_, fun a b k ha hb' => ?_⟩
      · have nbD : b ≠ D := ne_of_none eb gD
        rw [upd_ne nbD, upd_ne (ne_of_none (e' _ _ eb) gq)]
        exact e' _ _ eb
      · by_cases hai : a < i
        · obtain ⟨k, q1, q2, q3, q4⟩ := hk a hai
          refine ⟨k, by rw [List.getElem?_append_left (by omega)]; exact q1, ?_, q3, q4⟩
          rw [upd_ne q4, upd_ne (ne_of_none q2 gq)]; exact q2
        · have ea : a = ks.length := by omega
          subst ea
          exact ⟨q, by simp, by rw [upd_ne nqD.symm, upd_same], e'.back gq, nqD.symm⟩
      · by_cases ha1 : a < ks.length
        · rw [List.getElem?_append_left ha1] at ha
          by_cases hb1 : b < ks.length
          · rw [List.getElem?_append_left hb1] at hb'
            exact hu' a b k ha hb'
          · exfalso
            have := (List.getElem?_eq_some_iff.mp hb').1
            simp at this
            have eb : b = ks.length := by omega
            subst eb
            simp at hb'
            exact old a k ha hb'.symm
        · have := (List.getElem?_eq_some_iff.mp ha).1
          simp at this
          have ea : a = ks.length := by omega
          subst ea
          simp at ha
          by_cases hb1 : b < ks.length
          · exfalso
            rw [List.getElem?_append_left hb1] at hb'
            exact old b k hb' ha.symm
          · have := (List.getElem?_eq_some_iff.mp hb').1
            simp at this
            omega
    · rintro H3 ⟨G3, ks, j3, e3, hd, hl, hk, hu'⟩
      have hx3 := e3 _ _ hx2
      refine ⟨_, rfl, x, _, dx, _, rfl, j3.g _ _ hx3, hC.c, hC.nk, (by show 2 < 1000; decide), ?_⟩
      have j4 := j3.setG (o := .ins C dx (putF "kept_out" (.ref D) [("standings", .int n), ("events", .ref t)])) (j3.gp hx3)
      have hx4 : (upd G3 x (.ins C dx (putF "kept_out" (.ref D) [("standings", .int n), ("events", .ref t)]))) x = some (.ins C dx (mfl n t D)) := by rw [upd_same, mf3]
      have nDx : D ≠ x := ne_of hd hx3 (by intro z; cases z)
      have hd4 : (upd G3 x (.ins C dx (putF "kept_out" (.ref D) [("standings", .int n), ("events", .ref t)]))) D = some (.lst ks) := Eq.trans (upd_ne nDx) hd
      have hk4 : ∀ a : Nat, a < ks.length → ∃ k : Addr, ks[a]? = some (.ref k) ∧ (upd G3 x (.ins C dx (putF "kept_out" (.ref D) [("standings", .int n), ("events", .ref t)]))) k = some (.lst []) ∧ k ≠ D := fun a ha => by
        obtain ⟨k, q1, q2, q3, q4⟩ := hk a (by omega)
        exact ⟨k, q1, Eq.trans (upd_ne (ne_of q2 hx3 (by intro z; cases z))) q2, q4⟩
      have b4 : But x G (upd G3 x (.ins C dx (putF "kept_out" (.ref D) [("standings", .int n), ("events", .ref t)]))) := fun b o e nb => by
        rw [upd_ne nb]; exact e3 _ _ (b2 _ _ e nb)
      have kfresh : ∀ (a : Nat) (b : Addr) (o : HO), ks[a]? = some (.ref b) → G b = some o → False := fun a b o ha hb' => by
        obtain ⟨k, q1, q2, q3, q4⟩ := hk a (by rw [← hl]; exact (List.getElem?_eq_some_iff.mp ha).1)
        rw [ha] at q1
        injection q1 with q1
        injection q1 with q1
        subst q1
        by_cases hbx : b = x
        · subst hbx; rw [hx2] at q3; cases q3
        · rw [b2 _ _ hb' hbx] at q3; cases q3
      generalize (upd G3 x (.ins C dx (putF "kept_out" (.ref D) [("standings", .int n), ("events", .ref t)]))) = G4 at j4 hx4 hd4 hk4 b4
      generalize upd H3 x (HO.ins C dx (putF "kept_out" (V.ref D) [("standings", V.int n), ("events", V.ref t)])) = H4 at j4 ⊢
      have hxk : ∀ (a : Nat), ks[a]? ≠ some (.ref x) := fun a ha => kfresh a x _ ha hx
      have hDk : ∀ (a : Nat), ks[a]? ≠ some (.ref D) := fun a ha => by
        obtain ⟨k, q1, q2, q3⟩ := hk4 a (List.getElem?_eq_some_iff.mp ha).1
        rw [ha] at q1
        injection q1 with q1
        injection q1 with q1
        exact q3 q1.symm
      have gK : ∀ (b : Addr) (o : HO), G b = some o → ∀ (a : Nat), ks[a]? ≠ some (.ref b) := fun b o hb' a ha => kfresh a b o ha hb'
      refine ⟨_, rfl, t, vs, rfl, sqT (j4.g _ _ (b4 _ _ ht ntx)), for_enumT (K := K) (a := t) (xs := vs) (fun i σ H' => ∃ (G' : Hp) (s3 s4 s5 : Option V), σ = [some (.ref x), some (.int n), some (.ref t), s3, s4, s5] ∧ Join G' P0 H' ∧ (∀ b o, G4 b = some o → (∀ a : Nat, ks[a]? ≠ some (.ref b)) → G' b = some o) ∧
          ∀ a : Nat, a < ks.length → ∃ k : Addr, ks[a]? = some (.ref k) ∧ G' k = some (.lst ((outs 0 (es.take i) a).map V.int)))
        ⟨G4, _, _, _, rfl, j4, fun b o e _ => e, fun a ha => ?_⟩ ?_ ?_ ?_⟩
      · obtain ⟨k, q1, q2, _⟩ := hk4 a ha
        exact ⟨k, q1, q2⟩
      · rintro i σ H' _ ⟨G', s3, s4, s5, rfl, j', o', c'⟩
        exact sqT (j'.g _ _ (o' _ _ (b4 _ _ ht ntx) (gK _ _ ht)))
      · rintro i y σ H' T' hy ⟨G', s3, s4, s5, rfl, j', o', c'⟩ hT
        obtain ⟨e, te, he, rfl, hte⟩ := hv.get hy
        have hin : i < es.length := (List.getElem?_eq_some_iff.mp he).1
        obtain ⟨be1, be2⟩ := hb e (List.mem_of_getElem? he)
        have nte : te ≠ x := ne_of hte hx (by intro z; cases z)
        obtain ⟨k', q1, q2⟩ := c' e.b.toNat (by omega)
        have j5 := j'.newG (o := .tup [.int i, .ref te]) hT
        have gT := j'.ng hT
        have up : ∀ b o, G' b = some o → (upd G' T' (.tup [.int i, .ref te])) b = some o := fun b o eb => Ex.new gT b o eb
        have hx5 := j5.g _ _ (up _ _ (o' _ _ hx4 hxk))
        have hD5 := j5.g _ _ (up _ _ (o' _ _ hd4 hDk))
        have hte5 := j5.g _ _ (up _ _ (o' _ _ (b4 _ _ hte nte) (gK _ _ hte)))
        have hk5 := j5.g _ _ (up _ _ q2)
        refine ⟨T', _, rfl, sqT upd_same, rfl, _, _, rfl, _, _, rfl, rfl, ?_⟩
        refine ⟨_, rfl, x, _, dx, _, _, rfl, hx5, hC.c, hC.nk, ml3 _ _ _, _, rfl, te, _, 0, _, rfl, rfl, sqT hte5, rfl, D, ks, e.b, .ref k', rfl, rfl, sqL hD5, atI_int be1 q1, .inl ⟨rfl, _, sqL hk5⟩, _, rfl, k', _, .int i, rfl, rfl, hk5, szlt ?_, ?_⟩
        · have := outs_len e.b.toNat (es.take i) 0
          rw [List.length_map]
          rw [List.length_take] at this
          omega
        · refine ⟨_, _, _, _, rfl, j5.setG (j5.gp (up _ _ q2)), fun b o eb nb => ?_, fun a ha => ?_⟩
          · rw [upd_ne (fun z => nb e.b.toNat (by rw [z]; exact q1))]
            exact up _ _ (o' _ _ eb nb)
          · by_cases hae : a = e.b.toNat
            · subst hae
              refine ⟨k', q1, ?_⟩
              rw [upd_same, take_more he, outs_app, if_pos (by omega), List.map_append]
              have el : 0 + (es.take i).length = i := by rw [List.length_take]; omega
              rw [el]; rfl
            · obtain ⟨k2, r1, r2⟩ := c' a ha
              have nk : k2 ≠ k' := fun z => by
                rw [z] at r1
                exact hae (hu' _ _ _ r1 q1)
              refine ⟨k2, r1, ?_⟩
              rw [upd_ne nk, take_more he, outs_app, if_neg (by omega), List.append_nil]
              exact up _ _ r2
      · rintro σ H' ⟨G', s3, s4, s5, rfl, j', o', c'⟩
        refine k G' H' j' (fun b o eb nb => o' _ _ (b4 _ _ eb nb) (gK _ _ eb)) ⟨dx, t, D, ks, o' _ _ hx4 hxk, ⟨vs, o' _ _ (b4 _ _ ht ntx) (gK _ _ ht), hv.1, fun i e he => ?_⟩, o' _ _ hd4 hDk, by omega, fun i hi => ?_⟩
        · obtain ⟨te, r1, r2⟩ := hv.2 i e he
          exact ⟨te, r1, o' _ _ (b4 _ _ r2 (ne_of r2 hx (by intro z; cases z))) (gK _ _ r2)⟩
        · obtain ⟨k2, r1, r2⟩ := c' i hi
          rw [hv.1, List.take_length] at r2
          exact ⟨k2, r1, r2⟩
theorem sc_Machine_init : FnScope ["self", "standings", "events", "number", "thing"] ["self", "standings", "events"] (defScope s_Machine_init) := ⟨rfl, rfl, rfl, by decide +kernel, rfl, by decide +kernel, by decide +kernel⟩
theorem ok_Machine_init (T : Txt K mg) {fd_is_within : FuncData} (G_is_within : Dn P w K mg base (L2.CX P w) 2 "is_within" ["thing", "least", "most"] (sp_is_within K) fd_is_within) {fd_is_event : FuncData} (G_is_event : Dn P w K mg base (L2.CX P w) 3 "is_event" ["thing", "standings"] (sp_is_event K) fd_is_event) {fd_Machine_keep : FuncData} (G_Machine_keep : Dm P w K mg base (L2.CX P w) 1 "Machine" "keep" ["self", "standings", "events"] (spKeepM K) fd_Machine_keep) : ∃ fd, Dm P w K mg base (L2.CX P w) 4 "Machine" "__init__" ["self", "standings", "events"] (spMInit (He.ga K "Machine")) fd := by
  obtain ⟨fd, F⟩ := T.d_Machine_init
  refine ⟨fd, F.ok sc_Machine_init (fun vs H Q E h => ?_) (fun cdv A outer s H vs Q E hr h => ?_), F.bindsN fun _ _ _ _ _ _ us hl => match us, hl with | [_, _, _], _ => rfl, Lv.fun_lk F⟩
  · obtain ⟨_, _, _, _, _, _, _, rfl, _⟩ := h
    rfl
  · have hu := hu_of hr
    have hr_is_within : Room 2 _ := hr.mono (by decide)
    have hr_is_event : Room 3 _ := hr.mono (by decide)
    have hr_Machine_keep : Room 1 _ := hr.mono (by decide)
    refine ⟨_, PSs.nox (pss_cons (ps_if (pt_not (pt_val (pe_call G_is_within.ok hr_is_within rfl G_is_within.mg G_is_within.kp G_is_within.b .nil passL (pa_cons (pv 1) (pa_cons pe_int (pa_cons (pe_glob (v := .int (12)) rfl T.i_MOST_STANDINGS.choose_spec ⟨_, rfl⟩) pa_nil)))))) (pss_one ps_never) pss_nil)
      (pss_cons (ps_if (PW.pt (pw_or (pt_not (pt_val (pe_callB call_isi (by rfl) T.n_isinstance (by decide +kernel) (pa_cons (pv 2) (pa_cons (pe_bltn (v := .ty "tuple") (by rfl) T.n_tuple (by decide +kernel) rfl) pa_nil))))) (pw_or1 (pt_cmpR op_gt (pe_callB call_len (by rfl) T.n_len PySem.boot_len (pa_cons (pv 2) pa_nil)) (pe_glob (v := .int (30)) rfl T.i_MOST_EVENTS.choose_spec ⟨_, rfl⟩) (nomark _))))) (pss_one ps_never) pss_nil)
      (pss_cons (ps_for PassesOwn.never rfl (pi_enumT (by rfl) T.n_enumerate (pa_cons (pv 2) pa_nil)) (pg_tup rfl (pgs_cons (pg_name (i := 3) sc_Machine_init.nd rfl (Or.inl rfl)) (pgs_cons (pg_name (i := 4) sc_Machine_init.nd rfl (Or.inl rfl)) pgs_nil))) (pss_one (ps_if (pt_not (pt_val (pe_call G_is_event.ok hr_is_event rfl G_is_event.mg G_is_event.kp G_is_event.b .nil passL (pa_cons (pv 4) (pa_cons (pv 1) pa_nil))))) (pss_one ps_never) pss_nil)))
      (pss_one (ps_expr (pe_meth (pv 0) T.c_Machine T.me_Machine_keep G_Machine_keep.ok hr_Machine_keep G_Machine_keep.b .nil passL (pa_cons (pv 1) (pa_cons (pv 2) pa_nil)))))))), ?_⟩
    obtain ⟨x, t, n, dx, es, G, P0, rfl, j, hx, hE, h1, h2, h3, hok, k⟩ := h
    obtain ⟨vs, ht, hv⟩ := id hE
    have hl : vs.length ≤ 30 := by rw [hv.1]; exact h3
    refine ⟨_, rfl, n, 1, 12, rfl, true, by rw [decide_eq_true ⟨h1, h2⟩], iteF ?_⟩
    refine ⟨_, rfl, _, _, _, _, true, rfl, .ty _, .base (.tup (j.g _ _ ht)), kit_ty (by decide +kernel), true, rfl, iteF ?_⟩
    refine ⟨_, rfl, _, _, rfl, .inr ⟨_, sqT (j.g _ _ ht), rfl⟩, _, _, rfl, rfl, false, congrArg V.bl (decide_eq_false (by omega)), iteF ?_⟩
    refine ⟨_, rfl, t, vs, rfl, sqT (j.g _ _ ht), for_enumT (K := K) (a := t) (xs := vs) (fun i σ H' => ∃ (G' : Hp) (s3 s4 : Option V), σ = [some (.ref x), some (.int n), some (.ref t), s3, s4] ∧ Join G' P0 H' ∧ Ex G G')
      ⟨G, _, _, rfl, j, Ex.refl _⟩ ?_ ?_ ?_⟩
    · rintro i σ H' _ ⟨G', s3, s4, rfl, j', e'⟩
      exact sqT (j'.g _ _ (e' _ _ ht))
    · rintro i y σ H' T' hy ⟨G', s3, s4, rfl, j', e'⟩ hT
      obtain ⟨e, te, he, rfl, hte⟩ := hv.get hy
      have j5 := j'.newG (o := .tup [.int i, .ref te]) hT
      have e5 := e'.trans (Ex.new (o := .tup [.int i, .ref te]) (j'.ng hT))
      refine ⟨T', _, rfl, sqT upd_same, rfl, _, _, rfl, _, _, rfl, rfl, ?_⟩
      exact ⟨_, rfl, _, rfl, te, n, e, rfl, j5.g _ _ (e5 _ _ hte), hok e (List.mem_of_getElem? he), true, rfl, iteF ⟨_, _, _, rfl, j5, e5⟩⟩
    · rintro σ H' ⟨G', s3, s4, rfl, j', e'⟩
      refine ⟨_, rfl, x, dx, _, rfl, j'.g _ _ (e' _ _ hx), rfl, _, rfl, _, rfl, _, mc_M T, x, t, n, dx, es, G', P0, rfl, j', e' _ _ hx, hE.mono e', h1, by omega, by omega, fun e he => ⟨(hok e he).1, (hok e he).2.1⟩, fun G2 H2 j2 b2 m2 => ?_⟩
      exact k G2 H2 j2 (fun b o eb nb => b2 _ _ (e' _ _ eb) nb) m2
theorem sc_Machine_eq : FnScope ["self", "other"] ["self", "other"] (defScope s_Machine_eq) := ⟨rfl, rfl, rfl, by decide +kernel, rfl, by decide +kernel, by decide +kernel⟩
theorem ok_Machine_eq (T : Txt K mg) : ∃ fd, Dm P w K mg base (L2.CX P w) 1 "Machine" "__eq__" ["self", "other"] (spMEq K) fd := by
  obtain ⟨fd, F⟩ := T.d_Machine_eq
  refine ⟨fd, F.ok sc_Machine_eq (fun vs H Q E h => ?_) (fun cdv A outer s H vs Q E hr h => ?_), F.bindsN fun _ _ _ _ _ _ us hl => match us, hl with | [_, _], _ => rfl, Lv.fun_lk F⟩
  · obtain ⟨_, _, _, _, _, _, rfl, _⟩ := h
    rfl
  · have hu := hu_of hr
    refine ⟨_, PSs.nox (pss_one (ps_ret (pe_and (pe_callB call_isi (by rfl) T.n_isinstance (by decide +kernel) (pa_cons (pv 1) (pa_cons (pe_glob (v := .ref (He.ga K "Machine")) rfl T.g_Machine rfl) pa_nil))) (pe_and (pe_cmpR op_eq (pe_fld (pv 0) rfl) (pe_fld (pv 1) rfl) (nomark _)) (pe_one (pe_cmpR (op_eqD hr.units) (pe_fld (pv 0) rfl) (pe_fld (pv 1) rfl) (nomark _))))))), ?_⟩
    obtain ⟨a, b, n, n', es, es', rfl, ha, hb, q⟩ := h
    obtain ⟨Ca, h1, dx, t, ko, ks, h2, ⟨vs, h3, h4⟩, _⟩ := id ha
    obtain ⟨Cb, g1, dy, t', ko', ks', g2, ⟨vs', g3, g4⟩, _⟩ := id hb
    refine ⟨_, rfl, _, _, _, _, true, rfl, .own _, g1.ty g2, g1.o.kit, true, rfl, iteT ⟨_, rfl, a, Ca, dx, _, _, rfl, h2, h1.c, h1.ns, ml1 _ _ _, _, rfl, b, Cb, dy, _, _, rfl, g2, g1.c, g1.ns, ml1 _ _ _, rfl, _, rfl, ?_⟩⟩
    by_cases hn : n = n'
    · refine itT (congrArg V.int hn) ⟨_, rfl, a, Ca, dx, _, _, rfl, h2, h1.c, h1.ne, ml2 _ _ _, _, rfl, b, Cb, dy, _, _, rfl, g2, g1.c, g1.ne, ml2 _ _ _, _, _, dp_tt h3 h4.tupL, dp_tt g3 g4.tupL, shaped_dU _, shaped_dU _, ?_⟩
      rw [eqv_dU]
      have e : decide (es.map evI = es'.map evI) = decide (n = n' ∧ es = es') := decide_eq_decide.mpr ⟨fun h => ⟨hn, evI_inj h⟩, fun h => by rw [h.2]⟩
      rw [e]; exact q
    · refine itF (fun h => hn (V.int.inj h)) ?_
      rw [decide_eq_false (fun h => hn h.1)] at q
      exact q
end X

namespace X
open PySem PySem.Spec PyProof.Rows L2 Lv
variable {P : Program} {w : World} {K : PySem.W.Frag} {mg : Str → Option Value} {base : Heap}
theorem cut_ints (ns : List Int) (lo hi : Option Int) : ∃ ms : List Int, cutV (ns.map V.int) lo hi = ms.map V.int ∧ ms.length ≤ ns.length := by
  refine ⟨(ns.drop (HT.sIx (ns.map V.int).length 0 lo)).take (HT.sIx (ns.map V.int).length (ns.map V.int).length hi - HT.sIx (ns.map V.int).length 0 lo), ?_, ?_⟩
  · unfold cutV
    rw [List.map_take, List.map_drop]
  · rw [List.length_take, List.length_drop]
    omega
theorem sc_l_pot : FnScope ["_law_script", "_law_cells", "_law_greats", "_law_smalls", "_law_item"] ["_law_script"] (defScope s_l_pot) := ⟨rfl, rfl, rfl, by decide +kernel, rfl, by decide +kernel, by decide +kernel⟩
theorem ok_l_pot (T : Txt K mg) : ∃ fd, Dn P w K mg base (L2.CX P w) 1 "_law_pot" ["_law_script"] (spPot K) fd := by
  obtain ⟨fd, F⟩ := T.d_l_pot
  refine ⟨fd, F.ok sc_l_pot (fun vs H Q E h => ?_) (fun cdv A outer s H vs Q E hr h => ?_), T.g_l_pot, F.kp, F.bindsN fun _ _ _ _ _ _ us hl => match us, hl with | [_], _ => rfl, Lv.fun_lk F⟩
  · obtain ⟨_, _, rfl, _⟩ := h
    rfl
  · have hu := hu_of hr
    refine ⟨_, PSs.nox (pss_cons (ps_setLc (i := 1) (own := [("_law_item", 4)]) (g := gName 4) (tt := tYes) rfl sc_l_pot.nd rfl rfl (sw_true rfl rfl rfl (by decide +kernel)) (pi_list (pe_slice sl_list (pv 0) po_none (po_some pe_int))) (blkOk_by (N := ["_law_script", "_law_cells", "_law_greats", "_law_smalls", "_law_item"]) (sc := defScope s_l_pot) (by decide +kernel)) (fun _ _ _ _ _ => (pg_name (i := 4) sc_l_pot.nd rfl (Or.inl rfl) (hf := Or.inr rfl))) (fun _ _ _ _ _ => pts_nil) (fun _ _ _ _ _ => (pe_callTy call_int1 (by rfl) T.n_int (by decide +kernel) (pa_cons (pv 4) pa_nil))))
      (pss_cons (ps_setLc (i := 2) (own := [("_law_item", 4)]) (g := gName 4) rfl sc_l_pot.nd rfl rfl (sw_true rfl rfl rfl (by decide +kernel)) (pi_list (pv 1)) (blkOk_by (N := ["_law_script", "_law_cells", "_law_greats", "_law_smalls", "_law_item"]) (sc := defScope s_l_pot) (by decide +kernel)) (fun _ _ _ _ _ => (pg_name (i := 4) sc_l_pot.nd rfl (Or.inl rfl) (hf := Or.inr rfl))) (fun _ _ _ _ _ => (pts_one (pt_cmpR op_ge (pe_callB call_abs (by rfl) T.n_abs (by decide +kernel) (pa_cons (pv 4) pa_nil)) (pe_op op_pow pe_int pe_int) (nomark _)))) (fun _ _ _ _ _ => (pe_callB call_abs (by rfl) T.n_abs (by decide +kernel) (pa_cons (pv 4) pa_nil))))
      (pss_cons (ps_set (i := 3) sc_l_pot.nd rfl (Or.inl rfl) (pe_op op_cat (pe_lc (own := [("_law_item", 4)]) (g := gName 4) rfl sc_l_pot.nd (pi_list (pv 1)) (blkOk_by (N := ["_law_script", "_law_cells", "_law_greats", "_law_smalls", "_law_item"]) (sc := defScope s_l_pot) (by decide +kernel)) (fun _ _ _ _ _ => (pg_name (i := 4) sc_l_pot.nd rfl (Or.inl rfl) (hf := Or.inr rfl))) (fun _ _ _ _ _ => (pts_one (pt_cmpR op_lt (pe_callB call_abs (by rfl) T.n_abs (by decide +kernel) (pa_cons (pv 4) pa_nil)) (pe_op op_pow pe_int pe_int) (nomark _)))) (fun _ _ _ _ _ => (pe_op op_mod (pe_callTy call_int1 (by rfl) T.n_int (by decide +kernel) (pa_cons (pv 4) pa_nil)) pe_int))) (pe_lst (pa_cons (pe_op op_add (pe_callB call_len_seq (by rfl) T.n_len PySem.boot_len (pa_cons (pv 1) pa_nil)) pe_int) pa_nil))))
      (pss_one (ps_ret (pe_lst (pa_cons (pv 2) (pa_cons (pv 3) (pa_cons pe_int (pa_cons (pe_op op_mod (pe_callTy call_int1 (by rfl) T.n_int (by decide +kernel) (pa_cons (pe_callB (cr_sum rfl) (by rfl) T.n_sum (by decide +kernel) (pa_cons (pv 3) pa_nil)) pa_nil)) pe_int) pa_nil)))))))))), ?_⟩
    obtain ⟨a, ns, rfl, hS, hl, k⟩ := h
    obtain ⟨ms, em, lm⟩ := cut_ints ns none (some 63)
    refine ⟨_, rfl, 63, rfl, a, _, rfl, hS, fun p hp => ⟨p, rfl, ⟨_, sqL upd_same⟩, fun D1 h1 => ?_⟩⟩
    rw [em] at h1 ⊢
    have j1 := (Join.self H).newG (o := .lst (ms.map V.int)) hp
    refine lc_ints (K := K) (ns := ms) (fun _ => true) (fun z => z) h1 (sqL upd_same) (by omega) (fun _ => rfl) ?_ ?_ ?_
    · exact fun z H' R _ r => r
    · exact fun z H' R _ _ r => ⟨_, rfl, .inl ⟨_, rfl, r⟩⟩
    have e1 : ((ms.filter fun _ => true).map fun z => z) = ms := by simp
    rw [e1]
    have j2 := j1.newG (o := .lst (ms.map V.int)) h1
    clear j1
    -- _law_greats
    refine ⟨_, rfl, D1, rfl, ⟨_, sqL upd_same⟩, fun D2 h2 => ?_⟩
    refine lc_ints (K := K) (ns := ms) (fun z => decide ((10 : Int) ^ 18 ≤ (if z < 0 then -z else z))) (fun z => if z < 0 then -z else z) h2 (sqL upd_same) (by omega) (fun _ => rfl) ?_ ?_ ?_
    · exact fun z H' R _ r => ⟨_, rfl, _, rfl, _, _, rfl, rfl, ⟨by decide, by decide, by decide⟩, _, _, rfl, rfl, _, rfl, r⟩
    · exact fun z H' R _ _ r => ⟨_, rfl, _, rfl, r⟩
    have hg : ((ms.filter fun z => decide ((10 : Int) ^ 18 ≤ (if z < 0 then -z else z))).map fun z => if z < 0 then -z else z).length ≤ 63 := by
      rw [List.length_map]
      have := List.length_filter_le (fun z : Int => decide ((10 : Int) ^ 18 ≤ (if z < 0 then -z else z))) ms
      omega
    generalize ((ms.filter fun z => decide ((10 : Int) ^ 18 ≤ (if z < 0 then -z else z))).map fun z => if z < 0 then -z else z) = gs at hg ⊢
    have j3 := j2.setP (o := .lst (gs.map V.int)) (j2.ng h2)
    -- _law_smalls
    have n12 : D1 ≠ D2 := fun q => by rw [← q, upd_same] at h2; cases h2
    refine ⟨_, rfl, D1, rfl, ⟨_, sqL (Eq.trans (upd_ne n12) upd_same)⟩, fun D3 h3 => ?_⟩
    refine lc_ints (K := K) (ns := ms) (fun z => decide ((if z < 0 then -z else z) < (10 : Int) ^ 18)) (fun z => z % 1000000007) h3 (sqL (Eq.trans (upd_ne n12) upd_same)) (by omega) (fun _ => rfl) ?_ ?_ ?_
    · exact fun z H' R _ r => ⟨_, rfl, _, rfl, _, _, rfl, rfl, ⟨by decide, by decide, by decide⟩, _, _, rfl, rfl, _, rfl, r⟩
    · exact fun z H' R _ _ r => ⟨_, rfl, .inl ⟨_, rfl, _, _, rfl, rfl, (by show (0 : Int) < 1000000007; decide), r⟩⟩
    have hs : ((ms.filter fun z => decide ((if z < 0 then -z else z) < (10 : Int) ^ 18)).map fun z => z % 1000000007).length ≤ 63 := by
      rw [List.length_map]
      have := List.length_filter_le (fun z : Int => decide ((if z < 0 then -z else z) < (10 : Int) ^ 18)) ms
      omega
    generalize ((ms.filter fun z => decide ((if z < 0 then -z else z) < (10 : Int) ^ 18)).map fun z => z % 1000000007) = ss at hs ⊢
    have j4 := j3.newG (o := .lst (ss.map V.int)) h3
    have n13 : D1 ≠ D3 := fun q => by rw [← q, upd_ne n12, upd_same] at h3; cases h3
    refine ⟨_, rfl, _, _, rfl, .inl (sqL (by rw [upd_ne n13, upd_ne n12, upd_same])), _, _, rfl, rfl, (by show 1 ≤ sizeLine; decide), fun D4 h4 => ?_⟩
    have j5 := j4.newG (o := .lst [V.int (((ms.map V.int).length : Int) + 1)]) h4
    have n34 : D3 ≠ D4 := fun q => by rw [← q, upd_same] at h4; cases h4
    refine ⟨D3, D4, _, _, rfl, rfl, Eq.trans (upd_ne n34) upd_same, upd_same, by rw [List.length_map]; exact szle (by show _ + 1 ≤ _; omega), fun D5 h5 => ?_⟩
    have j6 := j5.setP (o := .lst (ss.map V.int ++ [V.int (((ms.map V.int).length : Int) + 1)])) (j5.ng h5)
    have e2 : ss.map V.int ++ [V.int (((ms.map V.int).length : Int) + 1)] = (ss ++ [((ms.map V.int).length : Int) + 1]).map V.int := by rw [List.map_append]; rfl
    rw [e2] at j6 ⊢
    refine ⟨_, rfl, _, rfl, _, rfl, D5, _, rfl, sqL upd_same, .inl ⟨_, rfl, _, _, rfl, rfl, (by show (0 : Int) < 999983; decide), (by show 4 ≤ sizeLine; decide), fun l hl0 => ?_⟩⟩
    have n25 : D2 ≠ D5 := ne_of_none (j5.p D2 _ upd_same) h5
    have q2 := j6.p D2 _ (Eq.trans (upd_ne n25) upd_same)
    have q5 := j6.p D5 _ upd_same
    have j7 := j6.setP (o := .lst [V.ref D2, V.ref D5, V.int 0, V.int ((ss ++ [((ms.map V.int).length : Int) + 1]).sum % 999983)]) (j6.ng hl0)
    refine k l _ _ _ ((((Ex.new hp).trans (Ex.new h1)).trans (Ex.new (j3.ng h3))).trans (Ex.new (j4.ng h4))) j7 ⟨D2, D5, gs, _, 0, _, upd_same, Eq.trans (upd_ne (ne_of_none q2 hl0)) (Eq.trans (upd_ne n25) upd_same), Eq.trans (upd_ne (ne_of_none q5 hl0)) upd_same, n25, ?_, ?_, by omega⟩
    · simp
    · simp; omega
theorem sc_l_draw : FnScope ["_law_pot_here", "_law_many", "_law_turn", "_law_seed", "_law_number"] ["_law_pot_here", "_law_many"] (defScope s_l_draw) := ⟨rfl, rfl, rfl, by decide +kernel, rfl, by decide +kernel, by decide +kernel⟩
theorem ok_l_draw (T : Txt K mg) : ∃ fd, Dn P w K mg base (L2.CX P w) 1 "_law_draw" ["_law_pot_here", "_law_many"] spDraw fd := by
  obtain ⟨fd, F⟩ := T.d_l_draw
  refine ⟨fd, F.ok sc_l_draw (fun vs H Q E h => ?_) (fun cdv A outer s H vs Q E hr h => ?_), T.g_l_draw, F.kp, F.bindsN fun _ _ _ _ _ _ us hl => match us, hl with | [_, _], _ => rfl, Lv.fun_lk F⟩
  · obtain ⟨_, _, _, _, rfl, _⟩ := h
    rfl
  · have hu := hu_of hr
    refine ⟨_, PSs.nox (pss_cons (ps_set (i := 2) sc_l_draw.nd rfl (Or.inl rfl) (pe_ix ix_list (pv 0) pe_int (fun _ _ => rfl)))
      (pss_cons (ps_asg (pe_op op_add (pv 2) pe_int) (pg_sub (pv 0) pe_int set_list))
      (pss_cons (ps_if (pt_cmpR op_gt (pe_callB call_len_seq (by rfl) T.n_len PySem.boot_len (pa_cons (pe_ix ix_list (pv 0) pe_int (fun _ _ => rfl)) pa_nil)) pe_int (nomark _)) (pss_cons (ps_set (i := 4) sc_l_draw.nd rfl (Or.inl rfl) (pe_ix ix_list (pe_ix ix_list (pv 0) pe_int (fun _ _ => rfl)) pe_int (fun _ _ => rfl)))
      (pss_cons (ps_asg (pe_op op_fdivW (pv 4) (pv 1)) (pg_sub (pe_ix ix_list (pv 0) pe_int (fun _ _ => rfl)) pe_int set_list))
      (pss_cons (ps_if (pt_cmpR op_lt (pv 4) (pv 1) (nomark _)) (pss_one (ps_expr (pe_bm PySem.F.plainAttrs_list PySem.F.slot_list_pop PySem.F.type_list_pop mt_popAt (pe_ix ix_list (pv 0) pe_int (fun _ _ => rfl)) (pa_cons pe_int pa_nil)))) pss_nil)
      (pss_one (ps_ret (pe_op op_mod (pe_callTy call_int1 (by rfl) T.n_int (by decide +kernel) (pa_cons (pv 4) pa_nil)) (pv 1))))))) pss_nil)
      (pss_cons (ps_set (i := 3) sc_l_draw.nd rfl (Or.inl rfl) (pe_op op_add (pe_op op_add (pe_op op_mul (pe_ix ix_list (pe_ix ix_list (pv 0) pe_int (fun _ _ => rfl)) (pe_op op_mod (pe_callTy call_int1 (by rfl) T.n_int (by decide +kernel) (pa_cons (pv 2) pa_nil)) (pe_callB call_len_seq (by rfl) T.n_len PySem.boot_len (pa_cons (pe_ix ix_list (pv 0) pe_int (fun _ _ => rfl)) pa_nil))) (fun _ _ => rfl)) pe_int) (pe_op op_mul pe_int (pv 2))) (pe_op op_mul (pe_ix ix_list (pv 0) pe_int (fun _ _ => rfl)) pe_int)))
      (pss_cons (ps_set (i := 4) sc_l_draw.nd rfl (Or.inl rfl) (pe_op op_mod (pe_callTy call_int1 (by rfl) T.n_int (by decide +kernel) (pa_cons (pe_op op_add (pe_op op_mul (pv 3) pe_int) pe_int) pa_nil)) pe_int))
      (pss_cons (ps_set (i := 4) sc_l_draw.nd rfl (Or.inl rfl) (pe_op op_mod (pe_callTy call_int1 (by rfl) T.n_int (by decide +kernel) (pa_cons (pe_op op_mulW (pv 4) (pe_op op_add (pe_op op_fdiv (pv 4) pe_int) pe_int)) pa_nil)) pe_int))
      (pss_cons (ps_set (i := 4) sc_l_draw.nd rfl (Or.inl rfl) (pe_op op_mod (pe_callTy call_int1 (by rfl) T.n_int (by decide +kernel) (pa_cons (pe_op op_add (pe_op op_mulW (pv 4) (pe_op op_add (pe_op op_fdiv (pv 4) pe_int) pe_int)) (pv 2)) pa_nil)) pe_int))
      (pss_one (ps_ret (pe_op op_mod (pe_callTy call_int1 (by rfl) T.n_int (by decide +kernel) (pa_cons (pe_op op_fdiv (pv 4) pe_int) pa_nil)) (pv 1))))))))))), ?_⟩
    obtain ⟨l, n, G, P0, rfl, j, ⟨g, sa, gs, ss, t, c, hl, hg, hs, ngs, h0s, hls, hlg⟩, hn0, hn, k⟩ := h
    have ngl : g ≠ l := ne_of hg hl (by intro z; cases gs <;> simp at z)
    have nsl : sa ≠ l := ne_of hs hl (by intro z; cases ss <;> simp at z)
    have bn : n.natAbs < 2 ^ 1000 := nat1000 (Int.le_of_lt hn0) hn
    -- turn = pot[2]; pot[2] = turn + 1
    refine ⟨_, rfl, l, _, 2, _, rfl, rfl, sqL (j.p _ _ hl), rfl, ?_⟩
    refine ⟨_, rfl, t, 1, rfl, rfl, _, rfl, l, _, 2, 2, rfl, rfl, j.p _ _ hl, rfl, ?_⟩
    have j1 := j.setP (o := .lst [V.ref g, V.ref sa, V.int (t + 1), V.int c]) (j.ap _ _ hl)
    have hl1 : (upd P0 l (.lst [V.ref g, V.ref sa, V.int (t + 1), V.int c])) l = _ := upd_same
    have hg1 : (upd P0 l (.lst [V.ref g, V.ref sa, V.int (t + 1), V.int c])) g = _ := Eq.trans (upd_ne ngl) hg
    have hs1 : (upd P0 l (.lst [V.ref g, V.ref sa, V.int (t + 1), V.int c])) sa = _ := Eq.trans (upd_ne nsl) hs
    generalize (upd P0 l (.lst [V.ref g, V.ref sa, V.int (t + 1), V.int c])) = P1 at j1 hl1 hg1 hs1
    refine ⟨_, rfl, l, _, 0, _, rfl, rfl, sqL (j1.p _ _ hl1), rfl, g, _, rfl, .inl (sqL (j1.p _ _ hg1)), _, _, rfl, rfl, _, rfl, ?_⟩
    cases gs with
    | cons z r =>
      refine itT (by simp) ?_
      refine ⟨_, rfl, l, _, 0, _, rfl, rfl, sqL (j1.p _ _ hl1), rfl, g, _, 0, _, rfl, rfl, sqL (j1.p _ _ hg1), atI_int (by decide) rfl, ?_⟩
      have j2 := j1.setP (o := .lst (V.int (z / n) :: r.map V.int)) (j1.ap _ _ hg1)
      refine ⟨_, rfl, _, rfl, _, _, rfl, rfl, divW hn0 bn, _, rfl, l, _, 0, _, rfl, rfl, sqL (j1.p _ _ hl1), rfl, g, _, 0, 0, rfl, rfl, j1.p _ _ hg1, ixN_nat (by simp), ?_⟩
      have hl2 : (upd P1 g (.lst (V.int (z / n) :: r.map V.int))) l = _ := Eq.trans (upd_ne ngl.symm) hl1
      have hg2 : (upd P1 g (.lst (V.int (z / n) :: r.map V.int))) g = _ := upd_same
      have hs2 : (upd P1 g (.lst (V.int (z / n) :: r.map V.int))) sa = _ := Eq.trans (upd_ne ngs.symm) hs1
      generalize (upd P1 g (.lst (V.int (z / n) :: r.map V.int))) = P2 at j2 hl2 hg2 hs2
      refine ⟨_, rfl, _, rfl, _, _, rfl, rfl, _, rfl, ?_⟩
      have fin : ∀ (P3 H3 : Hp), Join G P3 H3 → Pot P3 l → Q (V.int (z % n)) H3 := fun P3 H3 => k (z % n) P3 H3 (Int.emod_nonneg _ (by omega)) (Int.emod_lt_of_pos _ hn0)
      by_cases hz : z < n
      · refine itT hz ?_
        have j3 := j2.setP (o := .lst (r.map V.int)) (j2.ap _ _ hg2)
        refine ⟨_, rfl, l, _, 0, _, rfl, rfl, sqL (j2.p _ _ hl2), rfl, .inl ⟨rfl, _, sqL (j2.p _ _ hg2)⟩, g, _, 0, 0, _, rfl, rfl, j2.p _ _ hg2, by decide, by decide, seq_nat (by simp), rfl, ?_⟩
        refine ⟨_, rfl, .inl ⟨_, rfl, _, rfl, _, _, rfl, rfl, hn0, fin _ _ j3 ⟨g, sa, r, ss, _, _, Eq.trans (upd_ne ngl.symm) hl2, upd_same, Eq.trans (upd_ne ngs.symm) hs2, ngs, h0s, hls, ?_⟩⟩⟩
        simp at hlg; omega
      · refine itF hz ?_
        exact ⟨_, rfl, .inl ⟨_, rfl, _, rfl, _, _, rfl, rfl, hn0, fin _ _ j2 ⟨g, sa, z / n :: r, ss, _, _, hl2, hg2, hs2, ngs, h0s, hls, by simpa using hlg⟩⟩⟩
    | nil =>
      refine itF (by simp) ?_
      have hp0 : (0 : Int) < ((ss.map V.int).length : Int) := by rw [List.length_map]; omega
      obtain ⟨v, hv⟩ : ∃ v, ss[(t % ((ss.map V.int).length : Int)).toNat]? = some v := by
        have h1 := Int.emod_nonneg t (Int.ne_of_gt hp0)
        have h2 := Int.emod_lt_of_pos t hp0
        rw [List.length_map] at h1 h2 ⊢
        exact ⟨_, List.getElem?_eq_getElem (by omega)⟩
      have hat : atI (ss.map V.int) (t % ((ss.map V.int).length : Int)) = some (V.int v) := atI_int (Int.emod_nonneg t (Int.ne_of_gt hp0)) (by rw [List.getElem?_map, hv]; rfl)
      refine ⟨_, rfl, l, _, 1, _, rfl, rfl, sqL (j1.p _ _ hl1), rfl, _, rfl, .inl ⟨_, rfl, _, rfl, l, _, 1, _, rfl, rfl, sqL (j1.p _ _ hl1), rfl, sa, _, rfl, .inl (sqL (j1.p _ _ hs1)), _, _, rfl, rfl, hp0, sa, _, _, _, rfl, rfl, sqL (j1.p _ _ hs1), hat, _, _, rfl, rfl, .inr ⟨by decide, by decide⟩,
        _, rfl, _, _, rfl, rfl, .inl ⟨by decide, by decide⟩, _, _, rfl, rfl, _, rfl, l, _, 3, _, rfl, rfl, sqL (j1.p _ _ hl1), rfl, _, _, rfl, rfl, .inr ⟨by decide, by decide⟩, _, _, rfl, rfl, ?_⟩⟩
      refine ⟨_, rfl, _, _, rfl, rfl, .inr ⟨by decide, by decide⟩, _, _, rfl, rfl, .inl ⟨_, rfl, _, _, rfl, rfl, (by show (0 : Int) < 2147483647; decide), ?_⟩⟩
      refine ⟨_, rfl, _, rfl, _, _, rfl, rfl, ⟨by decide, by decide⟩, _, _, rfl, rfl, _, _, rfl, rfl, mulSm (by omega) (by omega) (by omega) (by omega), .inl ⟨_, rfl, _, _, rfl, rfl, (by show (0 : Int) < 2147483629; decide), ?_⟩⟩
      refine ⟨_, rfl, _, rfl, _, _, rfl, rfl, ⟨by decide, by decide⟩, _, _, rfl, rfl, _, _, rfl, rfl, mulSm (by omega) (by omega) (by omega) (by omega), _, rfl, _, _, rfl, rfl, .inl ⟨_, rfl, _, _, rfl, rfl, (by show (0 : Int) < 2147483399; decide), ?_⟩⟩
      refine ⟨_, rfl, _, _, rfl, rfl, ⟨by decide, by decide⟩, .inl ⟨_, rfl, _, rfl, _, _, rfl, rfl, hn0, ?_⟩⟩
      exact k _ _ _ (Int.emod_nonneg _ (by omega)) (Int.emod_lt_of_pos _ hn0) j1 ⟨g, sa, [], ss, _, _, hl1, hg1, hs1, ngs, h0s, hls, by simp⟩
end X

namespace X
open PySem PySem.Spec PyProof.Rows L2 Lv
variable {P : Program} {w : World} {K : PySem.W.Frag} {mg : Str → Option Value} {base : Heap}
theorem sc_l_parts : FnScope ["_law_pot_here", "_law_most_standings", "_law_most_events", "_law_standings", "_law_kind", "_law_events", "_law_at", "_law_tries", "_law_points", "_law_before", "_law_after"] ["_law_pot_here", "_law_most_standings", "_law_most_events"] (defScope s_l_parts) := ⟨rfl, rfl, rfl, by decide +kernel, rfl, by decide +kernel, by decide +kernel⟩
theorem ok_l_parts (T : Txt K mg) {fd_l_draw : FuncData} (G_l_draw : Dn P w K mg base (L2.CX P w) 1 "_law_draw" ["_law_pot_here", "_law_many"] spDraw fd_l_draw) : ∃ fd, Dn P w K mg base (L2.CX P w) 2 "_law_parts" ["_law_pot_here", "_law_most_standings", "_law_most_events"] spParts fd := by
  obtain ⟨fd, F⟩ := T.d_l_parts
  refine ⟨fd, F.ok sc_l_parts (fun vs H Q E h => ?_) (fun cdv A outer s H vs Q E hr h => ?_), T.g_l_parts, F.kp, F.bindsN fun _ _ _ _ _ _ us hl => match us, hl with | [_, _, _], _ => rfl, Lv.fun_lk F⟩
  · obtain ⟨_, _, _, _, _, rfl, _⟩ := h
    rfl
  · have hu := hu_of hr
    have hr_l_draw : Room 1 _ := hr.mono (by decide)
    refine ⟨_, PSs.nox (pss_cons (ps_set (i := 3) sc_l_parts.nd rfl (Or.inl rfl) (pe_op op_add pe_int (pe_call G_l_draw.ok hr_l_draw rfl G_l_draw.mg G_l_draw.kp G_l_draw.b .nil passL (pa_cons (pv 0) (pa_cons (pv 1) pa_nil)))))
      (pss_cons (ps_set (i := 4) sc_l_parts.nd rfl (Or.inl rfl) (pe_call G_l_draw.ok hr_l_draw rfl G_l_draw.mg G_l_draw.kp G_l_draw.b .nil passL (pa_cons (pv 0) (pa_cons pe_int pa_nil))))
      (pss_cons (ps_set (i := 5) sc_l_parts.nd rfl (Or.inl rfl) (pe_lst pa_nil))
      (pss_cons (ps_for PassesOwn.never rfl (pi_range1 (by rfl) T.n_range (pa_cons (pe_op op_add pe_int (pe_call G_l_draw.ok hr_l_draw rfl G_l_draw.mg G_l_draw.kp G_l_draw.b .nil passL (pa_cons (pv 0) (pa_cons (pv 2) pa_nil)))) pa_nil)) (pg_name (i := 6) sc_l_parts.nd rfl (Or.inl rfl)) (pss_cons (ps_par (i := 9) (j := 10) rfl sc_l_parts.nd rfl rfl (by decide) rfl rfl (pa_cons (pe_call G_l_draw.ok hr_l_draw rfl G_l_draw.mg G_l_draw.kp G_l_draw.b .nil passL (pa_cons (pv 0) (pa_cons (pv 3) pa_nil))) (pa_cons (pe_call G_l_draw.ok hr_l_draw rfl G_l_draw.mg G_l_draw.kp G_l_draw.b .nil passL (pa_cons (pv 0) (pa_cons (pv 3) pa_nil))) pa_nil)) rfl)
      (Evl.pss_cut (ps_if (pt_cmpR op_gt (pv 4) pe_int (nomark _)) (pss_cons (ps_set (i := 9) sc_l_parts.nd rfl (Or.inl rfl) (pe_op op_mod (pe_callTy call_int1 (by rfl) T.n_int (by decide +kernel) (pa_cons (pv 6) pa_nil)) (pv 3)))
      (pss_one (ps_set (i := 10) sc_l_parts.nd rfl (Or.inl rfl) (pe_ix ix_tup (pe_tup (pa_cons (pv 9) (pa_cons (pe_op op_mod (pe_callTy call_int1 (by rfl) T.n_int (by decide +kernel) (pa_cons (pe_op op_add (pv 9) pe_int) pa_nil)) (pv 3)) pa_nil))) (pe_callTy call_int1 (by rfl) T.n_int (by decide +kernel) (pa_cons (pe_cmpR op_gt (pe_call G_l_draw.ok hr_l_draw rfl G_l_draw.mg G_l_draw.kp G_l_draw.b .nil passL (pa_cons (pv 0) (pa_cons pe_int pa_nil))) pe_int (nomark _)) pa_nil)) (fun _ _ => rfl))))) pss_nil)
      (Evl.pss_cut (ps_set (i := 7) sc_l_parts.nd rfl (Or.inl rfl) (pe_ifExp (pt_cmpR op_eq (pv 4) pe_int (nomark _)) pe_int (pe_op op_add pe_int (pe_call G_l_draw.ok hr_l_draw rfl G_l_draw.mg G_l_draw.kp G_l_draw.b .nil passL (pa_cons (pv 0) (pa_cons pe_int pa_nil))))))
      (Evl.pss_cut (ps_set (i := 8) sc_l_parts.nd rfl (Or.inl rfl) (pe_ifExp (pt_cmpR op_eq (pv 4) pe_int (nomark _)) (pe_call G_l_draw.ok hr_l_draw rfl G_l_draw.mg G_l_draw.kp G_l_draw.b .nil passL (pa_cons (pv 0) (pa_cons pe_int pa_nil))) (pe_op op_sub (pe_call G_l_draw.ok hr_l_draw rfl G_l_draw.mg G_l_draw.kp G_l_draw.b .nil passL (pa_cons (pv 0) (pa_cons pe_int pa_nil))) pe_int)))
      (pss_one (ps_expr (pe_bm PySem.F.plainAttrs_list PySem.F.slot_list_append PySem.F.type_list_append mt_append (pv 5) (pa_cons (pe_tup (pa_cons (pv 9) (pa_cons (pv 10) (pa_cons (pv 7) (pa_cons (pv 8) pa_nil))))) pa_nil)))))))))
      (pss_one (ps_ret (pe_tup (pa_cons (pv 3) (pa_cons (pe_callTy call_tuple_of (by rfl) T.n_tuple (by decide +kernel) (pa_cons (pv 5) pa_nil)) pa_nil))))))))), ?_⟩
    obtain ⟨l, a, b, G, P0, rfl, j, hP, a1, a2, b1, b2, k⟩ := h
    refine ⟨_, rfl, _, rfl, l, a, G, P0, rfl, j, hP, by omega, ?_, fun r1 P1 H1 r10 r11 j1 hP1 => ⟨_, _, rfl, rfl, ?_⟩⟩
    · exact Int.lt_of_lt_of_le (b := 2000) (by omega) (by decide)
    have hn0 : 0 < 1 + r1 := by omega
    have hn2 : 1 + r1 < 2 ^ 200 := Int.lt_of_lt_of_le (b := 2000) (by omega) (by decide)
    refine ⟨_, rfl, l, 4, G, P1, rfl, j1, hP1, by decide, by decide, fun r2 P2 H2 r20 r21 j2 hP2 => ⟨Nat.zero_le _, fun L hL => ?_⟩⟩
    have gL := j2.ng hL
    have j3 := j2.newG (o := .lst []) hL
    refine ⟨_, rfl, _, rfl, l, b, _, P2, rfl, j3, hP2, by omega, Int.lt_of_lt_of_le (b := 2000) (by omega) (by decide), fun r3 P3 H3 r30 r31 j4 hP3 => ⟨_, _, rfl, rfl, 1 + r3, rfl, by omega, by omega, ?_⟩⟩
    clear j j1 j2 j3 hP hP1 hP2 hL
    refine for_range (lo := 0) (n := (1 + r3).toNat) (fun i σ H' => ∃ (G' P' : Hp) (vs : List V) (es : List Ev) (s6 s7 s8 s9 s10 : Option V), σ = [some (.ref l), some (.int a), some (.int b), some (.int (1 + r1)), some (.int r2), some (.ref L), s6, s7, s8, s9, s10] ∧ Join G' P' H' ∧ Pot P' l ∧ Ex G G' ∧
        G' L = some (.lst vs) ∧ EvL G' vs es ∧ es.length = i ∧ ∀ e ∈ es, EvSm (1 + r1) e)
      ⟨_, _, [], [], _, _, _, _, _, rfl, j4, hP3, Ex.new gL, upd_same, EvL.nil, rfl, fun e he => by cases he⟩ ?_ ?_
    · clear j4 hP3
      rintro i σ H4 hi ⟨G1, P4, vs, es, s6, s7, s8, s9, s10, rfl, j, hP, eG, hL, hv, hlen, hes⟩
      refine ⟨_, rfl, _, rfl, l, _, G1, P4, rfl, j, hP, hn0, hn2, fun d1 P5 H5 d10 d11 j5 hP5 => ⟨_, rfl, _, rfl, l, _, G1, P5, rfl, j5, hP5, hn0, hn2, fun d2 P6 H6 d20 d21 j6 hP6 => ⟨_, _, rfl, ?_⟩⟩⟩
      clear j hP j5 hP5
      -- before, after
      refine ⟨fun σ' H' => ∃ (G' P' : Hp) (b' a' : Int), σ' = [some (.ref l), some (.int a), some (.int b), some (.int (1 + r1)), some (.int r2), some (.ref L), some (.int (0 + i)), s7, s8, some (.int b'), some (.int a')] ∧ Join G' P' H' ∧ Pot P' l ∧ Ex G1 G' ∧ 0 ≤ b' ∧ b' < 1 + r1 ∧ 0 ≤ a' ∧ a' < 1 + r1, ?_, ?_⟩
      · refine ⟨_, rfl, _, _, rfl, rfl, _, rfl, ?_⟩
        by_cases hk : 1 < r2
        · refine itT hk ⟨_, rfl, .inl ⟨_, rfl, _, rfl, _, _, rfl, rfl, hn0, ?_⟩⟩
          have q0 := Int.emod_nonneg (0 + (i : Int)) (show (1 + r1) ≠ 0 by omega)
          have q1 := Int.emod_lt_of_pos (0 + (i : Int)) hn0
          refine ⟨_, rfl, _, rfl, _, _, rfl, rfl, .inl ⟨_, rfl, _, rfl, _, _, rfl, rfl, hn0, (by show 2 ≤ sizeLine; decide), fun t ht => ?_⟩⟩
          have j7 := j6.newG (o := .tup [.int ((0 + (i : Int)) % (1 + r1)), .int ((((0 + (i : Int)) % (1 + r1)) + 1) % (1 + r1))]) ht
          refine ⟨_, rfl, l, 3, _, P6, rfl, j7, hP6, by decide, by decide, fun d3 P7 H7 d30 d31 j8 hP7 => ⟨_, _, rfl, rfl, .inr ⟨_, rfl, ?_⟩⟩⟩
          have hx : ∃ v : Int, atI [V.int ((0 + (i : Int)) % (1 + r1)), V.int ((((0 + (i : Int)) % (1 + r1)) + 1) % (1 + r1))] (if decide (0 < d3) = true then 1 else 0) = some (.int v) ∧ 0 ≤ v ∧ v < 1 + r1 := by
            by_cases h3 : 0 < d3
            · rw [if_pos (decide_eq_true h3)]
              exact ⟨_, atI_int (by decide) rfl, Int.emod_nonneg _ (by omega), Int.emod_lt_of_pos _ hn0⟩
            · rw [if_neg (by rw [decide_eq_false h3]; decide)]
              exact ⟨_, atI_int (by decide) rfl, q0, q1⟩
          obtain ⟨v, hv1, hv2, hv3⟩ := hx
          exact ⟨t, _, _, _, rfl, rfl, sqT (j8.g _ _ upd_same), hv1, _, P7, _, _, rfl, j8, hP7, Ex.new (j6.ng ht), q0, q1, hv2, hv3⟩
        · exact itF hk ⟨G1, P6, _, _, rfl, j6, hP6, Ex.refl _, d10, d11, d20, d21⟩
      clear j6 hP6
      rintro σ' H7 ⟨G2, P7, b', a', rfl, j7, hP7, e7, hb0, hb1, ha0, ha1⟩
      -- tries
      refine ⟨fun σ' H' => ∃ (P' : Hp) (w' : Int), σ' = [some (.ref l), some (.int a), some (.int b), some (.int (1 + r1)), some (.int r2), some (.ref L), some (.int (0 + i)), some (.int w'), s8, some (.int b'), some (.int a')] ∧ Join G2 P' H' ∧ Pot P' l ∧ 1 ≤ w' ∧ w' ≤ 3, ?_, ?_⟩
      · refine ⟨_, rfl, rfl, _, rfl, ?_⟩
        by_cases hk : r2 = 1
        · exact itT (congrArg V.int hk) ⟨P7, 1, rfl, j7, hP7, by decide, by decide⟩
        · refine itF (fun q => hk (V.int.inj q)) ⟨_, rfl, l, 3, G2, P7, rfl, j7, hP7, by decide, by decide, fun d3 P8 H8 d30 d31 j8 hP8 => ⟨_, _, rfl, rfl, P8, _, rfl, j8, hP8, by omega, by omega⟩⟩
      clear j7 hP7
      rintro σ' H8 ⟨P8, w', rfl, j8, hP8, hw1, hw2⟩
      -- points
      refine ⟨fun σ' H' => ∃ (P' : Hp) (x' : Int), σ' = [some (.ref l), some (.int a), some (.int b), some (.int (1 + r1)), some (.int r2), some (.ref L), some (.int (0 + i)), some (.int w'), some (.int x'), some (.int b'), some (.int a')] ∧ Join G2 P' H' ∧ Pot P' l ∧ -4 ≤ x' ∧ x' ≤ 4, ?_, ?_⟩
      · refine ⟨_, rfl, rfl, _, rfl, ?_⟩
        by_cases hk : r2 = 1
        · exact itT (congrArg V.int hk) ⟨_, rfl, l, 2, G2, P8, rfl, j8, hP8, by decide, by decide, fun d3 P9 H9 d30 d31 j9 hP9 => ⟨P9, _, rfl, j9, hP9, by omega, by omega⟩⟩
        · exact itF (fun q => hk (V.int.inj q)) ⟨_, rfl, l, 9, G2, P8, rfl, j8, hP8, by decide, by decide, fun d3 P9 H9 d30 d31 j9 hP9 => ⟨_, _, rfl, rfl, P9, _, rfl, j9, hP9, by omega, by omega⟩⟩
      clear j8 hP8
      rintro σ' H9 ⟨P9, x', rfl, j9, hP9, hx1, hx2⟩
      -- append
      have hL2 := e7 _ _ hL
      refine ⟨_, rfl, .inl ⟨rfl, _, sqL (j9.g _ _ hL2)⟩, _, rfl, _, rfl, _, rfl, _, rfl, (by show 4 ≤ sizeLine; decide), fun t ht => ?_⟩
      have nLt : L ≠ t := ne_of_none (j9.g _ _ hL2) ht
      have j10 := j9.newG (o := .tup (evV ⟨b', a', w', x'⟩)) ht
      have e10 : Ex G2 _ := Ex.new (o := .tup (evV ⟨b', a', w', x'⟩)) (j9.ng ht)
      have hL3 := e10 _ _ hL2
      refine ⟨L, vs, .ref t, rfl, rfl, Eq.trans (upd_ne nLt) (j9.g _ _ hL2), szlt ?_, ?_⟩
      · rw [hv.1]; omega
      · refine ⟨_, P9, vs ++ [.ref t], es ++ [⟨b', a', w', x'⟩], _, _, _, _, _, rfl, j10.setG (j10.gp hL3), hP9, ?_, upd_same, ((hv.mono (e7.trans e10)).upd hL3).add ?_, by simp [hlen], fun e he => ?_⟩
        · exact ((eG.trans e7).trans e10).mut gL
        · rw [upd_ne nLt.symm, upd_same]
        · rcases List.mem_append.mp he with q | q
          · exact hes e q
          · simp at q
            rw [q]
            exact ⟨hb0, hb1, ha0, ha1, hw1, hw2, hx1, hx2⟩
    · rintro σ H4 ⟨G1, P4, vs, es, s6, s7, s8, s9, s10, rfl, j, hP, eG, hL, hv, hlen, hes⟩
      refine ⟨_, rfl, _, rfl, L, _, rfl, .inl ⟨sqL (j.g _ _ hL), fun t ht => ⟨(by show 2 ≤ sizeLine; decide), fun p hp => ?_⟩⟩⟩
      have j5 := j.newG (o := .tup vs) ht
      have e5 : Ex G1 _ := Ex.new (o := .tup vs) (j.ng ht)
      have j6 := j5.newG (o := .tup [.int (1 + r1), .ref t]) hp
      have e6 := Ex.new (o := .tup [.int (1 + r1), .ref t]) (j5.ng hp)
      exact k p (1 + r1) es _ P4 _ ((eG.trans e5).trans e6) j6 hP ⟨t, upd_same, vs, e6 _ _ upd_same, hv.mono (e5.trans e6)⟩ (by omega) (by omega) (by omega) (by omega) hes
end X

namespace X
open PySem PySem.Spec PyProof.Rows L2 Lv
variable {P : Program} {w : World} {K : PySem.W.Frag} {mg : Str → Option Value} {base : Heap}
/-- one of a list's things -/
def spAnyL (K : PySem.W.Frag) : Sp := fun vs H Q _ => ∃ (l t : Addr) (xs : List V) (G P : Hp), vs = [.ref l, .ref t] ∧ Join G P H ∧ Pot P l ∧ G t = some (.lst xs) ∧ 0 < xs.length ∧ xs.length ≤ 1000 ∧ ∀ (i : Nat) (x : V) (P' H' : Hp), xs[i]? = some x → Join G P' H' → Pot P' l → Q x H'
end X

namespace X
open PySem PySem.Spec PyProof.Rows L2 Lv
variable {P : Program} {w : World} {K : PySem.W.Frag} {mg : Str → Option Value} {base : Heap}
def sp_step_at (K : PySem.W.Frag) : Sp := fun vs H Q _ => ∃ (m : Addr) (k : Nat) (n : Int) (es : List Ev) (e : Ev), vs = [.ref m, .int k] ∧ MachK K H m n es ∧ es[k]? = some e ∧ ∀ t, H t = some (.tup (evV e)) → Q (.ref t) H
theorem sc_step_at : FnScope ["machine", "event"] ["machine", "event"] (defScope s_step_at) := ⟨rfl, rfl, rfl, by decide +kernel, rfl, by decide +kernel, by decide +kernel⟩
theorem ok_step_at (T : Txt K mg) : ∃ fd, Dn P w K mg base (L2.CX P w) 1 "step_at" ["machine", "event"] (sp_step_at K) fd := by
  obtain ⟨fd, F⟩ := T.d_step_at
  refine ⟨fd, F.ok sc_step_at (fun vs H Q E h => ?_) (fun cdv A outer s H vs Q E hr h => ?_), T.g_step_at, F.kp, F.bindsN fun _ _ _ _ _ _ us hl => match us, hl with | [_, _], _ => rfl, Lv.fun_lk F⟩
  · obtain ⟨_, _, _, _, _, rfl, _⟩ := h
    rfl
  · have hu := hu_of hr
    refine ⟨_, PSs.nox (pss_one (ps_ret (pe_ix ix_tup (pe_fld (pv 0) rfl) (pv 1) (fun _ _ => rfl)))), ?_⟩
    obtain ⟨m, k, n, es, e, rfl, ⟨C, hC, dx, t, ko, ks, h1, ⟨vs, h2, hv⟩, h3⟩, he, q⟩ := h
    obtain ⟨te, r1, r2⟩ := hv.2 k e he
    exact ⟨_, rfl, m, _, dx, _, _, rfl, h1, hC.c, hC.ne, ml2 _ _ _, _, rfl, t, vs, k, _, rfl, rfl, sqT h2, atI_nat r1, q te r2⟩
def sp_is_event_of (K : PySem.W.Frag) : Sp := fun vs H Q _ => ∃ (m : Addr) (i n : Int) (es : List Ev), vs = [.ref m, .int i] ∧ MachK K H m n es ∧ Q (.bl (decide (0 ≤ i ∧ i ≤ (es.length : Int) - 1))) H
def sp_is_run_there (K : PySem.W.Frag) : Sp := fun vs H Q _ => ∃ (m r : Addr) (n : Int) (es : List Ev) (rs : List Nat) (G P : Hp), vs = [.ref m, .ref r] ∧ Join G P H ∧ MachK K G m n es ∧ G r = some (.tup (rV rs)) ∧ rs.length ≤ 10000 ∧ IsRun es rs ∧
  ∀ G' H', Ex G G' → Join G' P H' → Q (.bl true) H'
def sp_check_run (K : PySem.W.Frag) : Sp := fun vs H Q _ => ∃ (m r : Addr) (n : Int) (es : List Ev) (rs : List Nat) (G P : Hp), vs = [.ref m, .ref r] ∧ Join G P H ∧ MachK K G m n es ∧ G r = some (.tup (rV rs)) ∧ rs.length ≤ 10000 ∧ IsRun es rs ∧
  ∀ G' H', Ex G G' → Join G' P H' → Q .non H'
/-- a new list of the boards -/
def spBoards (K : PySem.W.Frag) : Sp := fun vs H Q _ => ∃ (m r : Addr) (n : Int) (es : List Ev) (rs : List Nat) (G P : Hp), vs = [.ref m, .ref r] ∧ Join G P H ∧ MachK K G m n es ∧ G r = some (.tup (rV rs)) ∧ rs.length ≤ 10000 ∧ IsRun es rs ∧
  ∀ (p : Addr) (ws : List V) (G' H' : Hp), Ex G G' → Join G' P H' → H p = none → G' p = some (.lst ws) → TupL iV G' ws (boardsOf es rs) → Q (.ref p) H'
end X

namespace X
open PySem PySem.Spec PyProof.Rows L2 Lv
variable {P : Program} {w : World} {K : PySem.W.Frag} {mg : Str → Option Value} {base : Heap}
def sp_led (K : PySem.W.Frag) : Sp := fun vs H Q _ => ∃ (m r : Addr) (n : Int) (es : List Ev) (rs : List Nat) (z : Int), vs = [.ref m, .ref r] ∧ MachK K H m n es ∧ H r = some (.tup (rV rs)) ∧ leads es 0 rs = some z ∧ Q (.int z) H
def sp_ends_at (K : PySem.W.Frag) : Sp := fun vs H Q _ => ∃ (m r : Addr) (n : Int) (es : List Ev) (rs : List Nat) (z : Int) (G P : Hp), vs = [.ref m, .ref r] ∧ Join G P H ∧ MachK K G m n es ∧ G r = some (.tup (rV rs)) ∧ rs.length ≤ 10000 ∧ leads es 0 rs = some z ∧
  ∀ G' H', Ex G G' → Join G' P H' → Q (.int z) H'
/-- a board's share -/
def lowL : List Int → List Int
  | [w, x] => [x / (Int.gcd x w : Nat), w / (Int.gcd x w : Nat)]
  | _ => []
def EvW (es : List Ev) : Prop := ∀ e ∈ es, 1 ≤ e.w ∧ e.w ≤ 1000000000000
theorem sumW_le {es : List Ev} (hw : EvW es) {rs : List Nat} {z : Int} (hz : leads es 0 rs = some z) : ∀ n, n ≤ rs.length → (n : Int) ≤ sumW es (rs.take n) ∧ sumW es (rs.take n) ≤ n * 1000000000000
  | 0, _ => by simp [sumW]
  | n + 1, hn => by
    obtain ⟨k, hk⟩ : ∃ k, rs[n]? = some k := ⟨_, List.getElem?_eq_getElem (by omega)⟩
    obtain ⟨y, e, _, he, _⟩ := leads_at hz hk
    have ih := sumW_le hw hz n (by omega)
    have h1 := hw e (List.mem_of_getElem? he)
    rw [sumW_more hk he]
    omega
theorem sumX_le {es : List Ev} {c : Int} (hx : ∀ e ∈ es, -c ≤ e.x ∧ e.x ≤ c) {rs : List Nat} {z : Int} (hz : leads es 0 rs = some z) : ∀ n, n ≤ rs.length → -((n : Int) * c) ≤ sumX es (rs.take n) ∧ sumX es (rs.take n) ≤ (n : Int) * c
  | 0, _ => by simp [sumX]
  | n + 1, hn => by
    obtain ⟨k, hk⟩ : ∃ k, rs[n]? = some k := ⟨_, List.getElem?_eq_getElem (by omega)⟩
    obtain ⟨y, e, _, he, _⟩ := leads_at hz hk
    have ih := sumX_le hx hz n (by omega)
    have h1 := hx e (List.mem_of_getElem? he)
    rw [sumX_more hk he]
    have h2 : ((n + 1 : Nat) : Int) * c = (n : Int) * c + c := by
      rw [Int.natCast_add, Int.add_mul]; simp
    rw [h2]
    omega
def spShares (K : PySem.W.Frag) : Sp := fun vs H Q _ => ∃ (m r : Addr) (n : Int) (es : List Ev) (rs : List Nat) (G P : Hp), vs = [.ref m, .ref r] ∧ Join G P H ∧ MachK K G m n es ∧ G r = some (.tup (rV rs)) ∧ rs.length ≤ 10000 ∧ IsRun es rs ∧ EvW es ∧
  ∀ (p : Addr) (ws : List V) (G' H' : Hp), Ex G G' → Join G' P H' → H p = none → G' p = some (.lst ws) → TupL iV G' ws ((boardsOf es rs).map lowL) → Q (.ref p) H'
end X

namespace X
open PySem PySem.Spec PyProof.Rows L2 Lv
variable {P : Program} {w : World} {K : PySem.W.Frag} {mg : Str → Option Value} {base : Heap}
/-- a new list of the numbers of the events that lead from a standing -/
def spOut : Sp := fun vs H Q _ => ∃ (p : Addr) (s : Nat) (n : Int) (es : List Ev) (G P : Hp), vs = [.ref p, .int s] ∧ Join G P H ∧ PartsAt G p n es ∧ es.length ≤ 10000 ∧
  ∀ (q : Addr) (G' H' : Hp), Ex G G' → Join G' P H' → H q = none → G' q = some (.lst ((outs 0 es s).map V.int)) → Q (.ref q) H'
theorem outs_mem {s : Nat} {v : Int} : ∀ (l : List Ev) (k : Nat), v ∈ outs k l s → ∃ i e, v = ((k + i : Nat) : Int) ∧ l[i]? = some e ∧ e.b = (s : Int)
  | [], _, h => by cases h
  | a :: r, k, h => by
    have h2 : v ∈ (if a.b = (s : Int) then (k : Int) :: outs (k + 1) r s else outs (k + 1) r s) := h
    have hrec : v ∈ outs (k + 1) r s → ∃ i e, v = ((k + i : Nat) : Int) ∧ (a :: r)[i]? = some e ∧ e.b = (s : Int) := fun h3 => by
      obtain ⟨i, e, e1, e2, e3⟩ := outs_mem r (k + 1) h3
      exact ⟨i + 1, e, by rw [e1]; congr 1; omega, by simpa using e2, e3⟩
    by_cases hb : a.b = (s : Int)
    · rw [if_pos hb] at h2
      rcases List.mem_cons.mp h2 with q | q
      · exact ⟨0, a, by rw [q]; simp, rfl, hb⟩
      · exact hrec q
    · rw [if_neg hb] at h2
      exact hrec h2
/-- a drawn run -/
def spWalk : Sp := fun vs H Q _ => ∃ (l p : Addr) (m : Nat) (n : Int) (es : List Ev) (G P : Hp), vs = [.ref l, .ref p, .int m] ∧ Join G P H ∧ Pot P l ∧ PartsAt G p n es ∧ es.length ≤ 10000 ∧ (∀ e ∈ es, 0 ≤ e.a) ∧ m ≤ 1000 ∧
  ∀ (r : Addr) (rs : List Nat) (G' P' H' : Hp), Ex G G' → Join G' P' H' → Pot P' l → G' r = some (.tup (rV rs)) → rs.length ≤ m → IsRun es rs → (rs.length = m ∨ ∃ z : Nat, leads es 0 rs = some (z : Int) ∧ outs 0 es z = []) → Q (.ref r) H'
end X

namespace X
open PySem PySem.Spec PyProof.Rows L2 Lv
variable {P : Program} {w : World} {K : PySem.W.Frag} {mg : Str → Option Value} {base : Heap}
def sp_check_event (K : PySem.W.Frag) : Sp := fun vs H Q _ => ∃ (m : Addr) (k : Nat) (n : Int) (es : List Ev), vs = [.ref m, .int k] ∧ MachK K H m n es ∧ k < es.length ∧ Q .non H
/-- a share in lowest terms, of small numbers -/
def ShareAt (G : Hp) (p : Addr) (a b : Int) : Prop := G p = some (.tup [.int a, .int b]) ∧ 1 ≤ b ∧ Int.gcd a b = 1 ∧ a.natAbs < 2 ^ 400 ∧ b.natAbs < 2 ^ 400
theorem ShareAt.mono {G G' : Hp} {p : Addr} {a b : Int} (e : Ex G G') (h : ShareAt G p a b) : ShareAt G' p a b := ⟨e _ _ h.1, h.2⟩
def liftE (a b : Int) (e : Ev) : Int := b * e.x - a * e.w
def liftAt (a b : Int) (es : List Ev) (k : Nat) : Int := ((es[k]?).map (liftE a b)).getD 0
def spLift (K : PySem.W.Frag) : Sp := fun vs H Q _ => ∃ (m p : Addr) (k : Nat) (n a b : Int) (es : List Ev) (e : Ev), vs = [.ref m, .ref p, .int k] ∧ MachK K H m n es ∧ ShareAt H p a b ∧ EvB n es ∧ es[k]? = some e ∧ Q (.int (liftE a b e)) H
theorem sh_mul {a e : Int} (h : a.natAbs < 2 ^ 400) (h1 : -1000000000000 ≤ e) (h2 : e ≤ 1000000000000) : CMulW a e := mulW (Nat.lt_of_lt_of_le h (Nat.pow_le_pow_right (by decide) (by decide))) (big15 (by omega) (by omega))
theorem sc_lift_of : FnScope ["machine", "share", "event", "step"] ["machine", "share", "event"] (defScope s_lift_of) := ⟨rfl, rfl, rfl, by decide +kernel, rfl, by decide +kernel, by decide +kernel⟩
theorem ok_lift_of (T : Txt K mg) {fd_step_at : FuncData} (G_step_at : Dn P w K mg base (L2.CX P w) 1 "step_at" ["machine", "event"] (sp_step_at K) fd_step_at) : ∃ fd, Dn P w K mg base (L2.CX P w) 2 "lift_of" ["machine", "share", "event"] (spLift K) fd := by
  obtain ⟨fd, F⟩ := T.d_lift_of
  refine ⟨fd, F.ok sc_lift_of (fun vs H Q E h => ?_) (fun cdv A outer s H vs Q E hr h => ?_), T.g_lift_of, F.kp, F.bindsN fun _ _ _ _ _ _ us hl => match us, hl with | [_, _, _], _ => rfl, Lv.fun_lk F⟩
  · obtain ⟨_, _, _, _, _, _, _, _, rfl, _⟩ := h
    rfl
  · have hu := hu_of hr
    have hr_step_at : Room 1 _ := hr.mono (by decide)
    refine ⟨_, PSs.nox (pss_cons (ps_set (i := 3) sc_lift_of.nd rfl (Or.inl rfl) (pe_call G_step_at.ok hr_step_at rfl G_step_at.mg G_step_at.kp G_step_at.b .nil passL (pa_cons (pv 0) (pa_cons (pv 2) pa_nil))))
      (pss_one (ps_ret (pe_op op_sub (pe_op op_mulW (pe_ix ix_tup (pv 1) pe_int (fun _ _ => rfl)) (pe_ix ix_tup (pv 3) pe_int (fun _ _ => rfl))) (pe_op op_mulW (pe_ix ix_tup (pv 1) pe_int (fun _ _ => rfl)) (pe_ix ix_tup (pv 3) pe_int (fun _ _ => rfl))))))), ?_⟩
    obtain ⟨m, p, k, n, a, b, es, e, rfl, hM, hS, hB, he, q⟩ := h
    have hp := hS.1
    have hbe := hB.2.2.2 e (List.mem_of_getElem? he)
    walk_at "w"
    refine ⟨m, k, n, es, e, rfl, hM, he, fun t ht => ?_⟩
    walk_at "w"
    refine w_rI (sh_mul hS.2.2.2.2 (by omega) (by omega)) ?_
    walk_at "w"
    refine w_rI (sh_mul hS.2.2.2.1 (by omega) (by omega)) ?_
    walk_at "w"
    exact q
def valOf (a b : Int) (es : List Ev) (rs : List Nat) : Int := b * sumX es rs - a * sumW es rs
theorem val_sum (a b : Int) (es : List Ev) : ∀ rs : List Nat, (rs.map (liftAt a b es)).sum = valOf a b es rs
  | [] => by simp [valOf, sumX, sumW]
  | k :: r => by
    have ih := val_sum a b es r
    rw [List.map_cons, List.sum_cons, ih]
    unfold valOf sumX sumW liftAt
    rw [List.map_cons, List.map_cons, List.sum_cons, List.sum_cons]
    cases es[k]? with
    | none => simp
    | some e => simp [liftE, Int.mul_add]; omega
def spValue (K : PySem.W.Frag) : Sp := fun vs H Q _ => ∃ (m p r : Addr) (n a b : Int) (es : List Ev) (rs : List Nat) (G P : Hp), vs = [.ref m, .ref p, .ref r] ∧ Join G P H ∧ MachK K G m n es ∧ ShareAt G p a b ∧ EvB n es ∧ G r = some (.tup (rV rs)) ∧ rs.length ≤ 10000 ∧ IsRun es rs ∧
  ∀ G' H', Ex G G' → Join G' P H' → Q (.int (valOf a b es rs)) H'
/-- a drawn share -/
def spShare (K : PySem.W.Frag) : Sp := fun vs H Q _ => ∃ (l : Addr) (d : Int) (G P : Hp), vs = [.ref l, .int d] ∧ Join G P H ∧ Pot P l ∧ 1 ≤ d ∧ d ≤ 1000 ∧
  ∀ (p : Addr) (a b : Int) (G' P' H' : Hp), Ex G G' → Join G' P' H' → Pot P' l → ShareAt G' p a b → -d ≤ a → a ≤ 2 * d → b ≤ d → Q (.ref p) H'
theorem shareAt_low {G : Hp} {p : Addr} {a b : Int} (hb : 0 < b) (ha : a.natAbs < 2 ^ 400) (hb2 : b.natAbs < 2 ^ 400) (h : G p = some (.tup [.int (a / (Int.gcd a b : Nat)), .int (b / (Int.gcd a b : Nat))])) : ShareAt G p (a / (Int.gcd a b : Nat)) (b / (Int.gcd a b : Nat)) := by
  obtain ⟨q1, q2, q3, q4⟩ := low_facts (a := a) hb
  exact ⟨h, q1, q2, Nat.lt_of_le_of_lt q3 ha, Nat.lt_of_le_of_lt q4 hb2⟩
theorem big400 {a : Int} (h1 : -1000000000000000000000 ≤ a) (h2 : a ≤ 1000000000000000000000) : a.natAbs < 2 ^ 400 := Nat.lt_of_lt_of_le (big199 h1 h2) (Nat.pow_le_pow_right (by decide) (by decide))
theorem ediv_low {a k lo hi : Int} (hk : 1 ≤ k) (h1 : lo ≤ a) (h2 : a ≤ hi) (hl : lo ≤ 0) (hh : 0 ≤ hi) : lo ≤ a / k ∧ a / k ≤ hi := by
  constructor
  · by_cases h : 0 ≤ a
    · have := Int.ediv_nonneg h (show 0 ≤ k by omega); omega
    · have := Int.le_ediv_of_mul_le (a := a) (b := a) (c := k) (by omega) (by
        have : a * (k - 1) ≤ 0 := Int.mul_nonpos_of_nonpos_of_nonneg (by omega) (by omega)
        rw [Int.mul_sub, Int.mul_one] at this; omega)
      omega
  · by_cases h : 0 ≤ a
    · have := Int.ediv_le_self k h; omega
    · have := Int.ediv_le_ediv (c := k) (by omega) (show a ≤ 0 by omega); rw [Int.zero_ediv] at this; omega
theorem sc_l_share : FnScope ["_law_pot_here", "_law_most", "_law_bottom"] ["_law_pot_here", "_law_most"] (defScope s_l_share) := ⟨rfl, rfl, rfl, by decide +kernel, rfl, by decide +kernel, by decide +kernel⟩
theorem ok_l_share (T : Txt K mg) {fd_l_draw : FuncData} (G_l_draw : Dn P w K mg base (L2.CX P w) 1 "_law_draw" ["_law_pot_here", "_law_many"] spDraw fd_l_draw) {fd_l_low : FuncData} (G_l_low : Dn P w K mg base (L2.CX P w) 2 "_law_low" ["_law_top", "_law_bottom"] (sp_l_low K) fd_l_low) : ∃ fd, Dn P w K mg base (L2.CX P w) 3 "_law_share" ["_law_pot_here", "_law_most"] (spShare K) fd := by
  obtain ⟨fd, F⟩ := T.d_l_share
  refine ⟨fd, F.ok sc_l_share (fun vs H Q E h => ?_) (fun cdv A outer s H vs Q E hr h => ?_), T.g_l_share, F.kp, F.bindsN fun _ _ _ _ _ _ us hl => match us, hl with | [_, _], _ => rfl, Lv.fun_lk F⟩
  · obtain ⟨_, _, _, _, rfl, _⟩ := h
    rfl
  · have hu := hu_of hr
    have hr_l_draw : Room 1 _ := hr.mono (by decide)
    have hr_l_low : Room 2 _ := hr.mono (by decide)
    refine ⟨_, PSs.nox (pss_cons (ps_set (i := 2) sc_l_share.nd rfl (Or.inl rfl) (pe_op op_add pe_int (pe_call G_l_draw.ok hr_l_draw rfl G_l_draw.mg G_l_draw.kp G_l_draw.b .nil passL (pa_cons (pv 0) (pa_cons (pv 1) pa_nil)))))
      (pss_one (ps_ret (pe_call G_l_low.ok hr_l_low rfl G_l_low.mg G_l_low.kp G_l_low.b .nil passL (pa_cons (pe_op op_sub (pe_call G_l_draw.ok hr_l_draw rfl G_l_draw.mg G_l_draw.kp G_l_draw.b .nil passL (pa_cons (pv 0) (pa_cons (pe_op op_add (pe_op op_mul pe_int (pv 2)) pe_int) pa_nil))) (pv 2)) (pa_cons (pv 2) pa_nil)))))), ?_⟩
    obtain ⟨l, d, G, P0, rfl, j, hP, h1, h2, q⟩ := h
    walk_at "w"
    refine ⟨l, d, G, P0, rfl, j, hP, by omega, Int.lt_of_le_of_lt h2 (by decide), fun r P1 H1 r0 r1 j1 hP1 => ?_⟩
    walk_at "w"
    refine w_rI (.inl ⟨by decide, by decide⟩) ?_
    walk_at "w"
    refine ⟨l, _, G, P1, rfl, j1, hP1, by omega, Int.lt_of_le_of_lt (b := 100000) (by omega) (by decide), fun x P2 H2 x0 x1 j2 hP2 => ?_⟩
    walk_at "w"
    refine ⟨_, _, rfl, by omega, big199 (by omega) (by omega), big199 (by omega) (by omega), fun p hp => ?_⟩
    have g0 : 0 < Int.gcd (x - (1 + r)) (1 + r) := Int.gcd_pos_of_ne_zero_right _ (by omega)
    have b1 := ediv_low (a := x - (1 + r)) (k := (Int.gcd (x - (1 + r)) (1 + r) : Nat)) (lo := -d) (hi := 2 * d) (by omega) (by omega) (by omega) (by omega) (by omega)
    have b2 := ediv_low (a := 1 + r) (k := (Int.gcd (x - (1 + r)) (1 + r) : Nat)) (lo := 0) (hi := d) (by omega) (by omega) (by omega) (by omega) (by omega)
    exact q p _ _ _ _ _ (Ex.new (j2.ng hp)) (j2.newG hp) hP2 (shareAt_low (by omega) (big400 (by omega) (by omega)) (big400 (by omega) (by omega)) upd_same) b1.1 b1.2 b2.2
def sp_l_lift (K : PySem.W.Frag) : Sp := fun vs H Q _ => ∃ (p t : Addr) (a b : Int) (e : Ev), vs = [.ref p, .ref t] ∧ ShareAt H p a b ∧ H t = some (.tup (evV e)) ∧ 1 ≤ e.w ∧ e.w ≤ 1000000000000 ∧ -1000000000000 ≤ e.x ∧ e.x ≤ 1000000000000 ∧ Q (.int (liftE a b e)) H
def sgn (a : Int) : Int := (if decide (0 < a) then 1 else 0) - (if decide (a < 0) then 1 else 0)
def sp_l_sign (K : PySem.W.Frag) : Sp := fun vs H Q _ => ∃ a : Int, vs = [.int a] ∧ Q (.int (sgn a)) H
end X

namespace X
open PySem PySem.Spec PyProof.Rows L2 Lv
variable {P : Program} {w : World} {K : PySem.W.Frag} {mg : Str → Option Value} {base : Heap}
/-- standings to which events lead from one, within others -/
inductive Rch (es : List Ev) (inn : List Int) (s : Int) : Int → Prop
  | refl : Rch es inn s s
  | step {y : Int} {e : Ev} : Rch es inn s y → e ∈ es → e.b = y → e.a ∈ inn → Rch es inn s e.a
def Std (n : Int) (es : List Ev) : Prop := ∀ e ∈ es, 0 ≤ e.b ∧ e.b < n ∧ 0 ≤ e.a ∧ e.a < n
theorem outs_iff {s : Nat} : ∀ {es : List Ev} {k0 : Nat} {x : Int}, x ∈ outs k0 es s ↔ ∃ (k : Nat) (e : Ev), es[k]? = some e ∧ e.b = (s : Int) ∧ x = ((k0 + k : Nat) : Int)
  | [], k0, x => by simp [outs]
  | e :: es, k0, x => by
    have ih := @outs_iff s es (k0 + 1) x
    have sp : outs k0 (e :: es) s = (if e.b = (s : Int) then [((k0 : Nat) : Int)] else []) ++ outs (k0 + 1) es s := by
      show (if e.b = (s : Int) then (k0 : Int) :: outs (k0 + 1) es s else outs (k0 + 1) es s) = _
      split <;> rfl
    rw [sp, List.mem_append, ih]
    constructor
    · rintro (h | ⟨k, e', h1, h2, h3⟩)
      · by_cases c : e.b = (s : Int)
        · rw [if_pos c] at h
          exact ⟨0, e, rfl, c, by rw [List.mem_singleton.mp h]; rfl⟩
        · rw [if_neg c] at h; cases h
      · exact ⟨k + 1, e', by simpa using h1, h2, by rw [h3]; congr 1; omega⟩
    · rintro ⟨k, e', h1, h2, h3⟩
      cases k with
      | zero =>
        have ee : e = e' := by simpa using h1
        subst ee
        rw [if_pos h2]
        exact .inl (by rw [h3]; simp)
      | succ k => exact .inr ⟨k, e', by simpa using h1, h2, by rw [h3]; congr 1; omega⟩
theorem nodup_fin {n : Int} {F : List Int} (hn : F.Nodup) (h : ∀ x ∈ F, 0 ≤ x ∧ x < n) : F.length ≤ n.toNat := by
  have h1 : (F.map Int.toNat).Nodup := by
    rw [List.nodup_iff_pairwise_ne, List.pairwise_map]
    refine List.Pairwise.imp_of_mem (fun {a b} ha hb hab e => ?_) hn
    have := h a ha
    have := h b hb
    exact hab (by omega)
  have h2 := nat_nodup_len _ (List.range n.toNat) h1 fun x hx => by
    obtain ⟨y, hy, rfl⟩ := List.mem_map.mp hx
    have := h y hy
    exact List.mem_range.mpr (by omega)
  rw [List.length_map, List.length_range] at h2
  exact h2
structure Fl (es : List Ev) (inn : List Int) (s n : Int) (F W : List Int) : Prop where
  nd : F.Nodup
  sF : s ∈ F
  r : ∀ x ∈ F, Rch es inn s x ∧ 0 ≤ x ∧ x < n
  w : ∀ x ∈ W, x ∈ F
  l : W.length ≤ F.length
  c : ∀ x ∈ F, x ∉ W → ∀ e ∈ es, e.b = x → e.a ∈ inn → e.a ∈ F
structure Fm (es : List Ev) (inn : List Int) (s n : Int) (y i : Nat) (F W : List Int) : Prop where
  nd : F.Nodup
  sF : s ∈ F
  yF : (y : Int) ∈ F
  r : ∀ x ∈ F, Rch es inn s x ∧ 0 ≤ x ∧ x < n
  w : ∀ x ∈ W, x ∈ F
  l : W.length ≤ F.length
  c : ∀ x ∈ F, x ∉ W → x ≠ y → ∀ e ∈ es, e.b = x → e.a ∈ inn → e.a ∈ F
  d : ∀ t, t < i → ∀ (k : Nat) (e : Ev), (outs 0 es y)[t]? = some (k : Int) → es[k]? = some e → e.a ∈ inn → e.a ∈ F
theorem Fm.next {es : List Ev} {inn : List Int} {s n : Int} {y i k : Nat} {F W : List Int} {e : Ev} (h : Fm es inn s n y i F W) (hi : (outs 0 es y)[i]? = some (k : Int)) (he : es[k]? = some e) (hin : e.a ∈ inn → e.a ∈ F) : Fm es inn s n y (i + 1) F W :=
  ⟨h.nd, h.sF, h.yF, h.r, h.w, h.l, h.c, fun t ht k' e' h1 h2 h3 => by
    by_cases c : t < i
    · exact h.d t c k' e' h1 h2 h3
    · have et : t = i := by omega
      subst et
      rw [hi] at h1
      have ek : k = k' := by have := Option.some.inj h1; omega
      subst ek
      rw [he] at h2
      cases h2
      exact hin h3⟩
theorem Fm.add {es : List Ev} {inn : List Int} {s n : Int} {y i k : Nat} {F W : List Int} {e : Ev} (h : Fm es inn s n y i F W) (hs : Std n es) (hi : (outs 0 es y)[i]? = some (k : Int)) (he : es[k]? = some e) (hin : e.a ∈ inn) (hn : e.a ∉ F) : Fm es inn s n y (i + 1) (F ++ [e.a]) (W ++ [e.a]) := by
  have hb : e.b = (y : Int) := by
    obtain ⟨k', e', h1, h2, h3⟩ := outs_iff.mp (List.mem_of_getElem? hi)
    have ek : k = k' := by omega
    subst ek
    rw [he] at h1
    cases h1
    exact h2
  have hem := List.mem_of_getElem? he
  have mo : ∀ x ∈ F, x ∈ F ++ [e.a] := fun x hx => List.mem_append_left _ hx
  refine ⟨?_, mo _ h.sF, mo _ h.yF, fun x hx => ?_, fun x hx => ?_, (by rw [List.length_append, List.length_append]; have := h.l; simpa using this), fun x hx hw hy e' he' hb' ha' => ?_, fun t ht k' e' h1 h2 h3 => ?_⟩
  · refine List.nodup_append.mpr ⟨h.nd, List.nodup_cons.mpr ⟨fun h => (nomatch h), List.nodup_nil⟩, fun a ha b hb' e' => ?_⟩
    rw [List.mem_singleton.mp hb'] at e'
    exact hn (e' ▸ ha)
  · rcases List.mem_append.mp hx with hx | hx
    · exact h.r x hx
    · rw [List.mem_singleton.mp hx]
      have := hs e hem
      exact ⟨.step (h.r _ h.yF).1 hem hb hin, this.2.2⟩
  · rcases List.mem_append.mp hx with hx | hx
    · exact mo _ (h.w x hx)
    · exact List.mem_append_right _ hx
  · have hx2 : x ∈ F := by
      rcases List.mem_append.mp hx with hx | hx
      · exact hx
      · exact absurd (List.mem_append_right W hx) hw
    exact mo _ (h.c x hx2 (fun h => hw (List.mem_append_left _ h)) hy e' he' hb' ha')
  · by_cases c : t < i
    · exact mo _ (h.d t c k' e' h1 h2 h3)
    · have et : t = i := by omega
      subst et
      rw [hi] at h1
      have ek : k = k' := by have := Option.some.inj h1; omega
      subst ek
      rw [he] at h2
      cases h2
      exact List.mem_append_right _ (List.mem_singleton.mpr rfl)
theorem Fm.fin {es : List Ev} {inn : List Int} {s n : Int} {y : Nat} {F W : List Int} (h : Fm es inn s n y (outs 0 es y).length F W) : Fl es inn s n F W :=
  ⟨h.nd, h.sF, h.r, h.w, h.l, fun x hx hw e he hb ha => by
    by_cases c : x = (y : Int)
    · obtain ⟨k, hk⟩ := List.getElem?_of_mem he
      obtain ⟨t, ht⟩ := List.getElem?_of_mem (outs_iff.mpr ⟨k, e, hk, hb.trans c, rfl⟩ : ((0 + k : Nat) : Int) ∈ outs 0 es y)
      exact h.d t (List.getElem?_eq_some_iff.mp ht).1 k e (by rw [ht, Nat.zero_add]) hk ha
    · exact h.c x hx hw c e he hb ha⟩
theorem Fl.pop {es : List Ev} {inn : List Int} {s n y : Int} {F W : List Int} (h : Fl es inn s n F (W ++ [y])) : 0 ≤ y ∧ y < n ∧ Fm es inn s n y.toNat 0 F W := by
  have hy : y ∈ F := h.w y (List.mem_append_right _ (List.mem_singleton.mpr rfl))
  have r := (h.r y hy).2
  have ey : ((y.toNat : Nat) : Int) = y := Int.toNat_of_nonneg r.1
  refine ⟨r.1, r.2, h.nd, h.sF, by rw [ey]; exact hy, h.r, fun x hx => h.w x (List.mem_append_left _ hx), (by have := h.l; rw [List.length_append, List.length_singleton] at this; omega), fun x hx hw hxy e he hb ha => ?_, fun t ht => absurd ht (Nat.not_lt_zero _)⟩
  rw [ey] at hxy
  exact h.c x hx (fun hm => (List.mem_append.mp hm).elim hw fun hm => hxy (List.mem_singleton.mp hm)) e he hb ha
theorem Fl.fin {es : List Ev} {inn : List Int} {s n : Int} {F : List Int} (h : Fl es inn s n F []) (x : Int) : x ∈ F ↔ Rch es inn s x := by
  refine ⟨fun hx => (h.r x hx).1, fun hr => ?_⟩
  induction hr with
  | refl => exact h.sF
  | step _ he hb ha ih => exact h.c _ ih (fun h => nomatch h) _ he hb ha
def spFlood (K : PySem.W.Frag) : Sp := fun vs H Q _ => ∃ (m dI : Addr) (s n : Int) (es : List Ev) (inn : List Int) (G P : Hp), vs = [.ref m, .int s, .ref dI] ∧ Join G P H ∧ MachK K G m n es ∧ Std n es ∧ 0 ≤ s ∧ s < n ∧ n ≤ 10000 ∧ es.length ≤ 10000 ∧ (Rd G dI (.dK (keyP inn)) ∨ Rd P dI (.dK (keyP inn))) ∧
  ∀ F d G' H', H d = none → F.Nodup → (∀ x ∈ F, 0 ≤ x ∧ x < n) → (∀ x, x ∈ F ↔ Rch es inn s x) → Ex G G' → Join G' P H' → G' d = some (.dK (keyP F)) → Q (.ref d) H'
theorem sc_flooded : FnScope ["machine", "start", "inner", "found", "waiting", "standing", "event", "after"] ["machine", "start", "inner"] (defScope s_flooded) := ⟨rfl, rfl, rfl, by decide +kernel, rfl, by decide +kernel, by decide +kernel⟩
theorem ok_flooded (T : Txt K mg) {fd_step_at : FuncData} (G_step_at : Dn P w K mg base (L2.CX P w) 1 "step_at" ["machine", "event"] (sp_step_at K) fd_step_at) : ∃ fd, Dn P w K mg base (L2.CX P w) 2 "flooded" ["machine", "start", "inner"] (spFlood K) fd := by
  obtain ⟨fd, F⟩ := T.d_flooded
  refine ⟨fd, F.ok sc_flooded (fun vs H Q E h => ?_) (fun cdv A outer s H vs Q E hr h => ?_), T.g_flooded, F.kp, F.bindsN fun _ _ _ _ _ _ us hl => match us, hl with | [_, _, _], _ => rfl, Lv.fun_lk F⟩
  · obtain ⟨_, _, _, _, _, _, _, _, rfl, _⟩ := h
    rfl
  · have hu := hu_of hr
    have hr_step_at : Room 1 _ := hr.mono (by decide)
    refine ⟨_, PSs.nox (pss_cons (ps_set (i := 3) sc_flooded.nd rfl (Or.inl rfl) (pe_disp (pps_cons (pv 1) pe_bl pps_nil) rfl rfl (by simp) (by decide)))
      (pss_cons (ps_set (i := 4) sc_flooded.nd rfl (Or.inl rfl) (pe_lst (pa_cons (pv 1) pa_nil)))
      (pss_cons (ps_while PassesOwn.never (pt_cmpR op_gt (pe_callB call_len_seq (by rfl) T.n_len PySem.boot_len (pa_cons (pv 4) pa_nil)) pe_int (nomark _)) (pss_cons (ps_set (i := 5) sc_flooded.nd rfl (Or.inl rfl) (pe_bm0 PySem.F.plainAttrs_list PySem.F.slot_list_pop PySem.F.type_list_pop mt_pop (pv 4)))
      (pss_one (ps_for PassesOwn.never rfl (pi_list (pe_ix ix_list (pe_fld (pv 0) rfl) (pv 5) (fun _ _ => rfl))) (pg_name (i := 6) sc_flooded.nd rfl (Or.inl rfl)) (pss_cons (ps_set (i := 7) sc_flooded.nd rfl (Or.inl rfl) (pe_ix ix_tup (pe_call G_step_at.ok hr_step_at rfl G_step_at.mg G_step_at.kp G_step_at.b .nil passL (pa_cons (pv 0) (pa_cons (pv 6) pa_nil))) pe_int (fun _ _ => rfl)))
      (pss_one (ps_if (PW.pt (pw_and (pt_cmp (pc_dnotin hu (pv 7) (pv 3))) (pw_and1 (pt_cmp (pc_din hu (pv 7) (pv 2)))))) (pss_cons (ps_dput hu (pv 3) (pv 7) pe_bl rfl)
      (pss_one (ps_expr (pe_bm PySem.F.plainAttrs_list PySem.F.slot_list_append PySem.F.type_list_append mt_append (pv 4) (pa_cons (pv 7) pa_nil))))) pss_nil)))))))
      (pss_one (ps_ret (pv 3)))))), ?_⟩
    obtain ⟨m, dI, s, n, es, inn, G, P0, rfl, j, hm, hs, s0, s1, nb, lb, hI, q⟩ := h
    walk_at "w"
    refine aDisp1.goP (k := .inl s) (v := .bl true) j (fun H' S h => by walk_at "w"; exact h) (fun H' S h => by walk_at "w"; exact h) fun a P1 H1 na e1 j1 ha => ?_
    walk_at "w"
    refine aLst.goP j1 (by show 1 ≤ 100000; decide) fun b P2 H2 nb2 e2 j2 hb => ?_
    have hab : a ≠ b := fun e => by subst e; rw [j1.p _ _ ha] at nb2; cases nb2
    have na0 : P0 a = none := j.np na
    have nb0 : P0 b = none := by
      cases e : P0 b with
      | none => rfl
      | some o => rw [j1.p _ _ (e1 _ _ e)] at nb2; cases nb2
    walk_at "w"
    refine while_go (fun m' G' P' σ' => G' = G ∧ Ex P0 P' ∧ ∃ (F W : List Int) (s5 s6 s7 : Option V), P' a = some (.dK (keyP F)) ∧ P' b = some (.lst (W.map V.int)) ∧ Fl es inn s n F W ∧ m' = 2 * (n.toNat - F.length) + W.length ∧ σ' = [some (.ref m), some (.int s), some (.ref dI), some (.ref a), some (.ref b), s5, s6, s7]) j2 _ ⟨rfl, e1.trans e2, [s], [s], none, none, none, e2 _ _ ha, hb, ⟨List.nodup_cons.mpr ⟨fun h => (nomatch h), List.nodup_nil⟩, List.mem_singleton.mpr rfl, fun x hx => by rw [List.mem_singleton.mp hx]; exact ⟨.refl, s0, s1⟩, fun x hx => hx, Nat.le_refl _, fun x hx hw => absurd hx hw⟩, rfl, rfl⟩ ?_
    rintro m' G P' H' σ' j' ⟨rfl, eP, F, W, s5, s6, s7, ha, hb, hF, rfl, rfl⟩
    have lF := nodup_fin hF.nd fun x hx => (hF.r x hx).2
    walk_at "w"
    by_cases hW : W = []
    · subst hW
      refine itF (by show ¬ (0 : Int) < ((([] : List Int).map V.int).length : Nat); decide) ?_
      walk_at "w"
      obtain ⟨G2, j2, e2, k2⟩ := j'.back eP
      exact q F a G2 _ na hF.nd (fun x hx => (hF.r x hx).2) hF.fin e2 j2 (k2 _ _ ha na0)
    obtain ⟨W', y, rfl⟩ : ∃ W' y, W = W' ++ [y] := ⟨W.dropLast, W.getLast hW, (List.dropLast_concat_getLast hW).symm⟩
    refine itT (by rw [List.map_append, List.length_append]; show (0 : Int) < ((_ + 1 : Nat) : Int); omega) ?_
    refine w_turn ?_
    rw [List.map_append] at hb
    walk_at "w"
    refine popP (y := .int y) j' hb fun H3 j3 => ?_
    obtain ⟨y0, y1, hM⟩ := hF.pop
    have ha3 : upd P' b (.lst (W'.map V.int)) a = some (.dK (keyP F)) := Eq.trans (upd_ne hab) ha
    have hb3 : upd P' b (.lst (W'.map V.int)) b = some (.lst (W'.map V.int)) := upd_same
    have eP3 : Ex P0 (upd P' b (.lst (W'.map V.int))) := eP.mut nb0
    generalize upd P' b (.lst (W'.map V.int)) = P3 at j3 ha3 hb3 eP3
    walk_at "w"
    refine aFld.nk j3 hm fun ko ks hko hkl hks => ?_
    obtain ⟨k, hk1, hk2⟩ := hks y.toNat (by omega)
    have ey : ((y.toNat : Nat) : Int) = y := Int.toNat_of_nonneg y0
    walk_at "w"
    refine w_ixL (j3.g _ _ hko) (atI_int y0 hk1) ?_
    walk_at "w"
    refine aForL.go (fun i G' P' σ' => G' = G ∧ Ex P0 P' ∧ ∃ (F2 W2 : List Int) (s6 s7 : Option V), P' a = some (.dK (keyP F2)) ∧ P' b = some (.lst (W2.map V.int)) ∧ Fm es inn s n y.toNat i F2 W2 ∧ 2 * (n.toNat - F2.length) + W2.length < 2 * (n.toNat - F.length) + (W' ++ [y]).length ∧ σ' = [some (.ref m), some (.int s), some (.ref dI), some (.ref a), some (.ref b), some (.int y), s6, s7]) j3 hk2 ⟨rfl, eP3, F, W', s6, s7, ha3, hb3, hM, by rw [List.length_append, List.length_singleton]; omega, rfl⟩ (fun i G' P' σ' h => h.1 ▸ hk2) ?_ ?_
    · clear ha hb j' eP ha3 hb3 eP3 j3
      rintro i z G P2 H4 σ' hz j' ⟨rfl, eP, F2, W2, s6, s7, ha, hb, hM2, lt2, rfl⟩
      obtain ⟨x, hx, rfl⟩ := int_at hz
      obtain ⟨kk, e, he, hbe, ex⟩ := outs_iff.mp (List.mem_of_getElem? hx)
      rw [Nat.zero_add] at ex
      subst ex
      have lF2 := nodup_fin hM2.nd fun x hx => (hM2.r x hx).2
      walk_at "w"
      refine ⟨m, kk, n, es, e, rfl, hm.mono j'.exG, he, fun t ht => ?_⟩
      walk_at "w"
      refine dnot_rd (.inl (j'.p _ _ ha)) ?_
      walk_at "w"
      by_cases c1 : e.a ∈ F2
      · refine itNF c1 ?_
        refine itBF rfl ?_
        walk_at "w"
        exact ⟨_, _, j', rfl, eP, F2, W2, _, _, ha, hb, hM2.next hx he fun _ => c1, lt2, rfl⟩
      refine itNT c1 ?_
      walk_at "w"
      refine dyes_rd (ns := inn) (hI.elim (fun h => Ex.rd j'.exG h) fun h => Ex.rd (eP.trans j'.exP) h) ?_
      walk_at "w"
      by_cases c2 : e.a ∈ inn
      rotate_left
      · refine itF c2 ?_
        walk_at "w"
        exact ⟨_, _, j', rfl, eP, F2, W2, _, _, ha, hb, hM2.next hx he fun h => absurd h c2, lt2, rfl⟩
      refine itT c2 ?_
      have hM3 := hM2.add hs hx he c2 c1
      have lF3 := nodup_fin hM3.nd fun x hx => (hM3.r x hx).2
      rw [List.length_append, List.length_singleton] at lF3
      walk_at "w"
      refine dputP (k := .inl e.a) j' rfl ha (by unfold keyP; rw [List.length_map]; omega) fun H5 j5 => ?_
      have ha5 : upd P2 a (.dK (putK (keyP F2) (.inl e.a) (.bl true))) a = some (.dK (keyP (F2 ++ [e.a]))) := by rw [upd_same, keyP_put c1]
      have hb5 : upd P2 a (.dK (putK (keyP F2) (.inl e.a) (.bl true))) b = some (.lst (W2.map V.int)) := Eq.trans (upd_ne (Ne.symm hab)) hb
      have eP5 : Ex P0 (upd P2 a (.dK (putK (keyP F2) (.inl e.a) (.bl true)))) := eP.mut na0
      generalize upd P2 a (.dK (putK (keyP F2) (.inl e.a) (.bl true))) = P5 at j5 ha5 hb5 eP5
      walk_at "w"
      refine appendP j5 hb5 (by rw [List.length_map]; have := hM2.l; omega) fun H6 j6 => ?_
      walk_at "w"
      refine ⟨_, _, j6, rfl, eP5.mut nb0, F2 ++ [e.a], W2 ++ [e.a], _, _, Eq.trans (upd_ne hab) ha5, by rw [upd_same, List.map_append]; rfl, hM3, ?_, rfl⟩
      rw [List.length_append, List.length_append, List.length_singleton]
      rw [List.length_append, List.length_singleton] at lt2 ⊢
      omega
    · clear ha hb j' eP ha3 hb3 eP3 j3
      rintro G P2 H4 σ' j' ⟨rfl, eP, F2, W2, s6, s7, ha, hb, hM2, lt2, rfl⟩
      rw [List.length_map] at hM2
      exact ⟨_, _, _, lt2, j', rfl, eP, F2, W2, _, _, _, ha, hb, hM2.fin, rfl, rfl⟩
def stands (n : Int) : List Int := rgI 0 n.toNat
theorem stands_mem {n x : Int} : x ∈ stands n ↔ 0 ≤ x ∧ x < n := by
  unfold stands
  rw [rgI_mem]
  constructor
  · intro h; omega
  · intro h; omega
open Classical in
/-- the reached standings, ascending -/
noncomputable def Reach (n : Int) (es : List Ev) : List Int := (stands n).filter fun x => decide (Rch es (stands n) 0 x)
open Classical in
/-- the standings that lead to one another with one -/
noncomputable def Knot (n : Int) (es : List Ev) (s : Int) : List Int := (Reach n es).filter fun x => decide (Rch es (stands n) s x ∧ Rch es (stands n) x s)
open Classical in
theorem reach_mem {n x : Int} {es : List Ev} : x ∈ Reach n es ↔ (0 ≤ x ∧ x < n) ∧ Rch es (stands n) 0 x := by
  unfold Reach
  rw [List.mem_filter, stands_mem]
  exact ⟨fun h => ⟨h.1, of_decide_eq_true h.2⟩, fun h => ⟨h.1, decide_eq_true h.2⟩⟩
open Classical in
theorem knot_mem {n s x : Int} {es : List Ev} : x ∈ Knot n es s ↔ x ∈ Reach n es ∧ Rch es (stands n) s x ∧ Rch es (stands n) x s := by
  unfold Knot
  rw [List.mem_filter]
  exact ⟨fun h => ⟨h.1, of_decide_eq_true h.2⟩, fun h => ⟨h.1, decide_eq_true h.2⟩⟩
theorem reach_asc (n : Int) (es : List Ev) : (Reach n es).Pairwise (· < ·) := (rgI_asc 0 _).filter _
theorem knot_asc (n : Int) (es : List Ev) (s : Int) : (Knot n es s).Pairwise (· < ·) := (reach_asc n es).filter _
theorem asc_nodup {l : List Int} (h : l.Pairwise (· < ·)) : l.Nodup := h.imp fun h e => by omega
theorem asc_of {l : List Int} (h : l.Pairwise (· ≤ ·)) (n : l.Nodup) : l.Pairwise (· < ·) := (h.and n).imp fun {x y} h => by have := h.1; have := h.2; omega
theorem asc_unique : ∀ {l m : List Int}, l.Pairwise (· < ·) → m.Pairwise (· < ·) → (∀ x, x ∈ l ↔ x ∈ m) → l = m
  | [], [], _, _, _ => rfl
  | [], b :: m, _, _, h => nomatch (h b).mpr List.mem_cons_self
  | a :: l, [], _, _, h => nomatch (h a).mp List.mem_cons_self
  | a :: l, b :: m, h1, h2, h => by
    obtain ⟨a1, a2⟩ := List.pairwise_cons.mp h1
    obtain ⟨b1, b2⟩ := List.pairwise_cons.mp h2
    have e : a = b := by
      rcases List.mem_cons.mp ((h a).mp List.mem_cons_self) with e | hm
      · exact e
      · rcases List.mem_cons.mp ((h b).mpr List.mem_cons_self) with e | hl
        · exact e.symm
        · have := a1 b hl
          have := b1 a hm
          omega
    subst e
    have na : a ∉ l := fun hm => by have := a1 a hm; omega
    have nb : a ∉ m := fun hm => by have := b1 a hm; omega
    rw [asc_unique a2 b2 fun x => ⟨fun hx => by
      rcases List.mem_cons.mp ((h x).mp (List.mem_cons_of_mem _ hx)) with e | hm
      · subst e; exact absurd hx na
      · exact hm, fun hx => by
      rcases List.mem_cons.mp ((h x).mpr (List.mem_cons_of_mem _ hx)) with e | hm
      · subst e; exact absurd hx nb
      · exact hm⟩]
theorem Rch.trans {es : List Ev} {inn : List Int} {s y x : Int} (h1 : Rch es inn s y) (h2 : Rch es inn y x) : Rch es inn s x := by
  induction h2 with
  | refl => exact h1
  | step _ he hb ha ih => exact .step ih he hb ha
theorem Rch.sub {es : List Ev} {inn inn' : List Int} {s x : Int} (h : Rch es inn s x) (hs : ∀ y, y ∈ inn → y ∈ inn') : Rch es inn' s x := by
  induction h with
  | refl => exact .refl
  | step _ he hb ha ih => exact .step ih he hb (hs _ ha)
theorem Rch.inn {es : List Ev} {inn : List Int} {s x : Int} (h : Rch es inn s x) (hs : s ∈ inn) : x ∈ inn := by
  cases h with
  | refl => exact hs
  | step _ _ _ ha => exact ha
theorem rch_reach {n s x : Int} {es : List Ev} (hs : s ∈ Reach n es) : Rch es (Reach n es) s x ↔ Rch es (stands n) s x := by
  refine ⟨fun h => h.sub fun y hy => stands_mem.mpr (reach_mem.mp hy).1, fun h => ?_⟩
  have h0 := (reach_mem.mp hs).2
  induction h with
  | refl => exact .refl
  | step hp he hb ha ih => exact .step ih he hb (reach_mem.mpr ⟨stands_mem.mp ha, (h0.trans hp).step he hb ha⟩)
theorem rch_fin {n s x : Int} {es : List Ev} (h : Rch es (stands n) s x) (h0 : 0 ≤ s) (h1 : s < n) : 0 ≤ x ∧ x < n := stands_mem.mp (h.inn (stands_mem.mpr ⟨h0, h1⟩))
def spReached (K : PySem.W.Frag) : Sp := fun vs H Q _ => ∃ (m : Addr) (n : Int) (es : List Ev) (G P : Hp), vs = [.ref m] ∧ Join G P H ∧ MachK K G m n es ∧ Std n es ∧ 1 ≤ n ∧ n ≤ 63 ∧ es.length ≤ 10000 ∧
  ∀ t G' H', Ex G G' → Join G' P H' → G' t = some (.tup ((Reach n es).map V.int)) → Q (.ref t) H'
theorem sc_reached_of : FnScope ["machine", "standing"] ["machine"] (defScope s_reached_of) := ⟨rfl, rfl, rfl, by decide +kernel, rfl, by decide +kernel, by decide +kernel⟩
theorem ok_reached_of (T : Txt K mg) {fd_flooded : FuncData} (G_flooded : Dn P w K mg base (L2.CX P w) 2 "flooded" ["machine", "start", "inner"] (spFlood K) fd_flooded) : ∃ fd, Dn P w K mg base (L2.CX P w) 3 "reached_of" ["machine"] (spReached K) fd := by
  obtain ⟨fd, F⟩ := T.d_reached_of
  refine ⟨fd, F.ok sc_reached_of (fun vs H Q E h => ?_) (fun cdv A outer s H vs Q E hr h => ?_), T.g_reached_of, F.kp, F.bindsN fun _ _ _ _ _ _ us hl => match us, hl with | [_], _ => rfl, Lv.fun_lk F⟩
  · obtain ⟨_, _, _, _, _, rfl, _⟩ := h
    rfl
  · have hu := hu_of hr
    have hr_flooded : Room 2 _ := hr.mono (by decide)
    refine ⟨_, PSs.nox (pss_one (ps_ret (pe_callTy call_tuple_of (by rfl) T.n_tuple (by decide +kernel) (pa_cons (pe_callB (Lv.cr_sortDI rfl) (by rfl) T.n_sorted (by decide +kernel) (pa_cons (pe_call G_flooded.ok hr_flooded rfl G_flooded.mg G_flooded.kp G_flooded.b .nil passL (pa_cons (pv 0) (pa_cons pe_int (pa_cons (pe_dc (own := [("standing", 1)]) (g := gName 1) (tt := tYes) rfl sc_reached_of.nd (pi_range1 (by rfl) T.n_range (pa_cons (pe_fld (pv 0) rfl) pa_nil)) (blkOk_by (N := ["machine", "standing"]) (sc := defScope s_reached_of) (by decide +kernel)) (fun _ _ _ _ _ => (pg_name (i := 1) sc_reached_of.nd rfl (Or.inl rfl) (hf := Or.inr rfl))) (fun _ _ _ _ _ => pts_nil) (fun _ _ _ _ _ => (pv 1)) (fun _ _ _ _ _ => pe_bl)) pa_nil)))) pa_nil)) pa_nil)))), ?_⟩
    obtain ⟨m, n, es, G, P0, rfl, j, hm, hs, n1, nb, lb, q⟩ := h
    walk_at "w"
    refine aFld.ns j hm ?_
    walk_at "w"
    refine aDcR.go (n := n.toNat) j (by omega) (by omega) (fun x => rfl) (fun n H' S h => by walk_at "w"; exact h) (fun x H' S h => by walk_at "w"; exact h) fun dI P1 H1 nI e1 j1 hI => ?_
    walk_at "w"
    refine ⟨m, dI, 0, n, es, stands n, G, P1, rfl, j1, hm, hs, by omega, by omega, by omega, lb, .inr (.inl hI), fun F d G2 H2 nd nF bF hF e2 j2 hd => ?_⟩
    have lF := nodup_fin nF bF
    walk_at "w"
    refine sortDI_go j2 (.inl (j2.g _ _ hd)) (keyP_keys F) (by omega) fun ns' p G3 H3 per srt _ e3 j3 hp => ?_
    walk_at "w"
    refine tupOf_go j3 hp fun t G4 H4 _ e4 j4 ht => ?_
    obtain ⟨G5, j5, e5, _⟩ := j4.back e1
    have er : ns' = Reach n es := asc_unique (asc_of srt (per.nodup_iff.mpr nF)) (reach_asc n es) fun x => by
      rw [per.mem_iff, hF x, reach_mem]
      exact ⟨fun h => ⟨rch_fin h (by omega) (by omega), h⟩, fun h => h.2⟩
    rw [er] at ht
    exact q t G5 H4 (((e2.trans e3).trans e4).trans e5) j5 (e5 _ _ ht)
theorem putK_keys {ds : List (List L2.Key × V)} {nss : List (List Int)} {ks : List Int} {v : V} (h : ds.map (·.1) = nss.map (·.map Sum.inl)) :
    ∃ nss' : List (List Int), (putK ds (ks.map Sum.inl) v).map (·.1) = nss'.map (·.map Sum.inl) ∧ (nss.Nodup → nss'.Nodup) ∧ nss'.length ≤ nss.length + 1 ∧ ∀ x, x ∈ nss' ↔ x ∈ nss ∨ x = ks := by
  have inj : ∀ {a b : List Int}, (a.map (Sum.inl : Int → L2.Key)) = b.map Sum.inl → a = b := fun {a b} e => by
    have : ∀ {a b : List Int}, (a.map (Sum.inl : Int → L2.Key)) = b.map Sum.inl → a = b := by
      intro a
      induction a with
      | nil => intro b e; cases b with
        | nil => rfl
        | cons _ _ => cases e
      | cons x a ih => intro b e; cases b with
        | nil => cases e
        | cons y b =>
          rw [List.map_cons, List.map_cons] at e
          injection e with e1 e2
          injection e1 with e1
          rw [e1, ih e2]
    exact this e
  by_cases c : (ds.any fun kv => decide (kv.1 = ks.map Sum.inl)) = true
  · have hm : ks ∈ nss := by
      obtain ⟨kv, h1, h2⟩ := List.any_eq_true.mp c
      have e := of_decide_eq_true h2
      have h3 : kv.1 ∈ ds.map (·.1) := List.mem_map.mpr ⟨kv, h1, rfl⟩
      rw [h] at h3
      obtain ⟨z, hz, ez⟩ := List.mem_map.mp h3
      rw [e] at ez
      rw [← inj ez]; exact hz
    refine ⟨nss, ?_, id, Nat.le_succ _, fun x => ⟨.inl, fun hx => hx.elim id fun e => e ▸ hm⟩⟩
    unfold putK
    rw [if_pos c, List.map_map, ← h]
    refine List.map_congr_left fun kv _ => ?_
    show (if kv.1 = ks.map Sum.inl then (kv.1, v) else kv).1 = kv.1
    split <;> rfl
  · have hm : ks ∉ nss := fun hm => by
      have h3 : ks.map Sum.inl ∈ ds.map (·.1) := by rw [h]; exact List.mem_map.mpr ⟨ks, hm, rfl⟩
      obtain ⟨kv, h1, h2⟩ := List.mem_map.mp h3
      exact c (List.any_eq_true.mpr ⟨kv, h1, decide_eq_true h2⟩)
    refine ⟨nss ++ [ks], ?_, fun hn => List.nodup_append.mpr ⟨hn, List.nodup_cons.mpr ⟨fun h => (nomatch h), List.nodup_nil⟩, fun a ha b hb e => hm ?_⟩, by rw [List.length_append]; exact Nat.le_refl _, fun x => by rw [List.mem_append, List.mem_singleton]⟩
    · unfold putK
      rw [if_neg c, List.map_append, List.map_append, h]; rfl
    · rw [← List.mem_singleton.mp hb, ← e]; exact ha
theorem knot_self {n s : Int} {es : List Ev} (h : s ∈ Reach n es) : s ∈ Knot n es s := knot_mem.mpr ⟨h, .refl, .refl⟩
/-- all knots, ascending -/
def KnotsIs (n : Int) (es : List Ev) (kss : List (List Int)) : Prop := kss.Pairwise (fun a b => Lv.lexLt a b = true) ∧ ∀ ks, ks ∈ kss ↔ ∃ s, s ∈ Reach n es ∧ ks = Knot n es s
theorem KnotsIs.one {n : Int} {es : List Ev} {kss kss' : List (List Int)} (h : KnotsIs n es kss) (h' : KnotsIs n es kss') : kss = kss' := lex_unique h.1 h'.1 fun x => (h.2 x).trans (h'.2 x).symm
def spKnots (K : PySem.W.Frag) : Sp := fun vs H Q _ => ∃ (m : Addr) (n : Int) (es : List Ev) (G P : Hp), vs = [.ref m] ∧ Join G P H ∧ NT P ∧ MachK K G m n es ∧ Std n es ∧ 1 ≤ n ∧ n ≤ 63 ∧ es.length ≤ 10000 ∧
  ∀ kss ys p G' H', KnotsIs n es kss → H p = none → Ex G G' → Join G' P H' → G' p = some (.lst ys) → TupL iV G' ys kss → Q (.ref p) H'
theorem sc_knots_of : FnScope ["machine", "inner", "ways", "found", "standing", "other"] ["machine"] (defScope s_knots_of) := ⟨rfl, rfl, rfl, by decide +kernel, rfl, by decide +kernel, by decide +kernel⟩
theorem ok_knots_of (T : Txt K mg) {fd_reached_of : FuncData} (G_reached_of : Dn P w K mg base (L2.CX P w) 3 "reached_of" ["machine"] (spReached K) fd_reached_of) {fd_flooded : FuncData} (G_flooded : Dn P w K mg base (L2.CX P w) 2 "flooded" ["machine", "start", "inner"] (spFlood K) fd_flooded) : ∃ fd, Dn P w K mg base (L2.CX P w) 4 "knots_of" ["machine"] (spKnots K) fd := by
  obtain ⟨fd, F⟩ := T.d_knots_of
  refine ⟨fd, F.ok sc_knots_of (fun vs H Q E h => ?_) (fun cdv A outer s H vs Q E hr h => ?_), T.g_knots_of, F.kp, F.bindsN fun _ _ _ _ _ _ us hl => match us, hl with | [_], _ => rfl, Lv.fun_lk F⟩
  · obtain ⟨_, _, _, _, _, rfl, _⟩ := h
    rfl
  · have hu := hu_of hr
    have hr_reached_of : Room 3 _ := hr.mono (by decide)
    have hr_flooded : Room 2 _ := hr.mono (by decide)
    refine ⟨_, PSs.nox (pss_cons (ps_set (i := 1) sc_knots_of.nd rfl (Or.inr rfl) (pe_dc (own := [("standing", 4)]) (g := gName 4) (tt := tYes) rfl sc_knots_of.nd (pi_tup (pe_call G_reached_of.ok hr_reached_of rfl G_reached_of.mg G_reached_of.kp G_reached_of.b .nil passL (pa_cons (pv 0) pa_nil))) (blkOk_by (N := ["machine", "inner", "ways", "found", "standing", "other"]) (sc := defScope s_knots_of) (by decide +kernel)) (fun _ _ _ _ _ => (pg_name (i := 4) sc_knots_of.nd rfl (Or.inl rfl) (hf := Or.inr rfl))) (fun _ _ _ _ _ => pts_nil) (fun _ _ _ _ _ => (pv 4)) (fun _ _ _ _ _ => pe_bl)))
      (pss_cons (ps_set (i := 2) sc_knots_of.nd rfl (Or.inr rfl) (pe_lock (pe_dc (own := [("standing", 4)]) (g := gName 4) (tt := tYes) rfl sc_knots_of.nd (pi_keys (pv 1)) (blkOk_by (N := ["machine", "inner", "ways", "found", "standing", "other"]) (sc := defScope s_knots_of) (by decide +kernel)) (fun _ _ _ _ _ => (pg_name (i := 4) sc_knots_of.nd rfl (Or.inl rfl) (hf := Or.inr rfl))) (fun _ _ _ _ _ => pts_nil) (fun _ _ _ _ _ => (pv 4)) (fun _ _ _ _ _ => (pe_call G_flooded.ok hr_flooded rfl G_flooded.mg G_flooded.kp G_flooded.b .nil passL (pa_cons (pv 0) (pa_cons (pv 4) (pa_cons (pv 1) pa_nil))))))))
      (pss_cons (ps_set (i := 3) sc_knots_of.nd rfl (Or.inl rfl) pe_dnewT)
      (pss_cons (ps_lock (ps_for PassesOwn.never rfl (pi_keys (pv 1)) (pg_name (i := 4) sc_knots_of.nd rfl (Or.inr rfl)) (pss_one (ps_dput hu (pv 3) (pe_callTy call_tuple_of (by rfl) T.n_tuple (by decide +kernel) (pa_cons (pe_lc (own := [("other", 5)]) (g := gName 5) rfl sc_knots_of.nd (pi_list (pe_callB (Lv.cr_sortDI rfl) (by rfl) T.n_sorted (by decide +kernel) (pa_cons (pe_dget hu (pv 2) (pv 4) (fun _ _ => rfl)) pa_nil))) (blkOk_by (N := ["machine", "inner", "ways", "found", "standing", "other"]) (sc := defScope s_knots_of) (by decide +kernel)) (fun _ _ _ _ _ => (pg_name (i := 5) sc_knots_of.nd rfl (Or.inl rfl) (hf := Or.inr rfl))) (fun _ _ _ _ _ => (pts_one (pt_cmp (pc_din hu (pv 4) (pe_dget hu (pv 2) (pv 5) (fun _ _ => rfl)))))) (fun _ _ _ _ _ => (pv 5))) pa_nil)) pe_bl rfl))))
      (pss_one (ps_ret (pe_callB (Lv.cr_sortLD rfl) (by rfl) T.n_sorted (by decide +kernel) (pa_cons (pv 3) pa_nil)))))))), ?_⟩
    classical
    obtain ⟨m, n, es, G, P0, rfl, j, nt, hm, hs, n1, nb, lb, q⟩ := h
    walk_at "w"
    refine ⟨m, n, es, G, P0, rfl, j, hm, hs, n1, nb, lb, fun t G1 H1 e1 j1 ht => ?_⟩
    have rN := asc_nodup (reach_asc n es)
    have rF : ∀ x ∈ Reach n es, 0 ≤ x ∧ x < n := fun x hx => (reach_mem.mp hx).1
    have rL := nodup_fin rN rF
    walk_at "w"
    refine aDcT.go j1 ht rN (by omega) (fun x => rfl) (fun n H' S h => by walk_at "w"; exact h) (fun x H' S h => by walk_at "w"; exact h) fun dI G2 H2 nI e2 j2 hI => ?_
    obtain ⟨G3, j3, e3, _⟩ := j2.toP e2 (j1.ng nI) hI
    have hI3 : upd P0 dI (.dK (keyP (Reach n es))) dI = some (.dK (keyP (Reach n es))) := upd_same
    have eP3 : Ex P0 (upd P0 dI (.dK (keyP (Reach n es)))) := Ex.new (j1.np nI)
    have nt3 : NT (upd P0 dI (.dK (keyP (Reach n es)))) := nt.upd fun xs e => nomatch e
    have nI0 : P0 dI = none := j1.np nI
    generalize upd P0 dI (.dK (keyP (Reach n es))) = P3 at j3 hI3 eP3 nt3
    have hm3 := (hm.mono e1).mono e3
    walk_at "w"
    refine dcKP.go (ns := Reach n es) (fun s v G => ∃ (d : Addr) (F : List Int), v = .ref d ∧ G d = some (.dK (keyP F)) ∧ F.Nodup ∧ ∀ x, x ∈ F ↔ Rch es (Reach n es) s x) j3 hI3 (fun H' Q h => by walk_at "w"; exact h) rN (by omega) (fun s v G1 G2 e ⟨d, F, h1, h2, h3⟩ => ⟨d, F, h1, e _ _ h2, h3⟩) (fun x => rfl) (fun n H' S h => by walk_at "w"; exact h) (fun od s G' P' H' S hs' e' hP hd j' k => ?_) fun dW vs G4 H4 nW hvl hvs e4 j4 => ?_
    · walk_at "w"
      exact ⟨m, dI, s, n, es, Reach n es, G', P', rfl, j', hm3.mono e', hs, (rF s hs').1, (rF s hs').2, by omega, lb, .inr (.inr ⟨od, hd⟩), fun F d G5 H5 nd nF bF hF e5 j5 hd5 => k (.ref d) G5 H5 e5 j5 ⟨d, F, rfl, hd5, nF, hF⟩⟩
    have hW : upd P3 dW (.dK (kvZ (Reach n es) vs)) dW = some (.dK (kvZ (Reach n es) vs)) := upd_same
    have eP4 : Ex P3 (upd P3 dW (.dK (kvZ (Reach n es) vs))) := Ex.new (j3.np nW)
    have nt4 : NT (upd P3 dW (.dK (kvZ (Reach n es) vs))) := nt3.upd fun xs e => nomatch e
    generalize upd P3 dW (.dK (kvZ (Reach n es) vs)) = P4 at j4 hW eP4 nt4
    have nWI : dW ≠ dI := fun e => by subst e; rw [j3.p _ _ hI3] at nW; cases nW
    have hI4 := eP4 _ _ hI3
    have get : ∀ o, o ∈ Reach n es → ∃ (d : Addr) (F : List Int), valV (kvZ (Reach n es) vs) (.inl o) = some (.ref d) ∧ G4 d = some (.dK (keyP F)) ∧ F.Nodup ∧ ∀ x, x ∈ F ↔ Rch es (Reach n es) o x := fun o ho => by
      obtain ⟨i, hi⟩ := List.getElem?_of_mem ho
      have il := (List.getElem?_eq_some_iff.mp hi).1
      obtain ⟨v, hv⟩ : ∃ v, vs[i]? = some v := ⟨_, List.getElem?_eq_getElem (by omega)⟩
      obtain ⟨d, F, rfl, h2, h3⟩ := hvs i o v hi hv
      exact ⟨d, F, valV_kvZ rN hi hv, h2, h3⟩
    have hm4 := hm3.mono e4
    walk_at "w"
    refine aDNewT.goP2 j4 nt4 fun dF P5 H5 nF eP5 j5 hF hnt5 => ?_
    have hF0 : P0 dF = none := by
      cases e : P0 dF with
      | none => rfl
      | some o => rw [j4.p _ _ (eP4 _ _ (eP3 _ _ e))] at nF; cases nF
    have nFI : dF ≠ dI := fun e => by subst e; rw [j4.p _ _ hI4] at nF; cases nF
    have nFW : dF ≠ dW := fun e => by subst e; rw [j4.p _ _ hW] at nF; cases nF
    have nt5 : ∀ od, NT (upd P5 dI (.frz od (.dK (keyP (Reach n es))))) := fun od => NT.upd hnt5 fun xs e => (nomatch e)
    walk_at "w"
    refine forKP.go (kvs := keyP (Reach n es)) j5 (eP5 _ _ hI4) (fun H' Q h => by walk_at "w"; exact h) (fun i G' P' σ' => Ex G4 G' ∧ (∀ c o, c ≠ dI → c ≠ dF → P5 c = some o → P' c = some o) ∧ NT P' ∧ ∃ (ds : List (List L2.Key × V)) (nss : List (List Int)) (s4 s5 : Option V), P' dF = some (.dT ds) ∧ ds.map (·.1) = nss.map (·.map Sum.inl) ∧ nss.Nodup ∧ nss.length ≤ i ∧ (∀ ks, ks ∈ nss ↔ ∃ s, s ∈ (Reach n es).take i ∧ ks = Knot n es s) ∧ σ' = [some (.ref m), some (.ref dI), some (.ref dW), some (.ref dF), s4, s5]) (fun od => ⟨Ex.refl _, fun c o n1 n2 h => by rw [upd_ne n1]; exact h, ?_, [], [], _, _, Eq.trans (upd_ne nFI) hF, rfl, List.nodup_nil, Nat.le_refl _, fun ks => ⟨fun h => (nomatch h), fun ⟨s, h, _⟩ => (nomatch h)⟩, rfl⟩) ?_ ?_
    · exact (nt5 od)
    · rintro od rt' bk' i k v G' P' H' σ' hk hd j' ⟨e', hP', nt', ds, nss, s4, s5, hF', hk', hn', hl', hm', rfl⟩
      obtain ⟨s, hs1, rfl⟩ := keyP_at hk
      have hs2 := List.mem_of_getElem? hs1
      have hW' := hP' _ _ nWI (Ne.symm nFW) (eP5 _ _ hW)
      walk_at "w"
      obtain ⟨d, F, hv, hd2, hF2, hF3⟩ := get s hs2
      refine dget_kv (k := .inl s) rfl (.inl (j'.p _ _ hW')) hv ?_
      have bF : ∀ x ∈ F, x ∈ Reach n es := fun x hx => ((hF3 x).mp hx).inn hs2
      have lF := nodup_fin hF2 fun x hx => rF x (bF x hx)
      walk_at "w"
      refine sortDI_go j' (.inl (j'.g _ _ (e' _ _ hd2))) (keyP_keys F) (by omega) fun ns' p G6 H6 per srt _ e6 j6 hp => ?_
      walk_at "w"
      refine aLcL.fil (fun o => decide (Rch es (Reach n es) o s)) (fun k => .int k) j6 hp (by rw [per.length_eq]; omega) (fun o G7 H7 R R0 ho e7 j7 kR kR0 => ?_) fun l1 G7 H7 _ e7 j7 hl1 => ?_
      · have ho2 := bF o (per.mem_iff.mp ho)
        obtain ⟨d2, F2, hv2, hd3, hF4, hF5⟩ := get o ho2
        walk_at "w"
        refine ⟨rfl, ?_⟩
        walk_at "w"
        refine dget_kv (k := .inl o) rfl (.inl (j7.p _ _ hW')) hv2 ?_
        walk_at "w"
        refine dyes_rd (.inl (j7.g _ _ (e7 _ _ (e6 _ _ (e' _ _ hd3))))) ?_
        walk_at "w"
        by_cases c : Rch es (Reach n es) o s
        · refine itT ((hF5 s).mpr c) ?_
          walk_at "w"
          exact kR (decide_eq_true c) _ _ (Ex.refl _) j7
        · refine itF (fun h => c ((hF5 s).mp h)) ?_
          exact kR0 (decide_eq_false c) _ _ (Ex.refl _) j7
      walk_at "w"
      refine tupOf_go j7 hl1 fun tk G8 H8 _ e8 j8 htk => ?_
      have ek : (ns'.filter fun o => decide (Rch es (Reach n es) o s)) = Knot n es s := asc_unique ((asc_of srt (per.nodup_iff.mpr hF2)).filter _) (knot_asc n es s) fun x => by
        rw [List.mem_filter, per.mem_iff, hF3 x, knot_mem, decide_eq_true_eq]
        constructor
        · rintro ⟨a1, a2⟩
          have hx := a1.inn hs2
          exact ⟨hx, (rch_reach hs2).mp a1, (rch_reach hx).mp a2⟩
        · rintro ⟨a0, a1, a2⟩
          exact ⟨(rch_reach hs2).mpr a1, (rch_reach a0).mpr a2⟩
      rw [ek] at htk
      walk_at "w"
      have lds : ds.length = nss.length := by have := congrArg List.length hk'; simpa using this
      have il := (List.getElem?_eq_some_iff.mp hs1).1
      refine dputTP (ks := Knot n es s) j8 (j8.g _ _ htk) hF' (by omega) fun H9 j9 => ?_
      obtain ⟨nss', k1, k2, k3, k4⟩ := putK_keys (v := V.bl true) (ks := Knot n es s) hk'
      refine ⟨_, _, j9, Eq.trans (upd_ne (Ne.symm nFI)) hd, ((e'.trans e6).trans e7).trans e8, fun c o n1 n2 h => by rw [upd_ne n2]; exact hP' c o n1 n2 h, nt'.upd fun xs e => (nomatch e), _, nss', _, _, upd_same, k1, k2 hn', by omega, fun ks => ?_, rfl⟩
      rw [k4, hm', take_more hs1]
      constructor
      · rintro (⟨z, h1, h2⟩ | h)
        · exact ⟨z, List.mem_append_left _ h1, h2⟩
        · exact ⟨s, List.mem_append_right _ (List.mem_singleton.mpr rfl), h⟩
      · rintro ⟨z, h1, h2⟩
        rcases List.mem_append.mp h1 with h1 | h1
        · exact .inl ⟨z, h1, h2⟩
        · rw [List.mem_singleton.mp h1] at h2
          exact .inr h2
    · rintro od G' P' H' σ' hd ⟨e', hP', nt', ds, nss, s4, s5, hF', hk', hn', hl', hm', rfl⟩ j'
      rw [show (keyP (Reach n es)).length = (Reach n es).length from by unfold keyP; rw [List.length_map]] at hl' hm'
      rw [List.take_length] at hm'
      have nt9 : NT (upd P' dI (.dK (keyP (Reach n es)))) := nt'.upd fun xs e => (nomatch e)
      have hF9 : upd P' dI (.dK (keyP (Reach n es))) dF = some (.dT ds) := Eq.trans (upd_ne nFI) hF'
      have eP9 : Ex P0 (upd P' dI (.dK (keyP (Reach n es)))) := fun c o h => by
        have n1 : c ≠ dI := ne_of_none h nI0
        have n2 : c ≠ dF := ne_of_none h hF0
        rw [upd_ne n1]
        exact hP' c o n1 n2 (eP5 _ _ (eP4 _ _ (eP3 _ _ h)))
      generalize upd P' dI (.dK (keyP (Reach n es))) = P9 at j' nt9 hF9 eP9
      generalize upd H' dI (.dK (keyP (Reach n es))) = H9 at j' ⊢
      walk_at "w"
      refine sortLD_go j' nt9 (.inl (j'.p _ _ hF9)) hk' (by omega) (fun ks hks => ?_) fun kss ys p G6 H6 per srt np e6 j6 hp hy => ?_
      · obtain ⟨s, h1, rfl⟩ := (hm' ks).mp hks
        exact List.ne_nil_of_mem (knot_self h1)
      obtain ⟨G7, j7, e7, _⟩ := j6.back eP9
      have hp0 : H p = none := j.no p (by
        cases e : G p with
        | none => rfl
        | some o => rw [j'.g _ _ (e' _ _ (e4 _ _ (e3 _ _ (e1 _ _ e))))] at np; cases np) (by
        cases e : P0 p with
        | none => rfl
        | some o => rw [j'.p _ _ (eP9 _ _ e)] at np; cases np)
      exact q kss ys p G7 H6 ⟨lex_strict srt (per.nodup_iff.mpr hn'), fun ks => (per.mem_iff).trans (hm' ks)⟩ hp0 (((((e1.trans e3).trans e4).trans e').trans e6).trans e7) j7 (e7 _ _ hp) (hy.mono e7)
end X

namespace X
open PySem PySem.Spec PyProof.Rows L2 Lv
variable {P : Program} {w : World} {K : PySem.W.Frag} {mg : Str → Option Value} {base : Heap}
/-- the numbers of the events from a standing of some to one of them -/
def innAt (es : List Ev) (ks : List Int) (k : Nat) : Bool := match es[k]? with
  | some e => decide (e.b ∈ ks) && decide (e.a ∈ ks)
  | none => false
def innE (es : List Ev) (ks : List Int) : List Nat := (List.range es.length).filter (innAt es ks)
theorem innE_mem {es : List Ev} {ks : List Int} {k : Nat} : k ∈ innE es ks ↔ ∃ e, es[k]? = some e ∧ e.b ∈ ks ∧ e.a ∈ ks := by
  unfold innE innAt
  rw [List.mem_filter, List.mem_range]
  constructor
  · rintro ⟨h1, h2⟩
    obtain ⟨e, he⟩ : ∃ e, es[k]? = some e := ⟨_, List.getElem?_eq_getElem h1⟩
    rw [he] at h2
    simp only [Bool.and_eq_true, decide_eq_true_eq] at h2
    exact ⟨e, he, h2.1, h2.2⟩
  · rintro ⟨e, he, h1, h2⟩
    refine ⟨(List.getElem?_eq_some_iff.mp he).1, ?_⟩
    rw [he]
    simp [h1, h2]
theorem rV_app (l m : List Nat) : rV (l ++ m) = rV l ++ rV m := by simp [rV]
def spInner (K : PySem.W.Frag) : Sp := fun vs H Q _ => ∃ (m t : Addr) (n : Int) (es : List Ev) (ks : List Int) (G P : Hp), vs = [.ref m, .ref t] ∧ Join G P H ∧ MachK K G m n es ∧ es.length ≤ 10000 ∧ G t = some (.tup (ks.map V.int)) ∧
  ∀ l G' H', H l = none → Ex G G' → Join G' P H' → G' l = some (.lst (rV (innE es ks))) → Q (.ref l) H'
theorem sc_inner_events : FnScope ["machine", "knot", "found", "number", "event"] ["machine", "knot"] (defScope s_inner_events) := ⟨rfl, rfl, rfl, by decide +kernel, rfl, by decide +kernel, by decide +kernel⟩
theorem ok_inner_events (T : Txt K mg) : ∃ fd, Dn P w K mg base (L2.CX P w) 1 "inner_events" ["machine", "knot"] (spInner K) fd := by
  obtain ⟨fd, F⟩ := T.d_inner_events
  refine ⟨fd, F.ok sc_inner_events (fun vs H Q E h => ?_) (fun cdv A outer s H vs Q E hr h => ?_), T.g_inner_events, F.kp, F.bindsN fun _ _ _ _ _ _ us hl => match us, hl with | [_, _], _ => rfl, Lv.fun_lk F⟩
  · obtain ⟨_, _, _, _, _, _, _, rfl, _⟩ := h
    rfl
  · have hu := hu_of hr
    refine ⟨_, PSs.nox (pss_cons (ps_set (i := 2) sc_inner_events.nd rfl (Or.inl rfl) (pe_lst pa_nil))
      (pss_cons (ps_for PassesOwn.never rfl (pi_enumT (by rfl) T.n_enumerate (pa_cons (pe_fld (pv 0) rfl) pa_nil)) (pg_tup rfl (pgs_cons (pg_name (i := 3) sc_inner_events.nd rfl (Or.inl rfl)) (pgs_cons (pg_name (i := 4) sc_inner_events.nd rfl (Or.inl rfl)) pgs_nil))) (pss_one (ps_if (PW.pt (pw_and (pt_cmpR op_in_seq (pe_ix ix_tup (pv 4) pe_int (fun _ _ => rfl)) (pv 1) (by rfl)) (pw_and1 (pt_cmpR op_in_seq (pe_ix ix_tup (pv 4) pe_int (fun _ _ => rfl)) (pv 1) (by rfl))))) (pss_one (ps_expr (pe_bm PySem.F.plainAttrs_list PySem.F.slot_list_append PySem.F.type_list_append mt_append (pv 2) (pa_cons (pv 3) pa_nil)))) pss_nil)))
      (pss_one (ps_ret (pv 2))))), ?_⟩
    obtain ⟨m, t, n, es, ks, G, P0, rfl, j, hm, lb, ht, q⟩ := h
    walk_at "w"
    refine aLst.goP j (by show 0 ≤ 100000; decide) fun b P1 H1 nb1 e1 j1 hb => ?_
    have nb0 := j.np nb1
    walk_at "w"
    refine aFld.ne j1 hm fun te us hte hu => ?_
    walk_at "w"
    refine aForE.go (fun i G' P' σ' => Ex G G' ∧ Ex P0 P' ∧ ∃ (s3 s4 : Option V), P' b = some (.lst (rV ((List.range i).filter (innAt es ks)))) ∧ σ' = [some (.ref m), some (.ref t), some (.ref b), s3, s4]) j1 hte ⟨Ex.refl _, e1, _, _, hb, rfl⟩ (fun i G' P' σ' h => h.1 _ _ hte) ?_ ?_
    · clear hb j1 e1
      rintro i x T G1 G2 P' H' σ' hx j' hT e2 ⟨e1, eP, s3, s4, hb, rfl⟩
      obtain ⟨e, tv, he, rfl, htv⟩ := (hu.mono (e1.trans e2)).get hx
      have ht2 := (e1.trans e2) _ _ ht
      have il := (List.getElem?_eq_some_iff.mp he).1
      have hin : (List.range (i + 1)).filter (innAt es ks) = (List.range i).filter (innAt es ks) ++ (if innAt es ks i then [i] else []) := by
        rw [List.range_succ, List.filter_append, List.filter_cons, List.filter_nil]
      have hv : innAt es ks i = (decide (e.b ∈ ks) && decide (e.a ∈ ks)) := by unfold innAt; rw [he]
      have no : innAt es ks i = false → ∃ G3 P3, Join G3 P3 H' ∧ Ex G G3 ∧ Ex P0 P3 ∧ ∃ (s3 s4 : Option V), P3 b = some (.lst (rV ((List.range (i + 1)).filter (innAt es ks)))) ∧ [some (V.ref m), some (V.ref t), some (V.ref b), some (V.int (i : Int)), some (V.ref tv)] = [some (V.ref m), some (V.ref t), some (V.ref b), s3, s4] := fun h => ⟨_, _, j', e1.trans e2, eP, _, _, by rw [hin, h, if_neg (by decide), List.append_nil]; exact hb, rfl⟩
      walk_at "w"
      refine inH_yes (.inr (j'.g _ _ ht2)) ?_
      walk_at "w"
      by_cases c1 : e.b ∈ ks
      rotate_left
      · refine itF c1 ?_
        refine itBF rfl ?_
        walk_at "w"
        exact no (by rw [hv, decide_eq_false c1]; rfl)
      refine itT c1 ?_
      walk_at "w"
      refine inH_yes (.inr (j'.g _ _ ht2)) ?_
      walk_at "w"
      by_cases c2 : e.a ∈ ks
      rotate_left
      · refine itF c2 ?_
        walk_at "w"
        exact no (by rw [hv, decide_eq_true c1, decide_eq_false c2]; rfl)
      refine itT c2 ?_
      walk_at "w"
      refine appendP j' hb (by unfold rV; rw [List.length_map]; exact Nat.lt_of_le_of_lt (List.length_filter_le _ _) (by rw [List.length_range]; omega)) fun H3 j3 => ?_
      walk_at "w"
      refine ⟨_, _, j3, e1.trans e2, eP.mut nb0, _, _, ?_, rfl⟩
      rw [upd_same, hin, hv, decide_eq_true c1, decide_eq_true c2, show (true && true) = true from rfl, if_pos rfl, rV_app]; rfl
    · clear hb j1 e1
      rintro G1 P' H' σ' j' ⟨e1, eP, s3, s4, hb, rfl⟩
      rw [hu.1] at hb
      walk_at "w"
      obtain ⟨G2, j2, e2, k2⟩ := j'.back eP
      exact q b G2 _ nb1 (e1.trans e2) j2 (k2 _ _ hb nb0)
/-- one knot, and a ring -/
def Hangs (n : Int) (es : List Ev) : Prop := (∀ s, s ∈ Reach n es → Rch es (stands n) s 0) ∧ ∃ e, e ∈ es ∧ e.b ∈ Reach n es ∧ e.a ∈ Reach n es
theorem reach_zero {n : Int} {es : List Ev} (h : 1 ≤ n) : 0 ∈ Reach n es := reach_mem.mpr ⟨⟨by omega, by omega⟩, .refl⟩
theorem knot_all {n : Int} {es : List Ev} (h : ∀ s, s ∈ Reach n es → Rch es (stands n) s 0) {s : Int} (hs : s ∈ Reach n es) : Knot n es s = Reach n es := asc_unique (knot_asc n es s) (reach_asc n es) fun x => by
  rw [knot_mem]
  exact ⟨fun h => h.1, fun hx => ⟨hx, (h s hs).trans (reach_mem.mp hx).2, (h x hx).trans (reach_mem.mp hs).2⟩⟩
theorem hangs_iff {n : Int} {es : List Ev} {kss : List (List Int)} (hn : 1 ≤ n) (h : KnotsIs n es kss) : Hangs n es ↔ ∃ ks, kss = [ks] ∧ innE es ks ≠ [] := by
  have h0 := reach_zero (es := es) hn
  constructor
  · rintro ⟨h1, e, he, hb, ha⟩
    refine ⟨Reach n es, lex_unique h.1 (List.pairwise_singleton _ _) fun ks => ?_, ?_⟩
    · rw [h.2, List.mem_singleton]
      exact ⟨fun ⟨s, hs, e⟩ => e.trans (knot_all h1 hs), fun e => ⟨0, h0, e.trans (knot_all h1 h0).symm⟩⟩
    · obtain ⟨k, hk⟩ := List.getElem?_of_mem he
      exact List.ne_nil_of_mem (innE_mem.mpr ⟨e, hk, hb, ha⟩)
  · rintro ⟨ks, rfl, hne⟩
    have e0 : ∀ s, s ∈ Reach n es → Knot n es s = ks := fun s hs => List.mem_singleton.mp ((h.2 _).mpr ⟨s, hs, rfl⟩)
    refine ⟨fun s hs => ?_, ?_⟩
    · have : s ∈ Knot n es 0 := by rw [e0 0 h0, ← e0 s hs]; exact knot_self hs
      exact (knot_mem.mp this).2.2
    · obtain ⟨k, hk⟩ := List.exists_mem_of_ne_nil _ hne
      obtain ⟨e, he, hb, ha⟩ := innE_mem.mp hk
      have hsub : ∀ x, x ∈ ks → x ∈ Reach n es := fun x hx => by rw [← e0 0 h0] at hx; exact (knot_mem.mp hx).1
      exact ⟨e, List.mem_of_getElem? he, hsub _ hb, hsub _ ha⟩
def spHangs (K : PySem.W.Frag) : Sp := fun vs H Q _ => ∃ (m : Addr) (n : Int) (es : List Ev) (G P : Hp), vs = [.ref m] ∧ Join G P H ∧ NT P ∧ MachK K G m n es ∧ Std n es ∧ 1 ≤ n ∧ n ≤ 63 ∧ es.length ≤ 10000 ∧
  ∀ b G' H', (b = true ↔ Hangs n es) → Ex G G' → Join G' P H' → Q (.bl b) H'
theorem sc_hangs_together : FnScope ["machine", "found"] ["machine"] (defScope s_hangs_together) := ⟨rfl, rfl, rfl, by decide +kernel, rfl, by decide +kernel, by decide +kernel⟩
theorem ok_hangs_together (T : Txt K mg) {fd_knots_of : FuncData} (G_knots_of : Dn P w K mg base (L2.CX P w) 4 "knots_of" ["machine"] (spKnots K) fd_knots_of) {fd_inner_events : FuncData} (G_inner_events : Dn P w K mg base (L2.CX P w) 1 "inner_events" ["machine", "knot"] (spInner K) fd_inner_events) : ∃ fd, Dn P w K mg base (L2.CX P w) 5 "hangs_together" ["machine"] (spHangs K) fd := by
  obtain ⟨fd, F⟩ := T.d_hangs_together
  refine ⟨fd, F.ok sc_hangs_together (fun vs H Q E h => ?_) (fun cdv A outer s H vs Q E hr h => ?_), T.g_hangs_together, F.kp, F.bindsN fun _ _ _ _ _ _ us hl => match us, hl with | [_], _ => rfl, Lv.fun_lk F⟩
  · obtain ⟨_, _, _, _, _, rfl, _⟩ := h
    rfl
  · have hu := hu_of hr
    have hr_knots_of : Room 4 _ := hr.mono (by decide)
    have hr_inner_events : Room 1 _ := hr.mono (by decide)
    refine ⟨_, PSs.nox (pss_cons (ps_set (i := 1) sc_hangs_together.nd rfl (Or.inl rfl) (pe_call G_knots_of.ok hr_knots_of rfl G_knots_of.mg G_knots_of.kp G_knots_of.b .nil passL (pa_cons (pv 0) pa_nil)))
      (pss_one (ps_ret (pe_and (pe_cmpR op_eq (pe_callB call_len_seq (by rfl) T.n_len PySem.boot_len (pa_cons (pv 1) pa_nil)) pe_int (nomark _)) (pe_one (pe_cmpR op_gt (pe_callB call_len_seq (by rfl) T.n_len PySem.boot_len (pa_cons (pe_call G_inner_events.ok hr_inner_events rfl G_inner_events.mg G_inner_events.kp G_inner_events.b .nil passL (pa_cons (pv 0) (pa_cons (pe_ix ix_list (pv 1) pe_int (fun _ _ => rfl)) pa_nil))) pa_nil)) pe_int (nomark _))))))), ?_⟩
    obtain ⟨m, n, es, G, P0, rfl, j, nt, hm, hs, n1, nb, lb, q⟩ := h
    walk_at "w"
    refine ⟨m, n, es, G, P0, rfl, j, nt, hm, hs, n1, nb, lb, fun kss ys p G1 H1 hK np e1 j1 hp hy => ?_⟩
    walk_at "w"
    rw [hy.1]
    have hi := hangs_iff n1 hK
    by_cases c : kss.length = 1
    rotate_left
    · refine itF (fun h => c (by have := V.int.inj h; omega)) ?_
      walk_at "w"
      exact q false G1 H1 ⟨fun h => (nomatch h), fun h => by
        obtain ⟨ks, e, _⟩ := hi.mp h
        exact absurd (by rw [e]; rfl) c⟩ e1 j1
    refine itT (congrArg V.int (by omega)) ?_
    obtain ⟨ks, rfl⟩ : ∃ ks, kss = [ks] := List.length_eq_one_iff.mp c
    obtain ⟨t, ht1, ht2⟩ := hy.2 0 ks rfl
    have ht3 : G1 t = some (.tup (ks.map V.int)) := ht2
    walk_at "w"
    refine w_ixL (j1.g _ _ hp) (atI_int (Int.le_refl 0) ht1) ?_
    walk_at "w"
    refine ⟨m, t, n, es, ks, G1, P0, rfl, j1, hm.mono e1, lb, ht3, fun l G2 H2 nl e2 j2 hl => ?_⟩
    walk_at "w"
    refine q _ G2 H2 ⟨fun h => hi.mpr ⟨ks, rfl, fun e => ?_⟩, fun h => ?_⟩ (e1.trans e2) j2
    · rw [e] at h
      have := of_decide_eq_true h
      revert this
      show ¬ (0 : Int) < ((0 : Nat) : Int)
      decide
    · obtain ⟨ks', e, hne⟩ := hi.mp h
      injection e with e
      subst e
      refine decide_eq_true ?_
      have := List.length_pos_iff.mpr hne
      unfold rV
      rw [List.length_map]
      omega
end X

namespace X
open PySem PySem.Spec PyProof.Rows L2 Lv
/-! ways and rings of a knot, what they have in common -/
inductive Way (es : List Ev) (ks : List Int) (s : Int) : Int → Int → Int → Prop
  | nil : Way es ks s s 0 0
  | snoc {t w x : Int} {e : Ev} : Way es ks s t w x → e ∈ es → e.b = t → e.a ∈ ks → Way es ks s e.a (w + e.w) (x + e.x)
theorem Way.inn {es : List Ev} {ks : List Int} {s t w x : Int} (h : Way es ks s t w x) (hs : s ∈ ks) : t ∈ ks := by
  cases h with
  | nil => exact hs
  | snoc _ _ _ h => exact h
theorem Way.trans {es : List Ev} {ks : List Int} {s t u w x w' x' : Int} (h : Way es ks s t w x) (h' : Way es ks t u w' x') : Way es ks s u (w + w') (x + x') := by
  induction h' with
  | nil => rw [Int.add_zero, Int.add_zero]; exact h
  | snoc _ he hb ha ih =>
    rw [← Int.add_assoc, ← Int.add_assoc]
    exact .snoc ih he hb ha
theorem Way.one {es : List Ev} {ks : List Int} {e : Ev} (he : e ∈ es) (ha : e.a ∈ ks) : Way es ks e.b e.a e.w e.x := by
  have := Way.snoc (Way.nil (es := es) (ks := ks) (s := e.b)) he rfl ha
  rw [Int.zero_add, Int.zero_add] at this
  exact this
/-- a row of events round -/
def RingP (es : List Ev) (ks : List Int) (w x : Int) : Prop := ∃ s ∈ ks, Way es ks s s w x
inductive Spn (S : Int → Int → Prop) : Int → Int → Prop
  | zero : Spn S 0 0
  | add {w x w' x' : Int} : Spn S w x → S w' x' → Spn S (w + w') (x + x')
  | sub {w x w' x' : Int} : Spn S w x → S w' x' → Spn S (w - w') (x - x')
variable {S T : Int → Int → Prop}
theorem Spn.one {w x : Int} (h : S w x) : Spn S w x := by
  have := Spn.add .zero h
  rw [Int.zero_add, Int.zero_add] at this
  exact this
theorem Spn.plus {w x w' x' : Int} (h : Spn S w x) (h' : Spn S w' x') : Spn S (w + w') (x + x') := by
  induction h' with
  | zero => rw [Int.add_zero, Int.add_zero]; exact h
  | add _ hs ih => rw [← Int.add_assoc, ← Int.add_assoc]; exact .add ih hs
  | sub _ hs ih => rw [← Int.add_sub_assoc, ← Int.add_sub_assoc]; exact .sub ih hs
theorem Spn.neg {w x : Int} (h : Spn S w x) : Spn S (-w) (-x) := by
  induction h with
  | zero => exact .zero
  | add _ hs ih => rw [Int.neg_add, Int.neg_add, ← Int.sub_eq_add_neg, ← Int.sub_eq_add_neg]; exact .sub ih hs
  | @sub w x w' x' _ hs ih => rw [show -(w - w') = -w + w' by omega, show -(x - x') = -x + x' by omega]; exact .add ih hs
theorem Spn.minus {w x w' x' : Int} (h : Spn S w x) (h' : Spn S w' x') : Spn S (w - w') (x - x') := by
  have := h.plus h'.neg
  rw [← Int.sub_eq_add_neg, ← Int.sub_eq_add_neg] at this
  exact this
theorem Spn.muln {w x : Int} (h : Spn S w x) : ∀ k : Nat, Spn S (k * w) (k * x)
  | 0 => by simp; exact .zero
  | k + 1 => by
    have := (Spn.muln h k).plus h
    rw [show ((k + 1 : Nat) : Int) * w = k * w + w by rw [Int.natCast_add, Int.add_mul]; simp, show ((k + 1 : Nat) : Int) * x = k * x + x by rw [Int.natCast_add, Int.add_mul]; simp]
    exact this
theorem Spn.mul {w x : Int} (h : Spn S w x) (k : Int) : Spn S (k * w) (k * x) := by
  rcases Int.le_total 0 k with c | c
  · have := h.muln k.toNat
    rw [Int.toNat_of_nonneg c] at this; exact this
  · have := (h.muln (-k).toNat).neg
    rw [Int.toNat_of_nonneg (by omega), Int.neg_mul, Int.neg_mul, Int.neg_neg, Int.neg_neg] at this; exact this
theorem Spn.into (h : ∀ w x, S w x → Spn T w x) {w x : Int} (hs : Spn S w x) : Spn T w x := by
  induction hs with
  | zero => exact .zero
  | add _ hs ih => exact ih.plus (h _ _ hs)
  | sub _ hs ih => exact ih.minus (h _ _ hs)
theorem Spn.dvd {a b k : Int} (h : ∀ w x, S w x → k ∣ b * x - a * w) {w x : Int} (hs : Spn S w x) : k ∣ b * x - a * w := by
  induction hs with
  | zero => simp
  | add _ hs ih =>
    have := Int.dvd_add ih (h _ _ hs)
    rw [Int.mul_add, Int.mul_add]
    refine (Int.dvd_iff_emod_eq_zero ..).mpr ?_
    have e := Int.emod_eq_zero_of_dvd this
    rw [← e]; congr 1; omega
  | sub _ hs ih =>
    have := Int.dvd_sub ih (h _ _ hs)
    rw [Int.mul_sub, Int.mul_sub]
    refine (Int.dvd_iff_emod_eq_zero ..).mpr ?_
    have e := Int.emod_eq_zero_of_dvd this
    rw [← e]; congr 1; omega
/-- heights: some way from one standing to each -/
def HtOk (es : List Ev) (ks : List Int) (s0 : Int) (h : Int → Int × Int) : Prop := ∀ s ∈ ks, Way es ks s0 s (h s).1 (h s).2
def DiffP (es : List Ev) (ks : List Int) (h : Int → Int × Int) (w x : Int) : Prop := ∃ e ∈ es, e.b ∈ ks ∧ e.a ∈ ks ∧ w = (h e.b).1 + e.w - (h e.a).1 ∧ x = (h e.b).2 + e.x - (h e.a).2
/-- all lead to one another -/
def Tied (es : List Ev) (ks : List Int) : Prop := ∀ s ∈ ks, ∀ t ∈ ks, ∃ w x, Way es ks s t w x
theorem diff_ring {es : List Ev} {ks : List Int} {s0 : Int} {h : Int → Int × Int} (h0 : s0 ∈ ks) (hh : HtOk es ks s0 h) (ht : Tied es ks) {w x : Int} (hd : DiffP es ks h w x) : Spn (RingP es ks) w x := by
  obtain ⟨e, he, hb, ha, rfl, rfl⟩ := hd
  obtain ⟨w', x', hw⟩ := ht e.a ha s0 h0
  have r1 : RingP es ks ((h e.b).1 + e.w + w') ((h e.b).2 + e.x + x') := ⟨s0, h0, ((hh e.b hb).snoc he rfl ha).trans hw⟩
  have r2 : RingP es ks ((h e.a).1 + w') ((h e.a).2 + x') := ⟨s0, h0, (hh e.a ha).trans hw⟩
  have := (Spn.one r1).minus (Spn.one r2)
  rw [show (h e.b).1 + e.w + w' - ((h e.a).1 + w') = (h e.b).1 + e.w - (h e.a).1 by omega, show (h e.b).2 + e.x + x' - ((h e.a).2 + x') = (h e.b).2 + e.x - (h e.a).2 by omega] at this
  exact this
theorem way_diff {es : List Ev} {ks : List Int} (h : Int → Int × Int) {s t w x : Int} (hs : s ∈ ks) (hw : Way es ks s t w x) : Spn (DiffP es ks h) (w - ((h t).1 - (h s).1)) (x - ((h t).2 - (h s).2)) := by
  induction hw with
  | nil => rw [show (0 : Int) - ((h s).1 - (h s).1) = 0 by omega, show (0 : Int) - ((h s).2 - (h s).2) = 0 by omega]; exact .zero
  | @snoc t w x e hw he hb ha ih =>
    have hd : DiffP es ks h ((h e.b).1 + e.w - (h e.a).1) ((h e.b).2 + e.x - (h e.a).2) := ⟨e, he, by rw [hb]; exact hw.inn hs, ha, rfl, rfl⟩
    have := ih.add hd
    rw [← hb] at this
    rw [show w + e.w - ((h e.a).1 - (h s).1) = w - ((h e.b).1 - (h s).1) + ((h e.b).1 + e.w - (h e.a).1) by omega, show x + e.x - ((h e.a).2 - (h s).2) = x - ((h e.b).2 - (h s).2) + ((h e.b).2 + e.x - (h e.a).2) by omega]
    exact this
theorem ring_diff {es : List Ev} {ks : List Int} (h : Int → Int × Int) {w x : Int} (hr : RingP es ks w x) : Spn (DiffP es ks h) w x := by
  obtain ⟨s, hs, hw⟩ := hr
  have := way_diff h hs hw
  rw [Int.sub_self, Int.sub_self, Int.sub_zero, Int.sub_zero] at this
  exact this
/-- the greatest number that divides the lifts of all rings -/
def MeasIs (es : List Ev) (ks : List Int) (a b m : Int) : Prop := 0 ≤ m ∧ ∀ k, k ∣ m ↔ ∀ w x, RingP es ks w x → k ∣ b * x - a * w
theorem MeasIs.one {es : List Ev} {ks : List Int} {a b m m' : Int} (h : MeasIs es ks a b m) (h' : MeasIs es ks a b m') : m = m' :=
  Int.dvd_antisymm h.1 h'.1 ((h'.2 m).mpr ((h.2 m).mp (Int.dvd_refl m))) ((h.2 m').mpr ((h'.2 m').mp (Int.dvd_refl m')))
theorem meas_diff {es : List Ev} {ks : List Int} {s0 : Int} {h : Int → Int × Int} (h0 : s0 ∈ ks) (hh : HtOk es ks s0 h) (ht : Tied es ks) {a b m : Int} (m0 : 0 ≤ m) (hm : ∀ k, k ∣ m ↔ ∀ w x, DiffP es ks h w x → k ∣ b * x - a * w) : MeasIs es ks a b m :=
  ⟨m0, fun k => (hm k).trans ⟨fun hd w x hr => Spn.dvd hd (ring_diff h hr), fun hr w x hd => Spn.dvd hr (diff_ring h0 hh ht hd)⟩⟩
/-- knots are tied -/
theorem rch_back {es : List Ev} {inn : List Int} {s x : Int} (h : Rch es inn s x) : ∀ {y : Int}, Rch es inn s y → Rch es inn y x → True := fun _ _ => trivial
theorem knot_way {n s0 : Int} {es : List Ev} {s t : Int} (hs : s ∈ Knot n es s0) (h : Rch es (stands n) s t) (ht : Rch es (stands n) t s0) : ∃ w x, Way es (Knot n es s0) s t w x := by
  induction h with
  | refl => exact ⟨0, 0, .nil⟩
  | @step y e hr he hb ha ih =>
    have hya : Rch es (stands n) y e.a := .step .refl he hb ha
    obtain ⟨w, x, hw⟩ := ih (hya.trans ht)
    have hk := knot_mem.mp hs
    refine ⟨_, _, hw.snoc he hb ?_⟩
    have h1 : Rch es (stands n) s e.a := hr.step he hb ha
    refine knot_mem.mpr ⟨reach_mem.mpr ⟨stands_mem.mp ha, (reach_mem.mp hk.1).2.trans h1⟩, hk.2.1.trans h1, ht⟩
theorem knot_tied (n : Int) (es : List Ev) (s0 : Int) : Tied es (Knot n es s0) := fun s hs t ht => by
  have h1 := knot_mem.mp hs
  have h2 := knot_mem.mp ht
  exact knot_way hs (h1.2.2.trans h2.2.1) h2.2.2
theorem knot_same {n : Int} {es : List Ev} {s t : Int} (h : t ∈ Knot n es s) : Knot n es t = Knot n es s := asc_unique (knot_asc n es t) (knot_asc n es s) fun x => by
  have hk := knot_mem.mp h
  rw [knot_mem, knot_mem]
  exact ⟨fun ⟨a, b, c⟩ => ⟨a, hk.2.1.trans b, c.trans hk.2.2⟩, fun ⟨a, b, c⟩ => ⟨a, hk.2.2.trans b, c.trans hk.2.1⟩⟩
end X

namespace X
open PySem PySem.Spec PyProof.Rows L2 Lv
variable {P : Program}  {w : World} {K : PySem.W.Frag} {mg : Str → Option Value} {base : Heap}
/-- the dict from the standings to their knots -/
def KnotD (G : Hp) (d : Addr) (n : Int) (es : List Ev) : Prop := ∃ kss xs, G d = some (.dK (prs kss xs)) ∧ KnotsIs n es kss ∧ TupL iV G xs kss
theorem KnotD.mono {G G' : Hp} {d : Addr} {n : Int} {es : List Ev} (e : Ex G G') (h : KnotD G d n es) : KnotD G' d n es := by
  obtain ⟨kss, xs, h1, h2, h3⟩ := h
  exact ⟨kss, xs, e _ _ h1, h2, h3.mono e⟩
theorem KnotsIs.flat {n : Int} {es : List Ev} {kss : List (List Int)} (h : KnotsIs n es kss) : kss.flatten.Nodup := by
  rw [List.nodup_iff_pairwise_ne, List.pairwise_flatten]
  refine ⟨fun ks hks => ?_, h.1.imp_of_mem fun {a b} ha hb hab x hx y hy e => ?_⟩
  · obtain ⟨s, _, rfl⟩ := (h.2 ks).mp hks
    exact List.nodup_iff_pairwise_ne.mp (asc_nodup (knot_asc n es s))
  · subst e
    obtain ⟨s, _, rfl⟩ := (h.2 a).mp ha
    obtain ⟨s', _, rfl⟩ := (h.2 b).mp hb
    rw [← knot_same hx, ← knot_same hy] at hab
    rw [lexLt_irr] at hab
    cases hab
theorem KnotsIs.flat_mem {n : Int} {es : List Ev} {kss : List (List Int)} (h : KnotsIs n es kss) {s : Int} : s ∈ kss.flatten ↔ s ∈ Reach n es := by
  rw [List.mem_flatten]
  constructor
  · rintro ⟨ks, h1, h2⟩
    obtain ⟨s', _, rfl⟩ := (h.2 ks).mp h1
    exact (knot_mem.mp h2).1
  · intro hs
    exact ⟨_, (h.2 _).mpr ⟨s, hs, rfl⟩, knot_self hs⟩
theorem KnotD.get {G : Hp} {d : Addr} {n : Int} {es : List Ev} (h : KnotD G d n es) : ∃ kvs, G d = some (.dK kvs) ∧ (∀ s, s ∈ Reach n es → ∃ t, valV kvs (.inl s) = some (.ref t) ∧ G t = some (.tup ((Knot n es s).map V.int))) ∧ ∀ s, s ∉ Reach n es → valV kvs (.inl s) = none := by
  obtain ⟨kss, xs, h1, h2, h3⟩ := h
  refine ⟨_, h1, fun s hs => ?_, fun s hs => prs_no h3.1.symm fun hm => hs (h2.flat_mem.mp hm)⟩
  obtain ⟨i, hi⟩ := List.getElem?_of_mem ((h2.2 _).mpr ⟨s, hs, rfl⟩)
  have il := (List.getElem?_eq_some_iff.mp hi).1
  have hx : xs[i]? = some (xs[i]'(by have := h3.1; omega)) := List.getElem?_eq_getElem _
  obtain ⟨t, e, ht⟩ := h3.2 i _ hi
  refine ⟨t, ?_, ht⟩
  exact prs_val h2.flat hi e (knot_self hs)
def spKnotOf (K : PySem.W.Frag) : Sp := fun vs H Q _ => ∃ (m : Addr) (n : Int) (es : List Ev) (G P : Hp), vs = [.ref m] ∧ Join G P H ∧ NT P ∧ MachK K G m n es ∧ Std n es ∧ 1 ≤ n ∧ n ≤ 63 ∧ es.length ≤ 10000 ∧
  ∀ d G' H', H d = none → Ex G G' → Join G' P H' → KnotD G' d n es → Q (.ref d) H'
def spStanding (K : PySem.W.Frag) : Sp := fun vs H Q _ => ∃ (m d : Addr) (s : Int) (kvs : List (L2.Key × V)), vs = [.ref m, .int s, .ref d] ∧ H d = some (.dK kvs) ∧ (valV kvs (.inl s)).isSome = true ∧ Q .non H
/-- pairs as dicts hold them: places of some way to each -/
def HtL (G : Hp) (es : List Ev) (ks : List Int) (k0 : Int) (F : List Int) (us : List V) : Prop := us.length = F.length ∧ ∀ i f u, F[i]? = some f → us[i]? = some u → ∃ t w x, u = .ref t ∧ G t = some (.tup [.int w, .int x]) ∧ Way es ks k0 f w x ∧ w.natAbs ≤ 1000000000000 * i ∧ x.natAbs ≤ 1000000000000 * i
theorem HtL.mono {G G' : Hp} {es : List Ev} {ks : List Int} {k0 : Int} {F : List Int} {us : List V} (e : Ex G G') (h : HtL G es ks k0 F us) : HtL G' es ks k0 F us := ⟨h.1, fun i f u h1 h2 => by
  obtain ⟨t, w, x, a, b, c⟩ := h.2 i f u h1 h2
  exact ⟨t, w, x, a, e _ _ b, c⟩⟩
theorem HtL.get {G : Hp} {es : List Ev} {ks : List Int} {k0 : Int} {F : List Int} {us : List V} {f : Int} (h : HtL G es ks k0 F us) (hn : F.Nodup) (hf : f ∈ F) : ∃ i t w x, i < F.length ∧ valV (kvZ F us) (.inl f) = some (.ref t) ∧ G t = some (.tup [.int w, .int x]) ∧ Way es ks k0 f w x ∧ w.natAbs ≤ 1000000000000 * i ∧ x.natAbs ≤ 1000000000000 * i := by
  obtain ⟨i, hi⟩ := List.getElem?_of_mem hf
  have il := (List.getElem?_eq_some_iff.mp hi).1
  have hu : us[i]? = some (us[i]'(by have := h.1; omega)) := List.getElem?_eq_getElem _
  obtain ⟨t, w, x, e, r⟩ := h.2 i f _ hi hu
  rw [e] at hu
  exact ⟨i, t, w, x, il, valV_kvZ hn hi hu, r⟩
theorem HtL.add {G : Hp} {es : List Ev} {ks : List Int} {k0 : Int} {F : List Int} {us : List V} {f w x : Int} {t : Addr} (h : HtL G es ks k0 F us) (ht : G t = some (.tup [.int w, .int x])) (hw : Way es ks k0 f w x) (b1 : w.natAbs ≤ 1000000000000 * F.length) (b2 : x.natAbs ≤ 1000000000000 * F.length) : HtL G es ks k0 (F ++ [f]) (us ++ [.ref t]) := by
  refine ⟨by rw [List.length_append, List.length_append, h.1]; rfl, fun i g u h1 h2 => ?_⟩
  by_cases c : i < F.length
  · rw [List.getElem?_append_left c] at h1
    rw [List.getElem?_append_left (by rw [h.1]; exact c)] at h2
    exact h.2 i g u h1 h2
  · have il := (List.getElem?_eq_some_iff.mp h1).1
    rw [List.length_append, List.length_singleton] at il
    have ei : i = F.length := by omega
    subst ei
    rw [List.getElem?_append_right (Nat.le_refl _), Nat.sub_self] at h1
    rw [← h.1, List.getElem?_append_right (Nat.le_refl _), Nat.sub_self] at h2
    have e1 : f = g := by simpa using h1
    have e2 : V.ref t = u := by simpa using h2
    subst e1 e2
    exact ⟨t, w, x, rfl, ht, hw, b1, b2⟩
structure Hm (es : List Ev) (inn : List Int) (s n y : Int) (i : Nat) (F W : List Int) : Prop where
  nd : F.Nodup
  sF : s ∈ F
  yF : y ∈ F
  r : ∀ x ∈ F, Rch es inn s x ∧ 0 ≤ x ∧ x < n
  w : ∀ x ∈ W, x ∈ F
  l : W.length ≤ F.length
  c : ∀ x ∈ F, x ∉ W → x ≠ y → ∀ e ∈ es, e.b = x → e.a ∈ inn → e.a ∈ F
  d : ∀ t, t < i → ∀ (k : Nat) (e : Ev), (innE es inn)[t]? = some k → es[k]? = some e → e.b = y → e.a ∈ F
theorem Hm.next {es : List Ev} {inn : List Int} {s n y : Int} {i k : Nat} {F W : List Int} {e : Ev} (h : Hm es inn s n y i F W) (hi : (innE es inn)[i]? = some k) (he : es[k]? = some e) (hin : e.b = y → e.a ∈ F) : Hm es inn s n y (i + 1) F W :=
  ⟨h.nd, h.sF, h.yF, h.r, h.w, h.l, h.c, fun t ht k' e' h1 h2 h3 => by
    by_cases c : t < i
    · exact h.d t c k' e' h1 h2 h3
    · have et : t = i := by omega
      subst et
      rw [hi] at h1
      cases h1
      rw [he] at h2
      cases h2
      exact hin h3⟩
theorem Hm.add {es : List Ev} {inn : List Int} {s n y : Int} {i k : Nat} {F W : List Int} {e : Ev} (h : Hm es inn s n y i F W) (hs : Std n es) (hi : (innE es inn)[i]? = some k) (he : es[k]? = some e) (hb : e.b = y) (hn : e.a ∉ F) : Hm es inn s n y (i + 1) (F ++ [e.a]) (W ++ [e.a]) := by
  have hin : e.a ∈ inn := by
    obtain ⟨e', he', _, h3⟩ := innE_mem.mp (List.mem_of_getElem? hi)
    rw [he] at he'
    cases he'
    exact h3
  have hem := List.mem_of_getElem? he
  have mo : ∀ x ∈ F, x ∈ F ++ [e.a] := fun x hx => List.mem_append_left _ hx
  refine ⟨?_, mo _ h.sF, mo _ h.yF, fun x hx => ?_, fun x hx => ?_, (by rw [List.length_append, List.length_append]; have := h.l; simpa using this), fun x hx hw hy e' he' hb' ha' => ?_, fun t ht k' e' h1 h2 h3 => ?_⟩
  · refine List.nodup_append.mpr ⟨h.nd, List.nodup_cons.mpr ⟨fun h => (nomatch h), List.nodup_nil⟩, fun a ha b hb' e' => ?_⟩
    rw [List.mem_singleton.mp hb'] at e'
    exact hn (e' ▸ ha)
  · rcases List.mem_append.mp hx with hx | hx
    · exact h.r x hx
    · rw [List.mem_singleton.mp hx]
      have := hs e hem
      exact ⟨.step (h.r _ h.yF).1 hem hb hin, this.2.2⟩
  · rcases List.mem_append.mp hx with hx | hx
    · exact mo _ (h.w x hx)
    · exact List.mem_append_right _ hx
  · have hx2 : x ∈ F := by
      rcases List.mem_append.mp hx with hx | hx
      · exact hx
      · exact absurd (List.mem_append_right W hx) hw
    exact mo _ (h.c x hx2 (fun h => hw (List.mem_append_left _ h)) hy e' he' hb' ha')
  · by_cases c : t < i
    · exact mo _ (h.d t c k' e' h1 h2 h3)
    · have et : t = i := by omega
      subst et
      rw [hi] at h1
      cases h1
      rw [he] at h2
      cases h2
      exact List.mem_append_right _ (List.mem_singleton.mpr rfl)
theorem Hm.fin {es : List Ev} {inn : List Int} {s n y : Int} {F W : List Int} (h : Hm es inn s n y (innE es inn).length F W) (hF : ∀ x ∈ F, x ∈ inn) : Fl es inn s n F W :=
  ⟨h.nd, h.sF, h.r, h.w, h.l, fun x hx hw e he hb ha => by
    by_cases c : x = y
    · obtain ⟨k, hk⟩ := List.getElem?_of_mem he
      obtain ⟨t, ht⟩ := List.getElem?_of_mem (innE_mem.mpr ⟨e, hk, by rw [hb]; exact hF x hx, ha⟩)
      exact h.d t (List.getElem?_eq_some_iff.mp ht).1 k e ht hk (hb.trans c)
    · exact h.c x hx hw c e he hb ha⟩
theorem Fl.popH {es : List Ev} {inn : List Int} {s n y : Int} {F W : List Int} (h : Fl es inn s n F (W ++ [y])) : Hm es inn s n y 0 F W := by
  have hy : y ∈ F := h.w y (List.mem_append_right _ (List.mem_singleton.mpr rfl))
  refine ⟨h.nd, h.sF, hy, h.r, fun x hx => h.w x (List.mem_append_left _ hx), (by have := h.l; rw [List.length_append, List.length_singleton] at this; omega), fun x hx hw hxy e he hb ha => ?_, fun t ht => absurd ht (Nat.not_lt_zero _)⟩
  exact h.c x hx (fun hm => (List.mem_append.mp hm).elim hw fun hm => hxy (List.mem_singleton.mp hm)) e he hb ha
theorem Tied.rch {es : List Ev} {ks : List Int} (h : Tied es ks) {s t : Int} (hs : s ∈ ks) (ht : t ∈ ks) : Rch es ks s t := by
  obtain ⟨w, x, hw⟩ := h s hs t ht
  clear ht
  induction hw with
  | nil => exact .refl
  | snoc _ he hb ha ih => exact .step ih he hb ha
/-- heights as they stand in a dict -/
def HtD (G : Hp) (d : Addr) (ks : List Int) (h : Int → Int × Int) : Prop := ∃ kvs, G d = some (.dK kvs) ∧ ∀ s ∈ ks, ∃ t, valV kvs (.inl s) = some (.ref t) ∧ G t = some (.tup [.int (h s).1, .int (h s).2])
theorem HtD.mono {G G' : Hp} {d : Addr} {ks : List Int} {h : Int → Int × Int} (e : Ex G G') (hd : HtD G d ks h) : HtD G' d ks h := by
  obtain ⟨kvs, h1, h2⟩ := hd
  exact ⟨kvs, e _ _ h1, fun s hs => by obtain ⟨t, a, b⟩ := h2 s hs; exact ⟨t, a, e _ _ b⟩⟩
def HtB (ks : List Int) (h : Int → Int × Int) : Prop := ∀ s ∈ ks, (h s).1.natAbs ≤ 63000000000000 ∧ (h s).2.natAbs ≤ 63000000000000
def KsOk (n : Int) (es : List Ev) (ks : List Int) (k0 : Int) : Prop := ks[0]? = some k0 ∧ (∀ x ∈ ks, 0 ≤ x ∧ x < n) ∧ Tied es ks
def spHeights (K : PySem.W.Frag) : Sp := fun vs H Q _ => ∃ (m t : Addr) (n : Int) (es : List Ev) (ks : List Int) (k0 : Int) (G P : Hp), vs = [.ref m, .ref t] ∧ Join G P H ∧ MachK K G m n es ∧ EvB n es ∧ n ≤ 63 ∧ G t = some (.tup (ks.map V.int)) ∧ KsOk n es ks k0 ∧
  ∀ (h : Int → Int × Int) d G' H', HtOk es ks k0 h → HtB ks h → H d = none → Ex G G' → Join G' P H' → HtD G' d ks h → Q (.ref d) H'
theorem sc_heights : FnScope ["machine", "knot", "found", "waiting", "inner", "standing", "event", "before", "after", "tries", "points"] ["machine", "knot"] (defScope s_heights) := ⟨rfl, rfl, rfl, by decide +kernel, rfl, by decide +kernel, by decide +kernel⟩
theorem ok_heights (T : Txt K mg) {fd_inner_events : FuncData} (G_inner_events : Dn P w K mg base (L2.CX P w) 1 "inner_events" ["machine", "knot"] (spInner K) fd_inner_events) {fd_step_at : FuncData} (G_step_at : Dn P w K mg base (L2.CX P w) 1 "step_at" ["machine", "event"] (sp_step_at K) fd_step_at) : ∃ fd, Dn P w K mg base (L2.CX P w) 2 "heights" ["machine", "knot"] (spHeights K) fd := by
  obtain ⟨fd, F⟩ := T.d_heights
  refine ⟨fd, F.ok sc_heights (fun vs H Q E h => ?_) (fun cdv A outer s H vs Q E hr h => ?_), T.g_heights, F.kp, F.bindsN fun _ _ _ _ _ _ us hl => match us, hl with | [_, _], _ => rfl, Lv.fun_lk F⟩
  · obtain ⟨_, _, _, _, _, _, _, _, rfl, _⟩ := h
    rfl
  · have hu := hu_of hr
    have hr_inner_events : Room 1 _ := hr.mono (by decide)
    have hr_step_at : Room 1 _ := hr.mono (by decide)
    refine ⟨_, PSs.nox (pss_cons (ps_set (i := 2) sc_heights.nd rfl (Or.inl rfl) (pe_disp (pps_cons (pe_ix ix_tup (pv 1) pe_int (fun _ _ => rfl)) (pe_tup (pa_cons pe_int (pa_cons pe_int pa_nil))) pps_nil) rfl rfl (by simp) (by decide)))
      (pss_cons (ps_set (i := 3) sc_heights.nd rfl (Or.inl rfl) (pe_lst (pa_cons (pe_ix ix_tup (pv 1) pe_int (fun _ _ => rfl)) pa_nil)))
      (pss_cons (ps_set (i := 4) sc_heights.nd rfl (Or.inl rfl) (pe_call G_inner_events.ok hr_inner_events rfl G_inner_events.mg G_inner_events.kp G_inner_events.b .nil passL (pa_cons (pv 0) (pa_cons (pv 1) pa_nil))))
      (pss_cons (ps_while PassesOwn.never (pt_cmpR op_gt (pe_callB call_len_seq (by rfl) T.n_len PySem.boot_len (pa_cons (pv 3) pa_nil)) pe_int (nomark _)) (pss_cons (ps_set (i := 5) sc_heights.nd rfl (Or.inl rfl) (pe_bm0 PySem.F.plainAttrs_list PySem.F.slot_list_pop PySem.F.type_list_pop mt_pop (pv 3)))
      (pss_one (ps_for PassesOwn.never rfl (pi_list (pv 4)) (pg_name (i := 6) sc_heights.nd rfl (Or.inl rfl)) (pss_cons (ps_asg (pe_call G_step_at.ok hr_step_at rfl G_step_at.mg G_step_at.kp G_step_at.b .nil passL (pa_cons (pv 0) (pa_cons (pv 6) pa_nil))) (pg_tup rfl (pgs_cons (pg_name (i := 7) sc_heights.nd rfl (Or.inl rfl)) (pgs_cons (pg_name (i := 8) sc_heights.nd rfl (Or.inl rfl)) (pgs_cons (pg_name (i := 9) sc_heights.nd rfl (Or.inl rfl)) (pgs_cons (pg_name (i := 10) sc_heights.nd rfl (Or.inl rfl)) pgs_nil))))))
      (pss_one (ps_if (PW.pt (pw_and (pt_cmpR op_eq (pv 7) (pv 5) (nomark _)) (pw_and1 (pt_cmp (pc_dnotin hu (pv 8) (pv 2)))))) (pss_cons (ps_dput hu (pv 2) (pv 8) (pe_tup (pa_cons (pe_op op_add (pe_ix ix_tup (pe_dget hu (pv 2) (pv 7) (fun _ _ => rfl)) pe_int (fun _ _ => rfl)) (pv 9)) (pa_cons (pe_op op_add (pe_ix ix_tup (pe_dget hu (pv 2) (pv 7) (fun _ _ => rfl)) pe_int (fun _ _ => rfl)) (pv 10)) pa_nil))) rfl)
      (pss_one (ps_expr (pe_bm PySem.F.plainAttrs_list PySem.F.slot_list_append PySem.F.type_list_append mt_append (pv 3) (pa_cons (pv 8) pa_nil))))) pss_nil)))))))
      (pss_one (ps_ret (pv 2))))))), ?_⟩
    classical
    obtain ⟨m, t, n, es, ks, k0, G, P0, rfl, j, hm, hB, nb, ht, ⟨hk0, hks, hT⟩, q⟩ := h
    have hs : Std n es := fun e he => by have := hB.2.2.2 e he; omega
    have m0 := List.mem_of_getElem? hk0
    have hk0' : (ks.map V.int)[Int.toNat 0]? = some (.int k0) := by
      show (ks.map V.int)[0]? = _
      rw [List.getElem?_map, hk0]; rfl
    walk_at "w"
    refine aDisp1.goGK (k := .inl k0) (fun v G' => ∃ t, v = .ref t ∧ G' t = some (.tup [.int 0, .int 0])) j (fun P' H' S j' h => ?_) (fun P' H' S j' k => ?_) fun a v0 P1 G1 H1 na e1 eG1 j1 ha hv0 => ?_
    · walk_at "w"
      refine w_ixT (j'.g _ _ ht) (atI_int (Int.le_refl 0) hk0') ?_
      exact h
    · walk_at "w"
      refine aTup.go j' (by show 2 ≤ 100000; decide) fun p G' H' hp e' j2 hpp => ?_
      exact k _ _ _ e' j2 ⟨p, rfl, hpp⟩
    walk_at "w"
    refine w_ixT (j1.g _ _ (eG1 _ _ ht)) (atI_int (Int.le_refl 0) hk0') ?_
    walk_at "w"
    refine aLst.goP j1 (by show 1 ≤ 100000; decide) fun b P2 H2 nb2 e2 j2 hb => ?_
    have hab : a ≠ b := fun e => by subst e; rw [j1.p _ _ ha] at nb2; cases nb2
    have na0 : P0 a = none := j.np na
    have nb0 : P0 b = none := by
      cases e : P0 b with
      | none => rfl
      | some o => rw [j1.p _ _ (e1 _ _ e)] at nb2; cases nb2
    have ha2 := e2 _ _ ha
    walk_at "w"
    refine ⟨m, t, n, es, ks, G1, P2, rfl, j2, hm.mono eG1, hB.2.2.1, eG1 _ _ ht, fun l G3 H3 nl e3 j3 hl => ?_⟩
    have eG3 := eG1.trans e3
    walk_at "w"
    obtain ⟨t0, rfl, ht0⟩ := hv0
    refine while_go (fun m' G' P' σ' => Ex G3 G' ∧ Ex P0 P' ∧ ∃ (F W : List Int) (us : List V) (s5 s6 s7 s8 s9 s10 : Option V), P' a = some (.dK (kvZ F us)) ∧ P' b = some (.lst (W.map V.int)) ∧ Fl es ks k0 n F W ∧ HtL G' es ks k0 F us ∧ m' = 2 * (n.toNat - F.length) + W.length ∧ σ' = [some (.ref m), some (.ref t), some (.ref a), some (.ref b), some (.ref l), s5, s6, s7, s8, s9, s10]) j3 _ ⟨Ex.refl _, e1.trans e2, [k0], [k0], [.ref t0], none, none, none, none, none, none, ha2, hb, ⟨List.nodup_cons.mpr ⟨fun h => (nomatch h), List.nodup_nil⟩, List.mem_singleton.mpr rfl, fun x hx => by rw [List.mem_singleton.mp hx]; exact ⟨.refl, hks k0 m0⟩, fun x hx => hx, Nat.le_refl _, fun x hx hw => absurd hx hw⟩, HtL.add (F := []) (us := []) ⟨rfl, fun i f u h => nomatch h⟩ (e3 _ _ ht0) .nil (Nat.zero_le _) (Nat.zero_le _), rfl, rfl⟩ ?_
    rintro m' G4 P' H' σ' j' ⟨eG4, eP, F, W, us, s5, s6, s7, s8, s9, s10, ha, hb, hF, hH, rfl, rfl⟩
    have lF := nodup_fin hF.nd fun x hx => (hF.r x hx).2
    walk_at "w"
    by_cases hW : W = []
    · subst hW
      refine itF (by show ¬ (0 : Int) < ((([] : List Int).map V.int).length : Nat); decide) ?_
      walk_at "w"
      obtain ⟨G5, j5, e5, k5⟩ := j'.back eP
      have hx : ∀ s, ∃ p : Int × Int, s ∈ ks → (Way es ks k0 s p.1 p.2 ∧ p.1.natAbs ≤ 63000000000000 ∧ p.2.natAbs ≤ 63000000000000 ∧ ∃ t, valV (kvZ F us) (.inl s) = some (.ref t) ∧ G5 t = some (.tup [.int p.1, .int p.2])) := fun s => by
        by_cases c : s ∈ ks
        · obtain ⟨i, t, w, x, il, hv, ht, hw, b1, b2⟩ := hH.get hF.nd ((hF.fin s).mpr (hT.rch m0 c))
          exact ⟨(w, x), fun _ => ⟨hw, by show w.natAbs ≤ _; omega, by show x.natAbs ≤ _; omega, t, hv, e5 _ _ ht⟩⟩
        · exact ⟨(0, 0), fun h => absurd h c⟩
      obtain ⟨h, hh⟩ := Classical.axiomOfChoice hx
      exact q h a G5 _ (fun s hs => (hh s hs).1) (fun s hs => ⟨(hh s hs).2.1, (hh s hs).2.2.1⟩) na (eG3.trans (eG4.trans e5)) j5 ⟨_, k5 _ _ ha na0, fun s hs => (hh s hs).2.2.2⟩
    obtain ⟨W', y, rfl⟩ : ∃ W' y, W = W' ++ [y] := ⟨W.dropLast, W.getLast hW, (List.dropLast_concat_getLast hW).symm⟩
    refine itT (by rw [List.map_append, List.length_append]; show (0 : Int) < ((_ + 1 : Nat) : Int); omega) ?_
    refine w_turn ?_
    rw [List.map_append] at hb
    walk_at "w"
    refine popP (y := .int y) j' hb fun H3 j3 => ?_
    have hM := hF.popH
    have ha3 : upd P' b (.lst (W'.map V.int)) a = some (.dK (kvZ F us)) := Eq.trans (upd_ne hab) ha
    have hb3 : upd P' b (.lst (W'.map V.int)) b = some (.lst (W'.map V.int)) := upd_same
    have eP3 : Ex P0 (upd P' b (.lst (W'.map V.int))) := eP.mut nb0
    generalize upd P' b (.lst (W'.map V.int)) = P3 at j3 ha3 hb3 eP3
    walk_at "w"
    refine aForL.go (fun i G' P' σ' => Ex G4 G' ∧ Ex P0 P' ∧ ∃ (F2 W2 : List Int) (us2 : List V) (s6 s7 s8 s9 s10 : Option V), P' a = some (.dK (kvZ F2 us2)) ∧ P' b = some (.lst (W2.map V.int)) ∧ Hm es ks k0 n y i F2 W2 ∧ HtL G' es ks k0 F2 us2 ∧ 2 * (n.toNat - F2.length) + W2.length < 2 * (n.toNat - F.length) + (W' ++ [y]).length ∧ σ' = [some (.ref m), some (.ref t), some (.ref a), some (.ref b), some (.ref l), some (.int y), s6, s7, s8, s9, s10]) j3 (eG4 _ _ hl) ⟨Ex.refl _, eP3, F, W', us, s6, s7, s8, s9, s10, ha3, hb3, hM, hH, by rw [List.length_append, List.length_singleton]; omega, rfl⟩ (fun i G' P' σ' h => h.1 _ _ (eG4 _ _ hl)) ?_ ?_
    · clear ha hb j' eP ha3 hb3 eP3 j3
      rintro i z G P2 H4 σ' hz j' ⟨eG, eP, F2, W2, us2, s6, s7, s8, s9, s10, ha, hb, hM2, hH2, lt2, rfl⟩
      obtain ⟨k, hk, rfl⟩ := rV_at hz
      obtain ⟨e, he, hbe, hae⟩ := innE_mem.mp (List.mem_of_getElem? hk)
      have hem := List.mem_of_getElem? he
      have be := hB.2.2.2 e hem
      have lF2 := nodup_fin hM2.nd fun x hx => (hM2.r x hx).2
      have hm5 := hm.mono (eG3.trans (eG4.trans eG))
      walk_at "w"
      refine ⟨m, k, n, es, e, rfl, hm5.mono j'.exG, he, fun tv htv => ?_⟩
      walk_at "w"
      by_cases c1 : e.b = y
      rotate_left
      · refine itF (fun h => c1 (V.int.inj h)) ?_
        refine itBF rfl ?_
        walk_at "w"
        exact ⟨_, _, j', eG, eP, F2, W2, us2, _, _, _, _, _, ha, hb, hM2.next hk he fun h => absurd h c1, hH2, lt2, rfl⟩
      refine itT (congrArg V.int c1) ?_
      walk_at "w"
      refine din_kv (k := .inl e.a) rfl (.inl (j'.p _ _ ha)) ?_
      rw [kvZ_some hM2.nd hH2.1]
      walk_at "w"
      by_cases c2 : e.a ∈ F2
      · rw [decide_eq_true c2]
        refine itBF rfl ?_
        walk_at "w"
        exact ⟨_, _, j', eG, eP, F2, W2, us2, _, _, _, _, _, ha, hb, hM2.next hk he fun _ => c2, hH2, lt2, rfl⟩
      rw [decide_eq_false c2]
      refine itBT rfl ?_
      have hM3 := hM2.add hs hk he c1 c2
      have lF3 := nodup_fin hM3.nd fun x hx => (hM3.r x hx).2
      rw [List.length_append, List.length_singleton] at lF3
      obtain ⟨ii, tb, w0, x0, iil, hvb, htb, hwy, bw, bx⟩ := hH2.get hM2.nd (c1 ▸ hM2.yF : e.b ∈ F2)
      walk_at "w"
      refine dget_kv (k := .inl e.b) rfl (.inl (j'.p _ _ ha)) hvb ?_
      walk_at "w"
      refine dget_kv (k := .inl e.b) rfl (.inl (j'.p _ _ ha)) hvb ?_
      walk_at "w"
      refine aTup.go j' (by show 2 ≤ 100000; decide) fun tp G5 H5 ntp e5 j5 htp => ?_
      walk_at "w"
      refine dputP (k := .inl e.a) j5 rfl ha (by rw [kvZ_len hH2.1]; omega) fun H6 j6 => ?_
      rw [kvZ_put hH2.1 c2] at j6
      have ha6 : upd P2 a (.dK (kvZ (F2 ++ [e.a]) (us2 ++ [.ref tp]))) a = some (.dK (kvZ (F2 ++ [e.a]) (us2 ++ [.ref tp]))) := upd_same
      have hb6 : upd P2 a (.dK (kvZ (F2 ++ [e.a]) (us2 ++ [.ref tp]))) b = some (.lst (W2.map V.int)) := Eq.trans (upd_ne (Ne.symm hab)) hb
      have eP6 : Ex P0 (upd P2 a (.dK (kvZ (F2 ++ [e.a]) (us2 ++ [.ref tp])))) := eP.mut na0
      generalize upd P2 a (.dK (kvZ (F2 ++ [e.a]) (us2 ++ [.ref tp]))) = P6 at j6 ha6 hb6 eP6
      walk_at "w"
      refine appendP j6 hb6 (by rw [List.length_map]; have := hM2.l; omega) fun H7 j7 => ?_
      walk_at "w"
      have way : Way es ks k0 e.a (w0 + e.w) (x0 + e.x) := hwy.snoc hem rfl hae
      refine ⟨_, _, j7, eG.trans e5, eP6.mut nb0, F2 ++ [e.a], W2 ++ [e.a], us2 ++ [.ref tp], _, _, _, _, _, Eq.trans (upd_ne hab) ha6, by rw [upd_same, List.map_append]; rfl, hM3, (hH2.mono e5).add htp way (by omega) (by omega), ?_, rfl⟩
      rw [List.length_append, List.length_append, List.length_singleton]
      rw [List.length_append, List.length_singleton] at lt2 ⊢
      omega
    · clear ha hb j' eP ha3 hb3 eP3 j3
      rintro G P2 H4 σ' j' ⟨eG, eP, F2, W2, us2, s6, s7, s8, s9, s10, ha, hb, hM2, hH2, lt2, rfl⟩
      have el : (rV (innE es ks)).length = (innE es ks).length := by unfold rV; rw [List.length_map]
      rw [el] at hM2
      exact ⟨_, _, _, lt2, j', eG4.trans eG, eP, F2, W2, us2, _, _, _, _, _, _, ha, hb, hM2.fin fun x hx => (hM2.r x hx).1.inn m0, hH2, rfl, rfl⟩
/-- the pair of an event -/
def difE (h : Int → Int × Int) (e : Ev) : Int × Int := ((h e.b).1 + e.w - (h e.a).1, (h e.b).2 + e.x - (h e.a).2)
def difs (es : List Ev) (ks : List Int) (h : Int → Int × Int) : List (Int × Int) := (innE es ks).map fun k => ((es[k]?).map (difE h)).getD (0, 0)
def prL (d : Int × Int) : List Int := [d.1, d.2]
theorem difs_mem {es : List Ev} {ks : List Int} {h : Int → Int × Int} {w x : Int} : (w, x) ∈ difs es ks h ↔ DiffP es ks h w x := by
  unfold difs
  rw [List.mem_map]
  constructor
  · rintro ⟨k, hk, e⟩
    obtain ⟨v, hv, hb, ha⟩ := innE_mem.mp hk
    rw [hv] at e
    have e2 : difE h v = (w, x) := e
    unfold difE at e2
    injection e2 with e3 e4
    exact ⟨v, List.mem_of_getElem? hv, hb, ha, e3.symm, e4.symm⟩
  · rintro ⟨v, hv, hb, ha, rfl, rfl⟩
    obtain ⟨k, hk⟩ := List.getElem?_of_mem hv
    exact ⟨k, innE_mem.mpr ⟨v, hk, hb, ha⟩, by rw [hk]; rfl⟩
def DfB (ds : List (Int × Int)) : Prop := ∀ d ∈ ds, d.1.natAbs ≤ 200000000000000 ∧ d.2.natAbs ≤ 200000000000000
theorem difs_b {n : Int} {es : List Ev} {ks : List Int} {h : Int → Int × Int} (hB : EvB n es) (hb : HtB ks h) : DfB (difs es ks h) := fun ⟨w, x⟩ hd => by
  obtain ⟨e, he, h1, h2, rfl, rfl⟩ := difs_mem.mp hd
  have b1 := hb _ h1
  have b2 := hb _ h2
  have b3 := hB.2.2.2 e he
  show _ ≤ _ ∧ _ ≤ _
  constructor
  · show ((h e.b).1 + e.w - (h e.a).1).natAbs ≤ _; omega
  · show ((h e.b).2 + e.x - (h e.a).2).natAbs ≤ _; omega
def spDiffs (K : PySem.W.Frag) : Sp := fun vs H Q _ => ∃ (m t : Addr) (n : Int) (es : List Ev) (ks : List Int) (k0 : Int) (G P : Hp), vs = [.ref m, .ref t] ∧ Join G P H ∧ MachK K G m n es ∧ EvB n es ∧ n ≤ 63 ∧ G t = some (.tup (ks.map V.int)) ∧ KsOk n es ks k0 ∧
  ∀ (h : Int → Int × Int) ys p G' H', HtOk es ks k0 h → DfB (difs es ks h) → H p = none → Ex G G' → Join G' P H' → G' p = some (.lst ys) → TupL iV G' ys ((difs es ks h).map prL) → Q (.ref p) H'
theorem sc_differences : FnScope ["machine", "knot", "there", "found", "event", "before", "after", "tries", "points"] ["machine", "knot"] (defScope s_differences) := ⟨rfl, rfl, rfl, by decide +kernel, rfl, by decide +kernel, by decide +kernel⟩
theorem ok_differences (T : Txt K mg) {fd_heights : FuncData} (G_heights : Dn P w K mg base (L2.CX P w) 2 "heights" ["machine", "knot"] (spHeights K) fd_heights) {fd_inner_events : FuncData} (G_inner_events : Dn P w K mg base (L2.CX P w) 1 "inner_events" ["machine", "knot"] (spInner K) fd_inner_events) {fd_step_at : FuncData} (G_step_at : Dn P w K mg base (L2.CX P w) 1 "step_at" ["machine", "event"] (sp_step_at K) fd_step_at) : ∃ fd, Dn P w K mg base (L2.CX P w) 3 "differences" ["machine", "knot"] (spDiffs K) fd := by
  obtain ⟨fd, F⟩ := T.d_differences
  refine ⟨fd, F.ok sc_differences (fun vs H Q E h => ?_) (fun cdv A outer s H vs Q E hr h => ?_), T.g_differences, F.kp, F.bindsN fun _ _ _ _ _ _ us hl => match us, hl with | [_, _], _ => rfl, Lv.fun_lk F⟩
  · obtain ⟨_, _, _, _, _, _, _, _, rfl, _⟩ := h
    rfl
  · have hu := hu_of hr
    have hr_heights : Room 2 _ := hr.mono (by decide)
    have hr_inner_events : Room 1 _ := hr.mono (by decide)
    have hr_step_at : Room 1 _ := hr.mono (by decide)
    refine ⟨_, PSs.nox (pss_cons (ps_set (i := 2) sc_differences.nd rfl (Or.inl rfl) (pe_call G_heights.ok hr_heights rfl G_heights.mg G_heights.kp G_heights.b .nil passL (pa_cons (pv 0) (pa_cons (pv 1) pa_nil))))
      (pss_cons (ps_set (i := 3) sc_differences.nd rfl (Or.inl rfl) (pe_lst pa_nil))
      (pss_cons (ps_for PassesOwn.never rfl (pi_list (pe_call G_inner_events.ok hr_inner_events rfl G_inner_events.mg G_inner_events.kp G_inner_events.b .nil passL (pa_cons (pv 0) (pa_cons (pv 1) pa_nil)))) (pg_name (i := 4) sc_differences.nd rfl (Or.inl rfl)) (pss_cons (ps_asg (pe_call G_step_at.ok hr_step_at rfl G_step_at.mg G_step_at.kp G_step_at.b .nil passL (pa_cons (pv 0) (pa_cons (pv 4) pa_nil))) (pg_tup rfl (pgs_cons (pg_name (i := 5) sc_differences.nd rfl (Or.inl rfl)) (pgs_cons (pg_name (i := 6) sc_differences.nd rfl (Or.inl rfl)) (pgs_cons (pg_name (i := 7) sc_differences.nd rfl (Or.inl rfl)) (pgs_cons (pg_name (i := 8) sc_differences.nd rfl (Or.inl rfl)) pgs_nil))))))
      (pss_one (ps_expr (pe_bm PySem.F.plainAttrs_list PySem.F.slot_list_append PySem.F.type_list_append mt_append (pv 3) (pa_cons (pe_tup (pa_cons (pe_op op_sub (pe_op op_add (pe_ix ix_tup (pe_dget hu (pv 2) (pv 5) (fun _ _ => rfl)) pe_int (fun _ _ => rfl)) (pv 7)) (pe_ix ix_tup (pe_dget hu (pv 2) (pv 6) (fun _ _ => rfl)) pe_int (fun _ _ => rfl))) (pa_cons (pe_op op_sub (pe_op op_add (pe_ix ix_tup (pe_dget hu (pv 2) (pv 5) (fun _ _ => rfl)) pe_int (fun _ _ => rfl)) (pv 8)) (pe_ix ix_tup (pe_dget hu (pv 2) (pv 6) (fun _ _ => rfl)) pe_int (fun _ _ => rfl))) pa_nil))) pa_nil))))))
      (pss_one (ps_ret (pv 3)))))), ?_⟩
    obtain ⟨m, t, n, es, ks, k0, G, P0, rfl, j, hm, hB, nb, ht, hK, q⟩ := h
    walk_at "w"
    refine ⟨m, t, n, es, ks, k0, G, P0, rfl, j, hm, hB, nb, ht, hK, fun h d G1 H1 hO hb nd e1 j1 hd => ?_⟩
    walk_at "w"
    refine aLst.goP j1 (by show 0 ≤ 100000; decide) fun b P2 H2 nb2 e2 j2 hbb => ?_
    have nb1 := j1.np nb2
    walk_at "w"
    refine ⟨m, t, n, es, ks, G1, P2, rfl, j2, hm.mono e1, hB.2.2.1, e1 _ _ ht, fun l G3 H3 nl e3 j3 hl => ?_⟩
    walk_at "w"
    have el : (rV (innE es ks)).length = (innE es ks).length := by unfold rV; rw [List.length_map]
    have li : (innE es ks).length ≤ 10000 := by
      have := List.length_filter_le (innAt es ks) (List.range es.length)
      rw [List.length_range] at this
      have := hB.2.2.1
      unfold innE
      omega
    have ld : (difs es ks h).length = (innE es ks).length := by unfold difs; rw [List.length_map]
    refine aForL.go (fun i G' P' σ' => Ex G3 G' ∧ Ex P0 P' ∧ ∃ (us : List V) (s4 s5 s6 s7 s8 : Option V), P' b = some (.lst us) ∧ TupL iV G' us (((difs es ks h).take i).map prL) ∧ σ' = [some (.ref m), some (.ref t), some (.ref d), some (.ref b), s4, s5, s6, s7, s8]) j3 hl ⟨Ex.refl _, e2, [], _, _, _, _, _, hbb, TupL.nil, rfl⟩ (fun i G' P' σ' h => h.1 _ _ hl) ?_ ?_
    · clear hbb j1 j2 j3
      rintro i z G4 P4 H4 σ' hz j' ⟨eG, eP, us, s4, s5, s6, s7, s8, hbb, hT, rfl⟩
      obtain ⟨k, hk, rfl⟩ := rV_at hz
      obtain ⟨e, he, hbe, hae⟩ := innE_mem.mp (List.mem_of_getElem? hk)
      have hem := List.mem_of_getElem? he
      have be := hB.2.2.2 e hem
      have hm5 := hm.mono (e1.trans (e3.trans eG))
      obtain ⟨kvs, hkv, hkk⟩ := hd.mono (e3.trans eG)
      obtain ⟨t1, hv1, ht1⟩ := hkk _ hbe
      obtain ⟨t2, hv2, ht2⟩ := hkk _ hae
      have il := (List.getElem?_eq_some_iff.mp hk).1
      walk_at "w"
      refine ⟨m, k, n, es, e, rfl, hm5.mono j'.exG, he, fun tv htv => ?_⟩
      walk_at "w"
      refine dget_kv (k := .inl e.b) rfl (.inl (j'.g _ _ hkv)) hv1 ?_
      walk_at "w"
      refine dget_kv (k := .inl e.a) rfl (.inl (j'.g _ _ hkv)) hv2 ?_
      walk_at "w"
      refine dget_kv (k := .inl e.b) rfl (.inl (j'.g _ _ hkv)) hv1 ?_
      walk_at "w"
      refine dget_kv (k := .inl e.a) rfl (.inl (j'.g _ _ hkv)) hv2 ?_
      walk_at "w"
      refine aTup.go j' (by show 2 ≤ 100000; decide) fun tp G5 H5 ntp e5 j5 htp => ?_
      walk_at "w"
      have lus : us.length = i := by rw [hT.1, List.length_map, List.length_take]; omega
      refine appendP j5 hbb (by omega) fun H6 j6 => ?_
      walk_at "w"
      refine ⟨_, _, j6, eG.trans e5, eP.mut nb1, us ++ [.ref tp], _, _, _, _, _, upd_same, ?_, rfl⟩
      have hdi : (difs es ks h)[i]? = some (difE h e) := by
        unfold difs
        rw [List.getElem?_map, hk]
        show some (((es[k]?).map (difE h)).getD (0, 0)) = _
        rw [he]; rfl
      rw [take_more hdi, List.map_append]
      exact (hT.mono e5).add htp
    · clear hbb j2 j3
      rintro G4 P4 H4 σ' j' ⟨eG, eP, us, s4, s5, s6, s7, s8, hbb, hT, rfl⟩
      rw [el, ← ld, List.take_length] at hT
      walk_at "w"
      obtain ⟨G5, j5, e5, k5⟩ := j'.back eP
      exact q h us b G5 _ hO (difs_b hB hb) ((j.exH e1 j1).back nb2) (e1.trans (e3.trans (eG.trans e5))) j5 (k5 _ _ hbb nb1) (hT.mono e5)
def gcdF (a b : Int) (ds : List (Int × Int)) : Int := ds.foldl (fun g d => (Int.gcd g (b * d.2 - a * d.1) : Nat)) 0
theorem gcdF_more {a b : Int} {ds : List (Int × Int)} {d : Int × Int} : gcdF a b (ds ++ [d]) = (Int.gcd (gcdF a b ds) (b * d.2 - a * d.1) : Nat) := by
  unfold gcdF
  rw [List.foldl_append]; rfl
theorem foldg_dvd {a b k : Int} : ∀ {ds : List (Int × Int)} {g : Int}, k ∣ ds.foldl (fun g d => (Int.gcd g (b * d.2 - a * d.1) : Nat)) g ↔ k ∣ g ∧ ∀ d ∈ ds, k ∣ b * d.2 - a * d.1
  | [], g => by simp
  | d :: ds, g => by
    rw [List.foldl_cons, foldg_dvd, Int.dvd_coe_gcd_iff]
    constructor
    · rintro ⟨⟨h1, h2⟩, h3⟩
      exact ⟨h1, fun x hx => (List.mem_cons.mp hx).elim (fun e => e ▸ h2) (h3 x)⟩
    · rintro ⟨h1, h2⟩
      exact ⟨⟨h1, h2 d List.mem_cons_self⟩, fun x hx => h2 x (List.mem_cons_of_mem _ hx)⟩
theorem foldg_nn {a b : Int} : ∀ {ds : List (Int × Int)} {g : Int}, 0 ≤ g → 0 ≤ ds.foldl (fun g d => (Int.gcd g (b * d.2 - a * d.1) : Nat)) g
  | [], g, h => h
  | d :: ds, g, h => by rw [List.foldl_cons]; exact foldg_nn (Int.natCast_nonneg _)
theorem gcdF_meas {n a b k0 : Int} {es : List Ev} {ks : List Int} {h : Int → Int × Int} (hK : KsOk n es ks k0) (hh : HtOk es ks k0 h) : MeasIs es ks a b (gcdF a b (difs es ks h)) := by
  refine meas_diff (List.mem_of_getElem? hK.1) hh hK.2.2 (foldg_nn (Int.le_refl 0)) fun k => ?_
  unfold gcdF
  rw [foldg_dvd]
  constructor
  · rintro ⟨_, h2⟩ w x hd
    exact h2 (w, x) (difs_mem.mpr hd)
  · intro h2
    exact ⟨Int.dvd_zero k, fun ⟨w, x⟩ hd => h2 w x (difs_mem.mp hd)⟩
theorem df_mul {a d : Int} (h : a.natAbs < 2 ^ 400) (hd : d.natAbs ≤ 200000000000000) : CMulW a d := mulW (Nat.lt_of_lt_of_le h (Nat.pow_le_pow_right (by decide) (by decide))) (big15 (by omega) (by omega))
def spMeasOf (K : PySem.W.Frag) : Sp := fun vs H Q _ => ∃ (m p t : Addr) (n a b : Int) (es : List Ev) (ks : List Int) (k0 : Int) (G P : Hp), vs = [.ref m, .ref p, .ref t] ∧ Join G P H ∧ MachK K G m n es ∧ EvB n es ∧ n ≤ 63 ∧ ShareAt G p a b ∧ G t = some (.tup (ks.map V.int)) ∧ KsOk n es ks k0 ∧
  ∀ x G' H', MeasIs es ks a b x → Ex G G' → Join G' P H' → Q (.int x) H'
theorem sc_measure_of : FnScope ["machine", "share", "knot", "found", "tries", "points"] ["machine", "share", "knot"] (defScope s_measure_of) := ⟨rfl, rfl, rfl, by decide +kernel, rfl, by decide +kernel, by decide +kernel⟩
theorem ok_measure_of (T : Txt K mg) {fd_differences : FuncData} (G_differences : Dn P w K mg base (L2.CX P w) 3 "differences" ["machine", "knot"] (spDiffs K) fd_differences) {fd_common_divisor : FuncData} (G_common_divisor : Dn P w K mg base (L2.CX P w) 1 "common_divisor" ["one", "other"] (sp_common_divisor K) fd_common_divisor) : ∃ fd, Dn P w K mg base (L2.CX P w) 4 "measure_of" ["machine", "share", "knot"] (spMeasOf K) fd := by
  obtain ⟨fd, F⟩ := T.d_measure_of
  refine ⟨fd, F.ok sc_measure_of (fun vs H Q E h => ?_) (fun cdv A outer s H vs Q E hr h => ?_), T.g_measure_of, F.kp, F.bindsN fun _ _ _ _ _ _ us hl => match us, hl with | [_, _, _], _ => rfl, Lv.fun_lk F⟩
  · obtain ⟨_, _, _, _, _, _, _, _, _, _, _, rfl, _⟩ := h
    rfl
  · have hu := hu_of hr
    have hr_differences : Room 3 _ := hr.mono (by decide)
    have hr_common_divisor : Room 1 _ := hr.mono (by decide)
    refine ⟨_, PSs.nox (pss_cons (ps_set (i := 3) sc_measure_of.nd rfl (Or.inl rfl) pe_int)
      (pss_cons (ps_for PassesOwn.never rfl (pi_list (pe_call G_differences.ok hr_differences rfl G_differences.mg G_differences.kp G_differences.b .nil passL (pa_cons (pv 0) (pa_cons (pv 2) pa_nil)))) (pg_tup rfl (pgs_cons (pg_name (i := 4) sc_measure_of.nd rfl (Or.inl rfl)) (pgs_cons (pg_name (i := 5) sc_measure_of.nd rfl (Or.inl rfl)) pgs_nil))) (pss_one (ps_set (i := 3) sc_measure_of.nd rfl (Or.inl rfl) (pe_call G_common_divisor.ok hr_common_divisor rfl G_common_divisor.mg G_common_divisor.kp G_common_divisor.b .nil passL (pa_cons (pv 3) (pa_cons (pe_op op_sub (pe_op op_mulW (pe_ix ix_tup (pv 1) pe_int (fun _ _ => rfl)) (pv 5)) (pe_op op_mulW (pe_ix ix_tup (pv 1) pe_int (fun _ _ => rfl)) (pv 4))) pa_nil))))))
      (pss_one (ps_ret (pv 3))))), ?_⟩
    obtain ⟨m, p, t, n, a, b, es, ks, k0, G, P0, rfl, j, hm, hB, nb, hS, ht, hK, q⟩ := h
    walk_at "w"
    refine ⟨m, t, n, es, ks, k0, G, P0, rfl, j, hm, hB, nb, ht, hK, fun h ys l G1 H1 hO hb nl e1 j1 hl hy => ?_⟩
    walk_at "w"
    refine aForL.go (fun i G' P' σ' => P' = P0 ∧ Ex G1 G' ∧ ∃ (s4 s5 : Option V), σ' = [some (.ref m), some (.ref p), some (.ref t), some (.int (gcdF a b ((difs es ks h).take i))), s4, s5]) j1 hl ⟨rfl, Ex.refl _, _, _, rfl⟩ (fun i G' P' σ' h => h.2.1 _ _ hl) ?_ ?_
    · rintro i z G4 P4 H4 σ' hz j' ⟨rfl, eG, s4, s5, rfl⟩
      obtain ⟨dL, t, hd, rfl, htt⟩ := hy.get hz
      rw [List.getElem?_map] at hd
      obtain ⟨d, hd2, rfl⟩ := Option.map_eq_some_iff.mp hd
      have htd : G4 t = some (.tup [.int d.1, .int d.2]) := eG _ _ htt
      have hSS := (hS.mono e1).mono eG
      have hp := hSS.1
      have bd := hb d (List.mem_of_getElem? hd2)
      walk_at "w"
      refine w_rI (df_mul hS.2.2.2.2 bd.2) ?_
      walk_at "w"
      refine w_rI (df_mul hS.2.2.2.1 bd.1) ?_
      walk_at "w"
      refine ⟨_, _, rfl, ?_⟩
      walk_at "w"
      refine ⟨_, _, j', rfl, eG, some (.int d.1), some (.int d.2), ?_⟩
      rw [take_more hd2, gcdF_more]
      rfl
    · rintro G4 P4 H4 σ' j' ⟨rfl, eG, s4, s5, rfl⟩
      have ey : ys.length = (difs es ks h).length := by rw [hy.1, List.length_map]
      rw [ey, List.take_length]
      walk_at "w"
      exact q _ G4 _ (gcdF_meas hK hO) (e1.trans eG) j'
theorem knotOk {n : Int} {es : List Ev} {s : Int} (hs : s ∈ Reach n es) : ∃ k0, KsOk n es (Knot n es s) k0 := by
  obtain ⟨i, hi⟩ := List.getElem?_of_mem (knot_self hs)
  have il := (List.getElem?_eq_some_iff.mp hi).1
  exact ⟨_, List.getElem?_eq_getElem (by omega), fun x hx => (reach_mem.mp (knot_mem.mp hx).1).1, knot_tied n es s⟩
def spMeasure (K : PySem.W.Frag) : Sp := fun vs H Q _ => ∃ (m p : Addr) (s n a b : Int) (es : List Ev) (G P : Hp), vs = [.ref m, .ref p, .int s] ∧ Join G P H ∧ NT P ∧ MachK K G m n es ∧ EvB n es ∧ n ≤ 63 ∧ ShareAt G p a b ∧ s ∈ Reach n es ∧
  ∀ x G' H', MeasIs es (Knot n es s) a b x → Ex G G' → Join G' P H' → Q (.int x) H'
theorem evb_std {n : Int} {es : List Ev} (h : EvB n es) : Std n es := fun e he => by have := h.2.2.2 e he; omega
end X

namespace X
open PySem PySem.Spec PyProof.Rows L2 Lv
/-! rows of events round are sums of simple ones -/
def bAt (es : List Ev) (k : Nat) : Int := ((es[k]?).map Ev.b).getD 0
def Pth (es : List Ev) (ks : List Int) : Int → Int → List Nat → Prop
  | s, t, [] => s = t
  | s, t, k :: r => ∃ e, es[k]? = some e ∧ e.b = s ∧ e.a ∈ ks ∧ Pth es ks e.a t r
variable {es : List Ev} {ks : List Int}
theorem pth_app : ∀ {p q : List Nat} {s t : Int}, Pth es ks s t (p ++ q) ↔ ∃ u, Pth es ks s u p ∧ Pth es ks u t q
  | [], q, s, t => ⟨fun h => ⟨s, rfl, h⟩, fun ⟨u, h1, h2⟩ => by cases h1; exact h2⟩
  | k :: p, q, s, t => by
    constructor
    · rintro ⟨e, h1, h2, h3, h4⟩
      obtain ⟨u, h5, h6⟩ := pth_app.mp h4
      exact ⟨u, ⟨e, h1, h2, h3, h5⟩, h6⟩
    · rintro ⟨u, ⟨e, h1, h2, h3, h5⟩, h6⟩
      exact ⟨e, h1, h2, h3, pth_app.mpr ⟨u, h5, h6⟩⟩
theorem pth_one {k : Nat} {e : Ev} (he : es[k]? = some e) (ha : e.a ∈ ks) : Pth es ks e.b e.a [k] := ⟨e, he, rfl, ha, rfl⟩
theorem pth_head {s t : Int} {k : Nat} {r : List Nat} (h : Pth es ks s t (k :: r)) : bAt es k = s := by
  obtain ⟨e, h1, h2, _⟩ := h
  unfold bAt
  rw [h1]; exact h2
theorem bAt_of {k : Nat} {e : Ev} (he : es[k]? = some e) : bAt es k = e.b := by unfold bAt; rw [he]; rfl
theorem pth_ks : ∀ {rs : List Nat} {s t : Int}, s ∈ ks → Pth es ks s t rs → t ∈ ks ∧ ∀ k ∈ rs, bAt es k ∈ ks
  | [], s, t, hs, h => by cases h; exact ⟨hs, fun k hk => nomatch hk⟩
  | k :: r, s, t, hs, h => by
    have hb := pth_head h
    obtain ⟨e, _, _, h3, h4⟩ := h
    obtain ⟨a, b⟩ := pth_ks h3 h4
    refine ⟨a, fun k' hk => ?_⟩
    rcases List.mem_cons.mp hk with e | hk
    · rw [e, hb]; exact hs
    · exact b k' hk
theorem sW_app (p q : List Nat) : sumW es (p ++ q) = sumW es p + sumW es q := by unfold sumW; rw [List.map_append, List.sum_append]
theorem sX_app (p q : List Nat) : sumX es (p ++ q) = sumX es p + sumX es q := by unfold sumX; rw [List.map_append, List.sum_append]
theorem sW_one {k : Nat} {e : Ev} (he : es[k]? = some e) : sumW es [k] = e.w := by unfold sumW; simp [he]
theorem sX_one {k : Nat} {e : Ev} (he : es[k]? = some e) : sumX es [k] = e.x := by unfold sumX; simp [he]
theorem pth_way : ∀ {rs : List Nat} {s t : Int}, Pth es ks s t rs → Way es ks s t (sumW es rs) (sumX es rs)
  | [], s, t, h => by cases h; exact .nil
  | k :: r, s, t, h => by
    obtain ⟨e, h1, h2, h3, h4⟩ := h
    have := (Way.one (List.mem_of_getElem? h1) h3).trans (pth_way h4)
    rw [h2] at this
    have e1 := sW_app (es := es) [k] r
    have e2 := sX_app (es := es) [k] r
    rw [sW_one h1] at e1
    rw [sX_one h1] at e2
    rw [show k :: r = [k] ++ r from rfl, e1, e2]
    exact this
theorem way_pth {s t w x : Int} (h : Way es ks s t w x) : ∃ rs, Pth es ks s t rs ∧ sumW es rs = w ∧ sumX es rs = x := by
  induction h with
  | nil => exact ⟨[], rfl, rfl, rfl⟩
  | snoc _ he hb ha ih =>
    obtain ⟨rs, h1, h2, h3⟩ := ih
    obtain ⟨k, hk⟩ := List.getElem?_of_mem he
    refine ⟨rs ++ [k], pth_app.mpr ⟨_, h1, hb ▸ pth_one hk ha⟩, ?_, ?_⟩
    · rw [sW_app, h2, sW_one hk]
    · rw [sX_app, h3, sX_one hk]
/-- a simple row round, from its least standing -/
def FR (es : List Ev) (ks : List Int) (s : Int) (rs : List Nat) : Prop := rs ≠ [] ∧ Pth es ks s s rs ∧ (rs.map (bAt es)).Nodup ∧ ∀ k ∈ rs, s ≤ bAt es k
def FRP (es : List Ev) (ks : List Int) (w x : Int) : Prop := ∃ s ∈ ks, ∃ rs, FR es ks s rs ∧ w = sumW es rs ∧ x = sumX es rs
theorem dup_split {f : Nat → Int} : ∀ {l : List Nat}, ¬ (l.map f).Nodup → ∃ p a q b r, l = p ++ (a :: q) ++ (b :: r) ∧ f a = f b
  | [], h => absurd List.nodup_nil h
  | a :: l, h => by
    by_cases c : f a ∈ l.map f
    · obtain ⟨b, hb, e⟩ := List.mem_map.mp c
      obtain ⟨q, r, rfl⟩ := List.append_of_mem hb
      exact ⟨[], a, q, b, r, rfl, e.symm⟩
    · obtain ⟨p, a', q, b, r, rfl, e⟩ := dup_split (l := l) fun hn => h (List.nodup_cons.mpr ⟨c, hn⟩)
      exact ⟨a :: p, a', q, b, r, rfl, e⟩
theorem least_of {f : Nat → Int} : ∀ {l : List Nat}, l ≠ [] → ∃ k ∈ l, ∀ k' ∈ l, f k ≤ f k'
  | [], h => absurd rfl h
  | [a], _ => ⟨a, List.mem_singleton.mpr rfl, fun k hk => by rw [List.mem_singleton.mp hk]; exact Int.le_refl _⟩
  | a :: b :: l, _ => by
    obtain ⟨k, hk, h⟩ := least_of (f := f) (l := b :: l) (fun h => nomatch h)
    by_cases c : f a ≤ f k
    · refine ⟨a, List.mem_cons_self, fun k' hk' => ?_⟩
      rcases List.mem_cons.mp hk' with e | hk'
      · rw [e]; exact Int.le_refl _
      · exact Int.le_trans c (h k' hk')
    · refine ⟨k, List.mem_cons_of_mem _ hk, fun k' hk' => ?_⟩
      rcases List.mem_cons.mp hk' with e | hk'
      · rw [e]; omega
      · exact h k' hk'
theorem fr_of {s : Int} {rs : List Nat} (hs : s ∈ ks) (h0 : rs ≠ []) (hp : Pth es ks s s rs) (hn : (rs.map (bAt es)).Nodup) : FRP es ks (sumW es rs) (sumX es rs) := by
  obtain ⟨k, hk, hl⟩ := least_of (f := bAt es) h0
  obtain ⟨p, q, rfl⟩ := List.append_of_mem hk
  obtain ⟨u, h1, h2⟩ := pth_app.mp hp
  have hu := pth_head h2
  refine ⟨u, hu ▸ (pth_ks hs hp).2 k hk, (k :: q) ++ p, ⟨fun h => (nomatch h), pth_app.mpr ⟨s, h2, h1⟩, ?_, fun k' hk' => ?_⟩, ?_, ?_⟩
  · have pr : ((k :: q ++ p).map (bAt es)).Perm ((p ++ k :: q).map (bAt es)) := List.perm_append_comm.map _
    exact pr.nodup_iff.mpr hn
  · rw [← hu]
    refine hl k' ?_
    rcases List.mem_append.mp hk' with h | h
    · exact List.mem_append_right _ h
    · exact List.mem_append_left _ h
  · rw [sW_app, sW_app, Int.add_comm]
  · rw [sX_app, sX_app, Int.add_comm]
theorem ring_dec : ∀ (N : Nat) {rs : List Nat} {s : Int}, rs.length ≤ N → s ∈ ks → Pth es ks s s rs → Spn (FRP es ks) (sumW es rs) (sumX es rs)
  | 0, rs, s, hl, _, _ => by
    have : rs = [] := List.length_eq_zero_iff.mp (by omega)
    subst this
    exact .zero
  | N + 1, rs, s, hl, hs, hp => by
    by_cases h0 : rs = []
    · subst h0; exact .zero
    by_cases hn : (rs.map (bAt es)).Nodup
    · exact Spn.one (fr_of hs h0 hp hn)
    obtain ⟨p, a, q, b, r, rfl, e⟩ := dup_split hn
    obtain ⟨u2, h12, h3⟩ := pth_app.mp hp
    obtain ⟨u1, h1, h2⟩ := pth_app.mp h12
    have e1 := pth_head h2
    have e2 := pth_head h3
    have eu : u1 = u2 := by rw [← e1, ← e2, e]
    subst eu
    have hu : u1 ∈ ks := (pth_ks hs h1).1
    rw [List.length_append, List.length_append, List.length_cons, List.length_cons] at hl
    have i1 := ring_dec N (rs := a :: q) (s := u1) (by rw [List.length_cons]; omega) hu h2
    have i2 := ring_dec N (rs := p ++ (b :: r)) (s := s) (by rw [List.length_append, List.length_cons]; omega) hs (pth_app.mpr ⟨u1, h1, h3⟩)
    have := i1.plus i2
    rw [sW_app, sW_app, sX_app, sX_app]
    rw [sW_app, sX_app] at this
    rw [show sumW es p + sumW es (a :: q) + sumW es (b :: r) = sumW es (a :: q) + (sumW es p + sumW es (b :: r)) by omega, show sumX es p + sumX es (a :: q) + sumX es (b :: r) = sumX es (a :: q) + (sumX es p + sumX es (b :: r)) by omega]
    exact this
theorem frp_ring {w x : Int} (h : FRP es ks w x) : RingP es ks w x := by
  obtain ⟨s, hs, rs, hr, rfl, rfl⟩ := h
  exact ⟨s, hs, pth_way hr.2.1⟩
theorem ring_frp {w x : Int} (h : RingP es ks w x) : Spn (FRP es ks) w x := by
  obtain ⟨s, hs, hw⟩ := h
  obtain ⟨rs, h1, rfl, rfl⟩ := way_pth hw
  exact ring_dec rs.length (Nat.le_refl _) hs h1
theorem meas_frp {a b m : Int} (m0 : 0 ≤ m) (h : ∀ k, k ∣ m ↔ ∀ w x, FRP es ks w x → k ∣ b * x - a * w) : MeasIs es ks a b m :=
  ⟨m0, fun k => (h k).trans ⟨fun hd w x hr => Spn.dvd hd (ring_frp hr), fun hr w x hd => hr w x (frp_ring hd)⟩⟩
end X

namespace X
open PySem PySem.Spec PyProof.Rows L2 Lv
theorem pth_ev : ∀ {rs : List Nat} {s t : Int} {es : List Ev} {ks : List Int}, Pth es ks s t rs → ∀ k ∈ rs, ∃ e, es[k]? = some e
  | [], _, _, _, _, _ => fun k hk => nomatch hk
  | k :: r, s, t, es, ks, h1 => by
    obtain ⟨e, a1, _, _, a4⟩ := h1
    intro k' hk
    rcases List.mem_cons.mp hk with q | hk
    · exact ⟨e, q ▸ a1⟩
    · exact pth_ev a4 k' hk
theorem sub_len : ∀ {l m : List Int}, l.Nodup → (∀ x ∈ l, x ∈ m) → l.length ≤ m.length
  | [], _, _, _ => Nat.zero_le _
  | a :: l, m, hn, h => by
    obtain ⟨h1, h2⟩ := List.nodup_cons.mp hn
    have ha := h a List.mem_cons_self
    have := sub_len (l := l) (m := m.erase a) h2 fun x hx => by
      have ne : x ≠ a := fun e => h1 (e ▸ hx)
      exact (List.mem_erase_of_ne ne).mpr (h x (List.mem_cons_of_mem _ hx))
    rw [List.length_erase_of_mem ha] at this
    have := List.length_pos_of_mem ha
    rw [List.length_cons]; omega
theorem fr_len {es : List Ev} {ks : List Int} {s : Int} {rs : List Nat} (hs : s ∈ ks) (h : FR es ks s rs) : rs.length ≤ ks.length := by
  have := sub_len h.2.2.1 (m := ks) fun y hy => by
    obtain ⟨k, hk, rfl⟩ := List.mem_map.mp hy
    exact (pth_ks hs h.2.1).2 k hk
  rw [List.length_map] at this
  exact this
end X

namespace X
open PySem PySem.Spec PyProof.Rows L2 Lv
/-! rings below a share: standings falling, round by round -/
section
variable {es : List Ev} {f : Nat → Int}
def sumF (f : Nat → Int) (rs : List Nat) : Int := (rs.map f).sum
theorem sumF_app (f : Nat → Int) (p q : List Nat) : sumF f (p ++ q) = sumF f p + sumF f q := by unfold sumF; rw [List.map_append, List.sum_append]
theorem sumF_cons (f : Nat → Int) (k : Nat) (q : List Nat) : sumF f (k :: q) = f k + sumF f q := by unfold sumF; rw [List.map_cons, List.sum_cons]
/-- ways by the events that came last to each standing -/
def PB (es : List Ev) (C : Int → Option Nat) : Int → Int → List Nat → Prop
  | u, v, [] => u = v
  | u, v, k :: r => ∃ e, es[k]? = some e ∧ e.b = u ∧ C e.a = some k ∧ PB es C e.a v r
variable {C : Int → Option Nat} {L : Int → Int}
theorem pb_app : ∀ {p q : List Nat} {s t : Int}, PB es C s t (p ++ q) ↔ ∃ u, PB es C s u p ∧ PB es C u t q
  | [], q, s, t => ⟨fun h => ⟨s, rfl, h⟩, fun ⟨u, h1, h2⟩ => by cases h1; exact h2⟩
  | k :: p, q, s, t => by
    constructor
    · rintro ⟨e, h1, h2, h3, h4⟩
      obtain ⟨u, h5, h6⟩ := pb_app.mp h4
      exact ⟨u, ⟨e, h1, h2, h3, h5⟩, h6⟩
    · rintro ⟨u, ⟨e, h1, h2, h3, h5⟩, h6⟩
      exact ⟨e, h1, h2, h3, pb_app.mpr ⟨u, h5, h6⟩⟩
/-- the standings' numbers, and the events that came: each ring of these is below -/
structure Bl (es : List Ev) (ks : List Int) (f : Nat → Int) (L : Int → Int) (C : Int → Option Nat) : Prop where
  p : ∀ v k, C v = some k → ∃ e, es[k]? = some e ∧ e.a = v ∧ e.b ∈ ks ∧ e.a ∈ ks ∧ L e.b + f k ≤ L v
  n : ∀ v rs, rs ≠ [] → PB es C v v rs → sumF f rs < 0
theorem pb_le {ks : List Int} (h : Bl es ks f L C) : ∀ {rs : List Nat} {u v : Int}, PB es C u v rs → L u + sumF f rs ≤ L v
  | [], u, v, hp => by cases hp; show L u + 0 ≤ L u; omega
  | k :: r, u, v, hp => by
    obtain ⟨e, h1, h2, h3, h4⟩ := hp
    obtain ⟨e', g1, g2, g3, _, g4⟩ := h.p _ _ h3
    rw [h1] at g1
    cases g1
    have := pb_le h h4
    rw [sumF_cons]
    rw [h2] at g4
    omega
def upI (L : Int → Int) (v x : Int) : Int → Int := fun y => if y = v then x else L y
def upC (C : Int → Option Nat) (v : Int) (k : Nat) : Int → Option Nat := fun y => if y = v then some k else C y
/-- a way by the new events that does not come to the changed standing is one by the old -/
theorem pb_old {v0 : Int} {k0 : Nat} : ∀ {rs : List Nat} {u v : Int}, PB es (upC C v0 k0) u v rs → (∀ k ∈ rs, ∀ e, es[k]? = some e → e.a ≠ v0) → PB es C u v rs
  | [], _, _, h, _ => h
  | k :: r, u, v, ⟨e, h1, h2, h3, h4⟩, hn => by
    have ne := hn k List.mem_cons_self e h1
    refine ⟨e, h1, h2, ?_, pb_old h4 fun k' hk' => hn k' (List.mem_cons_of_mem _ hk')⟩
    unfold upC at h3
    rw [if_neg ne] at h3
    exact h3
theorem pb_split {v0 : Int} {k0 : Nat} : ∀ {rs : List Nat} {u v : Int}, PB es (upC C v0 k0) u v rs → (∀ k ∈ rs, ∀ e, es[k]? = some e → e.a ≠ v0) ∨ ∃ p q, rs = p ++ k0 :: q ∧ (∀ k ∈ p, ∀ e, es[k]? = some e → e.a ≠ v0) ∧ PB es (upC C v0 k0) v0 v q
  | [], _, _, _ => .inl fun k hk => nomatch hk
  | k :: r, u, v, ⟨e, h1, h2, h3, h4⟩ => by
    by_cases c : e.a = v0
    · unfold upC at h3
      rw [if_pos c] at h3
      cases h3
      exact .inr ⟨[], r, rfl, fun k hk => (nomatch hk), c ▸ h4⟩
    · rcases pb_split h4 with g | ⟨p, q, g1, g2, g3⟩
      · refine .inl fun k' hk' e' he' => ?_
        rcases List.mem_cons.mp hk' with rfl | hk'
        · rw [h1] at he'; cases he'; exact c
        · exact g k' hk' e' he'
      · refine .inr ⟨k :: p, q, by rw [g1]; rfl, fun k' hk' e' he' => ?_, g3⟩
        rcases List.mem_cons.mp hk' with rfl | hk'
        · rw [h1] at he'; cases he'; exact c
        · exact g2 k' hk' e' he'
/-- a row round from the changed standing that comes to it at its end alone, or is put together of such -/
theorem pb_neg {ks : List Int} {k0 : Nat} {e0 : Ev} (h : Bl es ks f L C) (he : es[k0]? = some e0) (hlt : L e0.b + f k0 < L e0.a) : ∀ (N : Nat) {rs : List Nat}, rs.length ≤ N → rs ≠ [] → PB es (upC C e0.a k0) e0.a e0.a rs → sumF f rs < 0
  | 0, rs, hl, h0, _ => absurd (List.length_eq_zero_iff.mp (by omega)) h0
  | N + 1, rs, hl, h0, hp => by
    rcases pb_split hp with g | ⟨p, q, rfl, g2, g3⟩
    · exact h.n _ _ h0 (pb_old hp g)
    · obtain ⟨u, h1, e, a1, a2, a3, a4⟩ := pb_app.mp hp
      rw [he] at a1
      cases a1
      have hu : PB es C e0.a e0.b p := by rw [a2]; exact pb_old h1 g2
      have hs := pb_le h hu
      rw [sumF_app, sumF_cons]
      by_cases c : q = []
      · subst c
        show sumF f p + (f k0 + 0) < 0
        omega
      · have := pb_neg h he hlt N (rs := q) (by rw [List.length_append, List.length_cons] at hl; omega) c g3
        omega
theorem bl_step {ks : List Int} {k0 : Nat} {e0 : Ev} (h : Bl es ks f L C) (he : es[k0]? = some e0) (hb : e0.b ∈ ks) (ha : e0.a ∈ ks) (hlt : L e0.b + f k0 < L e0.a) : Bl es ks f (upI L e0.a (L e0.b + f k0)) (upC C e0.a k0) := by
  have low : ∀ y, upI L e0.a (L e0.b + f k0) y ≤ L y := fun y => by
    unfold upI
    split
    · rename_i e; rw [e]; omega
    · omega
  refine ⟨fun v k hc => ?_, fun v rs h0 hp => ?_⟩
  · unfold upC at hc
    by_cases c : v = e0.a
    · rw [if_pos c] at hc
      cases hc
      refine ⟨e0, he, c.symm, hb, ha, ?_⟩
      have := low e0.b
      rw [c]
      show _ ≤ upI L e0.a (L e0.b + f k0) e0.a
      rw [show upI L e0.a (L e0.b + f k0) e0.a = L e0.b + f k0 by unfold upI; rw [if_pos rfl]]
      omega
    · rw [if_neg c] at hc
      obtain ⟨e, g1, g2, g3, g4, g5⟩ := h.p v k hc
      refine ⟨e, g1, g2, g3, g4, ?_⟩
      have := low e.b
      rw [show upI L e0.a (L e0.b + f k0) v = L v by unfold upI; rw [if_neg c]]
      omega
  · rcases pb_split hp with g | ⟨p, q, rfl, g2, g3⟩
    · exact h.n v rs h0 (pb_old hp g)
    · obtain ⟨u, h1, h2⟩ := pb_app.mp hp
      have e1 : PB es (upC C e0.a k0) u e0.a [k0] := by
        obtain ⟨e, a1, a2, a3, a4⟩ := h2
        rw [he] at a1
        cases a1
        exact ⟨e0, he, a2, a3, rfl⟩
      have := pb_neg h he hlt (q ++ (p ++ [k0])).length (rs := q ++ (p ++ [k0])) (Nat.le_refl _) (by simp) (pb_app.mpr ⟨v, g3, pb_app.mpr ⟨u, h1, e1⟩⟩)
      rw [sumF_app, sumF_app, sumF_cons] at this
      rw [sumF_app, sumF_cons]
      have : sumF f [] = 0 := rfl
      omega
/-- rounds: T v is the last round that changed v; round r, place j -/
structure Rnd (es : List Ev) (ks : List Int) (f : Nat → Int) (inn : List Nat) (r j : Nat) (L : Int → Int) (C : Int → Option Nat) (T : Int → Nat) : Prop where
  b : Bl es ks f L C
  t0 : ∀ v, 1 ≤ T v → ∃ k, C v = some k
  t1 : ∀ v k e, C v = some k → es[k]? = some e → T v ≤ T e.b + 1
  t2 : ∀ (j0 k : Nat) (e : Ev), inn[j0]? = some k → es[k]? = some e → T e.b < (if j0 < j then r else r - 1) → L e.a ≤ L e.b + f k
  tr : ∀ v, T v ≤ r
variable {ks : List Int} {inn : List Nat} {r j k : Nat} {T : Int → Nat} {e : Ev}
def upT (T : Int → Nat) (v : Int) (r : Nat) : Int → Nat := fun y => if y = v then r else T y
theorem rnd_zero : Rnd es ks f inn 0 inn.length (fun _ => 0) (fun _ => none) (fun _ => 0) :=
  ⟨⟨fun v k h => (nomatch h), fun v rs h0 hp => by
    cases rs with
    | nil => exact absurd rfl h0
    | cons k r => obtain ⟨e, _, _, h, _⟩ := hp; cases h⟩, fun v h => by omega, fun v k e h => (nomatch h), fun j0 k e _ _ h => by
    exfalso
    revert h
    show ¬ (0 < if j0 < inn.length then 0 else 0 - 1)
    split <;> omega, fun v => Nat.le_refl _⟩
theorem rnd_next (h : Rnd es ks f inn r inn.length L C T) : Rnd es ks f inn (r + 1) 0 L C T :=
  ⟨h.b, h.t0, h.t1, fun j0 k e h1 h2 h3 => h.t2 j0 k e h1 h2 (by
    rw [if_pos (List.getElem?_eq_some_iff.mp h1).1]
    rw [if_neg (Nat.not_lt_zero _)] at h3
    omega), fun v => by have := h.tr v; omega⟩
theorem rnd_tight (h : Rnd es ks f inn r j L C T) (hj : inn[j]? = some k) (he : es[k]? = some e) (ht : L e.a ≤ L e.b + f k) : Rnd es ks f inn r (j + 1) L C T :=
  ⟨h.b, h.t0, h.t1, fun j0 k' e' h1 h2 h3 => by
    by_cases c : j0 = j
    · subst c
      rw [hj] at h1
      cases h1
      rw [he] at h2
      cases h2
      exact ht
    · refine h.t2 j0 k' e' h1 h2 ?_
      by_cases c2 : j0 < j
      · rw [if_pos c2]; rw [if_pos (by omega)] at h3; exact h3
      · rw [if_neg c2]; rw [if_neg (by omega)] at h3; exact h3, h.tr⟩
theorem rnd_relax (h : Rnd es ks f inn (r + 1) j L C T) (hj : inn[j]? = some k) (he : es[k]? = some e) (hb : e.b ∈ ks) (ha : e.a ∈ ks) (hlt : L e.b + f k < L e.a) : Rnd es ks f inn (r + 1) (j + 1) (upI L e.a (L e.b + f k)) (upC C e.a k) (upT T e.a (r + 1)) := by
  have up : ∀ y, T y ≤ upT T e.a (r + 1) y := fun y => by
    unfold upT
    split
    · exact h.tr y
    · omega
  have low : ∀ y, upI L e.a (L e.b + f k) y ≤ L y := fun y => by
    unfold upI
    split
    · rename_i q; rw [q]; omega
    · omega
  refine ⟨bl_step h.b he hb ha hlt, fun v hv => ?_, fun v k' e' hc he' => ?_, fun j0 k' e' h1 h2 h3 => ?_, fun v => ?_⟩
  · unfold upC
    by_cases c : v = e.a
    · rw [if_pos c]; exact ⟨k, rfl⟩
    · rw [if_neg c]
      refine h.t0 v ?_
      unfold upT at hv
      rw [if_neg c] at hv
      exact hv
  · unfold upC at hc
    by_cases c : v = e.a
    · rw [if_pos c] at hc
      cases hc
      rw [he] at he'
      cases he'
      have h5 : r ≤ T e.b := by
        by_cases q : r ≤ T e.b
        · exact q
        · exfalso
          have := h.t2 j k e hj he (by rw [if_neg (Nat.lt_irrefl _)]; omega)
          omega
      have := up e.b
      have : upT T e.a (r + 1) v = r + 1 := by unfold upT; rw [if_pos c]
      omega
    · rw [if_neg c] at hc
      have h5 := h.t1 v k' e' hc he'
      have := up e'.b
      have : upT T e.a (r + 1) v = T v := by unfold upT; rw [if_neg c]
      omega
  · have hle : (if j0 < j + 1 then r + 1 else r + 1 - 1) ≤ r + 1 := by split <;> omega
    by_cases c : e'.b = e.a
    · have : upT T e.a (r + 1) e'.b = r + 1 := by unfold upT; rw [if_pos c]
      omega
    · have q1 : upT T e.a (r + 1) e'.b = T e'.b := by unfold upT; rw [if_neg c]
      have q2 : upI L e.a (L e.b + f k) e'.b = L e'.b := by unfold upI; rw [if_neg c]
      rw [q1] at h3
      rw [q2]
      by_cases c2 : j0 = j
      · subst c2
        rw [hj] at h1
        cases h1
        rw [he] at h2
        cases h2
        unfold upI
        rw [if_pos rfl]
        omega
      · have h6 := h.t2 j0 k' e' h1 h2 (by
          by_cases c3 : j0 < j
          · rw [if_pos c3]; rw [if_pos (by omega)] at h3; exact h3
          · rw [if_neg c3]; rw [if_neg (by omega)] at h3; exact h3)
        have := low e'.a
        omega
  · unfold upT
    split
    · omega
    · exact h.tr v
/-- no change in a round: each row round is not below -/
theorem rnd_none (h : Rnd es ks f inn (r + 1) inn.length L C T) (hT : ∀ v, T v < r + 1) (hin : ∀ (k : Nat) (e : Ev), es[k]? = some e → e.b ∈ ks → e.a ∈ ks → ∃ j0 : Nat, inn[j0]? = some k) : ∀ {rs : List Nat} {s t : Int}, s ∈ ks → Pth es ks s t rs → L t ≤ L s + sumF f rs
  | [], s, t, _, hp => by cases hp; show L s ≤ L s + 0; omega
  | k :: rs, s, t, hs, hp => by
    obtain ⟨e, h1, h2, h3, h4⟩ := hp
    obtain ⟨j0, hj⟩ := hin k e h1 (h2 ▸ hs) h3
    have q1 := h.t2 j0 k e hj h1 (by rw [if_pos (List.getElem?_eq_some_iff.mp hj).1]; exact hT _)
    have q2 := rnd_none h hT hin h3 h4
    rw [sumF_cons]
    rw [h2] at q1
    omega
/-- one step back -/
def bkC (es : List Ev) (C : Int → Option Nat) (v : Int) : Int := match C v with
  | some k => bAt es k
  | none => v
def itN (g : Int → Int) : Nat → Int → Int
  | 0, x => x
  | m + 1, x => g (itN g m x)
theorem itN_add (g : Int → Int) (a b : Nat) (x : Int) : itN g (a + b) x = itN g a (itN g b x) := by
  induction a with
  | zero => rw [Nat.zero_add]; rfl
  | succ a ih => rw [Nat.succ_add]; show g (itN g (a + b) x) = g (itN g a (itN g b x)); rw [ih]
theorem bk_some (h : Bl es ks f L C) {v : Int} (hc : C v = some k) : ∃ e, es[k]? = some e ∧ e.a = v ∧ bkC es C v = e.b ∧ e.b ∈ ks := by
  obtain ⟨e, h1, h2, h3, _, _⟩ := h.p v k hc
  refine ⟨e, h1, h2, ?_, h3⟩
  unfold bkC
  rw [hc]
  exact bAt_of h1
/-- steps back stand as long as the rounds go -/
theorem rnd_back (h : Rnd es ks f inn r j L C T) {v : Int} : ∀ i : Nat, i + 1 ≤ T v → ∃ k, C (itN (bkC es C) i v) = some k ∧ T v ≤ T (itN (bkC es C) i v) + i
  | 0, hi => by
    obtain ⟨k, hk⟩ := h.t0 v (by omega)
    exact ⟨k, hk, by show T v ≤ T v + 0; omega⟩
  | i + 1, hi => by
    obtain ⟨k, hk, ht⟩ := rnd_back h (v := v) i (by omega)
    obtain ⟨e, h1, h2, h3, h4⟩ := bk_some h.b hk
    have h5 := h.t1 _ k e hk h1
    have e1 : itN (bkC es C) (i + 1) v = e.b := h3
    rw [e1]
    obtain ⟨k', hk'⟩ := h.t0 e.b (by omega)
    exact ⟨k', hk', by omega⟩
theorem pigeon (g : Nat → Int) {n : Nat} (hn : ks.length = n) (h : ∀ i, i ≤ n → g i ∈ ks) : ∃ i j, i < j ∧ j ≤ n ∧ g i = g j := by
  by_cases c : ((List.range (n + 1)).map g).Nodup
  · have := sub_len c (m := ks) fun y hy => by
      obtain ⟨i, hi, rfl⟩ := List.mem_map.mp hy
      exact h i (by have := List.mem_range.mp hi; omega)
    rw [List.length_map, List.length_range] at this
    omega
  · have hp : ¬ (List.range (n + 1)).Pairwise fun a b => g a ≠ g b := fun hp => c (List.pairwise_map.mpr hp)
    by_cases q : ∃ i j, i < j ∧ j ≤ n ∧ g i = g j
    · exact q
    · exfalso
      refine hp (List.Pairwise.imp_of_mem (fun {a b} _ hb hab e => q ⟨a, b, hab, ?_, e⟩) (List.pairwise_lt_range (n := n + 1)))
      have := List.mem_range.mp hb
      omega
/-- after as many steps back as there are standings: a standing that comes round again -/
theorem rnd_round (h : Rnd es ks f inn r j L C T) {v : Int} {n : Nat} (hn : ks.length = n) (hv : v ∈ ks) (hT : n ≤ T v) (n0 : 1 ≤ n) : ∃ d, 1 ≤ d ∧ d ≤ n ∧ itN (bkC es C) d (itN (bkC es C) n v) = itN (bkC es C) n v ∧ ∀ m, ∃ k, C (itN (bkC es C) m (itN (bkC es C) n v)) = some k := by
  have def1 : ∀ i, i < n → ∃ k, C (itN (bkC es C) i v) = some k := fun i hi => by
    obtain ⟨k, hk, _⟩ := rnd_back h i (v := v) (by omega)
    exact ⟨k, hk⟩
  have mem : ∀ i, i ≤ n → itN (bkC es C) i v ∈ ks := fun i hi => by
    cases i with
    | zero => exact hv
    | succ i =>
      obtain ⟨k, hk⟩ := def1 i (by omega)
      obtain ⟨e, _, _, h3, h4⟩ := bk_some h.b hk
      show bkC es C (itN (bkC es C) i v) ∈ ks
      rw [h3]; exact h4
  obtain ⟨i, j', hij, hj, e⟩ := pigeon (fun i => itN (bkC es C) i v) hn mem
  have e2 : itN (bkC es C) (j' - i) (itN (bkC es C) i v) = itN (bkC es C) i v := by
    rw [← itN_add, show j' - i + i = j' by omega]; exact e.symm
  have per : ∀ m, ∃ i', i ≤ i' ∧ i' < j' ∧ itN (bkC es C) (i + m) v = itN (bkC es C) i' v := fun m => by
    induction m with
    | zero => exact ⟨i, Nat.le_refl _, hij, rfl⟩
    | succ m ih =>
      obtain ⟨i', a1, a2, a3⟩ := ih
      have a4 : itN (bkC es C) (i + (m + 1)) v = itN (bkC es C) (i' + 1) v := congrArg (bkC es C) a3
      by_cases c : i' + 1 < j'
      · exact ⟨i' + 1, by omega, c, a4⟩
      · have : i' + 1 = j' := by omega
        rw [this] at a4
        exact ⟨i, Nat.le_refl _, hij, a4.trans e.symm⟩
  refine ⟨j' - i, by omega, by omega, ?_, fun m => ?_⟩
  · have q1 : itN (bkC es C) n v = itN (bkC es C) (n - i) (itN (bkC es C) i v) := by rw [← itN_add, show n - i + i = n by omega]
    rw [q1, ← itN_add, Nat.add_comm, itN_add, e2]
  · rw [← itN_add]
    obtain ⟨i', a1, a2, a3⟩ := per (m + n - i)
    rw [show m + n = i + (m + n - i) by omega, a3]
    exact def1 i' (by omega)
end
end X

namespace X
open PySem PySem.Spec PyProof.Rows L2 Lv
variable {P : Program} {w : World} {K : PySem.W.Frag} {mg : Str → Option Value} {base : Heap}
/-- the dict of the events that came, some keys of ks -/
def CmIs (kvs : List (L2.Key × V)) (ks : List Int) (C : Int → Option Nat) : Prop := kvs.length ≤ 63 ∧ ∀ v, valV kvs (.inl v) = (C v).map fun k => V.int (k : Nat)
theorem cm_put {kvs : List (L2.Key × V)} {ks : List Int} {C : Int → Option Nat} {v : Int} {k : Nat} (h : CmIs kvs ks C) (hl : (putK kvs (.inl v) (.int (k : Nat))).length ≤ 63) : CmIs (putK kvs (.inl v) (.int (k : Nat))) ks (upC C v k) := by
  refine ⟨hl, fun y => ?_⟩
  rw [valV_put]
  unfold upC
  by_cases c : y = v
  · subst c
    rw [if_pos rfl, if_pos rfl]; rfl
  · rw [if_neg (fun e => c (Sum.inl.inj e)), if_neg c]
    exact h.2 y
def spLed (K : PySem.W.Frag) : Sp := fun vs H Q _ => ∃ (m d : Addr) (s n : Int) (es : List Ev) (ks : List Int) (kvs : List (L2.Key × V)) (f : Nat → Int) (L : Int → Int) (C : Int → Option Nat) (dd : Nat) (G P : Hp), vs = [.ref m, .ref d, .int s] ∧ Join G P H ∧ MachK K G m n es ∧ (Rd G d (.dK kvs) ∨ Rd P d (.dK kvs)) ∧ CmIs kvs ks C ∧ Bl es ks f L C ∧ 1 ≤ dd ∧ dd ≤ 63 ∧ itN (bkC es C) dd s = s ∧ (∀ m, ∃ k, C (itN (bkC es C) m s) = some k) ∧
  ∀ (rs : List Nat) t G' H', PB es C s s rs → rs ≠ [] → rs.length ≤ dd → Ex G G' → Join G' P H' → G' t = some (.tup (rV rs)) → Q (.ref t) H'
theorem sc_led_round : FnScope ["machine", "came", "standing", "found", "here"] ["machine", "came", "standing"] (defScope s_led_round) := ⟨rfl, rfl, rfl, by decide +kernel, rfl, by decide +kernel, by decide +kernel⟩
theorem ok_led_round (T : Txt K mg) {fd_step_at : FuncData} (G_step_at : Dn P w K mg base (L2.CX P w) 1 "step_at" ["machine", "event"] (sp_step_at K) fd_step_at) : ∃ fd, Dn P w K mg base (L2.CX P w) 2 "led_round" ["machine", "came", "standing"] (spLed K) fd := by
  obtain ⟨fd, F⟩ := T.d_led_round
  refine ⟨fd, F.ok sc_led_round (fun vs H Q E h => ?_) (fun cdv A outer s H vs Q E hr h => ?_), T.g_led_round, F.kp, F.bindsN fun _ _ _ _ _ _ us hl => match us, hl with | [_, _, _], _ => rfl, Lv.fun_lk F⟩
  · obtain ⟨_, _, _, _, _, _, _, _, _, _, _, _, _, rfl, _⟩ := h
    rfl
  · have hu := hu_of hr
    have hr_step_at : Room 1 _ := hr.mono (by decide)
    refine ⟨_, PSs.nox (pss_cons (ps_set (i := 3) sc_led_round.nd rfl (Or.inl rfl) (pe_lst (pa_cons (pe_dget hu (pv 1) (pv 2) (fun _ _ => rfl)) pa_nil)))
      (pss_cons (ps_set (i := 4) sc_led_round.nd rfl (Or.inl rfl) (pe_ix ix_tup (pe_call G_step_at.ok hr_step_at rfl G_step_at.mg G_step_at.kp G_step_at.b .nil passL (pa_cons (pv 0) (pa_cons (pe_ix ix_list (pv 3) (pe_un un_neg pe_int) (fun _ _ => rfl)) pa_nil))) pe_int (fun _ _ => rfl)))
      (pss_cons (ps_while PassesOwn.never (pt_cmpR op_ne (pv 4) (pv 2) (nomark _)) (pss_cons (ps_expr (pe_bm PySem.F.plainAttrs_list PySem.F.slot_list_append PySem.F.type_list_append mt_append (pv 3) (pa_cons (pe_dget hu (pv 1) (pv 4) (fun _ _ => rfl)) pa_nil)))
      (pss_one (ps_set (i := 4) sc_led_round.nd rfl (Or.inl rfl) (pe_ix ix_tup (pe_call G_step_at.ok hr_step_at rfl G_step_at.mg G_step_at.kp G_step_at.b .nil passL (pa_cons (pv 0) (pa_cons (pe_ix ix_list (pv 3) (pe_un un_neg pe_int) (fun _ _ => rfl)) pa_nil))) pe_int (fun _ _ => rfl))))))
      (pss_one (ps_ret (pe_callTy call_tuple_of (by rfl) T.n_tuple (by decide +kernel) (pa_cons (pe_revL (pv 3)) pa_nil))))))), ?_⟩
    obtain ⟨m, d, s, n, es, ks, kvs, f, L, C, dd, G, P0, rfl, j, hm, hd, hC, hB, d1, d2, hp, hdef, q⟩ := h
    walk_at "w"
    have get : ∀ i, ∃ k e, valV kvs (.inl (itN (bkC es C) i s)) = some (.int (k : Nat)) ∧ es[k]? = some e ∧ C (itN (bkC es C) i s) = some k ∧ e.a = itN (bkC es C) i s ∧ e.b = itN (bkC es C) (i + 1) s := fun i => by
      obtain ⟨k, hk⟩ := hdef i
      obtain ⟨e, h1, h2, h3, _⟩ := bk_some hB hk
      exact ⟨k, e, by rw [hC.2, hk]; rfl, h1, hk, h2, h3.symm⟩
    obtain ⟨k0, e0, v0, he0, c0, a0, b0⟩ := get 0
    refine dget_kv (k := .inl s) rfl (hd.elim (fun h => Ex.rd j.exG h) fun h => Ex.rd j.exP h) v0 ?_
    walk_at "w"
    refine aLst.goP j (by show 1 ≤ 100000; decide) fun b P1 H1 nb1 e1 j1 hb => ?_
    have nb0 := j.np nb1
    walk_at "w"
    refine w_ixL (j1.p _ _ hb) (atI_end1 (n := 0) (v := .int k0) rfl rfl) ?_
    walk_at "w"
    refine ⟨m, k0, n, es, e0, rfl, hm.mono j1.exG, he0, fun t0 ht0 => ?_⟩
    walk_at "w"
    refine while_go (fun m' G' P' σ' => G' = G ∧ Ex P0 P' ∧ ∃ (i : Nat) (rsb : List Nat), 1 ≤ i ∧ i ≤ dd ∧ P' b = some (.lst (rV rsb)) ∧ rsb.length = i ∧ PB es C (itN (bkC es C) i s) s rsb.reverse ∧ m' = dd - i ∧ σ' = [some (.ref m), some (.ref d), some (.int s), some (.ref b), some (.int (itN (bkC es C) i s))]) j1 _ ⟨rfl, e1, 1, [k0], Nat.le_refl _, d1, hb, rfl, ⟨e0, he0, b0, by rw [a0]; exact c0, a0⟩, rfl, by rw [← b0]; rfl⟩ ?_
    clear hb j1 e1
    rintro m' G1 P2 H2 σ' j2 ⟨rfl, eP, i, rsb, i1, i2, hb, hl, hpb, rfl, rfl⟩
    walk_at "w"
    by_cases c : itN (bkC es C) i s = s
    · refine itNF (congrArg V.int c) ?_
      walk_at "w"
      obtain ⟨G5, j5, e5, k5⟩ := j2.back eP
      refine aRevL.go j5 (j5.g _ _ (k5 _ _ hb nb0)) fun l G3 H3 nl e3 j3 hl3 => ?_
      walk_at "w"
      refine tupOf_go j3 hl3 fun t G4 H4 nt e4 j4 ht => ?_
      rw [c] at hpb
      exact q rsb.reverse t G4 H4 hpb (fun h => by rw [List.reverse_eq_nil_iff] at h; subst h; simp at hl; omega) (by rw [List.length_reverse]; omega) (e5.trans (e3.trans e4)) j4 (by unfold rV at ht ⊢; rw [List.map_reverse]; exact ht)
    refine itNT (fun h => c (V.int.inj h)) ?_
    refine w_turn ?_
    have hlt : i < dd := by
      rcases Nat.lt_or_eq_of_le i2 with h | h
      · exact h
      · rw [h] at c; exact absurd hp c
    obtain ⟨k, e, v1, he, c1, a1, bb⟩ := get i
    walk_at "w"
    refine dget_kv (k := .inl (itN (bkC es C) i s)) rfl (hd.elim (fun h => Ex.rd j2.exG h) fun h => Ex.rd (eP.trans j2.exP) h) v1 ?_
    walk_at "w"
    refine appendP j2 hb (by unfold rV; rw [List.length_map]; omega) fun H3 j3 => ?_
    walk_at "w"
    refine w_ixL (j3.p _ _ upd_same) (atI_end1 (n := i) (v := .int k) (by rw [List.length_append]; unfold rV; rw [List.length_map, hl]; rfl) (by rw [List.getElem?_append_right (by unfold rV; rw [List.length_map]; omega)]; unfold rV; rw [List.length_map, hl, Nat.sub_self]; rfl)) ?_
    walk_at "w"
    refine ⟨m, k, n, es, e, rfl, hm.mono j3.exG, he, fun t1 ht1 => ?_⟩
    walk_at "w"
    refine ⟨_, _, _, by omega, j3, rfl, eP.mut nb0, i + 1, rsb ++ [k], by omega, hlt, by rw [upd_same, rV_app]; rfl, by rw [List.length_append, hl]; rfl, ?_, rfl, by rw [← bb]; rfl⟩
    rw [List.reverse_append]
    exact ⟨e, he, bb, by rw [a1]; exact c1, by rw [a1]; exact hpb⟩
def spShareOf (K : PySem.W.Frag) : Sp := fun vs H Q _ => ∃ (m r : Addr) (n : Int) (es : List Ev) (rs : List Nat) (G P : Hp), vs = [.ref m, .ref r] ∧ Join G P H ∧ MachK K G m n es ∧ G r = some (.tup (rV rs)) ∧ rs.length ≤ 10000 ∧ (∀ k ∈ rs, ∃ e, es[k]? = some e) ∧ 0 < sumW es rs ∧ (sumW es rs).natAbs < 2 ^ 199 ∧
  ∀ t G' H', Ex G G' → Join G' P H' → G' t = some (.tup [.int (sumX es rs / (Int.gcd (sumX es rs) (sumW es rs) : Nat)), .int (sumW es rs / (Int.gcd (sumX es rs) (sumW es rs) : Nat))]) → Q (.ref t) H'
theorem sc_share_of : FnScope ["machine", "ring", "tries", "points", "event"] ["machine", "ring"] (defScope s_share_of) := ⟨rfl, rfl, rfl, by decide +kernel, rfl, by decide +kernel, by decide +kernel⟩
theorem ok_share_of (T : Txt K mg) {fd_step_at : FuncData} (G_step_at : Dn P w K mg base (L2.CX P w) 1 "step_at" ["machine", "event"] (sp_step_at K) fd_step_at) {fd_lowest : FuncData} (G_lowest : Dn P w K mg base (L2.CX P w) 2 "lowest" ["top", "bottom"] (sp_lowest K) fd_lowest) : ∃ fd, Dn P w K mg base (L2.CX P w) 3 "share_of" ["machine", "ring"] (spShareOf K) fd := by
  obtain ⟨fd, F⟩ := T.d_share_of
  refine ⟨fd, F.ok sc_share_of (fun vs H Q E h => ?_) (fun cdv A outer s H vs Q E hr h => ?_), T.g_share_of, F.kp, F.bindsN fun _ _ _ _ _ _ us hl => match us, hl with | [_, _], _ => rfl, Lv.fun_lk F⟩
  · obtain ⟨_, _, _, _, _, _, _, rfl, _⟩ := h
    rfl
  · have hu := hu_of hr
    have hr_step_at : Room 1 _ := hr.mono (by decide)
    have hr_lowest : Room 2 _ := hr.mono (by decide)
    refine ⟨_, PSs.nox (pss_cons (ps_set (i := 2) sc_share_of.nd rfl (Or.inl rfl) (pe_callB (cr_sum rfl) (by rfl) T.n_sum (by decide +kernel) (pa_cons (pe_lc (own := [("event", 4)]) (g := gName 4) (tt := tYes) rfl sc_share_of.nd (pi_tup (pv 1)) (blkOk_by (N := ["machine", "ring", "tries", "points", "event"]) (sc := defScope s_share_of) (by decide +kernel)) (fun _ _ _ _ _ => (pg_name (i := 4) sc_share_of.nd rfl (Or.inl rfl) (hf := Or.inr rfl))) (fun _ _ _ _ _ => pts_nil) (fun _ _ _ _ _ => (pe_ix (ix_tupK (K := K) rfl) (pe_call G_step_at.ok hr_step_at rfl G_step_at.mg G_step_at.kp G_step_at.b .nil passL (pa_cons (pv 0) (pa_cons (pv 4) pa_nil))) pe_int (fun _ _ => rfl)))) pa_nil)))
      (pss_cons (ps_set (i := 3) sc_share_of.nd rfl (Or.inl rfl) (pe_callB (cr_sum rfl) (by rfl) T.n_sum (by decide +kernel) (pa_cons (pe_lc (own := [("event", 4)]) (g := gName 4) (tt := tYes) rfl sc_share_of.nd (pi_tup (pv 1)) (blkOk_by (N := ["machine", "ring", "tries", "points", "event"]) (sc := defScope s_share_of) (by decide +kernel)) (fun _ _ _ _ _ => (pg_name (i := 4) sc_share_of.nd rfl (Or.inl rfl) (hf := Or.inr rfl))) (fun _ _ _ _ _ => pts_nil) (fun _ _ _ _ _ => (pe_ix (ix_tupK (K := K) rfl) (pe_call G_step_at.ok hr_step_at rfl G_step_at.mg G_step_at.kp G_step_at.b .nil passL (pa_cons (pv 0) (pa_cons (pv 4) pa_nil))) pe_int (fun _ _ => rfl)))) pa_nil)))
      (pss_one (ps_ret (pe_call G_lowest.ok hr_lowest rfl G_lowest.mg G_lowest.kp G_lowest.b .nil passL (pa_cons (pv 3) (pa_cons (pv 2) pa_nil))))))), ?_⟩
    obtain ⟨m, r, n, es, rs, G, P0, rfl, j, hm, hr0, hl, hz, hw, hwb, q⟩ := h
    have el : rs.take (rV rs).length = rs := by simp [rV]
    walk_at "w"
    refine aLcT.go (fun P' => P' = P0) (fun i us G' => us = ((rs.take i).map fun k => ((es[k]?).map Ev.w).getD 0).map V.int) j rfl hr0 (fun _ _ => rfl) (fun i us G2 D _ _ hd h => h) (fun i us G2 h => ?_) ?_ ?_
    · rw [h, List.length_map, List.length_map, List.length_take]; omega
    · intro i x us2 G' P' H' R R0 hx e' hI hP j' kR kR0
      subst hP
      obtain ⟨k, hk, rfl⟩ := rV_at hx
      obtain ⟨e, he⟩ := hz k (List.mem_of_getElem? hk)
      walk_at "w"
      refine ⟨rfl, ?_⟩
      walk_at "w"
      refine ⟨m, k, n, es, e, rfl, (hm.mono e').mono j'.exG, he, fun te hte => ?_⟩
      walk_at "w"
      refine kR _ G' _ H' (Ex.refl _) rfl j' ?_
      rw [hI, take_more hk, List.map_append, List.map_append]
      simp [he]
    intro L1 us1 G1 P1 H1 hL1 e1 hd1 hI hP j1
    subst hP
    rw [el] at hI
    subst hI
    replace hm := hm.mono e1
    replace hr0 := e1 _ _ hr0
    walk_at "w"
    refine ⟨L1, _, rfl, sqL (j1.g _ _ hd1), ?_⟩
    walk_at "w"
    refine aLcT.go (fun P' => P' = P1) (fun i us G' => us = ((rs.take i).map fun k => ((es[k]?).map Ev.x).getD 0).map V.int) j1 rfl hr0 (fun _ _ => rfl) (fun i us G2 D _ _ hd h => h) (fun i us G2 h => ?_) ?_ ?_
    · rw [h, List.length_map, List.length_map, List.length_take]; omega
    · intro i x us2 G' P' H' R R0 hx e' hI hP j' kR kR0
      subst hP
      obtain ⟨k, hk, rfl⟩ := rV_at hx
      obtain ⟨e, he⟩ := hz k (List.mem_of_getElem? hk)
      walk_at "w"
      refine ⟨rfl, ?_⟩
      walk_at "w"
      refine ⟨m, k, n, es, e, rfl, (hm.mono e').mono j'.exG, he, fun te hte => ?_⟩
      walk_at "w"
      refine kR _ G' _ H' (Ex.refl _) rfl j' ?_
      rw [hI, take_more hk, List.map_append, List.map_append]
      simp [he]
    intro L2 us2 G2 P2 H2 hL2 e2 hd2 hI hP j2
    subst hP
    rw [el] at hI
    subst hI
    replace hm := hm.mono e2
    replace hr0 := e2 _ _ hr0
    walk_at "w"
    refine ⟨L2, _, rfl, sqL (j2.g _ _ hd2), ?_⟩
    walk_at "w"
    exact ⟨sumX es rs, sumW es rs, rfl, hw, hwb, fun t ht => q t _ _ ((e1.trans e2).trans (Ex.new (j2.ng ht))) (j2.newG ht) upd_same⟩
end X

namespace X
open PySem PySem.Spec PyProof.Rows L2 Lv
variable {P : Program} {w : World} {K : PySem.W.Frag} {mg : Str → Option Value} {base : Heap}
/-- the keys of a dict are some of ks, each once -/
def KIn (kvs : List (L2.Key × V)) (ks : List Int) : Prop := ∃ F : List Int, kvs.map (·.1) = F.map Sum.inl ∧ F.Nodup ∧ ∀ x ∈ F, x ∈ ks
theorem KIn.nil {ks : List Int} : KIn [] ks := ⟨[], rfl, List.nodup_nil, fun x hx => nomatch hx⟩
theorem KIn.len {kvs : List (L2.Key × V)} {ks : List Int} (h : KIn kvs ks) : kvs.length ≤ ks.length := by
  obtain ⟨F, h1, h2, h3⟩ := h
  have := congrArg List.length h1
  rw [List.length_map, List.length_map] at this
  rw [this]
  exact sub_len h2 h3
theorem KIn.put {kvs : List (L2.Key × V)} {ks : List Int} {v : Int} {y : V} (h : KIn kvs ks) (hv : v ∈ ks) : KIn (putK kvs (.inl v) y) ks := by
  obtain ⟨F, h1, h2, h3⟩ := h
  unfold putK
  split
  · refine ⟨F, ?_, h2, h3⟩
    rw [← h1, List.map_map]
    refine List.map_congr_left fun z _ => ?_
    show (if z.1 = Sum.inl v then (z.1, y) else z).1 = z.1
    by_cases c : z.1 = Sum.inl v
    · rw [if_pos c]
    · rw [if_neg c]
  · rename_i hn
    refine ⟨F ++ [v], by rw [List.map_append, List.map_append, h1]; rfl, List.nodup_append.mpr ⟨h2, List.nodup_cons.mpr ⟨fun h => (nomatch h), List.nodup_nil⟩, fun a ha b hb e => ?_⟩, fun x hx => ?_⟩
    · rw [List.mem_singleton.mp hb] at e
      subst e
      have hm : (Sum.inl a : L2.Key) ∈ kvs.map (·.1) := by rw [h1]; exact List.mem_map.mpr ⟨a, ha, rfl⟩
      obtain ⟨z, hz, ez⟩ := List.mem_map.mp hm
      exact hn (List.any_eq_true.mpr ⟨z, hz, decide_eq_true ez⟩)
    · rcases List.mem_append.mp hx with hx | hx
      · exact h3 x hx
      · rw [List.mem_singleton.mp hx]; exact hv
theorem KIn.kvZ {F ks : List Int} {us : List V} (hl : us.length = F.length) (hn : F.Nodup) (h : ∀ x ∈ F, x ∈ ks) : KIn (kvZ F us) ks := ⟨F, kvZ_keys hl, hn, h⟩
def LsIs (kvs : List (L2.Key × V)) (ks : List Int) (L : Int → Int) : Prop := KIn kvs ks ∧ ∀ v ∈ ks, valV kvs (.inl v) = some (.int (L v))
theorem ls_put {kvs : List (L2.Key × V)} {ks : List Int} {L : Int → Int} {v x : Int} (h : LsIs kvs ks L) (hv : v ∈ ks) : LsIs (putK kvs (.inl v) (.int x)) ks (upI L v x) := by
  refine ⟨h.1.put hv, fun y hy => ?_⟩
  rw [valV_put]
  unfold upI
  by_cases c : y = v
  · subst c
    rw [if_pos rfl, if_pos rfl]
  · rw [if_neg (fun e => c (Sum.inl.inj e)), if_neg c]
    exact h.2 y hy
theorem ls_zero {ks : List Int} (hn : ks.Nodup) : LsIs (kvZ ks (ks.map fun _ => V.int 0)) ks fun _ => 0 := by
  refine ⟨KIn.kvZ (by rw [List.length_map]) hn fun x h => h, fun v hv => ?_⟩
  obtain ⟨i, hi⟩ := List.getElem?_of_mem hv
  exact valV_kvZ hn hi (by rw [List.getElem?_map, hi]; rfl)
theorem lift_b {a b : Int} {e : Ev} (ha : a.natAbs < 2 ^ 400) (hb : b.natAbs < 2 ^ 400) (h1 : 1 ≤ e.w) (h2 : e.w ≤ 1000000000000) (h3 : -1000000000000 ≤ e.x) (h4 : e.x ≤ 1000000000000) : (liftE a b e).natAbs < 2 ^ 1000 := by
  have m1 := Nat.mul_le_mul (Nat.le_of_lt hb) (show e.x.natAbs ≤ 1000000000000 by omega)
  have m2 := Nat.mul_le_mul (Nat.le_of_lt ha) (show e.w.natAbs ≤ 1000000000000 by omega)
  rw [← Int.natAbs_mul] at m1 m2
  unfold liftE
  have h5 : 2 ^ 400 * 1000000000000 + 2 ^ 400 * 1000000000000 < 2 ^ 1000 := by decide
  have h6 := Int.natAbs_sub_le (b * e.x) (a * e.w)
  exact Nat.lt_of_le_of_lt (Nat.le_trans h6 (Nat.add_le_add m1 m2)) h5
theorem sumF_sg {sg a b : Int} {es : List Ev} : ∀ rs : List Nat, sumF (fun k => sg * liftAt a b es k) rs = sg * valOf a b es rs := fun rs => by
  rw [← val_sum]
  unfold sumF
  induction rs with
  | nil => simp
  | cons k r ih => rw [List.map_cons, List.map_cons, List.sum_cons, List.sum_cons, ih, Int.mul_add]
theorem pb_pth {es : List Ev} {ks : List Int} {f : Nat → Int} {L : Int → Int} {C : Int → Option Nat} (h : Bl es ks f L C) : ∀ {rs : List Nat} {u v : Int}, PB es C u v rs → Pth es ks u v rs
  | [], _, _, hp => hp
  | k :: r, u, v, ⟨e, h1, h2, h3, h4⟩ => by
    obtain ⟨e', g1, _, _, g3, _⟩ := h.p _ _ h3
    rw [h1] at g1
    cases g1
    exact ⟨e, h1, h2, g3, pb_pth h h4⟩
theorem slA_takeH {K : PySem.W.Frag} {G P H : Hp} {r : Addr} {xs : List V} {m : Nat} {Q : VK} (j : Join G P H) (hr : H r = some (.tup xs)) (q : ∀ t G' H', Ex G G' → Join G' P H' → H' t = some (.tup (xs.take m)) → Q (.ref t) H') : rSlA K (.ref r) none (some (m : Int)) H Q := by
  refine ⟨r, xs, rfl, sqT hr, fun h => ?_, fun _ p hp => ?_⟩
  · have h2 := h.2
    rw [HT.sIx_nat] at h2
    refine q r G H (Ex.refl _) j ?_
    rw [List.take_of_length_le (by omega)]; exact hr
  · refine q p _ _ (Ex.new (j.ng hp)) (j.newG hp) ?_
    have e : cutV xs none (some (m : Int)) = xs.take m := by
      unfold cutV
      rw [HT.sIx_nat, HT.sIx_none, List.drop_zero, Nat.sub_zero]
      by_cases hm : m ≤ xs.length
      · rw [Nat.min_eq_left hm]
      · rw [Nat.min_eq_right (by omega), List.take_length, List.take_of_length_le (by omega)]
    rw [e]; exact upd_same
/-- what turned last -/
def TnIs (tv : Option V) (ks : List Int) (T : Int → Nat) (r : Nat) : Prop := (tv = some .non ∧ ∀ v, T v < r) ∨ ∃ v ∈ ks, tv = some (.int v) ∧ T v = r
def spBeyond (K : PySem.W.Frag) : Sp := fun vs H Q _ => ∃ (m p t : Addr) (sg n a b : Int) (es : List Ev) (ks : List Int) (k0 : Int) (G P : Hp), vs = [.ref m, .ref p, .ref t, .int sg] ∧ Join G P H ∧ MachK K G m n es ∧ EvB n es ∧ n ≤ 63 ∧ ShareAt G p a b ∧ (sg = 1 ∨ sg = -1) ∧ G t = some (.tup (ks.map V.int)) ∧ KsOk n es ks k0 ∧ ks.Nodup ∧
  (∀ G' H', (∀ s ∈ ks, ∀ rs, Pth es ks s s rs → 0 ≤ sg * valOf a b es rs) → Ex G G' → Join G' P H' → Q .non H') ∧
  (∀ s rs t' G' H', s ∈ ks → rs ≠ [] → Pth es ks s s rs → rs.length ≤ 63 → sg * valOf a b es rs < 0 → Ex G G' → Join G' P H' → G' t' = some (.tup (rV rs)) → Q (.ref t') H')
theorem sc_ring_beyond : FnScope ["machine", "share", "knot", "sign", "inner", "least", "came", "turned", "_", "event", "standing", "number", "before", "after"] ["machine", "share", "knot", "sign"] (defScope s_ring_beyond) := ⟨rfl, rfl, rfl, by decide +kernel, rfl, by decide +kernel, by decide +kernel⟩
theorem ok_ring_beyond (T : Txt K mg) {fd_inner_events : FuncData} (G_inner_events : Dn P w K mg base (L2.CX P w) 1 "inner_events" ["machine", "knot"] (spInner K) fd_inner_events) {fd_step_at : FuncData} (G_step_at : Dn P w K mg base (L2.CX P w) 1 "step_at" ["machine", "event"] (sp_step_at K) fd_step_at) {fd_lift_of : FuncData} (G_lift_of : Dn P w K mg base (L2.CX P w) 2 "lift_of" ["machine", "share", "event"] (spLift K) fd_lift_of) {fd_led_round : FuncData} (G_led_round : Dn P w K mg base (L2.CX P w) 2 "led_round" ["machine", "came", "standing"] (spLed K) fd_led_round) : ∃ fd, Dn P w K mg base (L2.CX P w) 3 "ring_beyond" ["machine", "share", "knot", "sign"] (spBeyond K) fd := by
  obtain ⟨fd, F⟩ := T.d_ring_beyond
  refine ⟨fd, F.ok sc_ring_beyond (fun vs H Q E h => ?_) (fun cdv A outer s H vs Q E hr h => ?_), T.g_ring_beyond, F.kp, F.bindsN fun _ _ _ _ _ _ us hl => match us, hl with | [_, _, _, _], _ => rfl, Lv.fun_lk F⟩
  · obtain ⟨_, _, _, _, _, _, _, _, _, _, _, _, rfl, _⟩ := h
    rfl
  · have hu := hu_of hr
    have hr_inner_events : Room 1 _ := hr.mono (by decide)
    have hr_step_at : Room 1 _ := hr.mono (by decide)
    have hr_lift_of : Room 2 _ := hr.mono (by decide)
    have hr_led_round : Room 2 _ := hr.mono (by decide)
    refine ⟨_, PSs.nox (pss_cons (ps_set (i := 4) sc_ring_beyond.nd rfl (Or.inl rfl) (pe_call G_inner_events.ok hr_inner_events rfl G_inner_events.mg G_inner_events.kp G_inner_events.b .nil passL (pa_cons (pv 0) (pa_cons (pv 2) pa_nil))))
      (pss_cons (Lv.ps_setDc (i := 5) (own := [("standing", 10)]) (g := gName 10) (tt := tYes) rfl sc_ring_beyond.nd rfl rfl (Lv.sw_trueD rfl rfl rfl (by decide +kernel)) (pi_tup (pv 2)) (blkOk_by (N := ["machine", "share", "knot", "sign", "inner", "least", "came", "turned", "_", "event", "standing", "number", "before", "after"]) (sc := defScope s_ring_beyond) (by decide +kernel)) (fun _ _ _ _ _ => (pg_name (i := 10) sc_ring_beyond.nd rfl (Or.inl rfl) (hf := Or.inr rfl))) (fun _ _ _ _ _ => pts_nil) (fun _ _ _ _ _ => (pv 10)) (fun _ _ _ _ _ => pe_int))
      (pss_cons (ps_set (i := 6) sc_ring_beyond.nd rfl (Or.inl rfl) pe_dnewK)
      (pss_cons (ps_set (i := 7) sc_ring_beyond.nd rfl (Or.inl rfl) pe_non)
      (pss_cons (ps_for PassesOwn.never rfl (pi_range1 (by rfl) T.n_range (pa_cons (pe_callB call_len (by rfl) T.n_len PySem.boot_len (pa_cons (pv 2) pa_nil)) pa_nil)) (pg_name (i := 8) sc_ring_beyond.nd rfl (Or.inl rfl)) (pss_cons (ps_set (i := 7) sc_ring_beyond.nd rfl (Or.inl rfl) pe_non)
      (pss_one (ps_for PassesOwn.never rfl (pi_list (pv 4)) (pg_name (i := 9) sc_ring_beyond.nd rfl (Or.inl rfl)) (pss_cons (ps_asg (pe_slice sl_tupA (pe_call G_step_at.ok hr_step_at rfl G_step_at.mg G_step_at.kp G_step_at.b .nil passL (pa_cons (pv 0) (pa_cons (pv 9) pa_nil))) po_none (po_some pe_int)) (pg_tup rfl (pgs_cons (pg_name (i := 12) sc_ring_beyond.nd rfl (Or.inl rfl)) (pgs_cons (pg_name (i := 13) sc_ring_beyond.nd rfl (Or.inl rfl)) pgs_nil))))
      (pss_cons (ps_set (i := 11) sc_ring_beyond.nd rfl (Or.inl rfl) (pe_op op_add (pe_dget hu (pv 5) (pv 12) (fun _ _ => rfl)) (pe_op op_mulW (pv 3) (pe_call G_lift_of.ok hr_lift_of rfl G_lift_of.mg G_lift_of.kp G_lift_of.b .nil passL (pa_cons (pv 0) (pa_cons (pv 1) (pa_cons (pv 9) pa_nil)))))))
      (pss_one (ps_if (pt_cmpR op_lt (pv 11) (pe_dget hu (pv 5) (pv 13) (fun _ _ => rfl)) (nomark _)) (pss_cons (ps_dput hu (pv 5) (pv 13) (pv 11) rfl)
      (pss_cons (ps_dput hu (pv 6) (pv 13) (pv 9) rfl)
      (pss_one (ps_set (i := 7) sc_ring_beyond.nd rfl (Or.inl rfl) (pv 13))))) pss_nil))))))))
      (pss_cons (ps_if (pt_cmpR op_isN (pv 7) pe_non (nomark _)) (pss_one (ps_ret pe_non)) pss_nil)
      (pss_cons (ps_for PassesOwn.never rfl (pi_range1 (by rfl) T.n_range (pa_cons (pe_callB call_len (by rfl) T.n_len PySem.boot_len (pa_cons (pv 2) pa_nil)) pa_nil)) (pg_name (i := 8) sc_ring_beyond.nd rfl (Or.inl rfl)) (pss_one (ps_set (i := 7) sc_ring_beyond.nd rfl (Or.inl rfl) (pe_ix ix_tup (pe_call G_step_at.ok hr_step_at rfl G_step_at.mg G_step_at.kp G_step_at.b .nil passL (pa_cons (pv 0) (pa_cons (pe_dget hu (pv 6) (pv 7) (fun _ _ => rfl)) pa_nil))) pe_int (fun _ _ => rfl)))))
      (pss_one (ps_ret (pe_call G_led_round.ok hr_led_round rfl G_led_round.mg G_led_round.kp G_led_round.b .nil passL (pa_cons (pv 0) (pa_cons (pv 6) (pa_cons (pv 7) pa_nil))))))))))))), ?_⟩
    obtain ⟨m, p, t, sg, n, a, b, es, ks, k0, G, P0, rfl, j, hm, hB, nb, hS, hsg, ht, hK, hn, q0, q1⟩ := h
    have lk := nodup_fin (n := n) hn hK.2.1
    have lk0 : 1 ≤ ks.length := by
      have := (List.getElem?_eq_some_iff.mp hK.1).1
      omega
    walk_at "w"
    refine ⟨m, t, n, es, ks, G, P0, rfl, j, hm, hB.2.2.1, ht, fun l G1 H1 nl e1 j1 hl => ?_⟩
    walk_at "w"
    refine aDcT.goC j1 (e1 _ _ ht) hn (by omega) (fun x => rfl) (fun x H' S h => by walk_at "w"; exact h) (fun x H' S h => by walk_at "w"; exact h) fun d1 P2 H2 nd1 e2 j2 hd1 => ?_
    walk_at "w"
    refine aDNew.goP j2 fun d2 P3 H3 nd2 e3 j3 hd2 => ?_
    have nd10 : P0 d1 = none := j1.np nd1
    have nd20 : P2 d2 = none := j2.np nd2
    have hdd : d1 ≠ d2 := fun e => by subst e; rw [hd1] at nd20; cases nd20
    have nd200 : P0 d2 = none := by
      cases e : P0 d2 with
      | none => rfl
      | some o => rw [e2 _ _ e] at nd20; cases nd20
    have hd13 := e3 _ _ hd1
    obtain ⟨f, hf⟩ : ∃ f : Nat → Int, f = fun k => sg * liftAt a b es k := ⟨_, rfl⟩
    walk_at "w"
    refine w_rlenT (j3.g _ _ (e1 _ _ ht)) ?_
    rw [List.length_map]
    walk_at "w"
    refine aForR.go (n := ks.length) rfl (by omega) (fun i G' P' σ' => Ex G1 G' ∧ Ex P0 P' ∧ ∃ (kvL kvC : List (L2.Key × V)) (L : Int → Int) (C : Int → Option Nat) (T : Int → Nat) (tv s8 s9 s10 s11 s12 s13 : Option V), P' d1 = some (.dK kvL) ∧ P' d2 = some (.dK kvC) ∧ LsIs kvL ks L ∧ KIn kvC ks ∧ CmIs kvC ks C ∧ Rnd es ks f (innE es ks) i (innE es ks).length L C T ∧ (i = 0 ∨ TnIs tv ks T i) ∧ σ' = [some (.ref m), some (.ref p), some (.ref t), some (.int sg), some (.ref l), some (.ref d1), some (.ref d2), tv, s8, s9, s10, s11, s12, s13]) j3 ⟨Ex.refl _, e2.trans e3, _, _, _, _, _, _, _, _, _, _, _, _, hd13, hd2, ls_zero hn, KIn.nil, ⟨Nat.zero_le _, fun v => rfl⟩, rnd_zero, .inl rfl, rfl⟩ ?_ ?_
    · clear hd1 hd2 hd13 e2 e3 j2 j3
      rintro i G2 P4 H4 σ' hi j4 ⟨eG, eP, kvL, kvC, L, C, T, tv, s8, s9, s10, s11, s12, s13, hdL, hdC, hL, hCi, hC, hR, _, rfl⟩
      walk_at "w"
      have hR0 := rnd_next hR
      have tr0 := hR.tr
      refine aForL.go (fun jj G' P' σ' => Ex G1 G' ∧ Ex P0 P' ∧ ∃ (kvL kvC : List (L2.Key × V)) (L : Int → Int) (C : Int → Option Nat) (T : Int → Nat) (tv s9 s10 s11 s12 s13 : Option V), P' d1 = some (.dK kvL) ∧ P' d2 = some (.dK kvC) ∧ LsIs kvL ks L ∧ KIn kvC ks ∧ CmIs kvC ks C ∧ Rnd es ks f (innE es ks) (i + 1) jj L C T ∧ TnIs tv ks T (i + 1) ∧ σ' = [some (.ref m), some (.ref p), some (.ref t), some (.int sg), some (.ref l), some (.ref d1), some (.ref d2), tv, some (.int (i : Nat)), s9, s10, s11, s12, s13]) j4 (eG _ _ hl) ⟨eG, eP, kvL, kvC, L, C, T, _, _, _, _, _, _, hdL, hdC, hL, hCi, hC, hR0, .inl ⟨rfl, fun v => Nat.lt_succ_of_le (tr0 v)⟩, rfl⟩ (fun i G' P' σ' h => h.1 _ _ hl) ?_ ?_
      rotate_left
      · rintro G3 P5 H5 σ' j5 ⟨eG, eP, kvL, kvC, L, C, T, tv, s9, s10, s11, s12, s13, hdL, hdC, hL, hCi, hC, hR, hT, rfl⟩
        have el : (rV (innE es ks)).length = (innE es ks).length := by unfold rV; rw [List.length_map]
        rw [el] at hR
        exact ⟨_, _, j5, eG, eP, kvL, kvC, L, C, T, tv, _, _, _, _, _, _, hdL, hdC, hL, hCi, hC, hR, .inr hT, rfl⟩
      clear hdL hdC hL hCi hC hR hR0 tr0 eP eG j4
      rintro jj z G3 P5 H5 σ' hz j5 ⟨eG, eP, kvL, kvC, L, C, T, tv, s9, s10, s11, s12, s13, hdL, hdC, hL, hCi, hC, hR, hT, rfl⟩
      obtain ⟨k, hk, rfl⟩ := rV_at hz
      obtain ⟨e, he, hbe, hae⟩ := innE_mem.mp (List.mem_of_getElem? hk)
      have be := hB.2.2.2 e (List.mem_of_getElem? he)
      walk_at "w"
      refine ⟨m, k, n, es, e, rfl, (hm.mono (e1.trans eG)).mono j5.exG, he, fun te hte => ?_⟩
      walk_at "w"
      refine slA_takeH (m := 2) j5 hte fun t2 G6 H6 e6 j6 ht2 => ?_
      replace ht2 : H6 t2 = some (.tup [.int e.b, .int e.a]) := ht2
      have eG6 := eG.trans e6
      have hml : (sg * liftE a b e) = f k := by rw [hf]; show _ = sg * liftAt a b es k; unfold liftAt; rw [he]; rfl
      have hlb := lift_b hS.2.2.2.1 hS.2.2.2.2 be.2.2.2.2.1 be.2.2.2.2.2.1 be.2.2.2.2.2.2.1 be.2.2.2.2.2.2.2
      walk_at "w"
      refine dget_kv (k := .inl e.b) rfl (.inl (j6.p _ _ hdL)) (hL.2 _ hbe) ?_
      walk_at "w"
      refine ⟨m, p, k, n, a, b, es, e, rfl, (hm.mono (e1.trans eG6)).mono j6.exG, (hS.mono (e1.trans eG6)).mono j6.exG, hB, he, ?_⟩
      walk_at "w"
      refine w_rI (mulW (by rcases hsg with h | h <;> rw [h] <;> exact Nat.one_lt_two_pow (by decide)) hlb) ?_
      rw [hml]
      walk_at "w"
      refine dget_kv (k := .inl e.a) rfl (.inl (j6.p _ _ hdL)) (hL.2 _ hae) ?_
      walk_at "w"
      by_cases c : L e.b + f k < L e.a
      rotate_left
      · refine itF c ?_
        walk_at "w"
        exact ⟨_, _, j6, eG6, eP, kvL, kvC, L, C, T, tv, _, _, _, _, _, hdL, hdC, hL, hCi, hC, rnd_tight hR hk he (by omega), hT, rfl⟩
      refine itT c ?_
      walk_at "w"
      refine dputP (k := .inl e.a) j6 rfl hdL (by have := hL.1.len; omega) fun H7 j7 => ?_
      walk_at "w"
      refine dputP (k := .inl e.a) (kvs := kvC) j7 rfl (Eq.trans (upd_ne (Ne.symm hdd)) hdC) (by have := hCi.len; omega) fun H8 j8 => ?_
      walk_at "w"
      refine ⟨_, _, j8, eG6, (eP.mut nd10).mut nd200, _, _, upI L e.a (L e.b + f k), upC C e.a k, upT T e.a (i + 1), _, _, _, _, _, _, Eq.trans (upd_ne hdd) upd_same, upd_same, ls_put hL hae, hCi.put hae, cm_put hC ?_, rnd_relax hR hk he hbe hae c, .inr ⟨e.a, hae, rfl, ?_⟩, rfl⟩
      · have := (hCi.put (y := .int (k : Nat)) hae).len
        omega
      · unfold upT; rw [if_pos rfl]
    · clear hd1 hd2 hd13 e2 e3 j2 j3
      rintro G2 P4 H4 σ' j4 ⟨eG, eP, kvL, kvC, L, C, T, tv, s8, s9, s10, s11, s12, s13, hdL, hdC, hL, hCi, hC, hR, hT, rfl⟩
      rcases hT with h | hT
      · omega
      have sF : ∀ rs, sumF f rs = sg * valOf a b es rs := fun rs => hf ▸ sumF_sg rs
      rcases hT with ⟨rfl, hlt⟩ | ⟨v, hv, rfl, hTv⟩
      · walk_at "w"
        obtain ⟨G5, j5, e5, k5⟩ := j4.back eP
        refine q0 G5 _ (fun s hs rs hp => ?_) (e1.trans (eG.trans e5)) j5
        obtain ⟨r, hr⟩ : ∃ r, ks.length = r + 1 := ⟨ks.length - 1, by omega⟩
        rw [hr] at hR hlt
        have := rnd_none hR hlt (fun k e h1 h2 h3 => List.getElem?_of_mem (innE_mem.mpr ⟨e, h1, h2, h3⟩)) hs hp
        rw [sF] at this
        omega
      walk_at "w"
      refine itF (fun h => (nomatch h)) ?_
      walk_at "w"
      refine w_rlenT (j4.g _ _ ((e1.trans eG) _ _ ht)) ?_
      rw [List.length_map]
      walk_at "w"
      refine aForR.go (n := ks.length) rfl (by omega) (fun i G' P' σ' => Ex G2 G' ∧ P' = P4 ∧ ∃ (s8 s9 s10 s11 s12 s13 : Option V), σ' = [some (.ref m), some (.ref p), some (.ref t), some (.int sg), some (.ref l), some (.ref d1), some (.ref d2), some (.int (itN (bkC es C) i v)), s8, s9, s10, s11, s12, s13]) j4 ⟨Ex.refl _, rfl, s8, s9, s10, s11, s12, s13, rfl⟩ ?_ ?_
      · rintro i G3 P5 H5 σ' hi j5 ⟨eG3, rfl, s8, s9, s10, s11, s12, s13, rfl⟩
        obtain ⟨k, hk, _⟩ := rnd_back hR (v := v) i (by omega)
        obtain ⟨e, he, ea, eb, _⟩ := bk_some hR.b hk
        walk_at "w"
        refine dget_kv (k := .inl (itN (bkC es C) i v)) (v := .int (k : Nat)) rfl (.inl (j5.p _ _ hdC)) (by rw [hC.2, hk]; rfl) ?_
        walk_at "w"
        refine ⟨m, k, n, es, e, rfl, (hm.mono (e1.trans (eG.trans eG3))).mono j5.exG, he, fun te hte => ?_⟩
        walk_at "w"
        rw [show itN (bkC es C) (i + 1) v = e.b from eb]
        exact ⟨_, _, j5, eG3, rfl, some (.int (i : Nat)), s9, s10, s11, s12, s13, rfl⟩
      · rintro G3 P5 H5 σ' j5 ⟨eG3, rfl, s8, s9, s10, s11, s12, s13, rfl⟩
        obtain ⟨dd, g1, g2, g3, g4⟩ := rnd_round hR rfl hv (by omega) lk0
        walk_at "w"
        refine ⟨m, d2, _, n, es, ks, kvC, f, L, C, dd, G3, P5, rfl, j5, hm.mono (e1.trans (eG.trans eG3)), .inr (.inl hdC), hC, hR.b, g1, by omega, g3, g4, fun rs tr G6 H6 hpb h0 hlen e6 j6 htr => ?_⟩
        obtain ⟨G7, j7, e7, k7⟩ := j6.back eP
        have hp := pb_pth hR.b hpb
        have hin : itN (bkC es C) ks.length v ∈ ks := by
          obtain ⟨k, hk⟩ := g4 0
          obtain ⟨e, he, h2, h3, h4, _⟩ := hR.b.p _ k hk
          rw [show itN (bkC es C) 0 (itN (bkC es C) ks.length v) = itN (bkC es C) ks.length v from rfl] at h2
          exact h2 ▸ h4
        refine q1 _ rs tr G7 _ hin h0 hp (by omega) ?_ (e1.trans (eG.trans (eG3.trans (e6.trans e7)))) j7 (e7 _ _ htr)
        rw [← sF]
        exact hR.b.n _ _ h0 hpb
end X

namespace X
open PySem PySem.Spec PyProof.Rows L2 Lv
variable {P : Program} {w : World} {K : PySem.W.Frag} {mg : Str → Option Value} {base : Heap}
/-- a row round -/
def RngP (es : List Ev) (ks : List Int) (rs : List Nat) : Prop := rs ≠ [] ∧ rs.length ≤ 63 ∧ ∃ s ∈ ks, Pth es ks s s rs
/-- the first events from each -/
def FsIs (kvs : List (L2.Key × V)) (es : List Ev) (ks : List Int) (i : Nat) : Prop := KIn kvs ks ∧ (∀ v y, valV kvs (.inl v) = some y → ∃ (k : Nat) (e : Ev), y = .int k ∧ es[k]? = some e ∧ e.b = v ∧ e.a ∈ ks) ∧ ∀ (j k : Nat) (e : Ev), j < i → (innE es ks)[j]? = some k → es[k]? = some e → ∃ y, valV kvs (.inl e.b) = some y
theorem fs_out {n k0 : Int} {es : List Ev} {ks : List Int} (hK : KsOk n es ks k0) (h0 : innE es ks ≠ []) {v : Int} (hv : v ∈ ks) : ∃ (j k : Nat) (e : Ev), (innE es ks)[j]? = some k ∧ es[k]? = some e ∧ e.b = v := by
  obtain ⟨k1, r, hr⟩ := List.exists_cons_of_ne_nil h0
  obtain ⟨e1, he1, hb1, ha1⟩ := innE_mem.mp (show k1 ∈ innE es ks by rw [hr]; exact List.mem_cons_self)
  have key : ∃ (k : Nat) (e : Ev), es[k]? = some e ∧ e.b = v ∧ e.a ∈ ks := by
    by_cases c : v = e1.b
    · exact ⟨k1, e1, he1, c.symm, ha1⟩
    · obtain ⟨w, x, hw⟩ := hK.2.2 v hv e1.b hb1
      obtain ⟨rs, h1, _, _⟩ := way_pth hw
      cases rs with
      | nil => exact absurd h1 c
      | cons k rs =>
        obtain ⟨e, a1, a2, a3, _⟩ := h1
        exact ⟨k, e, a1, a2, a3⟩
  obtain ⟨k, e, a1, a2, a3⟩ := key
  obtain ⟨j, hj⟩ := List.getElem?_of_mem (innE_mem.mpr ⟨e, a1, a2 ▸ hv, a3⟩)
  exact ⟨j, k, e, hj, a1, a2⟩
def spSome (K : PySem.W.Frag) : Sp := fun vs H Q _ => ∃ (m t : Addr) (n : Int) (es : List Ev) (ks : List Int) (k0 : Int) (G P : Hp), vs = [.ref m, .ref t] ∧ Join G P H ∧ MachK K G m n es ∧ EvB n es ∧ n ≤ 63 ∧ G t = some (.tup (ks.map V.int)) ∧ KsOk n es ks k0 ∧ ks.Nodup ∧
  (∀ G' H', (∀ s ∈ ks, ∀ rs, Pth es ks s s rs → rs = []) → Ex G G' → Join G' P H' → Q .non H') ∧
  (∀ rs t' G' H', RngP es ks rs → Ex G G' → Join G' P H' → G' t' = some (.tup (rV rs)) → Q (.ref t') H')
def seenK (F : List Int) : List (L2.Key × V) := kvZ F ((List.range F.length).map fun i => V.int (i : Nat))
theorem seen_more {F : List Int} {v : Int} (h : v ∉ F) : putK (seenK F) (.inl v) (.int (F.length : Nat)) = seenK (F ++ [v]) := by
  unfold seenK
  rw [kvZ_put (by rw [List.length_map, List.length_range]) h, List.length_append, List.length_singleton, List.range_succ, List.map_append]
  rfl
theorem seen_len (F : List Int) : (seenK F).length = F.length := kvZ_len (by rw [List.length_map, List.length_range])
theorem seen_in {F : List Int} (hn : F.Nodup) (v : Int) : (valV (seenK F) (.inl v)).isSome = decide (v ∈ F) := kvZ_some hn (by rw [List.length_map, List.length_range])
theorem seen_at {F : List Int} (hn : F.Nodup) {i : Nat} {v : Int} (h : F[i]? = some v) : valV (seenK F) (.inl v) = some (.int (i : Nat)) := by
  refine valV_kvZ hn h ?_
  have := (List.getElem?_eq_some_iff.mp h).1
  rw [List.getElem?_map, List.getElem?_range this]; rfl
theorem sc_some_ring : FnScope ["machine", "knot", "inner", "first", "event", "way", "seen", "standing"] ["machine", "knot"] (defScope s_some_ring) := ⟨rfl, rfl, rfl, by decide +kernel, rfl, by decide +kernel, by decide +kernel⟩
theorem ok_some_ring (T : Txt K mg) {fd_inner_events : FuncData} (G_inner_events : Dn P w K mg base (L2.CX P w) 1 "inner_events" ["machine", "knot"] (spInner K) fd_inner_events) {fd_step_at : FuncData} (G_step_at : Dn P w K mg base (L2.CX P w) 1 "step_at" ["machine", "event"] (sp_step_at K) fd_step_at) : ∃ fd, Dn P w K mg base (L2.CX P w) 2 "some_ring" ["machine", "knot"] (spSome K) fd := by
  obtain ⟨fd, F⟩ := T.d_some_ring
  refine ⟨fd, F.ok sc_some_ring (fun vs H Q E h => ?_) (fun cdv A outer s H vs Q E hr h => ?_), T.g_some_ring, F.kp, F.bindsN fun _ _ _ _ _ _ us hl => match us, hl with | [_, _], _ => rfl, Lv.fun_lk F⟩
  · obtain ⟨_, _, _, _, _, _, _, _, rfl, _⟩ := h
    rfl
  · have hu := hu_of hr
    have hr_inner_events : Room 1 _ := hr.mono (by decide)
    have hr_step_at : Room 1 _ := hr.mono (by decide)
    refine ⟨_, PSs.nox (pss_cons (ps_set (i := 2) sc_some_ring.nd rfl (Or.inl rfl) (pe_call G_inner_events.ok hr_inner_events rfl G_inner_events.mg G_inner_events.kp G_inner_events.b .nil passL (pa_cons (pv 0) (pa_cons (pv 1) pa_nil))))
      (pss_cons (ps_if (pt_cmpR op_eq (pe_callB call_len_seq (by rfl) T.n_len PySem.boot_len (pa_cons (pv 2) pa_nil)) pe_int (nomark _)) (pss_one (ps_ret pe_non)) pss_nil)
      (pss_cons (ps_set (i := 3) sc_some_ring.nd rfl (Or.inl rfl) pe_dnewK)
      (pss_cons (ps_for PassesOwn.never rfl (pi_list (pv 2)) (pg_name (i := 4) sc_some_ring.nd rfl (Or.inl rfl)) (pss_one (ps_expr (pe_dsetd (pv 3) (pe_ix ix_tup (pe_call G_step_at.ok hr_step_at rfl G_step_at.mg G_step_at.kp G_step_at.b .nil passL (pa_cons (pv 0) (pa_cons (pv 4) pa_nil))) pe_int (fun _ _ => rfl)) (pv 4) ⟨rfl, rfl, rfl, rfl⟩))))
      (pss_cons (ps_set (i := 5) sc_some_ring.nd rfl (Or.inl rfl) (pe_lst pa_nil))
      (pss_cons (ps_set (i := 6) sc_some_ring.nd rfl (Or.inl rfl) pe_dnewK)
      (pss_cons (ps_set (i := 7) sc_some_ring.nd rfl (Or.inl rfl) (pe_ix ix_tup (pv 1) pe_int (fun _ _ => rfl)))
      (pss_cons (ps_while PassesOwn.never (pt_cmp (pc_dnotin hu (pv 7) (pv 6))) (pss_cons (ps_dput hu (pv 6) (pv 7) (pe_callB call_len_seq (by rfl) T.n_len PySem.boot_len (pa_cons (pv 5) pa_nil)) rfl)
      (pss_cons (ps_expr (pe_bm PySem.F.plainAttrs_list PySem.F.slot_list_append PySem.F.type_list_append mt_append (pv 5) (pa_cons (pe_dget hu (pv 3) (pv 7) (fun _ _ => rfl)) pa_nil)))
      (pss_one (ps_set (i := 7) sc_some_ring.nd rfl (Or.inl rfl) (pe_ix ix_tup (pe_call G_step_at.ok hr_step_at rfl G_step_at.mg G_step_at.kp G_step_at.b .nil passL (pa_cons (pv 0) (pa_cons (pe_ix ix_list (pv 5) (pe_un un_neg pe_int) (fun _ _ => rfl)) pa_nil))) pe_int (fun _ _ => rfl)))))))
      (pss_one (ps_ret (pe_callTy call_tuple_of (by rfl) T.n_tuple (by decide +kernel) (pa_cons (pe_slice sl_list (pv 5) (po_some (pe_dget hu (pv 6) (pv 7) (fun _ _ => rfl))) po_none) pa_nil)))))))))))), ?_⟩
    obtain ⟨m, t, n, es, ks, k0, G, P0, rfl, j, hm, hB, nb, ht, hK, hn, q0, q1⟩ := h
    have lk := nodup_fin (n := n) hn hK.2.1
    walk_at "w"
    refine ⟨m, t, n, es, ks, G, P0, rfl, j, hm, hB.2.2.1, ht, fun l G1 H1 nl e1 j1 hl => ?_⟩
    have li : (innE es ks).length ≤ 10000 := by
      have := List.length_filter_le (innAt es ks) (List.range es.length)
      rw [List.length_range] at this
      have := hB.2.2.1
      unfold innE
      omega
    have el : (rV (innE es ks)).length = (innE es ks).length := by unfold rV; rw [List.length_map]
    walk_at "w"
    by_cases hI : innE es ks = []
    · rw [hI] at hl
      have hno : ∀ s ∈ ks, ∀ rs, Pth es ks s s rs → rs = [] := fun s hs rs hp => by
        cases rs with
        | nil => rfl
        | cons k r =>
          obtain ⟨e, a1, a2, a3, _⟩ := hp
          have := innE_mem.mpr ⟨e, a1, a2 ▸ hs, a3⟩
          rw [hI] at this
          cases this
      walk_at "w"
      refine itT (by rw [el, hI]; rfl) ?_
      walk_at "w"
      exact q0 G1 H1 hno e1 j1
    walk_at "w"
    rw [el]
    refine itF (fun h => hI (List.length_eq_zero_iff.mp (by have := V.int.inj h; omega))) ?_
    walk_at "w"
    refine aDNew.goP j1 fun d1 P2 H2 nd1 e2 j2 hd1 => ?_
    have nd10 : P0 d1 = none := j1.np nd1
    walk_at "w"
    refine aForL.go (fun i G' P' σ' => Ex G1 G' ∧ Ex P0 P' ∧ ∃ (kvF : List (L2.Key × V)) (s4 s5 s6 s7 : Option V), P' d1 = some (.dK kvF) ∧ FsIs kvF es ks i ∧ σ' = [some (.ref m), some (.ref t), some (.ref l), some (.ref d1), s4, s5, s6, s7]) j2 hl ⟨Ex.refl _, e2, [], _, _, _, _, hd1, ⟨KIn.nil, fun v y h => (nomatch h), fun j k e h => by omega⟩, rfl⟩ (fun i G' P' σ' h => h.1 _ _ hl) ?_ ?_
    · clear hd1 e2 j2
      rintro i z G2 P3 H3 σ' hz j3 ⟨eG, eP, kvF, s4, s5, s6, s7, hdF, hF, rfl⟩
      obtain ⟨k, hk, rfl⟩ := rV_at hz
      obtain ⟨e, he, hbe, hae⟩ := innE_mem.mp (List.mem_of_getElem? hk)
      walk_at "w"
      refine dsetdP j3 hdF ?_
      walk_at "w"
      refine ⟨m, k, n, es, e, rfl, (hm.mono (e1.trans eG)).mono j3.exG, he, fun te hte => ?_⟩
      walk_at "w"
      refine rdsetdP (k := .inl e.b) rfl j3 hdF (by have := hF.1.len; omega) (fun v hv => ?_) fun hno H4 j4 => ?_
      · walk_at "w"
        refine ⟨_, _, j3, eG, eP, kvF, _, _, _, _, hdF, ⟨hF.1, hF.2.1, fun j0 k0 e0 hj h1 h2 => ?_⟩, rfl⟩
        by_cases c : j0 = i
        · subst c
          rw [hk] at h1
          cases h1
          rw [he] at h2
          cases h2
          exact ⟨_, hv⟩
        · exact hF.2.2 j0 k0 e0 (by omega) h1 h2
      · walk_at "w"
        refine ⟨_, _, j4, eG, eP.mut nd10, _, _, _, _, _, upd_same, ⟨hF.1.put hbe, fun v y hv => ?_, fun j0 k0 e0 hj h1 h2 => ?_⟩, rfl⟩
        · rw [valV_put] at hv
          by_cases c : v = e.b
          · rw [c, if_pos rfl] at hv
            cases hv
            exact ⟨k, e, rfl, he, c.symm, hae⟩
          · rw [if_neg (fun h => c (Sum.inl.inj h))] at hv
            exact hF.2.1 v y hv
        · rw [valV_put]
          by_cases c : e0.b = e.b
          · rw [c, if_pos rfl]; exact ⟨_, rfl⟩
          · rw [if_neg (fun h => c (Sum.inl.inj h))]
            refine hF.2.2 j0 k0 e0 ?_ h1 h2
            by_cases c2 : j0 = i
            · subst c2
              rw [hk] at h1
              cases h1
              rw [he] at h2
              cases h2
              exact absurd rfl c
            · omega
    clear hd1 e2 j2
    rintro G2 P3 H3 σ' j3 ⟨eG, eP, kvF, s4, s5, s6, s7, hdF, hF, rfl⟩
    rw [el] at hF
    have fst : ∀ v ∈ ks, ∃ (k : Nat) (e : Ev), valV kvF (.inl v) = some (.int (k : Nat)) ∧ es[k]? = some e ∧ e.b = v ∧ e.a ∈ ks := fun v hv => by
      obtain ⟨jj, k, e, h1, h2, h3⟩ := fs_out hK hI hv
      obtain ⟨y, hy⟩ := hF.2.2 jj k e (List.getElem?_eq_some_iff.mp h1).1 h1 h2
      rw [h3] at hy
      obtain ⟨k', e', rfl, a1, a2, a3⟩ := hF.2.1 v y hy
      exact ⟨k', e', hy, a1, a2, a3⟩
    walk_at "w"
    refine aLst.goP j3 (by show 0 ≤ 100000; decide) fun b P4 H4 nb4 e4 j4 hb => ?_
    have nb3 := j3.np nb4
    walk_at "w"
    refine aDNew.goP j4 fun d3 P5 H5 nd3 e5 j5 hd3 => ?_
    have nd34 := j4.np nd3
    have nb0 : P0 b = none := by
      cases e : P0 b with
      | none => rfl
      | some o => rw [eP _ _ e] at nb3; cases nb3
    have nd30 : P0 d3 = none := by
      cases e : P0 d3 with
      | none => rfl
      | some o => rw [e4 _ _ (eP _ _ e)] at nd34; cases nd34
    have hbd3 : b ≠ d3 := fun e => by subst e; rw [hb] at nd34; cases nd34
    have hd1b : d1 ≠ b := fun e => by subst e; rw [hdF] at nb3; cases nb3
    have hd1d3 : d1 ≠ d3 := fun e => by subst e; rw [e4 _ _ hdF] at nd34; cases nd34
    have hd15 := e5 _ _ (e4 _ _ hdF)
    have hb5 := e5 _ _ hb
    have k0m := List.mem_of_getElem? hK.1
    walk_at "w"
    have hk00 : (ks.map V.int)[0]? = some (.int k0) := by rw [List.getElem?_map, hK.1]; rfl
    refine w_ixT (j5.g _ _ ((e1.trans eG) _ _ ht)) (atI_nat hk00) ?_
    walk_at "w"
    refine while_go (fun m' G' P' σ' => Ex G2 G' ∧ Ex P0 P' ∧ ∃ (F : List Int) (rs : List Nat) (s : Int), F.Nodup ∧ (∀ x ∈ F, x ∈ ks) ∧ rs.length = F.length ∧ s ∈ ks ∧ P' d1 = some (.dK kvF) ∧ P' b = some (.lst (rV rs)) ∧ P' d3 = some (.dK (seenK F)) ∧ (∀ (i : Nat) (v : Int), F[i]? = some v → Pth es ks v s (rs.drop i)) ∧ m' = ks.length - F.length ∧ σ' = [some (.ref m), some (.ref t), some (.ref l), some (.ref d1), s4, some (.ref b), some (.ref d3), some (.int s)]) j5 _ ⟨Ex.refl _, eP.trans (e4.trans e5), [], [], k0, List.nodup_nil, fun x h => (nomatch h), rfl, k0m, hd15, hb5, hd3, fun i v h => (nomatch h), rfl, rfl⟩ ?_
    clear hd15 hb5 hd3 j5 e5 hb e4 j4 hdF j3 eP
    rintro m' G3 P6 H6 σ' j6 ⟨eG3, eP, F, rs, s, hFn, hFk, hlen, hs, hd1, hb, hd3, hpt, rfl, rfl⟩
    have lF := sub_len hFn hFk
    walk_at "w"
    refine din_kv (k := .inl s) rfl (.inl (j6.p _ _ hd3)) ?_
    rw [seen_in hFn, if_pos rfl]
    by_cases c : s ∈ F
    · rw [decide_eq_true c]
      obtain ⟨i, hi⟩ := List.getElem?_of_mem c
      have il := (List.getElem?_eq_some_iff.mp hi).1
      walk_at "w"
      refine dget_kv (k := .inl s) rfl (.inl (j6.p _ _ hd3)) (seen_at hFn hi) ?_
      walk_at "w"
      obtain ⟨G7, j7, e7, k7⟩ := j6.back eP
      refine slL_drop j7 (k7 _ _ hb nb0) fun l3 G8 H8 e8 j8 nl3 hl3 => ?_
      walk_at "w"
      rw [show (rV rs).drop i = rV (rs.drop i) by unfold rV; rw [List.map_drop]] at hl3
      refine tupOf_go j8 hl3 fun t9 G9 H9 nt9 e9 j9 ht9 => ?_
      refine q1 (rs.drop i) t9 G9 H9 ⟨fun h => ?_, ?_, s, hs, hpt i s hi⟩ ((e1.trans eG).trans (eG3.trans (e7.trans (e8.trans e9)))) j9 ht9
      · have := congrArg List.length h
        rw [List.length_drop] at this
        simp at this
        omega
      · rw [List.length_drop]; omega
    rw [decide_eq_false c]
    have hF2n : (F ++ [s]).Nodup := List.nodup_append.mpr ⟨hFn, List.nodup_cons.mpr ⟨fun h => (nomatch h), List.nodup_nil⟩, fun a h1 b h2 q => by
      rw [List.mem_singleton.mp h2] at q
      exact c (q ▸ h1)⟩
    have hF2k : ∀ x ∈ F ++ [s], x ∈ ks := fun x hx => by
      rcases List.mem_append.mp hx with hx | hx
      · exact hFk x hx
      · rw [List.mem_singleton.mp hx]; exact hs
    have lF2 := sub_len hF2n hF2k
    rw [List.length_append, List.length_singleton] at lF2
    have lrv : (rV rs).length = F.length := by unfold rV; rw [List.length_map, hlen]
    obtain ⟨k, e, hv, he, heb, hea⟩ := fst s hs
    walk_at "w"
    rw [lrv]
    refine dputP (k := .inl s) j6 rfl hd3 (by rw [seen_len]; omega) fun H7 j7 => ?_
    rw [seen_more c] at j7
    have hd17 : upd P6 d3 (.dK (seenK (F ++ [s]))) d1 = some (.dK kvF) := Eq.trans (upd_ne hd1d3) hd1
    have hb7 : upd P6 d3 (.dK (seenK (F ++ [s]))) b = some (.lst (rV rs)) := Eq.trans (upd_ne hbd3) hb
    have hd37 : upd P6 d3 (.dK (seenK (F ++ [s]))) d3 = some (.dK (seenK (F ++ [s]))) := upd_same
    have eP7 : Ex P0 (upd P6 d3 (.dK (seenK (F ++ [s])))) := eP.mut nd30
    generalize upd P6 d3 (.dK (seenK (F ++ [s]))) = P7 at j7 hd17 hb7 hd37 eP7
    walk_at "w"
    refine dget_kv (k := .inl s) rfl (.inl (j7.p _ _ hd17)) hv ?_
    walk_at "w"
    refine appendP j7 hb7 (by rw [lrv]; omega) fun H8 j8 => ?_
    have hd18 : upd P7 b (.lst (rV rs ++ [.int (k : Nat)])) d1 = some (.dK kvF) := Eq.trans (upd_ne hd1b) hd17
    have hb8 : upd P7 b (.lst (rV rs ++ [.int (k : Nat)])) b = some (.lst (rV rs ++ [.int (k : Nat)])) := upd_same
    have hd38 : upd P7 b (.lst (rV rs ++ [.int (k : Nat)])) d3 = some (.dK (seenK (F ++ [s]))) := Eq.trans (upd_ne (Ne.symm hbd3)) hd37
    have eP8 : Ex P0 (upd P7 b (.lst (rV rs ++ [.int (k : Nat)]))) := eP7.mut nb0
    generalize upd P7 b (.lst (rV rs ++ [.int (k : Nat)])) = P8 at j8 hd18 hb8 hd38 eP8
    walk_at "w"
    refine w_ixL (j8.p _ _ hb8) (atI_end1 (n := F.length) (v := .int k) (by rw [List.length_append, lrv]; rfl) (by rw [List.getElem?_append_right (by omega), lrv, Nat.sub_self]; rfl)) ?_
    walk_at "w"
    refine ⟨m, k, n, es, e, rfl, (hm.mono (e1.trans (eG.trans eG3))).mono j8.exG, he, fun te hte => ?_⟩
    walk_at "w"
    refine ⟨_, _, _, ?_, j8, eG3, eP8, F ++ [s], rs ++ [k], e.a, hF2n, hF2k, by rw [List.length_append, List.length_append, hlen]; rfl, hea, hd18, by rw [rV_app]; exact hb8, hd38, fun i v hi => ?_, rfl, rfl⟩
    · rw [List.length_append, List.length_singleton]; omega
    by_cases ci : i < F.length
    · rw [List.getElem?_append_left ci] at hi
      rw [List.drop_append_of_le_length (by omega)]
      exact pth_app.mpr ⟨s, hpt i v hi, e, he, heb, hea, rfl⟩
    · have il := (List.getElem?_eq_some_iff.mp hi).1
      rw [List.length_append, List.length_singleton] at il
      have ei : i = F.length := by omega
      subst ei
      rw [List.getElem?_append_right (Nat.le_refl _), Nat.sub_self] at hi
      have ev : s = v := by simpa using hi
      subst ev
      rw [← hlen, List.drop_left]
      exact ⟨e, he, heb, hea, rfl⟩
end X

namespace X
open PySem PySem.Spec PyProof.Rows L2 Lv
variable {P : Program} {w : World} {K : PySem.W.Frag} {mg : Str → Option Value} {base : Heap}
theorem mu_core {x2 w2 x3 w3 B : Int} (h2 : 1 ≤ w2) (h3 : 1 ≤ w3) (b2 : w2 ≤ B) (b3 : w3 ≤ B) (h : w2 * x3 < x2 * w3) : x3 * (B * B) / w3 + 1 ≤ x2 * (B * B) / w2 := by
  have q3 : x3 * (B * B) / w3 * w3 ≤ x3 * (B * B) := Int.ediv_mul_le _ (by omega)
  refine (Int.le_ediv_iff_mul_le (by omega)).mpr ?_
  generalize x3 * (B * B) / w3 = q at *
  have hbb : w2 * w3 ≤ B * B := Int.mul_le_mul b2 b3 (by omega) (by omega)
  refine Int.le_of_mul_le_mul_right (a := w3) ?_ (by omega)
  have e1 : (q + 1) * w2 * w3 = q * w3 * w2 + w2 * w3 := by rw [Int.add_mul, Int.add_mul, Int.one_mul, Int.mul_right_comm]
  have e2 : x2 * (B * B) * w3 = x2 * w3 * (B * B) := Int.mul_right_comm ..
  have e3 : q * w3 * w2 ≤ x3 * (B * B) * w2 := Int.mul_le_mul_of_nonneg_right q3 (by omega)
  have e4 : x3 * (B * B) * w2 = w2 * x3 * (B * B) := by rw [Int.mul_right_comm, Int.mul_comm x3]
  have e5 : (w2 * x3 + 1) * (B * B) ≤ x2 * w3 * (B * B) := Int.mul_le_mul_of_nonneg_right (by omega) (Int.mul_nonneg (by omega) (by omega))
  rw [Int.add_mul, Int.one_mul] at e5
  rw [e1, e2]
  rw [e4] at e3
  omega
theorem mu_low {x w B : Int} (h : 1 ≤ w) (hx : -B ≤ x) (hB : 0 ≤ B) : 0 ≤ x * (B * B) / w + B * (B * B) := by
  have : -(B * (B * B)) ≤ x * (B * B) / w := by
    refine (Int.le_ediv_iff_mul_le (by omega)).mpr ?_
    have e1 : -B * (B * B) ≤ x * (B * B) := Int.mul_le_mul_of_nonneg_right hx (Int.mul_nonneg hB hB)
    have e2 : B * (B * B) * 1 ≤ B * (B * B) * w := Int.mul_le_mul_of_nonneg_left h (Int.mul_nonneg hB (Int.mul_nonneg hB hB))
    rw [Int.neg_mul] at e1 ⊢
    omega
  omega
theorem sgn_mul {g v sg : Int} (hg : 0 < g) : sg * (g * v) < 0 ↔ sg * v < 0 := by
  rw [Int.mul_left_comm]
  constructor
  · intro h
    by_cases c : sg * v < 0
    · exact c
    · have := Int.mul_nonneg (show 0 ≤ g by omega) (show 0 ≤ sg * v by omega)
      omega
  · intro h
    exact Int.mul_neg_of_pos_of_neg hg h
/-- the share of a row, as the walk tells it -/
def loX (es : List Ev) (rs : List Nat) : Int := sumX es rs / (Int.gcd (sumX es rs) (sumW es rs) : Nat)
def loW (es : List Ev) (rs : List Nat) : Int := sumW es rs / (Int.gcd (sumX es rs) (sumW es rs) : Nat)
def crE (es : List Ev) (rs rs' : List Nat) : Int := sumW es rs * sumX es rs' - sumX es rs * sumW es rs'
theorem cr_lo {es : List Ev} {rs : List Nat} (hw : 0 < sumW es rs) (sg : Int) (rs' : List Nat) : sg * valOf (loX es rs) (loW es rs) es rs' < 0 ↔ sg * crE es rs rs' < 0 := by
  have g0 : 0 < Int.gcd (sumX es rs) (sumW es rs) := Int.gcd_pos_of_ne_zero_right _ (by omega)
  have hx : ((Int.gcd (sumX es rs) (sumW es rs) : Nat) : Int) * loX es rs = sumX es rs := Int.mul_ediv_cancel' (Int.gcd_dvd_left ..)
  have hw2 : ((Int.gcd (sumX es rs) (sumW es rs) : Nat) : Int) * loW es rs = sumW es rs := Int.mul_ediv_cancel' (Int.gcd_dvd_right ..)
  rw [← sgn_mul (g := ((Int.gcd (sumX es rs) (sumW es rs) : Nat) : Int)) (by omega)]
  have e : ((Int.gcd (sumX es rs) (sumW es rs) : Nat) : Int) * valOf (loX es rs) (loW es rs) es rs' = crE es rs rs' := by
    unfold valOf crE
    rw [Int.mul_sub, ← Int.mul_assoc, ← Int.mul_assoc, hx, hw2]
  rw [e]
theorem ev_sums {n : Int} {es : List Ev} (hB : EvB n es) : ∀ {rs : List Nat}, (∀ k ∈ rs, ∃ e, es[k]? = some e) → (rs.length : Int) ≤ sumW es rs ∧ sumW es rs ≤ 1000000000000 * rs.length ∧ -(1000000000000 * rs.length) ≤ sumX es rs ∧ sumX es rs ≤ 1000000000000 * rs.length
  | [], _ => by simp [sumW, sumX]
  | k :: r, h => by
    obtain ⟨e, he⟩ := h k List.mem_cons_self
    have ih := ev_sums hB (rs := r) fun k' hk' => h k' (List.mem_cons_of_mem _ hk')
    have hb := hB.2.2.2 e (List.mem_of_getElem? he)
    have e1 := sW_app (es := es) [k] r
    have e2 := sX_app (es := es) [k] r
    rw [sW_one he] at e1
    rw [sX_one he] at e2
    rw [show k :: r = [k] ++ r from rfl, e1, e2, List.length_append, List.length_singleton]
    omega
def bigB : Int := 63000000000000
theorem rng_b {n : Int} {es : List Ev} {ks : List Int} {rs : List Nat} (hB : EvB n es) (h : RngP es ks rs) : 1 ≤ sumW es rs ∧ sumW es rs ≤ bigB ∧ -bigB ≤ sumX es rs ∧ sumX es rs ≤ bigB := by
  obtain ⟨h0, hl, s, hs, hp⟩ := h
  have := ev_sums hB (pth_ev hp)
  have h1 : 1 ≤ rs.length := by
    cases rs with
    | nil => exact absurd rfl h0
    | cons k r => exact Nat.le_add_left _ _
  unfold bigB
  omega
theorem rng_share {n : Int} {es : List Ev} {ks : List Int} {rs : List Nat} {G : Hp} {t : Addr} (hB : EvB n es) (h : RngP es ks rs) (ht : G t = some (.tup [.int (loX es rs), .int (loW es rs)])) : ShareAt G t (loX es rs) (loW es rs) := by
  have hb := rng_b hB h
  obtain ⟨q1, q2, q3, q4⟩ := low_facts (a := sumX es rs) (b := sumW es rs) (by omega)
  have hs : (63000000000000 : Nat) < 2 ^ 400 := by decide
  unfold bigB at hb
  exact ⟨ht, q1, q2, Nat.lt_of_le_of_lt q3 (Nat.lt_of_le_of_lt (by omega) hs), Nat.lt_of_le_of_lt q4 (Nat.lt_of_le_of_lt (by omega) hs)⟩
/-- how far down a row is -/
def mu (es : List Ev) (sg : Int) (rs : List Nat) : Nat := (sg * sumX es rs * (bigB * bigB) / sumW es rs + bigB * (bigB * bigB)).toNat
theorem mu_lt {n sg : Int} {es : List Ev} {ks : List Int} {rs rs' : List Nat} (hB : EvB n es) (hsg : sg = 1 ∨ sg = -1) (h : RngP es ks rs) (h' : RngP es ks rs') (hc : sg * crE es rs rs' < 0) : mu es sg rs' < mu es sg rs := by
  have b1 := rng_b hB h
  have b2 := rng_b hB h'
  have hc2 : sumW es rs * (sg * sumX es rs') < sg * sumX es rs * sumW es rs' := by
    unfold crE at hc
    rw [Int.mul_sub, Int.mul_left_comm, ← Int.mul_assoc sg (sumX es rs)] at hc
    omega
  have g1 := mu_core b1.1 b2.1 b1.2.1 b2.2.1 hc2
  have hx : -bigB ≤ sg * sumX es rs' := by
    rcases hsg with e | e
    · rw [e, Int.one_mul]; exact b2.2.2.1
    · rw [e, Int.neg_one_mul]; have := b2.2.2.2; omega
  have g2 := mu_low (x := sg * sumX es rs') b2.1 hx (by decide)
  unfold mu
  omega
/-- a row of the least share (sg 1), of the greatest (sg -1) -/
def EndR (es : List Ev) (ks : List Int) (sg : Int) (rs : List Nat) : Prop := RngP es ks rs ∧ ∀ s ∈ ks, ∀ rs', Pth es ks s s rs' → 0 ≤ sg * crE es rs rs'
def NoRing (es : List Ev) (ks : List Int) : Prop := ∀ s ∈ ks, ∀ rs, Pth es ks s s rs → rs = []
theorem endR_of {n sg : Int} {es : List Ev} {ks : List Int} {rs : List Nat} (hB : EvB n es) (h : RngP es ks rs) (hq : ∀ s ∈ ks, ∀ rs', Pth es ks s s rs' → 0 ≤ sg * valOf (loX es rs) (loW es rs) es rs') : EndR es ks sg rs := by
  refine ⟨h, fun s hs rs' hp => ?_⟩
  have := hq s hs rs' hp
  have hb := rng_b hB h
  have hc := (cr_lo (es := es) (rs := rs) (by omega) sg rs')
  by_cases c : sg * crE es rs rs' < 0
  · have := hc.mpr c; omega
  · omega
def spEndRing (K : PySem.W.Frag) : Sp := fun vs H Q _ => ∃ (m t : Addr) (sg n : Int) (es : List Ev) (ks : List Int) (k0 : Int) (G P : Hp), vs = [.ref m, .ref t, .int sg] ∧ Join G P H ∧ MachK K G m n es ∧ EvB n es ∧ n ≤ 63 ∧ (sg = 1 ∨ sg = -1) ∧ G t = some (.tup (ks.map V.int)) ∧ KsOk n es ks k0 ∧ ks.Nodup ∧
  (∀ G' H', NoRing es ks → Ex G G' → Join G' P H' → Q .non H') ∧
  (∀ rs t' G' H', EndR es ks sg rs → Ex G G' → Join G' P H' → G' t' = some (.tup (rV rs)) → Q (.ref t') H')
def ErI (m t : Addr) (sg : Int) (es : List Ev) (ks : List Int) (G1 P0 : Hp) : Nat → Hp → Hp → L2.St → Prop := fun m' G' P' σ' => P' = P0 ∧ Ex G1 G' ∧ ∃ (rs : List Nat) (r : Addr) (tv : Option V), RngP es ks rs ∧ G' r = some (.tup (rV rs)) ∧ σ' = [some (.ref m), some (.ref t), some (.int sg), some (.ref r), tv] ∧ ((tv = some .non ∧ EndR es ks sg rs ∧ m' = 0) ∨ ∃ rs2 r2, tv = some (.ref r2) ∧ G' r2 = some (.tup (rV rs2)) ∧ RngP es ks rs2 ∧ m' = mu es sg rs2 + 1)
theorem sc_end_ring : FnScope ["machine", "knot", "sign", "found", "better"] ["machine", "knot", "sign"] (defScope s_end_ring) := ⟨rfl, rfl, rfl, by decide +kernel, rfl, by decide +kernel, by decide +kernel⟩
theorem ok_end_ring (T : Txt K mg) {fd_some_ring : FuncData} (G_some_ring : Dn P w K mg base (L2.CX P w) 2 "some_ring" ["machine", "knot"] (spSome K) fd_some_ring) {fd_share_of : FuncData} (G_share_of : Dn P w K mg base (L2.CX P w) 3 "share_of" ["machine", "ring"] (spShareOf K) fd_share_of) {fd_ring_beyond : FuncData} (G_ring_beyond : Dn P w K mg base (L2.CX P w) 3 "ring_beyond" ["machine", "share", "knot", "sign"] (spBeyond K) fd_ring_beyond) : ∃ fd, Dn P w K mg base (L2.CX P w) 4 "end_ring" ["machine", "knot", "sign"] (spEndRing K) fd := by
  obtain ⟨fd, F⟩ := T.d_end_ring
  refine ⟨fd, F.ok sc_end_ring (fun vs H Q E h => ?_) (fun cdv A outer s H vs Q E hr h => ?_), T.g_end_ring, F.kp, F.bindsN fun _ _ _ _ _ _ us hl => match us, hl with | [_, _, _], _ => rfl, Lv.fun_lk F⟩
  · obtain ⟨_, _, _, _, _, _, _, _, _, rfl, _⟩ := h
    rfl
  · have hu := hu_of hr
    have hr_some_ring : Room 2 _ := hr.mono (by decide)
    have hr_share_of : Room 3 _ := hr.mono (by decide)
    have hr_ring_beyond : Room 3 _ := hr.mono (by decide)
    refine ⟨_, PSs.nox (pss_cons (ps_set (i := 3) sc_end_ring.nd rfl (Or.inl rfl) (pe_call G_some_ring.ok hr_some_ring rfl G_some_ring.mg G_some_ring.kp G_some_ring.b .nil passL (pa_cons (pv 0) (pa_cons (pv 1) pa_nil))))
      (pss_cons (ps_if (pt_cmpR op_isN (pv 3) pe_non (nomark _)) (pss_one (ps_ret pe_non)) pss_nil)
      (pss_cons (ps_set (i := 4) sc_end_ring.nd rfl (Or.inl rfl) (pe_call G_ring_beyond.ok hr_ring_beyond rfl G_ring_beyond.mg G_ring_beyond.kp G_ring_beyond.b .nil passL (pa_cons (pv 0) (pa_cons (pe_call G_share_of.ok hr_share_of rfl G_share_of.mg G_share_of.kp G_share_of.b .nil passL (pa_cons (pv 0) (pa_cons (pv 3) pa_nil))) (pa_cons (pv 1) (pa_cons (pv 2) pa_nil))))))
      (pss_cons (ps_while PassesOwn.never (pt_cmpR op_notN (pv 4) pe_non (nomark _)) (pss_cons (ps_set (i := 3) sc_end_ring.nd rfl (Or.inl rfl) (pv 4))
      (pss_one (ps_set (i := 4) sc_end_ring.nd rfl (Or.inl rfl) (pe_call G_ring_beyond.ok hr_ring_beyond rfl G_ring_beyond.mg G_ring_beyond.kp G_ring_beyond.b .nil passL (pa_cons (pv 0) (pa_cons (pe_call G_share_of.ok hr_share_of rfl G_share_of.mg G_share_of.kp G_share_of.b .nil passL (pa_cons (pv 0) (pa_cons (pv 3) pa_nil))) (pa_cons (pv 1) (pa_cons (pv 2) pa_nil)))))))))
      (pss_one (ps_ret (pv 3))))))), ?_⟩
    obtain ⟨m, t, sg, n, es, ks, k0, G, P0, rfl, j, hm, hB, nb, hsg, ht, hK, hn, q0, q1⟩ := h
    walk_at "w"
    refine ⟨m, t, n, es, ks, k0, G, P0, rfl, j, hm, hB, nb, ht, hK, hn, fun G1 H1 hno e1 j1 => ?_, fun rs r G1 H1 hr e1 j1 ht1 => ?_⟩
    · walk_at "w"
      exact q0 G1 H1 hno e1 j1
    walk_at "w"
    refine itF (fun h => (nomatch h)) ?_
    have hb1 := rng_b hB hr
    have b200 : (63000000000000 : Nat) < 2 ^ 199 := by decide
    obtain ⟨sr, hsr, hpr⟩ := hr.2.2
    walk_at "w"
    refine ⟨m, r, n, es, rs, G1, P0, rfl, j1, hm.mono e1, ht1, Nat.le_trans hr.2.1 (by decide), pth_ev hpr, by omega, Nat.lt_of_le_of_lt (by unfold bigB at hb1; omega) b200, fun tp G2 H2 e2 j2 htp => ?_⟩
    have e12 := e1.trans e2
    walk_at "w"
    refine ⟨m, tp, t, sg, n, loX es rs, loW es rs, es, ks, k0, G2, P0, rfl, j2, hm.mono e12, hB, nb, rng_share hB hr htp, hsg, e12 _ _ ht, hK, hn, fun G3 H3 hno e3 j3 => ?_, fun s2 rs2 r2 G3 H3 hs2 h02 hp2 hl2 hlt e3 j3 hr2 => ?_⟩
    case' refine_1 =>
      walk_at "w"
      refine while_go (ErI m t sg es ks G1 P0) j3 0 ⟨rfl, e2.trans e3, rs, r, _, hr, (e2.trans e3) _ _ ht1, rfl, .inl ⟨rfl, endR_of hB hr hno, rfl⟩⟩ ?_
      clear hno e3 j3
    case' refine_2 =>
      walk_at "w"
      refine while_go (ErI m t sg es ks G1 P0) j3 _ ⟨rfl, e2.trans e3, rs, r, _, hr, (e2.trans e3) _ _ ht1, rfl, .inr ⟨rs2, r2, rfl, hr2, ⟨h02, hl2, s2, hs2, hp2⟩, rfl⟩⟩ ?_
      clear hs2 h02 hp2 hl2 hlt e3 j3 hr2 s2 rs2 r2
    all_goals
      clear hpr hsr hr ht1 hb1 e2 htp j2 G2 e12 tp sr rs r
      rintro m' G2 P2 H2 σ' j2 ⟨rfl, eG, rs, r, tv, hr, ht1, rfl, hcase⟩
      rcases hcase with ⟨rfl, hE, rfl⟩ | ⟨rs2, r2, rfl, ht2, hr2, rfl⟩
      · walk_at "w"
        refine itNF rfl ?_
        walk_at "w"
        exact q1 rs r G2 H2 hE (e1.trans eG) j2 ht1
      walk_at "w"
      refine itNT (fun h => (nomatch h)) ?_
      refine w_turn ?_
      have hb1 := rng_b hB hr2
      obtain ⟨sr, hsr, hpr⟩ := hr2.2.2
      walk_at "w"
      refine ⟨m, r2, n, es, rs2, G2, P2, rfl, j2, hm.mono (e1.trans eG), ht2, Nat.le_trans hr2.2.1 (by decide), pth_ev hpr, by omega, Nat.lt_of_le_of_lt (by unfold bigB at hb1; omega) b200, fun tp G3 H3 e3 j3 htp => ?_⟩
      have e13 := e1.trans (eG.trans e3)
      walk_at "w"
      refine ⟨m, tp, t, sg, n, loX es rs2, loW es rs2, es, ks, k0, G3, P2, rfl, j3, hm.mono e13, hB, nb, rng_share hB hr2 htp, hsg, e13 _ _ ht, hK, hn, fun G4 H4 hno e4 j4 => ?_, fun s3 rs3 r3 G4 H4 hs3 h03 hp3 hl3 hlt e4 j4 hr3 => ?_⟩
      · walk_at "w"
        exact ⟨_, _, _, Nat.succ_pos _, j4, rfl, eG.trans (e3.trans e4), rs2, r2, _, hr2, (e3.trans e4) _ _ ht2, rfl, .inl ⟨rfl, endR_of hB hr2 hno, rfl⟩⟩
      · walk_at "w"
        have hR3 : RngP es ks rs3 := ⟨h03, hl3, s3, hs3, hp3⟩
        exact ⟨_, _, _, Nat.succ_lt_succ (mu_lt hB hsg hr2 hR3 ((cr_lo (by omega) sg rs3).mp hlt)), j4, rfl, eG.trans (e3.trans e4), rs2, r2, _, hr2, (e3.trans e4) _ _ ht2, rfl, .inr ⟨rs3, r3, rfl, hr3, hR3, rfl⟩⟩
/-- the share of a row as a pair -/
def LoAt (G : Hp) (t : Addr) (es : List Ev) (rs : List Nat) : Prop := G t = some (.tup [.int (loX es rs), .int (loW es rs)])
def spEndsOf (K : PySem.W.Frag) : Sp := fun vs H Q _ => ∃ (m t : Addr) (n : Int) (es : List Ev) (ks : List Int) (k0 : Int) (G P : Hp), vs = [.ref m, .ref t] ∧ Join G P H ∧ MachK K G m n es ∧ EvB n es ∧ n ≤ 63 ∧ G t = some (.tup (ks.map V.int)) ∧ KsOk n es ks k0 ∧ ks.Nodup ∧
  (∀ G' H', NoRing es ks → Ex G G' → Join G' P H' → Q .non H') ∧
  (∀ rs rs' t' t1 t2 G' H', EndR es ks 1 rs → EndR es ks (-1) rs' → Ex G G' → Join G' P H' → G' t' = some (.tup [.ref t1, .ref t2]) → LoAt G' t1 es rs → LoAt G' t2 es rs' → Q (.ref t') H')
theorem sc_ends_of : FnScope ["machine", "knot", "one"] ["machine", "knot"] (defScope s_ends_of) := ⟨rfl, rfl, rfl, by decide +kernel, rfl, by decide +kernel, by decide +kernel⟩
theorem ok_ends_of (T : Txt K mg) {fd_end_ring : FuncData} (G_end_ring : Dn P w K mg base (L2.CX P w) 4 "end_ring" ["machine", "knot", "sign"] (spEndRing K) fd_end_ring) {fd_share_of : FuncData} (G_share_of : Dn P w K mg base (L2.CX P w) 3 "share_of" ["machine", "ring"] (spShareOf K) fd_share_of) : ∃ fd, Dn P w K mg base (L2.CX P w) 5 "ends_of" ["machine", "knot"] (spEndsOf K) fd := by
  obtain ⟨fd, F⟩ := T.d_ends_of
  refine ⟨fd, F.ok sc_ends_of (fun vs H Q E h => ?_) (fun cdv A outer s H vs Q E hr h => ?_), T.g_ends_of, F.kp, F.bindsN fun _ _ _ _ _ _ us hl => match us, hl with | [_, _], _ => rfl, Lv.fun_lk F⟩
  · obtain ⟨_, _, _, _, _, _, _, _, rfl, _⟩ := h
    rfl
  · have hu := hu_of hr
    have hr_end_ring : Room 4 _ := hr.mono (by decide)
    have hr_share_of : Room 3 _ := hr.mono (by decide)
    refine ⟨_, PSs.nox (pss_cons (ps_set (i := 2) sc_ends_of.nd rfl (Or.inl rfl) (pe_call G_end_ring.ok hr_end_ring rfl G_end_ring.mg G_end_ring.kp G_end_ring.b .nil passL (pa_cons (pv 0) (pa_cons (pv 1) (pa_cons pe_int pa_nil)))))
      (pss_cons (ps_if (pt_cmpR op_isN (pv 2) pe_non (nomark _)) (pss_one (ps_ret pe_non)) pss_nil)
      (pss_one (ps_ret (pe_tup (pa_cons (pe_call G_share_of.ok hr_share_of rfl G_share_of.mg G_share_of.kp G_share_of.b .nil passL (pa_cons (pv 0) (pa_cons (pv 2) pa_nil))) (pa_cons (pe_call G_share_of.ok hr_share_of rfl G_share_of.mg G_share_of.kp G_share_of.b .nil passL (pa_cons (pv 0) (pa_cons (pe_call G_end_ring.ok hr_end_ring rfl G_end_ring.mg G_end_ring.kp G_end_ring.b .nil passL (pa_cons (pv 0) (pa_cons (pv 1) (pa_cons (pe_un un_neg pe_int) pa_nil)))) pa_nil))) pa_nil))))))), ?_⟩
    obtain ⟨m, t, n, es, ks, k0, G, P0, rfl, j, hm, hB, nb, ht, hK, hn, q0, q1⟩ := h
    have b200 : (63000000000000 : Nat) < 2 ^ 199 := by decide
    walk_at "w"
    refine ⟨m, t, 1, n, es, ks, k0, G, P0, rfl, j, hm, hB, nb, .inl rfl, ht, hK, hn, fun G1 H1 hno e1 j1 => ?_, fun rs r G1 H1 hr e1 j1 hrt => ?_⟩
    · walk_at "w"
      exact q0 G1 H1 hno e1 j1
    walk_at "w"
    refine itF (fun h => (nomatch h)) ?_
    have hb1 := rng_b hB hr.1
    obtain ⟨sr, hsr, hpr⟩ := hr.1.2.2
    walk_at "w"
    refine ⟨m, r, n, es, rs, G1, P0, rfl, j1, hm.mono e1, hrt, Nat.le_trans hr.1.2.1 (by decide), pth_ev hpr, by omega, Nat.lt_of_le_of_lt (by unfold bigB at hb1; omega) b200, fun tp G2 H2 e2 j2 htp => ?_⟩
    have e12 := e1.trans e2
    walk_at "w"
    refine ⟨m, t, -1, n, es, ks, k0, G2, P0, rfl, j2, hm.mono e12, hB, nb, .inr rfl, e12 _ _ ht, hK, hn, fun G3 H3 hno e3 j3 => ?_, fun rs' r' G3 H3 hr' e3 j3 hrt' => ?_⟩
    · exact absurd (hno sr hsr rs hpr) hr.1.1
    have hb2 := rng_b hB hr'.1
    obtain ⟨sr', hsr', hpr'⟩ := hr'.1.2.2
    walk_at "w"
    refine ⟨m, r', n, es, rs', G3, P0, rfl, j3, hm.mono (e12.trans e3), hrt', Nat.le_trans hr'.1.2.1 (by decide), pth_ev hpr', by omega, Nat.lt_of_le_of_lt (by unfold bigB at hb2; omega) b200, fun tp' G4 H4 e4 j4 htp' => ?_⟩
    walk_at "w"
    refine aTup.go j4 (by show 2 ≤ 100000; decide) fun tt G5 H5 ntt e5 j5 htt => ?_
    exact q1 rs rs' tt tp tp' G5 H5 hr hr' (e12.trans (e3.trans (e4.trans e5))) j5 htt (e5 _ _ (e4 _ _ (e3 _ _ htp))) (e5 _ _ htp')
def spEnds (K : PySem.W.Frag) : Sp := fun vs H Q _ => ∃ (m : Addr) (s n : Int) (es : List Ev) (G P : Hp), vs = [.ref m, .int s] ∧ Join G P H ∧ NT P ∧ MachK K G m n es ∧ EvB n es ∧ n ≤ 63 ∧ s ∈ Reach n es ∧
  (∀ G' H', NoRing es (Knot n es s) → Ex G G' → Join G' P H' → Q .non H') ∧
  (∀ rs rs' t' t1 t2 G' H', EndR es (Knot n es s) 1 rs → EndR es (Knot n es s) (-1) rs' → Ex G G' → Join G' P H' → G' t' = some (.tup [.ref t1, .ref t2]) → LoAt G' t1 es rs → LoAt G' t2 es rs' → Q (.ref t') H')
end X

namespace X
open PySem PySem.Spec PyProof.Rows L2 Lv
/-! least and greatest shares: what they have in common -/
variable {es : List Ev} {ks : List Int}
/-- what holds of each simple row round holds of all -/
theorem ring_ge {a b : Int} (h : ∀ s ∈ ks, ∀ rs, FR es ks s rs → 0 ≤ b * sumX es rs - a * sumW es rs) : ∀ (N : Nat) {rs : List Nat} {s : Int}, rs.length ≤ N → s ∈ ks → Pth es ks s s rs → 0 ≤ b * sumX es rs - a * sumW es rs
  | 0, rs, s, hl, _, _ => by
    have : rs = [] := List.length_eq_zero_iff.mp (by omega)
    subst this
    simp [sumX, sumW]
  | N + 1, rs, s, hl, hs, hp => by
    by_cases h0 : rs = []
    · subst h0; simp [sumX, sumW]
    by_cases hn : (rs.map (bAt es)).Nodup
    · obtain ⟨s', hs', rs', hr, e1, e2⟩ := fr_of hs h0 hp hn
      rw [e1, e2]
      exact h s' hs' rs' hr
    obtain ⟨p, a', q, b', r, rfl, e⟩ := dup_split hn
    obtain ⟨u2, h12, h3⟩ := pth_app.mp hp
    obtain ⟨u1, h1, h2⟩ := pth_app.mp h12
    have e1 := pth_head h2
    have e2 := pth_head h3
    have eu : u1 = u2 := by rw [← e1, ← e2, e]
    subst eu
    have hu : u1 ∈ ks := (pth_ks hs h1).1
    rw [List.length_append, List.length_append, List.length_cons, List.length_cons] at hl
    have i1 := ring_ge h N (rs := a' :: q) (s := u1) (by rw [List.length_cons]; omega) hu h2
    have i2 := ring_ge h N (rs := p ++ (b' :: r)) (s := s) (by rw [List.length_append, List.length_cons]; omega) hs (pth_app.mpr ⟨u1, h1, h3⟩)
    rw [sW_app, sW_app, sX_app, sX_app]
    rw [sW_app, sX_app] at i2
    rw [Int.mul_add, Int.mul_add] at i2 ⊢
    rw [Int.mul_add, Int.mul_add]
    omega
def lowT (a b : Int) : List Int := [a / (Int.gcd a b : Nat), b / (Int.gcd a b : Nat)]
theorem lowT_mul {k : Int} (hk : 0 < k) (a b : Int) : lowT (k * a) (k * b) = lowT a b := by
  have e : ((Int.gcd (k * a) (k * b) : Nat) : Int) = k * (Int.gcd a b : Nat) := by
    rw [Int.gcd_mul_left]; rw [Int.natCast_mul]; congr 1; omega
  unfold lowT
  rw [e, Int.mul_ediv_mul_of_pos _ _ hk, Int.mul_ediv_mul_of_pos _ _ hk]
theorem lowT_eq {a b c d : Int} (hb : 0 < b) (hd : 0 < d) (h : b * c = a * d) : lowT a b = lowT c d := by
  rw [← lowT_mul hd a b, ← lowT_mul hb c d, Int.mul_comm d a, ← h, Int.mul_comm d b]
def loT (es : List Ev) (rs : List Nat) : List Int := lowT (sumX es rs) (sumW es rs)
theorem lo_lt {n : Int} {rs rs' : List Nat} (h : 0 < sumW es rs) (h' : 0 < sumW es rs') : loX es rs' * loW es rs < loX es rs * loW es rs' ↔ crE es rs rs' < 0 := by
  have g0 : 0 < Int.gcd (sumX es rs) (sumW es rs) := Int.gcd_pos_of_ne_zero_right _ (by omega)
  have hx : ((Int.gcd (sumX es rs) (sumW es rs) : Nat) : Int) * loX es rs = sumX es rs := Int.mul_ediv_cancel' (Int.gcd_dvd_left ..)
  have hw : ((Int.gcd (sumX es rs) (sumW es rs) : Nat) : Int) * loW es rs = sumW es rs := Int.mul_ediv_cancel' (Int.gcd_dvd_right ..)
  have g1 : 0 < Int.gcd (sumX es rs') (sumW es rs') := Int.gcd_pos_of_ne_zero_right _ (by omega)
  have hx' : ((Int.gcd (sumX es rs') (sumW es rs') : Nat) : Int) * loX es rs' = sumX es rs' := Int.mul_ediv_cancel' (Int.gcd_dvd_left ..)
  have hw' : ((Int.gcd (sumX es rs') (sumW es rs') : Nat) : Int) * loW es rs' = sumW es rs' := Int.mul_ediv_cancel' (Int.gcd_dvd_right ..)
  unfold crE
  generalize loX es rs = x at *
  generalize loW es rs = w at *
  generalize loX es rs' = x' at *
  generalize loW es rs' = w' at *
  have k0 : (0 : Int) < ((Int.gcd (sumX es rs) (sumW es rs) : Nat) : Int) := by omega
  have k1 : (0 : Int) < ((Int.gcd (sumX es rs') (sumW es rs') : Nat) : Int) := by omega
  generalize ((Int.gcd (sumX es rs) (sumW es rs) : Nat) : Int) = g at *
  generalize ((Int.gcd (sumX es rs') (sumW es rs') : Nat) : Int) = g' at *
  rw [← hx, ← hw, ← hx', ← hw']
  have e : g * w * (g' * x') - g * x * (g' * w') = g * g' * (x' * w - x * w') := by
    rw [Int.mul_sub]
    have a1 : g * w * (g' * x') = g * g' * (x' * w) := by ac_rfl
    have a2 : g * x * (g' * w') = g * g' * (x * w') := by ac_rfl
    rw [a1, a2]
  rw [e]
  have k2 : 0 < g * g' := Int.mul_pos k0 k1
  constructor
  · intro h; exact Int.mul_neg_of_pos_of_neg k2 (by omega)
  · intro h
    by_cases c : x' * w < x * w'
    · exact c
    · have := Int.mul_nonneg (show 0 ≤ g * g' by omega) (show 0 ≤ x' * w - x * w' by omega)
      omega
theorem cr_neg (rs rs' : List Nat) : crE es rs' rs = -crE es rs rs' := by
  unfold crE
  rw [Int.mul_comm (sumW es rs'), Int.mul_comm (sumX es rs')]
  omega
theorem cr_trans {sg : Int} {o n r : List Nat} (ho : 0 < sumW es o) (hn : 0 < sumW es n) (hr : 0 < sumW es r) (h1 : sg * crE es o n ≤ 0) (h2 : 0 ≤ sg * crE es o r) : 0 ≤ sg * crE es n r := by
  unfold crE at *
  generalize sumW es o = wo at *
  generalize sumW es n = wn at *
  generalize sumW es r = wr at *
  generalize sumX es o = xo at *
  generalize sumX es n = xn at *
  generalize sumX es r = xr at *
  have k1 := Int.mul_nonneg (show 0 ≤ wr by omega) (show 0 ≤ -(sg * (wo * xn - xo * wn)) by omega)
  have k2 := Int.mul_nonneg (show 0 ≤ wn by omega) h2
  have e : wo * (sg * (wn * xr - xn * wr)) = wr * -(sg * (wo * xn - xo * wn)) + wn * (sg * (wo * xr - xo * wr)) := by
    rw [Int.mul_sub, Int.mul_sub, Int.mul_sub, Int.mul_neg, Int.mul_sub, Int.mul_sub, Int.mul_sub]
    have a1 : wo * (sg * (wn * xr)) = wn * (sg * (wo * xr)) := by ac_rfl
    have a2 : wo * (sg * (xn * wr)) = wr * (sg * (wo * xn)) := by ac_rfl
    have a3 : wr * (sg * (xo * wn)) = wn * (sg * (xo * wr)) := by ac_rfl
    rw [a1, a2, a3]
    omega
  by_cases c : 0 ≤ sg * (wn * xr - xn * wr)
  · exact c
  · have := Int.mul_neg_of_pos_of_neg ho (show sg * (wn * xr - xn * wr) < 0 by omega)
    omega
/-- two rows of the least share have the same -/
theorem end_same {n sg : Int} {rs rs' : List Nat} (hB : EvB n es) (hsg : sg = 1 ∨ sg = -1) (h : EndR es ks sg rs) (h' : EndR es ks sg rs') : loT es rs = loT es rs' := by
  have b1 := rng_b hB h.1
  have b2 := rng_b hB h'.1
  obtain ⟨s, hs, hp⟩ := h.1.2.2
  obtain ⟨s', hs', hp'⟩ := h'.1.2.2
  have q1 := h.2 s' hs' rs' hp'
  have q2 := h'.2 s hs rs hp
  rw [cr_neg rs rs'] at q2
  have q3 : crE es rs rs' = 0 := by
    rcases hsg with e | e
    · rw [e] at q1 q2; omega
    · rw [e] at q1 q2; omega
  refine lowT_eq (by omega) (by omega) ?_
  unfold crE at q3
  omega
theorem end_of {n sg : Int} {rs : List Nat} (hB : EvB n es) (hsg : sg = 1 ∨ sg = -1) (h : RngP es ks rs) (hq : ∀ s ∈ ks, ∀ rs', FR es ks s rs' → 0 ≤ sg * crE es rs rs') : EndR es ks sg rs := by
  refine ⟨h, fun s hs rs' hp => ?_⟩
  have key := ring_ge (es := es) (ks := ks) (a := sg * sumX es rs) (b := sg * sumW es rs) (fun s hs rs' hr => by
    have := hq s hs rs' hr
    unfold crE at this
    rw [Int.mul_sub, ← Int.mul_assoc, ← Int.mul_assoc] at this
    exact this) rs'.length (Nat.le_refl _) hs hp
  unfold crE
  rw [Int.mul_sub, ← Int.mul_assoc, ← Int.mul_assoc]
  exact key
theorem fr_rng {n s : Int} {rs : List Nat} (hk : ks.length ≤ 63) (hs : s ∈ ks) (h : FR es ks s rs) : RngP es ks rs := ⟨h.1, Nat.le_trans (fr_len hs h) hk, s, hs, h.2.1⟩
/-- no rows round at all, as the law tells it -/
theorem noring_iff : NoRing es ks ↔ ∀ s ∈ ks, ∀ rs, ¬ FR es ks s rs := by
  constructor
  · intro h s hs rs hr
    exact hr.1 (h s hs rs hr.2.1)
  · intro h s hs rs hp
    by_cases h0 : rs = []
    · exact h0
    exfalso
    suffices hh : ∀ (N : Nat) {rs : List Nat} {s : Int}, rs.length ≤ N → s ∈ ks → rs ≠ [] → Pth es ks s s rs → False from hh rs.length (Nat.le_refl _) hs h0 hp
    clear h0 hp hs s rs
    intro N
    induction N with
    | zero => intro rs s hl _ h0 _; exact h0 (List.length_eq_zero_iff.mp (by omega))
    | succ N ih =>
      intro rs s hl hs h0 hp
      by_cases hn : (rs.map (bAt es)).Nodup
      · obtain ⟨s', hs', rs', hr, _⟩ := fr_of hs h0 hp hn
        exact h s' hs' rs' hr
      obtain ⟨p, a', q, b', r, rfl, e⟩ := dup_split hn
      obtain ⟨u2, h12, h3⟩ := pth_app.mp hp
      obtain ⟨u1, h1, h2⟩ := pth_app.mp h12
      have e1 := pth_head h2
      have e2 := pth_head h3
      have eu : u1 = u2 := by rw [← e1, ← e2, e]
      subst eu
      have hu : u1 ∈ ks := (pth_ks hs h1).1
      rw [List.length_append, List.length_append, List.length_cons, List.length_cons] at hl
      exact ih (rs := a' :: q) (s := u1) (by rw [List.length_cons]; omega) hu (fun h => (nomatch h)) h2
theorem rng_lo {n : Int} {es : List Ev} {ks : List Int} {rs : List Nat} (hB : EvB n es) (h : RngP es ks rs) : -63000000000000 ≤ loX es rs ∧ loX es rs ≤ 63000000000000 ∧ 1 ≤ loW es rs ∧ loW es rs ≤ 63000000000000 := by
  have hb := rng_b hB h
  obtain ⟨q1, q2, q3, q4⟩ := low_facts (a := sumX es rs) (b := sumW es rs) (by omega)
  unfold bigB at hb
  unfold loX loW
  omega
end X

namespace X
open PySem PySem.Spec PyProof.Rows L2 Lv
variable {P : Program} {w : World} {K : PySem.W.Frag} {mg : Str → Option Value} {base : Heap}
def ways : List Str := ["up", "down"]
def sp_check_way (K : PySem.W.Frag) : Sp := fun vs H Q _ => ∃ (z : Str), vs = [.str z] ∧ z ∈ ways ∧ Q .non H
theorem sc_check_way : FnScope ["thing"] ["thing"] (defScope s_check_way) := ⟨rfl, rfl, rfl, by decide +kernel, rfl, by decide +kernel, by decide +kernel⟩
theorem ok_check_way (T : Txt K mg) : ∃ fd, Dn P w K mg base (L2.CX P w) 1 "check_way" ["thing"] (sp_check_way K) fd := by
  obtain ⟨fd, F⟩ := T.d_check_way
  refine ⟨fd, F.ok sc_check_way (fun vs H Q E h => ?_) (fun cdv A outer s H vs Q E hr h => ?_), T.g_check_way, F.kp, F.bindsN fun _ _ _ _ _ _ us hl => match us, hl with | [_], _ => rfl, Lv.fun_lk F⟩
  · obtain ⟨_, rfl, _⟩ := h
    rfl
  · have hu := hu_of hr
    refine ⟨_, PSs.nox (pss_one (ps_if (PW.pt (pw_or (pt_not (pt_val (pe_callB call_isi (by rfl) T.n_isinstance (by decide +kernel) (pa_cons (pv 0) (pa_cons (pe_bltn (v := .ty "str") (by rfl) T.n_str (by decide +kernel) rfl) pa_nil))))) (pw_or1 (pt_cmpR op_notIn_seq (pv 0) (pe_glob (v := .ref (He.ga K "WAYS")) rfl T.g_WAYS rfl) (by rfl))))) (pss_one ps_never) pss_nil)), ?_⟩
    obtain ⟨z, rfl, hz, q⟩ := h
    walk_at "w"
    refine ⟨_, _, _, _, true, rfl, .ty _, .base (.str z), kit_ty (by decide +kernel), ?_⟩
    walk_at "w"
    refine ⟨_, _, rfl, .inr (T.t_WAYS H), rfl, rfl, ?_⟩
    simp only [ways, List.mem_cons, List.not_mem_nil, or_false] at hz
    have e : (!inV (V.str z) [V.str "up", V.str "down"]) = false := by rcases hz with rfl | rfl <;> decide +kernel
    show ∃ c, V.bl (!inV (V.str z) [V.str "up", V.str "down"]) = V.bl c ∧ _
    rw [e]
    walk_at "w"
    exact q
/-- a leap from x to y -/
def leapB (x y : Int) (z : Str) : Bool := if z = "up" then decide (x < 0 ∧ 0 < y) else decide (y < 0 ∧ 0 < x)
def spLeap (K : PySem.W.Frag) : Sp := fun vs H Q _ => ∃ (x y : Int) (z : Str), vs = [.int x, .int y, .str z] ∧ Q (.bl (leapB x y z)) H
theorem sc_has_leapt : FnScope ["before", "after", "way"] ["before", "after", "way"] (defScope s_has_leapt) := ⟨rfl, rfl, rfl, by decide +kernel, rfl, by decide +kernel, by decide +kernel⟩
theorem ok_has_leapt (T : Txt K mg) : ∃ fd, Dn P w K mg base (L2.CX P w) 1 "has_leapt" ["before", "after", "way"] (spLeap K) fd := by
  obtain ⟨fd, F⟩ := T.d_has_leapt
  refine ⟨fd, F.ok sc_has_leapt (fun vs H Q E h => ?_) (fun cdv A outer s H vs Q E hr h => ?_), T.g_has_leapt, F.kp, F.bindsN fun _ _ _ _ _ _ us hl => match us, hl with | [_, _, _], _ => rfl, Lv.fun_lk F⟩
  · obtain ⟨_, _, _, rfl, _⟩ := h
    rfl
  · have hu := hu_of hr
    refine ⟨_, PSs.nox (pss_cons (ps_if (pt_cmpR op_eq (pv 2) pe_str (nomark _)) (pss_one (ps_ret (pe_chain op_lt op_lt (pv 0) pe_int (pv 1)))) pss_nil)
      (pss_one (ps_ret (pe_chain op_lt op_lt (pv 1) pe_int (pv 0))))), ?_⟩
    obtain ⟨x, y, z, rfl, q⟩ := h
    unfold leapB at q
    walk_at "w"
    by_cases hz : z = "up"
    · refine itT (congrArg V.str hz) ?_
      rw [if_pos hz] at q
      walk_at "w"
      by_cases h1 : x < 0
      · refine itT h1 ?_
        walk_at "w"
        rw [show decide (x < 0 ∧ 0 < y) = decide (0 < y) by simp [h1]] at q
        exact q
      · refine itF h1 ?_
        rw [show decide (x < 0 ∧ 0 < y) = false by simp [h1]] at q
        exact q
    · refine itF (fun h => hz (V.str.inj h)) ?_
      rw [if_neg hz] at q
      walk_at "w"
      by_cases h1 : y < 0
      · refine itT h1 ?_
        walk_at "w"
        rw [show decide (y < 0 ∧ 0 < x) = decide (0 < x) by simp [h1]] at q
        exact q
      · refine itF h1 ?_
        rw [show decide (y < 0 ∧ 0 < x) = false by simp [h1]] at q
        exact q
/-- the values along a run -/
def valsL (a b : Int) (es : List Ev) (rs : List Nat) (n : Nat) : List Int := (List.range (n + 1)).map fun i => valOf a b es (rs.take i)
theorem valsL_more (a b : Int) (es : List Ev) (rs : List Nat) (n : Nat) : valsL a b es rs (n + 1) = valsL a b es rs n ++ [valOf a b es (rs.take (n + 1))] := by
  unfold valsL
  rw [List.range_succ, List.map_append]; rfl
theorem valsL_at (a b : Int) (es : List Ev) (rs : List Nat) {n i : Nat} (h : i ≤ n) : ((valsL a b es rs n).map V.int)[i]? = some (.int (valOf a b es (rs.take i))) := by
  unfold valsL
  rw [List.getElem?_map, List.getElem?_map, List.getElem?_range (by omega)]; rfl
theorem valsL_len (a b : Int) (es : List Ev) (rs : List Nat) (n : Nat) : ((valsL a b es rs n).map V.int).length = n + 1 := by unfold valsL; simp
theorem val_more {a b : Int} {es : List Ev} {rs : List Nat} {i k : Nat} {e : Ev} (hk : rs[i]? = some k) (he : es[k]? = some e) : valOf a b es (rs.take (i + 1)) = valOf a b es (rs.take i) + liftE a b e := by
  unfold valOf liftE
  rw [sumX_more hk he, sumW_more hk he, Int.mul_add, Int.mul_add]; omega
def spVals (K : PySem.W.Frag) : Sp := fun vs H Q _ => ∃ (m p r : Addr) (n a b : Int) (es : List Ev) (rs : List Nat) (G P : Hp), vs = [.ref m, .ref p, .ref r] ∧ Join G P H ∧ MachK K G m n es ∧ ShareAt G p a b ∧ EvB n es ∧ G r = some (.tup (rV rs)) ∧ rs.length ≤ 10000 ∧ IsRun es rs ∧
  ∀ q G' H', Ex G G' → Join G' P H' → H q = none → G' q = some (.lst ((valsL a b es rs rs.length).map V.int)) → Q (.ref q) H'
def leapsL (a b : Int) (es : List Ev) (rs : List Nat) (z : Str) (n : Nat) : List Nat := (List.range n).filter fun i => leapB (valOf a b es (rs.take i)) (valOf a b es (rs.take (i + 1))) z
def meetsL (a b : Int) (es : List Ev) (rs : List Nat) (n : Nat) : List Nat := (List.range n).filter fun i => decide (valOf a b es (rs.take (i + 1)) = 0)
theorem filt_more (f : Nat → Bool) (n : Nat) : (List.range (n + 1)).filter f = (List.range n).filter f ++ (if f n = true then [n] else []) := by
  rw [List.range_succ, List.filter_append, List.filter_cons]
  by_cases h : f n = true <;> simp [h]
theorem filt_len (f : Nat → Bool) (n : Nat) : (rV ((List.range n).filter f)).length ≤ n := by
  have := List.length_filter_le f (List.range n)
  rw [List.length_range] at this
  rw [rV, List.length_map]; exact this
theorem rV_one (l : List Nat) (i : Nat) : rV (l ++ [i]) = rV l ++ [.int (i : Int)] := by simp [rV]
def spLeaps (K : PySem.W.Frag) : Sp := fun vs H Q _ => ∃ (m p r : Addr) (z : Str) (n a b : Int) (es : List Ev) (rs : List Nat) (G P : Hp), vs = [.ref m, .ref p, .str z, .ref r] ∧ Join G P H ∧ MachK K G m n es ∧ ShareAt G p a b ∧ z ∈ ways ∧ EvB n es ∧ G r = some (.tup (rV rs)) ∧ rs.length ≤ 10000 ∧ IsRun es rs ∧
  ∀ q G' H', Ex G G' → Join G' P H' → H q = none → G' q = some (.lst (rV (leapsL a b es rs z rs.length))) → Q (.ref q) H'
def spMeets (K : PySem.W.Frag) : Sp := fun vs H Q _ => ∃ (m p r : Addr) (n a b : Int) (es : List Ev) (rs : List Nat) (G P : Hp), vs = [.ref m, .ref p, .ref r] ∧ Join G P H ∧ MachK K G m n es ∧ ShareAt G p a b ∧ EvB n es ∧ G r = some (.tup (rV rs)) ∧ rs.length ≤ 10000 ∧ IsRun es rs ∧
  ∀ q G' H', Ex G G' → Join G' P H' → H q = none → G' q = some (.lst (rV (meetsL a b es rs rs.length))) → Q (.ref q) H'
def spNumbers (K : PySem.W.Frag) : Sp := fun vs H Q _ => ∃ (p s r : Addr) (n a b : Int) (es : List Ev) (rs : List Nat) (G P : Hp), vs = [.ref p, .ref s, .ref r] ∧ Join G P H ∧ PartsAt G p n es ∧ ShareAt G s a b ∧ EvB n es ∧ G r = some (.tup (rV rs)) ∧ rs.length ≤ 10000 ∧ IsRun es rs ∧
  ∀ q G' H', Ex G G' → Join G' P H' → H q = none → G' q = some (.lst ((valsL a b es rs rs.length).map V.int)) → Q (.ref q) H'
def spIs2 (K : PySem.W.Frag) : Sp := fun vs H Q _ => ∃ (a b : Bool), vs = [.bl a, .bl b] ∧ Q (.bl (decide (a = b))) H
end X

namespace X
open PySem PySem.Spec PyProof.Rows L2 Lv
variable {P : Program} {w : World} {K : PySem.W.Frag} {mg : Str → Option Value} {base : Heap}
/-- a tied knot with an inner event has a ring -/
theorem ring_some {n k0 : Int} {es : List Ev} {ks : List Int} (hK : KsOk n es ks k0) (h : innE es ks ≠ []) : ¬ NoRing es ks := fun hn => by
  obtain ⟨k1, r, hr⟩ := List.exists_cons_of_ne_nil h
  obtain ⟨e1, he1, hb1, ha1⟩ := innE_mem.mp (show k1 ∈ innE es ks by rw [hr]; exact List.mem_cons_self)
  obtain ⟨w, x, hw⟩ := hK.2.2 e1.a ha1 e1.b hb1
  obtain ⟨rs, h1, _, _⟩ := way_pth hw
  have := hn e1.b hb1 (k1 :: rs) ⟨e1, he1, rfl, ha1, h1⟩
  cases this
theorem val_lo {es : List Ev} {rs : List Nat} (hw : 0 < sumW es rs) (a b : Int) : (loX es rs * b < a * loW es rs ↔ valOf a b es rs < 0) ∧ (a * loW es rs < loX es rs * b ↔ 0 < valOf a b es rs) := by
  have g0 : 0 < Int.gcd (sumX es rs) (sumW es rs) := Int.gcd_pos_of_ne_zero_right _ (by omega)
  have hx : ((Int.gcd (sumX es rs) (sumW es rs) : Nat) : Int) * loX es rs = sumX es rs := Int.mul_ediv_cancel' (Int.gcd_dvd_left ..)
  have hw2 : ((Int.gcd (sumX es rs) (sumW es rs) : Nat) : Int) * loW es rs = sumW es rs := Int.mul_ediv_cancel' (Int.gcd_dvd_right ..)
  have g1 : (0 : Int) < ((Int.gcd (sumX es rs) (sumW es rs) : Nat) : Int) := by omega
  have e : valOf a b es rs = ((Int.gcd (sumX es rs) (sumW es rs) : Nat) : Int) * (loX es rs * b - a * loW es rs) := by
    unfold valOf
    rw [Int.mul_sub, ← Int.mul_assoc, Int.mul_left_comm _ a, hx, hw2, Int.mul_comm b]
  rw [e]
  generalize ((Int.gcd (sumX es rs) (sumW es rs) : Nat) : Int) = g at g1
  generalize loX es rs * b = u
  generalize a * loW es rs = v
  constructor
  · constructor
    · intro h; exact Int.mul_neg_of_pos_of_neg g1 (by omega)
    · intro h
      by_cases c : u < v
      · exact c
      · have := Int.mul_nonneg (show 0 ≤ g by omega) (show 0 ≤ u - v by omega)
        omega
  · constructor
    · intro h; exact Int.mul_pos g1 (by omega)
    · intro h
      by_cases c : v < u
      · exact c
      · have := Int.mul_nonneg (show 0 ≤ g by omega) (show 0 ≤ v - u by omega)
        rw [← Int.neg_sub, Int.mul_neg] at this
        omega
theorem end_val {n a b sg : Int} {es : List Ev} {ks : List Int} {rs r : List Nat} (hB : EvB n es) (hb : 1 ≤ b) (h : EndR es ks sg rs) (hr : RngP es ks r) (hv : sg * valOf a b es r < 0) : sg * valOf a b es rs < 0 := by
  obtain ⟨s, hs, hp⟩ := hr.2.2
  have q := h.2 s hs r hp
  have w1 := rng_b hB h.1
  have w2 := rng_b hB hr
  unfold crE at q
  unfold valOf at *
  generalize sumW es rs = W at *
  generalize sumX es rs = X at *
  generalize sumW es r = W' at *
  generalize sumX es r = X' at *
  by_cases c : sg * (b * X - a * W) < 0
  · exact c
  exfalso
  have k1 := Int.mul_nonneg (show 0 ≤ W' by omega) (show 0 ≤ sg * (b * X - a * W) by omega)
  have k2 := Int.mul_neg_of_pos_of_neg (show 0 < W by omega) hv
  have k3 := Int.mul_nonneg (show 0 ≤ b by omega) q
  have e : W * (sg * (b * X' - a * W')) = W' * (sg * (b * X - a * W)) + b * (sg * (W * X' - X * W')) := by
    rw [Int.mul_sub, Int.mul_sub, Int.mul_sub, Int.mul_sub, Int.mul_sub, Int.mul_sub]
    have a1 : W * (sg * (b * X')) = b * (sg * (W * X')) := by ac_rfl
    have a2 : W * (sg * (a * W')) = W' * (sg * (a * W)) := by ac_rfl
    have a3 : W' * (sg * (b * X)) = b * (sg * (X * W')) := by ac_rfl
    rw [a1, a2, a3]
    omega
  omega
def Bal (n a b : Int) (es : List Ev) : Prop := Hangs n es ∧ (∃ rs, RngP es (Knot n es 0) rs ∧ valOf a b es rs < 0) ∧ ∃ rs, RngP es (Knot n es 0) rs ∧ 0 < valOf a b es rs
def spLess (K : PySem.W.Frag) : Sp := fun vs H Q _ => ∃ (p q : Addr) (a b c d : Int), vs = [.ref p, .ref q] ∧ H p = some (.tup [.int a, .int b]) ∧ H q = some (.tup [.int c, .int d]) ∧ a.natAbs < 2 ^ 1000 ∧ b.natAbs < 2 ^ 1000 ∧ c.natAbs < 2 ^ 1000 ∧ d.natAbs < 2 ^ 1000 ∧ Q (.bl (decide (a * d < c * b))) H
theorem sc_is_less : FnScope ["one", "other"] ["one", "other"] (defScope s_is_less) := ⟨rfl, rfl, rfl, by decide +kernel, rfl, by decide +kernel, by decide +kernel⟩
theorem ok_is_less (T : Txt K mg) : ∃ fd, Dn P w K mg base (L2.CX P w) 1 "is_less" ["one", "other"] (spLess K) fd := by
  obtain ⟨fd, F⟩ := T.d_is_less
  refine ⟨fd, F.ok sc_is_less (fun vs H Q E h => ?_) (fun cdv A outer s H vs Q E hr h => ?_), T.g_is_less, F.kp, F.bindsN fun _ _ _ _ _ _ us hl => match us, hl with | [_, _], _ => rfl, Lv.fun_lk F⟩
  · obtain ⟨_, _, _, _, _, _, rfl, _⟩ := h
    rfl
  · have hu := hu_of hr
    refine ⟨_, PSs.nox (pss_one (ps_ret (pe_cmpR op_lt (pe_op op_mulW (pe_ix ix_tup (pv 0) pe_int (fun _ _ => rfl)) (pe_ix ix_tup (pv 1) pe_int (fun _ _ => rfl))) (pe_op op_mulW (pe_ix ix_tup (pv 1) pe_int (fun _ _ => rfl)) (pe_ix ix_tup (pv 0) pe_int (fun _ _ => rfl))) (nomark _)))), ?_⟩
    obtain ⟨p, q0, a, b, c, d, rfl, hp, hq, b1, b2, b3, b4, q⟩ := h
    walk_at "w"
    refine w_rI (mulW b1 b4) ?_
    walk_at "w"
    refine w_rI (mulW b3 b2) ?_
    walk_at "w"
    exact q
def spBal (K : PySem.W.Frag) : Sp := fun vs H Q _ => ∃ (m q : Addr) (n a b : Int) (es : List Ev) (G P : Hp), vs = [.ref m, .ref q] ∧ Join G P H ∧ NT P ∧ MachK K G m n es ∧ EvB n es ∧ n ≤ 63 ∧ ShareAt G q a b ∧
  ∀ bb G' H', (bb = true ↔ Bal n a b es) → Ex G G' → Join G' P H' → Q (.bl bb) H'
theorem sc_balanced : FnScope ["machine", "share", "low", "high"] ["machine", "share"] (defScope s_balanced) := ⟨rfl, rfl, rfl, by decide +kernel, rfl, by decide +kernel, by decide +kernel⟩
theorem ok_balanced (T : Txt K mg) {fd_hangs_together : FuncData} (G_hangs_together : Dn P w K mg base (L2.CX P w) 5 "hangs_together" ["machine"] (spHangs K) fd_hangs_together) {fd_knots_of : FuncData} (G_knots_of : Dn P w K mg base (L2.CX P w) 4 "knots_of" ["machine"] (spKnots K) fd_knots_of) {fd_ends_of : FuncData} (G_ends_of : Dn P w K mg base (L2.CX P w) 5 "ends_of" ["machine", "knot"] (spEndsOf K) fd_ends_of) {fd_is_less : FuncData} (G_is_less : Dn P w K mg base (L2.CX P w) 1 "is_less" ["one", "other"] (spLess K) fd_is_less) : ∃ fd, Dn P w K mg base (L2.CX P w) 6 "balanced" ["machine", "share"] (spBal K) fd := by
  obtain ⟨fd, F⟩ := T.d_balanced
  refine ⟨fd, F.ok sc_balanced (fun vs H Q E h => ?_) (fun cdv A outer s H vs Q E hr h => ?_), T.g_balanced, F.kp, F.bindsN fun _ _ _ _ _ _ us hl => match us, hl with | [_, _], _ => rfl, Lv.fun_lk F⟩
  · obtain ⟨_, _, _, _, _, _, _, _, rfl, _⟩ := h
    rfl
  · have hu := hu_of hr
    have hr_hangs_together : Room 5 _ := hr.mono (by decide)
    have hr_knots_of : Room 4 _ := hr.mono (by decide)
    have hr_ends_of : Room 5 _ := hr.mono (by decide)
    have hr_is_less : Room 1 _ := hr.mono (by decide)
    refine ⟨_, PSs.nox (pss_cons (ps_if (pt_not (pt_val (pe_call G_hangs_together.ok hr_hangs_together rfl G_hangs_together.mg G_hangs_together.kp G_hangs_together.b .nil passL (pa_cons (pv 0) pa_nil)))) (pss_one (ps_ret pe_bl)) pss_nil)
      (pss_cons (ps_asg (pe_call G_ends_of.ok hr_ends_of rfl G_ends_of.mg G_ends_of.kp G_ends_of.b .nil passL (pa_cons (pv 0) (pa_cons (pe_ix ix_list (pe_call G_knots_of.ok hr_knots_of rfl G_knots_of.mg G_knots_of.kp G_knots_of.b .nil passL (pa_cons (pv 0) pa_nil)) pe_int (fun _ _ => rfl)) pa_nil))) (pg_tup rfl (pgs_cons (pg_name (i := 2) sc_balanced.nd rfl (Or.inl rfl)) (pgs_cons (pg_name (i := 3) sc_balanced.nd rfl (Or.inl rfl)) pgs_nil))))
      (pss_one (ps_ret (pe_and (pe_call G_is_less.ok hr_is_less rfl G_is_less.mg G_is_less.kp G_is_less.b .nil passL (pa_cons (pv 2) (pa_cons (pv 1) pa_nil))) (pe_one (pe_call G_is_less.ok hr_is_less rfl G_is_less.mg G_is_less.kp G_is_less.b .nil passL (pa_cons (pv 1) (pa_cons (pv 3) pa_nil))))))))), ?_⟩
    obtain ⟨m, q0, n, a, b, es, G, P0, rfl, j, nt, hm, hB, nb, hS, q⟩ := h
    have hs := evb_std hB
    walk_at "w"
    refine ⟨m, n, es, G, P0, rfl, j, nt, hm, hs, hB.1, nb, hB.2.2.1, fun bb G1 H1 hbb e1 j1 => ?_⟩
    by_cases c : Hangs n es
    rotate_left
    · have : bb = false := by
        cases bb with
        | false => rfl
        | true => exact absurd (hbb.mp rfl) c
      subst this
      walk_at "w"
      exact q false G1 H1 ⟨fun h => (nomatch h), fun h => absurd h.1 c⟩ e1 j1
    obtain rfl : bb = true := hbb.mpr c
    walk_at "w"
    refine ⟨m, n, es, G1, P0, rfl, j1, nt, hm.mono e1, hs, hB.1, nb, hB.2.2.1, fun kss ys p G2 H2 hKs np e2 j2 hp hy => ?_⟩
    obtain ⟨ks, rfl, hne⟩ := (hangs_iff hB.1 hKs).mp c
    have h0 := reach_zero (es := es) hB.1
    obtain rfl : Knot n es 0 = ks := List.mem_singleton.mp ((hKs.2 _).mpr ⟨0, h0, rfl⟩)
    obtain ⟨t, ht1, ht2⟩ := hy.2 0 _ rfl
    replace ht2 : G2 t = some (.tup ((Knot n es 0).map V.int)) := ht2
    obtain ⟨k0, hK⟩ := knotOk h0
    have hne2 := ring_some hK hne
    walk_at "w"
    refine w_ixL (j2.g _ _ hp) (atI_int (Int.le_refl 0) ht1) ?_
    walk_at "w"
    refine ⟨m, t, n, es, _, k0, G2, P0, rfl, j2, hm.mono (e1.trans e2), hB, nb, ht2, hK, asc_nodup (knot_asc n es 0), fun G3 H3 hno e3 j3 => absurd hno hne2, fun rs rs' tt t1 t2 G3 H3 hr hr' e3 j3 htt h1 h2 => ?_⟩
    have hS3 := hS.mono (e1.trans (e2.trans e3))
    have hp3 := hS3.1
    replace h1 : G3 t1 = some (.tup [.int (loX es rs), .int (loW es rs)]) := h1
    replace h2 : G3 t2 = some (.tup [.int (loX es rs'), .int (loW es rs')]) := h2
    have l1 := rng_lo hB hr.1
    have l2 := rng_lo hB hr'.1
    have w1 := rng_b hB hr.1
    have w2 := rng_b hB hr'.1
    have big : ∀ {x : Int}, -63000000000000 ≤ x → x ≤ 63000000000000 → x.natAbs < 2 ^ 1000 := fun h h' => big15 (by omega) (by omega)
    have p400 : ∀ {x : Nat}, x < 2 ^ 400 → x < 2 ^ 1000 := fun h => Nat.lt_of_lt_of_le h (Nat.pow_le_pow_right (by decide) (by decide))
    have v1 := (val_lo (es := es) (rs := rs) (by omega) a b).1
    have v2 := (val_lo (es := es) (rs := rs') (by omega) a b).2
    have ex1 : (∃ r, RngP es (Knot n es 0) r ∧ valOf a b es r < 0) ↔ valOf a b es rs < 0 := ⟨fun ⟨r, h3, h4⟩ => by
      have := end_val hB hS.2.1 hr h3 (a := a) (b := b) (by rw [Int.one_mul]; exact h4)
      rw [Int.one_mul] at this; exact this, fun h => ⟨rs, hr.1, h⟩⟩
    have ex2 : (∃ r, RngP es (Knot n es 0) r ∧ 0 < valOf a b es r) ↔ 0 < valOf a b es rs' := ⟨fun ⟨r, h3, h4⟩ => by
      have := end_val hB hS.2.1 hr' h3 (a := a) (b := b) (by rw [Int.neg_one_mul]; omega)
      rw [Int.neg_one_mul] at this; omega, fun h => ⟨rs', hr'.1, h⟩⟩
    walk_at "w"
    refine ⟨t1, q0, _, _, a, b, rfl, j3.g _ _ h1, j3.g _ _ hp3, big l1.1 l1.2.1, big (by omega) l1.2.2.2, p400 hS.2.2.2.1, p400 hS.2.2.2.2, ?_⟩
    walk_at "w"
    by_cases c1 : loX es rs * b < a * loW es rs
    rotate_left
    · rw [decide_eq_false c1]
      refine itBF rfl ?_
      exact q false G3 _ ⟨fun h => (nomatch h), fun h => absurd (v1.mpr (ex1.mp h.2.1)) c1⟩ (e1.trans (e2.trans e3)) j3
    rw [decide_eq_true c1]
    refine itBT rfl ?_
    walk_at "w"
    refine ⟨q0, t2, a, b, _, _, rfl, j3.g _ _ hp3, j3.g _ _ h2, p400 hS.2.2.2.1, p400 hS.2.2.2.2, big l2.1 l2.2.1, big (by omega) l2.2.2.2, ?_⟩
    refine q _ G3 _ ?_ (e1.trans (e2.trans e3)) j3
    rw [decide_eq_true_eq]
    exact ⟨fun h => ⟨c, ex1.mpr (v1.mp c1), ex2.mpr (v2.mp h)⟩, fun h => v2.mpr (ex2.mp h.2.2)⟩
end X

namespace X
open PySem PySem.Spec PyProof.Rows L2 Lv
variable {P : Program} {w : World} {K : PySem.W.Frag} {mg : Str → Option Value} {base : Heap}
/-- what of an event the rule tells -/
def leadE (a b step : Int) (h : Int → Int × Int) (e : Ev) : Int := (b * (h e.b).2 - a * (h e.b).1) % step
def letE (a b step : Int) (h : Int → Int × Int) (up : Bool) (e : Ev) : Int := if up = true ∨ leadE a b step h e = 0 then step - leadE a b step h e else leadE a b step h e
def risesB (a b : Int) (up : Bool) (e : Ev) : Bool := if up then decide (0 < liftE a b e) else decide (liftE a b e < 0)
def ruleE (a b step : Int) (h : Int → Int × Int) (up : Bool) (es : List Ev) (k : Nat) : List (List Int) := match es[k]? with
  | some e => if risesB a b up e then [[(k : Int), ((liftE a b e).natAbs : Nat), letE a b step h up e]] else []
  | none => []
def ruleTo (a b step : Int) (h : Int → Int × Int) (up : Bool) (es : List Ev) (i : Nat) : List (List Int) := (List.range i).flatMap (ruleE a b step h up es)
theorem ruleTo_more (a b step : Int) (h : Int → Int × Int) (up : Bool) (es : List Ev) (i : Nat) : ruleTo a b step h up es (i + 1) = ruleTo a b step h up es i ++ ruleE a b step h up es i := by
  unfold ruleTo
  rw [List.range_succ, List.flatMap_append]
  simp
theorem ruleE_len (a b step : Int) (h : Int → Int × Int) (up : Bool) (es : List Ev) (k : Nat) : (ruleE a b step h up es k).length ≤ 1 := by
  unfold ruleE
  split
  · split <;> simp
  · simp
theorem ruleTo_len (a b step : Int) (h : Int → Int × Int) (up : Bool) (es : List Ev) : ∀ i, (ruleTo a b step h up es i).length ≤ i
  | 0 => by simp [ruleTo]
  | i + 1 => by
    have h1 := ruleTo_len a b step h up es i
    have h2 := ruleE_len a b step h up es i
    rw [ruleTo_more, List.length_append]
    omega
theorem bal_step {n a b step : Int} {es : List Ev} (hb : Bal n a b es) (hm : MeasIs es (Knot n es 0) a b step) : 0 < step := by
  obtain ⟨_, ⟨rs, h1, h2⟩, _⟩ := hb
  obtain ⟨s, hs, hp⟩ := h1.2.2
  have hd := (hm.2 step).mp (Int.dvd_refl _) _ _ ⟨s, hs, pth_way hp⟩
  have h0 := hm.1
  by_cases c : step = 0
  · subst c
    have := Int.zero_dvd.mp hd
    unfold valOf at h2
    omega
  · omega
theorem aFld.neE {G G1 Pp H : Hp} {m : Addr} {n : Int} {es : List Ev} {Q : VK} (J : Join G1 Pp H) (e : Ex G G1) (h : MachK K G m n es) (q : ∀ t vs, G t = some (.tup vs) → EvL G vs es → Q (.ref t) H) : aFld K "events" (.ref m) H Q := by
  obtain ⟨C, hC, dx, t, ko, ks, h1, ⟨vs, h2, h3⟩, h4⟩ := h
  exact ⟨m, C, dx, _, _, rfl, J.g _ _ (e _ _ h1), hC.c, hC.ne, ml2 _ _ _, q t vs h2 h3⟩
def wayB (z : Str) : Bool := decide (z = "up")
def spRule (K : PySem.W.Frag) : Sp := fun vs H Q _ => ∃ (m q : Addr) (z : Str) (n a b : Int) (es : List Ev) (G P : Hp), vs = [.ref m, .ref q, .str z] ∧ Join G P H ∧ NT P ∧ MachK K G m n es ∧ EvB n es ∧ n ≤ 63 ∧ ShareAt G q a b ∧ Bal n a b es ∧ (∀ e ∈ es, e.b ∈ Knot n es 0) ∧
  ∀ (k0 : Int) (h : Int → Int × Int) (step : Int) p ws G' H', HtOk es (Knot n es 0) k0 h → k0 ∈ Knot n es 0 → MeasIs es (Knot n es 0) a b step → Ex G G' → Join G' P H' → H p = none → G' p = some (.lst ws) → TupL iV G' ws (ruleTo a b step h (wayB z) es es.length) → Q (.ref p) H'
theorem sc_rule_of : FnScope ["machine", "share", "way", "knot", "there", "step", "found", "number", "event", "rise", "lead", "let", "tries", "points"] ["machine", "share", "way"] (defScope s_rule_of) := ⟨rfl, rfl, rfl, by decide +kernel, rfl, by decide +kernel, by decide +kernel⟩
theorem ok_rule_of (T : Txt K mg) {fd_knots_of : FuncData} (G_knots_of : Dn P w K mg base (L2.CX P w) 4 "knots_of" ["machine"] (spKnots K) fd_knots_of) {fd_heights : FuncData} (G_heights : Dn P w K mg base (L2.CX P w) 2 "heights" ["machine", "knot"] (spHeights K) fd_heights) {fd_measure_of : FuncData} (G_measure_of : Dn P w K mg base (L2.CX P w) 4 "measure_of" ["machine", "share", "knot"] (spMeasOf K) fd_measure_of) {fd_lift_of : FuncData} (G_lift_of : Dn P w K mg base (L2.CX P w) 2 "lift_of" ["machine", "share", "event"] (spLift K) fd_lift_of) : ∃ fd, Dn P w K mg base (L2.CX P w) 6 "rule_of" ["machine", "share", "way"] (spRule K) fd := by
  obtain ⟨fd, F⟩ := T.d_rule_of
  refine ⟨fd, F.ok sc_rule_of (fun vs H Q E h => ?_) (fun cdv A outer s H vs Q E hr h => ?_), T.g_rule_of, F.kp, F.bindsN fun _ _ _ _ _ _ us hl => match us, hl with | [_, _, _], _ => rfl, Lv.fun_lk F⟩
  · obtain ⟨_, _, _, _, _, _, _, _, _, rfl, _⟩ := h
    rfl
  · have hu := hu_of hr
    have hr_knots_of : Room 4 _ := hr.mono (by decide)
    have hr_heights : Room 2 _ := hr.mono (by decide)
    have hr_measure_of : Room 4 _ := hr.mono (by decide)
    have hr_lift_of : Room 2 _ := hr.mono (by decide)
    refine ⟨_, PSs.nox (pss_cons (ps_set (i := 3) sc_rule_of.nd rfl (Or.inl rfl) (pe_ix ix_list (pe_call G_knots_of.ok hr_knots_of rfl G_knots_of.mg G_knots_of.kp G_knots_of.b .nil passL (pa_cons (pv 0) pa_nil)) pe_int (fun _ _ => rfl)))
      (pss_cons (ps_set (i := 4) sc_rule_of.nd rfl (Or.inl rfl) (pe_call G_heights.ok hr_heights rfl G_heights.mg G_heights.kp G_heights.b .nil passL (pa_cons (pv 0) (pa_cons (pv 3) pa_nil))))
      (pss_cons (ps_set (i := 5) sc_rule_of.nd rfl (Or.inl rfl) (pe_call G_measure_of.ok hr_measure_of rfl G_measure_of.mg G_measure_of.kp G_measure_of.b .nil passL (pa_cons (pv 0) (pa_cons (pv 1) (pa_cons (pv 3) pa_nil)))))
      (pss_cons (ps_set (i := 6) sc_rule_of.nd rfl (Or.inl rfl) (pe_lst pa_nil))
      (pss_cons (ps_for PassesOwn.never rfl (pi_enumT (by rfl) T.n_enumerate (pa_cons (pe_fld (pv 0) rfl) pa_nil)) (pg_tup rfl (pgs_cons (pg_name (i := 7) sc_rule_of.nd rfl (Or.inl rfl)) (pgs_cons (pg_name (i := 8) sc_rule_of.nd rfl (Or.inl rfl)) pgs_nil))) (pss_cons (ps_set (i := 9) sc_rule_of.nd rfl (Or.inl rfl) (pe_call G_lift_of.ok hr_lift_of rfl G_lift_of.mg G_lift_of.kp G_lift_of.b .nil passL (pa_cons (pv 0) (pa_cons (pv 1) (pa_cons (pv 7) pa_nil)))))
      (pss_one (ps_if (PW.pt (pw_and (pt_cmp (pc_din hu (pe_ix ix_tup (pv 8) pe_int (fun _ _ => rfl)) (pv 4))) (pw_and1 (Lv.pt_ifExp (pt_cmpR op_eq (pv 2) pe_str (nomark _)) (pt_cmpR op_gt (pv 9) pe_int (nomark _)) (pt_cmpR op_lt (pv 9) pe_int (nomark _)))))) (pss_cons (ps_asg (pe_dget hu (pv 4) (pe_ix ix_tup (pv 8) pe_int (fun _ _ => rfl)) (fun _ _ => rfl)) (pg_tup rfl (pgs_cons (pg_name (i := 12) sc_rule_of.nd rfl (Or.inl rfl)) (pgs_cons (pg_name (i := 13) sc_rule_of.nd rfl (Or.inl rfl)) pgs_nil))))
      (pss_cons (ps_set (i := 10) sc_rule_of.nd rfl (Or.inl rfl) (pe_op op_mod (pe_op op_sub (pe_op op_mulW (pe_ix ix_tup (pv 1) pe_int (fun _ _ => rfl)) (pv 13)) (pe_op op_mulW (pe_ix ix_tup (pv 1) pe_int (fun _ _ => rfl)) (pv 12))) (pv 5)))
      (pss_cons (ps_set (i := 11) sc_rule_of.nd rfl (Or.inl rfl) (pe_ifExp (PW.pt (pw_or (pt_cmpR op_eq (pv 2) pe_str (nomark _)) (pw_or1 (pt_cmpR op_eq (pv 10) pe_int (nomark _))))) (pe_op op_sub (pv 5) (pv 10)) (pv 10)))
      (pss_one (ps_expr (pe_bm PySem.F.plainAttrs_list PySem.F.slot_list_append PySem.F.type_list_append mt_append (pv 6) (pa_cons (pe_tup (pa_cons (pv 7) (pa_cons (pe_callB call_abs (by rfl) T.n_abs (by decide +kernel) (pa_cons (pv 9) pa_nil)) (pa_cons (pv 11) pa_nil)))) pa_nil))))))) pss_nil))))
      (pss_one (ps_ret (pv 6)))))))), ?_⟩
    obtain ⟨m, q0, z, n, a, b, es, G, P0, rfl, j, nt, hm, hB, nb, hS, hbal, hin, q⟩ := h
    have hs := evb_std hB
    walk_at "w"
    refine ⟨m, n, es, G, P0, rfl, j, nt, hm, hs, hB.1, nb, hB.2.2.1, fun kss ys p G2 H2 hKs np e2 j2 hp hy => ?_⟩
    obtain ⟨ks, rfl, hne⟩ := (hangs_iff hB.1 hKs).mp hbal.1
    have h0 := reach_zero (es := es) hB.1
    obtain rfl : Knot n es 0 = ks := List.mem_singleton.mp ((hKs.2 _).mpr ⟨0, h0, rfl⟩)
    obtain ⟨t, ht1, ht2⟩ := hy.2 0 _ rfl
    replace ht2 : G2 t = some (.tup ((Knot n es 0).map V.int)) := ht2
    obtain ⟨k0, hK⟩ := knotOk h0
    walk_at "w"
    refine w_ixL (j2.g _ _ hp) (atI_int (Int.le_refl 0) ht1) ?_
    replace hm := hm.mono e2; replace hS := hS.mono e2
    walk_at "w"
    refine ⟨m, t, n, es, _, k0, G2, P0, rfl, j2, hm, hB, nb, ht2, hK, fun h d G3 H3 hh hhb nd e3 j3 hd => ?_⟩
    replace ht2 := e3 _ _ ht2; replace hm := hm.mono e3; replace hS := hS.mono e3
    walk_at "w"
    refine ⟨m, q0, t, n, a, b, es, _, k0, G3, P0, rfl, j3, hm, hB, nb, hS, ht2, hK, fun step G4 H4 hM e4 j4 => ?_⟩
    replace ht2 := e4 _ _ ht2; replace hm := hm.mono e4; replace hS := hS.mono e4; replace hd := hd.mono e4
    have hst := bal_step hbal hM
    walk_at "w"
    refine aLst.go j4 (by show 0 ≤ 100000; decide) fun L G5 H5 hL e5 j5 hGL => ?_
    have gL := j4.ng hL
    walk_at "w"
    refine aFld.neE j5 e5 hm fun tv vs hvt hv => ?_
    have hl9 := hB.2.2.1
    refine aForE.go (fun i G' P' σ' => P' = P0 ∧ Ex G4 G' ∧ ∃ (s7 s8 s9 s10 s11 s12 s13 : Option V) (ws : List V), σ' = [some (.ref m), some (.ref q0), some (.str z), some (.ref t), some (.ref d), some (.int step), some (.ref L), s7, s8, s9, s10, s11, s12, s13] ∧ G' L = some (.lst ws) ∧ TupL iV G' ws (ruleTo a b step h (wayB z) es i)) j5 (e5 _ _ hvt) ⟨rfl, e5, _, _, _, _, _, _, _, [], rfl, hGL, TupL.nil⟩ (fun i G' P' σ' h => h.2.1 _ _ hvt) ?_ ?_
    · rintro i v T0 G0 G' P' H' σ' hx j' hT eT ⟨rfl, e0, s7, s8, s9, s10, s11, s12, s13, ws, rfl, hL', hw⟩
      obtain ⟨e, te, he, rfl, hte⟩ := hv.get hx
      have hem := List.mem_of_getElem? he
      have e' := e0.trans eT
      replace hte := e' _ _ hte
      replace hL' := eT _ _ hL'
      replace hw := TupL.mono eT hw
      have hil := (List.getElem?_eq_some_iff.mp he).1
      obtain ⟨kvs, hd1, hd2⟩ := hd.mono e'
      obtain ⟨tt, hv1, hv2⟩ := hd2 e.b (hin e hem)
      have hS' := (hS.mono e').1
      walk_at "w"
      refine ⟨m, q0, i, n, a, b, es, e, rfl, (hm.mono e').mono j'.exG, (hS.mono e').mono j'.exG, hB, he, ?_⟩
      walk_at "w"
      refine din_kv (k := .inl e.b) rfl (.inl (j'.g _ _ hd1)) ?_
      rw [hv1]
      walk_at "w"
      refine (if_pos rfl).mpr ?_
      walk_at "w"
      by_cases hup : z = "up"
      · have hwz : wayB z = true := decide_eq_true hup
        refine itT (congrArg V.str hup) ?_
        walk_at "w"
        by_cases hr : 0 < liftE a b e
        · have hBr : risesB a b (wayB z) e = true := by unfold risesB; rw [hwz]; exact decide_eq_true hr
          have hb1 := hhb e.b (hin e hem)
          refine itT hr ?_
          walk_at "w"
          refine dget_kv (k := .inl e.b) rfl (.inl (j'.g _ _ hd1)) hv1 ?_
          walk_at "w"
          refine w_rI (df_mul hS.2.2.2.2 (by omega)) ?_
          walk_at "w"
          refine w_rI (df_mul hS.2.2.2.1 (by omega)) ?_
          walk_at "w"
          refine w_rI hst ?_
          walk_at "w"
          refine (fun (hh : ∀ Q : VK, Q (.int (letE a b step h (wayB z) e)) H' → tIf _ _ _ _ _ Q) => hh _ ?_) ?_
          rotate_left
          · intro Q hQ
            refine w_ifE ?_
            walk_at "w"
            refine itT (congrArg V.str hup) ?_
            walk_at "w"
            have hlet : letE a b step h (wayB z) e = step - leadE a b step h e := by unfold letE; rw [if_pos (.inl hwz)]
            rw [hlet] at hQ
            exact hQ
          walk_at "w"
          refine aTup.go j' (by show 3 ≤ 100000; decide) fun t9 G9 H9 _ e9 j9 ht9 => ?_
          walk_at "w"
          refine append.go j9 (e9 _ _ hL') (by rw [hw.1]; have := ruleTo_len a b step h (wayB z) es i; omega) fun G8 H8 b8 j8 hL8 => ?_
          walk_at "w"
          have hGL4 : G4 L = none := gL
          refine ⟨G8, P', j8, rfl, b8.ex (e'.trans e9) hGL4, _, _, _, _, _, _, _, _, rfl, hL8, ?_⟩
          rw [ruleTo_more]
          unfold ruleE
          rw [he]
          have n9 : t9 ≠ L := fun e => by rw [e] at ht9; rw [e9 _ _ hL'] at ht9; cases ht9
          simp only [hBr, if_true]
          exact ((TupL.mono e9 hw).keep (e9 _ _ hL') fun c u nc hc => b8 _ _ hc nc).add (b8 _ _ ht9 n9)
        · have hBr : risesB a b (wayB z) e = false := by unfold risesB; rw [hwz]; exact decide_eq_false hr
          refine itF hr ?_
          walk_at "w"
          refine ⟨G', P', j', rfl, e', _, _, _, _, _, _, _, ws, rfl, hL', ?_⟩
          rw [ruleTo_more]
          unfold ruleE
          rw [he]
          simpa [hBr] using hw
      · have hwz : wayB z = false := decide_eq_false hup
        refine itF (fun h => hup (V.str.inj h)) ?_
        walk_at "w"
        by_cases hr : liftE a b e < 0
        · have hBr : risesB a b (wayB z) e = true := by unfold risesB; rw [hwz]; exact decide_eq_true hr
          have hb1 := hhb e.b (hin e hem)
          refine itT hr ?_
          walk_at "w"
          refine dget_kv (k := .inl e.b) rfl (.inl (j'.g _ _ hd1)) hv1 ?_
          walk_at "w"
          refine w_rI (df_mul hS.2.2.2.2 (by omega)) ?_
          walk_at "w"
          refine w_rI (df_mul hS.2.2.2.1 (by omega)) ?_
          walk_at "w"
          refine w_rI hst ?_
          walk_at "w"
          refine (fun (hh : ∀ Q : VK, Q (.int (letE a b step h (wayB z) e)) H' → tIf _ _ _ _ _ Q) => hh _ ?_) ?_
          rotate_left
          · intro Q hQ
            refine w_ifE ?_
            walk_at "w"
            refine itF (fun h => hup (V.str.inj h)) ?_
            walk_at "w"
            by_cases hl0 : leadE a b step h e = 0
            · refine itT (congrArg V.int hl0) ?_
              walk_at "w"
              have hlet : letE a b step h (wayB z) e = step - leadE a b step h e := by unfold letE; rw [if_pos (.inr hl0)]
              rw [hlet] at hQ
              exact hQ
            · refine itF (fun h => hl0 (V.int.inj h)) ?_
              walk_at "w"
              have hlet : letE a b step h (wayB z) e = leadE a b step h e := by unfold letE; rw [if_neg (fun h => h.elim (fun h => by rw [hwz] at h; cases h) hl0)]
              rw [hlet] at hQ
              exact hQ
          walk_at "w"
          refine aTup.go j' (by show 3 ≤ 100000; decide) fun t9 G9 H9 _ e9 j9 ht9 => ?_
          walk_at "w"
          refine append.go j9 (e9 _ _ hL') (by rw [hw.1]; have := ruleTo_len a b step h (wayB z) es i; omega) fun G8 H8 b8 j8 hL8 => ?_
          walk_at "w"
          have hGL4 : G4 L = none := gL
          refine ⟨G8, P', j8, rfl, b8.ex (e'.trans e9) hGL4, _, _, _, _, _, _, _, _, rfl, hL8, ?_⟩
          rw [ruleTo_more]
          unfold ruleE
          rw [he]
          have n9 : t9 ≠ L := fun e => by rw [e] at ht9; rw [e9 _ _ hL'] at ht9; cases ht9
          simp only [hBr, if_true]
          exact ((TupL.mono e9 hw).keep (e9 _ _ hL') fun c u nc hc => b8 _ _ hc nc).add (b8 _ _ ht9 n9)
        · have hBr : risesB a b (wayB z) e = false := by unfold risesB; rw [hwz]; exact decide_eq_false hr
          refine itF hr ?_
          walk_at "w"
          refine ⟨G', P', j', rfl, e', _, _, _, _, _, _, _, ws, rfl, hL', ?_⟩
          rw [ruleTo_more]
          unfold ruleE
          rw [he]
          simpa [hBr] using hw
    · rintro G' P' H' σ' j' ⟨rfl, e0, s7, s8, s9, s10, s11, s12, s13, ws, rfl, hL', hw⟩
      rw [hv.1] at hw
      walk_at "w"
      exact q k0 h step L ws G' H' hh (List.mem_of_getElem? hK.1) hM (((e2.trans e3).trans e4).trans e0) j' (((j.exH ((e2.trans e3).trans e4) j4).back hL)) hL' hw
def big (t : List Int) : Bool := match t with
  | [_, am, lt] => decide (lt < am)
  | _ => false
def RuleIs (n a b : Int) (up : Bool) (es : List Ev) (L : List (List Int)) : Prop := ∃ (k0 : Int) (h : Int → Int × Int) (step : Int), HtOk es (Knot n es 0) k0 h ∧ k0 ∈ Knot n es 0 ∧ MeasIs es (Knot n es 0) a b step ∧ L = ruleTo a b step h up es es.length
def spLeaping (K : PySem.W.Frag) : Sp := fun vs H Q _ => ∃ (m q : Addr) (z : Str) (n a b : Int) (es : List Ev) (G P : Hp), vs = [.ref m, .ref q, .str z] ∧ Join G P H ∧ NT P ∧ MachK K G m n es ∧ EvB n es ∧ n ≤ 63 ∧ ShareAt G q a b ∧ (Bal n a b es ∨ n = 1) ∧ (∀ e ∈ es, e.b ∈ Knot n es 0) ∧
  ∀ (L : List Int) p G' H', (Bal n a b es → ∃ T, RuleIs n a b (wayB z) es T ∧ L = (T.filter big).map (·.headD 0)) → (¬ Bal n a b es → L = []) → Ex G G' → Join G' P H' → G' p = some (.lst (L.map V.int)) → Q (.ref p) H'
theorem sc_leaping_events : FnScope ["machine", "share", "way", "table", "some", "event", "amount", "let"] ["machine", "share", "way"] (defScope s_leaping_events) := ⟨rfl, rfl, rfl, by decide +kernel, rfl, by decide +kernel, by decide +kernel⟩
theorem ok_leaping_events (T : Txt K mg) {fd_balanced : FuncData} (G_balanced : Dn P w K mg base (L2.CX P w) 6 "balanced" ["machine", "share"] (spBal K) fd_balanced) {fd_rule_of : FuncData} (G_rule_of : Dn P w K mg base (L2.CX P w) 6 "rule_of" ["machine", "share", "way"] (spRule K) fd_rule_of) : ∃ fd, Dn P w K mg base (L2.CX P w) 7 "leaping_events" ["machine", "share", "way"] (spLeaping K) fd := by
  obtain ⟨fd, F⟩ := T.d_leaping_events
  refine ⟨fd, F.ok sc_leaping_events (fun vs H Q E h => ?_) (fun cdv A outer s H vs Q E hr h => ?_), T.g_leaping_events, F.kp, F.bindsN fun _ _ _ _ _ _ us hl => match us, hl with | [_, _, _], _ => rfl, Lv.fun_lk F⟩
  · obtain ⟨_, _, _, _, _, _, _, _, _, rfl, _⟩ := h
    rfl
  · have hu := hu_of hr
    have hr_balanced : Room 6 _ := hr.mono (by decide)
    have hr_rule_of : Room 6 _ := hr.mono (by decide)
    refine ⟨_, PSs.nox (pss_cons (ps_if (pt_val (pe_call G_balanced.ok hr_balanced rfl G_balanced.mg G_balanced.kp G_balanced.b .nil passL (pa_cons (pv 0) (pa_cons (pv 1) pa_nil)))) (pss_one (ps_ret (pe_lc (own := [("event", 5), ("amount", 6), ("let", 7)]) (g := gTup K 3 (gCons (gName 5) (gCons (gName 6) (gCons (gName 7) gNil)))) rfl sc_leaping_events.nd (pi_list (pe_call G_rule_of.ok hr_rule_of rfl G_rule_of.mg G_rule_of.kp G_rule_of.b .nil passL (pa_cons (pv 0) (pa_cons (pv 1) (pa_cons (pv 2) pa_nil))))) (blkOk_by (N := ["machine", "share", "way", "table", "some", "event", "amount", "let"]) (sc := defScope s_leaping_events) (by decide +kernel)) (fun _ _ _ _ _ => (pg_tup rfl (pgs_cons (pg_name (i := 5) sc_leaping_events.nd rfl (Or.inl rfl) (hf := Or.inr rfl)) (pgs_cons (pg_name (i := 6) sc_leaping_events.nd rfl (Or.inl rfl) (hf := Or.inr rfl)) (pgs_cons (pg_name (i := 7) sc_leaping_events.nd rfl (Or.inl rfl) (hf := Or.inr rfl)) pgs_nil))))) (fun _ _ _ _ _ => (pts_one (pt_cmpR op_gt (pv 6) (pv 7) (nomark _)))) (fun _ _ _ _ _ => (pv 5))))) pss_nil)
      (pss_cons (ps_if (pt_cmpR op_eq (pe_fld (pv 0) rfl) pe_int (nomark _)) (pss_one (ps_ret (pe_lst pa_nil))) pss_nil)
      (pss_cons ps_never
      (pss_cons ps_never
      (pss_one ps_never))))), ?_⟩
    obtain ⟨m, q0, z, n, a, b, es, G, P0, rfl, j, nt, hm, hB, nb, hS, hor, hin, q⟩ := h
    walk_at "w"
    refine ⟨m, q0, n, a, b, es, G, P0, rfl, j, nt, hm, hB, nb, hS, fun bb G1 H1 hbb e1 j1 => ?_⟩
    cases bb with
    | true =>
      have hbal := hbb.mp rfl
      walk_at "w"
      refine ⟨m, q0, z, n, a, b, es, G1, P0, rfl, j1, nt, hm.mono e1, hB, nb, hS.mono e1, hbal, hin, fun k0 h step p ws G2 H2 hh hk hM e2 j2 hp hd hT => ?_⟩
      walk_at "w"
      refine aLcL.go (fun P2 => P2 = P0) (fun i us G2 => us = (((((ruleTo a b step h (wayB z) es es.length).take i).filter big).map (·.headD 0)).map V.int)) j2 rfl hd (fun _ _ => rfl) (fun i us G2 D _ _ hd h => h) (fun i us G2 h => ?_) ?_ ?_
      · rw [h, List.length_map, List.length_map]
        have h1 := List.length_filter_le big ((ruleTo a b step ‹Int → Int × Int› (wayB z) es es.length).take i)
        rw [List.length_take] at h1
        have h2 := ruleTo_len a b step ‹Int → Int × Int› (wayB z) es es.length
        have h3 := hB.2.2.1
        omega
      · intro i x us G3 P3 H3 R R0 hx e3 hI hP j3 kR kR0
        subst hP
        obtain ⟨t, tt, ht, rfl, htt⟩ := hT.get hx
        replace htt := e3 _ _ htt
        obtain ⟨k, am, lt, rfl⟩ : ∃ k am lt : Int, t = [k, am, lt] := by
          have := List.mem_of_getElem? ht
          unfold ruleTo at this
          obtain ⟨i, _, hi⟩ := List.mem_flatMap.mp this
          unfold ruleE at hi
          split at hi
          · split at hi
            · exact ⟨_, _, _, List.mem_singleton.mp hi⟩
            · cases hi
          · cases hi
        replace htt : G3 tt = some (.tup [.int k, .int am, .int lt]) := htt
        walk_at "w"
        refine ⟨rfl, ?_⟩
        walk_at "w"
        by_cases hc : lt < am
        · refine itT hc ?_
          walk_at "w"
          refine kR _ _ _ H3 (Ex.refl _) rfl j3 ?_
          rw [hI, take_more ht, List.filter_append, List.filter_cons, if_pos (show big [k, am, lt] = true from decide_eq_true hc)]
          simp
        · refine itF hc ?_
          refine kR0 _ _ H3 (Ex.refl _) rfl j3 ?_
          rw [hI, take_more ht, List.filter_append, List.filter_cons, if_neg (show ¬ big [k, am, lt] = true by unfold big; simpa using hc)]
          simp
      · intro p2 us G3 P3 H3 hp2 e3 hd3 hI hP j3
        subst hP
        rw [hT.1, List.take_length] at hI
        subst hI
        exact q _ p2 G3 H3 (fun _ => ⟨_, ⟨k0, h, step, hh, hk, hM, rfl⟩, rfl⟩) (fun c => absurd hbal c) (e1.trans (e2.trans e3)) j3 hd3
    | false =>
      have hnb : ¬ Bal n a b es := fun c => nomatch hbb.mpr c
      obtain rfl : n = 1 := hor.resolve_left hnb
      walk_at "w"
      refine aFld.ns j1 (hm.mono e1) ?_
      walk_at "w"
      refine itT rfl ?_
      walk_at "w"
      refine aLst.go j1 (by show 0 ≤ 100000; decide) fun L G2 H2 hL e2 j2 hGL => ?_
      exact q [] L G2 H2 (fun c => absurd c hnb) (fun _ => rfl) (e1.trans e2) j2 hGL
def spNever (K : PySem.W.Frag) : Sp := fun vs H Q _ => ∃ (m q : Addr) (z : Str) (n a b : Int) (es : List Ev) (G P : Hp), vs = [.ref m, .ref q, .str z] ∧ Join G P H ∧ NT P ∧ MachK K G m n es ∧ EvB n es ∧ n ≤ 63 ∧ ShareAt G q a b ∧ z ∈ ways ∧ (Bal n a b es ∨ n = 1) ∧ (∀ e ∈ es, e.b ∈ Knot n es 0) ∧
  ∀ (nb : Bool) G' H', (Bal n a b es → ∃ T, RuleIs n a b (wayB z) es T ∧ (nb = true ↔ ∀ t ∈ T, big t = false)) → (¬ Bal n a b es → nb = true) → Ex G G' → Join G' P H' → Q (.bl nb) H'
theorem sc_never_by : FnScope ["machine", "share", "way"] ["machine", "share", "way"] (defScope s_never_by) := ⟨rfl, rfl, rfl, by decide +kernel, rfl, by decide +kernel, by decide +kernel⟩
theorem ok_never_by (T : Txt K mg) {fd_leaping_events : FuncData} (G_leaping_events : Dn P w K mg base (L2.CX P w) 7 "leaping_events" ["machine", "share", "way"] (spLeaping K) fd_leaping_events) : ∃ fd, Dn P w K mg base (L2.CX P w) 8 "never_by" ["machine", "share", "way"] (spNever K) fd := by
  obtain ⟨fd, F⟩ := T.d_never_by
  refine ⟨fd, F.ok sc_never_by (fun vs H Q E h => ?_) (fun cdv A outer s H vs Q E hr h => ?_), T.g_never_by, F.kp, F.bindsN fun _ _ _ _ _ _ us hl => match us, hl with | [_, _, _], _ => rfl, Lv.fun_lk F⟩
  · obtain ⟨_, _, _, _, _, _, _, _, _, rfl, _⟩ := h
    rfl
  · have hu := hu_of hr
    have hr_leaping_events : Room 7 _ := hr.mono (by decide)
    refine ⟨_, PSs.nox (pss_one (ps_ret (pe_cmpR op_eq (pe_callB call_len_seq (by rfl) T.n_len PySem.boot_len (pa_cons (pe_call G_leaping_events.ok hr_leaping_events rfl G_leaping_events.mg G_leaping_events.kp G_leaping_events.b .nil passL (pa_cons (pv 0) (pa_cons (pv 1) (pa_cons (pv 2) pa_nil)))) pa_nil)) pe_int (nomark _)))), ?_⟩
    obtain ⟨m, q0, z, n, a, b, es, G, P0, rfl, j, nt, hm, hB, nb, hS, hz, hor, hin, q⟩ := h
    walk_at "w"
    refine ⟨m, q0, z, n, a, b, es, G, P0, rfl, j, nt, hm, hB, nb, hS, hor, hin, fun L p G1 H1 h1 h2 e1 j1 hp => ?_⟩
    walk_at "w"
    have hd : decide (V.int ((L.map V.int).length : Nat) = V.int 0) = decide (L = []) := decide_eq_decide.mpr (by
      cases L with
      | nil => simp
      | cons x r => simp; omega)
    rw [hd]
    refine q _ G1 H1 (fun hb => ?_) (fun hb => decide_eq_true (h2 hb)) e1 j1
    obtain ⟨T, hT, rfl⟩ := h1 hb
    refine ⟨T, hT, ?_⟩
    rw [decide_eq_true_iff, List.map_eq_nil_iff, List.filter_eq_nil_iff]
    exact ⟨fun h t ht => by simpa using h t ht, fun h t ht => by simpa using h t ht⟩
theorem sc_never : FnScope ["machine", "share", "way"] ["machine", "share", "way"] (defScope s_never) := ⟨rfl, rfl, rfl, by decide +kernel, rfl, by decide +kernel, by decide +kernel⟩
theorem ok_never (T : Txt K mg) {fd_check_share : FuncData} (G_check_share : Dn P w K mg base (L2.CX P w) 4 "check_share" ["thing"] (sp_check_share K) fd_check_share) {fd_check_way : FuncData} (G_check_way : Dn P w K mg base (L2.CX P w) 1 "check_way" ["thing"] (sp_check_way K) fd_check_way) {fd_never_by : FuncData} (G_never_by : Dn P w K mg base (L2.CX P w) 8 "never_by" ["machine", "share", "way"] (spNever K) fd_never_by) : ∃ fd, Dn P w K mg base (L2.CX P w) 9 "never" ["machine", "share", "way"] (spNever K) fd := by
  obtain ⟨fd, F⟩ := T.d_never
  refine ⟨fd, F.ok sc_never (fun vs H Q E h => ?_) (fun cdv A outer s H vs Q E hr h => ?_), T.g_never, F.kp, F.bindsN fun _ _ _ _ _ _ us hl => match us, hl with | [_, _, _], _ => rfl, Lv.fun_lk F⟩
  · obtain ⟨_, _, _, _, _, _, _, _, _, rfl, _⟩ := h
    rfl
  · have hu := hu_of hr
    have hr_check_share : Room 4 _ := hr.mono (by decide)
    have hr_check_way : Room 1 _ := hr.mono (by decide)
    have hr_never_by : Room 8 _ := hr.mono (by decide)
    refine ⟨_, PSs.nox (pss_cons (ps_expr (pe_call G_check_share.ok hr_check_share rfl G_check_share.mg G_check_share.kp G_check_share.b .nil passL (pa_cons (pv 1) pa_nil)))
      (pss_cons (ps_expr (pe_call G_check_way.ok hr_check_way rfl G_check_way.mg G_check_way.kp G_check_way.b .nil passL (pa_cons (pv 2) pa_nil)))
      (pss_one (ps_ret (pe_call G_never_by.ok hr_never_by rfl G_never_by.mg G_never_by.kp G_never_by.b .nil passL (pa_cons (pv 0) (pa_cons (pv 1) (pa_cons (pv 2) pa_nil)))))))), ?_⟩
    obtain ⟨m, q0, z, n, a, b, es, G, P0, rfl, j, nt, hm, hB, nb, hS, hz, hor, hin, q⟩ := h
    walk_at "w"
    refine ⟨q0, a, b, rfl, (hS.mono j.exG).1, hS.2.1, hS.2.2.1, ?_⟩
    walk_at "w"
    refine ⟨z, rfl, hz, ?_⟩
    walk_at "w"
    exact ⟨m, q0, z, n, a, b, es, G, P0, rfl, j, nt, hm, hB, nb, hS, hz, hor, hin, q⟩
end X

namespace X
open PySem PySem.Spec PyProof.Rows L2 Lv
/-- events of one standing -/
def One (es : List Ev) : Prop := ∀ e ∈ es, e.b = 0 ∧ e.a = 0
def sgW (z : Str) : Int := if z = "up" then 1 else -1
def dueL (sg a b : Int) (es : List Ev) : List Int := es.map fun e => sg * liftE a b e
def riseL (sg a b : Int) (es : List Ev) : List Int := (dueL sg a b es).filter fun x => decide (0 < x)
def fallL (sg a b : Int) (es : List Ev) : List Int := (dueL sg a b es).filter fun x => decide (x < 0)
def dueB (rs fs : List Int) : Bool := decide (rs = [] ∨ fs = []) || (rs.all (fun x => decide (x = rs.headD 0)) && fs.all (fun x => decide (x % rs.headD 0 = 0)))
variable {a b : Int} {es : List Ev}
theorem knot_one {x : Int} : x ∈ Knot 1 es 0 ↔ x = 0 := by
  constructor
  · intro h
    have := (reach_mem.mp (knot_mem.mp h).1).1
    omega
  · rintro rfl
    have h := reach_zero (n := 1) (es := es) (Int.le_refl 1)
    exact knot_mem.mpr ⟨h, .refl, .refl⟩
theorem hangs_one (h1 : One es) (hne : es ≠ []) : Hangs 1 es := by
  refine ⟨fun s hs => ?_, ?_⟩
  · obtain rfl : s = 0 := by have := (reach_mem.mp hs).1; omega
    exact .refl
  · obtain ⟨e, r, rfl⟩ := List.exists_cons_of_ne_nil hne
    have he := h1 e List.mem_cons_self
    refine ⟨e, List.mem_cons_self, ?_, ?_⟩
    · rw [he.1]; exact reach_zero (Int.le_refl 1)
    · rw [he.2]; exact reach_zero (Int.le_refl 1)
theorem val_ev {k : Nat} {e : Ev} (he : es[k]? = some e) : valOf a b es [k] = liftE a b e := by
  rw [← val_sum]
  unfold liftAt
  simp [he]
theorem ev_ring (h1 : One es) {k : Nat} {e : Ev} (he : es[k]? = some e) : RngP es (Knot 1 es 0) [k] := by
  have h := h1 e (List.mem_of_getElem? he)
  exact ⟨by simp, by simp, 0, knot_one.mpr rfl, e, he, h.1, by rw [h.2]; exact knot_one.mpr rfl, h.2⟩
theorem sum_neg : ∀ {l : List Int}, l.sum < 0 → ∃ x ∈ l, x < 0
  | [], h => absurd h (by decide)
  | x :: r, h => by
    rw [List.sum_cons] at h
    by_cases c : x < 0
    · exact ⟨x, List.mem_cons_self, c⟩
    · obtain ⟨y, h1, h2⟩ := sum_neg (l := r) (by omega)
      exact ⟨y, List.mem_cons_of_mem _ h1, h2⟩
theorem sum_pos : ∀ {l : List Int}, 0 < l.sum → ∃ x ∈ l, 0 < x
  | [], h => absurd h (by decide)
  | x :: r, h => by
    rw [List.sum_cons] at h
    by_cases c : 0 < x
    · exact ⟨x, List.mem_cons_self, c⟩
    · obtain ⟨y, h1, h2⟩ := sum_pos (l := r) (by omega)
      exact ⟨y, List.mem_cons_of_mem _ h1, h2⟩
theorem lift_mem {rs : List Nat} {x : Int} (hx : x ∈ rs.map (liftAt a b es)) (h0 : x ≠ 0) : ∃ e ∈ es, liftE a b e = x := by
  obtain ⟨k, _, rfl⟩ := List.mem_map.mp hx
  unfold liftAt at *
  cases he : es[k]? with
  | none => rw [he] at h0; exact absurd rfl h0
  | some e => exact ⟨e, List.mem_of_getElem? he, rfl⟩
theorem bal_one (h1 : One es) : Bal 1 a b es ↔ (∃ e ∈ es, liftE a b e < 0) ∧ ∃ e ∈ es, 0 < liftE a b e := by
  constructor
  · rintro ⟨_, ⟨rs, _, hv⟩, ⟨rs', _, hv'⟩⟩
    rw [← val_sum] at hv hv'
    obtain ⟨x, hx, hx0⟩ := sum_neg hv
    obtain ⟨y, hy, hy0⟩ := sum_pos hv'
    obtain ⟨e, he, rfl⟩ := lift_mem hx (by omega)
    obtain ⟨e', he', rfl⟩ := lift_mem hy (by omega)
    exact ⟨⟨e, he, hx0⟩, e', he', hy0⟩
  · rintro ⟨⟨e, he, hv⟩, e', he', hv'⟩
    obtain ⟨k, hk⟩ := List.getElem?_of_mem he
    obtain ⟨k', hk'⟩ := List.getElem?_of_mem he'
    refine ⟨hangs_one h1 (List.ne_nil_of_mem he), ⟨[k], ev_ring h1 hk, ?_⟩, [k'], ev_ring h1 hk', ?_⟩
    · rw [val_ev hk]; exact hv
    · rw [val_ev hk']; exact hv'
theorem way_dvd {ks : List Int} {s t w x d : Int} (h : Way es ks s t w x) (hd : ∀ e ∈ es, d ∣ liftE a b e) : d ∣ b * x - a * w := by
  induction h with
  | nil => simp
  | snoc _ he _ _ ih =>
    have := Int.dvd_add ih (hd _ he)
    unfold liftE at this
    rw [Int.mul_add, Int.mul_add]
    refine (Int.dvd_iff_emod_eq_zero ..).mpr ?_
    have e := Int.emod_eq_zero_of_dvd this
    rw [← e]; congr 1; omega
theorem meas_one {m : Int} (h1 : One es) (hM : MeasIs es (Knot 1 es 0) a b m) (d : Int) : d ∣ m ↔ ∀ e ∈ es, d ∣ liftE a b e := by
  rw [hM.2]
  constructor
  · intro h e he
    obtain ⟨q1, q2⟩ := h1 e he
    have hw := Way.one (ks := Knot 1 es 0) he (by rw [q2]; exact knot_one.mpr rfl)
    rw [q1, q2] at hw
    exact h _ _ ⟨0, knot_one.mpr rfl, hw⟩
  · rintro h w x ⟨s, _, hw⟩
    exact way_dvd hw h
theorem let_one {m : Int} {k0 : Int} {h : Int → Int × Int} {up : Bool} (h1 : One es) (hM : MeasIs es (Knot 1 es 0) a b m) (hh : HtOk es (Knot 1 es 0) k0 h) (hk : k0 ∈ Knot 1 es 0) {e : Ev} (he : e ∈ es) : letE a b m h up e = m := by
  have h0 : leadE a b m h e = 0 := by
    unfold leadE
    obtain rfl := knot_one.mp hk
    rw [(h1 e he).1]
    exact Int.emod_eq_zero_of_dvd ((hM.2 m).mp (Int.dvd_refl _) _ _ ⟨0, hk, hh 0 hk⟩)
  unfold letE
  rw [if_pos (.inr h0), h0, Int.sub_zero]
theorem rise_mem {sg x : Int} : x ∈ riseL sg a b es ↔ (∃ e ∈ es, sg * liftE a b e = x) ∧ 0 < x := by
  unfold riseL dueL
  rw [List.mem_filter, List.mem_map, decide_eq_true_iff]
theorem fall_mem {sg x : Int} : x ∈ fallL sg a b es ↔ (∃ e ∈ es, sg * liftE a b e = x) ∧ x < 0 := by
  unfold fallL dueL
  rw [List.mem_filter, List.mem_map, decide_eq_true_iff]
theorem one_law {z : Str} (hz : z ∈ ways) (h1 : One es) (nb : Bool) (p1 : Bal 1 a b es → ∃ T, RuleIs 1 a b (wayB z) es T ∧ (nb = true ↔ ∀ t ∈ T, big t = false)) (p2 : ¬ Bal 1 a b es → nb = true) : nb = dueB (riseL (sgW z) a b es) (fallL (sgW z) a b es) := by
  have hsg : sgW z = 1 ∧ wayB z = true ∨ sgW z = -1 ∧ wayB z = false := by
    unfold sgW wayB
    by_cases c : z = "up"
    · left; exact ⟨if_pos c, decide_eq_true c⟩
    · right; exact ⟨if_neg c, decide_eq_false c⟩
  have hrise : ∀ e, risesB a b (wayB z) e = true ↔ 0 < sgW z * liftE a b e := fun e => by
    unfold risesB
    rcases hsg with ⟨q1, q2⟩ | ⟨q1, q2⟩
    · rw [q1, q2]; simp
    · rw [q1, q2]; simp
  have habs : ∀ e, 0 < sgW z * liftE a b e → ((liftE a b e).natAbs : Int) = sgW z * liftE a b e := fun e he => by
    rcases hsg with ⟨q1, q2⟩ | ⟨q1, q2⟩
    · rw [q1] at he ⊢; omega
    · rw [q1] at he ⊢; omega
  have hdv : ∀ e d, d ∣ sgW z * liftE a b e ↔ d ∣ liftE a b e := fun e d => by
    rcases hsg with ⟨q1, q2⟩ | ⟨q1, q2⟩
    · rw [q1, Int.one_mul]
    · rw [q1, Int.neg_one_mul, Int.dvd_neg]
  have hbal : Bal 1 a b es ↔ riseL (sgW z) a b es ≠ [] ∧ fallL (sgW z) a b es ≠ [] := by
    rw [bal_one h1]
    have k1 : riseL (sgW z) a b es ≠ [] ↔ ∃ e ∈ es, 0 < sgW z * liftE a b e := by
      constructor
      · intro h
        obtain ⟨x, r, hx⟩ := List.exists_cons_of_ne_nil h
        obtain ⟨⟨e, he, hx1⟩, hx2⟩ := rise_mem.mp (show x ∈ riseL (sgW z) a b es by rw [hx]; exact List.mem_cons_self)
        exact ⟨e, he, by omega⟩
      · rintro ⟨e, he, hx⟩
        exact List.ne_nil_of_mem (rise_mem.mpr ⟨⟨e, he, rfl⟩, hx⟩)
    have k2 : fallL (sgW z) a b es ≠ [] ↔ ∃ e ∈ es, sgW z * liftE a b e < 0 := by
      constructor
      · intro h
        obtain ⟨x, r, hx⟩ := List.exists_cons_of_ne_nil h
        obtain ⟨⟨e, he, hx1⟩, hx2⟩ := fall_mem.mp (show x ∈ fallL (sgW z) a b es by rw [hx]; exact List.mem_cons_self)
        exact ⟨e, he, by omega⟩
      · rintro ⟨e, he, hx⟩
        exact List.ne_nil_of_mem (fall_mem.mpr ⟨⟨e, he, rfl⟩, hx⟩)
    rw [k1, k2]
    rcases hsg with ⟨q1, q2⟩ | ⟨q1, q2⟩
    · rw [q1]
      simp only [Int.one_mul]
      exact And.comm
    · rw [q1]
      simp only [Int.neg_one_mul, Int.neg_pos, Int.neg_neg_iff_pos]
  by_cases hB : Bal 1 a b es
  · obtain ⟨T, ⟨k0, h, m, hh, hk, hM, rfl⟩, hnb⟩ := p1 hB
    have hm := bal_step hB hM
    obtain ⟨n1, n2⟩ := hbal.mp hB
    have hT : (∀ t ∈ ruleTo a b m h (wayB z) es es.length, big t = false) ↔ ∀ x ∈ riseL (sgW z) a b es, x ≤ m := by
      constructor
      · intro hb x hx
        obtain ⟨⟨e, he, rfl⟩, hx2⟩ := rise_mem.mp hx
        obtain ⟨k, hke⟩ := List.getElem?_of_mem he
        have hkl := (List.getElem?_eq_some_iff.mp hke).1
        have := hb [(k : Int), ((liftE a b e).natAbs : Nat), letE a b m h (wayB z) e] (by
          unfold ruleTo
          refine List.mem_flatMap.mpr ⟨k, List.mem_range.mpr hkl, ?_⟩
          unfold ruleE
          rw [hke]
          simp [(hrise e).mpr hx2])
        rw [let_one h1 hM hh hk he] at this
        unfold big at this
        have := of_decide_eq_false this
        rw [← habs e hx2]
        omega
      · intro hb t ht
        unfold ruleTo at ht
        obtain ⟨k, hk2, ht⟩ := List.mem_flatMap.mp ht
        unfold ruleE at ht
        cases hke : es[k]? with
        | none => rw [hke] at ht; cases ht
        | some e =>
          rw [hke] at ht
          have he := List.mem_of_getElem? hke
          by_cases c : risesB a b (wayB z) e = true
          · simp only [c, if_true] at ht
            obtain rfl := List.mem_singleton.mp ht
            rw [let_one h1 hM hh hk he]
            have hx := (hrise e).mp c
            have := hb _ (rise_mem.mpr ⟨⟨e, he, rfl⟩, hx⟩)
            rw [← habs e hx] at this
            refine decide_eq_false ?_
            omega
          · simp only [c] at ht
            cases ht
    have hge : ∀ x ∈ riseL (sgW z) a b es, m ≤ x := fun x hx => by
      obtain ⟨⟨e, he, rfl⟩, hx2⟩ := rise_mem.mp hx
      exact Int.le_of_dvd hx2 ((hdv e m).mpr ((meas_one h1 hM m).mp (Int.dvd_refl _) e he))
    obtain ⟨r0, rr, hr⟩ := List.exists_cons_of_ne_nil n1
    have r0m : r0 ∈ riseL (sgW z) a b es := by rw [hr]; exact List.mem_cons_self
    have hdue : dueB (riseL (sgW z) a b es) (fallL (sgW z) a b es) = true ↔ (∀ x ∈ riseL (sgW z) a b es, x = r0) ∧ ∀ x ∈ fallL (sgW z) a b es, x % r0 = 0 := by
      unfold dueB
      rw [show decide (riseL (sgW z) a b es = [] ∨ fallL (sgW z) a b es = []) = false from decide_eq_false (fun h => h.elim n1 n2), Bool.false_or, Bool.and_eq_true, List.all_eq_true, List.all_eq_true]
      simp only [decide_eq_true_iff]
      rw [show (riseL (sgW z) a b es).headD 0 = r0 by rw [hr]; rfl]
    rw [Bool.eq_iff_iff, hnb, hT, hdue]
    constructor
    · intro hb
      have hr0 : r0 = m := Int.le_antisymm (hb _ r0m) (hge _ r0m)
      refine ⟨fun x hx => by have := hb _ hx; have := hge _ hx; omega, fun x hx => ?_⟩
      obtain ⟨⟨e, he, rfl⟩, hx2⟩ := fall_mem.mp hx
      rw [hr0]
      exact Int.emod_eq_zero_of_dvd ((hdv e m).mpr ((meas_one h1 hM m).mp (Int.dvd_refl _) e he))
    · rintro ⟨q1, q2⟩ x hx
      rw [q1 x hx]
      refine Int.le_of_dvd hm ((meas_one h1 hM r0).mpr fun e he => (hdv e r0).mp ?_)
      rcases Int.lt_trichotomy (sgW z * liftE a b e) 0 with c | c | c
      · exact Int.dvd_of_emod_eq_zero (q2 _ (fall_mem.mpr ⟨⟨e, he, rfl⟩, c⟩))
      · rw [c]; exact Int.dvd_zero _
      · rw [q1 _ (rise_mem.mpr ⟨⟨e, he, rfl⟩, c⟩)]; exact Int.dvd_refl _
  · rw [p2 hB]
    have : riseL (sgW z) a b es = [] ∨ fallL (sgW z) a b es = [] := Decidable.byContradiction fun c => hB (hbal.mpr ⟨fun h => c (.inl h), fun h => c (.inr h)⟩)
    unfold dueB
    rw [decide_eq_true this]; rfl
end X

namespace X
open PySem PySem.Spec PyProof.Rows L2 Lv
variable {P : Program} {w : World} {K : PySem.W.Frag} {mg : Str → Option Value} {base : Heap}
def spIsI (K : PySem.W.Frag) : Sp := fun vs H Q _ => ∃ (v : V) (G : Hp), vs = [v] ∧ Ex G H ∧ Kd G v ∧ Q (.bl (isI v)) H
theorem okX_is_integer (T : Txt K mg) : ∃ fd, Dn P w K mg base (L2.CX P w) 1 "is_integer" ["thing"] (spIsI K) fd := by
  obtain ⟨fd, F⟩ := T.d_is_integer
  refine ⟨fd, F.ok sc_is_integer (fun vs H Q E h => ?_) (fun cdv A outer s H vs Q E hr h => ?_), T.g_is_integer, F.kp, F.bindsN fun _ _ _ _ _ _ us hl => match us, hl with | [_], _ => rfl, Lv.fun_lk F⟩
  · obtain ⟨_, _, rfl, _⟩ := h
    rfl
  · have hu := hu_of hr
    refine ⟨_, PSs.nox (pss_one (ps_ret (pe_and (pe_callB call_isi (by rfl) T.n_isinstance (by decide +kernel) (pa_cons (pv 0) (pa_cons (pe_bltn (v := .ty "int") (by rfl) T.n_int (by decide +kernel) rfl) pa_nil))) (pe_one (pe_not (pe_callB call_isi (by rfl) T.n_isinstance (by decide +kernel) (pa_cons (pv 0) (pa_cons (pe_bltn (v := .ty "bool") (by rfl) T.n_bool (by decide +kernel) rfl) pa_nil)))))))), ?_⟩
    obtain ⟨v, G, rfl, e, hk, q⟩ := h
    walk_at "w"
    refine isi_I e hk ?_
    walk_at "w"
    by_cases h : (isI v || isB v) = true
    · refine itBT h ?_
      walk_at "w"
      refine isi_B e hk ?_
      walk_at "w"
      have e2 : (!isB v) = isI v := by cases hk <;> first | rfl | (exact absurd h (by simp [isI, isB]))
      rw [e2]; exact q
    · refine (if_neg h).mpr ?_
      have e2 : isI v = false := by
        cases h2 : isI v with
        | false => rfl
        | true => exact absurd (by rw [h2]; rfl) h
      rw [e2] at q; exact q
/-- an int within -/
def inB (v : V) (a b : Int) : Bool := match v with
  | .int n => decide (a ≤ n ∧ n ≤ b)
  | _ => false
def spIsW (K : PySem.W.Frag) : Sp := fun vs H Q _ => ∃ (v : V) (a b : Int) (G : Hp), vs = [v, .int a, .int b] ∧ Ex G H ∧ Kd G v ∧ Q (.bl (inB v a b)) H
theorem okX_is_within (T : Txt K mg) {fd_is_integer : FuncData} (G_is_integer : Dn P w K mg base (L2.CX P w) 1 "is_integer" ["thing"] (spIsI K) fd_is_integer) : ∃ fd, Dn P w K mg base (L2.CX P w) 2 "is_within" ["thing", "least", "most"] (spIsW K) fd := by
  obtain ⟨fd, F⟩ := T.d_is_within
  refine ⟨fd, F.ok sc_is_within (fun vs H Q E h => ?_) (fun cdv A outer s H vs Q E hr h => ?_), T.g_is_within, F.kp, F.bindsN fun _ _ _ _ _ _ us hl => match us, hl with | [_, _, _], _ => rfl, Lv.fun_lk F⟩
  · obtain ⟨_, _, _, _, rfl, _⟩ := h
    rfl
  · have hu := hu_of hr
    have hr_is_integer : Room 1 _ := hr.mono (by decide)
    refine ⟨_, PSs.nox (pss_one (ps_ret (pe_and (pe_call G_is_integer.ok hr_is_integer rfl G_is_integer.mg G_is_integer.kp G_is_integer.b .nil passL (pa_cons (pv 0) pa_nil)) (pe_one (pe_chain op_le op_le (pv 1) (pv 0) (pv 2)))))), ?_⟩
    obtain ⟨v, a, b, G, rfl, e, hk, q⟩ := h
    walk_at "w"
    refine ⟨v, G, rfl, e, hk, ?_⟩
    walk_at "w"
    cases hk with
    | int n =>
      refine itBT rfl ?_
      refine ⟨_, rfl, _, rfl, a, n, rfl, rfl, _, rfl, ?_⟩
      by_cases h1 : a ≤ n
      · refine itT h1 ⟨_, rfl, n, b, rfl, rfl, ?_⟩
        have e : decide (a ≤ n ∧ n ≤ b) = decide (n ≤ b) := by simp [h1]
        have q2 : Q (.bl (decide (a ≤ n ∧ n ≤ b))) H := q
        rw [e] at q2; exact q2
      · refine itF h1 ?_
        have e : decide (a ≤ n ∧ n ≤ b) = false := by simp [h1]
        have q2 : Q (.bl (decide (a ≤ n ∧ n ≤ b))) H := q
        rw [e] at q2; exact q2
    | _ => exact itBF rfl q
/-- things whose items are things -/
def Kd2 (G : Hp) (v : V) : Prop := Kd G v ∧ ∀ (a : Addr) (xs : List V), v = .ref a → G a = some (.tup xs) → xs.length ≤ 1000 ∧ ∀ x ∈ xs, Kd G x
theorem Kd2.mono {G G' : Hp} {v : V} (e : Ex G G') (h : Kd2 G v) : Kd2 G' v := by
  refine ⟨h.1.mono e, fun a xs ev ha => ?_⟩
  subst ev
  cases h.1 with
  | lst g => rw [e _ _ g] at ha; cases ha
  | tup g =>
    have g2 := e _ _ g
    rw [ha] at g2
    cases g2
    exact ⟨(h.2 a xs rfl g).1, fun x hx => ((h.2 a xs rfl g).2 x hx).mono e⟩
  | dic g => rw [e _ _ g] at ha; cases ha
def intV (v : V) : Int := match v with
  | .int n => n
  | _ => 0
theorem isI_int {v : V} (h : isI v = true) : v = .int (intV v) := by cases v <;> first | rfl | cases h
theorem inB_int {v : V} {a b : Int} (h : inB v a b = true) : v = .int (intV v) ∧ a ≤ intV v ∧ intV v ≤ b := by
  cases v with
  | int n => exact ⟨rfl, of_decide_eq_true h⟩
  | _ => cases h
theorem Kd2.int {G : Hp} (n : Int) : Kd2 G (.int n) := ⟨.int n, fun _ _ h => nomatch h⟩
theorem Kd2.bl {G : Hp} (b : Bool) : Kd2 G (.bl b) := ⟨.bl b, fun _ _ h => nomatch h⟩
theorem Kd2.non {G : Hp} : Kd2 G .non := ⟨.non, fun _ _ h => nomatch h⟩
theorem Kd2.str {G : Hp} (z : Str) : Kd2 G (.str z) := ⟨.str z, fun _ _ h => nomatch h⟩
theorem Kd2.tup {G : Hp} {a : Addr} {xs : List V} (h : G a = some (.tup xs)) (hl : xs.length ≤ 1000) (hx : ∀ x ∈ xs, Kd G x) : Kd2 G (.ref a) := ⟨.tup h, fun b ys e g => by
  cases e
  rw [h] at g
  cases g
  exact ⟨hl, hx⟩⟩
theorem Kd2.lst {G : Hp} {a : Addr} {xs : List V} (h : G a = some (.lst xs)) : Kd2 G (.ref a) := ⟨.lst h, fun b ys e g => by
  cases e
  rw [h] at g
  cases g⟩
theorem Kd2.dic {G : Hp} {a : Addr} {xs : List (L2.Key × V)} (h : G a = some (.dK xs)) : Kd2 G (.ref a) := ⟨.dic h, fun b ys e g => by
  cases e
  rw [h] at g
  cases g⟩
end X

namespace X
open PySem PySem.Spec PyProof.Rows L2 Lv
variable {P : Program} {w : World} {K : PySem.W.Frag} {mg : Str → Option Value} {base : Heap}
theorem mc_R (T : Txt K mg) : MC K (He.ga K "RawMachine") := ⟨T.c_RawMachine, T.na_RawMachine_standings, T.na_RawMachine_events, T.na_RawMachine_kept_out, T.o_RawMachine, T.q_RawMachine⟩
theorem sc_RawMachine_init : FnScope ["self", "standings", "events"] ["self", "standings", "events"] (defScope s_RawMachine_init) := ⟨rfl, rfl, rfl, by decide +kernel, rfl, by decide +kernel, by decide +kernel⟩
theorem ok_RawMachine_init (T : Txt K mg) {fd_Machine_keep : FuncData} (G_Machine_keep : Dm P w K mg base (L2.CX P w) 1 "Machine" "keep" ["self", "standings", "events"] (spKeepM K) fd_Machine_keep) : ∃ fd, Dm P w K mg base (L2.CX P w) 2 "RawMachine" "__init__" ["self", "standings", "events"] (spKeep (He.ga K "RawMachine")) fd := by
  obtain ⟨fd, F⟩ := T.d_RawMachine_init
  refine ⟨fd, F.ok sc_RawMachine_init (fun vs H Q E h => ?_) (fun cdv A outer s H vs Q E hr h => ?_), F.bindsN fun _ _ _ _ _ _ us hl => match us, hl with | [_, _, _], _ => rfl, Lv.fun_lk F⟩
  · obtain ⟨_, _, _, _, _, _, _, rfl, _⟩ := h
    rfl
  · have hu := hu_of hr
    have hr_Machine_keep : Room 1 _ := hr.mono (by decide)
    refine ⟨_, PSs.nox (pss_one (ps_expr (pe_meth (pv 0) T.c_RawMachine (Lv.meth_cast T.me_RawMachine_keep T.j_RawMachine_keep) G_Machine_keep.ok hr_Machine_keep G_Machine_keep.b .nil passL (pa_cons (pv 1) (pa_cons (pv 2) pa_nil))))), ?_⟩
    obtain ⟨x, t, n, dx, es, G, P0, rfl, j, hx, hE, h1, h2, h3, hb, k⟩ := h
    walk_at "w"
    refine aMeth.go j hx rfl ?_
    walk_at "w"
    exact ⟨_, mc_R T, x, t, n, dx, es, G, P0, rfl, j, hx, hE, h1, h2, h3, hb, k⟩
/-- a new RawMachine of changed events -/
def spNewM (K : PySem.W.Frag) (n : Int) (es : List Ev) (G P H : Hp) (Q : VK) : Prop := ∀ p G' H', Ex G G' → Join G' P H' → H p = none → MachAt (He.ga K "RawMachine") G' p n es → Q (.ref p) H'
end X

namespace X
open PySem PySem.Spec PyProof.Rows L2 Lv
/-- the items at places, from o on, that are not in S -/
def pickFrom {α : Type} (S : List Nat) : Nat → List α → List α
  | _, [] => []
  | o, a :: r => (if o ∈ S then [] else [a]) ++ pickFrom S (o + 1) r
theorem pick_app {α : Type} (S : List Nat) : ∀ (l m : List α) (o : Nat), pickFrom S o (l ++ m) = pickFrom S o l ++ pickFrom S (o + l.length) m
  | [], m, o => by simp [pickFrom]
  | a :: r, m, o => by
    have ih := pick_app S r m (o + 1)
    show (if o ∈ S then [] else [a]) ++ pickFrom S (o + 1) (r ++ m) = _
    rw [ih]
    have e : o + 1 + r.length = o + (a :: r).length := by simp; omega
    rw [e]
    show _ = ((if o ∈ S then [] else [a]) ++ pickFrom S (o + 1) r) ++ _
    rw [List.append_assoc]
theorem pick_in {α : Type} {S : List Nat} {o : Nat} (a : α) (h : o ∈ S) : pickFrom S o [a] = [] := by simp [pickFrom, h]
theorem pick_out {α : Type} {S : List Nat} {o : Nat} (a : α) (h : o ∉ S) : pickFrom S o [a] = [a] := by simp [pickFrom, h]
theorem pick_step {α : Type} {S : List Nat} {l : List α} {i : Nat} {a : α} (h : l[i]? = some a) : pickFrom S 0 (l.take (i + 1)) = pickFrom S 0 (l.take i) ++ (if i ∈ S then [] else [a]) := by
  have hi : i < l.length := (List.getElem?_eq_some_iff.mp h).1
  rw [take_more h, pick_app, List.length_take, Nat.min_eq_left (by omega), Nat.zero_add]
  by_cases hs : i ∈ S
  · rw [pick_in _ hs, if_pos hs]
  · rw [pick_out _ hs, if_neg hs]
theorem pick_mem {α : Type} {S : List Nat} {a : α} : ∀ {l : List α} {o : Nat}, a ∈ pickFrom S o l → a ∈ l
  | b :: r, o, h => by
    have h2 : a ∈ (if o ∈ S then [] else [b]) ++ pickFrom S (o + 1) r := h
    rcases List.mem_append.mp h2 with q | q
    · by_cases hs : o ∈ S
      · rw [if_pos hs] at q; cases q
      · rw [if_neg hs] at q; rw [List.mem_singleton.mp q]; exact List.mem_cons_self ..
    · exact List.mem_cons_of_mem _ (pick_mem q)
theorem pick_len {α : Type} (S : List Nat) : ∀ (l : List α) (o : Nat), (pickFrom S o l).length ≤ l.length
  | [], _ => Nat.le_refl _
  | a :: r, o => by
    have ih := pick_len S r (o + 1)
    show ((if o ∈ S then [] else [a]) ++ pickFrom S (o + 1) r).length ≤ _
    rw [List.length_append, List.length_cons]
    split
    · simp only [List.length_nil]; omega
    · simp only [List.length_singleton]; omega
end X

namespace X
open PySem PySem.Spec PyProof.Rows L2 Lv
variable {P : Program} {w : World} {K : PySem.W.Frag} {mg : Str → Option Value} {base : Heap}
theorem inB_rV {N : Nat} : ∀ {xs : List V}, (∀ x ∈ xs, inB x 0 ((N : Int) - 1) = true) → ∃ rs, xs = rV rs ∧ ∀ k ∈ rs, k < N
  | [], _ => ⟨[], rfl, fun _ h => nomatch h⟩
  | x :: r, h => by
    obtain ⟨rs, h1, h2⟩ := inB_rV fun y hy => h y (List.mem_cons_of_mem _ hy)
    have hx := h x (List.mem_cons_self ..)
    cases x with
    | int n =>
      have h3 : 0 ≤ n ∧ n ≤ (N : Int) - 1 := of_decide_eq_true hx
      refine ⟨n.toNat :: rs, ?_, fun k hk => ?_⟩
      · rw [h1]
        show V.int n :: rV rs = V.int ((n.toNat : Nat) : Int) :: rV rs
        rw [Int.toNat_of_nonneg h3.1]
      · rcases List.mem_cons.mp hk with rfl | q
        · omega
        · exact h2 k q
    | _ => cases hx
theorem rV_inj : ∀ {a b : List Nat}, rV a = rV b → a = b
  | [], [], _ => rfl
  | [], b :: s, h => by cases h
  | a :: r, [], h => by cases h
  | a :: r, b :: s, h => by
    have h2 : V.int (a : Int) :: rV r = V.int (b : Int) :: rV s := h
    injection h2 with h3 h4
    injection h3 with h3
    rw [rV_inj h4, show a = b by omega]
/-- ascending numbers below N -/
def Asc (N : Nat) (rs : List Nat) : Prop := (∀ i ∈ rs, i < N) ∧ rs.Pairwise (· < ·)
def AscV (G : Hp) (N : Nat) (v : V) : Prop := ∃ (a : Addr) (rs : List Nat), v = .ref a ∧ G a = some (.tup (rV rs)) ∧ Asc N rs
def upB (rs : List Nat) (i : Nat) : Bool := decide (rs[i]?.getD 0 < rs[i + 1]?.getD 0)
theorem up_pw : ∀ {rs : List Nat}, (∀ i, i + 1 < rs.length → upB rs i = true) → rs.Pairwise (· < ·)
  | [], _ => .nil
  | [a], _ => List.pairwise_singleton ..
  | a :: b :: r, h => by
    have ih := up_pw (rs := b :: r) fun i hi => by
      have := h (i + 1) (by simp at hi ⊢; omega)
      simpa [upB] using this
    have hab : a < b := by
      have := h 0 (by simp)
      simpa [upB] using this
    refine List.pairwise_cons.mpr ⟨fun c hc => ?_, ih⟩
    rcases List.mem_cons.mp hc with rfl | hc
    · exact hab
    · exact Nat.lt_trans hab (List.rel_of_pairwise_cons ih hc)
theorem pw_up {rs : List Nat} (h : rs.Pairwise (· < ·)) {i : Nat} (hi : i + 1 < rs.length) : upB rs i = true := by
  unfold upB
  rw [List.getElem?_eq_getElem hi, List.getElem?_eq_getElem (show i < rs.length by omega)]
  exact decide_eq_true (List.pairwise_iff_getElem.mp h i (i + 1) (by omega) hi (by omega))
def spAscX (K : PySem.W.Frag) : Sp := fun vs H Q _ => ∃ (v : V) (N : Nat) (G P : Hp), vs = [v, .int (N : Int)] ∧ Join G P H ∧ Kd2 G v ∧ (AscV G N v → ∀ G' H', Ex G G' → Join G' P H' → Q (.bl true) H') ∧ (¬ AscV G N v → ∀ G' H', Ex G G' → Join G' P H' → Q (.bl false) H')
theorem sc_is_ascending : FnScope ["thing", "many", "at", "item"] ["thing", "many"] (defScope s_is_ascending) := ⟨rfl, rfl, rfl, by decide +kernel, rfl, by decide +kernel, by decide +kernel⟩
theorem okX_is_ascending (T : Txt K mg) {fd_is_within : FuncData} (G_is_within : Dn P w K mg base (L2.CX P w) 2 "is_within" ["thing", "least", "most"] (spIsW K) fd_is_within) : ∃ fd, Dn P w K mg base (L2.CX P w) 3 "is_ascending" ["thing", "many"] (spAscX K) fd := by
  obtain ⟨fd, F⟩ := T.d_is_ascending
  refine ⟨fd, F.ok sc_is_ascending (fun vs H Q E h => ?_) (fun cdv A outer s H vs Q E hr h => ?_), T.g_is_ascending, F.kp, F.bindsN fun _ _ _ _ _ _ us hl => match us, hl with | [_, _], _ => rfl, Lv.fun_lk F⟩
  · obtain ⟨_, _, _, _, rfl, _⟩ := h
    rfl
  · have hu := hu_of hr
    have hr_is_within : Room 2 _ := hr.mono (by decide)
    refine ⟨_, PSs.nox (pss_cons (ps_if (PW.pt (pw_or (pt_not (pt_val (pe_callB call_isi (by rfl) T.n_isinstance (by decide +kernel) (pa_cons (pv 0) (pa_cons (pe_bltn (v := .ty "tuple") (by rfl) T.n_tuple (by decide +kernel) rfl) pa_nil))))) (pw_or1 (pt_not (pt_val (pe_callB (cr_all rfl) (by rfl) T.n_all (by decide +kernel) (pa_cons (pe_lc (own := [("item", 3)]) (g := gName 3) (tt := tYes) rfl sc_is_ascending.nd (pi_tup (pv 0)) (blkOk_by (N := ["thing", "many", "at", "item"]) (sc := defScope s_is_ascending) (by decide +kernel)) (fun _ _ _ _ _ => (pg_name (i := 3) sc_is_ascending.nd rfl (Or.inl rfl) (hf := Or.inr rfl))) (fun _ _ _ _ _ => pts_nil) (fun _ _ _ _ _ => (pe_call G_is_within.ok hr_is_within rfl G_is_within.mg G_is_within.kp G_is_within.b .nil passL (pa_cons (pv 3) (pa_cons pe_int (pa_cons (pe_op op_sub (pv 1) pe_int) pa_nil)))))) pa_nil))))))) (pss_one (ps_ret pe_bl)) pss_nil)
      (pss_one (ps_ret (pe_callB (cr_all rfl) (by rfl) T.n_all (by decide +kernel) (pa_cons (pe_lc (own := [("at", 2)]) (g := gName 2) (tt := tYes) rfl sc_is_ascending.nd (Lv.pi_rangeW (by rfl) T.n_range (pa_cons pe_int (pa_cons (pe_callB call_len (by rfl) T.n_len PySem.boot_len (pa_cons (pv 0) pa_nil)) pa_nil))) (blkOk_by (N := ["thing", "many", "at", "item"]) (sc := defScope s_is_ascending) (by decide +kernel)) (fun _ _ _ _ _ => (pg_name (i := 2) sc_is_ascending.nd rfl (Or.inl rfl) (hf := Or.inr rfl))) (fun _ _ _ _ _ => pts_nil) (fun _ _ _ _ _ => (pe_cmpR op_lt (pe_ix (ix_tupK (K := K) rfl) (pv 0) (pe_op op_sub (pv 2) pe_int) (fun _ _ => rfl)) (pe_ix (ix_tupK (K := K) rfl) (pv 0) (pv 2) (fun _ _ => rfl)) (nomark _)))) pa_nil))))), ?_⟩
    obtain ⟨v, N, G, P0, rfl, j, ⟨hk, hk2⟩, q1, q0⟩ := h
    walk_at "w"
    refine isi_T j.exG hk (fun t xs ev ht => ?_) (fun hn => ?_)
    rotate_left
    · walk_at "w"
      exact q0 (fun ⟨a, rs, h1, h2, _⟩ => hn a _ h1 h2) G H (Ex.refl _) j
    subst ev
    obtain ⟨hl, hks⟩ := hk2 t xs rfl ht
    walk_at "w"
    refine aLcT.go (fun P' => P' = P0) (fun i us G' => us = ((xs.take i).map fun x => inB x 0 ((N : Int) - 1)).map V.bl) j rfl ht (fun _ _ => rfl) (fun i us G2 D _ _ hd h => h) (fun i us G2 h => ?_) ?_ ?_
    · rw [h, List.length_map, List.length_map, List.length_take]; omega
    · intro i x us G' P' H' R R0 hx e' hI hP j' kR kR0
      subst hP
      walk_at "w"
      refine ⟨rfl, ?_⟩
      walk_at "w"
      refine ⟨x, _, _, G', rfl, j'.exG, (hks x (List.mem_of_getElem? hx)).mono e', ?_⟩
      refine kR _ _ _ H' (Ex.refl _) rfl j' ?_
      rw [hI, take_more hx, List.map_append, List.map_append]; rfl
    intro p1 us G1 P' H1 hp1 e1 hd1 hI hP j1
    subst hP
    rw [List.take_length] at hI
    subst hI
    have ht1 := e1 _ _ ht
    walk_at "w"
    refine ⟨p1, _, rfl, sqL (j1.g _ _ hd1), ?_⟩
    walk_at "w"
    by_cases hall : ((xs.map fun x => inB x 0 ((N : Int) - 1)).all id) = true
    · refine (if_neg (by rw [hall]; decide)).mpr ?_
      obtain ⟨rs, rfl, hrs⟩ := inB_rV (N := N) (xs := xs) fun x hx => List.all_eq_true.mp hall _ (List.mem_map_of_mem (f := fun x => inB x 0 ((N : Int) - 1)) hx)
      have hlv : (rV rs).length = rs.length := by simp [rV]
      walk_at "w"
      refine aLcR2.go (n := rs.length - 1) (fun Q' => Q' = P') (fun i us G' => us = ((List.range i).map (upB rs)).map V.bl ∧ i ≤ 1000) j1 rfl (by rw [hlv]; omega) (by rw [hlv]; omega) (fun _ _ => ⟨rfl, by decide⟩) (fun i us G2 D _ _ hd h => h) (fun i us G2 h => ?_) ?_ ?_
      · rw [h.1, List.length_map, List.length_map, List.length_range]; omega
      · intro i us G' P2 H' R R0 hi e' hI hP j' kR kR0
        subst hP
        obtain ⟨x, hx⟩ : ∃ x, rs[i]? = some x := ⟨_, List.getElem?_eq_getElem (by omega)⟩
        obtain ⟨y, hy⟩ : ∃ y, rs[i + 1]? = some y := ⟨_, List.getElem?_eq_getElem (by omega)⟩
        have hp := e' _ _ ht1
        walk_at "w"
        refine ⟨rfl, ?_⟩
        walk_at "w"
        rw [show (1 : Int) + (i : Int) - 1 = (i : Int) by omega]
        refine w_ixT (j'.g _ _ hp) (atI_nat (v := .int (x : Int)) (by rw [rV, List.getElem?_map, hx]; rfl)) ?_
        walk_at "w"
        rw [show (1 : Int) + (i : Int) = ((i + 1 : Nat) : Int) by omega]
        refine w_ixT (j'.g _ _ hp) (atI_nat (v := .int (y : Int)) (by rw [rV, List.getElem?_map, hy]; rfl)) ?_
        walk_at "w"
        refine kR _ _ _ H' (Ex.refl _) rfl j' ⟨?_, by rw [hlv] at hl; omega⟩
        have eu : upB rs i = decide ((x : Int) < (y : Int)) := by
          unfold upB
          rw [hx, hy]
          exact decide_eq_decide.mpr (by simp)
        rw [hI.1, List.range_succ, List.map_append, List.map_append, List.map_singleton, List.map_singleton, eu]
      intro p2 us G2 P'' H2 hp2 e2 hd2 hI hP j2
      subst hP
      replace hI := hI.1
      subst hI
      walk_at "w"
      refine ⟨p2, _, rfl, sqL (j2.g _ _ hd2), ?_⟩
      by_cases hup : ((List.range (rs.length - 1)).map (upB rs)).all id = true
      · rw [hup]
        refine q1 ⟨t, rs, rfl, ht, hrs, up_pw fun i hi => ?_⟩ G2 H2 (e1.trans e2) j2
        exact List.all_eq_true.mp hup _ (List.mem_map_of_mem (List.mem_range.mpr (by omega)))
      · rw [Bool.eq_false_iff.mpr hup]
        refine q0 (fun ⟨a, rs2, h1, h2, hr⟩ => hup ?_) G2 H2 (e1.trans e2) j2
        injection h1 with h1
        subst h1
        rw [ht] at h2
        injection h2 with h2
        injection h2 with h2
        obtain rfl := rV_inj h2
        refine List.all_eq_true.mpr fun b hb => ?_
        obtain ⟨i, hi, rfl⟩ := List.mem_map.mp hb
        have := List.mem_range.mp hi
        exact pw_up hr.2 (by omega)
    · refine (if_pos (by rw [Bool.not_eq_true] at hall; rw [hall]; rfl)).mpr ?_
      walk_at "w"
      refine q0 (fun ⟨a, rs2, h1, h2, hr⟩ => hall ?_) G1 H1 e1 j1
      injection h1 with h1
      subst h1
      rw [ht] at h2
      injection h2 with h2
      injection h2 with h2
      subst h2
      refine List.all_eq_true.mpr fun b hb => ?_
      obtain ⟨x, hx, rfl⟩ := List.mem_map.mp hb
      unfold rV at hx
      obtain ⟨k, hk, rfl⟩ := List.mem_map.mp hx
      have := hr.1 k hk
      show decide (0 ≤ (k : Int) ∧ (k : Int) ≤ (N : Int) - 1) = true
      exact decide_eq_true ⟨by omega, by omega⟩
end X

namespace X
open PySem PySem.Spec PyProof.Rows L2 Lv
variable {P : Program} {w : World} {K : PySem.W.Frag} {mg : Str → Option Value} {base : Heap}
def spStruck (K : PySem.W.Frag) : Sp := fun vs H Q _ => ∃ (m p : Addr) (n : Int) (es : List Ev) (rs : List Nat) (G P : Hp), vs = [.ref m, .ref p] ∧ Join G P H ∧ MachK K G m n es ∧ EvB n es ∧ G p = some (.tup (rV rs)) ∧ Asc es.length rs ∧ rs.length ≤ 1000 ∧ spNewM K n (pickFrom rs 0 es) G P H Q
theorem sc_struck_of : FnScope ["machine", "events", "kept", "number", "event"] ["machine", "events"] (defScope s_struck_of) := ⟨rfl, rfl, rfl, by decide +kernel, rfl, by decide +kernel, by decide +kernel⟩
theorem ok_struck_of (T : Txt K mg) {fd_RawMachine_init : FuncData} (G_RawMachine_init : Dm P w K mg base (L2.CX P w) 2 "RawMachine" "__init__" ["self", "standings", "events"] (spKeep (He.ga K "RawMachine")) fd_RawMachine_init) : ∃ fd, Dn P w K mg base (L2.CX P w) 4 "struck_of" ["machine", "events"] (spStruck K) fd := by
  obtain ⟨fd, F⟩ := T.d_struck_of
  refine ⟨fd, F.ok sc_struck_of (fun vs H Q E h => ?_) (fun cdv A outer s H vs Q E hr h => ?_), T.g_struck_of, F.kp, F.bindsN fun _ _ _ _ _ _ us hl => match us, hl with | [_, _], _ => rfl, Lv.fun_lk F⟩
  · obtain ⟨_, _, _, _, _, _, _, rfl, _⟩ := h
    rfl
  · have hu := hu_of hr
    have hr_RawMachine_init : Room 3 _ := hr.mono (by decide)
    refine ⟨_, PSs.nox (pss_cons (ps_setLc (i := 2) (own := [("number", 3), ("event", 4)]) (g := gTup K 2 (gCons (gName 3) (gCons (gName 4) gNil))) rfl sc_struck_of.nd rfl rfl (sw_true rfl rfl rfl (by decide +kernel)) (pi_enumT (by rfl) T.n_enumerate (pa_cons (pe_fld (pv 0) rfl) pa_nil)) (blkOk_by (N := ["machine", "events", "kept", "number", "event"]) (sc := defScope s_struck_of) (by decide +kernel)) (fun _ _ _ _ _ => (pg_tup rfl (pgs_cons (pg_name (i := 3) sc_struck_of.nd rfl (Or.inl rfl) (hf := Or.inr rfl)) (pgs_cons (pg_name (i := 4) sc_struck_of.nd rfl (Or.inl rfl) (hf := Or.inr rfl)) pgs_nil)))) (fun _ _ _ _ _ => (pts_one (pt_cmpR (op_notInK (K := K) rfl) (pv 3) (pv 1) (by rfl)))) (fun _ _ _ _ _ => (pv 4)))
      (pss_one (ps_ret (pe_make T.mk_RawMachine G_RawMachine_init.ok hr_RawMachine_init (by rfl) T.g_RawMachine G_RawMachine_init.b .nil passL (pa_cons (pe_fld (pv 0) rfl) (pa_cons (pe_callTy call_tuple_of (by rfl) T.n_tuple (by decide +kernel) (pa_cons (pv 2) pa_nil)) pa_nil)))))), ?_⟩
    obtain ⟨m, p, n, es, rs, G, P0, rfl, j, hM, hB, hp, hA, hl, q⟩ := h
    walk_at "w"
    refine aFld.ne j hM fun tv vs hvt hv => ?_
    walk_at "w"
    refine aLcE.go (fun P' => P' = P0) (fun i us G' => EvL G' us (pickFrom rs 0 (es.take i)) ∧ us.length ≤ i ∧ i ≤ 10000) j rfl hvt (fun _ _ => ⟨EvL.nil, Nat.le_refl _, by decide⟩) (fun i us G2 D _ _ hd h => ⟨h.1.upd hd, h.2⟩) (fun i us G2 h => by omega) (fun i us G2 G3 e h => ⟨h.1.mono e, h.2⟩) ?_ ?_
    · intro i x TT us G' P' H' R R0 hx e' hI hP j' hT kR kR0
      subst hP
      obtain ⟨e, te, he, rfl, hte⟩ := hv.get hx
      have hi : i < es.length := (List.getElem?_eq_some_iff.mp he).1
      have hi2 := hB.2.2.1
      replace hte := e' _ _ hte
      replace hp := e' _ _ hp
      walk_at "w"
      refine ⟨rfl, ?_⟩
      walk_at "w"
      refine in_go (ns := rs.map fun (i : Nat) => (i : Int)) j' (.inr (by rw [hp, rV, List.map_map]; rfl)) ?_
      walk_at "w"
      have hiff : ((i : Int) ∈ rs.map fun (i : Nat) => (i : Int)) ↔ i ∈ rs := by
        constructor
        · intro h
          obtain ⟨b, hb, e⟩ := List.mem_map.mp h
          have : b = i := by omega
          rw [← this]; exact hb
        · exact fun h => List.mem_map_of_mem h
      by_cases hin : i ∈ rs
      · refine itNF (hiff.mpr hin) ?_
        refine kR0 _ _ H' (Ex.refl _) rfl j' ⟨?_, by omega, by omega⟩
        rw [pick_step he, if_pos hin, List.append_nil]; exact hI.1
      · refine itNT (fun h => hin (hiff.mp h)) ?_
        walk_at "w"
        refine kR _ _ _ H' (Ex.refl _) rfl j' ⟨?_, by simp; omega, by omega⟩
        rw [pick_step he, if_neg hin]; exact hI.1.add hte
    · intro p1 ws G1 P' H1 hp1 e1 hd1 hI hP j1
      subst hP
      replace hI := hI.1
      rw [hv.1, List.take_length] at hI
      walk_at "w"
      refine aFld.ns j1 (hM.mono e1) ?_
      walk_at "w"
      refine tupOf_go j1 hd1 fun t2 G2 H2 ht2 e2 j2 hT2 => ?_
      walk_at "w"
      refine aMake.go j2 fun m2 dx G3 H3 hm e3 j3 hd3 => ?_
      have hlen := pick_len rs es 0
      refine ⟨m2, t2, n, dx, _, G3, _, rfl, j3, hd3, ⟨_, e3 _ _ hT2, (hI.mono e2).mono e3⟩, hB.1, hB.2.1, by have := hB.2.2.1; omega, fun e he => ?_, fun G4 H4 j4 b4 hM4 => ⟨rfl, ?_⟩⟩
      · have := hB.2.2.2 e (pick_mem he)
        exact ⟨this.1, this.2.1⟩
      · have hH : Ex H H2 := j.exH (e1.trans e2) j2
        exact q m2 G4 H4 (b4.ex ((e1.trans e2).trans e3) (j.ng (hH.back hm))) j4 (hH.back hm) hM4
end X

namespace X
open PySem PySem.Spec PyProof.Rows L2 Lv
variable {P : Program} {w : World} {K : PySem.W.Frag} {mg : Str → Option Value} {base : Heap}
theorem kd2_rV {G : Hp} {p : Addr} {rs : List Nat} (hp : G p = some (.tup (rV rs))) (hl : rs.length ≤ 1000) : Kd2 G (.ref p) := ⟨.tup hp, fun a xs e g => by
  cases e
  rw [hp] at g
  cases g
  refine ⟨by simpa [rV] using hl, fun x hx => ?_⟩
  obtain ⟨k, _, rfl⟩ := List.mem_map.mp hx
  exact .int _⟩
def sp_check_events (K : PySem.W.Frag) : Sp := fun vs H Q _ => ∃ (m p : Addr) (n : Int) (es : List Ev) (rs : List Nat) (G P : Hp), vs = [.ref m, .ref p] ∧ Join G P H ∧ MachK K G m n es ∧ G p = some (.tup (rV rs)) ∧ Asc es.length rs ∧ rs.length ≤ 1000 ∧ ∀ G' H', Ex G G' → Join G' P H' → Q .non H'
theorem sc_check_events : FnScope ["machine", "thing"] ["machine", "thing"] (defScope s_check_events) := ⟨rfl, rfl, rfl, by decide +kernel, rfl, by decide +kernel, by decide +kernel⟩
theorem ok_check_events (T : Txt K mg) {fd_is_ascending : FuncData} (G_is_ascending : Dn P w K mg base (L2.CX P w) 3 "is_ascending" ["thing", "many"] (spAscX K) fd_is_ascending) : ∃ fd, Dn P w K mg base (L2.CX P w) 4 "check_events" ["machine", "thing"] (sp_check_events K) fd := by
  obtain ⟨fd, F⟩ := T.d_check_events
  refine ⟨fd, F.ok sc_check_events (fun vs H Q E h => ?_) (fun cdv A outer s H vs Q E hr h => ?_), T.g_check_events, F.kp, F.bindsN fun _ _ _ _ _ _ us hl => match us, hl with | [_, _], _ => rfl, Lv.fun_lk F⟩
  · obtain ⟨_, _, _, _, _, _, _, rfl, _⟩ := h
    rfl
  · have hu := hu_of hr
    have hr_is_ascending : Room 3 _ := hr.mono (by decide)
    refine ⟨_, PSs.nox (pss_one (ps_if (pt_not (pt_val (pe_call G_is_ascending.ok hr_is_ascending rfl G_is_ascending.mg G_is_ascending.kp G_is_ascending.b .nil passL (pa_cons (pv 1) (pa_cons (pe_callB call_len (by rfl) T.n_len PySem.boot_len (pa_cons (pe_fld (pv 0) rfl) pa_nil)) pa_nil))))) (pss_one ps_never) pss_nil)), ?_⟩
    obtain ⟨m, p, n, es, rs, G, P0, rfl, j, hM, hp, hA, hl, q⟩ := h
    walk_at "w"
    refine aFld.ne j hM fun tv vs hvt hv => ?_
    walk_at "w"
    rw [hv.1]
    refine ⟨.ref p, es.length, G, P0, rfl, j, kd2_rV hp hl, fun _ G1 H1 e1 j1 => ?_, fun c => absurd ⟨p, rs, rfl, hp, hA⟩ c⟩
    walk_at "w"
    exact q G1 H1 e1 j1
theorem sc_struck : FnScope ["machine", "events"] ["machine", "events"] (defScope s_struck) := ⟨rfl, rfl, rfl, by decide +kernel, rfl, by decide +kernel, by decide +kernel⟩
theorem ok_struck (T : Txt K mg) {fd_check_events : FuncData} (G_check_events : Dn P w K mg base (L2.CX P w) 4 "check_events" ["machine", "thing"] (sp_check_events K) fd_check_events) {fd_struck_of : FuncData} (G_struck_of : Dn P w K mg base (L2.CX P w) 4 "struck_of" ["machine", "events"] (spStruck K) fd_struck_of) : ∃ fd, Dn P w K mg base (L2.CX P w) 5 "struck" ["machine", "events"] (spStruck K) fd := by
  obtain ⟨fd, F⟩ := T.d_struck
  refine ⟨fd, F.ok sc_struck (fun vs H Q E h => ?_) (fun cdv A outer s H vs Q E hr h => ?_), T.g_struck, F.kp, F.bindsN fun _ _ _ _ _ _ us hl => match us, hl with | [_, _], _ => rfl, Lv.fun_lk F⟩
  · obtain ⟨_, _, _, _, _, _, _, rfl, _⟩ := h
    rfl
  · have hu := hu_of hr
    have hr_check_events : Room 4 _ := hr.mono (by decide)
    have hr_struck_of : Room 4 _ := hr.mono (by decide)
    refine ⟨_, PSs.nox (pss_cons (ps_expr (pe_call G_check_events.ok hr_check_events rfl G_check_events.mg G_check_events.kp G_check_events.b .nil passL (pa_cons (pv 0) (pa_cons (pv 1) pa_nil))))
      (pss_one (ps_ret (pe_call G_struck_of.ok hr_struck_of rfl G_struck_of.mg G_struck_of.kp G_struck_of.b .nil passL (pa_cons (pv 0) (pa_cons (pv 1) pa_nil)))))), ?_⟩
    obtain ⟨m, p, n, es, rs, G, P0, rfl, j, hM, hB, hp, hA, hl, q⟩ := h
    walk_at "w"
    refine ⟨m, p, n, es, rs, G, P0, rfl, j, hM, hp, hA, hl, fun G1 H1 e1 j1 => ?_⟩
    walk_at "w"
    exact ⟨m, p, n, es, rs, G1, P0, rfl, j1, hM.mono e1, hB, e1 _ _ hp, hA, hl, fun p2 G' H' e' j' hp2 hM2 => q p2 G' H' (e1.trans e') j' ((j.exH e1 j1).back hp2) hM2⟩
end X

namespace X
open PySem PySem.Spec PyProof.Rows L2 Lv
theorem but_upd {G : Hp} {D : Addr} {o : HO} : But D G (upd G D o) := fun b o h n => by rw [upd_ne n]; exact h
end X

namespace X
open PySem PySem.Spec PyProof.Rows L2 Lv
variable {P : Program} {w : World} {K : PySem.W.Frag} {mg : Str → Option Value} {base : Heap}
theorem ixN_nat {n i : Nat} (h : i < n) : ixN n (i : Int) = some i := by
  unfold ixN
  simp
  omega
theorem w_gsub {σ : L2.St} {H : Hp} {i k : Nat} {v o x : V} {Q : L2.St → Hp → Prop} (e1 : σ[i]? = some (some o)) (e2 : σ[k]? = some (some x)) (h : rSetL o x v H fun H3 => Q σ H3) : gSub (tVar i) (tVar k) rSetL v σ H Q := ⟨o, e1, x, e2, h⟩
theorem setL_go {G P H : Hp} {L : Addr} {xs : List V} {i : Nat} {v : V} {Q : Hp → Prop} (J : Join G P H) (h : G L = some (.lst xs)) (hi : i < xs.length) (q : ∀ G' H', But L G G' → Join G' P H' → G' L = some (.lst (xs.set i v)) → Q H') : rSetL (.ref L) (.int (i : Nat)) v H Q :=
  ⟨L, xs, _, i, rfl, rfl, J.g _ _ h, ixN_nat hi, q (upd G L (.lst (xs.set i v))) _ but_upd (J.setG (J.gp h)) upd_same⟩
def spMixed (K : PySem.W.Frag) : Sp := fun vs H Q _ => ∃ (l b : Addr) (us : List V) (G P : Hp), vs = [.ref l, .ref b] ∧ Join G P H ∧ Pot P l ∧ G b = some (.lst us) ∧ us.length ≤ 1000 ∧
  ∀ (us' : List V) c G' P' H', us'.Perm us → Ex G G' → Join G' P' H' → Pot P' l → G' c = some (.lst us') → Q (.ref c) H'
theorem sc_l_mixed : FnScope ["_law_pot_here", "_law_items", "_law_line", "_law_at", "_law_other"] ["_law_pot_here", "_law_items"] (defScope s_l_mixed) := ⟨rfl, rfl, rfl, by decide +kernel, rfl, by decide +kernel, by decide +kernel⟩
theorem ok_l_mixed (T : Txt K mg) {fd_l_draw : FuncData} (G_l_draw : Dn P w K mg base (L2.CX P w) 1 "_law_draw" ["_law_pot_here", "_law_many"] spDraw fd_l_draw) : ∃ fd, Dn P w K mg base (L2.CX P w) 5 "_law_mixed" ["_law_pot_here", "_law_items"] (spMixed K) fd := by
  obtain ⟨fd, F⟩ := T.d_l_mixed
  refine ⟨fd, F.ok sc_l_mixed (fun vs H Q E h => ?_) (fun cdv A outer s H vs Q E hr h => ?_), T.g_l_mixed, F.kp, F.bindsN fun _ _ _ _ _ _ us hl => match us, hl with | [_, _], _ => rfl, Lv.fun_lk F⟩
  · obtain ⟨_, _, _, _, _, rfl, _⟩ := h
    rfl
  · have hu := hu_of hr
    have hr_l_draw : Room 1 _ := hr.mono (by decide)
    refine ⟨_, PSs.nox (pss_cons (ps_set (i := 2) sc_l_mixed.nd rfl (Or.inl rfl) (pe_callTy call_list_of (by rfl) T.n_list (by decide +kernel) (pa_cons (pv 1) pa_nil)))
      (pss_cons (ps_for PassesOwn.never rfl (pi_range1 (by rfl) T.n_range (pa_cons (pe_callB call_len_seq (by rfl) T.n_len PySem.boot_len (pa_cons (pv 2) pa_nil)) pa_nil)) (pg_name (i := 3) sc_l_mixed.nd rfl (Or.inl rfl)) (pss_cons (ps_set (i := 4) sc_l_mixed.nd rfl (Or.inl rfl) (pe_call G_l_draw.ok hr_l_draw rfl G_l_draw.mg G_l_draw.kp G_l_draw.b .nil passL (pa_cons (pv 0) (pa_cons (pe_callB call_len_seq (by rfl) T.n_len PySem.boot_len (pa_cons (pv 2) pa_nil)) pa_nil))))
      (pss_one (ps_asg (pe_tup (pa_cons (pe_ix ix_list (pv 2) (pv 4) (fun _ _ => rfl)) (pa_cons (pe_ix ix_list (pv 2) (pv 3) (fun _ _ => rfl)) pa_nil))) (pg_tup rfl (pgs_cons (pg_sub (pv 2) (pv 3) set_list) (pgs_cons (pg_sub (pv 2) (pv 4) set_list) pgs_nil)))))))
      (pss_one (ps_ret (pv 2))))), ?_⟩
    obtain ⟨l, b, us, G, P0, rfl, j, hP, hb, hl, q⟩ := h
    walk_at "w"
    refine lstOf_go j (.inl hb) fun L G1 H1 nL e1 j1 hL => ?_
    have gL := j.ng nL
    walk_at "w"
    refine aForR.go (n := us.length) rfl (by omega) (fun i G' P' σ' => Ex G G' ∧ Pot P' l ∧ ∃ (ws : List V) (s3 s4 : Option V), G' L = some (.lst ws) ∧ ws.Perm us ∧ σ' = [some (.ref l), some (.ref b), some (.ref L), s3, s4]) j1 ⟨e1, hP, us, _, _, hL, List.Perm.refl _, rfl⟩ ?_ ?_
    · clear j1 e1 hL
      rintro i G2 P2 H2 σ' hi j2 ⟨eG, hP, ws, s3, s4, hL, hp, rfl⟩
      have hwl := hp.length_eq
      walk_at "w"
      refine ⟨l, _, G2, P2, rfl, j2, hP, by omega, Int.lt_of_le_of_lt (b := 1000) (by omega) (by decide), fun d P3 H3 d0 d1 j3 hP3 => ?_⟩
      walk_at "w"
      obtain ⟨dn, rfl⟩ : ∃ dn : Nat, d = (dn : Int) := ⟨d.toNat, by omega⟩
      have hdl : dn < ws.length := by omega
      obtain ⟨x, hx⟩ : ∃ x, ws[dn]? = some x := ⟨_, List.getElem?_eq_getElem hdl⟩
      obtain ⟨y, hy⟩ : ∃ y, ws[i]? = some y := ⟨_, List.getElem?_eq_getElem (by omega)⟩
      refine w_ixL (j3.g _ _ hL) (atI_nat hx) ?_
      walk_at "w"
      refine w_ixL (j3.g _ _ hL) (atI_nat hy) ?_
      walk_at "w"
      refine aTup.go j3 (by show 2 ≤ 100000; decide) fun tt G4 H4 ntt e4 j4 htt => ?_
      walk_at "w"
      refine w_gsub (i := 2) (k := 3) (o := .ref L) (x := .int (i : Nat)) rfl rfl ?_
      refine setL_go j4 (e4 _ _ hL) (by omega) fun G5 H5 b5 j5 hL5 => ?_
      walk_at "w"
      refine w_gsub (i := 2) (k := 4) (o := .ref L) (x := .int (dn : Nat)) rfl rfl ?_
      refine setL_go j5 hL5 (by rw [List.length_set]; omega) fun G6 H6 b6 j6 hL6 => ?_
      walk_at "w"
      refine ⟨_, _, j6, b6.ex (b5.ex (eG.trans e4) gL) gL, hP3, (ws.set i x).set dn y, _, _, hL6, ?_, rfl⟩
      have hx2 : ws[dn] = x := by rw [List.getElem?_eq_getElem hdl] at hx; exact Option.some.inj hx
      have hil : i < ws.length := by omega
      have hy2 : ws[i] = y := by rw [List.getElem?_eq_getElem hil] at hy; exact Option.some.inj hy
      rw [← hx2, ← hy2]
      exact (List.set_set_perm hil hdl).trans hp
    · clear j1 e1 hL
      rintro G2 P2 H2 σ' j2 ⟨eG, hP, ws, s3, s4, hL, hp, rfl⟩
      walk_at "w"
      exact q ws L G2 P2 H2 hp eG j2 hP hL
end X

namespace X
open PySem PySem.Spec PyProof.Rows L2 Lv
variable {P : Program} {w : World} {K : PySem.W.Frag} {mg : Str → Option Value} {base : Heap}
def nevB (a b : Int) (z : Str) (es : List Ev) : Bool := dueB (riseL (sgW z) a b es) (fallL (sgW z) a b es)
theorem one_evb {es : List Ev} (h : EvB 1 es) : One es := fun e he => by have := h.2.2.2 e he; omega
theorem pick_evb {n : Int} {es : List Ev} {rs : List Nat} (h : EvB n es) : EvB n (pickFrom rs 0 es) := ⟨h.1, h.2.1, Nat.le_trans (pick_len rs es 0) h.2.2.1, fun e he => h.2.2.2 e (pick_mem he)⟩
def spNev1 (K : PySem.W.Frag) : Sp := fun vs H Q _ => ∃ (m q : Addr) (z : Str) (a b : Int) (es : List Ev) (G P : Hp), vs = [.ref m, .ref q, .str z] ∧ Join G P H ∧ NT P ∧ MachK K G m 1 es ∧ EvB 1 es ∧ ShareAt G q a b ∧ z ∈ ways ∧
  ∀ G' H', Ex G G' → Join G' P H' → Q (.bl (nevB a b z es)) H'
theorem nev1 {Q : VK} {E : XK} {vs : List V} {H : Hp} (h : spNev1 K vs H Q E) : spNever K vs H Q E := by
  obtain ⟨m, q0, z, a, b, es, G, P0, rfl, j, nt, hm, hB, hS, hz, q⟩ := h
  have h1 := one_evb hB
  exact ⟨m, q0, z, 1, a, b, es, G, P0, rfl, j, nt, hm, hB, by decide, hS, hz, .inr rfl, fun e he => by rw [(h1 e he).1]; exact knot_one.mpr rfl, fun nb G' H' p1 p2 e' j' => by
    rw [one_law hz h1 nb p1 p2]
    exact q G' H' e' j'⟩
def spMends (K : PySem.W.Frag) : Sp := fun vs H Q _ => ∃ (m q p : Addr) (z : Str) (a b : Int) (es : List Ev) (rs : List Nat) (G P : Hp), vs = [.ref m, .ref q, .str z, .ref p] ∧ Join G P H ∧ NT P ∧ MachK K G m 1 es ∧ EvB 1 es ∧ ShareAt G q a b ∧ z ∈ ways ∧ G p = some (.tup (rV rs)) ∧ Asc es.length rs ∧ rs.length ≤ 1000 ∧
  ∀ G' H', Ex G G' → Join G' P H' → Q (.bl (nevB a b z (pickFrom rs 0 es))) H'
theorem sc_mends : FnScope ["machine", "share", "way", "events"] ["machine", "share", "way", "events"] (defScope s_mends) := ⟨rfl, rfl, rfl, by decide +kernel, rfl, by decide +kernel, by decide +kernel⟩
theorem ok_mends (T : Txt K mg) {fd_struck_of : FuncData} (G_struck_of : Dn P w K mg base (L2.CX P w) 4 "struck_of" ["machine", "events"] (spStruck K) fd_struck_of) {fd_never_by : FuncData} (G_never_by : Dn P w K mg base (L2.CX P w) 8 "never_by" ["machine", "share", "way"] (spNever K) fd_never_by) : ∃ fd, Dn P w K mg base (L2.CX P w) 9 "mends" ["machine", "share", "way", "events"] (spMends K) fd := by
  obtain ⟨fd, F⟩ := T.d_mends
  refine ⟨fd, F.ok sc_mends (fun vs H Q E h => ?_) (fun cdv A outer s H vs Q E hr h => ?_), T.g_mends, F.kp, F.bindsN fun _ _ _ _ _ _ us hl => match us, hl with | [_, _, _, _], _ => rfl, Lv.fun_lk F⟩
  · obtain ⟨_, _, _, _, _, _, _, _, _, _, rfl, _⟩ := h
    rfl
  · have hu := hu_of hr
    have hr_struck_of : Room 4 _ := hr.mono (by decide)
    have hr_never_by : Room 8 _ := hr.mono (by decide)
    refine ⟨_, PSs.nox (pss_one (ps_ret (pe_call G_never_by.ok hr_never_by rfl G_never_by.mg G_never_by.kp G_never_by.b .nil passL (pa_cons (pe_call G_struck_of.ok hr_struck_of rfl G_struck_of.mg G_struck_of.kp G_struck_of.b .nil passL (pa_cons (pv 0) (pa_cons (pv 3) pa_nil))) (pa_cons (pv 1) (pa_cons (pv 2) pa_nil)))))), ?_⟩
    obtain ⟨m, q0, p, z, a, b, es, rs, G, P0, rfl, j, nt, hm, hB, hS, hz, hp, hA, hl, q⟩ := h
    walk_at "w"
    refine ⟨m, p, 1, es, rs, G, P0, rfl, j, hm, hB, hp, hA, hl, fun m2 G1 H1 e1 j1 _ hm2 => ?_⟩
    walk_at "w"
    exact nev1 ⟨m2, q0, z, a, b, _, G1, P0, rfl, j1, nt, ⟨_, mc_R T, hm2⟩, pick_evb hB, hS.mono e1, hz, fun G2 H2 e2 j2 => q G2 H2 (e1.trans e2) j2⟩
def spIsMend (K : PySem.W.Frag) : Sp := fun vs H Q _ => ∃ (m q : Addr) (v : V) (z : Str) (a b : Int) (es : List Ev) (G P : Hp), vs = [.ref m, .ref q, .str z, v] ∧ Join G P H ∧ NT P ∧ MachK K G m 1 es ∧ EvB 1 es ∧ ShareAt G q a b ∧ z ∈ ways ∧ Kd2 G v ∧
  (∀ (p : Addr) (rs : List Nat), v = .ref p → G p = some (.tup (rV rs)) → Asc es.length rs → ∀ G' H', Ex G G' → Join G' P H' → Q (.bl (nevB a b z (pickFrom rs 0 es))) H') ∧
  (¬ AscV G es.length v → ∀ G' H', Ex G G' → Join G' P H' → Q (.bl false) H')
theorem sc_is_mend : FnScope ["machine", "share", "way", "thing"] ["machine", "share", "way", "thing"] (defScope s_is_mend) := ⟨rfl, rfl, rfl, by decide +kernel, rfl, by decide +kernel, by decide +kernel⟩
theorem ok_is_mend (T : Txt K mg) {fd_check_share : FuncData} (G_check_share : Dn P w K mg base (L2.CX P w) 4 "check_share" ["thing"] (sp_check_share K) fd_check_share) {fd_check_way : FuncData} (G_check_way : Dn P w K mg base (L2.CX P w) 1 "check_way" ["thing"] (sp_check_way K) fd_check_way) {fd_is_ascending : FuncData} (G_is_ascending : Dn P w K mg base (L2.CX P w) 3 "is_ascending" ["thing", "many"] (spAscX K) fd_is_ascending) {fd_mends : FuncData} (G_mends : Dn P w K mg base (L2.CX P w) 9 "mends" ["machine", "share", "way", "events"] (spMends K) fd_mends) : ∃ fd, Dn P w K mg base (L2.CX P w) 10 "is_mend" ["machine", "share", "way", "thing"] (spIsMend K) fd := by
  obtain ⟨fd, F⟩ := T.d_is_mend
  refine ⟨fd, F.ok sc_is_mend (fun vs H Q E h => ?_) (fun cdv A outer s H vs Q E hr h => ?_), T.g_is_mend, F.kp, F.bindsN fun _ _ _ _ _ _ us hl => match us, hl with | [_, _, _, _], _ => rfl, Lv.fun_lk F⟩
  · obtain ⟨_, _, _, _, _, _, _, _, _, rfl, _⟩ := h
    rfl
  · have hu := hu_of hr
    have hr_check_share : Room 4 _ := hr.mono (by decide)
    have hr_check_way : Room 1 _ := hr.mono (by decide)
    have hr_is_ascending : Room 3 _ := hr.mono (by decide)
    have hr_mends : Room 9 _ := hr.mono (by decide)
    refine ⟨_, PSs.nox (pss_cons (ps_expr (pe_call G_check_share.ok hr_check_share rfl G_check_share.mg G_check_share.kp G_check_share.b .nil passL (pa_cons (pv 1) pa_nil)))
      (pss_cons (ps_expr (pe_call G_check_way.ok hr_check_way rfl G_check_way.mg G_check_way.kp G_check_way.b .nil passL (pa_cons (pv 2) pa_nil)))
      (pss_one (ps_ret (pe_and (pe_call G_is_ascending.ok hr_is_ascending rfl G_is_ascending.mg G_is_ascending.kp G_is_ascending.b .nil passL (pa_cons (pv 3) (pa_cons (pe_callB call_len (by rfl) T.n_len PySem.boot_len (pa_cons (pe_fld (pv 0) rfl) pa_nil)) pa_nil))) (pe_one (pe_call G_mends.ok hr_mends rfl G_mends.mg G_mends.kp G_mends.b .nil passL (pa_cons (pv 0) (pa_cons (pv 1) (pa_cons (pv 2) (pa_cons (pv 3) pa_nil))))))))))), ?_⟩
    obtain ⟨m, q0, v, z, a, b, es, G, P0, rfl, j, nt, hm, hB, hS, hz, hk, q1, q0'⟩ := h
    walk_at "w"
    refine ⟨q0, a, b, rfl, (hS.mono j.exG).1, hS.2.1, hS.2.2.1, ?_⟩
    walk_at "w"
    refine ⟨z, rfl, hz, ?_⟩
    walk_at "w"
    refine aFld.ne j hm fun tv vs hvt hv => ?_
    walk_at "w"
    rw [hv.1]
    refine ⟨v, es.length, G, P0, rfl, j, hk, fun hA G1 H1 e1 j1 => ?_, fun hA G1 H1 e1 j1 => ?_⟩
    · walk_at "w"
      obtain ⟨p, rs, rfl, hp, hA⟩ := hA
      have hl : rs.length ≤ 1000 := by
        have := (hk.2 p _ rfl hp).1
        simpa [rV] using this
      exact ⟨m, q0, p, z, a, b, es, rs, G1, P0, rfl, j1, nt, hm.mono e1, hB, hS.mono e1, hz, e1 _ _ hp, hA, hl, fun G2 H2 e2 j2 => q1 p rs rfl hp hA G2 H2 (e1.trans e2) j2⟩
    · walk_at "w"
      exact q0' hA G1 H1 e1 j1
end X

namespace X
open PySem PySem.Spec PyProof.Rows L2 Lv
variable {a b : Int} {es : List Ev} {z : Str}
theorem nev_iff : nevB a b z es = true ↔ (∀ e ∈ es, ¬ 0 < sgW z * liftE a b e) ∨ (∀ e ∈ es, ¬ sgW z * liftE a b e < 0) ∨ ∃ r, 0 < r ∧ (∀ e ∈ es, 0 < sgW z * liftE a b e → sgW z * liftE a b e = r) ∧ ∀ e ∈ es, sgW z * liftE a b e < 0 → sgW z * liftE a b e % r = 0 := by
  unfold nevB dueB
  have k1 : riseL (sgW z) a b es = [] ↔ ∀ e ∈ es, ¬ 0 < sgW z * liftE a b e := by
    constructor
    · intro h e he hx
      have : sgW z * liftE a b e ∈ riseL (sgW z) a b es := rise_mem.mpr ⟨⟨e, he, rfl⟩, hx⟩
      rw [h] at this; cases this
    · intro h
      refine List.eq_nil_iff_forall_not_mem.mpr fun x hx => ?_
      obtain ⟨⟨e, he, rfl⟩, hx2⟩ := rise_mem.mp hx
      exact h e he hx2
  have k2 : fallL (sgW z) a b es = [] ↔ ∀ e ∈ es, ¬ sgW z * liftE a b e < 0 := by
    constructor
    · intro h e he hx
      have : sgW z * liftE a b e ∈ fallL (sgW z) a b es := fall_mem.mpr ⟨⟨e, he, rfl⟩, hx⟩
      rw [h] at this; cases this
    · intro h
      refine List.eq_nil_iff_forall_not_mem.mpr fun x hx => ?_
      obtain ⟨⟨e, he, rfl⟩, hx2⟩ := fall_mem.mp hx
      exact h e he hx2
  rw [Bool.or_eq_true, decide_eq_true_iff, k1, k2, or_assoc]
  by_cases c1 : ∀ e ∈ es, ¬ 0 < sgW z * liftE a b e
  · exact ⟨fun _ => .inl c1, fun _ => .inl c1⟩
  obtain ⟨r0, rr, hr⟩ := List.exists_cons_of_ne_nil (fun h => c1 (k1.mp h))
  have r0m : r0 ∈ riseL (sgW z) a b es := by rw [hr]; exact List.mem_cons_self
  have hd : (riseL (sgW z) a b es).headD 0 = r0 := by rw [hr]; rfl
  refine or_congr Iff.rfl (or_congr Iff.rfl ?_)
  rw [Bool.and_eq_true, List.all_eq_true, List.all_eq_true, hd]
  simp only [decide_eq_true_iff]
  constructor
  · rintro ⟨q1, q2⟩
    exact ⟨r0, (rise_mem.mp r0m).2, fun e he hx => q1 _ (rise_mem.mpr ⟨⟨e, he, rfl⟩, hx⟩), fun e he hx => q2 _ (fall_mem.mpr ⟨⟨e, he, rfl⟩, hx⟩)⟩
  · rintro ⟨r, hr0, q1, q2⟩
    have er : ∀ x ∈ riseL (sgW z) a b es, x = r := fun x hx => by
      obtain ⟨⟨e, he, rfl⟩, hx2⟩ := rise_mem.mp hx
      exact q1 e he hx2
    rw [er r0 r0m]
    exact ⟨er, fun x hx => by
      obtain ⟨⟨e, he, rfl⟩, hx2⟩ := fall_mem.mp hx
      exact q2 e he hx2⟩
theorem nev_sub {es' : List Ev} (h : ∀ e ∈ es', e ∈ es) (hn : nevB a b z es = true) : nevB a b z es' = true := by
  rw [nev_iff] at hn ⊢
  rcases hn with q | q | ⟨r, r0, q1, q2⟩
  · exact .inl fun e he => q e (h e he)
  · exact .inr (.inl fun e he => q e (h e he))
  · exact .inr (.inr ⟨r, r0, fun e he => q1 e (h e he), fun e he => q2 e (h e he)⟩)
theorem pick_iff {α : Type} {S : List Nat} {a : α} : ∀ {l : List α} {o : Nat}, a ∈ pickFrom S o l ↔ ∃ i, l[i]? = some a ∧ o + i ∉ S
  | [], o => by simp [pickFrom]
  | b :: r, o => by
    show a ∈ (if o ∈ S then [] else [b]) ++ pickFrom S (o + 1) r ↔ _
    rw [List.mem_append, pick_iff (l := r)]
    constructor
    · rintro (h | ⟨i, h1, h2⟩)
      · by_cases c : o ∈ S
        · rw [if_pos c] at h; cases h
        · rw [if_neg c] at h
          exact ⟨0, by rw [List.mem_singleton.mp h]; rfl, c⟩
      · exact ⟨i + 1, h1, by rw [show o + (i + 1) = o + 1 + i by omega]; exact h2⟩
    · rintro ⟨i, h1, h2⟩
      cases i with
      | zero =>
        have : b = a := by simpa using h1
        subst this
        left
        rw [if_neg (show o ∉ S from h2)]; exact List.mem_singleton.mpr rfl
      | succ i => exact .inr ⟨i, h1, by rw [show o + 1 + i = o + (i + 1) by omega]; exact h2⟩
theorem pick_sub {α : Type} {S T : List Nat} {l : List α} (h : ∀ i ∈ S, i ∈ T) : ∀ e ∈ pickFrom T 0 l, e ∈ pickFrom S 0 l := fun e he => by
  obtain ⟨i, h1, h2⟩ := pick_iff.mp he
  exact pick_iff.mpr ⟨i, h1, fun hs => h2 (h _ hs)⟩
theorem nev_all {S : List Nat} (h : ∀ i, i < es.length → i ∈ S) : nevB a b z (pickFrom S 0 es) = true := by
  refine nev_iff.mpr (.inl fun e he => ?_)
  obtain ⟨i, h1, h2⟩ := pick_iff.mp he
  rw [Nat.zero_add] at h2
  exact absurd (h i (List.getElem?_eq_some_iff.mp h1).1) h2
theorem pick_none {α : Type} : ∀ {l : List α} {o : Nat}, pickFrom [] o l = l
  | [], _ => rfl
  | a :: r, o => by
    show (if o ∈ [] then [] else [a]) ++ pickFrom [] (o + 1) r = _
    rw [pick_none (l := r), if_neg (by simp)]; rfl
/-- the great machine -/
def base9 (n : Nat) : List Ev := (List.range n).map (fun (i : Nat) => (⟨0, 0, 1, (i : Int) % 2⟩ : Ev)) ++ [⟨0, 0, 1, 3⟩, ⟨0, 0, 1, 7⟩]
def highOf (es : List Ev) : List Nat := (List.range es.length).filter fun i => decide (1 < ((es[i]?).map Ev.x).getD 0)
theorem base_ev {n : Nat} {e : Ev} (h : e ∈ base9 n) : e.b = 0 ∧ e.a = 0 ∧ e.w = 1 ∧ (e.x = 0 ∨ e.x = 1 ∨ e.x = 3 ∨ e.x = 7) := by
  unfold base9 at h
  rcases List.mem_append.mp h with h | h
  · obtain ⟨i, _, rfl⟩ := List.mem_map.mp h
    refine ⟨rfl, rfl, rfl, ?_⟩
    show (i : Int) % 2 = 0 ∨ (i : Int) % 2 = 1 ∨ _
    omega
  · simp only [List.mem_cons, List.not_mem_nil, or_false] at h
    rcases h with rfl | rfl
    · exact ⟨rfl, rfl, rfl, .inr (.inr (.inl rfl))⟩
    · exact ⟨rfl, rfl, rfl, .inr (.inr (.inr rfl))⟩
theorem high_mem {i : Nat} {e : Ev} (h : es[i]? = some e) : i ∈ highOf es ↔ 1 < e.x := by
  unfold highOf
  rw [List.mem_filter, List.mem_range, h]
  simp only [Option.map_some, Option.getD_some, decide_eq_true_iff]
  exact ⟨fun q => q.2, fun q => ⟨(List.getElem?_eq_some_iff.mp h).1, q⟩⟩
theorem high_asc : Asc es.length (highOf es) := by
  refine ⟨fun i hi => ?_, ?_⟩
  · exact List.mem_range.mp (List.mem_filter.mp hi).1
  · exact (List.pairwise_lt_range).filter _
theorem great_lift {e : Ev} (h : e.w = 1) : liftE 1 2 e = 2 * e.x - 1 := by
  unfold liftE
  rw [h]; omega
theorem great_yes {n : Nat} (hp : es.Perm (base9 n)) : nevB 1 2 "up" (pickFrom (highOf es) 0 es) = true := by
  have hsg : sgW "up" = 1 := rfl
  refine nev_iff.mpr (.inr (.inr ⟨1, by decide, fun e he hx => ?_, fun e he hx => Int.emod_one _⟩))
  obtain ⟨i, h1, h2⟩ := pick_iff.mp he
  rw [Nat.zero_add, high_mem h1] at h2
  have hb := base_ev (hp.mem_iff.mp (List.mem_of_getElem? h1))
  rw [hsg, great_lift hb.2.2.1] at *
  omega
theorem great_down {n : Nat} (hp : es.Perm (base9 n)) : nevB 1 2 "down" es = true := by
  have hsg : sgW "down" = -1 := rfl
  refine nev_iff.mpr (.inr (.inr ⟨1, by decide, fun e he hx => ?_, fun e he hx => Int.emod_one _⟩))
  have hb := base_ev (hp.mem_iff.mp he)
  rw [hsg, great_lift hb.2.2.1] at *
  omega
theorem great_no {n : Nat} (hn : 2 ≤ n) (hp : es.Perm (base9 n)) {S : List Nat} (hS : S.length ≤ 1) (hS2 : ∀ i ∈ S, i ∈ highOf es) : nevB 1 2 "up" (pickFrom S 0 es) = false := by
  have hsg : sgW "up" = 1 := rfl
  have get : ∀ e ∈ base9 n, ∃ i, es[i]? = some e := fun e he => List.getElem?_of_mem (hp.mem_iff.mpr he)
  have m0 : (⟨0, 0, 1, 0⟩ : Ev) ∈ base9 n := List.mem_append_left _ (List.mem_map.mpr ⟨0, List.mem_range.mpr (Nat.lt_of_lt_of_le (by decide) hn), rfl⟩)
  have m1 : (⟨0, 0, 1, 1⟩ : Ev) ∈ base9 n := List.mem_append_left _ (List.mem_map.mpr ⟨1, List.mem_range.mpr (Nat.lt_of_lt_of_le (by decide) hn), rfl⟩)
  have m3 : (⟨0, 0, 1, 3⟩ : Ev) ∈ base9 n := List.mem_append_right _ List.mem_cons_self
  have m7 : (⟨0, 0, 1, 7⟩ : Ev) ∈ base9 n := List.mem_append_right _ (List.mem_cons_of_mem _ List.mem_cons_self)
  have low : ∀ e ∈ base9 n, e.x ≤ 1 → e ∈ pickFrom S 0 es := fun e he hx => by
    obtain ⟨i, hi⟩ := get e he
    refine pick_iff.mpr ⟨i, hi, fun h => ?_⟩
    rw [Nat.zero_add] at h
    have := (high_mem hi).mp (hS2 i h)
    omega
  obtain ⟨e2, he2, hx2⟩ : ∃ e ∈ pickFrom S 0 es, e.w = 1 ∧ (e.x = 3 ∨ e.x = 7) := by
    obtain ⟨i, hi⟩ := get _ m3
    obtain ⟨k, hk⟩ := get _ m7
    by_cases c : i ∈ S
    · refine ⟨_, pick_iff.mpr ⟨k, hk, fun h => ?_⟩, rfl, .inr rfl⟩
      rw [Nat.zero_add] at h
      match S, hS, c, h with
      | [s], _, c, h =>
        have e1 := List.mem_singleton.mp c
        have e2 := List.mem_singleton.mp h
        rw [e1, ← e2, hk] at hi
        cases hi
    · exact ⟨_, pick_iff.mpr ⟨i, hi, by rw [Nat.zero_add]; exact c⟩, rfl, .inl rfl⟩
  have p0 := low _ m0 (by show (0 : Int) ≤ 1; decide)
  have p1 := low _ m1 (by show (1 : Int) ≤ 1; decide)
  rw [Bool.eq_false_iff, Ne, nev_iff]
  rintro (q | q | ⟨r, r0, q1, q2⟩)
  · exact q _ p1 (by decide)
  · exact q _ p0 (by decide)
  · have a1 := q1 _ p1 (by decide)
    have l2 := great_lift hx2.1
    have a2 := q1 e2 he2 (by rw [hsg, l2]; omega)
    rw [hsg, l2] at a2
    have : sgW "up" * liftE 1 2 ⟨0, 0, 1, 1⟩ = 1 := by decide
    omega
end X

namespace X
open PySem PySem.Spec PyProof.Rows L2 Lv
variable {N : Nat} {G : Hp}
/-- a thing that can be compared as data -/
def DD (G : Hp) (v : V) : Prop := ∃ d, (∀ (K : PySem.W.Frag) (H : Hp), Ex G H → Dp K H v d) ∧ PyData.canLay0 d = true ∧ PyData.depth d ≤ 3
theorem dd_int (i : Int) : DD G (.int i) := ⟨_, fun _ _ _ => .int i, rfl, by simp [PyData.depth]⟩
theorem dd_bl (i : Bool) : DD G (.bl i) := ⟨_, fun _ _ _ => .bl i, rfl, by simp [PyData.depth]⟩
theorem dd_non : DD G .non := ⟨_, fun _ _ _ => .non, rfl, by simp [PyData.depth]⟩
theorem dd_str {z : Str} (h : PyData.strOk z = true) : DD G (.str z) := ⟨_, fun _ _ _ => .str z, h, by simp [PyData.depth]⟩
theorem dd_all : ∀ {xs : List V}, (∀ x ∈ xs, DD G x) → ∃ ds, (∀ (K : PySem.W.Frag) (H : Hp), Ex G H → DpAll K H xs ds) ∧ PyData.canLayAll0 ds = true ∧ PyData.depthAll ds ≤ 3 ∧ (xs = [] → ds = [])
  | [], _ => ⟨[], fun _ _ _ => .nil, rfl, by simp [PyData.depthAll], fun _ => rfl⟩
  | x :: r, h => by
    obtain ⟨ds, h1, h2, h3, _⟩ := dd_all (xs := r) fun y hy => h y (List.mem_cons_of_mem _ hy)
    obtain ⟨d, q1, q2, q3⟩ := h x List.mem_cons_self
    refine ⟨d :: ds, fun K H e => .cons (q1 K H e) (h1 K H e), ?_, ?_, fun c => nomatch c⟩
    · rw [PyData.canLayAll0, q2, h2]; rfl
    · rw [PyData.depthAll]; omega
theorem dd_tup {a : Addr} {xs : List V} (h : G a = some (.tup xs)) (hx : ∀ x ∈ xs, DD G x) : ∃ ds, (∀ (K : PySem.W.Frag) (H : Hp), Ex G H → Dp K H (.ref a) (.tuple ds)) ∧ SeqAt.shaped (.tuple ds) = true ∧ (xs = [] → ds = []) := by
  obtain ⟨ds, h1, h2, h3, h4⟩ := dd_all hx
  refine ⟨ds, fun K H e => .tup (sqT (e _ _ h)) (h1 K H e), ?_, h4⟩
  unfold SeqAt.shaped
  rw [PyData.canLay0, h2, PyData.depth]
  simp
  omega
theorem dd_lst {a : Addr} {xs : List V} (h : G a = some (.lst xs)) (hx : ∀ x ∈ xs, DD G x) : ∃ ds, (∀ (K : PySem.W.Frag) (H : Hp), Ex G H → Dp K H (.ref a) (.list ds)) ∧ SeqAt.shaped (.list ds) = true := by
  obtain ⟨ds, h1, h2, h3, h4⟩ := dd_all hx
  refine ⟨ds, fun K H e => .lst (sqL (e _ _ h)) (h1 K H e), ?_⟩
  unfold SeqAt.shaped
  rw [PyData.canLay0, h2, PyData.depth]
  simp
  omega
theorem dd_int1 {a : Addr} {i : Int} (h : G a = some (.tup [.int i])) : DD G (.ref a) := by
  refine ⟨.tuple [.int i], fun K H e => .tup (sqT (e _ _ h)) (.cons (.int i) .nil), rfl, ?_⟩
  simp [PyData.depth, PyData.depthAll]
def Nil (G : Hp) (v : V) : Prop := ∃ a, v = .ref a ∧ G a = some (.tup [])
/-- no ascending tuple, or the empty one -/
def Odd9 (N : Nat) (G : Hp) (v : V) : Prop := Kd2 G v ∧ (¬ AscV G N v ∨ Nil G v) ∧ ((∃ a ks, v = .ref a ∧ G a = some (.dK ks)) ∨ ∃ d, (∀ (K : PySem.W.Frag) (H : Hp), Ex G H → Dp K H v d) ∧ SeqAt.shaped d = true ∧ (Nil G v → PyData.eqv d (.tuple []) = true))
theorem odd_tup {a : Addr} {xs : List V} (h : G a = some (.tup xs)) (hl : xs.length ≤ 1000) (hk : ∀ x ∈ xs, Kd G x ∧ DD G x) (hn : xs = [] ∨ ∀ rs, xs = rV rs → ¬ Asc N rs) : Odd9 N G (.ref a) := by
  refine ⟨⟨.tup h, fun a' xs' e g => ?_⟩, ?_, .inr ?_⟩
  · cases e
    rw [h] at g
    cases g
    exact ⟨hl, fun x hx => (hk x hx).1⟩
  · rcases hn with rfl | hn
    · exact .inr ⟨a, rfl, h⟩
    · refine .inl ?_
      rintro ⟨a', rs, e, g, hA⟩
      cases e
      rw [h] at g
      cases g
      exact hn rs rfl hA
  · obtain ⟨ds, h1, h2, h3⟩ := dd_tup h fun x hx => (hk x hx).2
    refine ⟨_, h1, h2, ?_⟩
    rintro ⟨a', e, g⟩
    cases e
    rw [h] at g
    cases g
    rw [h3 rfl]; rfl
theorem odd_lst {a : Addr} {xs : List V} (h : G a = some (.lst xs)) (hk : ∀ x ∈ xs, DD G x) : Odd9 N G (.ref a) := by
  refine ⟨⟨.lst h, fun a' xs' e g => by cases e; rw [h] at g; cases g⟩, .inl ?_, .inr ?_⟩
  · rintro ⟨a', rs, e, g, _⟩
    cases e
    rw [h] at g
    cases g
  · obtain ⟨ds, h1, h2⟩ := dd_lst h hk
    refine ⟨_, h1, h2, ?_⟩
    rintro ⟨a', e, g⟩
    cases e
    rw [h] at g
    cases g
theorem odd_dic {a : Addr} {ks : List (L2.Key × V)} (h : G a = some (.dK ks)) : Odd9 N G (.ref a) := by
  refine ⟨⟨.dic h, fun a' xs' e g => by cases e; rw [h] at g; cases g⟩, .inl ?_, .inl ⟨a, ks, rfl, h⟩⟩
  rintro ⟨a', rs, e, g, _⟩
  cases e
  rw [h] at g
  cases g
theorem odd_val {v : V} (hk : Kd G v) (hd : DD G v) (hv : ∀ a, v ≠ .ref a) : Odd9 N G v := by
  obtain ⟨d, h1, h2, h3⟩ := hd
  refine ⟨⟨hk, fun a xs e => absurd e (hv a)⟩, .inl ?_, .inr ⟨d, h1, ?_, ?_⟩⟩
  · rintro ⟨a', rs, e, _⟩
    exact hv _ e
  · unfold SeqAt.shaped
    rw [h2]; simp; omega
  · rintro ⟨a', e, g⟩
    exact absurd e (hv _)
theorem asc_back {G' : Hp} {v : V} (e : Ex G G') (hk : Kd G v) (h : AscV G' N v) : AscV G N v := by
  obtain ⟨a, rs, rfl, g, hA⟩ := h
  cases hk with
  | lst q => rw [e _ _ q] at g; cases g
  | tup q =>
    have q2 := e _ _ q
    rw [g] at q2
    cases q2
    exact ⟨a, rs, rfl, q, hA⟩
  | dic q => rw [e _ _ q] at g; cases g
theorem odd_ne {K : PySem.W.Frag} {H : Hp} {v : V} {b : Addr} {Q : VK} (j : Ex G H) (h : Odd9 N G v) (hb : H b = some (.tup [])) (q : ∀ c : Bool, (c = true → ¬ AscV G N v) → Q (.bl c) H) : rNeX K v (.ref b) H Q := by
  obtain ⟨hk, hn, hd⟩ := h
  rcases hd with ⟨a, ks, rfl, ha⟩ | ⟨d, h1, h2, h3⟩
  · refine .inr ⟨a, b, ks, [], rfl, rfl, fun e => ?_, j _ _ ha, sqT hb, q true fun _ => ?_⟩
    · rw [e] at ha
      have := j _ _ ha
      rw [hb] at this; cases this
    · rintro ⟨a', rs, e, g, _⟩
      cases e
      rw [ha] at g; cases g
  · refine .inl ⟨d, .tuple [], h1 K H j, .tup (sqT hb) .nil, h2, by decide, q _ fun hc => ?_⟩
    rcases hn with hn | hn
    · exact hn
    · rw [h3 hn] at hc; cases hc
theorem extend_go {G P H : Hp} {l b : Addr} {xs zs : List V} {Q : VK} (J : Join G P H) (e : G l = some (.lst xs)) (hb : H b = some (.lst zs)) (z : xs.length + zs.length < 100000) (q : ∀ G' H', But l G G' → Join G' P H' → G' l = some (.lst (xs ++ zs)) → Q .non H') : rExtend (.ref l) [.ref b] H Q :=
  ⟨l, b, xs, zs, rfl, rfl, J.g _ _ e, hb, Nat.le_of_lt (szlt z), q (upd G l (.lst (xs ++ zs))) _ but_upd (J.setG (J.gp e)) upd_same⟩
theorem rV_snoc_no {N : Nat} {rs : List Nat} {rs' : List Nat} (h : rV rs ++ [V.int (N : Int)] = rV rs') : ¬ Asc N rs' := fun hA => by
  have hm : V.int (N : Int) ∈ rV rs' := by rw [← h]; exact List.mem_append_right _ List.mem_cons_self
  obtain ⟨k, hk, e⟩ := List.mem_map.mp hm
  have := hA.1 k hk
  have := V.int.inj e
  omega
theorem rV_has {v : V} {rs : List Nat} (h : v ∈ rV rs) : ∃ k ∈ rs, v = .int (k : Nat) := by
  obtain ⟨k, hk, e⟩ := List.mem_map.mp h
  exact ⟨k, hk, e.symm⟩
theorem rev_no {N : Nat} {rs rs' : List Nat} (hne : rs ≠ []) (h : (rV rs).reverse ++ rV rs = rV rs') : ¬ Asc N rs' := fun hA => by
  have e : rs' = rs.reverse ++ rs := by
    refine (rV_inj ?_).symm
    rw [← h]
    unfold rV
    rw [List.map_append, List.map_reverse]
  have hn := hA.2.imp (fun {a b} (h : a < b) => Nat.ne_of_lt h)
  rw [e] at hn
  obtain ⟨x, r, rfl⟩ := List.exists_cons_of_ne_nil hne
  exact (List.pairwise_append.mp hn).2.2 x (List.mem_reverse.mpr List.mem_cons_self) x List.mem_cons_self rfl
theorem more_ok {N : Nat} {rs rs2 : List Nat} (h1 : Asc N rs) (h2 : Asc N rs2) {ns : List Int} (hp : ns.Perm (rs.map (fun (k : Nat) => (k : Int)) ++ (rs2.map (fun (k : Nat) => (k : Int))).filter (fun x => decide (x ∉ rs.map (fun (k : Nat) => (k : Int)))))) (hs : ns.Pairwise (· ≤ ·)) : ∃ rs3, ns.map V.int = rV rs3 ∧ Asc N rs3 ∧ ∀ i ∈ rs, i ∈ rs3 := by
  have inj : ∀ {l : List Nat}, l.Pairwise (· < ·) → (l.map (fun (k : Nat) => (k : Int))).Nodup := fun hl => by
    refine List.pairwise_map.mpr (hl.imp fun {a b} h => ?_)
    omega
  have hmem : ∀ x ∈ ns, 0 ≤ x ∧ x < N := fun x hx => by
    rcases List.mem_append.mp (hp.mem_iff.mp hx) with h | h
    · obtain ⟨k, hk, rfl⟩ := List.mem_map.mp h
      have := h1.1 k hk
      omega
    · obtain ⟨k, hk, rfl⟩ := List.mem_map.mp (List.mem_filter.mp h).1
      have := h2.1 k hk
      omega
  have hnd : ns.Nodup := by
    refine hp.nodup_iff.mpr (List.nodup_append.mpr ⟨inj h1.2, (inj h2.2).filter _, fun a ha b hb e => ?_⟩)
    subst e
    exact (of_decide_eq_true (List.mem_filter.mp hb).2) ha
  refine ⟨ns.map Int.toNat, ?_, ⟨fun i hi => ?_, ?_⟩, fun i hi => ?_⟩
  · unfold rV
    rw [List.map_map]
    refine List.map_congr_left fun x hx => ?_
    have := hmem x hx
    show V.int x = V.int ((x.toNat : Nat) : Int)
    rw [Int.toNat_of_nonneg this.1]
  · obtain ⟨x, hx, rfl⟩ := List.mem_map.mp hi
    have := hmem x hx
    omega
  · refine List.pairwise_map.mpr ?_
    have := (hs.and hnd)
    refine List.Pairwise.imp_of_mem (fun {a b} ha hb h => ?_) this
    have q1 := hmem a ha
    have q2 := hmem b hb
    have q3 := h.1
    have q4 := h.2
    omega
  · refine List.mem_map.mpr ⟨(i : Int), hp.mem_iff.mpr (List.mem_append_left _ (List.mem_map.mpr ⟨i, hi, rfl⟩)), by simp⟩
end X

namespace X
open PySem PySem.Spec PyProof.Rows L2 Lv
theorem evV_one {e e' : Ev} (h : evV e = evV e') : e = e' := by
  cases e; cases e'
  unfold evV at h
  injection h with h1 h
  injection h with h2 h
  injection h with h3 h
  injection h with h4 _
  cases h1; cases h2; cases h3; cases h4
  rfl
open Classical in
noncomputable def evOf (G : Hp) (v : V) : Ev := if h : ∃ e t, v = .ref t ∧ G t = some (.tup (evV e)) then h.choose else ⟨0, 0, 0, 0⟩
theorem evOf_at {G : Hp} {t : Addr} {e : Ev} (h : G t = some (.tup (evV e))) : evOf G (.ref t) = e := by
  have hx : ∃ e t', V.ref t = .ref t' ∧ G t' = some (.tup (evV e)) := ⟨e, t, rfl, h⟩
  unfold evOf
  rw [dif_pos hx]
  obtain ⟨t', e1, e2⟩ := hx.choose_spec
  cases e1
  rw [h] at e2
  exact (evV_one (HO.tup.inj (Option.some.inj e2))).symm
theorem evL_perm {G : Hp} {us us' : List V} {es : List Ev} (hp : us'.Perm us) (h : EvL G us es) : ∃ es', es'.Perm es ∧ EvL G us' es' := by
  have e1 : us.map (evOf G) = es := by
    refine List.ext_getElem? fun i => ?_
    rw [List.getElem?_map]
    by_cases hi : i < es.length
    · obtain ⟨t, h1, h2⟩ := h.2 i es[i] (List.getElem?_eq_getElem hi)
      rw [h1, List.getElem?_eq_getElem hi]
      show some (evOf G (.ref t)) = _
      rw [evOf_at h2]
    · rw [List.getElem?_eq_none (show us.length ≤ i by rw [h.1]; omega), List.getElem?_eq_none (show es.length ≤ i by omega)]; rfl
  refine ⟨us'.map (evOf G), e1 ▸ hp.map _, by rw [List.length_map], fun i e he => ?_⟩
  rw [List.getElem?_map] at he
  obtain ⟨v, hv, rfl⟩ := Option.map_eq_some_iff.mp he
  obtain ⟨k, hk⟩ := List.getElem?_of_mem (hp.mem_iff.mp (List.mem_of_getElem? hv))
  obtain ⟨e, t, he2, rfl, ht⟩ := TupL.get h hk
  exact ⟨t, hv, by rw [evOf_at ht]; exact ht⟩
theorem base_more (i : Nat) : (List.range (i + 1)).map (fun (i : Nat) => (⟨0, 0, 1, (i : Int) % 2⟩ : Ev)) = (List.range i).map (fun (i : Nat) => (⟨0, 0, 1, (i : Int) % 2⟩ : Ev)) ++ [⟨0, 0, 1, (i : Int) % 2⟩] := by
  rw [List.range_succ, List.map_append]; rfl
theorem base_len (n : Nat) : (base9 n).length = n + 2 := by
  unfold base9
  simp
def highTo (es : List Ev) (i : Nat) : List Nat := (List.range i).filter fun i => decide (1 < ((es[i]?).map Ev.x).getD 0)
theorem high_more {es : List Ev} {i : Nat} {e : Ev} (h : es[i]? = some e) : highTo es (i + 1) = highTo es i ++ (if 1 < e.x then [i] else []) := by
  unfold highTo
  rw [List.range_succ, List.filter_append, List.filter_cons, h]
  simp
theorem high_len (es : List Ev) (i : Nat) : (highTo es i).length ≤ i := by
  have := List.length_filter_le (fun i => decide (1 < ((es[i]?).map Ev.x).getD 0)) (List.range i)
  rw [List.length_range] at this
  exact this
theorem share12 {G : Hp} {q : Addr} (h : G q = some (.tup [.int 1, .int 2])) : ShareAt G q 1 2 := ⟨h, by decide, by decide, Nat.one_lt_two_pow (by decide), Nat.lt_of_lt_of_le (show (2 : Int).natAbs < 2 ^ 2 by decide) (Nat.pow_le_pow_right (by decide) (by decide))⟩
/-- a right lot asked -/
theorem mend9 {K : PySem.W.Frag} {m q p : Addr} {z : Str} {a b : Int} {es : List Ev} {rs : List Nat} {G P H : Hp} {Q : VK} {E : XK} (j : Join G P H) (nt : NT P) (hM : MachK K G m 1 es) (hB : EvB 1 es) (hS : ShareAt G q a b) (hz : z ∈ ways) (hp : G p = some (.tup (rV rs))) (hA : Asc es.length rs) (hl : rs.length ≤ 1000) (k : ∀ G' H', Ex G G' → Join G' P H' → Q (.bl (nevB a b z (pickFrom rs 0 es))) H') : spIsMend K [.ref m, .ref q, .str z, .ref p] H Q E :=
  ⟨m, q, .ref p, z, a, b, es, G, P, rfl, j, nt, hM, hB, hS, hz, kd2_rV hp hl, fun p' rs' e h _ => by
    cases e
    rw [hp] at h
    cases Option.some.inj h |> HO.tup.inj |> rV_inj
    exact k, fun hno => absurd ⟨p, rs, rfl, hp, hA⟩ hno⟩
end X

namespace X
open PySem PySem.Spec PyProof.Rows L2 Lv
variable {P : Program} {w : World} {K : PySem.W.Frag} {mg : Str → Option Value} {base : Heap}
def spLot (K : PySem.W.Frag) : Sp := fun vs H Q _ => ∃ (l : Addr) (N : Nat) (G P : Hp), vs = [.ref l, .int (N : Int)] ∧ Join G P H ∧ Pot P l ∧ N ≤ 100 ∧
  ∀ p rs G' P' H', Asc N rs → rs.length ≤ N → Ex G G' → Join G' P' H' → Pot P' l → G' p = some (.tup (rV rs)) → Q (.ref p) H'
theorem sc_l_lot : FnScope ["_law_pot_here", "_law_many", "_law_number"] ["_law_pot_here", "_law_many"] (defScope s_l_lot) := ⟨rfl, rfl, rfl, by decide +kernel, rfl, by decide +kernel, by decide +kernel⟩
theorem ok_l_lot (T : Txt K mg) {fd_l_draw : FuncData} (G_l_draw : Dn P w K mg base (L2.CX P w) 1 "_law_draw" ["_law_pot_here", "_law_many"] spDraw fd_l_draw) : ∃ fd, Dn P w K mg base (L2.CX P w) 2 "_law_lot" ["_law_pot_here", "_law_many"] (spLot K) fd := by
  obtain ⟨fd, F⟩ := T.d_l_lot
  refine ⟨fd, F.ok sc_l_lot (fun vs H Q E h => ?_) (fun cdv A outer s H vs Q E hr h => ?_), T.g_l_lot, F.kp, F.bindsN fun _ _ _ _ _ _ us hl => match us, hl with | [_, _], _ => rfl, Lv.fun_lk F⟩
  · obtain ⟨_, _, _, _, rfl, _⟩ := h
    rfl
  · have hu := hu_of hr
    have hr_l_draw : Room 1 _ := hr.mono (by decide)
    refine ⟨_, PSs.nox (pss_one (ps_ret (pe_callTy call_tuple_of (by rfl) T.n_tuple (by decide +kernel) (pa_cons (pe_lc (own := [("_law_number", 2)]) (g := gName 2) rfl sc_l_lot.nd (pi_range1 (by rfl) T.n_range (pa_cons (pv 1) pa_nil)) (blkOk_by (N := ["_law_pot_here", "_law_many", "_law_number"]) (sc := defScope s_l_lot) (by decide +kernel)) (fun _ _ _ _ _ => (pg_name (i := 2) sc_l_lot.nd rfl (Or.inl rfl) (hf := Or.inr rfl))) (fun _ _ _ _ _ => (pts_one (pt_cmpR op_eq (pe_call G_l_draw.ok hr_l_draw rfl G_l_draw.mg G_l_draw.kp G_l_draw.b .nil passL (pa_cons (pv 0) (pa_cons pe_int pa_nil))) pe_int (nomark _)))) (fun _ _ _ _ _ => (pv 2))) pa_nil)))), ?_⟩
    obtain ⟨l, N, G, P0, rfl, j, hP, hN, q⟩ := h
    walk_at "w"
    refine aLcR.go (n := N) (fun P' => Pot P' l) (fun i us G' => ∃ rs : List Nat, us = rV rs ∧ rs.Pairwise (· < ·) ∧ (∀ k ∈ rs, k < i) ∧ rs.length ≤ i ∧ i ≤ 1000) j hP rfl (by omega) (fun _ _ => ⟨[], rfl, .nil, (fun k hk => nomatch hk), Nat.le_refl _, by decide⟩) (fun i us G2 D _ _ hd h => h) (fun i us G2 h => ?_) ?_ ?_
    · obtain ⟨rs, rfl, _, _, h1, h2⟩ := h
      rw [rV, List.length_map]; omega
    · rintro i us G' P' H' R R0 hi e' ⟨rs, rfl, h1, h2, h3, h4⟩ hP' j' kR kR0
      walk_at "w"
      refine ⟨rfl, ?_⟩
      walk_at "w"
      refine ⟨l, 2, G', P', rfl, j', hP', by decide, by decide, fun d P2 H2 d0 d1 j2 hP2 => ?_⟩
      walk_at "w"
      by_cases c : d = 0
      · refine itT (congrArg V.int c) ?_
        walk_at "w"
        refine kR _ _ _ H2 (Ex.refl _) hP2 j2 ⟨rs ++ [i], by rw [rV, rV, List.map_append]; rfl, ?_, fun k hk => ?_, by rw [List.length_append, List.length_singleton]; omega, by omega⟩
        · refine List.pairwise_append.mpr ⟨h1, List.pairwise_singleton _ _, fun x hx y hy => ?_⟩
          rw [List.mem_singleton.mp hy]
          exact h2 x hx
        · rcases List.mem_append.mp hk with hk | hk
          · have := h2 k hk; omega
          · rw [List.mem_singleton.mp hk]; omega
      · refine itF (fun h => c (V.int.inj h)) ?_
        exact kR0 _ _ H2 (Ex.refl _) hP2 j2 ⟨rs, rfl, h1, fun k hk => by have := h2 k hk; omega, by omega, by omega⟩
    · rintro p us G' P' H' np e' hp ⟨rs, rfl, h1, h2, h3, h4⟩ hP' j'
      walk_at "w"
      refine tupOf_go j' hp fun t G2 H2 _ e2 j2 ht => ?_
      exact q t rs G2 P' H2 ⟨h2, h1⟩ h3 (e'.trans e2) j2 hP' ht
def sp_law (K : PySem.W.Frag) : Sp := fun vs H Q _ => ∃ (a : Addr) (ns : List Int), vs = [.ref a] ∧ SqL K H a (ns.map V.int) ∧ ns.length ≤ 63 ∧ ∀ H', Q (.bl true) H'
theorem sc_law : FnScope ["_law_script", "_law_pot_here", "_law_parts_here", "_law_machine", "_law_many", "_law_share_here", "_law_way", "_law_turn", "_law_events", "_law_great", "_law_high", "_law_lot_here", "_law_due", "_law_more", "_law_odd", "_law_thing", "_law_at", "_law_number"] ["_law_script"] (defScope s_law) := ⟨rfl, rfl, rfl, by decide +kernel, rfl, by decide +kernel, by decide +kernel⟩
theorem ok_law (T : Txt K mg) {fd_l_pot : FuncData} (G_l_pot : Dn P w K mg base (L2.CX P w) 1 "_law_pot" ["_law_script"] (spPot K) fd_l_pot) {fd_l_parts : FuncData} (G_l_parts : Dn P w K mg base (L2.CX P w) 2 "_law_parts" ["_law_pot_here", "_law_most_standings", "_law_most_events"] spParts fd_l_parts) {fd_Machine_init : FuncData} (G_Machine_init : Dm P w K mg base (L2.CX P w) 4 "Machine" "__init__" ["self", "standings", "events"] (spMInit (He.ga K "Machine")) fd_Machine_init) {fd_l_share : FuncData} (G_l_share : Dn P w K mg base (L2.CX P w) 3 "_law_share" ["_law_pot_here", "_law_most"] (spShare K) fd_l_share) {fd_l_draw : FuncData} (G_l_draw : Dn P w K mg base (L2.CX P w) 1 "_law_draw" ["_law_pot_here", "_law_many"] spDraw fd_l_draw) {fd_is_mend : FuncData} (G_is_mend : Dn P w K mg base (L2.CX P w) 10 "is_mend" ["machine", "share", "way", "thing"] (spIsMend K) fd_is_mend) {fd_l_lot : FuncData} (G_l_lot : Dn P w K mg base (L2.CX P w) 2 "_law_lot" ["_law_pot_here", "_law_many"] (spLot K) fd_l_lot) {fd_struck : FuncData} (G_struck : Dn P w K mg base (L2.CX P w) 5 "struck" ["machine", "events"] (spStruck K) fd_struck) {fd_never : FuncData} (G_never : Dn P w K mg base (L2.CX P w) 9 "never" ["machine", "share", "way"] (spNever K) fd_never) {fd_l_mixed : FuncData} (G_l_mixed : Dn P w K mg base (L2.CX P w) 5 "_law_mixed" ["_law_pot_here", "_law_items"] (spMixed K) fd_l_mixed) : ∃ fd, Dn P w K mg base CX0 11 "law" ["_law_script"] (sp_law K) fd := by
  obtain ⟨fd, F⟩ := T.d_law
  refine ⟨fd, F.ok sc_law (fun vs H Q E h => ?_) (fun cdv A outer s H vs Q E hr h => ?_), T.g_law, F.kp, F.bindsN fun _ _ _ _ _ _ us hl => match us, hl with | [_], _ => rfl, Lv.fun_lk F⟩
  · obtain ⟨_, _, rfl, _⟩ := h
    rfl
  · have hu := hu_of hr
    have hr_l_pot : Room 1 _ := hr.mono (by decide)
    have hr_l_parts : Room 2 _ := hr.mono (by decide)
    have hr_Machine_init : Room 5 _ := hr.mono (by decide)
    have hr_l_share : Room 3 _ := hr.mono (by decide)
    have hr_l_draw : Room 1 _ := hr.mono (by decide)
    have hr_is_mend : Room 10 _ := hr.mono (by decide)
    have hr_l_lot : Room 2 _ := hr.mono (by decide)
    have hr_struck : Room 5 _ := hr.mono (by decide)
    have hr_never : Room 9 _ := hr.mono (by decide)
    have hr_l_mixed : Room 5 _ := hr.mono (by decide)
    refine ⟨_, PSs.nox (pss_cons (ps_set (i := 1) sc_law.nd rfl (Or.inl rfl) (pe_call G_l_pot.ok hr_l_pot rfl G_l_pot.mg G_l_pot.kp G_l_pot.b .nil passL (pa_cons (pv 0) pa_nil)))
      (pss_cons (ps_set (i := 2) sc_law.nd rfl (Or.inl rfl) (pe_call G_l_parts.ok hr_l_parts rfl G_l_parts.mg G_l_parts.kp G_l_parts.b .nil passL (pa_cons (pv 1) (pa_cons pe_int (pa_cons pe_int pa_nil)))))
      (pss_cons (ps_set (i := 3) sc_law.nd rfl (Or.inl rfl) (pe_make T.mk_Machine G_Machine_init.ok hr_Machine_init (by rfl) T.g_Machine G_Machine_init.b .nil passL (pa_cons pe_int (pa_cons (pe_ix ix_tup (pv 2) pe_int (fun _ _ => rfl)) pa_nil))))
      (pss_cons (ps_set (i := 4) sc_law.nd rfl (Or.inl rfl) (pe_callB call_len (by rfl) T.n_len PySem.boot_len (pa_cons (pe_ix ix_tup (pv 2) pe_int (fun _ _ => rfl)) pa_nil)))
      (pss_cons (ps_set (i := 5) sc_law.nd rfl (Or.inl rfl) (pe_call G_l_share.ok hr_l_share rfl G_l_share.mg G_l_share.kp G_l_share.b .nil passL (pa_cons (pv 1) (pa_cons pe_int pa_nil))))
      (pss_cons (ps_set (i := 6) sc_law.nd rfl (Or.inl rfl) (pe_ix ix_list (pe_lst (pa_cons pe_str (pa_cons pe_str pa_nil))) (pe_call G_l_draw.ok hr_l_draw rfl G_l_draw.mg G_l_draw.kp G_l_draw.b .nil passL (pa_cons (pv 1) (pa_cons pe_int pa_nil))) (fun _ _ => rfl)))
      (pss_cons (ps_if (pt_not (pt_val (pe_call G_is_mend.ok hr_is_mend rfl G_is_mend.mg G_is_mend.kp G_is_mend.b .nil passL (pa_cons (pv 3) (pa_cons (pv 5) (pa_cons (pv 6) (pa_cons (pe_callTy call_tuple_of (by rfl) T.n_tuple (by decide +kernel) (pa_cons (pe_listRg rfl (by rfl) T.n_list (prg_1 (by rfl) T.n_range (pv 4))) pa_nil)) pa_nil))))))) (pss_one (ps_ret pe_bl)) pss_nil)
      (pss_cons (ps_for PassesOwn.never rfl (pi_range1 (by rfl) T.n_range (pa_cons pe_int pa_nil)) (pg_name (i := 7) sc_law.nd rfl (Or.inl rfl)) (pss_cons (ps_set (i := 11) sc_law.nd rfl (Or.inr rfl) (pe_call G_l_lot.ok hr_l_lot rfl G_l_lot.mg G_l_lot.kp G_l_lot.b .nil passL (pa_cons (pv 1) (pa_cons (pv 4) pa_nil))))
      (pss_cons (ps_set (i := 12) sc_law.nd rfl (Or.inl rfl) (pe_call G_never.ok hr_never rfl G_never.mg G_never.kp G_never.b .nil passL (pa_cons (pe_call G_struck.ok hr_struck rfl G_struck.mg G_struck.kp G_struck.b .nil passL (pa_cons (pv 3) (pa_cons (pv 11) pa_nil))) (pa_cons (pv 5) (pa_cons (pv 6) pa_nil)))))
      (pss_cons (ps_if (pt_cmpR op_ne (pe_call G_is_mend.ok hr_is_mend rfl G_is_mend.mg G_is_mend.kp G_is_mend.b .nil passL (pa_cons (pv 3) (pa_cons (pv 5) (pa_cons (pv 6) (pa_cons (pv 11) pa_nil))))) (pv 12) (nomark _)) (pss_one (ps_ret pe_bl)) pss_nil)
      (pss_cons (ps_set (i := 13) sc_law.nd rfl (Or.inl rfl) (pe_callTy call_tuple_of (by rfl) T.n_tuple (by decide +kernel) (pa_cons (pe_callB (Lv.cr_sortedIK (K := K) rfl) (by rfl) T.n_sorted (by decide +kernel) (pa_cons (pe_op op_cat (pe_callTy call_list_of (by rfl) T.n_list (by decide +kernel) (pa_cons (pv 11) pa_nil)) (pe_lc (own := [("_law_number", 17)]) (g := gName 17) rfl sc_law.nd (pi_tup (pe_call G_l_lot.ok hr_l_lot rfl G_l_lot.mg G_l_lot.kp G_l_lot.b .nil passL (pa_cons (pv 1) (pa_cons (pv 4) pa_nil)))) (blkOk_by (N := ["_law_script", "_law_pot_here", "_law_parts_here", "_law_machine", "_law_many", "_law_share_here", "_law_way", "_law_turn", "_law_events", "_law_great", "_law_high", "_law_lot_here", "_law_due", "_law_more", "_law_odd", "_law_thing", "_law_at", "_law_number"]) (sc := defScope s_law) (by decide +kernel)) (fun _ _ _ _ _ => (pg_name (i := 17) sc_law.nd rfl (Or.inl rfl) (hf := Or.inr rfl))) (fun _ _ _ _ _ => (pts_one (pt_cmpR (op_notInK (K := K) rfl) (pv 17) (pv 11) (by rfl)))) (fun _ _ _ _ _ => (pv 17)))) pa_nil)) pa_nil)))
      (Evl.pss_cut (ps_if (PW.pt (pw_and (pt_val (pv 12)) (pw_and1 (pt_not (pt_val (pe_call G_is_mend.ok hr_is_mend rfl G_is_mend.mg G_is_mend.kp G_is_mend.b .nil passL (pa_cons (pv 3) (pa_cons (pv 5) (pa_cons (pv 6) (pa_cons (pv 13) pa_nil)))))))))) (pss_one (ps_ret pe_bl)) pss_nil)
      (pss_cons (ps_set (i := 14) sc_law.nd rfl (Or.inl rfl) (pe_lst (pa_cons (pe_callTy call_list_of (by rfl) T.n_list (by decide +kernel) (pa_cons (pv 11) pa_nil)) (pa_cons (pe_op op_catA (pv 11) (pe_tup (pa_cons (pv 4) pa_nil))) (pa_cons (pe_op op_catA (pe_tup (pa_cons (pe_un un_neg pe_int) pa_nil)) (pv 11)) (pa_cons (pe_tup (pa_cons pe_bl pa_nil)) (pa_cons pe_non (pa_cons pe_int (pa_cons pe_dnewK (pa_cons pe_str (pa_cons (pe_op op_catA (pv 11) (pe_tup (pa_cons pe_non pa_nil))) (pa_cons (pe_op op_catA (Lv.pe_revT (pv 11)) (pv 11)) pa_nil))))))))))))
      (pss_cons (ps_expr (pe_bm PySem.F.plainAttrs_list PySem.F.slot_list_extend PySem.F.type_list_extend mt_extend (pv 14) (pa_cons (pe_lst (pa_cons (pe_tup (pa_cons (pe_tup (pa_cons pe_int pa_nil)) pa_nil)) (pa_cons (pe_tup (pa_cons pe_int (pa_cons pe_int pa_nil))) (pa_cons (pe_tup (pa_cons pe_int (pa_cons pe_int pa_nil))) (pa_cons (pe_tup (pa_cons (pe_op op_pow pe_int pe_int) pa_nil)) (pa_cons (pe_tup (pa_cons pe_str pa_nil)) pa_nil)))))) pa_nil)))
      (pss_cons (ps_set (i := 15) sc_law.nd rfl (Or.inl rfl) (pe_ix ix_list (pv 14) (pe_call G_l_draw.ok hr_l_draw rfl G_l_draw.mg G_l_draw.kp G_l_draw.b .nil passL (pa_cons (pv 1) (pa_cons (pe_callB call_len_seq (by rfl) T.n_len PySem.boot_len (pa_cons (pv 14) pa_nil)) pa_nil))) (fun _ _ => rfl)))
      (pss_one (ps_if (PW.pt (pw_and (pt_cmpR (Lv.op_neXK (K := K) rfl hr.units) (pv 15) (pe_tup pa_nil) (nomark _)) (pw_and1 (pt_val (pe_call G_is_mend.ok hr_is_mend rfl G_is_mend.mg G_is_mend.kp G_is_mend.b .nil passL (pa_cons (pv 3) (pa_cons (pv 5) (pa_cons (pv 6) (pa_cons (pv 15) pa_nil))))))))) (pss_one (ps_ret pe_bl)) pss_nil)))))))))))
      (pss_cons (ps_set (i := 8) sc_law.nd rfl (Or.inr rfl) (pe_lc (own := [("_law_at", 16)]) (g := gName 16) (tt := tYes) rfl sc_law.nd (pi_range1 (by rfl) T.n_range (pa_cons (pe_op op_add pe_int (pe_call G_l_draw.ok hr_l_draw rfl G_l_draw.mg G_l_draw.kp G_l_draw.b .nil passL (pa_cons (pv 1) (pa_cons pe_int pa_nil)))) pa_nil)) (blkOk_by (N := ["_law_script", "_law_pot_here", "_law_parts_here", "_law_machine", "_law_many", "_law_share_here", "_law_way", "_law_turn", "_law_events", "_law_great", "_law_high", "_law_lot_here", "_law_due", "_law_more", "_law_odd", "_law_thing", "_law_at", "_law_number"]) (sc := defScope s_law) (by decide +kernel)) (fun _ _ _ _ _ => (pg_name (i := 16) sc_law.nd rfl (Or.inl rfl) (hf := Or.inr rfl))) (fun _ _ _ _ _ => pts_nil) (fun _ _ _ _ _ => (pe_tup (pa_cons pe_int (pa_cons pe_int (pa_cons pe_int (pa_cons (pe_op op_mod (pe_callTy call_int1 (by rfl) T.n_int (by decide +kernel) (pa_cons (pv 16) pa_nil)) pe_int) pa_nil))))))))
      (pss_cons (ps_set (i := 8) sc_law.nd rfl (Or.inr rfl) (pe_call G_l_mixed.ok hr_l_mixed rfl G_l_mixed.mg G_l_mixed.kp G_l_mixed.b .nil passL (pa_cons (pv 1) (pa_cons (pe_op op_cat (pv 8) (pe_lst (pa_cons (pe_tup (pa_cons pe_int (pa_cons pe_int (pa_cons pe_int (pa_cons pe_int pa_nil))))) (pa_cons (pe_tup (pa_cons pe_int (pa_cons pe_int (pa_cons pe_int (pa_cons pe_int pa_nil))))) pa_nil)))) pa_nil))))
      (pss_cons (ps_set (i := 9) sc_law.nd rfl (Or.inl rfl) (pe_make T.mk_Machine G_Machine_init.ok hr_Machine_init (by rfl) T.g_Machine G_Machine_init.b .nil passL (pa_cons pe_int (pa_cons (pe_callTy call_tuple_of (by rfl) T.n_tuple (by decide +kernel) (pa_cons (pv 8) pa_nil)) pa_nil))))
      (pss_cons (ps_set (i := 10) sc_law.nd rfl (Or.inl rfl) (pe_callTy call_tuple_of (by rfl) T.n_tuple (by decide +kernel) (pa_cons (pe_lc (own := [("_law_at", 16)]) (g := gName 16) rfl sc_law.nd (pi_range1 (by rfl) T.n_range (pa_cons (pe_callB call_len_seq (by rfl) T.n_len PySem.boot_len (pa_cons (pv 8) pa_nil)) pa_nil)) (blkOk_by (N := ["_law_script", "_law_pot_here", "_law_parts_here", "_law_machine", "_law_many", "_law_share_here", "_law_way", "_law_turn", "_law_events", "_law_great", "_law_high", "_law_lot_here", "_law_due", "_law_more", "_law_odd", "_law_thing", "_law_at", "_law_number"]) (sc := defScope s_law) (by decide +kernel)) (fun _ _ _ _ _ => (pg_name (i := 16) sc_law.nd rfl (Or.inl rfl) (hf := Or.inr rfl))) (fun _ _ _ _ _ => (pts_one (pt_cmpR op_gt (pe_ix (ix_tupK (K := K) rfl) (pe_ix (ix_listK (K := K) rfl) (pv 8) (pv 16) (fun _ _ => rfl)) pe_int (fun _ _ => rfl)) pe_int (nomark _)))) (fun _ _ _ _ _ => (pv 16))) pa_nil)))
      (pss_cons (ps_if (PW.pt (pw_or (pt_not (pt_val (pe_call G_is_mend.ok hr_is_mend rfl G_is_mend.mg G_is_mend.kp G_is_mend.b .nil passL (pa_cons (pv 9) (pa_cons (pe_tup (pa_cons pe_int (pa_cons pe_int pa_nil))) (pa_cons pe_str (pa_cons (pv 10) pa_nil))))))) (pw_or1 (pt_val (pe_call G_is_mend.ok hr_is_mend rfl G_is_mend.mg G_is_mend.kp G_is_mend.b .nil passL (pa_cons (pv 9) (pa_cons (pe_tup (pa_cons pe_int (pa_cons pe_int pa_nil))) (pa_cons pe_str (pa_cons (pe_slice sl_tupA (pv 10) po_none (po_some pe_int)) pa_nil))))))))) (pss_one (ps_ret pe_bl)) pss_nil)
      (pss_cons (ps_if (PW.pt (pw_or (pt_not (pt_val (pe_call G_is_mend.ok hr_is_mend rfl G_is_mend.mg G_is_mend.kp G_is_mend.b .nil passL (pa_cons (pv 9) (pa_cons (pe_tup (pa_cons pe_int (pa_cons pe_int pa_nil))) (pa_cons pe_str (pa_cons (pe_tup pa_nil) pa_nil))))))) (pw_or1 (pt_val (pe_call G_is_mend.ok hr_is_mend rfl G_is_mend.mg G_is_mend.kp G_is_mend.b .nil passL (pa_cons (pv 9) (pa_cons (pe_tup (pa_cons pe_int (pa_cons pe_int pa_nil))) (pa_cons pe_str (pa_cons (pe_tup pa_nil) pa_nil))))))))) (pss_one (ps_ret pe_bl)) pss_nil)
      (pss_one (ps_ret (pe_cmpR op_eq (pe_call G_is_mend.ok hr_is_mend rfl G_is_mend.mg G_is_mend.kp G_is_mend.b .nil passL (pa_cons (pv 3) (pa_cons (pv 5) (pa_cons (pv 6) (pa_cons (pe_tup pa_nil) pa_nil))))) (pe_call G_never.ok hr_never rfl G_never.mg G_never.kp G_never.b .nil passL (pa_cons (pv 3) (pa_cons (pv 5) (pa_cons (pv 6) pa_nil)))) (nomark _)))))))))))))))))), ?_⟩
    obtain ⟨a, ns, rfl, hS, hl, k⟩ := h
    walk_at "w"
    refine ⟨a, ns, rfl, hS, hl, fun l G P0 H1 e0 j hP => ?_⟩
    clear hS e0
    walk_at "w"
    refine ⟨l, _, _, G, P0, rfl, j, hP, by decide, by decide, by decide, by decide, fun p n es G2 P2 H4 e2 j2 hP2 hpt hn1 hn2 hl1 hl2 hsm => ?_⟩
    clear hP e2 j
    obtain rfl : n = 1 := by omega
    have hl7 : es.length ≤ 7 := by omega
    obtain ⟨t, hp, vs, ht, hv⟩ := id hpt
    have hev : ∀ e ∈ es, EvOk 1 e := fun e he => (hsm e he).ok
    have hB : EvB 1 es := ⟨by decide, by decide, by omega, fun e he => by have := hev e he; unfold EvOk at this; omega⟩
    walk_at "w"
    refine aMake.go j2 fun m dx G4 H4 hm e4 j4 hd4 => ?_
    refine ⟨m, t, 1, dx, es, _, P2, rfl, j4, hd4, ⟨vs, e4 _ _ ht, EvL.mono e4 hv⟩, by decide, by decide, by omega, hev, fun G5 H5 j5 hbut hM => ⟨rfl, ?_⟩⟩
    have e5 := hbut.ex e4 (j2.ng hm)
    replace hp := e5 _ _ hp
    replace ht := e5 _ _ ht
    have hMK : MachK K G5 m 1 es := ⟨_, mc_M T, hM⟩
    have hvl : vs.length = es.length := hv.1
    clear hm e4 j4 hd4 hbut hM j2 e5 hpt hn1 hn2 hl1 hl2 hsm
    walk_at "w"
    refine ⟨l, 6, G5, P2, rfl, j5, hP2, by decide, by decide, fun q0 sa sb G6 P3 H6 e6 j6 hP3 hS _ _ _ => ?_⟩
    replace hp := e6 _ _ hp
    replace ht := e6 _ _ ht
    replace hMK := hMK.mono e6
    clear e6 j5 hP2
    walk_at "w"
    refine aLst.go j6 (by show 2 ≤ 100000; decide) fun U G7 H7 _ e7 j7 hU => ?_
    walk_at "w"
    refine ⟨l, 2, G7, P3, rfl, j7, hP3, by decide, by decide, fun d P4 H8 d0 d1 j8 hP4 => ?_⟩
    obtain ⟨z, hz, hat⟩ : ∃ z, z ∈ ways ∧ [V.str "up", V.str "down"][d.toNat]? = some (.str z) := by
      by_cases c : d = 0
      · exact ⟨"up", by decide, by rw [c]; rfl⟩
      · exact ⟨"down", by decide, by rw [show d = 1 by omega]; rfl⟩
    walk_at "w"
    refine w_ixL (j8.g _ _ hU) (atI_int d0 hat) ?_
    replace hp := e7 _ _ hp
    replace ht := e7 _ _ ht
    replace hMK := hMK.mono e7
    replace hS := hS.mono e7
    clear e7 j7 hP3 hat hU d0 d1 j6
    walk_at "w"
    refine aLstRg.go (n := es.length) j8 (by rw [hvl]) (by omega) fun o1 G9 H9 _ e9 j9 ho1 => ?_
    replace hp := e9 _ _ hp
    replace ht := e9 _ _ ht
    replace hMK := hMK.mono e9
    replace hS := hS.mono e9
    clear e9 j8
    walk_at "w"
    refine tupOf_go j9 ho1 fun o2 G10 H10 _ e10 j10 ho2 => ?_
    replace hp := e10 _ _ hp
    replace ht := e10 _ _ ht
    replace hMK := hMK.mono e10
    replace hS := hS.mono e10
    clear e10 j9 ho1
    obtain ⟨G11, P5, j11, e11, hP5, nt⟩ := Pot.norm j10 hP4
    replace ho2 := e11 _ _ ho2
    replace hp := e11 _ _ hp
    replace ht := e11 _ _ ht
    replace hMK := hMK.mono e11
    replace hS := hS.mono e11
    clear e11 j10 hP4
    refine ⟨m, q0, .ref o2, z, sa, sb, es, G11, P5, rfl, j11, nt, hMK, hB, hS, hz, kd2_rV ho2 (by rw [List.length_range]; omega), fun p' rs e h hA G12 H12 e12 j12 => ?_, fun hno => absurd ⟨o2, _, rfl, ho2, fun i hi => List.mem_range.mp hi, List.pairwise_lt_range⟩ hno⟩
    cases e
    rw [ho2] at h
    cases Option.some.inj h |> HO.tup.inj |> rV_inj
    rw [nev_all fun i hi => List.mem_range.mpr hi]
    clear h hA ho2
    replace hp := e12 _ _ hp
    replace ht := e12 _ _ ht
    replace hMK := hMK.mono e12
    replace hS := hS.mono e12
    clear e12 j11
    walk_at "w"
    rw [hvl]
    refine aForR.go (n := 8) rfl (by decide) (fun i G' P' σ' => Pot P' l ∧ Ex G12 G' ∧ ∃ (s7 s8 s9 s10 s11 s12 s13 s14 s15 s16 s17 : Option V), σ' = [some (.ref a), some (.ref l), some (.ref p), some (.ref m), some (.int (es.length : Nat)), some (.ref q0), some (.str z), s7, s8, s9, s10, s11, s12, s13, s14, s15, s16, s17]) j12 ⟨hP5, Ex.refl _, _, _, _, _, _, _, _, _, _, _, _, rfl⟩ ?_ ?_
    · clear j12 hP5 nt
      have hMK0 := hMK
      have hS0 := hS
      rintro i G1 P1 H1 σ' hi j1 ⟨hP1, e1, s7, s8, s9, s10, s11, s12, s13, s14, s15, s16, s17, rfl⟩
      replace hMK := hMK.mono e1
      replace hS := hS.mono e1
      walk_at "w"
      refine ⟨l, es.length, G1, P1, rfl, j1, hP1, by omega, fun lo rs G2 P2 H2 hA hrl e2 j2 hP2 hlo => ?_⟩
      obtain ⟨G3, P3, j3, e3, hP3, nt⟩ := Pot.norm j2 hP2
      replace hlo := e3 _ _ hlo
      replace hMK := hMK.mono (e2.trans e3)
      replace hS := hS.mono (e2.trans e3)
      replace e1 := e1.trans (e2.trans e3)
      clear j1 j2 hP1 hP2 e2 e3
      walk_at "w"
      refine ⟨m, lo, 1, es, rs, G3, P3, rfl, j3, hMK, hB, hlo, hA, by omega, fun m2 G4 H4 e4 j4 _ hm2 => ?_⟩
      replace hlo := e4 _ _ hlo
      replace hMK := hMK.mono e4
      replace hS := hS.mono e4
      replace e1 := e1.trans e4
      clear e4 j3
      walk_at "w"
      refine nev1 ⟨m2, q0, z, sa, sb, _, G4, P3, rfl, j4, nt, ⟨_, mc_R T, hm2⟩, pick_evb hB, hS, hz, fun G5 H5 e5 j5 => ?_⟩
      replace hlo := e5 _ _ hlo
      replace hMK := hMK.mono e5
      replace hS := hS.mono e5
      replace e1 := e1.trans e5
      clear e5 j4 hm2
      generalize hdue : nevB sa sb z (pickFrom rs 0 es) = due
      walk_at "w"
      refine ⟨m, q0, .ref lo, z, sa, sb, es, G5, P3, rfl, j5, nt, hMK, hB, hS, hz, kd2_rV hlo (by omega), fun p' rs' e h hA' G6 H6 e6 j6 => ?_, fun hno => absurd ⟨lo, rs, rfl, hlo, hA⟩ hno⟩
      cases e
      rw [hlo] at h
      cases Option.some.inj h |> HO.tup.inj |> rV_inj
      rw [hdue]
      clear h hA'
      replace hlo := e6 _ _ hlo
      replace hMK := hMK.mono e6
      replace hS := hS.mono e6
      replace e1 := e1.trans e6
      clear e6 j5
      walk_at "w"
      first
        | refine itNF rfl ?_
        | refine itF (fun h => h rfl) ?_
      walk_at "w"
      refine lstOf_go j6 (.inr hlo) fun L1 G7 H7 _ e7 j7 hL1 => ?_
      replace hlo := e7 _ _ hlo
      replace hMK := hMK.mono e7
      replace hS := hS.mono e7
      replace e1 := e1.trans e7
      clear e7 j6
      walk_at "w"
      refine ⟨l, es.length, G7, P3, rfl, j7, hP3, by omega, fun l2 rs2 G8 P4 H8 hA2 hrl2 e8 j8 hP4 hl2 => ?_⟩
      replace hL1 := e8 _ _ hL1
      replace hlo := e8 _ _ hlo
      replace hMK := hMK.mono e8
      replace hS := hS.mono e8
      replace e1 := e1.trans e8
      clear e8 j7 hP3 nt
      have hl2' : G8 l2 = some (.tup ((rs2.map (fun (k : Nat) => (k : Int))).map V.int)) := by rw [List.map_map]; exact hl2
      have hlo' : G8 lo = some (.tup ((rs.map (fun (k : Nat) => (k : Int))).map V.int)) := by rw [List.map_map]; exact hlo
      walk_at "w"
      refine aLcT.fil (fun x => decide (x ∉ rs.map (fun (k : Nat) => (k : Int)))) V.int j8 hl2' (by rw [List.length_map]; omega) (fun x G' H' R R0 hx e' j' kR kR0 => ?_) fun l3 G9 H9 nl3 e9 j9 hl3 => ?_
      · walk_at "w"
        refine ⟨rfl, ?_⟩
        walk_at "w"
        refine in_go j' (.inr (e' _ _ hlo')) ?_
        walk_at "w"
        by_cases c : x ∈ rs.map (fun (k : Nat) => (k : Int))
        · refine itNF c ?_
          exact kR0 (decide_eq_false (fun h => h c)) _ _ (Ex.refl _) j'
        · refine itNT c ?_
          walk_at "w"
          exact kR (decide_eq_true c) _ _ (Ex.refl _) j'
      replace hL1 := e9 _ _ hL1
      replace hlo := e9 _ _ hlo
      replace hMK := hMK.mono e9
      replace hS := hS.mono e9
      replace e1 := e1.trans e9
      clear e9 j8 hl2 hl2' hlo'
      walk_at "w"
      refine cat_out j9 hL1 hl3 (by
        have := List.length_filter_le (fun x => decide (x ∉ rs.map (fun (k : Nat) => (k : Int)))) (rs2.map (fun (k : Nat) => (k : Int)))
        rw [List.length_map] at this
        rw [rV, List.length_map, List.length_map]
        omega) fun l4 G10 H10 e10 j10 _ hl4 => ?_
      have hl4' : G10 l4 = some (.lst ((rs.map (fun (k : Nat) => (k : Int)) ++ (rs2.map (fun (k : Nat) => (k : Int))).filter (fun x => decide (x ∉ rs.map (fun (k : Nat) => (k : Int))))).map V.int)) := by
        rw [hl4, List.map_append, List.map_map]; rfl
      replace hlo := e10 _ _ hlo; replace hMK := hMK.mono e10; replace hS := hS.mono e10
      replace e1 := e1.trans e10
      clear hL1 hl3 hl4 e10 j9
      walk_at "w"
      refine sortI_go j10 hl4' fun ns' l5 G11 H11 hpm hst _ e11 j11 hl5 => ?_
      obtain ⟨rs3, h31, h32, h33⟩ := more_ok hA hA2 hpm hst
      have h3l : rs3.length ≤ 1000 := by
        have q1 := congrArg List.length h31
        have q2 := hpm.length_eq
        have q3 := List.length_filter_le (fun x => decide (x ∉ rs.map (fun (k : Nat) => (k : Int)))) (rs2.map (fun (k : Nat) => (k : Int)))
        rw [List.length_append, List.length_map] at q2
        rw [List.length_map] at q3
        rw [rV, List.length_map, List.length_map] at q1
        omega
      rw [h31] at hl5
      replace hlo := e11 _ _ hlo; replace hMK := hMK.mono e11; replace hS := hS.mono e11
      replace e1 := e1.trans e11
      clear e11 j10 hl4' hpm hst h31
      walk_at "w"
      refine tupOf_go j11 hl5 fun t6 G13 H13 _ e13 j13 ht6 => ?_
      replace hlo := e13 _ _ hlo; replace hMK := hMK.mono e13; replace hS := hS.mono e13
      replace e1 := e1.trans e13
      clear e13 j11 hl5
      obtain ⟨G14, P5, j14, e14, hP5, nt⟩ := Pot.norm j13 hP4
      replace hlo := e14 _ _ hlo; replace ht6 := e14 _ _ ht6; replace hMK := hMK.mono e14; replace hS := hS.mono e14
      replace e1 := e1.trans e14
      clear e14 j13 hP4
      walk_at "w"
      refine ⟨fun σ' H' => ∃ (G' : Hp), Join G' P5 H' ∧ Ex G14 G' ∧ σ' = [some (.ref a), some (.ref l), some (.ref p), some (.ref m), some (.int (es.length : Nat)), some (.ref q0), some (.str z), some (.int i), s8, s9, s10, some (.ref lo), some (.bl due), some (.ref t6), s14, s15, s16, s17], ?_, ?_⟩
      · walk_at "w"
        cases due with
        | false =>
          walk_at "w"
          exact ⟨G14, j14, Ex.refl _, rfl⟩
        | true =>
          walk_at "w"
          refine ⟨m, q0, .ref t6, z, sa, sb, es, G14, P5, rfl, j14, nt, hMK, hB, hS, hz, ?_, fun p' rs' e h hA' G6 H6 e6 j6 => ?_, fun hno => absurd ⟨t6, rs3, rfl, ht6, h32⟩ hno⟩
          · exact kd2_rV ht6 h3l
          cases e
          rw [ht6] at h
          cases Option.some.inj h |> HO.tup.inj |> rV_inj
          rw [nev_sub (pick_sub h33) hdue]
          walk_at "w"
          exact ⟨G6, j6, e6, rfl⟩
      clear j14 ht6 h32 h33
      rintro σ' H0 ⟨G15, j15, e15, rfl⟩
      replace hlo := e15 _ _ hlo; replace hMK := hMK.mono e15; replace hS := hS.mono e15
      replace e1 := e1.trans e15
      clear e15
      walk_at "w"
      refine lstOf_go j15 (.inr hlo) fun p0 G16 H16 _ e16 j16 hp0 => ?_
      replace hlo := e16 _ _ hlo; replace hMK := hMK.mono e16; replace hS := hS.mono e16
      replace e1 := e1.trans e16
      clear e16 j15
      walk_at "w"
      refine aTup.go j16 (by show 1 ≤ 100000; decide) fun tb G17 H17 _ e17 j17 htb => ?_
      replace hlo := e17 _ _ hlo; replace hp0 := e17 _ _ hp0; replace hMK := hMK.mono e17; replace hS := hS.mono e17
      replace e1 := e1.trans e17
      clear e17 j16
      walk_at "w"
      refine catA_out j17 hlo htb (by rw [rV, List.length_map, List.length_singleton]; omega) fun p1 G18 H18 e18 j18 hp1 => ?_
      replace hlo := e18 _ _ hlo; replace hp0 := e18 _ _ hp0; replace hMK := hMK.mono e18; replace hS := hS.mono e18
      replace e1 := e1.trans e18
      clear e18 j17 htb
      walk_at "w"
      refine aTup.go j18 (by show 1 ≤ 100000; decide) fun tc G19 H19 _ e19 j19 htc => ?_
      replace hlo := e19 _ _ hlo; replace hp0 := e19 _ _ hp0; replace hp1 := e19 _ _ hp1; replace hMK := hMK.mono e19; replace hS := hS.mono e19
      replace e1 := e1.trans e19
      clear e19 j18
      walk_at "w"
      refine catA_out j19 htc hlo (by rw [rV, List.length_map, List.length_singleton]; omega) fun p2 G20 H20 e20 j20 hp2 => ?_
      replace hlo := e20 _ _ hlo; replace hp0 := e20 _ _ hp0; replace hp1 := e20 _ _ hp1; replace hMK := hMK.mono e20; replace hS := hS.mono e20
      replace e1 := e1.trans e20
      clear e20 j19 htc
      walk_at "w"
      refine aTup.go j20 (by show 1 ≤ 100000; decide) fun p3 G21 H21 _ e21 j21 hp3 => ?_
      replace hlo := e21 _ _ hlo; replace hp0 := e21 _ _ hp0; replace hp1 := e21 _ _ hp1; replace hp2 := e21 _ _ hp2; replace hMK := hMK.mono e21; replace hS := hS.mono e21
      replace e1 := e1.trans e21
      clear e21 j20
      walk_at "w"
      refine aDNew.go j21 fun p6 G22 H22 _ e22 j22 hp6 => ?_
      replace hlo := e22 _ _ hlo; replace hp0 := e22 _ _ hp0; replace hp1 := e22 _ _ hp1; replace hp2 := e22 _ _ hp2; replace hp3 := e22 _ _ hp3; replace hMK := hMK.mono e22; replace hS := hS.mono e22
      replace e1 := e1.trans e22
      clear e22 j21
      walk_at "w"
      refine aTup.go j22 (by show 1 ≤ 100000; decide) fun td G23 H23 _ e23 j23 htd => ?_
      replace hlo := e23 _ _ hlo; replace hp0 := e23 _ _ hp0; replace hp1 := e23 _ _ hp1; replace hp2 := e23 _ _ hp2; replace hp3 := e23 _ _ hp3; replace hp6 := e23 _ _ hp6; replace hMK := hMK.mono e23; replace hS := hS.mono e23
      replace e1 := e1.trans e23
      clear e23 j22
      walk_at "w"
      refine catA_out j23 hlo htd (by rw [rV, List.length_map, List.length_singleton]; omega) fun p8 G24 H24 e24 j24 hp8 => ?_
      replace hlo := e24 _ _ hlo; replace hp0 := e24 _ _ hp0; replace hp1 := e24 _ _ hp1; replace hp2 := e24 _ _ hp2; replace hp3 := e24 _ _ hp3; replace hp6 := e24 _ _ hp6; replace hMK := hMK.mono e24; replace hS := hS.mono e24
      replace e1 := e1.trans e24
      clear e24 j23 htd
      walk_at "w"
      refine aRevT.go j24 hlo fun te G25 H25 _ e25 j25 hte => ?_
      replace hlo := e25 _ _ hlo; replace hp0 := e25 _ _ hp0; replace hp1 := e25 _ _ hp1; replace hp2 := e25 _ _ hp2; replace hp3 := e25 _ _ hp3; replace hp6 := e25 _ _ hp6; replace hp8 := e25 _ _ hp8; replace hMK := hMK.mono e25; replace hS := hS.mono e25
      replace e1 := e1.trans e25
      clear e25 j24
      walk_at "w"
      refine catA_out j25 hte hlo (by rw [rV, List.length_reverse, List.length_map]; omega) fun p9 G26 H26 e26 j26 hp9 => ?_
      replace hlo := e26 _ _ hlo; replace hp0 := e26 _ _ hp0; replace hp1 := e26 _ _ hp1; replace hp2 := e26 _ _ hp2; replace hp3 := e26 _ _ hp3; replace hp6 := e26 _ _ hp6; replace hp8 := e26 _ _ hp8; replace hMK := hMK.mono e26; replace hS := hS.mono e26
      replace e1 := e1.trans e26
      clear e26 j25 hte
      have gLL : ∀ L : Addr, H26 L = none → G12 L = none := fun L hL => by
        cases c : G12 L with
        | none => rfl
        | some o => have := j26.g _ _ (e1 _ _ c); rw [hL] at this; cases this
      walk_at "w"
      refine aLst.go j26 (by show 10 ≤ 100000; decide) fun LL G27 H27 nLL e27 j27 hLL => ?_
      replace hlo := e27 _ _ hlo; replace hp0 := e27 _ _ hp0; replace hp1 := e27 _ _ hp1; replace hp2 := e27 _ _ hp2; replace hp3 := e27 _ _ hp3; replace hp6 := e27 _ _ hp6; replace hp8 := e27 _ _ hp8; replace hp9 := e27 _ _ hp9; replace hMK := hMK.mono e27; replace hS := hS.mono e27
      replace e1 := e1.trans e27
      replace gLL := gLL LL nLL
      clear e27 j26
      walk_at "w"
      refine aTup.go j27 (by show 1 ≤ 100000; decide) fun tf G28 H28 _ e28 j28 htf => ?_
      replace hLL := e28 _ _ hLL; replace hlo := e28 _ _ hlo; replace hp0 := e28 _ _ hp0; replace hp1 := e28 _ _ hp1; replace hp2 := e28 _ _ hp2; replace hp3 := e28 _ _ hp3; replace hp6 := e28 _ _ hp6; replace hp8 := e28 _ _ hp8; replace hp9 := e28 _ _ hp9; replace hMK := hMK.mono e28; replace hS := hS.mono e28
      replace e1 := e1.trans e28
      clear e28 j27
      walk_at "w"
      refine aTup.go j28 (by show 1 ≤ 100000; decide) fun p10 G29 H29 _ e29 j29 hp10 => ?_
      replace htf := e29 _ _ htf; replace hLL := e29 _ _ hLL; replace hlo := e29 _ _ hlo; replace hp0 := e29 _ _ hp0; replace hp1 := e29 _ _ hp1; replace hp2 := e29 _ _ hp2; replace hp3 := e29 _ _ hp3; replace hp6 := e29 _ _ hp6; replace hp8 := e29 _ _ hp8; replace hp9 := e29 _ _ hp9; replace hMK := hMK.mono e29; replace hS := hS.mono e29
      replace e1 := e1.trans e29
      clear e29 j28
      walk_at "w"
      refine aTup.go j29 (by show 2 ≤ 100000; decide) fun p11 G30 H30 _ e30 j30 hp11 => ?_
      replace htf := e30 _ _ htf; replace hp10 := e30 _ _ hp10; replace hLL := e30 _ _ hLL; replace hlo := e30 _ _ hlo; replace hp0 := e30 _ _ hp0; replace hp1 := e30 _ _ hp1; replace hp2 := e30 _ _ hp2; replace hp3 := e30 _ _ hp3; replace hp6 := e30 _ _ hp6; replace hp8 := e30 _ _ hp8; replace hp9 := e30 _ _ hp9; replace hMK := hMK.mono e30; replace hS := hS.mono e30
      replace e1 := e1.trans e30
      clear e30 j29
      walk_at "w"
      refine aTup.go j30 (by show 2 ≤ 100000; decide) fun p12 G31 H31 _ e31 j31 hp12 => ?_
      replace htf := e31 _ _ htf; replace hp10 := e31 _ _ hp10; replace hp11 := e31 _ _ hp11; replace hLL := e31 _ _ hLL; replace hlo := e31 _ _ hlo; replace hp0 := e31 _ _ hp0; replace hp1 := e31 _ _ hp1; replace hp2 := e31 _ _ hp2; replace hp3 := e31 _ _ hp3; replace hp6 := e31 _ _ hp6; replace hp8 := e31 _ _ hp8; replace hp9 := e31 _ _ hp9; replace hMK := hMK.mono e31; replace hS := hS.mono e31
      replace e1 := e1.trans e31
      clear e31 j30
      walk_at "w"
      refine w_rI ⟨by decide, by decide, by decide⟩ ?_
      walk_at "w"
      refine aTup.go j31 (by show 1 ≤ 100000; decide) fun p13 G32 H32 _ e32 j32 hp13 => ?_
      replace htf := e32 _ _ htf; replace hp10 := e32 _ _ hp10; replace hp11 := e32 _ _ hp11; replace hp12 := e32 _ _ hp12; replace hLL := e32 _ _ hLL; replace hlo := e32 _ _ hlo; replace hp0 := e32 _ _ hp0; replace hp1 := e32 _ _ hp1; replace hp2 := e32 _ _ hp2; replace hp3 := e32 _ _ hp3; replace hp6 := e32 _ _ hp6; replace hp8 := e32 _ _ hp8; replace hp9 := e32 _ _ hp9; replace hMK := hMK.mono e32; replace hS := hS.mono e32
      replace e1 := e1.trans e32
      clear e32 j31
      walk_at "w"
      refine aTup.go j32 (by show 1 ≤ 100000; decide) fun p14 G33 H33 _ e33 j33 hp14 => ?_
      replace htf := e33 _ _ htf; replace hp10 := e33 _ _ hp10; replace hp11 := e33 _ _ hp11; replace hp12 := e33 _ _ hp12; replace hp13 := e33 _ _ hp13; replace hLL := e33 _ _ hLL; replace hlo := e33 _ _ hlo; replace hp0 := e33 _ _ hp0; replace hp1 := e33 _ _ hp1; replace hp2 := e33 _ _ hp2; replace hp3 := e33 _ _ hp3; replace hp6 := e33 _ _ hp6; replace hp8 := e33 _ _ hp8; replace hp9 := e33 _ _ hp9; replace hMK := hMK.mono e33; replace hS := hS.mono e33
      replace e1 := e1.trans e33
      clear e33 j32
      walk_at "w"
      refine aLst.go j33 (by show 5 ≤ 100000; decide) fun L2 G34 H34 _ e34 j34 hL2 => ?_
      replace htf := e34 _ _ htf; replace hp10 := e34 _ _ hp10; replace hp11 := e34 _ _ hp11; replace hp12 := e34 _ _ hp12; replace hp13 := e34 _ _ hp13; replace hp14 := e34 _ _ hp14; replace hLL := e34 _ _ hLL; replace hlo := e34 _ _ hlo; replace hp0 := e34 _ _ hp0; replace hp1 := e34 _ _ hp1; replace hp2 := e34 _ _ hp2; replace hp3 := e34 _ _ hp3; replace hp6 := e34 _ _ hp6; replace hp8 := e34 _ _ hp8; replace hp9 := e34 _ _ hp9; replace hMK := hMK.mono e34; replace hS := hS.mono e34
      replace e1 := e1.trans e34
      clear e34 j33
      walk_at "w"
      refine extend_go j34 hLL (j34.g _ _ hL2) (by rw [List.length_cons, List.length_cons, List.length_cons, List.length_cons, List.length_cons, List.length_cons, List.length_cons, List.length_cons, List.length_cons, List.length_cons, List.length_cons, List.length_cons, List.length_cons, List.length_cons, List.length_cons, List.length_nil]; decide) fun G35 H35 b35 j35 hLL2 => ?_
      have e35 : Ex G12 G35 := b35.ex e1 gLL
      replace hlo := b35 _ _ hlo (fun e => by rw [e, hLL] at hlo; cases hlo)
      replace hp1 := b35 _ _ hp1 (fun e => by rw [e, hLL] at hp1; cases hp1)
      replace hp2 := b35 _ _ hp2 (fun e => by rw [e, hLL] at hp2; cases hp2)
      replace hp3 := b35 _ _ hp3 (fun e => by rw [e, hLL] at hp3; cases hp3)
      replace hp6 := b35 _ _ hp6 (fun e => by rw [e, hLL] at hp6; cases hp6)
      replace hp8 := b35 _ _ hp8 (fun e => by rw [e, hLL] at hp8; cases hp8)
      replace hp9 := b35 _ _ hp9 (fun e => by rw [e, hLL] at hp9; cases hp9)
      replace htf := b35 _ _ htf (fun e => by rw [e, hLL] at htf; cases htf)
      replace hp10 := b35 _ _ hp10 (fun e => by rw [e, hLL] at hp10; cases hp10)
      replace hp11 := b35 _ _ hp11 (fun e => by rw [e, hLL] at hp11; cases hp11)
      replace hp12 := b35 _ _ hp12 (fun e => by rw [e, hLL] at hp12; cases hp12)
      replace hp13 := b35 _ _ hp13 (fun e => by rw [e, hLL] at hp13; cases hp13)
      replace hp14 := b35 _ _ hp14 (fun e => by rw [e, hLL] at hp14; cases hp14)
      replace hp0 := b35 _ _ hp0 (fun e => by
        rw [e, hLL] at hp0
        have h := HO.lst.inj (Option.some.inj hp0)
        obtain ⟨k, _, e⟩ := rV_has (show V.ref p0 ∈ rV rs by rw [← h]; exact List.mem_cons_self)
        cases e)
      have hall : ∀ v ∈ [V.ref p0, .ref p1, .ref p2, .ref p3, .non, .int 0, .ref p6, .str "01", .ref p8, .ref p9] ++ [V.ref p10, .ref p11, .ref p12, .ref p13, .ref p14], Odd9 es.length G35 v := by
        have rk : ∀ x ∈ rV rs, Kd G35 x ∧ DD G35 x := fun x hx => by
          obtain ⟨k, _, rfl⟩ := rV_has hx
          exact ⟨.int _, dd_int _⟩
        have rl : (rV rs).length ≤ 7 := by rw [rV, List.length_map]; omega
        have app : ∀ {xs ys : List V}, (∀ x ∈ xs, Kd G35 x ∧ DD G35 x) → (∀ x ∈ ys, Kd G35 x ∧ DD G35 x) → ∀ x ∈ xs ++ ys, Kd G35 x ∧ DD G35 x := fun h1 h2 x hx => (List.mem_append.mp hx).elim (h1 x) (h2 x)
        have one : ∀ {y : V}, Kd G35 y → DD G35 y → ∀ x ∈ [y], Kd G35 x ∧ DD G35 x := fun h1 h2 x hx => by rw [List.mem_singleton.mp hx]; exact ⟨h1, h2⟩
        intro v hv
        simp only [List.cons_append, List.nil_append, List.mem_cons, List.not_mem_nil, or_false] at hv
        rcases hv with rfl | rfl | rfl | rfl | rfl | rfl | rfl | rfl | rfl | rfl | rfl | rfl | rfl | rfl | rfl
        · exact odd_lst hp0 fun x hx => (rk x hx).2
        · exact odd_tup hp1 (by rw [List.length_append, List.length_singleton]; omega) (app rk (one (.int _) (dd_int _))) (.inr fun rs' e => rV_snoc_no e)
        · refine odd_tup hp2 (by rw [List.length_append, List.length_singleton]; omega) (app (one (.int _) (dd_int _)) rk) (.inr fun rs' e hA' => ?_)
          obtain ⟨k, _, e⟩ := rV_has (show V.int (-1) ∈ rV rs' by rw [← e]; exact List.mem_cons_self)
          have := V.int.inj e
          omega
        · refine odd_tup hp3 (by decide) (one (.bl _) (dd_bl _)) (.inr fun rs' e hA' => ?_)
          obtain ⟨k, _, e⟩ := rV_has (show V.bl true ∈ rV rs' by rw [← e]; exact List.mem_cons_self)
          cases e
        · exact odd_val .non dd_non fun a => nofun
        · exact odd_val (.int _) (dd_int _) fun a => nofun
        · exact odd_dic hp6
        · exact odd_val (.str _) (dd_str (by decide +kernel)) fun a => nofun
        · refine odd_tup hp8 (by rw [List.length_append, List.length_singleton]; omega) (app rk (one .non dd_non)) (.inr fun rs' e hA' => ?_)
          obtain ⟨k, _, e⟩ := rV_has (show V.non ∈ rV rs' by rw [← e]; exact List.mem_append_right _ List.mem_cons_self)
          cases e
        · refine odd_tup hp9 (by rw [List.length_append, List.length_reverse]; omega) (app (fun x hx => rk x (List.mem_reverse.mp hx)) rk) ?_
          by_cases c : rs = []
          · left; rw [c]; rfl
          · exact .inr fun rs' e => rev_no c e
        · refine odd_tup hp10 (by show 1 ≤ 1000; decide) (one (.tup htf) (dd_int1 htf)) (.inr fun rs' e hA' => ?_)
          obtain ⟨k, _, e⟩ := rV_has (show V.ref tf ∈ rV rs' by rw [← e]; exact List.mem_cons_self)
          cases e
        · refine odd_tup (xs := [.int 1, .int 0]) hp11 (by decide) (app (one (.int _) (dd_int _)) (one (.int _) (dd_int _))) (.inr fun rs' e hA' => ?_)
          obtain rfl := rV_inj (a := [1, 0]) (b := rs') e
          exact absurd hA'.2 (by decide)
        · refine odd_tup (xs := [.int 0, .int 0]) hp12 (by decide) (app (one (.int _) (dd_int _)) (one (.int _) (dd_int _))) (.inr fun rs' e hA' => ?_)
          obtain rfl := rV_inj (a := [0, 0]) (b := rs') e
          exact absurd hA'.2 (by decide)
        · refine odd_tup hp13 (by decide) (one (.int _) (dd_int _)) (.inr fun rs' e hA' => ?_)
          obtain ⟨k, hk, e⟩ := rV_has (show V.int _ ∈ rV rs' by rw [← e]; exact List.mem_cons_self)
          have h1 := V.int.inj e
          have h2 := hA'.1 k hk
          have h3 : ((10 : Int) ^ (20 : Int).toNat) = 100000000000000000000 := by decide
          omega
        · refine odd_tup hp14 (by decide) (one (.str _) (dd_str (by decide +kernel))) (.inr fun rs' e hA' => ?_)
          obtain ⟨k, _, e⟩ := rV_has (show V.str "0" ∈ rV rs' by rw [← e]; exact List.mem_cons_self)
          cases e
      clear hMK hS e1 b35 j34 hLL hlo hp0 hp1 hp2 hp3 hp6 hp8 hp9 htf hp10 hp11 hp12 hp13 hp14 hL2
      generalize hodd : [V.ref p0, .ref p1, .ref p2, .ref p3, .non, .int 0, .ref p6, .str "01", .ref p8, .ref p9] ++ [V.ref p10, .ref p11, .ref p12, .ref p13, .ref p14] = odd at hall hLL2
      have hol : odd.length = 15 := by rw [← hodd]; rfl
      clear hodd
      walk_at "w"
      refine ⟨l, _, G35, P5, rfl, j35, hP5, by omega, Int.lt_of_lt_of_le (b := 100) (by omega) (by decide), fun d P6 H36 d0 d1 j36 hP6 => ?_⟩
      obtain ⟨v, hv0⟩ : ∃ v, odd[d.toNat]? = some v := ⟨_, List.getElem?_eq_getElem (by omega)⟩
      have hov := hall v (List.mem_of_getElem? hv0)
      walk_at "w"
      refine w_ixL (j36.g _ _ hLL2) (atI_int d0 hv0) ?_
      clear hv0 d0 d1 hall hol hLL2 j35 hP5
      obtain ⟨G37, P7, j37, e37, hP7, nt7⟩ := Pot.norm j36 hP6
      clear j36 hP6
      walk_at "w"
      refine aTup.go j37 (by show 0 ≤ 100000; decide) fun pe G38 H38 _ e38 j38 hpe => ?_
      have e58 := e37.trans e38
      walk_at "w"
      refine odd_ne (N := es.length) (e58.trans j38.exG) hov (j38.g _ _ hpe) fun cc hcc => ?_
      cases cc with
      | false =>
        walk_at "w"
        exact ⟨G38, P7, j38, hP7, e35.trans e58, _, _, _, _, _, _, _, _, _, _, _, rfl⟩
      | true =>
        walk_at "w"
        have e38' := e35.trans e58
        refine ⟨m, q0, v, z, sa, sb, es, G38, P7, rfl, j38, nt7, hMK0.mono e38', hB, hS0.mono e38', hz, hov.1.mono e58, fun p' rs' e h hA' => absurd (asc_back e58 hov.1.1 ⟨p', rs', e, h, hA'⟩) (hcc rfl), fun _ G39 H39 e39 j39 => ?_⟩
        walk_at "w"
        exact ⟨G39, P7, j39, hP7, e38'.trans e39, _, _, _, _, _, _, _, _, _, _, _, rfl⟩
    clear j12 hP5 nt
    rintro G1 P1 H1 σ' j1 ⟨hP1, e1, s7, s8, s9, s10, s11, s12, s13, s14, s15, s16, s17, rfl⟩
    replace hp := e1 _ _ hp; replace ht := e1 _ _ ht; replace hMK := hMK.mono e1; replace hS := hS.mono e1
    clear e1
    walk_at "w"
    refine ⟨l, 12, G1, P1, rfl, j1, hP1, by decide, by decide, fun d P2 H2 d0 d1 j2 hP2 => ?_⟩
    walk_at "w"
    have dn : (13 + d) = ((13 + d).toNat : Nat) := by omega
    have dl : (13 + d).toNat ≤ 24 := by omega
    have dg : 2 ≤ (13 + d).toNat := by omega
    generalize (13 + d).toNat = N at dn dl dg
    refine aLcR.go (n := N) (fun P' => P' = P2) (fun i us G' => EvL G' us ((List.range i).map (fun (i : Nat) => (⟨0, 0, 1, (i : Int) % 2⟩ : Ev))) ∧ i ≤ 1000) j2 rfl dn (by omega) (fun _ _ => ⟨TupL.nil, by decide⟩) (fun i us G2 D _ _ hd h => ⟨TupL.upd h.1 hd, h.2⟩) (fun i us G2 h => ?_) ?_ ?_
    · have := h.1.1
      rw [List.length_map, List.length_range] at this
      omega
    · intro i us G' P' H' R R0 hi e' hI hPP j' kR kR0
      subst hPP
      walk_at "w"
      refine ⟨rfl, ?_⟩
      walk_at "w"
      refine w_rI (show (0 : Int) < 2 by decide) ?_
      walk_at "w"
      refine aTup.go j' (by show 4 ≤ 100000; decide) fun te G3 H3 _ e3 j3 hte => ?_
      refine kR _ _ _ H3 e3 rfl j3 ⟨?_, by omega⟩
      rw [base_more]
      exact (TupL.mono e3 hI.1).add hte
    intro r1 us G3 P3 H3 nr1 e3 hr1 hI hPP j3
    subst hPP
    replace hI := hI.1
    replace hp := e3 _ _ hp; replace ht := e3 _ _ ht; replace hMK := hMK.mono e3; replace hS := hS.mono e3
    clear e3 j2 hP1 j1
    walk_at "w"
    refine aTup.go j3 (by show 4 ≤ 100000; decide) fun x3 G4 H4 _ e4 j4 hx3 => ?_
    replace hp := e4 _ _ hp; replace ht := e4 _ _ ht; replace hr1 := e4 _ _ hr1; replace hMK := hMK.mono e4; replace hS := hS.mono e4
    replace hI := TupL.mono e4 hI
    clear e4 j3
    walk_at "w"
    refine aTup.go j4 (by show 4 ≤ 100000; decide) fun x7 G5 H5 _ e5 j5 hx7 => ?_
    replace hp := e5 _ _ hp; replace ht := e5 _ _ ht; replace hr1 := e5 _ _ hr1; replace hx3 := e5 _ _ hx3; replace hMK := hMK.mono e5; replace hS := hS.mono e5
    replace hI := TupL.mono e5 hI
    clear e5 j4
    walk_at "w"
    refine aLst.go j5 (by show 2 ≤ 100000; decide) fun r2 G6 H6 _ e6 j6 hr2 => ?_
    replace hp := e6 _ _ hp; replace ht := e6 _ _ ht; replace hr1 := e6 _ _ hr1; replace hx3 := e6 _ _ hx3; replace hx7 := e6 _ _ hx7; replace hMK := hMK.mono e6; replace hS := hS.mono e6
    replace hI := TupL.mono e6 hI
    clear e6 j5
    have hul := hI.1
    rw [List.length_map, List.length_range] at hul
    walk_at "w"
    refine cat_out j6 hr1 hr2 (by rw [hul, List.length_cons, List.length_cons, List.length_nil]; omega) fun r3 G7 H7 e7 j7 _ hr3 => ?_
    replace hp := e7 _ _ hp; replace ht := e7 _ _ ht; replace hx3 := e7 _ _ hx3; replace hx7 := e7 _ _ hx7; replace hMK := hMK.mono e7; replace hS := hS.mono e7
    replace hI := TupL.mono e7 hI
    clear e7 j6 hr1 hr2
    have hI2 : EvL G7 (us ++ [V.ref x3, V.ref x7]) (base9 N) := by
      have := (TupL.add (f := evV) (a := (⟨0, 0, 1, 3⟩ : Ev)) hI hx3).add (a := (⟨0, 0, 1, 7⟩ : Ev)) hx7
      unfold base9
      rw [List.append_assoc, List.append_assoc] at this
      exact this
    clear hI hx3 hx7
    walk_at "w"
    refine ⟨l, r3, _, G7, _, rfl, j7, hP2, hr3, by rw [List.length_append, hul, List.length_cons, List.length_cons, List.length_nil]; omega, fun us' r4 G8 P4 H8 hpm e8 j8 hP4 hr4 => ?_⟩
    replace hp := e8 _ _ hp; replace ht := e8 _ _ ht; replace hMK := hMK.mono e8; replace hS := hS.mono e8
    replace hI2 := TupL.mono e8 hI2
    obtain ⟨es9, hpm9, hv9⟩ := evL_perm hpm hI2
    clear e8 j7 hP2 hI2 hpm hr3 hul
    have hl9 : es9.length ≤ 26 := by rw [hpm9.length_eq, base_len]; omega
    have hu9 : us'.length = es9.length := hv9.1
    have hok9 : ∀ e ∈ es9, EvOk 1 e := fun e he => by
      obtain ⟨q1, q2, q3, q4⟩ := base_ev (hpm9.mem_iff.mp he)
      exact ⟨by omega, by omega, by omega, by omega, by omega, by omega, by omega, by omega⟩
    have hB9 : EvB 1 es9 := ⟨by decide, by decide, by omega, fun e he => by have := hok9 e he; unfold EvOk at this; omega⟩
    walk_at "w"
    refine tupOf_go j8 hr4 fun r5 G9 H9 _ e9 j9 hr5 => ?_
    replace hp := e9 _ _ hp; replace ht := e9 _ _ ht; replace hr4 := e9 _ _ hr4; replace hMK := hMK.mono e9; replace hS := hS.mono e9
    replace hv9 := TupL.mono e9 hv9
    clear e9 j8
    walk_at "w"
    refine aMake.go j9 fun m9 dx9 G10 H10 hm e10 j10 hd10 => ?_
    refine ⟨m9, r5, 1, dx9, es9, _, P4, rfl, j10, hd10, ⟨us', e10 _ _ hr5, EvL.mono e10 hv9⟩, by decide, by decide, by omega, hok9, fun G11 H11 j11 hbut hM => ⟨rfl, ?_⟩⟩
    have e11 := hbut.ex e10 (j9.ng hm)
    replace hp := e11 _ _ hp; replace ht := e11 _ _ ht; replace hr4 := e11 _ _ hr4; replace hMK := hMK.mono e11; replace hS := hS.mono e11
    replace hv9 := TupL.mono e11 hv9
    have hMK9 : MachK K G11 m9 1 es9 := ⟨_, mc_M T, hM⟩
    clear hm e10 j10 hd10 hbut hM j9 e11
    walk_at "w"
    refine aLcR.go (n := es9.length) (fun P' => P' = P4) (fun i us G' => us = rV (highTo es9 i) ∧ i ≤ 1000) j11 rfl (by rw [hu9]) (by omega) (fun _ _ => ⟨rfl, by decide⟩) (fun i us G2 D _ _ hd h => h) (fun i us G2 h => ?_) ?_ ?_
    · have := high_len es9 i
      rw [h.1, rV, List.length_map]
      omega
    · intro i us G' P' H' R R0 hi e' hI hPP j' kR kR0
      subst hPP
      obtain ⟨e, he⟩ : ∃ e, es9[i]? = some e := ⟨_, List.getElem?_eq_getElem hi⟩
      obtain ⟨te, hte1, hte2⟩ := hv9.2 i e he
      replace hte2 : G' te = some (.tup [.int e.b, .int e.a, .int e.w, .int e.x]) := e' _ _ hte2
      walk_at "w"
      refine ⟨rfl, ?_⟩
      walk_at "w"
      refine w_ixL (j'.g _ _ (e' _ _ hr4)) (atI_nat hte1) ?_
      walk_at "w"
      by_cases c : 1 < e.x
      · refine itT c ?_
        walk_at "w"
        refine kR _ _ _ H' (Ex.refl _) rfl j' ⟨?_, by omega⟩
        rw [high_more he, if_pos c, hI.1, rV, rV, List.map_append]; rfl
      · refine itF c ?_
        refine kR0 _ _ H' (Ex.refl _) rfl j' ⟨?_, by omega⟩
        rw [high_more he, if_neg c, List.append_nil]; exact hI.1
    intro o3 us9 G12 P5 H12 no3 e12 ho3 hI hPP j12
    subst hPP
    replace hI : us9 = rV (highOf es9) := hI.1
    subst hI
    replace hp := e12 _ _ hp; replace ht := e12 _ _ ht; replace hr4 := e12 _ _ hr4; replace hMK := hMK.mono e12; replace hS := hS.mono e12; replace hMK9 := hMK9.mono e12
    clear e12 j11
    walk_at "w"
    refine tupOf_go j12 ho3 fun o4 G13 H13 _ e13 j13 ho4 => ?_
    replace hp := e13 _ _ hp; replace ht := e13 _ _ ht; replace hMK := hMK.mono e13; replace hS := hS.mono e13; replace hMK9 := hMK9.mono e13
    clear e13 j12 ho3 no3
    obtain ⟨G14, P6, j14, e14, hP6, nt6⟩ := Pot.norm j13 hP4
    replace hp := e14 _ _ hp; replace ht := e14 _ _ ht; replace ho4 := e14 _ _ ho4; replace hMK := hMK.mono e14; replace hS := hS.mono e14; replace hMK9 := hMK9.mono e14
    clear e14 j13
    have hhl : (highOf es9).length ≤ 1000 := by
      have := high_len es9 es9.length
      have e : highOf es9 = highTo es9 es9.length := rfl
      rw [e]; omega
    walk_at "w"
    refine aTup.go j14 (by show 2 ≤ 100000; decide) fun q1 G15 H15 _ e15 j15 hq1 => ?_
    replace hp := e15 _ _ hp; replace ht := e15 _ _ ht; replace ho4 := e15 _ _ ho4; replace hMK := hMK.mono e15; replace hS := hS.mono e15; replace hMK9 := hMK9.mono e15
    clear e15 j14
    walk_at "w"
    refine mend9 j15 nt6 hMK9 hB9 (share12 hq1) (by decide) ho4 high_asc hhl fun G16 H16 e16 j16 => ?_
    rw [great_yes hpm9]
    replace hp := e16 _ _ hp; replace ht := e16 _ _ ht; replace ho4 := e16 _ _ ho4; replace hMK := hMK.mono e16; replace hS := hS.mono e16; replace hMK9 := hMK9.mono e16
    clear e16 j15 hq1
    walk_at "w"
    refine aTup.go j16 (by show 2 ≤ 100000; decide) fun q1 G15 H15 _ e15 j15 hq1 => ?_
    replace hp := e15 _ _ hp; replace ht := e15 _ _ ht; replace ho4 := e15 _ _ ho4; replace hMK := hMK.mono e15; replace hS := hS.mono e15; replace hMK9 := hMK9.mono e15
    clear e15 j16
    walk_at "w"
    refine slA_take (m := 1) j15 ho4 fun o5 G17 H17 e17 j17 ho5 => ?_
    have ho5' : G17 o5 = some (.tup (rV ((highOf es9).take 1))) := by rw [ho5, rV, rV, List.map_take]
    replace hp := e17 _ _ hp; replace ht := e17 _ _ ht; replace hq1 := e17 _ _ hq1; replace hMK := hMK.mono e17; replace hS := hS.mono e17; replace hMK9 := hMK9.mono e17
    clear e17 j15 ho5
    have hA5 : Asc es9.length ((highOf es9).take 1) := ⟨fun i hi => high_asc.1 i (List.mem_of_mem_take hi), high_asc.2.sublist (List.take_sublist _ _)⟩
    walk_at "w"
    refine mend9 j17 nt6 hMK9 hB9 (share12 hq1) (by decide) ho5' hA5 (by rw [List.length_take]; omega) fun G16 H16 e16 j16 => ?_
    rw [great_no dg hpm9 (by rw [List.length_take]; omega) fun i hi => List.mem_of_mem_take hi]
    replace hp := e16 _ _ hp; replace ht := e16 _ _ ht; replace hMK := hMK.mono e16; replace hS := hS.mono e16; replace hMK9 := hMK9.mono e16
    clear e16 j17 ho5' hq1
    have nilA : ∀ N, Asc N [] := fun N => ⟨fun i hi => (nomatch hi), List.Pairwise.nil⟩
    walk_at "w"
    refine aTup.go j16 (by show 2 ≤ 100000; decide) fun q1 G18 H18 _ e18 j18 hq1 => ?_
    replace hp := e18 _ _ hp; replace ht := e18 _ _ ht; replace hMK := hMK.mono e18; replace hS := hS.mono e18; replace hMK9 := hMK9.mono e18
    clear e18 j16
    walk_at "w"
    refine aTup.go j18 (by show 0 ≤ 100000; decide) fun o6 G19 H19 _ e19 j19 ho6 => ?_
    replace hp := e19 _ _ hp; replace ht := e19 _ _ ht; replace hq1 := e19 _ _ hq1; replace hMK := hMK.mono e19; replace hS := hS.mono e19; replace hMK9 := hMK9.mono e19
    clear e19 j18
    walk_at "w"
    refine mend9 (rs := []) j19 nt6 hMK9 hB9 (share12 hq1) (by decide) ho6 (nilA _) (by decide) fun G20 H20 e20 j20 => ?_
    rw [pick_none, great_down hpm9]
    replace hp := e20 _ _ hp; replace ht := e20 _ _ ht; replace hMK := hMK.mono e20; replace hS := hS.mono e20; replace hMK9 := hMK9.mono e20
    clear e20 j19 hq1 ho6
    walk_at "w"
    refine aTup.go j20 (by show 2 ≤ 100000; decide) fun q1 G18 H18 _ e18 j18 hq1 => ?_
    replace hp := e18 _ _ hp; replace ht := e18 _ _ ht; replace hMK := hMK.mono e18; replace hS := hS.mono e18; replace hMK9 := hMK9.mono e18
    clear e18 j20
    walk_at "w"
    refine aTup.go j18 (by show 0 ≤ 100000; decide) fun o6 G19 H19 _ e19 j19 ho6 => ?_
    replace hp := e19 _ _ hp; replace ht := e19 _ _ ht; replace hq1 := e19 _ _ hq1; replace hMK := hMK.mono e19; replace hS := hS.mono e19; replace hMK9 := hMK9.mono e19
    clear e19 j18
    walk_at "w"
    refine mend9 (rs := []) j19 nt6 hMK9 hB9 (share12 hq1) (by decide) ho6 (nilA _) (by decide) fun G20 H20 e20 j20 => ?_
    rw [great_no (S := []) dg hpm9 (by decide) fun i hi => (nomatch hi)]
    replace hp := e20 _ _ hp; replace ht := e20 _ _ ht; replace hMK := hMK.mono e20; replace hS := hS.mono e20; replace hMK9 := hMK9.mono e20
    clear e20 j19 hq1 ho6
    walk_at "w"
    refine aTup.go j20 (by show 0 ≤ 100000; decide) fun o6 G19 H19 _ e19 j19 ho6 => ?_
    replace hp := e19 _ _ hp; replace ht := e19 _ _ ht; replace hMK := hMK.mono e19; replace hS := hS.mono e19; replace hMK9 := hMK9.mono e19
    clear e19 j20
    walk_at "w"
    refine mend9 (rs := []) j19 nt6 hMK hB hS hz ho6 (nilA _) (by decide) fun G20 H20 e20 j20 => ?_
    rw [pick_none]
    replace hp := e20 _ _ hp; replace ht := e20 _ _ ht; replace hMK := hMK.mono e20; replace hS := hS.mono e20; replace hMK9 := hMK9.mono e20
    clear e20 j19 ho6
    walk_at "w"
    refine nev1 ⟨m, q0, z, sa, sb, es, G20, P6, rfl, j20, nt6, hMK, hB, hS, hz, fun G21 H21 e21 j21 => ?_⟩
    walk_at "w"
    rw [decide_eq_true rfl]
    exact k _
end X

namespace X
open PySem PySem.Spec PyProof.Rows L2 Lv
theorem facts {P : Program} {w : World} {K : PySem.W.Frag} {h : Heap} {mg : Str → Option Value} {f : Addr} (X : K.In h) (G : h.Ns mainGlobals mg) (hfa : mg ("law" : Str) = some (.ref f)) (c : He.SaysX fa fn [] [] ex w h K) :
    ∃ fd : FuncData, (∀ (s : Shared) (v : Value), BindsTo s fd ⟨[v], []⟩ [("_law_script", v)]) ∧ ∀ base : Heap, K.In base → base.Ns mainGlobals mg → FnOk P w K mg base CX0 11 f fd ["_law_script"] (sp_law K) := by
  have T := txt_of X G c
  have e := hfa.symm.trans T.g_law
  cases e
  suffices H : ∀ base : Heap, ∃ fd, Dn P w K mg base CX0 11 "law" ["_law_script"] (sp_law K) fd by
    obtain ⟨fd, F⟩ := id T.d_law
    refine ⟨fd, fun s v => FunD.bindsA (ps := ["_law_script"]) F (fun _ _ _ _ _ _ us hl => match us, hl with | [_], _ => rfl) s [v] rfl, fun base _ _ => ?_⟩
    obtain ⟨fd', D⟩ := H base
    have q : fd' = fd := Lv.fd_same D.lk (Lv.fun_lk F)
    rw [← q]; exact D.ok
  intro base
  obtain ⟨fd_is_integer, G_is_integer⟩ := ok_is_integer (P := P) (w := w) (base := base) T
  obtain ⟨fd_is_within, G_is_within⟩ := ok_is_within (P := P) (w := w) (base := base) T G_is_integer
  obtain ⟨fd_is_from, G_is_from⟩ := ok_is_from (P := P) (w := w) (base := base) T G_is_integer
  obtain ⟨fd_is_pair, G_is_pair⟩ := ok_is_pair (P := P) (w := w) (base := base) T
  obtain ⟨fd_common_divisor, G_common_divisor⟩ := ok_common_divisor (P := P) (w := w) (base := base) T
  obtain ⟨fd_is_share, G_is_share⟩ := ok_is_share (P := P) (w := w) (base := base) T G_is_pair G_is_integer G_is_from G_common_divisor
  obtain ⟨fd_check_share, G_check_share⟩ := ok_check_share (P := P) (w := w) (base := base) T G_is_share
  obtain ⟨fd_lowest, G_lowest⟩ := ok_lowest (P := P) (w := w) (base := base) T G_common_divisor
  obtain ⟨fd_l_gcd, G_l_gcd⟩ := ok_l_gcd (P := P) (w := w) (base := base) T
  obtain ⟨fd_l_low, G_l_low⟩ := ok_l_low (P := P) (w := w) (base := base) T G_l_gcd
  obtain ⟨fd_is_event, G_is_event⟩ := ok_is_event (P := P) (w := w) (base := base) T G_is_within
  obtain ⟨fd_Machine_keep, G_Machine_keep⟩ := ok_Machine_keep (P := P) (w := w) (base := base) T
  obtain ⟨fd_Machine_init, G_Machine_init⟩ := ok_Machine_init (P := P) (w := w) (base := base) T G_is_within G_is_event G_Machine_keep
  obtain ⟨fd_Machine_eq, G_Machine_eq⟩ := ok_Machine_eq (P := P) (w := w) (base := base) T
  obtain ⟨fd_l_pot, G_l_pot⟩ := ok_l_pot (P := P) (w := w) (base := base) T
  obtain ⟨fd_l_draw, G_l_draw⟩ := ok_l_draw (P := P) (w := w) (base := base) T
  obtain ⟨fd_l_parts, G_l_parts⟩ := ok_l_parts (P := P) (w := w) (base := base) T G_l_draw
  obtain ⟨fd_step_at, G_step_at⟩ := ok_step_at (P := P) (w := w) (base := base) T
  obtain ⟨fd_lift_of, G_lift_of⟩ := ok_lift_of (P := P) (w := w) (base := base) T G_step_at
  obtain ⟨fd_l_share, G_l_share⟩ := ok_l_share (P := P) (w := w) (base := base) T G_l_draw G_l_low
  obtain ⟨fd_flooded, G_flooded⟩ := ok_flooded (P := P) (w := w) (base := base) T G_step_at
  obtain ⟨fd_reached_of, G_reached_of⟩ := ok_reached_of (P := P) (w := w) (base := base) T G_flooded
  obtain ⟨fd_knots_of, G_knots_of⟩ := ok_knots_of (P := P) (w := w) (base := base) T G_reached_of G_flooded
  obtain ⟨fd_inner_events, G_inner_events⟩ := ok_inner_events (P := P) (w := w) (base := base) T
  obtain ⟨fd_hangs_together, G_hangs_together⟩ := ok_hangs_together (P := P) (w := w) (base := base) T G_knots_of G_inner_events
  obtain ⟨fd_heights, G_heights⟩ := ok_heights (P := P) (w := w) (base := base) T G_inner_events G_step_at
  obtain ⟨fd_differences, G_differences⟩ := ok_differences (P := P) (w := w) (base := base) T G_heights G_inner_events G_step_at
  obtain ⟨fd_measure_of, G_measure_of⟩ := ok_measure_of (P := P) (w := w) (base := base) T G_differences G_common_divisor
  obtain ⟨fd_led_round, G_led_round⟩ := ok_led_round (P := P) (w := w) (base := base) T G_step_at
  obtain ⟨fd_share_of, G_share_of⟩ := ok_share_of (P := P) (w := w) (base := base) T G_step_at G_lowest
  obtain ⟨fd_ring_beyond, G_ring_beyond⟩ := ok_ring_beyond (P := P) (w := w) (base := base) T G_inner_events G_step_at G_lift_of G_led_round
  obtain ⟨fd_some_ring, G_some_ring⟩ := ok_some_ring (P := P) (w := w) (base := base) T G_inner_events G_step_at
  obtain ⟨fd_end_ring, G_end_ring⟩ := ok_end_ring (P := P) (w := w) (base := base) T G_some_ring G_share_of G_ring_beyond
  obtain ⟨fd_ends_of, G_ends_of⟩ := ok_ends_of (P := P) (w := w) (base := base) T G_end_ring G_share_of
  obtain ⟨fd_check_way, G_check_way⟩ := ok_check_way (P := P) (w := w) (base := base) T
  obtain ⟨fd_has_leapt, G_has_leapt⟩ := ok_has_leapt (P := P) (w := w) (base := base) T
  obtain ⟨fd_is_less, G_is_less⟩ := ok_is_less (P := P) (w := w) (base := base) T
  obtain ⟨fd_balanced, G_balanced⟩ := ok_balanced (P := P) (w := w) (base := base) T G_hangs_together G_knots_of G_ends_of G_is_less
  obtain ⟨fd_rule_of, G_rule_of⟩ := ok_rule_of (P := P) (w := w) (base := base) T G_knots_of G_heights G_measure_of G_lift_of
  obtain ⟨fd_leaping_events, G_leaping_events⟩ := ok_leaping_events (P := P) (w := w) (base := base) T G_balanced G_rule_of
  obtain ⟨fd_never_by, G_never_by⟩ := ok_never_by (P := P) (w := w) (base := base) T G_leaping_events
  obtain ⟨fd_never, G_never⟩ := ok_never (P := P) (w := w) (base := base) T G_check_share G_check_way G_never_by
  obtain ⟨fdX_is_integer, GX_is_integer⟩ := okX_is_integer (P := P) (w := w) (base := base) T
  obtain ⟨fdX_is_within, GX_is_within⟩ := okX_is_within (P := P) (w := w) (base := base) T GX_is_integer
  obtain ⟨fd_RawMachine_init, G_RawMachine_init⟩ := ok_RawMachine_init (P := P) (w := w) (base := base) T G_Machine_keep
  obtain ⟨fdX_is_ascending, GX_is_ascending⟩ := okX_is_ascending (P := P) (w := w) (base := base) T GX_is_within
  obtain ⟨fd_struck_of, G_struck_of⟩ := ok_struck_of (P := P) (w := w) (base := base) T G_RawMachine_init
  obtain ⟨fd_check_events, G_check_events⟩ := ok_check_events (P := P) (w := w) (base := base) T GX_is_ascending
  obtain ⟨fd_struck, G_struck⟩ := ok_struck (P := P) (w := w) (base := base) T G_check_events G_struck_of
  obtain ⟨fd_l_mixed, G_l_mixed⟩ := ok_l_mixed (P := P) (w := w) (base := base) T G_l_draw
  obtain ⟨fd_mends, G_mends⟩ := ok_mends (P := P) (w := w) (base := base) T G_struck_of G_never_by
  obtain ⟨fd_is_mend, G_is_mend⟩ := ok_is_mend (P := P) (w := w) (base := base) T G_check_share G_check_way GX_is_ascending G_mends
  obtain ⟨fd_l_lot, G_l_lot⟩ := ok_l_lot (P := P) (w := w) (base := base) T G_l_draw
  obtain ⟨fd_law, G_law⟩ := ok_law (P := P) (w := w) (base := base) T G_l_pot G_l_parts G_Machine_init G_l_share G_l_draw G_is_mend G_l_lot G_struck G_never G_l_mixed
  exact ⟨fd_law, G_law⟩
end X
open PySem PySem.W PySem.Calls PyProof.Rows
theorem PySem.Challenge.cw_neverleapt_k69_mends_judged_holds : PySem.Challenge.rw_neverleapt_k69_mends_judged.Holds := by
  w_on; o_law
  refine HandSHeadRun.head_any (r := OpenLaw.row PySem.Challenge.rw_neverleapt_k69_mends_judged) (q := view (OpenLaw.row PySem.Challenge.rw_neverleapt_k69_mends_judged).prog [112]) (H := X.hk) (ob := X.ob) (M := 20000) (loose := X.loose) (d := HandSHeadRun.topDef (OpenLaw.row PySem.Challenge.rw_neverleapt_k69_mends_judged).prog 112) (kwd := []) X.ob_eq
    (by kernel_rfl) (fun s => by kernel_rfl) X.run (by kernel_rfl) (by kernel_rfl) (by kernel_rfl) (by rfl) (by first | assumption | decide +kernel) (by decide +kernel) ⟨rfl, rfl, rfl, rfl, rfl, by decide +kernel⟩ ?hw ?hc
  case hw => w_witness2
  case hc =>
    refine L2.walk_ofE (l := PySem.Challenge.rw_neverleapt_k69_mends_judged) (n := 63) (k := 11) (x := "_law_script") (CX := L2.CX0) rfl (by decide) (by kernel_rfl) ⟨rfl, by decide, by decide⟩ ?F (fun _ _ _ _ z => z)
    intro w mg fa h Y G hmg0
    obtain ⟨K, KX, c⟩ := Y
    have hmg : mg ("law" : PySem.Str) = some (.ref fa) := by
      have e : (HandSHeadRun.topDef (OpenLaw.row PySem.Challenge.rw_neverleapt_k69_mends_judged).prog 112).name = ("law" : PySem.Str) := by kernel_rfl
      rw [← e]
      exact hmg0
    obtain ⟨fd, hb, hF⟩ := X.facts (P := (PySem.Challenge.rw_neverleapt_k69_mends_judged).prog) (w := w) KX G hmg c
    exact ⟨K, fd, X.sp_law K, KX, hb, fun H a ns hl _ hS => ⟨a, ns, rfl, hS, hl, fun _ => rfl⟩, hF⟩

