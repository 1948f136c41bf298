import PyProof.Rows.All
import Wide.All
import OpenK.AllK
import Wide.FinOn
import HandS.ForMost
import HandS.Conv
import KE.KRevSl
import HandS.DictComp
import PyProof.SeqIndex
import PyProof.LongRange
import HandS.SortInts
import HandS.Exc
import HandS.TryOnly
import HandS.ExcOwn
import HandS.WordsExc
import HandS.Wide
import HandS.WideBits
import HandS.IsInst
import HandS.Defaults
import HandS.Flow
import HandS.Head0
import HandS.Head1
import HandS.Head2
import HandS.HeadEnd
import HandS.HeadHook1
import HandS.HeadHook2
import HandS.HeadHook3
import HandS.HeadHook4
import HandS.Small
import KE.GoesEnum
import HandS.Evl
import HandS.TupAny
import KE.KExcSuper
import HandS.ExcInit
import HandS.ExcField
import HandS.TryMany
import HandS.TupSets
import HandS.Deep
import HandS.TupMul
import HandS.DictTup
import KE.KDictDisplayH
import HandS.TupLen
import HandS.SetKeys
import HandS.Style
import HandS.ExcIs
import HandS.Hot
import HandS.ExcCtx
import HandS.Strs
import HandS.SetFor
import PySem.Challenge.RW_neverleapt_k45_lots_refused
set_option Elab.async false
set_option linter.all false
set_option maxRecDepth 100000
set_option maxHeartbeats 4000000
/-! Lv: own lemmas over the hand layer: two parts of a heap (the law's pot and all else), comprehensions of ints, divisors. -/
namespace Lv
open PySem L2
/-! ### heaps in two parts -/
/-- H' has all that H has -/
def Ex (H H' : Hp) : Prop := ∀ a o, H a = some o → H' a = some o
theorem Ex.refl (H : Hp) : Ex H H := fun _ _ h => h
theorem Ex.trans {H H1 H2 : Hp} (a : Ex H H1) (b : Ex H1 H2) : Ex H H2 := fun x o h => b x o (a x o h)
theorem Ex.new {H : Hp} {p : Addr} {o : HO} (h : H p = none) : Ex H (upd H p o) := fun a u e => by
  rw [upd_ne (ne_of_none e h)]
  exact e
theorem Ex.mut {H H' : Hp} {p : Addr} {o : HO} (e : Ex H H') (h : H p = none) : Ex H (upd H' p o) := fun a u ha => by
  rw [upd_ne (ne_of_none ha h)]
  exact e a u ha
theorem Ex.back {H H' : Hp} {p : Addr} (e : Ex H H') (h : H' p = none) : H p = none := by
  cases h1 : H p with
  | none => rfl
  | some o =>
    rw [e p o h1] at h
    cases h
theorem Ex.rd {H H' : Hp} {a : Addr} {u : HO} (e : Ex H H') (h : Rd H a u) : Rd H' a u := by
  rcases h with h | ⟨o, h⟩
  · exact Or.inl (e a _ h)
  · exact Or.inr ⟨o, e a _ h⟩
theorem Ex.l {K : PySem.W.Frag} {H H' : Hp} {a : Addr} {xs : List V} (e : Ex H H') (h : SqL K H a xs) : SqL K H' a xs := by
  rcases h with h | h
  · exact Or.inl (e.rd h)
  · exact Or.inr h
theorem Ex.t {K : PySem.W.Frag} {H H' : Hp} {a : Addr} {xs : List V} (e : Ex H H') (h : SqT K H a xs) : SqT K H' a xs := by
  rcases h with h | h
  · exact Or.inl (e.rd h)
  · exact Or.inr h
theorem sqL {K : PySem.W.Frag} {H : Hp} {a : Addr} {xs : List V} (h : H a = some (.lst xs)) : SqL K H a xs := Or.inl (Or.inl h)
theorem sqT {K : PySem.W.Frag} {H : Hp} {a : Addr} {xs : List V} (h : H a = some (.tup xs)) : SqT K H a xs := Or.inl (Or.inl h)
theorem szle {n : Nat} (h : n ≤ 100000) : n ≤ sizeLine := Nat.le_trans h (by decide)
theorem szlt {n : Nat} (h : n < 100000) : n < sizeLine := Nat.lt_of_lt_of_le h (by decide)
/-- H is made of G and P, apart from one another -/
structure Join (G P H : Hp) : Prop where
  ap : ∀ b o, P b = some o → G b = none
  g : ∀ b o, G b = some o → H b = some o
  p : ∀ b o, P b = some o → H b = some o
  no : ∀ b, G b = none → P b = none → H b = none
theorem Join.self (H : Hp) : Join H (fun _ => none) H := ⟨fun _ _ e => (nomatch e), fun _ _ e => e, fun _ _ e => (nomatch e), fun _ e _ => e⟩
theorem Join.ng {G P H : Hp} (j : Join G P H) {b : Addr} (h : H b = none) : G b = none := by
  cases e : G b with
  | none => rfl
  | some o => rw [j.g b o e] at h; cases h
theorem Join.np {G P H : Hp} (j : Join G P H) {b : Addr} (h : H b = none) : P b = none := by
  cases e : P b with
  | none => rfl
  | some o => rw [j.p b o e] at h; cases h
theorem Join.gp {G P H : Hp} (j : Join G P H) {b : Addr} {o : HO} (h : G b = some o) : P b = none := by
  cases e : P b with
  | none => rfl
  | some u => rw [j.ap b u e] at h; cases h
theorem Join.setG {G P H : Hp} (j : Join G P H) {b : Addr} {o : HO} (h : P b = none) : Join (upd G b o) P (upd H b o) := by
  refine ⟨fun c u e => ?_, fun c u e => ?_, fun c u e => ?_, fun c e1 e2 => ?_⟩
  · have n : c ≠ b := fun z => by rw [z, h] at e; cases e
    rw [upd_ne n]; exact j.ap c u e
  · by_cases z : c = b
    · rw [z, upd_same] at e; rw [z, upd_same]; exact e
    · rw [upd_ne z] at e; rw [upd_ne z]; exact j.g c u e
  · have n : c ≠ b := fun z => by rw [z, h] at e; cases e
    rw [upd_ne n]; exact j.p c u e
  · have n : c ≠ b := fun z => by rw [z, upd_same] at e1; cases e1
    rw [upd_ne n] at e1; rw [upd_ne n]; exact j.no c e1 e2
theorem Join.newG {G P H : Hp} (j : Join G P H) {b : Addr} {o : HO} (h : H b = none) : Join (upd G b o) P (upd H b o) := j.setG (j.np h)
theorem Join.setP {G P H : Hp} (j : Join G P H) {b : Addr} {o : HO} (h : G b = none) : Join G (upd P b o) (upd H b o) := by
  refine ⟨fun c u e => ?_, fun c u e => ?_, fun c u e => ?_, fun c e1 e2 => ?_⟩
  · by_cases z : c = b
    · rw [z]; exact h
    · rw [upd_ne z] at e; exact j.ap c u e
  · have n : c ≠ b := fun z => by rw [z, h] at e; cases e
    rw [upd_ne n]; exact j.g c u e
  · by_cases z : c = b
    · rw [z, upd_same] at e; rw [z, upd_same]; exact e
    · rw [upd_ne z] at e; rw [upd_ne z]; exact j.p c u e
  · have n : c ≠ b := fun z => by rw [z, upd_same] at e2; cases e2
    rw [upd_ne n] at e2; rw [upd_ne n]; exact j.no c e1 e2
theorem Join.exG {G P H : Hp} (j : Join G P H) : Ex G H := j.g
theorem Join.exP {G P H : Hp} (j : Join G P H) : Ex P H := j.p
/-- what extends H extends the first part -/
theorem Join.grow {G P H H' : Hp} (j : Join G P H) (e : Ex H H') : Join (fun b => if P b = none then H' b else none) P H' := by
  refine ⟨fun c u q => ?_, fun c u q => ?_, fun c u q => e c u (j.p c u q), fun c q1 q2 => ?_⟩
  · have n : P c ≠ none := fun z => by rw [z] at q; cases q
    show (if P c = none then H' c else none) = none
    rw [if_neg n]
  · by_cases z : P c = none
    · have q2 : (if P c = none then H' c else none) = some u := q
      rw [if_pos z] at q2; exact q2
    · have q2 : (if P c = none then H' c else none) = some u := q
      rw [if_neg z] at q2; cases q2
  · have q3 : (if P c = none then H' c else none) = none := q1
    rw [if_pos q2] at q3; exact q3
theorem Join.growEx {G P H H' : Hp} (j : Join G P H) (e : Ex H H') : Ex G (fun b => if P b = none then H' b else none) := fun c u q => by
  show (if P c = none then H' c else none) = some u
  rw [if_pos (j.gp q)]; exact e c u (j.g c u q)
theorem Join.growNew {G P H H' : Hp} (j : Join G P H) {b : Addr} {o : HO} (h : H b = none) (q : H' b = some o) : (fun b => if P b = none then H' b else none) b = some o := by
  show (if P b = none then H' b else none) = some o
  rw [if_pos (j.np h)]; exact q
/-! ### the items of a list of ints -/
theorem int_at {ns : List Int} {i : Nat} {y : V} (h : (ns.map V.int)[i]? = some y) : ∃ z, ns[i]? = some z ∧ y = V.int z := by
  rw [List.getElem?_map] at h
  cases e : ns[i]? with
  | none => rw [e] at h; cases h
  | some z => rw [e] at h; exact ⟨z, rfl, (Option.some.inj h).symm⟩
theorem take_more {α : Type} : ∀ {l : List α} {i : Nat} {x : α}, l[i]? = some x → l.take (i + 1) = l.take i ++ [x]
  | [], i, x, h => by simp at h
  | a :: l, 0, x, h => by
    have e : a = x := Option.some.inj h
    subst e
    rfl
  | a :: l, i + 1, x, h => by
    have ih := take_more (l := l) (i := i) (x := x) h
    show a :: l.take (i + 1) = a :: l.take i ++ [x]
    rw [ih]
    rfl
/-- [g z for z in ns if f z], nothing touched: the rest of the reading behind the walked list -/
theorem lc_ints {K : PySem.W.Frag} {a : Addr} {ns : List Int} {j : Nat} {tt : TT} {te : TE} {vs : List Nat} {σ : St} {H : Hp} {Qd : Hp → Prop} {D : Addr} (f : Int → Bool) (g : Int → Int) (hD : H D = none)
    (hS : SqL K H a (ns.map V.int)) (hn : ns.length ≤ 1000) (hw : ∀ x, wipe ((wipe σ vs).set j (some x)) vs = wipe σ vs)
    (ht : ∀ (z : Int) (H' : Hp) (R : Bool → Hp → Prop), z ∈ ns → R (f z) H' → tt ((wipe σ vs).set j (some (.int z))) H' R)
    (he : ∀ (z : Int) (H' : Hp) (R : VK), z ∈ ns → f z = true → R (.int (g z)) H' → te ((wipe σ vs).set j (some (.int z))) H' R)
    (hq : Qd (upd H D (.lst (((ns.filter f).map g).map V.int)))) :
    ∃ W : Nat → Nat → Hp → Prop, (∃ m, W 0 m (upd H D (.lst []))) ∧ ∀ i m H, W i m H →
      ((Itl K a).stop i H ∧ Qd H) ∨ ((Itl K a).go i H ∧ ∃ Nx : Hp → Prop, (∀ H', Nx H' → ∃ m', m' < m ∧ W (i + 1) m' H') ∧ ∀ x H', (Itl K a).yld i H x H' → gName j x (wipe σ vs) H' fun σ2 H2 => wipe σ2 vs = wipe σ vs ∧ tt σ2 H2 fun b H3 =>
        if b = true then te σ2 H3 fun y H4 => ∃ acc, H4 D = some (.lst acc) ∧ acc.length < sizeLine ∧ Nx (upd H4 D (.lst (acc ++ [y]))) else Nx H3) := by
  have hl : ∀ i, ((((ns.take i).filter f).map g).map V.int).length ≤ 1000 := fun i => by
    rw [List.length_map, List.length_map]
    have h1 := List.length_filter_le f (ns.take i)
    rw [List.length_take] at h1
    omega
  refine lc_list (K := K) (a := a) (xs := ns.map V.int) (Qd := Qd) (fun i H' => H' = upd H D (.lst ((((ns.take i).filter f).map g).map V.int))) rfl (fun i H' _ e => ?_) (fun i y H' hi e => ?_) (fun H' e => ?_)
  · rw [e]; exact (Ex.new hD).l hS
  · obtain ⟨z, hz, rfl⟩ := int_at hi
    have hm : z ∈ ns := List.mem_of_getElem? hz
    have tm := take_more hz
    subst e
    refine ⟨hw _, ht z _ _ hm ?_⟩
    cases hf : f z with
    | true =>
      refine (if_pos rfl).mpr ?_
      refine he z _ _ hm hf ⟨_, upd_same, Nat.lt_of_le_of_lt (hl i) (by decide), ?_⟩
      rw [upd_upd, tm, List.filter_append, List.map_append, List.map_append, List.filter_cons, if_pos hf]
      rfl
    | false =>
      refine (if_neg (by decide)).mpr ?_
      rw [tm, List.filter_append, List.map_append, List.map_append, List.filter_cons, if_neg (by rw [hf]; decide)]
      show _ = upd H D (.lst (_ ++ []))
      rw [List.append_nil]
  · rw [e]
    have e2 : ns.take (ns.map V.int).length = ns := by rw [List.length_map]; exact List.take_length
    rw [e2]; exact hq
/-! ### a def as the top leaves it -/
structure Dn (P : Program) (w : World) (K : PySem.W.Frag) (mg : Str → Option Value) (base : Heap) (CX : CXT) (k : Nat) (x : Str) (ps : List Str) (sp : Sp) (fd : FuncData) : Prop where
  ok : FnOk P w K mg base CX k (He.ga K x) fd ps sp
  mg : mg x = some (.ref (He.ga K x))
  kp : PySem.W.keepIn K (.ref (He.ga K x)) = true
  b : Binds K fd ps []
  lk : ∃ oc od osl, K.lookup (He.ga K x) = some ⟨oc, od, .func fd, osl⟩
/-- a method as the top leaves it -/
structure Dm (P : Program) (w : World) (K : PySem.W.Frag) (mg : Str → Option Value) (base : Heap) (CX : CXT) (k : Nat) (C m : Str) (ps : List Str) (sp : Sp) (fd : FuncData) : Prop where
  ok : FnOk P w K mg base CX k (He.ma K (He.ga K C) m) fd ps sp
  b : Binds K fd ps []
  lk : ∃ oc od osl, K.lookup (He.ma K (He.ga K C) m) = some ⟨oc, od, .func fd, osl⟩
theorem fun_lk {K : PySem.W.Frag} {x qual : Str} {params : Arguments} {body : List Stmt} {scope : Scope} {dvs : List V} {kws : List (Str × V)} {f : Addr} {fd : FuncData} (F : FunD K x qual params body scope dvs kws f fd) : ∃ oc od osl, K.lookup f = some ⟨oc, od, .func fd, osl⟩ := by
  obtain ⟨oc, od, _, _, _, _, _, _, _, osl, _, lk, _⟩ := F.ex
  exact ⟨oc, od, osl, lk⟩
theorem fd_same {K : PySem.W.Frag} {f : Addr} {fd fd' : FuncData} (h : ∃ oc od osl, K.lookup f = some ⟨oc, od, .func fd, osl⟩) (h' : ∃ oc od osl, K.lookup f = some ⟨oc, od, .func fd', osl⟩) : fd = fd' := by
  obtain ⟨_, _, _, e⟩ := h
  obtain ⟨_, _, _, e'⟩ := h'
  rw [e] at e'
  injection e' with e'
  injection e' with _ _ e' _
  injection e'
/-! ### the pot -/
/-- a pot at l: great numbers, small ones (one at least), the turn, one number more -/
def Pot (P : Hp) (l : Addr) : Prop := ∃ (g s : Addr) (gs ss : List Int) (t c : Int), P l = some (.lst [.ref g, .ref s, .int t, .int c]) ∧ P g = some (.lst (gs.map V.int)) ∧ P s = some (.lst (ss.map V.int)) ∧ g ≠ s ∧ 0 < ss.length ∧ ss.length ≤ 1000 ∧ gs.length ≤ 1000
def spPot (K : PySem.W.Frag) : Sp := fun vs H Q _ => ∃ (a : Addr) (ns : List Int), vs = [.ref a] ∧ SqL K H a (ns.map V.int) ∧ ns.length ≤ 63 ∧ ∀ l G P H', Ex H G → Join G P H' → Pot P l → Q (.ref l) H'
def spDraw : Sp := fun vs H Q _ => ∃ (l : Addr) (n : Int) (G P : Hp), vs = [.ref l, .int n] ∧ Join G P H ∧ Pot P l ∧ 0 < n ∧ n < 2 ^ 200 ∧ ∀ (r : Int) (P' H' : Hp), 0 ≤ r → r < n → Join G P' H' → Pot P' l → Q (.int r) H'
/-- one of some things, at a tuple -/
def spAny (K : PySem.W.Frag) : Sp := fun vs H Q _ => ∃ (l t : Addr) (xs : List V) (G P : Hp), vs = [.ref l, .ref t] ∧ Join G P H ∧ Pot P l ∧ SqT K G t xs ∧ 0 < xs.length ∧ xs.length ≤ 1000 ∧ ∀ (i : Nat) (x : V) (P' H' : Hp), xs[i]? = some x → Join G P' H' → Pot P' l → Q x H'
end Lv

namespace Lv
open PySem L2
/-! ### tests -/
theorem itT {c A B : Prop} [Decidable c] (h : c) (a : A) : if decide c = true then A else B := by
  rw [if_pos (decide_eq_true h)]; exact a
theorem itF {c A B : Prop} [Decidable c] (h : ¬ c) (a : B) : if decide c = true then A else B := by
  rw [if_neg (by rw [decide_eq_false h]; decide)]; exact a
theorem itBT {b : Bool} {A B : Prop} (h : b = true) (a : A) : if b = true then A else B := by
  rw [if_pos h]; exact a
theorem itBF {b : Bool} {A B : Prop} (h : b = false) (a : B) : if b = true then A else B := by
  rw [if_neg (by rw [h]; decide)]; exact a
theorem itNT {c A B : Prop} [Decidable c] (h : ¬ c) (a : A) : if (!decide c) = true then A else B := by
  rw [if_pos (by rw [decide_eq_false h]; rfl)]; exact a
theorem itNF {c A B : Prop} [Decidable c] (h : c) (a : B) : if (!decide c) = true then A else B := by
  rw [if_neg (by rw [decide_eq_true h]; decide)]; exact a
theorem qT {Q : VK} {H : Hp} {b : Bool} (h : b = true) (k : Q (.bl true) H) : Q (.bl b) H := by rw [h]; exact k
/-! ### numbers -/
theorem abs_if (a : Int) : (if a < 0 then -a else a) = (a.natAbs : Int) := by split <;> omega
theorem emod_cast (m n : Nat) : ((m : Int) % (n : Int)) = ((m % n : Nat) : Int) := rfl
theorem gcd_turn (m n : Nat) : Nat.gcd n (m % n) = Nat.gcd m n := by
  rw [Nat.gcd_comm n, ← Nat.gcd_rec n m, Nat.gcd_comm]
/-- Euclid's product halves -/
theorem euclid_half {m n : Nat} (h : n < m) (h0 : 0 < n) : 2 * (n * (m % n)) < m * n := by
  have h1 : m % n < n := Nat.mod_lt _ h0
  have h2 : n + m % n ≤ m := by
    have e := Nat.div_add_mod m n
    have q : 1 ≤ m / n := Nat.div_pos (Nat.le_of_lt h) h0
    have q2 : n * 1 ≤ n * (m / n) := Nat.mul_le_mul_left n q
    omega
  have h3 : 2 * (m % n) < m := by omega
  have h4 : n * (2 * (m % n)) < n * m := Nat.mul_lt_mul_of_pos_left h3 h0
  have e1 : n * (2 * (m % n)) = 2 * (n * (m % n)) := by rw [Nat.mul_left_comm]
  have e2 : n * m = m * n := Nat.mul_comm _ _
  omega
end Lv

namespace Lv
open PySem L2
theorem ixN_nat {n j : Nat} (h : j < n) : ixN n (j : Int) = some j := by
  unfold ixN
  rw [if_pos (by omega), if_pos (by omega)]; simp
theorem seq_nat {n j : Nat} (h : j < n) : seqIndex? (j : Int) n = some j := (ixN_seq (ixN_nat h)).1
theorem atI_int {α : Type} {xs : List α} {i : Int} {v : α} (h0 : 0 ≤ i) (h : xs[i.toNat]? = some v) : atI xs i = some v := by
  have e : (i.toNat : Int) = i := by omega
  rw [← e]; exact atI_nat h
theorem nat1000 {i : Int} (h0 : 0 ≤ i) (h : i < 2 ^ 200) : i.natAbs < 2 ^ 1000 := by
  have h1 : i.natAbs < 2 ^ 200 := by
    have e : ((2 : Int) ^ 200) = ((2 ^ 200 : Nat) : Int) := by norm_cast
    omega
  exact Nat.lt_of_lt_of_le h1 (Nat.pow_le_pow_right (by decide) (by decide))
theorem mulW {i j : Int} (hi : i.natAbs < 2 ^ 1000) (hj : j.natAbs < 2 ^ 1000) : CMulW i j := wide_mul hi hj (by decide) (by decide) (by decide)
theorem mulSm {i j : Int} (a : 0 ≤ i) (b : i < 18446744073709551616) (c : 0 ≤ j) (d : j < 18446744073709551616) : CMulW i j := mulW (nat1000 a (Int.lt_of_lt_of_le b (by decide))) (nat1000 c (Int.lt_of_lt_of_le d (by decide)))
theorem divW {i j : Int} (h : 0 < j) (hj : j.natAbs < 2 ^ 1000) : CDivW i j := wide_div h hj (by decide) (by decide)
end Lv

namespace Lv
open PySem L2
/-- [e for x in t], t a tuple, each element's value f x, the heap may grow: the rest of the reading behind the walked tuple -/
theorem lc_mapT {K : PySem.W.Frag} {a : Addr} {xs : List V} {j : Nat} {te : TE} {vs : List Nat} {σ : L2.St} {G P H : Hp} {Qd : Hp → Prop} {D : Addr} (f : V → V) (hD : H D = none) (J : Join G P H)
    (hS : SqT K G a xs) (hn : xs.length ≤ 10000) (hw : ∀ x, wipe ((wipe σ vs).set j (some x)) vs = wipe σ vs)
    (he : ∀ (x : V) (G' H' : Hp) (R : VK), x ∈ xs → Ex G G' → Join G' P H' → (∀ H2, Ex H' H2 → R (f x) H2) → te ((wipe σ vs).set j (some x)) H' R)
    (hq : ∀ G' H', Ex G G' → Join G' P H' → G' D = some (.lst (xs.map f)) → Qd H') :
    ∃ W : Nat → Nat → Hp → Prop, (∃ m, W 0 m (upd H D (.lst []))) ∧ ∀ i m H, W i m H →
      ((Itt K a).stop i H ∧ Qd H) ∨ ((Itt K a).go i H ∧ ∃ Nx : Hp → Prop, (∀ H', Nx H' → ∃ m', m' < m ∧ W (i + 1) m' H') ∧ ∀ x H', (Itt K a).yld i H x H' → gName j x (wipe σ vs) H' fun σ2 H2 => wipe σ2 vs = wipe σ vs ∧ tYes σ2 H2 fun b H3 =>
        if b = true then te σ2 H3 fun y H4 => ∃ acc, H4 D = some (.lst acc) ∧ acc.length < sizeLine ∧ Nx (upd H4 D (.lst (acc ++ [y]))) else Nx H3) := by
  have gD : G D = none := J.ng hD
  have pD : P D = none := J.np hD
  refine lc_tup (K := K) (a := a) (xs := xs) (Qd := Qd) (fun i H' => ∃ G', Ex G G' ∧ Join G' P H' ∧ G' D = some (.lst ((xs.take i).map f))) ⟨_, Ex.new gD, J.newG hD, upd_same⟩ (fun i H' _ ⟨G', e, J', _⟩ => J'.exG.t (e.t hS)) (fun i y H' hi ⟨G', e, J', hd⟩ => ?_) (fun H' ⟨G', e, J', hd⟩ => ?_)
  · have hm : y ∈ xs := List.mem_of_getElem? hi
    refine ⟨hw _, iteT (A := te ((wipe σ vs).set j (some y)) H' _) (B := True) ?_⟩
    refine he y G' H' _ hm e J' fun H2 e2 => ⟨(xs.take i).map f, e2 D _ (J'.g D _ hd), ?_, ?_⟩
    · refine szlt ?_
      have h1 : i < xs.length := (List.getElem?_eq_some_iff.mp hi).1
      rw [List.length_map, List.length_take]; omega
    · refine ⟨upd (fun b => if P b = none then H2 b else none) D (.lst ((xs.take i).map f ++ [f y])), ?_, (J'.grow e2).setG pD, ?_⟩
      · exact fun b o q => by
          rw [upd_ne (ne_of_none q gD)]
          exact J'.growEx e2 b o (e b o q)
      · rw [upd_same, take_more hi, List.map_append]; rfl
  · refine hq G' H' e J' ?_
    rw [hd, List.take_length]
end Lv

/-! enumerate over a tuple: a rule of our own -/
namespace Lv
open PySem PySem.Spec PyProof.Rows L2
set_option maxHeartbeats 4000000 in
theorem meets_enum1 {v : Value} {o : Obj} {H : Heap → Prop} (B : Begins v o H) :
    Meets (Builtin.«enumerate.__new__» ⟨[.type "enumerate", v], []⟩) (fun _ R s => H s.heap ∧
      R (.ok (.ret (.ref (s.heap.push o).objs.size))) { s with heap := (s.heap.push o).push { cls := .type "enumerate", data := .fields #[.none, .bool false, .ref s.heap.objs.size, rawInt 0, .none, .none] } }) :=
  .of_wp fun prog w A R s h => by
    obtain ⟨hp, g, d, tk, os⟩ := s; obtain ⟨h1, h⟩ := h
    have hsub := sub_enumerate
    have q1 : ∀ {A' : Around} {E : Value → Shared → Prop} {Q : Value → Shared → Prop}, Q (.ref hp.objs.size) ⟨hp.push o, g, d, tk, os⟩ → wpAny (model prog w) A' (pyIter v) Q E ⟨hp, g, d, tk, os⟩ :=
      fun q => B.iter prog w _ _ ⟨hp, g, d, tk, os⟩ _ h1 q
    wp_walk using q1
    refine wpAny_stack_any fun st => wpAny_pure ?_
    split
    · rename_i c _ _ _ _ _
      cases (c == Value.type "enumerate")
      · wp_walk using q1
        exact ⟨_, rfl, h⟩
      · wp_walk using q1
        exact ⟨_, rfl, h⟩
    · wp_walk using q1
      exact ⟨_, rfl, h⟩
theorem call_enum1 {prog : Program} {w : World} {A : Around} {E : Value → Shared → Prop} {s : Shared} {v : Value} {o : Obj} {H : Heap → Prop} {Q : Value → Shared → Prop} (B : Begins v o H) (h1 : H s.heap)
    (h : ∀ h', IsEnum h' (s.heap.objs.size + 1) s.heap.objs.size 0 .none → h'.get? s.heap.objs.size = some o → h'.objs.size = s.heap.objs.size + 2 →
      (∀ b o, s.heap.get? b = some o → h'.get? b = some o) → Q (.ref (s.heap.objs.size + 1)) { s with heap := h' }) :
    wpAny (model prog w) A (call (.type "enumerate") [v]) Q E s := by
  refine callType_new F.called_enumerate (by decide) (F.typeCall_enumerate_1 _) (F.newCall_enumerate_1 _) (fun obj => F.args_object_init_2 obj _) F.entry_enumerate_new
    (meets_enum1 B) ⟨h1, ?_⟩
  have hz : (s.heap.push o).objs.size = s.heap.objs.size + 1 := Heap.size_push ..
  show _ ∧ _
  rw [hz]
  have he : IsEnum ((s.heap.push o).push { cls := .type "enumerate", data := .fields #[.none, .bool false, .ref s.heap.objs.size, rawInt 0, .none, .none] }) (s.heap.objs.size + 1) s.heap.objs.size 0 .none := by
    have := Heap.get?_push_size (s.heap.push o) (o := { cls := .type "enumerate", data := .fields #[.none, .bool false, .ref s.heap.objs.size, rawInt 0, .none, .none] }) rfl
    rw [hz] at this; exact this
  refine ⟨⟨_, he, rfl⟩, h _ he (Heap.get?_push_of_some _ (Heap.get?_push_size _ B.free)) (by rw [Heap.size_push, hz]) fun b o x => Heap.get?_push_of_some _ (Heap.get?_push_of_some _ x)⟩
/-- the tuple at a, each item in a new pair -/
def Itet (K : PySem.W.Frag) (a : Addr) : It :=
  ⟨fun i H => ∃ (xs : List V) (x : V), SqT K H a xs ∧ xs[i]? = some x, fun i H v H' => ∃ T x, v = .ref T ∧ H T = none ∧ H' = upd H T (.tup [.int (i : Nat), x]) ∧ ∀ xs, SqT K H a xs → xs[i]? = some x, fun i H => ∃ xs : List V, SqT K H a xs ∧ xs.length = i⟩
theorem turn_enumT {P : Program} {w : World} {K : PySem.W.Frag} {elts : List Expr} {kk : Nat} {tpos : Pos} (a e it : Addr) (hat : a ≠ it) :
    Turn P w K (.Tuple elts kk tpos) (Itet K a) [e, it] e (fun i h => (∃ old, IsEnum h e it ((i : Nat) : Int) old) ∧ h.IsTupleIter it a i ∧ e ≠ it ∧ a ≠ e) where
  mem := by simp
  obj := fun i h st b hb => by
    obtain ⟨⟨old, he⟩, ⟨o, ho, hc, hd⟩, _⟩ := st
    have e' : b = e ∨ b = it := by simpa using hb
    rcases e' with z | z
    · rw [z]; exact ⟨_, he, fun v q => nomatch q⟩
    · rw [z]; exact ⟨o, ho, fun v q => by rw [hd] at q; cases q⟩
  keep := fun i h h' st k => let ⟨⟨old, he⟩, hi, hne⟩ := st; ⟨⟨old, k e (by simp) _ he⟩, hi.at fun o q => k it (by simp) o q, hne⟩
  item := by
    intro X hP hw hK hc i pins s σ H E I hf st hg
    subst hP hw hK
    obtain ⟨⟨old, he⟩, hit, hne, hae⟩ := st
    obtain ⟨xs, x, hq, hx⟩ := hg
    obtain ⟨its, rv, p, hz⟩ := I.tuple hq
    obtain ⟨u, hu, ru⟩ := rv.get hx
    have hel : e < s.heap.objs.size := Heap.lt_size he
    have hil : it < s.heap.objs.size := by obtain ⟨_, q, _⟩ := hit; exact Heap.lt_size q
    have hlt : i < its.toArray.size := by
      have := (List.getElem?_eq_some_iff.mp hu).1
      simpa using this
    refine wpAny_pyNext_enum_itemD (fp := [it, a]) (Draws.tuple (A := X.A.in1) (I.ok.hd hc) it a hat its.toArray) he ⟨hit, show s.heap.IsTuple a its.toArray from p⟩ hlt hne (by simp [hne, Ne.symm hae]) fun x' h' tk hx' ho hst' hT hsz hk => ?_
    have ex : x' = u := by
      have h1 : its.toArray[i]? = some u := by simpa using hu
      rw [h1] at hx'
      exact (Option.some.inj hx').symm
    subst ex
    refine ⟨_, rfl, wpAny_letOwnedTupleGo_enum (s := { s with heap := h', toks := tk + 1 }) ho fun h'' he' sb => ?_⟩
    have hT2 : h''.get? s.heap.objs.size = some { cls := .type "tuple", data := .seq #[.int i tk, x'] } := (sb.2 _ (Nat.ne_of_gt hel)).trans hT
    have new : ObjOk X.prog X.w (upd H s.heap.objs.size (.tup [.int (i : Nat), x])) h'' s.heap.objs.size (.tup [.int (i : Nat), x]) :=
      ⟨by show 2 ≤ sizeLine; decide, [.int i tk, x'], .cons ⟨_, rfl⟩ (.cons ru .nil), ⟨_, hT2, rfl, _, rfl⟩⟩
    have I1 : Inv X pins σ (upd H s.heap.objs.size (.tup [.int (i : Nat), x])) { s with heap := h'', toks := tk + 1 } :=
      I.turnedNew (ch := [e, it]) (fun b ob hb q => (sb.2 b (fun z => hb (by simp [z]))).trans (hk b ob (fun z => hb (by simp [z])) (fun z => hb (by simp [z])) q)) hf (Nat.le_refl _) new
    refine ⟨.ref s.heap.objs.size, _, I1, rfl, ⟨_, x, rfl, I.hok.fresh (Nat.le_refl _), rfl, fun ys hy => by rw [I.tuple_inj hy hq]; exact hx⟩, ⟨⟨x', ?_⟩, hst'.1.at fun o q => (sb.2 it (Ne.symm hne)).trans q, hne, hae⟩, fun b hb => ?_⟩
    · have e1 : ((i + 1 : Nat) : Int) = (i : Int) + 1 := by omega
      rw [e1]; exact he'
    · have hb' : b < s.heap.objs.size := by
        have e' : b = e ∨ b = it := by simpa using hb
        rcases e' with z | z
        · rw [z]; exact hel
        · rw [z]; exact hil
      rw [upd_ne (Nat.ne_of_lt hb')]
      exact (hf b hb).1
  done := by
    intro X hP hw hK hc i pins s σ H E I hf st hg
    subst hP hw hK
    obtain ⟨⟨old, he⟩, hit, hne, hae⟩ := st
    obtain ⟨xs, hq, hx⟩ := hg
    obtain ⟨its, rv, p, hz⟩ := I.tuple hq
    obtain ⟨f0, f1, f2, f3, f4, f5⟩ := hf it (by simp)
    have hl := rv.length
    have hpt : s.heap.IsTuple a its.toArray := p
    have hn : its.toArray.size = i := by
      rw [← hx, hl]; simp
    refine wpAny_pyNext_enum_endD (fp := [it, a]) (n := its.toArray.size) (Draws.tuple (A := X.A.in1) (I.ok.hd hc) it a hat its.toArray) he ⟨by rw [hn]; exact hit, hpt⟩ fun h' eb => ⟨rfl, I.turned (t' := s.toks) (fun b o hb q => eb b o hb q) f0 f1 f3 f4 f5⟩
  self := fun A i s Q E st h => let ⟨⟨_, he⟩, _⟩ := st; wpAny_pyIter_enum he h
def iEnumT (K : PySem.W.Frag) (ta : TA) : TI := fun σ H R => ta σ H fun vs H1 => ∃ a xs, vs = [.ref a] ∧ SqT K H1 a xs ∧ R (Itet K a) H1
theorem pi_enumT {X : Cx} {e : Expr} {ta : TA} {p pos tpos : Pos} {elts : List Expr} {kk : Nat} (hg : Gl X "enumerate") (hm : X.mg "enumerate" = none) (ha : PA X [e] ta) (hs : starEach [e] X.env = [(false, eval e X.env)] := by rfl) :
    PI X (.Tuple elts kk tpos) (.Call (.Name "enumerate" p) [e] [] pos) (iEnumT X.K ta) := by
  refine ⟨fun pins s σ H R I h => ?_⟩
  refine Call_ (ld_blt I hg hm boot_enumerate (PyProof.Rows.callWith_type1 (thn (ha.run pos pins s σ H _ I h) fun us s1 ⟨vs, H1, I1, r1, q1⟩ => ?_) hs rfl))
  obtain ⟨a, xs, ex, hq, q⟩ := q1
  subst ex
  cases r1 with
  | cons r rr =>
    cases rr
    cases r
    obtain ⟨its, rv, p', hz⟩ := I1.tuple hq
    have hpt : s1.heap.IsTuple a its.toArray := p'
    have hal : a < s1.heap.objs.size := p'.lt
    refine call_enum1 (begins_tuple a its.toArray) hpt fun h' he hit hsz hk => wpAny_pyIter_enum he ?_
    have I2 : Inv X pins σ H1 { s1 with heap := h' } := I1.kept (t' := s1.toks) hk
    refine ⟨s1.heap.objs.size + 1, [s1.heap.objs.size + 1, s1.heap.objs.size], _, _, H1, rfl, I2, turn_enumT a (s1.heap.objs.size + 1) s1.heap.objs.size (Nat.ne_of_lt hal), ⟨⟨.none, he⟩, ⟨_, hit, rfl, rfl⟩, Nat.succ_ne_self _, Nat.ne_of_lt (Nat.lt_succ_of_lt hal)⟩, fun b hb => ?_, q⟩
    have e' : b = s1.heap.objs.size + 1 ∨ b = s1.heap.objs.size := by simpa using hb
    have hle : s1.heap.objs.size ≤ b := by
      rcases e' with z | z
      · rw [z]; exact Nat.le_add_right _ _
      · rw [z]; exact Nat.le_refl _
    exact I1.fpOk hle (I1.hok.fresh hle)
theorem for_enumT {K : PySem.W.Frag} {a : Addr} {xs : List V} {g : TG} {tb : TS} {D : Ends} {σ : L2.St} {H : Hp} (Pv : Nat → L2.St → Hp → Prop) (h0 : Pv 0 σ H) (hl : ∀ i σ H, i ≤ xs.length → Pv i σ H → SqT K H a xs)
    (hs : ∀ (i : Nat) x σ H T, xs[i]? = some x → Pv i σ H → H T = none → g (.ref T) σ (upd H T (.tup [.int i, x])) fun σ2 H2 => tb { D with nx := Pv (i + 1), ct := Pv (i + 1), bk := D.nx } σ2 H2) (hd : ∀ σ H, Pv xs.length σ H → D.nx σ H) :
    ∃ W : Nat → Nat → L2.St → Hp → Prop, (∃ m, W 0 m σ H) ∧ ∀ i m σ H, W i m σ H →
      ((Itet K a).stop i H ∧ D.nx σ H) ∨ ((Itet K a).go i H ∧ ∃ N : L2.St → Hp → Prop, (∀ σ' H', N σ' H' → ∃ m', m' < m ∧ W (i + 1) m' σ' H') ∧ ∀ x H', (Itet K a).yld i H x H' → g x σ H' fun σ2 H2 => tb { D with nx := N, ct := N, bk := D.nx } σ2 H2) := by
  refine ⟨fun i m σ H => m = xs.length - i ∧ i ≤ xs.length ∧ Pv i σ H, ⟨xs.length, by simp, Nat.zero_le _, h0⟩, ?_⟩
  rintro i m σ H ⟨rfl, hi, p⟩
  have q := hl i σ H hi p
  by_cases hlt : i < xs.length
  · refine .inr ⟨⟨xs, xs[i], q, by simp [hlt]⟩, Pv (i + 1), fun σ' H' p' => ⟨xs.length - (i + 1), by omega, rfl, hlt, p'⟩, fun x H' y => ?_⟩
    obtain ⟨T, z, e1, e2, e3, y⟩ := y
    subst e1 e3
    exact hs i z σ H T (y xs q) p e2
  · have e : i = xs.length := by omega
    subst e
    exact .inl ⟨⟨xs, q, rfl⟩, hd σ H p⟩
end Lv

/-! machines over a heap -/
namespace Lv
open PySem L2
/-- an event: before, after, tries, points -/
structure Ev where
  b : Int
  a : Int
  w : Int
  x : Int
deriving DecidableEq
def evV (e : Ev) : List V := [.int e.b, .int e.a, .int e.w, .int e.x]
def EvOk (n : Int) (e : Ev) : Prop := 0 ≤ e.b ∧ e.b < n ∧ 0 ≤ e.a ∧ e.a < n ∧ 1 ≤ e.w ∧ e.w ≤ 40 ∧ -400 ≤ e.x ∧ e.x ≤ 400
def EvL (G : Hp) (vs : List V) (es : List Ev) : Prop := vs.length = es.length ∧ ∀ (i : Nat) (e : Ev), es[i]? = some e → ∃ t : Addr, vs[i]? = some (.ref t) ∧ G t = some (.tup (evV e))
theorem EvL.mono {G G' : Hp} {vs : List V} {es : List Ev} (e : Ex G G') (h : EvL G vs es) : EvL G' vs es := ⟨h.1, fun i z hz => by
  obtain ⟨t, h1, h2⟩ := h.2 i z hz
  exact ⟨t, h1, e _ _ h2⟩⟩
theorem EvL.get {G : Hp} {vs : List V} {es : List Ev} (h : EvL G vs es) {i : Nat} {v : V} (hv : vs[i]? = some v) : ∃ (e : Ev) (t : Addr), es[i]? = some e ∧ v = .ref t ∧ G t = some (.tup (evV e)) := by
  have hi : i < es.length := by rw [← h.1]; exact (List.getElem?_eq_some_iff.mp hv).1
  obtain ⟨t, h1, h2⟩ := h.2 i es[i] (List.getElem?_eq_getElem hi)
  rw [hv] at h1
  exact ⟨es[i], t, List.getElem?_eq_getElem hi, Option.some.inj h1, h2⟩
def EvsAt (G : Hp) (t : Addr) (es : List Ev) : Prop := ∃ vs : List V, G t = some (.tup vs) ∧ EvL G vs es
theorem EvsAt.mono {G G' : Hp} {t : Addr} {es : List Ev} (e : Ex G G') (h : EvsAt G t es) : EvsAt G' t es := by
  obtain ⟨vs, h1, h2⟩ := h
  exact ⟨vs, e _ _ h1, h2.mono e⟩
/-- the numbers, from k on, of the events that lead from s -/
def outs (k : Nat) : List Ev → Nat → List Int
  | [], _ => []
  | e :: r, s => if e.b = (s : Int) then (k : Int) :: outs (k + 1) r s else outs (k + 1) r s
theorem outs_app (s : Nat) (e : Ev) : ∀ (l : List Ev) (k : Nat), outs k (l ++ [e]) s = outs k l s ++ (if e.b = (s : Int) then [((k + l.length : Nat) : Int)] else [])
  | [], k => by
    show (if e.b = (s : Int) then (k : Int) :: outs (k + 1) [] s else outs (k + 1) [] s) = _
    split
    · rfl
    · rfl
  | a :: r, k => by
    have ih := outs_app s e r (k + 1)
    have e2 : k + 1 + r.length = k + (a :: r).length := by simp; omega
    rw [e2] at ih
    show (if a.b = (s : Int) then (k : Int) :: outs (k + 1) (r ++ [e]) s else outs (k + 1) (r ++ [e]) s) = (if a.b = (s : Int) then (k : Int) :: outs (k + 1) r s else outs (k + 1) r s) ++ _
    rw [ih]
    split
    · rfl
    · rfl
theorem outs_len (s : Nat) : ∀ (l : List Ev) (k : Nat), (outs k l s).length ≤ l.length
  | [], _ => Nat.le_refl _
  | a :: r, k => by
    have ih := outs_len s r (k + 1)
    show (if a.b = (s : Int) then (k : Int) :: outs (k + 1) r s else outs (k + 1) r s).length ≤ r.length + 1
    split
    · simp; omega
    · omega
def mfl (n : Int) (t ko : Addr) : List (Str × V) := [("standings", .int n), ("events", .ref t), ("kept_out", .ref ko)]
theorem nse : ¬ (("standings" : Str) = "events") := by decide +kernel
theorem nsk : ¬ (("standings" : Str) = "kept_out") := by decide +kernel
theorem nek : ¬ (("events" : Str) = "kept_out") := by decide +kernel
theorem mf1 (n : Int) : putF "standings" (.int n) [] = ([("standings", V.int n)] : List (Str × V)) := rfl
theorem mf2 (n : Int) (t : Addr) : putF "events" (.ref t) ([("standings", V.int n)] : List (Str × V)) = ([("standings", V.int n), ("events", V.ref t)] : List (Str × V)) := by
  show (if ("standings" : Str) = "events" then _ else _) = _
  rw [if_neg nse]; rfl
theorem mf3 (n : Int) (t ko : Addr) : putF "kept_out" (.ref ko) ([("standings", V.int n), ("events", V.ref t)] : List (Str × V)) = mfl n t ko := by
  show (if ("standings" : Str) = "kept_out" then _ else (("standings" : Str), V.int n) :: (if ("events" : Str) = "kept_out" then _ else _)) = _
  rw [if_neg nsk, if_neg nek]; rfl
theorem ml1 (n : Int) (t ko : Addr) : (mfl n t ko).lookup ("standings" : Str) = some (.int n) := by simp [mfl, List.lookup]
theorem ml2 (n : Int) (t ko : Addr) : (mfl n t ko).lookup ("events" : Str) = some (.ref t) := by
  have h : (("events" : Str) == "standings") = false := by decide +kernel
  simp [mfl, List.lookup, h]
theorem ml3 (n : Int) (t ko : Addr) : (mfl n t ko).lookup ("kept_out" : Str) = some (.ref ko) := by
  have h : (("kept_out" : Str) == "standings") = false := by decide +kernel
  have h2 : (("kept_out" : Str) == "events") = false := by decide +kernel
  simp [mfl, List.lookup, h, h2]
/-- a machine of the class at C: n standings, the events es -/
def MachAt (C : Addr) (G : Hp) (m : Addr) (n : Int) (es : List Ev) : Prop := ∃ (dx t ko : Addr) (ks : List V), G m = some (.ins C dx (mfl n t ko)) ∧ EvsAt G t es ∧ G ko = some (.lst ks) ∧ (ks.length : Int) = n ∧
  ∀ i : Nat, i < ks.length → ∃ k : Addr, ks[i]? = some (.ref k) ∧ G k = some (.lst ((outs 0 es i).map V.int))
theorem MachAt.mono {C : Addr} {G G' : Hp} {m : Addr} {n : Int} {es : List Ev} (e : Ex G G') (h : MachAt C G m n es) : MachAt C G' m n es := by
  obtain ⟨dx, t, ko, ks, h1, h2, h3, h4, h5⟩ := h
  refine ⟨dx, t, ko, ks, e _ _ h1, h2.mono e, e _ _ h3, h4, fun i hi => ?_⟩
  obtain ⟨k, q1, q2⟩ := h5 i hi
  exact ⟨k, q1, e _ _ q2⟩
/-- all that stood but x stands -/
def But (x : Addr) (G G' : Hp) : Prop := ∀ b o, G b = some o → b ≠ x → G' b = some o
/-- Machine.keep and its __init__: a fresh instance at x becomes a machine -/
def spKeep (C : Addr) : Sp := fun vs H Q _ => ∃ (x t : Addr) (n : Int) (dx : Addr) (es : List Ev) (G P : Hp), vs = [.ref x, .int n, .ref t] ∧ Join G P H ∧ G x = some (.ins C dx []) ∧ EvsAt G t es ∧ 1 ≤ n ∧ n ≤ 10000 ∧ es.length ≤ 10000 ∧
  (∀ e ∈ es, 0 ≤ e.b ∧ e.b < n) ∧ ∀ G' H', Join G' P H' → But x G G' → MachAt C G' x n es → Q .non H'
def spMInit (C : Addr) : Sp := fun vs H Q _ => ∃ (x t : Addr) (n : Int) (dx : Addr) (es : List Ev) (G P : Hp), vs = [.ref x, .int n, .ref t] ∧ Join G P H ∧ G x = some (.ins C dx []) ∧ EvsAt G t es ∧ 1 ≤ n ∧ n ≤ 12 ∧ es.length ≤ 30 ∧
  (∀ e ∈ es, EvOk n e) ∧ ∀ G' H', Join G' P H' → But x G G' → MachAt C G' x n es → Q .non H'
end Lv

namespace Lv
open PySem L2
theorem low_facts {a b : Int} (hb : 0 < b) : 1 ≤ b / (Int.gcd a b : Nat) ∧ Int.gcd (a / (Int.gcd a b : Nat)) (b / (Int.gcd a b : Nat)) = 1 ∧ (a / (Int.gcd a b : Nat)).natAbs ≤ a.natAbs ∧ (b / (Int.gcd a b : Nat)).natAbs ≤ b.natAbs := by
  have g0 : 0 < Int.gcd a b := Int.gcd_pos_of_ne_zero_right a (by omega)
  have h1 : ((Int.gcd a b : Nat) : Int) ∣ a := Int.gcd_dvd_left ..
  have h2 : ((Int.gcd a b : Nat) : Int) ∣ b := Int.gcd_dvd_right ..
  refine ⟨?_, Int.gcd_ediv_gcd_ediv_gcd_of_ne_zero_right (by omega), ?_, ?_⟩
  · obtain ⟨c, hc⟩ := h2
    have : b / (Int.gcd a b : Nat) = c := by
      rw [hc]
      rw [← hc]
      exact Int.ediv_eq_of_eq_mul_right (by omega) hc
    rw [this]
    by_cases h : 1 ≤ c
    · exact h
    · exfalso
      have : ((Int.gcd a b : Nat) : Int) * c ≤ 0 := Int.mul_nonpos_of_nonneg_of_nonpos (by omega) (by omega)
      omega
  · rw [Int.natAbs_ediv_of_dvd h1]
    exact Nat.div_le_self _ _
  · rw [Int.natAbs_ediv_of_dvd h2]
    exact Nat.div_le_self _ _
theorem blT {p : Prop} [Decidable p] (h : p) : V.bl (decide p) = V.bl true := by rw [decide_eq_true h]
theorem blF {p : Prop} [Decidable p] (h : ¬ p) : V.bl (decide p) = V.bl false := by rw [decide_eq_false h]
end Lv

namespace Lv
open PySem L2
theorem EvL.upd {G : Hp} {vs : List V} {es : List Ev} {L : Addr} {xs : List V} {o : HO} (h : EvL G vs es) (hL : G L = some (.lst xs)) : EvL (L2.upd G L o) vs es := ⟨h.1, fun i e he => by
  obtain ⟨t, h1, h2⟩ := h.2 i e he
  exact ⟨t, h1, by rw [upd_ne (ne_of h2 hL (by intro z; cases z))]; exact h2⟩⟩
theorem EvL.add {G : Hp} {vs : List V} {es : List Ev} {t : Addr} {e : Ev} (h : EvL G vs es) (ht : G t = some (.tup (evV e))) : EvL G (vs ++ [.ref t]) (es ++ [e]) := ⟨by simp [h.1], fun i e' he => by
  by_cases hi : i < es.length
  · rw [List.getElem?_append_left hi] at he
    obtain ⟨t', h1, h2⟩ := h.2 i e' he
    exact ⟨t', by rw [List.getElem?_append_left (by rw [h.1]; exact hi)]; exact h1, h2⟩
  · have hl := (List.getElem?_eq_some_iff.mp he).1
    simp at hl
    have ei : i = es.length := by omega
    subst ei
    simp at he
    subst he
    exact ⟨t, by rw [← h.1]; simp, ht⟩⟩
theorem EvL.nil {G : Hp} : EvL G [] [] := ⟨rfl, fun i e he => by simp at he⟩
/-- events as the law draws them -/
def EvSm (n : Int) (e : Ev) : Prop := 0 ≤ e.b ∧ e.b < n ∧ 0 ≤ e.a ∧ e.a < n ∧ 1 ≤ e.w ∧ e.w ≤ 3 ∧ -4 ≤ e.x ∧ e.x ≤ 4
theorem EvSm.ok {n : Int} {e : Ev} (h : EvSm n e) : EvOk n e := by
  obtain ⟨h1, h2, h3, h4, h5, h6, h7, h8⟩ := h
  exact ⟨h1, h2, h3, h4, h5, by omega, by omega, by omega⟩
/-- (standings, events) at p -/
def PartsAt (G : Hp) (p : Addr) (n : Int) (es : List Ev) : Prop := ∃ t, G p = some (.tup [.int n, .ref t]) ∧ EvsAt G t es
theorem PartsAt.mono {G G' : Hp} {p : Addr} {n : Int} {es : List Ev} (e : Ex G G') (h : PartsAt G p n es) : PartsAt G' p n es := by
  obtain ⟨t, h1, h2⟩ := h
  exact ⟨t, e _ _ h1, h2.mono e⟩
def spParts : Sp := fun vs H Q _ => ∃ (l : Addr) (a b : Int) (G P : Hp), vs = [.ref l, .int a, .int b] ∧ Join G P H ∧ Pot P l ∧ 1 ≤ a ∧ a ≤ 1000 ∧ 1 ≤ b ∧ b ≤ 1000 ∧
  ∀ (p : Addr) (n : Int) (es : List Ev) (G' P' H' : Hp), Ex G G' → Join G' P' H' → Pot P' l → PartsAt G' p n es → 1 ≤ n → n ≤ a → 1 ≤ es.length → (es.length : Int) ≤ b → (∀ e ∈ es, EvSm n e) → Q (.ref p) H'
end Lv
namespace Lv
open PySem L2
theorem Join.exH {G P H G' H' : Hp} (j : Join G P H) (e : Ex G G') (j' : Join G' P H') : Ex H H' := fun b o h => by
  cases hg : G b with
  | some u =>
    have h1 := j.g _ _ hg
    rw [h] at h1
    rw [Option.some.inj h1]
    exact j'.g _ _ (e _ _ hg)
  | none =>
    cases hp : P b with
    | some u =>
      have h1 := j.p _ _ hp
      rw [h] at h1
      rw [Option.some.inj h1]
      exact j'.p _ _ hp
    | none => rw [j.no _ hg hp] at h; cases h
end Lv

namespace Lv
open PySem L2
/-! ### lists of tuples -/
def TupL {α : Type} (f : α → List V) (G : Hp) (vs : List V) (as : List α) : Prop := vs.length = as.length ∧ ∀ (i : Nat) (a : α), as[i]? = some a → ∃ t : Addr, vs[i]? = some (.ref t) ∧ G t = some (.tup (f a))
section
variable {α : Type} {f : α → List V} {G G' : Hp} {vs : List V} {as : List α}
theorem TupL.mono (e : Ex G G') (h : TupL f G vs as) : TupL f G' vs as := ⟨h.1, fun i a ha => by
  obtain ⟨t, h1, h2⟩ := h.2 i a ha
  exact ⟨t, h1, e _ _ h2⟩⟩
theorem TupL.get (h : TupL f G vs as) {i : Nat} {v : V} (hv : vs[i]? = some v) : ∃ (a : α) (t : Addr), as[i]? = some a ∧ v = .ref t ∧ G t = some (.tup (f a)) := by
  have hi : i < as.length := by rw [← h.1]; exact (List.getElem?_eq_some_iff.mp hv).1
  obtain ⟨t, h1, h2⟩ := h.2 i as[i] (List.getElem?_eq_getElem hi)
  rw [hv] at h1
  exact ⟨as[i], t, List.getElem?_eq_getElem hi, Option.some.inj h1, h2⟩
theorem TupL.upd {L : Addr} {xs : List V} {o : HO} (h : TupL f G vs as) (hL : G L = some (.lst xs)) : TupL f (L2.upd G L o) vs as := ⟨h.1, fun i a ha => by
  obtain ⟨t, h1, h2⟩ := h.2 i a ha
  exact ⟨t, h1, by rw [upd_ne (ne_of h2 hL (by intro z; cases z))]; exact h2⟩⟩
theorem TupL.add {t : Addr} {a : α} (h : TupL f G vs as) (ht : G t = some (.tup (f a))) : TupL f G (vs ++ [.ref t]) (as ++ [a]) := ⟨by simp [h.1], fun i a' ha => by
  by_cases hi : i < as.length
  · rw [List.getElem?_append_left hi] at ha
    obtain ⟨t', h1, h2⟩ := h.2 i a' ha
    exact ⟨t', by rw [List.getElem?_append_left (by rw [h.1]; exact hi)]; exact h1, h2⟩
  · have hl := (List.getElem?_eq_some_iff.mp ha).1
    simp at hl
    have ei : i = as.length := by omega
    subst ei
    simp at ha
    subst ha
    exact ⟨t, by rw [← h.1]; simp, ht⟩⟩
theorem TupL.nil : TupL f G [] [] := ⟨rfl, fun i e he => by simp at he⟩
end
/-- a tuple of ints, a list of such, as data -/
def iV (l : List Int) : List V := l.map V.int
def dT (l : List Int) : PyData := .tuple (l.map PyData.int)
def dL (ls : List (List Int)) : PyData := .list (ls.map dT)
theorem dp_ints {K : PySem.W.Frag} {H : Hp} : ∀ l : List Int, DpAll K H (iV l) (l.map PyData.int)
  | [] => .nil
  | a :: r => .cons (.int a) (dp_ints r)
theorem dp_tup {K : PySem.W.Frag} {H : Hp} {t : Addr} {l : List Int} (h : H t = some (.tup (iV l))) : Dp K H (.ref t) (dT l) := .tup (sqT h) (dp_ints l)
theorem dp_all {K : PySem.W.Frag} {H : Hp} : ∀ (ls : List (List Int)) (vs : List V), TupL iV H vs ls → DpAll K H vs (ls.map dT)
  | [], [], _ => .nil
  | [], v :: vs, h => by have := h.1; simp at this
  | l :: r, [], h => by have := h.1; simp at this
  | l :: r, v :: vs, h => by
    obtain ⟨t, h1, h2⟩ := h.2 0 l rfl
    have e : v = .ref t := Option.some.inj h1
    subst e
    exact .cons (dp_tup h2) (dp_all r vs ⟨by have := h.1; simp at this; exact this, fun i a ha => h.2 (i + 1) a ha⟩)
theorem dp_lst {K : PySem.W.Frag} {H : Hp} {p : Addr} {vs : List V} {ls : List (List Int)} (hp : H p = some (.lst vs)) (h : TupL iV H vs ls) : Dp K H (.ref p) (dL ls) := .lst (sqL hp) (dp_all ls vs h)
theorem lay_ints : ∀ l : List Int, PyData.canLayAll0 (l.map PyData.int) = true
  | [] => rfl
  | a :: r => by
    have ih := lay_ints r
    simp [PyData.canLayAll0, PyData.canLay0, ih]
theorem lay_tups : ∀ ls : List (List Int), PyData.canLayAll0 (ls.map dT) = true
  | [] => rfl
  | l :: r => by
    have ih := lay_tups r
    simp [PyData.canLayAll0, dT, PyData.canLay0, ih, lay_ints l]
theorem dep_ints : ∀ l : List Int, PyData.depthAll (l.map PyData.int) ≤ 1
  | [] => by simp [PyData.depthAll]
  | a :: r => by
    have ih := dep_ints r
    simp [PyData.depthAll, PyData.depth]
    omega
theorem dep_tups : ∀ ls : List (List Int), PyData.depthAll (ls.map dT) ≤ 2
  | [] => by simp [PyData.depthAll]
  | l :: r => by
    have ih := dep_tups r
    have h := dep_ints l
    simp [PyData.depthAll, PyData.depth, dT]
    omega
theorem shaped_dL (ls : List (List Int)) : SeqAt.shaped (dL ls) = true := by
  have h1 := lay_tups ls
  have h2 := dep_tups ls
  unfold SeqAt.shaped dL
  rw [PyData.canLay0, h1, PyData.depth]
  simp
  omega
theorem shaped_dT (l : List Int) : SeqAt.shaped (dT l) = true := by
  have h1 := lay_ints l
  have h2 := dep_ints l
  unfold SeqAt.shaped dT
  rw [PyData.canLay0, h1, PyData.depth]
  simp
  omega
theorem eqv_ints : ∀ l m : List Int, PyData.eqvAll (l.map PyData.int) (m.map PyData.int) = decide (l = m)
  | [], [] => by simp [PyData.eqvAll]
  | [], b :: m => by simp [PyData.eqvAll]
  | a :: l, [] => by simp [PyData.eqvAll]
  | a :: l, b :: m => by
    have ih := eqv_ints l m
    simp only [List.map_cons, PyData.eqvAll, PyData.eqv, ih]
    by_cases h : a = b
    · subst h; simp
    · simp [h]
theorem eqv_dT (l m : List Int) : PyData.eqv (dT l) (dT m) = decide (l = m) := by
  unfold dT; rw [PyData.eqv]; exact eqv_ints l m
theorem eqv_tups : ∀ l m : List (List Int), PyData.eqvAll (l.map dT) (m.map dT) = decide (l = m)
  | [], [] => by simp [PyData.eqvAll]
  | [], b :: m => by simp [PyData.eqvAll]
  | a :: l, [] => by simp [PyData.eqvAll]
  | a :: l, b :: m => by
    have ih := eqv_tups l m
    simp only [List.map_cons, PyData.eqvAll, eqv_dT, ih]
    by_cases h : a = b
    · subst h; simp
    · simp [h]
theorem eqv_dL (l m : List (List Int)) : PyData.eqv (dL l) (dL m) = decide (l = m) := by
  unfold dL; rw [PyData.eqv]; exact eqv_tups l m
/-! ### runs -/
def leads (es : List Ev) : Int → List Nat → Option Int
  | s, [] => some s
  | s, i :: r => match es[i]? with
    | some e => if e.b = s then leads es e.a r else none
    | none => none
theorem leads_app (es : List Ev) : ∀ (l m : List Nat) (s : Int), leads es s (l ++ m) = (leads es s l).bind fun y => leads es y m
  | [], m, s => rfl
  | i :: r, m, s => by
    show (match es[i]? with | some e => if e.b = s then leads es e.a (r ++ m) else none | none => none) = (match es[i]? with | some e => if e.b = s then leads es e.a r else none | none => none).bind _
    cases es[i]? with
    | none => rfl
    | some e =>
      show (if e.b = s then leads es e.a (r ++ m) else none) = (if e.b = s then leads es e.a r else none).bind _
      by_cases h : e.b = s
      · rw [if_pos h, if_pos h]; exact leads_app es r m e.a
      · rw [if_neg h, if_neg h]; rfl
theorem leads_at {es : List Ev} {rs : List Nat} {s z : Int} (h : leads es s rs = some z) {i k : Nat} (hk : rs[i]? = some k) : ∃ y e, leads es s (rs.take i) = some y ∧ es[k]? = some e ∧ e.b = y ∧ leads es s (rs.take (i + 1)) = some e.a := by
  have hi : i < rs.length := (List.getElem?_eq_some_iff.mp hk).1
  have e1 : rs = rs.take i ++ (k :: rs.drop (i + 1)) := by
    have h1 := List.take_append_drop i rs
    have h2 : rs.drop i = k :: rs.drop (i + 1) := by
      rw [List.drop_eq_getElem_cons hi]
      rw [List.getElem?_eq_getElem hi] at hk
      rw [Option.some.inj hk]
    rw [h2] at h1
    exact h1.symm
  have h2 : leads es s (rs.take i ++ (k :: rs.drop (i + 1))) = some z := by rw [← e1]; exact h
  rw [leads_app] at h2
  cases hy : leads es s (rs.take i) with
  | none => rw [hy] at h2; cases h2
  | some y =>
    rw [hy] at h2
    have h3 : (match es[k]? with | some e => if e.b = y then leads es e.a (rs.drop (i + 1)) else none | none => none) = some z := h2
    cases he : es[k]? with
    | none => rw [he] at h3; cases h3
    | some e =>
      rw [he] at h3
      have h4 : (if e.b = y then leads es e.a (rs.drop (i + 1)) else none) = some z := h3
      by_cases hb : e.b = y
      · refine ⟨y, e, rfl, rfl, hb, ?_⟩
        rw [take_more hk, leads_app, hy]
        show (match es[k]? with | some e => if e.b = y then leads es e.a [] else none | none => none) = some e.a
        rw [he]
        show (if e.b = y then some e.a else none) = some e.a
        rw [if_pos hb]
      · rw [if_neg hb] at h4; cases h4
/-- a run: its numbers -/
def IsRun (es : List Ev) (rs : List Nat) : Prop := ∃ z, leads es 0 rs = some z
def rV (rs : List Nat) : List V := rs.map fun (i : Nat) => V.int (i : Int)
theorem rV_at {rs : List Nat} {i : Nat} {y : V} (h : (rV rs)[i]? = some y) : ∃ k, rs[i]? = some k ∧ y = V.int (k : Int) := by
  unfold rV at h
  rw [List.getElem?_map] at h
  cases e : rs[i]? with
  | none => rw [e] at h; cases h
  | some z => rw [e] at h; exact ⟨z, rfl, (Option.some.inj h).symm⟩
/-- the sums of tries, of points -/
def sumW (es : List Ev) (rs : List Nat) : Int := (rs.map fun k => ((es[k]?).map Ev.w).getD 0).sum
def sumX (es : List Ev) (rs : List Nat) : Int := (rs.map fun k => ((es[k]?).map Ev.x).getD 0).sum
theorem sumW_more {es : List Ev} {rs : List Nat} {i k : Nat} {e : Ev} (hk : rs[i]? = some k) (he : es[k]? = some e) : sumW es (rs.take (i + 1)) = sumW es (rs.take i) + e.w := by
  unfold sumW
  rw [take_more hk, List.map_append, List.sum_append]
  simp [he]
theorem sumX_more {es : List Ev} {rs : List Nat} {i k : Nat} {e : Ev} (hk : rs[i]? = some k) (he : es[k]? = some e) : sumX es (rs.take (i + 1)) = sumX es (rs.take i) + e.x := by
  unfold sumX
  rw [take_more hk, List.map_append, List.sum_append]
  simp [he]
def boardsOf (es : List Ev) (rs : List Nat) : List (List Int) := (List.range rs.length).map fun i => [sumW es (rs.take (i + 1)), sumX es (rs.take (i + 1))]
def boardsTo (es : List Ev) (rs : List Nat) (n : Nat) : List (List Int) := (List.range n).map fun i => [sumW es (rs.take (i + 1)), sumX es (rs.take (i + 1))]
theorem boardsTo_more (es : List Ev) (rs : List Nat) (n : Nat) : boardsTo es rs (n + 1) = boardsTo es rs n ++ [[sumW es (rs.take (n + 1)), sumX es (rs.take (n + 1))]] := by
  unfold boardsTo
  rw [List.range_succ, List.map_append]; rfl
theorem leads_map {f : Ev → Ev} (hf : ∀ e, (f e).b = e.b ∧ (f e).a = e.a) (es : List Ev) : ∀ (rs : List Nat) (s : Int), leads (es.map f) s rs = leads es s rs
  | [], s => rfl
  | i :: r, s => by
    show (match (es.map f)[i]? with | some e => if e.b = s then leads (es.map f) e.a r else none | none => none) = (match es[i]? with | some e => if e.b = s then leads es e.a r else none | none => none)
    rw [List.getElem?_map]
    cases es[i]? with
    | none => rfl
    | some e =>
      show (if (f e).b = s then leads (es.map f) (f e).a r else none) = (if e.b = s then leads es e.a r else none)
      rw [(hf e).1, (hf e).2, leads_map hf es r]
end Lv

/-! comprehensions, by an invariant over what is made so far -/
namespace Lv
open PySem L2
theorem lcG_list {K : PySem.W.Frag} {a : Addr} {xs : List V} {g : TG} {tt : TT} {te : TE} {vs : List Nat} {σ : L2.St} {G P H : Hp} {Qd : Hp → Prop} {D : Addr} (Pp : Hp → Prop) (I : Nat → List V → Hp → Prop) (hD : H D = none) (J : Join G P H) (hP : Pp P)
    (hS : SqL K G a xs) (h0 : I 0 [] (upd G D (.lst []))) (hI : ∀ i ws G2 us ts, G2 D = some (.lst us) → I i ws G2 → I i ws (upd G2 D (.lst ts))) (hz : ∀ i ws G2, I i ws G2 → ws.length ≤ 1000000)
    (hs : ∀ (i : Nat) (x : V) (ws : List V) (G' P' H' : Hp) (R : VK) (R0 : Hp → Prop), xs[i]? = some x → Ex G G' → I i ws G' → Pp P' → Join G' P' H' →
      (∀ v G2 P2 H2, Ex G' G2 → Pp P2 → Join G2 P2 H2 → I (i + 1) (ws ++ [v]) G2 → R v H2) → (∀ G2 P2 H2, Ex G' G2 → Pp P2 → Join G2 P2 H2 → I (i + 1) ws G2 → R0 H2) →
      g x (wipe σ vs) H' fun σ2 H2 => wipe σ2 vs = wipe σ vs ∧ tt σ2 H2 fun b H3 => if b = true then te σ2 H3 R else R0 H3)
    (hq : ∀ ws G' P' H', Ex G G' → G' D = some (.lst ws) → I xs.length ws G' → Pp P' → Join G' P' H' → Qd H') :
    ∃ W : Nat → Nat → Hp → Prop, (∃ m, W 0 m (upd H D (.lst []))) ∧ ∀ i m H, W i m H →
      ((Itl K a).stop i H ∧ Qd H) ∨ ((Itl K a).go i H ∧ ∃ Nx : Hp → Prop, (∀ H', Nx H' → ∃ m', m' < m ∧ W (i + 1) m' H') ∧ ∀ x H', (Itl K a).yld i H x H' → g x (wipe σ vs) H' fun σ2 H2 => wipe σ2 vs = wipe σ vs ∧ tt σ2 H2 fun b H3 =>
        if b = true then te σ2 H3 fun y H4 => ∃ acc, H4 D = some (.lst acc) ∧ acc.length < sizeLine ∧ Nx (upd H4 D (.lst (acc ++ [y]))) else Nx H3) := by
  have gD : G D = none := J.ng hD
  refine lc_list (K := K) (a := a) (xs := xs) (Qd := Qd) (fun i H' => ∃ (ws : List V) (G' P' : Hp), Ex G G' ∧ G' D = some (.lst ws) ∧ I i ws G' ∧ Pp P' ∧ Join G' P' H') ⟨[], _, P, Ex.new gD, upd_same, h0, hP, J.newG hD⟩ (fun i H' _ ⟨ws, G', P', e, _, _, _, j⟩ => (e.trans j.exG).l hS) (fun i x H' hi ⟨ws, G', P', e, hd, hi2, hp, j⟩ => ?_) (fun H' ⟨ws, G', P', e, hd, hi2, hp, j⟩ => hq ws G' P' H' e hd hi2 hp j)
  refine hs i x ws G' P' H' _ _ hi e hi2 hp j (fun v G2 P2 H2 e2 hp2 j2 hi3 => ⟨ws, j2.g _ _ (e2 _ _ hd), Nat.lt_of_le_of_lt (hz _ _ _ hi2) (by decide), ws ++ [v], _, P2, ?_, upd_same, hI _ _ _ _ _ (e2 _ _ hd) hi3, hp2, j2.setG (j2.gp (e2 _ _ hd))⟩) (fun G2 P2 H2 e2 hp2 j2 hi3 => ⟨ws, G2, P2, e.trans e2, e2 _ _ hd, hi3, hp2, j2⟩)
  exact (e.trans e2).mut gD
theorem lcG_tup {K : PySem.W.Frag} {a : Addr} {xs : List V} {g : TG} {tt : TT} {te : TE} {vs : List Nat} {σ : L2.St} {G P H : Hp} {Qd : Hp → Prop} {D : Addr} (Pp : Hp → Prop) (I : Nat → List V → Hp → Prop) (hD : H D = none) (J : Join G P H) (hP : Pp P)
    (hS : SqT K G a xs) (h0 : I 0 [] (upd G D (.lst []))) (hI : ∀ i ws G2 us ts, G2 D = some (.lst us) → I i ws G2 → I i ws (upd G2 D (.lst ts))) (hz : ∀ i ws G2, I i ws G2 → ws.length ≤ 1000000)
    (hs : ∀ (i : Nat) (x : V) (ws : List V) (G' P' H' : Hp) (R : VK) (R0 : Hp → Prop), xs[i]? = some x → Ex G G' → I i ws G' → Pp P' → Join G' P' H' →
      (∀ v G2 P2 H2, Ex G' G2 → Pp P2 → Join G2 P2 H2 → I (i + 1) (ws ++ [v]) G2 → R v H2) → (∀ G2 P2 H2, Ex G' G2 → Pp P2 → Join G2 P2 H2 → I (i + 1) ws G2 → R0 H2) →
      g x (wipe σ vs) H' fun σ2 H2 => wipe σ2 vs = wipe σ vs ∧ tt σ2 H2 fun b H3 => if b = true then te σ2 H3 R else R0 H3)
    (hq : ∀ ws G' P' H', Ex G G' → G' D = some (.lst ws) → I xs.length ws G' → Pp P' → Join G' P' H' → Qd H') :
    ∃ W : Nat → Nat → Hp → Prop, (∃ m, W 0 m (upd H D (.lst []))) ∧ ∀ i m H, W i m H →
      ((Itt K a).stop i H ∧ Qd H) ∨ ((Itt K a).go i H ∧ ∃ Nx : Hp → Prop, (∀ H', Nx H' → ∃ m', m' < m ∧ W (i + 1) m' H') ∧ ∀ x H', (Itt K a).yld i H x H' → g x (wipe σ vs) H' fun σ2 H2 => wipe σ2 vs = wipe σ vs ∧ tt σ2 H2 fun b H3 =>
        if b = true then te σ2 H3 fun y H4 => ∃ acc, H4 D = some (.lst acc) ∧ acc.length < sizeLine ∧ Nx (upd H4 D (.lst (acc ++ [y]))) else Nx H3) := by
  have gD : G D = none := J.ng hD
  refine lc_tup (K := K) (a := a) (xs := xs) (Qd := Qd) (fun i H' => ∃ (ws : List V) (G' P' : Hp), Ex G G' ∧ G' D = some (.lst ws) ∧ I i ws G' ∧ Pp P' ∧ Join G' P' H') ⟨[], _, P, Ex.new gD, upd_same, h0, hP, J.newG hD⟩ (fun i H' _ ⟨ws, G', P', e, _, _, _, j⟩ => (e.trans j.exG).t hS) (fun i x H' hi ⟨ws, G', P', e, hd, hi2, hp, j⟩ => ?_) (fun H' ⟨ws, G', P', e, hd, hi2, hp, j⟩ => hq ws G' P' H' e hd hi2 hp j)
  refine hs i x ws G' P' H' _ _ hi e hi2 hp j (fun v G2 P2 H2 e2 hp2 j2 hi3 => ⟨ws, j2.g _ _ (e2 _ _ hd), Nat.lt_of_le_of_lt (hz _ _ _ hi2) (by decide), ws ++ [v], _, P2, ?_, upd_same, hI _ _ _ _ _ (e2 _ _ hd) hi3, hp2, j2.setG (j2.gp (e2 _ _ hd))⟩) (fun G2 P2 H2 e2 hp2 j2 hi3 => ⟨ws, G2, P2, e.trans e2, e2 _ _ hd, hi3, hp2, j2⟩)
  exact (e.trans e2).mut gD
theorem lcG_range {lo : Int} {n : Nat} {g : TG} {tt : TT} {te : TE} {vs : List Nat} {σ : L2.St} {G P H : Hp} {Qd : Hp → Prop} {D : Addr} (Pp : Hp → Prop) (I : Nat → List V → Hp → Prop) (hD : H D = none) (J : Join G P H) (hP : Pp P)
    (h0 : I 0 [] (upd G D (.lst []))) (hI : ∀ i ws G2 us ts, G2 D = some (.lst us) → I i ws G2 → I i ws (upd G2 D (.lst ts))) (hz : ∀ i ws G2, I i ws G2 → ws.length ≤ 1000000)
    (hs : ∀ (i : Nat) (ws : List V) (G' P' H' : Hp) (R : VK) (R0 : Hp → Prop), i < n → Ex G G' → I i ws G' → Pp P' → Join G' P' H' →
      (∀ v G2 P2 H2, Ex G' G2 → Pp P2 → Join G2 P2 H2 → I (i + 1) (ws ++ [v]) G2 → R v H2) → (∀ G2 P2 H2, Ex G' G2 → Pp P2 → Join G2 P2 H2 → I (i + 1) ws G2 → R0 H2) →
      g (.int (lo + i)) (wipe σ vs) H' fun σ2 H2 => wipe σ2 vs = wipe σ vs ∧ tt σ2 H2 fun b H3 => if b = true then te σ2 H3 R else R0 H3)
    (hq : ∀ ws G' P' H', Ex G G' → G' D = some (.lst ws) → I n ws G' → Pp P' → Join G' P' H' → Qd H') :
    ∃ W : Nat → Nat → Hp → Prop, (∃ m, W 0 m (upd H D (.lst []))) ∧ ∀ i m H, W i m H →
      ((Itr lo n).stop i H ∧ Qd H) ∨ ((Itr lo n).go i H ∧ ∃ Nx : Hp → Prop, (∀ H', Nx H' → ∃ m', m' < m ∧ W (i + 1) m' H') ∧ ∀ x H', (Itr lo n).yld i H x H' → g x (wipe σ vs) H' fun σ2 H2 => wipe σ2 vs = wipe σ vs ∧ tt σ2 H2 fun b H3 =>
        if b = true then te σ2 H3 fun y H4 => ∃ acc, H4 D = some (.lst acc) ∧ acc.length < sizeLine ∧ Nx (upd H4 D (.lst (acc ++ [y]))) else Nx H3) := by
  have gD : G D = none := J.ng hD
  refine lc_range (lo := lo) (n := n) (Qd := Qd) (fun i H' => ∃ (ws : List V) (G' P' : Hp), Ex G G' ∧ G' D = some (.lst ws) ∧ I i ws G' ∧ Pp P' ∧ Join G' P' H') ⟨[], _, P, Ex.new gD, upd_same, h0, hP, J.newG hD⟩ (fun i H' hi ⟨ws, G', P', e, hd, hi2, hp, j⟩ => ?_) (fun H' ⟨ws, G', P', e, hd, hi2, hp, j⟩ => hq ws G' P' H' e hd hi2 hp j)
  refine hs i ws G' P' H' _ _ hi e hi2 hp j (fun v G2 P2 H2 e2 hp2 j2 hi3 => ⟨ws, j2.g _ _ (e2 _ _ hd), Nat.lt_of_le_of_lt (hz _ _ _ hi2) (by decide), ws ++ [v], _, P2, ?_, upd_same, hI _ _ _ _ _ (e2 _ _ hd) hi3, hp2, j2.setG (j2.gp (e2 _ _ hd))⟩) (fun G2 P2 H2 e2 hp2 j2 hi3 => ⟨ws, G2, P2, e.trans e2, e2 _ _ hd, hi3, hp2, j2⟩)
  exact (e.trans e2).mut gD
end Lv

/-! rules whose reading names a fixed written part (within a comprehension's block) -/
namespace Lv
open PySem PySem.Spec PyProof.Rows L2
section
variable {X : Cx} {K : PySem.W.Frag}
theorem ix_tupK (h : X.K = K) : IxR X (rIxT K) := h ▸ ix_tup
theorem ix_listK (h : X.K = K) : IxR X (rIxL K) := h ▸ ix_list
theorem sl_listK (h : X.K = K) : SlR X (rSlL K) := h ▸ sl_list
theorem sl_tupAK (h : X.K = K) : SlR X (rSlA K) := h ▸ sl_tupA
theorem op_inK (h : X.K = K) : OpR X (compareOp .In) (rIn K false) := h ▸ op_in_seq
theorem op_notInK (h : X.K = K) : OpR X (compareOp .NotIn) (rIn K true) := h ▸ op_notIn_seq
theorem op_catAK (h : X.K = K) : OpR X (binaryOp .Add) (rCatA K) := h ▸ op_catA
theorem op_eqDK (h : X.K = K) (hu : X.A.units + 64 < cLine) : OpR X (compareOp .Eq) (rEqD K) := h ▸ op_eqD hu
theorem op_neDK (h : X.K = K) (hu : X.A.units + 64 < cLine) : OpR X (compareOp .NotEq) (rNeD K) := h ▸ op_neD hu
def rLenS (K : PySem.W.Frag) : List V → Hp → VK → Prop := fun xs H Q => ∃ p ys, xs = [.ref p] ∧ (SqL K H p ys ∨ SqT K H p ys) ∧ Q (.int ys.length) H
theorem call_lenK (h : X.K = K) : CallR X (.builtin "len") (rLenS K) := h ▸ call_len_seq
theorem cr_sumK (h : X.K = K) (hc : X.calm = true) : CallR X (.builtin "sum") (rSum K) := h ▸ cr_sum hc
theorem cr_maxK (h : X.K = K) (hc : X.calm = true) : CallR X (.builtin "max") (rMax K) := h ▸ cr_max hc
theorem cr_minK (h : X.K = K) (hc : X.calm = true) : CallR X (.builtin "min") (rMin K) := h ▸ cr_min hc
theorem call_isiK (h : X.K = K) : CallR X (.builtin "isinstance") (rIsi K) := h ▸ call_isi
theorem pe_fldK {e : Expr} {f : Str} {pos : Pos} {ta : TE} (h : X.K = K) (he : PE X e ta) (hb : attributeBase e f X.env (eval e X.env) = eval e X.env) : PE X (.Attribute e f pos) (tFld K ta f) := h ▸ pe_fld he hb
theorem pi_listK {tg e : Expr} {tl : TE} (h : X.K = K) (he : PE X e tl) : PI X tg e (iList K tl) := h ▸ pi_list he
theorem pi_tupK {tg e : Expr} {tl : TE} (h : X.K = K) (he : PE X e tl) : PI X tg e (iTup K tl) := h ▸ pi_tup he
def rTupOf (K : PySem.W.Frag) : List V → Hp → VK → Prop := fun xs H Q => ∃ p ys, xs = [.ref p] ∧ ((SqL K H p ys ∧ ∀ l, H l = none → Q (.ref l) (upd H l (.tup ys))) ∨ (SqT K H p ys ∧ Q (.ref p) H))
theorem call_tupleK (h : X.K = K) : CallR X (.type "tuple") (rTupOf K) := h ▸ call_tuple_of
end
/-- t[:m], by what it leaves -/
theorem slA_take {K : PySem.W.Frag} {G P H : Hp} {r : Addr} {xs : List V} {m : Nat} {Q : VK} (j : Join G P H) (hr : G r = some (.tup xs)) (q : ∀ t G' H', Ex G G' → Join G' P H' → G' t = some (.tup (xs.take m)) → Q (.ref t) H') : rSlA K (.ref r) none (some (m : Int)) H Q := by
  refine ⟨r, xs, rfl, sqT (j.g _ _ hr), fun h => ?_, fun _ p hp => ?_⟩
  · have h2 := h.2
    rw [HT.sIx_nat] at h2
    refine q r G H (Ex.refl _) j ?_
    rw [List.take_of_length_le (by omega)]; exact hr
  · refine q p _ _ (Ex.new (j.ng hp)) (j.newG hp) ?_
    have e : cutV xs none (some (m : Int)) = xs.take m := by
      unfold cutV
      rw [HT.sIx_nat, HT.sIx_none, List.drop_zero, Nat.sub_zero]
      by_cases hm : m ≤ xs.length
      · rw [Nat.min_eq_left hm]
      · rw [Nat.min_eq_right (by omega), List.take_length, List.take_of_length_le (by omega)]
    rw [e]; exact upd_same
/-- t + u, by what it leaves -/
theorem catA_out {K : PySem.W.Frag} {G P H : Hp} {a b : Addr} {xs ys : List V} {Q : VK} (j : Join G P H) (ha : G a = some (.tup xs)) (hb : G b = some (.tup ys)) (hz : xs.length + ys.length < 100000) (q : ∀ t G' H', Ex G G' → Join G' P H' → G' t = some (.tup (xs ++ ys)) → Q (.ref t) H') : rCatA K (.ref a) (.ref b) H Q := by
  refine ⟨a, b, xs, ys, rfl, rfl, sqT (j.g _ _ ha), sqT (j.g _ _ hb), Nat.le_of_lt (szlt hz), fun e => ?_, fun _ e => ?_, fun _ _ p hp => ?_⟩
  · subst e
    exact q b G H (Ex.refl _) j hb
  · subst e
    refine q a G H (Ex.refl _) j ?_
    rw [List.append_nil]; exact ha
  · exact q p _ _ (Ex.new (j.ng hp)) (j.newG hp) upd_same
/-- xs + ys of lists, by what it leaves -/
theorem cat_out {G P H : Hp} {a b : Addr} {xs ys : List V} {Q : VK} (j : Join G P H) (ha : G a = some (.lst xs)) (hb : G b = some (.lst ys)) (hz : xs.length + ys.length < 100000) (q : ∀ t G' H', Ex G G' → Join G' P H' → H t = none → G' t = some (.lst (xs ++ ys)) → Q (.ref t) H') : rCat (.ref a) (.ref b) H Q :=
  ⟨a, b, xs, ys, rfl, rfl, j.g _ _ ha, j.g _ _ hb, Nat.le_of_lt (szlt hz), fun p hp => q p _ _ (Ex.new (j.ng hp)) (j.newG hp) hp upd_same⟩
/-! ### lists of things that stand for others -/
def RelL {α : Type} (R : Hp → V → α → Prop) (G : Hp) (vs : List V) (as : List α) : Prop := vs.length = as.length ∧ ∀ (i : Nat) (a : α), as[i]? = some a → ∃ v, vs[i]? = some v ∧ R G v a
section
variable {α : Type} {R : Hp → V → α → Prop} {G G' : Hp} {vs ws : List V} {as bs : List α}
theorem RelL.mono (hR : ∀ v a, R G v a → R G' v a) (h : RelL R G vs as) : RelL R G' vs as := ⟨h.1, fun i a ha => by
  obtain ⟨v, h1, h2⟩ := h.2 i a ha
  exact ⟨v, h1, hR _ _ h2⟩⟩
theorem RelL.get (h : RelL R G vs as) {i : Nat} {v : V} (hv : vs[i]? = some v) : ∃ a, as[i]? = some a ∧ R G v a := by
  have hi : i < as.length := by rw [← h.1]; exact (List.getElem?_eq_some_iff.mp hv).1
  obtain ⟨v', h1, h2⟩ := h.2 i as[i] (List.getElem?_eq_getElem hi)
  rw [hv] at h1
  rw [← Option.some.inj h1] at h2
  exact ⟨as[i], List.getElem?_eq_getElem hi, h2⟩
theorem RelL.nil : RelL R G [] [] := ⟨rfl, fun i e he => by simp at he⟩
theorem RelL.app (h : RelL R G vs as) (h' : RelL R G ws bs) : RelL R G (vs ++ ws) (as ++ bs) := ⟨by simp [h.1, h'.1], fun i a ha => by
  by_cases hi : i < as.length
  · rw [List.getElem?_append_left hi] at ha
    obtain ⟨v, h1, h2⟩ := h.2 i a ha
    exact ⟨v, by rw [List.getElem?_append_left (by rw [h.1]; exact hi)]; exact h1, h2⟩
  · rw [List.getElem?_append_right (by omega)] at ha
    obtain ⟨v, h1, h2⟩ := h'.2 _ a ha
    exact ⟨v, by rw [List.getElem?_append_right (by rw [h.1]; omega), h.1]; exact h1, h2⟩⟩
theorem RelL.one {v : V} {a : α} (h : R G v a) : RelL R G [v] [a] := ⟨rfl, fun i b hb => by
  cases i with
  | zero => exact ⟨v, rfl, by rw [← Option.some.inj hb]; exact h⟩
  | succ n => simp at hb⟩
theorem RelL.add {v : V} {a : α} (h : RelL R G vs as) (h' : R G v a) : RelL R G (vs ++ [v]) (as ++ [a]) := h.app (.one h')
theorem RelL.take (h : RelL R G vs as) (m : Nat) : RelL R G (vs.take m) (as.take m) := ⟨by simp [h.1], fun i a ha => by
  have h1 : i < m := by
    have := (List.getElem?_eq_some_iff.mp ha).1
    rw [List.length_take] at this; omega
  rw [List.getElem?_take, if_pos h1] at ha
  obtain ⟨v, h2, h3⟩ := h.2 i a ha
  exact ⟨v, by rw [List.getElem?_take, if_pos h1]; exact h2, h3⟩⟩
end
/-- a run and the standing to which it leads -/
def RunAt (G : Hp) (v : V) (p : List Nat × Int) : Prop := ∃ t r : Addr, v = .ref t ∧ G t = some (.tup [.ref r, .int p.2]) ∧ G r = some (.tup (rV p.1))
theorem RunAt.mono {G G' : Hp} (e : Ex G G') : ∀ v p, RunAt G v p → RunAt G' v p := fun _ _ ⟨t, r, h1, h2, h3⟩ => ⟨t, r, h1, e _ _ h2, e _ _ h3⟩
theorem RunAt.upd {G : Hp} {L : Addr} {xs : List V} {o : HO} (hL : G L = some (.lst xs)) : ∀ v p, RunAt G v p → RunAt (L2.upd G L o) v p := fun _ _ ⟨t, r, h1, h2, h3⟩ => ⟨t, r, h1, by rw [upd_ne (ne_of h2 hL (by intro z; cases z))]; exact h2, by rw [upd_ne (ne_of h3 hL (by intro z; cases z))]; exact h3⟩
def stepR (es : List Ev) (p : List Nat × Int) : List (List Nat × Int) := (outs 0 es p.2.toNat).map fun v => (p.1 ++ [v.toNat], ((es[v.toNat]?).map Ev.a).getD 0)
def runsL (es : List Ev) : Nat → List (List Nat × Int)
  | 0 => [([], 0)]
  | n + 1 => (runsL es n).flatMap (stepR es)
theorem stepR_len (es : List Ev) (p : List Nat × Int) : (stepR es p).length ≤ es.length := by
  unfold stepR
  rw [List.length_map]
  exact outs_len _ _ _
theorem flat_len {α β : Type} {f : α → List β} {k : Nat} (hk : ∀ a, (f a).length ≤ k) : ∀ l : List α, (l.flatMap f).length ≤ k * l.length
  | [] => by simp
  | a :: r => by
    have ih := flat_len hk r
    have h := hk a
    rw [List.flatMap_cons, List.length_append, List.length_cons, Nat.mul_succ]
    omega
theorem runsL_len (es : List Ev) : ∀ n, (runsL es n).length ≤ es.length ^ n
  | 0 => by simp [runsL]
  | n + 1 => by
    have ih := runsL_len es n
    have h := flat_len (stepR_len es) (runsL es n)
    show ((runsL es n).flatMap (stepR es)).length ≤ _
    rw [Nat.pow_succ, Nat.mul_comm]
    exact Nat.le_trans h (Nat.mul_le_mul_left _ ih)
theorem flat_more {α β : Type} {f : α → List β} {l : List α} {i : Nat} {a : α} (h : l[i]? = some a) : (l.take (i + 1)).flatMap f = (l.take i).flatMap f ++ f a := by
  rw [take_more h, List.flatMap_append]; simp
/-- x if c else y, c a flag that is kept -/
theorem tIf_c {i : Nat} {x y : V} {σ : L2.St} {H : Hp} {Q : VK} {b : Bool} (hv : σ[i]? = some (some (.bl b))) (h : Q (if b then x else y) H) : tIf (tB (tVar i)) (tC x) (tC y) σ H Q := by
  refine ⟨_, hv, b, rfl, ?_⟩
  cases b
  · exact iteF h
  · exact iteT h
/-- runs of at most k events -/
def RunV (es : List Ev) (k : Nat) (G : Hp) (v : V) : Prop := ∃ (r : Addr) (rs : List Nat), v = .ref r ∧ G r = some (.tup (rV rs)) ∧ rs.length ≤ k ∧ IsRun es rs
def RunsV (es : List Ev) (k : Nat) (G : Hp) (us : List V) : Prop := ∀ v ∈ us, RunV es k G v
theorem RunsV.mono {es : List Ev} {k : Nat} {G G' : Hp} {us : List V} (e : Ex G G') (h : RunsV es k G us) : RunsV es k G' us := fun v hv => by
  obtain ⟨r, rs, h1, h2, h3⟩ := h v hv
  exact ⟨r, rs, h1, e _ _ h2, h3⟩
theorem RunsV.upd {es : List Ev} {k : Nat} {G : Hp} {us xs : List V} {L : Addr} {o : HO} (hL : G L = some (.lst xs)) (h : RunsV es k G us) : RunsV es k (L2.upd G L o) us := fun v hv => by
  obtain ⟨r, rs, h1, h2, h3⟩ := h v hv
  exact ⟨r, rs, h1, by rw [upd_ne (ne_of h2 hL (by intro z; cases z))]; exact h2, h3⟩
theorem RunsV.nil {es : List Ev} {k : Nat} {G : Hp} : RunsV es k G [] := fun v hv => by cases hv
theorem RunsV.app {es : List Ev} {k : Nat} {G : Hp} {us ws : List V} (h : RunsV es k G us) (h' : RunsV es k G ws) : RunsV es k G (us ++ ws) := fun v hv => (List.mem_append.mp hv).elim (h v) (h' v)
theorem RunsV.add {es : List Ev} {k : Nat} {G : Hp} {us : List V} {v : V} (h : RunsV es k G us) (h' : RunV es k G v) : RunsV es k G (us ++ [v]) := h.app fun x hx => by rw [List.mem_singleton.mp hx]; exact h'
theorem RunsV.take {es : List Ev} {k : Nat} {G : Hp} {us : List V} (m : Nat) (h : RunsV es k G us) : RunsV es k G (us.take m) := fun v hv => h v (List.mem_of_mem_take hv)
/-- xs[:m] of a list, by what it leaves -/
theorem slL_take {K : PySem.W.Frag} {G P H : Hp} {r : Addr} {xs : List V} {m : Nat} {Q : VK} (j : Join G P H) (hr : G r = some (.lst xs)) (q : ∀ t G' H', Ex G G' → Join G' P H' → H t = none → G' t = some (.lst (xs.take m)) → Q (.ref t) H') : rSlL K (.ref r) none (some (m : Int)) H Q := by
  refine ⟨r, xs, rfl, sqL (j.g _ _ hr), fun p hp => q p _ _ (Ex.new (j.ng hp)) (j.newG hp) hp ?_⟩
  rw [upd_same]
  congr 2
  unfold cutV
  rw [HT.sIx_nat, HT.sIx_none, List.drop_zero, Nat.sub_zero]
  by_cases hm : m ≤ xs.length
  · rw [Nat.min_eq_left hm]
  · rw [Nat.min_eq_right (by omega), List.take_length, List.take_of_length_le (by omega)]
theorem TupL.monoJ {α : Type} {f : α → List V} {G P H : Hp} {vs : List V} {as : List α} (j : Join G P H) (h : TupL f G vs as) : TupL f H vs as := h.mono j.exG
end Lv

/-! == and != by an own __eq__ -/
namespace Lv
open PySem PySem.Spec PyProof.Rows PySem.SeqAt L2
section
variable {prog : Program} {w : World} {A : Around} {E : Value → Shared → Prop} {s : Shared} {K : PySem.W.Frag} {x C f : Addr} {ox : Obj} {od : Option Obj} {b tb : Value}
theorem ifBound_B {M : Model} {args : List Value} {name : Str} {id : String} {Q : Option Value → Shared → Prop} (sl : Slot "object" name id) (X : K.In s.heap) (I : PySem.W.InstAt s.heap x ox C od) (hs : PySem.W.findIn K (.ref C) name = some (some (.builtin id)))
    (h : wpAny M A (call (.builtin id) (.ref x :: args)) (fun v => Q (some v)) E s) : wpAny M A (callSpecialIfBound? (.ref x) name args) Q E s := by
  simp only [callSpecialIfBound?, bindSpecialIfBound?]
  refine wpAny_holding (wpAny_bind (wpAny_bind (wpAny_bind (I.type.here ((PySem.W.looks_findIn X hs).here ?_)))))
  refine wpAny_bind (wpAny_askSetting (wpAny_ite ?_))
  have fin : wpAny M A (call (.builtin id) ([.ref x] ++ args) >>= fun v => pure (some v)) Q E s := wpAny_bind (wpAny_mono h (fun v s' h' => wpAny_pure h') fun _ _ h' => h')
  split
  · exact wpAny_bind (wpAny_of_eq (sl.bind _) (wpAny_pure (by exact fin)))
  · exact wpAny_tryCatch (wpAny_bind (wpAny_of_eq (sl.bind _) (wpAny_pure (by exact fin))))
theorem objNe_entry (hu : A.units < cLine) (X : K.In s.heap) (I : PySem.W.InstAt s.heap x ox C od) (hs : PySem.W.findIn K (.ref C) "__eq__" = some (some (.ref f))) (hf : PySem.W.isFn K (.ref f) = true) {Q : Fin → Shared → Prop}
    (hcall : wpAny (model prog w) A (call (.ref f) [.ref x, b]) (fun v s' => ∃ c, v = .bool c ∧ Q (.done (.ret (.bool (!c)))) s') E s) :
    wpAny (model prog w) A (Builtin.«object.__ne__» ⟨[.ref x, b], []⟩) Q E s := by
  unfold Builtin.«object.__ne__»
  repeat (first
    | with_reducible refine wpAny_cRoomFor hu ?_
    | (refine wpAny_bind (m := callSpecialIfBound? (.ref x) (Str.ofString "__eq__") [b])
        (PySem.W.ifBound_K X I hs hf (wpAny_mono hcall (fun r s' hr => by
          obtain ⟨c, rfl, hq⟩ := hr
          repeat (first | exact hq | exact wpAny_pure hq | exact wpAny_truthy_bool hq | (refine wpAny_bind (m := truthy (.bool _)) (wpAny_truthy_bool ?_)) | wp_step)) fun _ _ e => e)))
    | wp_step)
theorem ne_own {Q : Value → Shared → Prop} (hu : A.units + 1 < cLine) (X : K.In s.heap) (I : PySem.W.InstAt s.heap x ox C od) (hb : PySem.W.Looks (model prog w) s.heap (typeOf b) tb) (hn : PySem.W.notFirst K C tb = true)
    (hm : PySem.W.mroIn K C (.type "object") = some true) (hne : PySem.W.findIn K (.ref C) "__ne__" = some (some (.builtin "object.__ne__"))) (hs : PySem.W.findIn K (.ref C) "__eq__" = some (some (.ref f))) (hf : PySem.W.isFn K (.ref f) = true)
    (h : wpAny (model prog w) A.in1 (call (.ref f) [.ref x, b]) (fun v s' => ∃ c, v = .bool c ∧ Q (.bool (!c)) s') E s) : wpAny (model prog w) A (richCompare .NotEq (.ref x) b) Q E s := by
  have one : wpAny (model prog w) A (tryCompare (.ref x) "__ne__" b) (fun r s' => ∃ v, r = some v ∧ Q v s') E s := by
    unfold tryCompare
    refine wpAny_bind (ifBound_B F.cmp_object.ne X I hne ?_)
    refine wpAny_call (codeAny_call_builtin F.cmp_object.ne.plain F.cmpEntry_ne (PySem.W.check_slot F.cmpKind_ne F.cmpSplit_ne (I.type.andThen (PySem.W.looks_mroIn X hm)) (F.cmpArgs_ne _ _) (objNe_entry (A := A.in1) (Nat.lt_of_le_of_lt (by first | exact Nat.le_refl _ | (simp [Around.in1, Around.units])) hu) X I hs hf (wpAny_mono h (fun v s' hv => ?_) fun _ _ e => e))))
    obtain ⟨c, rfl, hq⟩ := hv
    exact ⟨c, rfl, wpAny_pure ⟨_, rfl, hq⟩⟩
  unfold richCompare
  simp only [oneThing_ref]
  refine wpAny_holding (wpAny_bind (wpAny_cRoomFor (Nat.lt_of_succ_lt hu) ?_))
  rw [cmpInfo_NotEq]
  dsimp only
  refine wpAny_bind (I.type.here (wpAny_bind (hb.here ?_)))
  split
  · rename_i q
    have e : PySem.W.subIn K tb (.ref C) = some false := by
      rcases Bool.or_eq_true_iff.mp hn with e | e
      · rw [beq_iff_eq.mp e] at q; simp at q
      · exact beq_iff_eq.mp e
    refine wpAny_bind ((PySem.W.looks_subIn X e).here ?_)
    simp only [Bool.false_eq_true, if_false]
    refine wpAny_bind (wpAny_mono one (fun r s' z => ?_) fun _ _ e => e)
    obtain ⟨v, rfl, hq⟩ := z
    exact wpAny_pure hq
  · refine wpAny_bind (wpAny_pure ?_)
    simp only [Bool.false_eq_true, if_false]
    refine wpAny_bind (wpAny_mono one (fun r s' z => ?_) fun _ _ e => e)
    obtain ⟨v, rfl, hq⟩ := z
    exact wpAny_pure hq
end
/-- x == y, x != y by the own __eq__ of the class at C -/
def rEqOwn (K : PySem.W.Frag) (C : Addr) (sp : Sp) (E : XK) : R2 := fun x y H Q => ∃ a dx fs t, x = .ref a ∧ H a = some (.ins C dx fs) ∧ TyX K H y t ∧ PySem.W.notFirst K C t = true ∧ sp [x, y] H (fun v H' => ∃ c, v = .bl c ∧ Q (.bl c) H') E
def rNeOwn (K : PySem.W.Frag) (C : Addr) (sp : Sp) (E : XK) : R2 := fun x y H Q => ∃ a dx fs t, x = .ref a ∧ H a = some (.ins C dx fs) ∧ TyX K H y t ∧ PySem.W.notFirst K C t = true ∧ sp [x, y] H (fun v H' => ∃ c, v = .bl c ∧ Q (.bl (!c)) H') E
section
variable {X : Cx} {CX : CXT} {C f : Addr} {fd : FuncData} {ps : List Str} {sp : Sp} {n : Nat} {E : XK}
theorem callOwn (F : FnOk X.prog X.w X.K X.mg X.base CX n f fd ps sp) (hb : Binds X.K fd ps []) (hx : Passes CX X E) {A : Around} (hr : Room n A) (hfr : A.frames = X.A.frames) {pins : List (Addr × Obj)} {s : Shared} {σ : L2.St} {H : Hp} {x y : V} {u v : Value} {R : VK} {Q : Value → Shared → Prop}
    (I : Inv X pins σ H s) (rx : RelV x u) (ry : RelV y v) (h : sp [x, y] H R E) (hq : ∀ z w H' s', Inv X pins σ H' s' → RelV z w → R z H' → Q w s') : wpAny (model X.prog X.w) A (call (.ref f) [u, v]) Q X.xe s := by
  have e0 : Env0 X.prog X.w X.K X.mg X.base A X.stack s H := by
    have e := I.env0
    exact ⟨by rw [hfr]; exact e.frames, e.mod, e.bs, e.bsz, e.funs, e.frf, e.hok, e.bare⟩
  have hl := F.len _ _ _ _ h
  have r2 : Vals [x, y] [u, v] := .cons rx (.cons ry .nil)
  refine wpAny_call (codeAny_mono (F.run A X.stack s H ⟨[u, v], []⟩ [u, v] [x, y] _ E hr e0 (by
    have := hb s [u, v] I.kIn (by simpa using hl)
    simpa using this) r2 h) fun r s' hq2 => ?_)
  cases r with
  | error e => exact hx pins σ H s e s' I hq2
  | ok fl =>
    cases fl with
    | ret w =>
      obtain ⟨z, H', I', rz, ez⟩ := I.after hq2
      exact hq z w H' s' I' rz ez
    | next => exact False.elim hq2
    | brk => exact False.elim hq2
    | cont => exact False.elim hq2
theorem op_eqOwn (F : FnOk X.prog X.w X.K X.mg X.base CX n f fd ps sp) (hs : PySem.W.findIn X.K (.ref C) "__eq__" = some (some (.ref f))) (hf : PySem.W.isFn X.K (.ref f) = true) (hb : Binds X.K fd ps []) (hx : Passes CX X E) (hr : Room n X.A) : OpR X (compareOp .Eq) (rEqOwn X.K C sp E) := by
  intro pins s σ H x y v u Q I rx ry h
  obtain ⟨a, dx, fs, t, rfl, ha, ty, hn, h⟩ := h
  cases (show v = Value.ref a from rx)
  obtain ⟨mA, J, _⟩ := ins_get I.hok ha
  obtain ⟨od, J, _⟩ := J.look
  obtain ⟨m, hF⟩ := I.fr
  obtain ⟨P, Z, p, _⟩ := kit_of I ry ty
  show wpAny (model X.prog X.w) X.A (richCompare .Eq (.ref a) u) (EP X pins σ Q) X.xe s
  refine PySem.W.cmp_K (op := .Eq) hr.units0 hF I.ok.mod.kin J (Z.ty _ _ I.kIn p) hn hs hf ?_
  refine callOwn F hb hx hr rfl I rx ry h fun z w H' s' I' rz hz => ?_
  obtain ⟨c, rfl, q⟩ := hz
  cases (show w = Value.bool c from rz)
  exact ⟨.bl c, H', I', rfl, q⟩
theorem op_neOwn (F : FnOk X.prog X.w X.K X.mg X.base CX n f fd ps sp) (hs : PySem.W.findIn X.K (.ref C) "__eq__" = some (some (.ref f))) (hne : PySem.W.findIn X.K (.ref C) "__ne__" = some (some (.builtin "object.__ne__"))) (hm : PySem.W.mroIn X.K C (.type "object") = some true) (hf : PySem.W.isFn X.K (.ref f) = true) (hb : Binds X.K fd ps []) (hx : Passes CX X E) (hr : Room (n + 1) X.A) : OpR X (compareOp .NotEq) (rNeOwn X.K C sp E) := by
  intro pins s σ H x y v u Q I rx ry h
  obtain ⟨a, dx, fs, t, rfl, ha, ty, hn, h⟩ := h
  cases (show v = Value.ref a from rx)
  obtain ⟨mA, J, _⟩ := ins_get I.hok ha
  obtain ⟨od, J, _⟩ := J.look
  obtain ⟨P, Z, p, _⟩ := kit_of I ry ty
  show wpAny (model X.prog X.w) X.A (richCompare .NotEq (.ref a) u) (EP X pins σ Q) X.xe s
  refine ne_own hr.in1.units0 I.kIn J (Z.ty _ _ I.kIn p) hn hm hne hs hf ?_
  refine callOwn F hb hx hr.in1 rfl I rx ry h fun z w H' s' I' rz hz => ?_
  obtain ⟨c, rfl, q⟩ := hz
  cases (show w = Value.bool c from rz)
  exact ⟨c, rfl, .bl (!c), H', I', rfl, q⟩
end
end Lv

/-! own classes with an own __eq__; machines by their class -/
namespace Lv
open PySem PySem.Spec PyProof.Rows L2
structure OwnC (K : PySem.W.Frag) (C M : Addr) : Prop where
  ha : PySem.W.findIn K (.ref C) "__class__" = some (some (.builtin "object.__class__"))
  hn : PySem.W.specialIn K (.builtin "object.__class__") "__get__" = some (some (.builtin "getset_descriptor.__get__"))
  htk : PySem.W.takesIn K (.builtin "object.__class__") = some true
  hm : PySem.W.mroIn K C (.type "object") = some true
  kit : PySem.W.kitOne K (.ref C) (.ref M) = some true
def ownB (K : PySem.W.Frag) (c m : Str) : Bool :=
  He.eqO (PySem.W.findIn K (.ref (He.ga K c)) "__class__") (some (some (.builtin "object.__class__"))) && (He.eqO (PySem.W.specialIn K (.builtin "object.__class__") "__get__") (some (some (.builtin "getset_descriptor.__get__"))) &&
    (decide (PySem.W.takesIn K (.builtin "object.__class__") = some true) && (decide (PySem.W.mroIn K (He.ga K c) (.type "object") = some true) && decide (PySem.W.kitOne K (.ref (He.ga K c)) (.ref (He.ga K m)) = some true))))
theorem ownB_ok {K : PySem.W.Frag} {c m : Str} (h : ownB K c m = true) : OwnC K (He.ga K c) (He.ga K m) := by
  obtain ⟨h1, h⟩ := He.ba h
  obtain ⟨h2, h⟩ := He.ba h
  obtain ⟨h3, h⟩ := He.ba h
  obtain ⟨h4, h5⟩ := He.ba h
  exact ⟨He.eqO_ok h1, He.eqO_ok h2, of_decide_eq_true h3, of_decide_eq_true h4, of_decide_eq_true h5⟩
structure OwnE (K : PySem.W.Frag) (C M f : Addr) : Prop where
  eq : PySem.W.findIn K (.ref C) "__eq__" = some (some (.ref f))
  ne : PySem.W.findIn K (.ref C) "__ne__" = some (some (.builtin "object.__ne__"))
  hm : PySem.W.mroIn K C (.type "object") = some true
  fn : PySem.W.isFn K (.ref f) = true
  first : PySem.W.notFirst K C (.ref M) = true
def eqB (K : PySem.W.Frag) (c m : Str) : Bool :=
  He.eqO (PySem.W.findIn K (.ref (He.ga K c)) "__eq__") (some (some (.ref (He.ma K (He.ga K m) "__eq__")))) && (He.eqO (PySem.W.findIn K (.ref (He.ga K c)) "__ne__") (some (some (.builtin "object.__ne__"))) &&
    (decide (PySem.W.mroIn K (He.ga K c) (.type "object") = some true) && (PySem.W.isFn K (.ref (He.ma K (He.ga K m) "__eq__")) && PySem.W.notFirst K (He.ga K c) (.ref (He.ga K m)))))
theorem eqB_ok {K : PySem.W.Frag} {c m : Str} (h : eqB K c m = true) : OwnE K (He.ga K c) (He.ga K m) (He.ma K (He.ga K m) "__eq__") := by
  obtain ⟨h1, h⟩ := He.ba h
  obtain ⟨h2, h⟩ := He.ba h
  obtain ⟨h3, h⟩ := He.ba h
  obtain ⟨h4, h5⟩ := He.ba h
  exact ⟨He.eqO_ok h1, He.eqO_ok h2, of_decide_eq_true h3, h4, h5⟩
def maB (K : PySem.W.Frag) (c m x : Str) : Bool := decide (He.ma K (He.ga K c) x = He.ma K (He.ga K m) x)
theorem meth_cast {K : PySem.W.Frag} {c m x : Str} (h : Meth K (He.ga K c) x (He.ma K (He.ga K c) x)) (e : maB K c m x = true) : Meth K (He.ga K c) x (He.ma K (He.ga K m) x) := by
  rw [← of_decide_eq_true e]; exact h
theorem first_self {K : PySem.W.Frag} {C : Addr} : PySem.W.notFirst K C (.ref C) = true := by simp [PySem.W.notFirst]
/-- x == y, x != y by the own __eq__ at f -/
def rEqO (K : PySem.W.Frag) (M f : Addr) (sp : Sp) (E : XK) : R2 := fun x y H Q => ∃ C a dx fs t, x = .ref a ∧ H a = some (.ins C dx fs) ∧ OwnE K C M f ∧ TyX K H y t ∧ PySem.W.notFirst K C t = true ∧ sp [x, y] H (fun v H' => ∃ c, v = .bl c ∧ Q (.bl c) H') E
def rNeO (K : PySem.W.Frag) (M f : Addr) (sp : Sp) (E : XK) : R2 := fun x y H Q => ∃ C a dx fs t, x = .ref a ∧ H a = some (.ins C dx fs) ∧ OwnE K C M f ∧ TyX K H y t ∧ PySem.W.notFirst K C t = true ∧ sp [x, y] H (fun v H' => ∃ c, v = .bl c ∧ Q (.bl (!c)) H') E
section
variable {X : Cx} {CX : CXT} {M f : Addr} {fd : FuncData} {ps : List Str} {sp : Sp} {n : Nat} {E : XK}
theorem op_eqO (F : FnOk X.prog X.w X.K X.mg X.base CX n f fd ps sp) (hb : Binds X.K fd ps []) (hx : Passes CX X E) (hr : Room (n + 1) X.A) : OpR X (compareOp .Eq) (rEqO X.K M f sp E) := by
  intro pins s σ H x y v u Q I rx ry h
  obtain ⟨C, a, dx, fs, t, e, ha, ho, ty, hn, h⟩ := h
  exact op_eqOwn F ho.eq ho.fn hb hx (hr.mono (Nat.le_succ _)) pins s σ H x y v u Q I rx ry ⟨a, dx, fs, t, e, ha, ty, hn, h⟩
theorem op_neO (F : FnOk X.prog X.w X.K X.mg X.base CX n f fd ps sp) (hb : Binds X.K fd ps []) (hx : Passes CX X E) (hr : Room (n + 1) X.A) : OpR X (compareOp .NotEq) (rNeO X.K M f sp E) := by
  intro pins s σ H x y v u Q I rx ry h
  obtain ⟨C, a, dx, fs, t, e, ha, ho, ty, hn, h⟩ := h
  exact op_neOwn F ho.eq ho.ne ho.hm ho.fn hb hx hr pins s σ H x y v u Q I rx ry ⟨a, dx, fs, t, e, ha, ty, hn, h⟩
end
/-- a class of machines -/
structure MC (K : PySem.W.Frag) (C : Addr) : Prop where
  c : Cls K C
  ns : NoAttr K C "standings"
  ne : NoAttr K C "events"
  nk : NoAttr K C "kept_out"
  o : OwnC K C (He.ga K "Machine")
  q : OwnE K C (He.ga K "Machine") (He.ma K (He.ga K "Machine") "__eq__")
theorem MC.ty {K : PySem.W.Frag} {C : Addr} (h : MC K C) {H : Hp} {a dx : Addr} {fs : List (Str × V)} (e : H a = some (.ins C dx fs)) : TyX K H (.ref a) (.ref C) := .base (.ins e h.c h.o.ha h.o.hn h.o.htk h.o.hm)
def MachK (K : PySem.W.Frag) (G : Hp) (m : Addr) (n : Int) (es : List Ev) : Prop := ∃ C, MC K C ∧ MachAt C G m n es
theorem MachK.mono {K : PySem.W.Frag} {G G' : Hp} {m : Addr} {n : Int} {es : List Ev} (e : Ex G G') (h : MachK K G m n es) : MachK K G' m n es := by
  obtain ⟨C, h1, h2⟩ := h
  exact ⟨C, h1, h2.mono e⟩
/-- Machine.keep, of any class of machines -/
def spKeepM (K : PySem.W.Frag) : Sp := fun vs H Q E => ∃ C, MC K C ∧ spKeep C vs H Q E
/-- == of machines, and of a machine and a thing that is none -/
def spMEq (K : PySem.W.Frag) : Sp := fun vs H Q _ => ∃ (a b : Addr) (n n' : Int) (es es' : List Ev), vs = [.ref a, .ref b] ∧ MachK K H a n es ∧ MachK K H b n' es' ∧ Q (.bl (decide (n = n' ∧ es = es'))) H
theorem MachK.eqR {K : PySem.W.Frag} {H : Hp} {a b C : Addr} {n n' : Int} {es es' : List Ev} {Q : VK} {E : XK} (ha : MachK K H a n es) (hb : MachAt (He.ga K "Machine") H b n' es') (hC : MC K (He.ga K "Machine")) (q : Q (.bl (decide (n = n' ∧ es = es'))) H) : rEqO K (He.ga K "Machine") (He.ma K (He.ga K "Machine") "__eq__") (spMEq K) E (.ref a) (.ref b) H Q := by
  obtain ⟨Ca, h1, dx, t, ko, ks, h2, h3⟩ := id ha
  obtain ⟨dy, t', ko', ks', h4, h5⟩ := id hb
  exact ⟨Ca, a, dx, _, _, rfl, h2, h1.q, hC.ty h4, h1.q.first, a, b, n, n', es, es', rfl, ha, ⟨_, hC, hb⟩, _, rfl, q⟩
theorem MachK.neR {K : PySem.W.Frag} {H : Hp} {a b : Addr} {n n' : Int} {es es' : List Ev} {Q : VK} {E : XK} (ha : MachK K H a n es) (hb : MachAt (He.ga K "Machine") H b n' es') (hC : MC K (He.ga K "Machine")) (q : Q (.bl (!decide (n = n' ∧ es = es'))) H) : rNeO K (He.ga K "Machine") (He.ma K (He.ga K "Machine") "__eq__") (spMEq K) E (.ref a) (.ref b) H Q := by
  obtain ⟨Ca, h1, dx, t, ko, ks, h2, h3⟩ := id ha
  obtain ⟨dy, t', ko', ks', h4, h5⟩ := id hb
  exact ⟨Ca, a, dx, _, _, rfl, h2, h1.q, hC.ty h4, h1.q.first, a, b, n, n', es, es', rfl, ha, ⟨_, hC, hb⟩, _, rfl, q⟩
/-- both of one class -/
theorem MachAt.neR {K : PySem.W.Frag} {H : Hp} {a b C : Addr} {n n' : Int} {es es' : List Ev} {Q : VK} {E : XK} (hC : MC K C) (ha : MachAt C H a n es) (hb : MachAt C H b n' es') (q : Q (.bl (!decide (n = n' ∧ es = es'))) H) : rNeO K (He.ga K "Machine") (He.ma K (He.ga K "Machine") "__eq__") (spMEq K) E (.ref a) (.ref b) H Q := by
  obtain ⟨dx, t, ko, ks, h2, h3⟩ := id ha
  obtain ⟨dy, t', ko', ks', h4, h5⟩ := id hb
  exact ⟨C, a, dx, _, _, rfl, h2, hC.q, hC.ty h4, first_self, a, b, n, n', es, es', rfl, ⟨_, hC, ha⟩, ⟨_, hC, hb⟩, _, rfl, q⟩
/-- the events as data -/
def evI (e : Ev) : List Int := [e.b, e.a, e.w, e.x]
theorem evI_inj {l m : List Ev} (h : l.map evI = m.map evI) : l = m := by
  induction l generalizing m with
  | nil => cases m with
    | nil => rfl
    | cons b m => simp at h
  | cons a l ih => cases m with
    | nil => simp at h
    | cons b m =>
      rw [List.map_cons, List.map_cons] at h
      obtain ⟨h1, h2⟩ := List.cons.inj h
      rw [ih h2]
      congr 1
      cases a; cases b
      simp [evI] at h1
      obtain ⟨q1, q2, q3, q4⟩ := h1
      subst q1; subst q2; subst q3; subst q4; rfl
theorem EvL.tupL {G : Hp} {vs : List V} {es : List Ev} (h : EvL G vs es) : TupL iV G vs (es.map evI) := ⟨by simp [h.1], fun i a ha => by
  rw [List.getElem?_map] at ha
  obtain ⟨e, he, rfl⟩ := Option.map_eq_some_iff.mp ha
  exact h.2 i e he⟩
def dU (ls : List (List Int)) : PyData := .tuple (ls.map dT)
theorem dp_tt {K : PySem.W.Frag} {H : Hp} {p : Addr} {vs : List V} {ls : List (List Int)} (hp : H p = some (.tup vs)) (h : TupL iV H vs ls) : Dp K H (.ref p) (dU ls) := .tup (sqT hp) (dp_all ls vs h)
theorem shaped_dU (ls : List (List Int)) : SeqAt.shaped (dU ls) = true := by
  have h1 := lay_tups ls
  have h2 := dep_tups ls
  unfold SeqAt.shaped dU
  rw [PyData.canLay0, h1, PyData.depth]
  simp
  omega
theorem eqv_dU (l m : List (List Int)) : PyData.eqv (dU l) (dU m) = decide (l = m) := by
  unfold dU; rw [PyData.eqv]; exact eqv_tups l m
/-- (standings, events) as data -/
def dP (n : Int) (ls : List (List Int)) : PyData := .tuple [.int n, dU ls]
theorem dp_parts {K : PySem.W.Frag} {H : Hp} {p : Addr} {n : Int} {es : List Ev} (h : PartsAt H p n es) : Dp K H (.ref p) (dP n (es.map evI)) := by
  obtain ⟨t, h1, vs, h2, h3⟩ := h
  exact .tup (sqT h1) (.cons (.int n) (.cons (dp_tt h2 h3.tupL) .nil))
theorem shaped_dP (n : Int) (ls : List (List Int)) : SeqAt.shaped (dP n ls) = true := by
  have h1 := lay_tups ls
  have h2 := dep_tups ls
  unfold SeqAt.shaped dP dU
  simp [PyData.canLay0, PyData.canLayAll0, PyData.depth, PyData.depthAll, h1]
  omega
theorem eqv_dP (n n' : Int) (l m : List (List Int)) : PyData.eqv (dP n l) (dP n' m) = decide (n = n' ∧ l = m) := by
  unfold dP
  simp [PyData.eqv, PyData.eqvAll, eqv_dU]
  by_cases h : n = n' <;> simp [h]
end Lv

namespace Lv
open PySem PySem.Spec PyProof.Rows L2
/-- events of small numbers, between n standings -/
def EvB (n : Int) (es : List Ev) : Prop := 1 ≤ n ∧ n ≤ 10000 ∧ es.length ≤ 10000 ∧ ∀ e ∈ es, 0 ≤ e.b ∧ e.b < n ∧ 0 ≤ e.a ∧ e.a < n ∧ 1 ≤ e.w ∧ e.w ≤ 1000000000000 ∧ -1000000000000 ≤ e.x ∧ e.x ≤ 1000000000000
end Lv

/-! the walk: readings by their head, one step each -/
namespace Lv
open PySem PySem.Spec PyProof.Rows L2
section
variable {K : PySem.W.Frag} {σ : L2.St} {H : Hp} {Q : VK} {R : Bool → Hp → Prop} {nx bk ct : L2.St → Hp → Prop} {rt : VK} {D : Ends} {v x y : V} {te ta tb : TE} {tt uu : TT} {t u : TS} {as : TA} {g : TG} {gs : TGs} {i j : Nat}
theorem w_seq (h : t ⟨u ⟨nx, rt, bk, ct⟩, rt, bk, ct⟩ σ H) : tSeq t u ⟨nx, rt, bk, ct⟩ σ H := h
theorem w_next (h : nx σ H) : tNext ⟨nx, rt, bk, ct⟩ σ H := h
theorem w_brk (h : bk σ H) : tBreak ⟨nx, rt, bk, ct⟩ σ H := h
theorem w_cont (h : ct σ H) : tCont ⟨nx, rt, bk, ct⟩ σ H := h
theorem w_drop (h : te σ H fun _ H1 => nx σ H1) : tDrop te ⟨nx, rt, bk, ct⟩ σ H := h
theorem w_ret (h : te σ H rt) : tRet te ⟨nx, rt, bk, ct⟩ σ H := h
theorem w_retN (h : rt .non H) : tRetN ⟨nx, rt, bk, ct⟩ σ H := h
theorem w_ifS (h : tt σ H fun b H1 => if b = true then t D σ H1 else u D σ H1) : tIfS tt t u D σ H := h
theorem w_asg (h : te σ H fun x H1 => g x σ H1 nx) : tAsg te g ⟨nx, rt, bk, ct⟩ σ H := h
theorem w_name {N : L2.St → Hp → Prop} (h : N (σ.set i (some v)) H) : gName i v σ H N := h
theorem w_gnil {N : L2.St → Hp → Prop} {vs : List V} (e : vs = []) (h : N σ H) : gNil vs σ H N := ⟨e, h⟩
theorem w_gcons {N : L2.St → Hp → Prop} {vs r : List V} (e : vs = v :: r) (h : g v σ H fun σ' H' => gs r σ' H' N) : gCons g gs vs σ H N := ⟨v, r, e, h⟩
theorem w_gtup {N : L2.St → Hp → Prop} {n : Nat} {a : Addr} {xs : List V} (e : H a = some (.tup xs)) (l : xs.length = n) (h : gs xs σ H N) : gTup K n gs (.ref a) σ H N := ⟨a, xs, rfl, sqT e, l, h⟩
theorem w_var (e : σ[i]? = some (some v)) (h : Q v H) : tVar i σ H Q := ⟨v, e, h⟩
theorem w_c (h : Q v H) : tC v σ H Q := h
theorem w_op {r : R2} (h : ta σ H fun x H1 => tb σ H1 fun y H2 => r x y H2 Q) : tOp r ta tb σ H Q := h
theorem w_un {r : V → Hp → VK → Prop} (h : ta σ H fun x H1 => r x H1 Q) : tUn r ta σ H Q := h
theorem w_rI0 {f : Int → Int → V} {a b : Int} (h : Q (f a b) H) : rI0 f (.int a) (.int b) H Q := ⟨a, b, rfl, rfl, h⟩
theorem w_rI {C : Int → Int → Prop} {f : Int → Int → V} {a b : Int} (c : C a b) (h : Q (f a b) H) : rI C f (.int a) (.int b) H Q := ⟨a, b, rfl, rfl, c, h⟩
theorem w_rU {f : Int → V} {a : Int} (h : Q (f a) H) : rU f (.int a) H Q := ⟨a, rfl, h⟩
theorem w_eq (e : scal x y = true) (h : Q (.bl (decide (x = y))) H) : rEq x y H Q := ⟨e, h⟩
theorem w_ne (e : scal x y = true) (h : Q (.bl (!decide (x = y))) H) : rNe x y H Q := ⟨e, h⟩
theorem w_tB (h : te σ H fun x H1 => ∃ c, x = .bl c ∧ R c H1) : tB te σ H R := h
theorem w_test (h : te σ H fun x H1 => ∃ c, x = .bl c ∧ R c H1) : tTest te σ H R := h
theorem w_bl {b : Bool} {S : Bool → Prop} (h : S b) : ∃ c, V.bl b = V.bl c ∧ S c := ⟨b, rfl, h⟩
theorem w_and (h : tt σ H fun c H1 => if c = true then uu σ H1 R else R false H1) : tAnd tt uu σ H R := h
theorem w_or (h : tt σ H fun c H1 => if c = true then R true H1 else uu σ H1 R) : tOr tt uu σ H R := h
theorem w_not (h : tt σ H fun c H1 => R (!c) H1) : tNot tt σ H R := h
theorem w_andV (h : ta σ H fun x H1 => ∃ c, x = .bl c ∧ if c = true then tb σ H1 Q else Q (.bl false) H1) : tAndV ta tb σ H Q := h
theorem w_orV (h : ta σ H fun x H1 => ∃ c, x = .bl c ∧ if c = true then Q (.bl true) H1 else tb σ H1 Q) : tOrV ta tb σ H Q := h
theorem w_notV (h : ta σ H fun x H1 => ∃ c, x = .bl c ∧ Q (.bl (!c)) H1) : tNotV ta σ H Q := h
theorem w_ifE (h : tt σ H fun c H1 => if c = true then ta σ H1 Q else tb σ H1 Q) : tIf tt ta tb σ H Q := h
theorem w_yes (h : R true H) : tYes σ H R := h
theorem w_ifT {A B : Prop} (h : A) : if true = true then A else B := (if_pos rfl).mpr h
theorem w_ifF {A B : Prop} (h : B) : if false = true then A else B := (if_neg (by decide)).mpr h
theorem w_ifNT {A B : Prop} (h : B) : if (!true) = true then A else B := (if_neg (by decide)).mpr h
theorem w_ifNF {A B : Prop} (h : A) : if (!false) = true then A else B := (if_pos rfl).mpr h
theorem w_nil {S : List V → Hp → Prop} (h : S [] H) : tNil σ H S := h
theorem w_cons {S : List V → Hp → Prop} (h : ta σ H fun x H1 => as σ H1 fun xs H2 => S (x :: xs) H2) : tCons ta as σ H S := h
theorem w_call {sp : Sp} {dvs : List V} {E : XK} (h : as σ H fun vs H1 => sp (vs ++ dvs) H1 Q E) : tCall sp dvs E as σ H Q := h
theorem w_cb {r : List V → Hp → VK → Prop} (h : as σ H fun vs H1 => r vs H1 Q) : tCB r as σ H Q := h
theorem w_ixT {a : Addr} {xs : List V} {k : Int} (e : H a = some (.tup xs)) (l : atI xs k = some v) (h : Q v H) : rIxT K (.ref a) (.int k) H Q := ⟨a, xs, k, v, rfl, rfl, sqT e, l, h⟩
theorem w_ixL {a : Addr} {xs : List V} {k : Int} (e : H a = some (.lst xs)) (l : atI xs k = some v) (h : Q v H) : rIxL K (.ref a) (.int k) H Q := ⟨a, xs, k, v, rfl, rfl, sqL e, l, h⟩
theorem w_aug {ti : TIp} (e : σ[i]? = some (some x)) (h : te σ H fun y H1 => ti x y H1 fun z H2 => nx (σ.set i (some z)) H2) : tAug i te ti ⟨nx, rt, bk, ct⟩ σ H := ⟨x, e, h⟩
theorem w_rAdd {a b : Int} (h : Q (.int (a + b)) H) : rAdd (.int a) (.int b) H Q := ⟨a, b, rfl, rfl, h⟩
theorem w_rSub {a b : Int} (h : Q (.int (a - b)) H) : rSub (.int a) (.int b) H Q := ⟨a, b, rfl, rfl, h⟩
/-- x.f -/
def aFld (K : PySem.W.Frag) (f : Str) : V → Hp → VK → Prop := fun x H Q => ∃ a C dx fs v, x = .ref a ∧ H a = some (.ins C dx fs) ∧ Cls K C ∧ NoAttr K C f ∧ fs.lookup f = some v ∧ Q v H
theorem w_fld {f : Str} (h : te σ H fun x H1 => aFld K f x H1 Q) : tFld K te f σ H Q := h
/-- a new tuple, a new list -/
def aTup : List V → Hp → VK → Prop := fun xs H Q => xs.length ≤ sizeLine ∧ ∀ p, H p = none → Q (.ref p) (upd H p (.tup xs))
def aLst : List V → Hp → VK → Prop := fun xs H Q => xs.length ≤ sizeLine ∧ ∀ p, H p = none → Q (.ref p) (upd H p (.lst xs))
theorem w_tup (h : as σ H fun xs H1 => aTup xs H1 Q) : tTup as σ H Q := h
theorem w_lst (h : as σ H fun xs H1 => aLst xs H1 Q) : tLst as σ H Q := h
theorem aTup.go {G P : Hp} {xs : List V} (J : Join G P H) (l : xs.length ≤ 100000) (q : ∀ p G' H', H p = none → Ex G G' → Join G' P H' → G' p = some (.tup xs) → Q (.ref p) H') : aTup xs H Q :=
  ⟨szle l, fun p hp => q p _ _ hp (Ex.new (J.ng hp)) (J.newG hp) upd_same⟩
theorem aLst.go {G P : Hp} {xs : List V} (J : Join G P H) (l : xs.length ≤ 100000) (q : ∀ p G' H', H p = none → Ex G G' → Join G' P H' → G' p = some (.lst xs) → Q (.ref p) H') : aLst xs H Q :=
  ⟨szle l, fun p hp => q p _ _ hp (Ex.new (J.ng hp)) (J.newG hp) upd_same⟩
/-- comprehensions over lists, tuples, ranges -/
def aLcL (K : PySem.W.Frag) (g : TG) (tt : TT) (te : TE) (vs : List Nat) (σ : L2.St) : V → Hp → VK → Prop := fun x H Q => tLc (fun _ H R => ∃ a, x = .ref a ∧ (∃ xs, SqL K H a xs) ∧ R (Itl K a) H) g tt te vs σ H Q
def aLcT (K : PySem.W.Frag) (g : TG) (tt : TT) (te : TE) (vs : List Nat) (σ : L2.St) : V → Hp → VK → Prop := fun x H Q => tLc (fun _ H R => ∃ a, x = .ref a ∧ (∃ xs, SqT K H a xs) ∧ R (Itt K a) H) g tt te vs σ H Q
def aLcR (g : TG) (tt : TT) (te : TE) (vs : List Nat) (σ : L2.St) : List V → Hp → VK → Prop := fun xs H Q => tLc (fun _ H R => ∃ j : Int, xs = [.int j] ∧ -(2 ^ 62) ≤ j ∧ j < 2 ^ 62 ∧ R (Itr 0 j.toNat) H) g tt te vs σ H Q
theorem w_lcL {ts : List Nat} (h : ta σ H fun x H1 => aLcL K g tt te ts σ x H1 Q) : tLc (iList K ta) g tt te ts σ H Q := h
theorem w_lcT {ts : List Nat} (h : ta σ H fun x H1 => aLcT K g tt te ts σ x H1 Q) : tLc (iTup K ta) g tt te ts σ H Q := h
theorem w_lcR {ts : List Nat} (h : as σ H fun xs H1 => aLcR g tt te ts σ xs H1 Q) : tLc (iRng1 as) g tt te ts σ H Q := h
theorem aLcL.go {a : Addr} {xs : List V} {ts : List Nat} {G P : Hp} (Pp : Hp → Prop) (I : Nat → List V → Hp → Prop) (J : Join G P H) (hP : Pp P)
    (hS : G a = some (.lst xs)) (h0 : ∀ G', Ex G G' → I 0 [] G') (hI : ∀ i ws G2 D us ts, G2 D = some (.lst us) → I i ws G2 → I i ws (upd G2 D (.lst ts))) (hz : ∀ i ws G2, I i ws G2 → ws.length ≤ 1000000)
    (hs : ∀ (i : Nat) (x : V) (ws : List V) (G' P' H' : Hp) (R : VK) (R0 : Hp → Prop), xs[i]? = some x → Ex G G' → I i ws G' → Pp P' → Join G' P' H' →
      (∀ v G2 P2 H2, Ex G' G2 → Pp P2 → Join G2 P2 H2 → I (i + 1) (ws ++ [v]) G2 → R v H2) → (∀ G2 P2 H2, Ex G' G2 → Pp P2 → Join G2 P2 H2 → I (i + 1) ws G2 → R0 H2) →
      g x (wipe σ ts) H' fun σ2 H2 => wipe σ2 ts = wipe σ ts ∧ tt σ2 H2 fun b H3 => if b = true then te σ2 H3 R else R0 H3)
    (hq : ∀ p ws G' P' H', H p = none → Ex G G' → G' p = some (.lst ws) → I xs.length ws G' → Pp P' → Join G' P' H' → Q (.ref p) H') : aLcL K g tt te ts σ (.ref a) H Q :=
  ⟨a, rfl, ⟨_, sqL (J.g _ _ hS)⟩, fun D hD => lcG_list (xs := xs) Pp I hD J hP (sqL hS) (h0 _ (Ex.new (J.ng hD))) (fun i ws G2 us ts' h1 h2 => hI i ws G2 D us ts' h1 h2) hz hs fun ws G' P' H' e hd hi hp j => hq D ws G' P' H' hD e hd hi hp j⟩
theorem aLcT.go {a : Addr} {xs : List V} {ts : List Nat} {G P : Hp} (Pp : Hp → Prop) (I : Nat → List V → Hp → Prop) (J : Join G P H) (hP : Pp P)
    (hS : G a = some (.tup xs)) (h0 : ∀ G', Ex G G' → I 0 [] G') (hI : ∀ i ws G2 D us ts, G2 D = some (.lst us) → I i ws G2 → I i ws (upd G2 D (.lst ts))) (hz : ∀ i ws G2, I i ws G2 → ws.length ≤ 1000000)
    (hs : ∀ (i : Nat) (x : V) (ws : List V) (G' P' H' : Hp) (R : VK) (R0 : Hp → Prop), xs[i]? = some x → Ex G G' → I i ws G' → Pp P' → Join G' P' H' →
      (∀ v G2 P2 H2, Ex G' G2 → Pp P2 → Join G2 P2 H2 → I (i + 1) (ws ++ [v]) G2 → R v H2) → (∀ G2 P2 H2, Ex G' G2 → Pp P2 → Join G2 P2 H2 → I (i + 1) ws G2 → R0 H2) →
      g x (wipe σ ts) H' fun σ2 H2 => wipe σ2 ts = wipe σ ts ∧ tt σ2 H2 fun b H3 => if b = true then te σ2 H3 R else R0 H3)
    (hq : ∀ p ws G' P' H', H p = none → Ex G G' → G' p = some (.lst ws) → I xs.length ws G' → Pp P' → Join G' P' H' → Q (.ref p) H') : aLcT K g tt te ts σ (.ref a) H Q :=
  ⟨a, rfl, ⟨_, sqT (J.g _ _ hS)⟩, fun D hD => lcG_tup (xs := xs) Pp I hD J hP (sqT hS) (h0 _ (Ex.new (J.ng hD))) (fun i ws G2 us ts' h1 h2 => hI i ws G2 D us ts' h1 h2) hz hs fun ws G' P' H' e hd hi hp j => hq D ws G' P' H' hD e hd hi hp j⟩
theorem aLcR.go {n : Nat} {ts : List Nat} {G P : Hp} (Pp : Hp → Prop) (I : Nat → List V → Hp → Prop) (J : Join G P H) (hP : Pp P) {m : Int} (hn : m = n) (hm : n ≤ 1000000)
    (h0 : ∀ G', Ex G G' → I 0 [] G') (hI : ∀ i ws G2 D us ts, G2 D = some (.lst us) → I i ws G2 → I i ws (upd G2 D (.lst ts))) (hz : ∀ i ws G2, I i ws G2 → ws.length ≤ 1000000)
    (hs : ∀ (i : Nat) (ws : List V) (G' P' H' : Hp) (R : VK) (R0 : Hp → Prop), i < n → Ex G G' → I i ws G' → Pp P' → Join G' P' H' →
      (∀ v G2 P2 H2, Ex G' G2 → Pp P2 → Join G2 P2 H2 → I (i + 1) (ws ++ [v]) G2 → R v H2) → (∀ G2 P2 H2, Ex G' G2 → Pp P2 → Join G2 P2 H2 → I (i + 1) ws G2 → R0 H2) →
      g (.int (i : Int)) (wipe σ ts) H' fun σ2 H2 => wipe σ2 ts = wipe σ ts ∧ tt σ2 H2 fun b H3 => if b = true then te σ2 H3 R else R0 H3)
    (hq : ∀ p ws G' P' H', H p = none → Ex G G' → G' p = some (.lst ws) → I n ws G' → Pp P' → Join G' P' H' → Q (.ref p) H') : aLcR g tt te ts σ [.int m] H Q := by
  subst hn
  refine ⟨(n : Int), rfl, by omega, by omega, fun D hD => lcG_range (lo := 0) (n := (n : Int).toNat) Pp I hD J hP (h0 _ (Ex.new (J.ng hD))) (fun i ws G2 us ts' h1 h2 => hI i ws G2 D us ts' h1 h2) hz ?_ fun ws G' P' H' e hd hi hp j => hq D ws G' P' H' hD e hd (by rw [Int.toNat_natCast] at hi; exact hi) hp j⟩
  intro i ws G' P' H' R R0 hi
  rw [Int.zero_add]
  rw [Int.toNat_natCast] at hi
  exact hs i ws G' P' H' R R0 hi
/-- tests of a comprehension within: both ends -/
theorem wipe_go {σ2 : L2.St} {ts : List Nat} {A : Prop} (e : wipe σ2 ts = wipe σ ts) (h : A) : wipe σ2 ts = wipe σ ts ∧ A := ⟨e, h⟩
/-- a method's call -/
def aMeth (C : Addr) (m : Str) (sp : Sp) (dvs : List V) (E : XK) (as : TA) (σ : L2.St) : V → Hp → VK → Prop := fun x H Q => ∃ a dx fs, x = .ref a ∧ H a = some (.ins C dx fs) ∧ fs.lookup m = none ∧ as σ H fun vs H1 => sp (x :: (vs ++ dvs)) H1 Q E
theorem w_meth {C : Addr} {m : Str} {sp : Sp} {dvs : List V} {E : XK} (h : ta σ H fun x H1 => aMeth C m sp dvs E as σ x H1 Q) : tMeth C m sp dvs E ta as σ H Q := h
theorem aMeth.go {C a dx : Addr} {m : Str} {sp : Sp} {dvs : List V} {E : XK} {fs : List (Str × V)} {G P : Hp} (J : Join G P H) (e : G a = some (.ins C dx fs)) (l : fs.lookup m = none) (h : as σ H fun vs H1 => sp (.ref a :: (vs ++ dvs)) H1 Q E) : aMeth C m sp dvs E as σ (.ref a) H Q := ⟨a, dx, fs, rfl, J.g _ _ e, l, h⟩
/-- fields of machines -/
theorem aFld.ns {G P : Hp} {m : Addr} {n : Int} {es : List Ev} (J : Join G P H) (h : MachK K G m n es) (q : Q (.int n) H) : aFld K "standings" (.ref m) H Q := by
  obtain ⟨C, hC, dx, t, ko, ks, h1, h2⟩ := h
  exact ⟨m, C, dx, _, _, rfl, J.g _ _ h1, hC.c, hC.ns, ml1 _ _ _, q⟩
theorem aFld.ne {G P : Hp} {m : Addr} {n : Int} {es : List Ev} (J : Join G P H) (h : MachK K G m n es) (q : ∀ t vs, G t = some (.tup vs) → EvL G vs es → Q (.ref t) H) : aFld K "events" (.ref m) H Q := by
  obtain ⟨C, hC, dx, t, ko, ks, h1, ⟨vs, h2, h3⟩, h4⟩ := h
  exact ⟨m, C, dx, _, _, rfl, J.g _ _ h1, hC.c, hC.ne, ml2 _ _ _, q t vs h2 h3⟩
theorem aFld.nk {G P : Hp} {m : Addr} {n : Int} {es : List Ev} (J : Join G P H) (h : MachK K G m n es) (q : ∀ ko ks, G ko = some (.lst ks) → (ks.length : Int) = n → (∀ i : Nat, i < ks.length → ∃ k : Addr, ks[i]? = some (.ref k) ∧ G k = some (.lst ((outs 0 es i).map V.int))) → Q (.ref ko) H) : aFld K "kept_out" (.ref m) H Q := by
  obtain ⟨C, hC, dx, t, ko, ks, h1, h2, h3, h4, h5⟩ := h
  exact ⟨m, C, dx, _, _, rfl, J.g _ _ h1, hC.c, hC.nk, ml3 _ _ _, q ko ks h3 h4 h5⟩
/-- a list's end grows -/
theorem w_append {l : Addr} {xs : List V} (e : H l = some (.lst xs)) (z : xs.length < 100000) (h : Q .non (upd H l (.lst (xs ++ [y])))) : rAppend (.ref l) [y] H Q := ⟨l, xs, y, rfl, rfl, e, szlt z, h⟩
/-- a thing made: its dict and itself are new -/
def aMake (C : Addr) (sp : Sp) (dvs : List V) (E : XK) : List V → Hp → VK → Prop := fun vs H Q => tMake C sp dvs E (fun _ H S => S vs H) [] H Q
theorem w_make {C : Addr} {sp : Sp} {dvs : List V} {E : XK} (h : as σ H fun vs H1 => aMake C sp dvs E vs H1 Q) : tMake C sp dvs E as σ H Q := h
theorem aMake.go {C : Addr} {sp : Sp} {dvs vs : List V} {E : XK} {G P : Hp} (J : Join G P H) (q : ∀ m dx G' H', H m = none → Ex G G' → Join G' P H' → G' m = some (.ins C dx []) → sp (.ref m :: (vs ++ dvs)) H' (fun v H2 => v = .non ∧ Q (.ref m) H2) E) : aMake C sp dvs E vs H Q := by
  intro m dx hm hdx hne
  have j3 := (J.newG (o := .own m) hdx).newG (o := .ins C dx []) (b := m) (Eq.trans (upd_ne (Ne.symm hne)) hm)
  have e3 : Ex G _ := (Ex.new (o := .own m) (J.ng hdx)).trans (Ex.new (o := .ins C dx []) (p := m) (Eq.trans (upd_ne (Ne.symm hne)) (J.ng hm)))
  exact q m dx _ _ hm e3 j3 upd_same
theorem But.ex {x : Addr} {G G1 G2 : Hp} (b : But x G1 G2) (e : Ex G G1) (n : G x = none) : Ex G G2 := fun a o h => b a o (e a o h) (ne_of_none h n)
theorem big15 {a : Int} (h1 : -1000000000000000 ≤ a) (h2 : a ≤ 1000000000000000) : a.natAbs < 2 ^ 1000 := Nat.lt_of_lt_of_le (show a.natAbs < 1152921504606846976 by omega) (Nat.le_trans (show 1152921504606846976 ≤ 2 ^ 60 by decide) (Nat.pow_le_pow_right (by decide) (by decide)))
theorem big199 {a : Int} (h1 : -1000000000000000000000 ≤ a) (h2 : a ≤ 1000000000000000000000) : a.natAbs < 2 ^ 199 := Nat.lt_of_lt_of_le (show a.natAbs < 1180591620717411303424 by omega) (Nat.le_trans (show 1180591620717411303424 ≤ 2 ^ 70 by decide) (Nat.pow_le_pow_right (by decide) (by decide)))
theorem big199' {a : Int} (h1 : -1000000000000000000000 ≤ a) (h2 : a ≤ 1000000000000000000000) : a.natAbs < 2 ^ 1000 := Nat.lt_of_lt_of_le (big199 h1 h2) (Nat.pow_le_pow_right (by decide) (by decide))
theorem mul15 {a b : Int} (h1 : -1000000000000000 ≤ a) (h2 : a ≤ 1000000000000000) (h3 : -1000000000000000 ≤ b) (h4 : b ≤ 1000000000000000) : CMulW a b := mulW (big15 h1 h2) (big15 h3 h4)
theorem tupOf_go {p : Addr} {ws : List V} {G P : Hp} (J : Join G P H) (h : G p = some (.lst ws)) (q : ∀ t G' H', H t = none → Ex G G' → Join G' P H' → G' t = some (.tup ws) → Q (.ref t) H') : rTupOf K [.ref p] H Q :=
  ⟨p, ws, rfl, .inl ⟨sqL (J.g _ _ h), fun l hl => q l _ _ hl (Ex.new (J.ng hl)) (J.newG hl) upd_same⟩⟩
theorem isi_mach {G P : Hp} {m : Addr} {n : Int} {es : List Ev} (J : Join G P H) (h : MachK K G m n es) (q : Q (.bl true) H) : rIsi K [.ref m, .ref (He.ga K "Machine")] H Q := by
  obtain ⟨C, hC, dx, t, ko, ks, h1, _⟩ := h
  exact ⟨_, _, _, _, true, rfl, .own _, hC.ty (J.g _ _ h1), hC.o.kit, q⟩
theorem isi_lst {a : Addr} {xs : List V} {G P : Hp} (J : Join G P H) (h : G a = some (.lst xs)) (q : Q (.bl true) H) : rIsi K [.ref a, .ty "list"] H Q := ⟨_, _, _, _, true, rfl, .ty _, .base (.lst (J.g _ _ h)), kit_ty (by decide +kernel), q⟩
theorem isi_tup {a : Addr} {xs : List V} {G P : Hp} (J : Join G P H) (h : G a = some (.tup xs)) (q : Q (.bl true) H) : rIsi K [.ref a, .ty "tuple"] H Q := ⟨_, _, _, _, true, rfl, .ty _, .base (.tup (J.g _ _ h)), kit_ty (by decide +kernel), q⟩
section
variable {a b : Addr} {G P : Hp} {vs ws : List V} {ls ms : List (List Int)} {l m : List Int}
theorem neD_U (J : Join G P H) (ha : G a = some (.tup vs)) (hv : TupL iV G vs ls) (hb : G b = some (.tup ws)) (hw : TupL iV G ws ms) (q : Q (.bl (!decide (ls = ms))) H) : rNeD K (.ref a) (.ref b) H Q :=
  ⟨_, _, dp_tt (J.g _ _ ha) (hv.monoJ J), dp_tt (J.g _ _ hb) (hw.monoJ J), shaped_dU _, shaped_dU _, by rw [eqv_dU]; exact q⟩
theorem neD_L (J : Join G P H) (ha : G a = some (.lst vs)) (hv : TupL iV G vs ls) (hb : G b = some (.lst ws)) (hw : TupL iV G ws ms) (q : Q (.bl (!decide (ls = ms))) H) : rNeD K (.ref a) (.ref b) H Q :=
  ⟨_, _, dp_lst (J.g _ _ ha) (hv.monoJ J), dp_lst (J.g _ _ hb) (hw.monoJ J), shaped_dL _, shaped_dL _, by rw [eqv_dL]; exact q⟩
theorem neD_T (J : Join G P H) (ha : G a = some (.tup (iV l))) (hb : G b = some (.tup (iV m))) (q : Q (.bl (!decide (l = m))) H) : rNeD K (.ref a) (.ref b) H Q :=
  ⟨_, _, dp_tup (J.g _ _ ha), dp_tup (J.g _ _ hb), shaped_dT _, shaped_dT _, by rw [eqv_dT]; exact q⟩
theorem eqD_U (J : Join G P H) (ha : G a = some (.tup vs)) (hv : TupL iV G vs ls) (hb : G b = some (.tup ws)) (hw : TupL iV G ws ms) (q : Q (.bl (decide (ls = ms))) H) : rEqD K (.ref a) (.ref b) H Q :=
  ⟨_, _, dp_tt (J.g _ _ ha) (hv.monoJ J), dp_tt (J.g _ _ hb) (hw.monoJ J), shaped_dU _, shaped_dU _, by rw [eqv_dU]; exact q⟩
theorem eqD_L (J : Join G P H) (ha : G a = some (.lst vs)) (hv : TupL iV G vs ls) (hb : G b = some (.lst ws)) (hw : TupL iV G ws ms) (q : Q (.bl (decide (ls = ms))) H) : rEqD K (.ref a) (.ref b) H Q :=
  ⟨_, _, dp_lst (J.g _ _ ha) (hv.monoJ J), dp_lst (J.g _ _ hb) (hw.monoJ J), shaped_dL _, shaped_dL _, by rw [eqv_dL]; exact q⟩
theorem eqD_T (J : Join G P H) (ha : G a = some (.tup (iV l))) (hb : G b = some (.tup (iV m))) (q : Q (.bl (decide (l = m))) H) : rEqD K (.ref a) (.ref b) H Q :=
  ⟨_, _, dp_tup (J.g _ _ ha), dp_tup (J.g _ _ hb), shaped_dT _, shaped_dT _, by rw [eqv_dT]; exact q⟩
theorem neD_P {n n' : Int} {es es' : List Ev} (J : Join G P H) (ha : PartsAt G a n es) (hb : PartsAt G b n' es') (q : Q (.bl (!decide (n = n' ∧ es = es'))) H) : rNeD K (.ref a) (.ref b) H Q := by
  refine ⟨_, _, dp_parts (ha.mono J.exG), dp_parts (hb.mono J.exG), shaped_dP _ _, shaped_dP _ _, ?_⟩
  rw [eqv_dP]
  have e : decide (n = n' ∧ es.map evI = es'.map evI) = decide (n = n' ∧ es = es') := decide_eq_decide.mpr ⟨fun h => ⟨h.1, evI_inj h.2⟩, fun h => ⟨h.1, by rw [h.2]⟩⟩
  rw [e]; exact q
end
/-! builtins' calls by a name -/
def rLstOf (K : PySem.W.Frag) : List V → Hp → VK → Prop := fun xs H Q => ∃ p ys, xs = [.ref p] ∧ (SqL K H p ys ∨ SqT K H p ys) ∧ ∀ l, H l = none → Q (.ref l) (upd H l (.lst ys))
def rAbs : List V → Hp → VK → Prop := fun xs H Q => ∃ i, xs = [.int i] ∧ Q (.int (if i < 0 then -i else i)) H
def rInt1 : List V → Hp → VK → Prop := fun xs H Q => (∃ i, xs = [.int i] ∧ Q (.int i) H) ∨ ∃ k, xs = [.bl k] ∧ Q (.int (if k then 1 else 0)) H
def rLenV (K : PySem.W.Frag) : List V → Hp → VK → Prop := fun xs H Q => ∃ x n, xs = [x] ∧ LenV K x H n ∧ Q (.int n) H
theorem w_tof (h : as σ H fun vs H1 => rTupOf K vs H1 Q) : tCB (fun xs H Q => ∃ p ys, xs = [.ref p] ∧ ((SqL K H p ys ∧ ∀ l, H l = none → Q (.ref l) (upd H l (.tup ys))) ∨ (SqT K H p ys ∧ Q (.ref p) H))) as σ H Q := h
theorem w_lof (h : as σ H fun vs H1 => rLstOf K vs H1 Q) : tCB (fun xs H Q => ∃ p ys, xs = [.ref p] ∧ (SqL K H p ys ∨ SqT K H p ys) ∧ ∀ l, H l = none → Q (.ref l) (upd H l (.lst ys))) as σ H Q := h
theorem w_abs (h : as σ H fun vs H1 => rAbs vs H1 Q) : tCB (fun xs H Q => ∃ i, xs = [.int i] ∧ Q (.int (if i < 0 then -i else i)) H) as σ H Q := h
theorem w_int1 (h : as σ H fun vs H1 => rInt1 vs H1 Q) : tCB (fun xs H Q => (∃ i, xs = [.int i] ∧ Q (.int i) H) ∨ ∃ k, xs = [.bl k] ∧ Q (.int (if k then 1 else 0)) H) as σ H Q := h
theorem w_lenv (h : as σ H fun vs H1 => rLenV K vs H1 Q) : tCB (fun xs H Q => ∃ x n, xs = [x] ∧ LenV K x H n ∧ Q (.int n) H) as σ H Q := h
def rLenW (K : PySem.W.Frag) : List V → Hp → VK → Prop := fun xs H Q => ∃ p ys, xs = [.ref p] ∧ (SqL K H p ys ∨ SqT K H p ys) ∧ Q (.int ys.length) H
theorem w_lens (h : as σ H fun vs H1 => rLenW K vs H1 Q) : tCB (fun xs H Q => ∃ p ys, xs = [.ref p] ∧ (SqL K H p ys ∨ SqT K H p ys) ∧ Q (.int ys.length) H) as σ H Q := h
theorem w_slenT {a : Addr} {xs : List V} (e : H a = some (.tup xs)) (h : Q (.int xs.length) H) : rLenW K [.ref a] H Q := ⟨_, _, rfl, .inr (sqT e), h⟩
theorem w_slenL {a : Addr} {xs : List V} (e : H a = some (.lst xs)) (h : Q (.int xs.length) H) : rLenW K [.ref a] H Q := ⟨_, _, rfl, .inl (sqL e), h⟩
theorem w_klenT {a : Addr} {xs : List V} (e : H a = some (.tup xs)) (h : Q (.int xs.length) H) : Lv.rLenS K [.ref a] H Q := ⟨_, _, rfl, .inr (sqT e), h⟩
theorem w_klenL {a : Addr} {xs : List V} (e : H a = some (.lst xs)) (h : Q (.int xs.length) H) : Lv.rLenS K [.ref a] H Q := ⟨_, _, rfl, .inl (sqL e), h⟩
theorem w_rabs {a : Int} (h : Q (.int (a.natAbs : Nat)) H) : rAbs [.int a] H Q := ⟨a, rfl, by rw [abs_if]; exact h⟩
theorem w_rint {a : Int} (h : Q (.int a) H) : rInt1 [.int a] H Q := .inl ⟨a, rfl, h⟩
theorem w_rintb {b : Bool} (h : Q (.int (if b then 1 else 0)) H) : rInt1 [.bl b] H Q := .inr ⟨b, rfl, h⟩
theorem w_rlenT {a : Addr} {xs : List V} (e : H a = some (.tup xs)) (h : Q (.int xs.length) H) : rLenV K [.ref a] H Q := ⟨_, _, rfl, .inr ⟨xs, sqT e, rfl⟩, h⟩
theorem w_rlenL {a : Addr} {xs : List V} (e : H a = some (.lst xs)) (h : Q (.int xs.length) H) : rLenV K [.ref a] H Q := ⟨_, _, rfl, .inl ⟨xs, sqL e, rfl⟩, h⟩
theorem lstOf_go {p : Addr} {ws : List V} {G P : Hp} (J : Join G P H) (h : G p = some (.lst ws) ∨ G p = some (.tup ws)) (q : ∀ t G' H', H t = none → Ex G G' → Join G' P H' → G' t = some (.lst ws) → Q (.ref t) H') : rLstOf K [.ref p] H Q :=
  ⟨p, ws, rfl, h.imp (fun h => sqL (J.g _ _ h)) (fun h => sqT (J.g _ _ h)), fun l hl => q l _ _ hl (Ex.new (J.ng hl)) (J.newG hl) upd_same⟩
/-- a list's method -/
def aBM (K : PySem.W.Frag) (T : String) (r : V → List V → Hp → VK → Prop) (as : TA) (σ : L2.St) : V → Hp → VK → Prop := fun x H Q => tyV K T x H ∧ as σ H fun xs H2 => r x xs H2 Q
theorem w_bm {T : String} {r : V → List V → Hp → VK → Prop} (h : ta σ H fun x H1 => aBM K T r as σ x H1 Q) : tBM K T r ta as σ H Q := h
theorem w_bm0 {T : String} {r : V → List V → Hp → VK → Prop} (h : ta σ H fun x H1 => aBM K T r tNil σ x H1 Q) : tBM0 K T r ta σ H Q := h
theorem w_bml {r : V → List V → Hp → VK → Prop} {a : Addr} {xs : List V} (e : H a = some (.lst xs)) (h : as σ H fun vs H2 => r (.ref a) vs H2 Q) : aBM K "list" r as σ (.ref a) H Q := ⟨.inl ⟨rfl, xs, sqL e⟩, h⟩
/-! loops over ranges, lists, tuples -/
def aForR (g : TG) (tb : TS) (D : Ends) (σ : L2.St) : List V → Hp → Prop := fun vs H => tFor (fun _ H R => ∃ j : Int, vs = [.int j] ∧ -(2 ^ 62) ≤ j ∧ j < 2 ^ 62 ∧ R (Itr 0 j.toNat) H) g tb D σ H
def aForL (K : PySem.W.Frag) (g : TG) (tb : TS) (D : Ends) (σ : L2.St) : V → Hp → Prop := fun x H => tFor (fun _ H R => ∃ a, x = .ref a ∧ (∃ xs, SqL K H a xs) ∧ R (Itl K a) H) g tb D σ H
def aForT (K : PySem.W.Frag) (g : TG) (tb : TS) (D : Ends) (σ : L2.St) : V → Hp → Prop := fun x H => tFor (fun _ H R => ∃ a, x = .ref a ∧ (∃ xs, SqT K H a xs) ∧ R (Itt K a) H) g tb D σ H
theorem w_forR {tb : TS} (h : as σ H fun vs H1 => aForR g tb D σ vs H1) : tFor (iRng1 as) g tb D σ H := h
theorem w_forL {tb : TS} (h : ta σ H fun x H1 => aForL K g tb D σ x H1) : tFor (iList K ta) g tb D σ H := h
theorem w_forT {tb : TS} (h : ta σ H fun x H1 => aForT K g tb D σ x H1) : tFor (iTup K ta) g tb D σ H := h
theorem aForR.go {tb : TS} {G P : Hp} {m : Int} {n : Nat} (hn : m = n) (hm : n ≤ 1000000) (I : Nat → Hp → Hp → L2.St → Prop) (J : Join G P H) (h0 : I 0 G P σ)
    (hs : ∀ (i : Nat) (G' P' H' : Hp) (σ' : L2.St), i < n → Join G' P' H' → I i G' P' σ' → g (.int (i : Int)) σ' H' fun σ2 H2 => tb ⟨fun σ3 H3 => ∃ G3 P3, Join G3 P3 H3 ∧ I (i + 1) G3 P3 σ3, rt, nx, fun σ3 H3 => ∃ G3 P3, Join G3 P3 H3 ∧ I (i + 1) G3 P3 σ3⟩ σ2 H2)
    (hq : ∀ (G' P' H' : Hp) (σ' : L2.St), Join G' P' H' → I n G' P' σ' → nx σ' H') : aForR g tb ⟨nx, rt, bk, ct⟩ σ [.int m] H := by
  subst hn
  refine ⟨(n : Int), rfl, by omega, by omega, for_range (lo := 0) (n := (n : Int).toNat) (fun i σ' H' => ∃ G3 P3, Join G3 P3 H' ∧ I i G3 P3 σ') ⟨G, P, J, h0⟩ ?_ ?_⟩
  · rintro i σ' H' hi ⟨G', P', J', hI⟩
    rw [Int.zero_add]
    rw [Int.toNat_natCast] at hi
    exact hs i G' P' H' σ' hi J' hI
  · rintro σ' H' ⟨G', P', J', hI⟩
    rw [Int.toNat_natCast] at hI
    exact hq G' P' H' σ' J' hI
theorem aForL.go {tb : TS} {G P : Hp} {a : Addr} {xs : List V} (I : Nat → Hp → Hp → L2.St → Prop) (J : Join G P H) (hS : G a = some (.lst xs)) (h0 : I 0 G P σ) (hk : ∀ i G' P' σ', I i G' P' σ' → G' a = some (.lst xs))
    (hs : ∀ (i : Nat) (x : V) (G' P' H' : Hp) (σ' : L2.St), xs[i]? = some x → Join G' P' H' → I i G' P' σ' → g x σ' H' fun σ2 H2 => tb ⟨fun σ3 H3 => ∃ G3 P3, Join G3 P3 H3 ∧ I (i + 1) G3 P3 σ3, rt, nx, fun σ3 H3 => ∃ G3 P3, Join G3 P3 H3 ∧ I (i + 1) G3 P3 σ3⟩ σ2 H2)
    (hq : ∀ (G' P' H' : Hp) (σ' : L2.St), Join G' P' H' → I xs.length G' P' σ' → nx σ' H') : aForL K g tb ⟨nx, rt, bk, ct⟩ σ (.ref a) H := by
  refine ⟨a, rfl, ⟨_, sqL (J.g _ _ hS)⟩, for_list (xs := xs) (fun i σ' H' => ∃ G3 P3, Join G3 P3 H' ∧ I i G3 P3 σ') ⟨G, P, J, h0⟩ ?_ ?_ ?_⟩
  · rintro i σ' H' _ ⟨G', P', J', hI⟩
    exact sqL (J'.g _ _ (hk _ _ _ _ hI))
  · rintro i x σ' H' hi ⟨G', P', J', hI⟩
    exact hs i x G' P' H' σ' hi J' hI
  · rintro σ' H' ⟨G', P', J', hI⟩
    exact hq G' P' H' σ' J' hI
theorem aForT.go {tb : TS} {G P : Hp} {a : Addr} {xs : List V} (I : Nat → Hp → Hp → L2.St → Prop) (J : Join G P H) (hS : G a = some (.tup xs)) (h0 : I 0 G P σ) (hk : ∀ i G' P' σ', I i G' P' σ' → G' a = some (.tup xs))
    (hs : ∀ (i : Nat) (x : V) (G' P' H' : Hp) (σ' : L2.St), xs[i]? = some x → Join G' P' H' → I i G' P' σ' → g x σ' H' fun σ2 H2 => tb ⟨fun σ3 H3 => ∃ G3 P3, Join G3 P3 H3 ∧ I (i + 1) G3 P3 σ3, rt, nx, fun σ3 H3 => ∃ G3 P3, Join G3 P3 H3 ∧ I (i + 1) G3 P3 σ3⟩ σ2 H2)
    (hq : ∀ (G' P' H' : Hp) (σ' : L2.St), Join G' P' H' → I xs.length G' P' σ' → nx σ' H') : aForT K g tb ⟨nx, rt, bk, ct⟩ σ (.ref a) H := by
  refine ⟨a, rfl, ⟨_, sqT (J.g _ _ hS)⟩, for_tup (xs := xs) (fun i σ' H' => ∃ G3 P3, Join G3 P3 H' ∧ I i G3 P3 σ') ⟨G, P, J, h0⟩ ?_ ?_ ?_⟩
  · rintro i σ' H' _ ⟨G', P', J', hI⟩
    exact sqT (J'.g _ _ (hk _ _ _ _ hI))
  · rintro i x σ' H' hi ⟨G', P', J', hI⟩
    exact hs i x G' P' H' σ' hi J' hI
  · rintro σ' H' ⟨G', P', J', hI⟩
    exact hq G' P' H' σ' J' hI
/-- a list's end grows: the heap's first part, apart from that list -/
theorem append.go {l : Addr} {xs : List V} {G P : Hp} (J : Join G P H) (e : G l = some (.lst xs)) (z : xs.length < 100000) (q : ∀ G' H', But l G G' → Join G' P H' → G' l = some (.lst (xs ++ [y])) → Q .non H') : rAppend (.ref l) [y] H Q :=
  w_append (J.g _ _ e) z (q _ _ (fun b o h n => by rw [upd_ne n]; exact h) (J.setG (J.gp e)) upd_same)
theorem But.trans {x : Addr} {G G1 G2 : Hp} (b1 : But x G G1) (b2 : But x G1 G2) : But x G G2 := fun a o h n => b2 a o (b1 a o h n) n
theorem But.ofEx {x : Addr} {G G1 : Hp} (e : Ex G G1) : But x G G1 := fun a o h _ => e a o h
theorem Ex.but {x : Addr} {G G1 G2 : Hp} (e : Ex G G1) (b : But x G1 G2) (n : G x = none) : Ex G G2 := b.ex e n
theorem w_sl {r : V → Option Int → Option Int → Hp → VK → Prop} {tl th : TO} (h : te σ H fun x H1 => tl σ H1 fun l H2 => th σ H2 fun u H3 => r x l u H3 Q) : tSl r te tl th σ H Q := h
theorem w_npart {S : Option Int → Hp → Prop} (h : S none H) : tNoPart σ H S := h
theorem w_part {S : Option Int → Hp → Prop} (h : te σ H fun x H1 => ∃ i, x = .int i ∧ S (some i) H1) : tPart te σ H S := h
theorem w_pint {k : Int} {S : Int → Prop} (h : S k) : ∃ i, V.int k = V.int i ∧ S i := ⟨k, rfl, h⟩
theorem slL_drop {r : Addr} {xs : List V} {m : Nat} {G P : Hp} (j : Join G P H) (hr : G r = some (.lst xs)) (q : ∀ t G' H', Ex G G' → Join G' P H' → H t = none → G' t = some (.lst (xs.drop m)) → Q (.ref t) H') : rSlL K (.ref r) (some (m : Int)) none H Q := by
  refine ⟨r, xs, rfl, sqL (j.g _ _ hr), fun p hp => q p _ _ (Ex.new (j.ng hp)) (j.newG hp) hp ?_⟩
  rw [upd_same]
  congr 2
  unfold cutV
  rw [HT.sIx_nat, HT.sIx_none]
  by_cases hm : m ≤ xs.length
  · rw [Nat.min_eq_left hm, List.take_of_length_le (by rw [List.length_drop]; omega)]
  · rw [Nat.min_eq_right (by omega), List.drop_length, List.drop_of_length_le (by omega)]; simp
theorem slA_drop {r : Addr} {xs : List V} {m : Nat} {G P : Hp} (j : Join G P H) (hr : G r = some (.tup xs)) (q : ∀ t G' H', Ex G G' → Join G' P H' → G' t = some (.tup (xs.drop m)) → Q (.ref t) H') : rSlA K (.ref r) (some (m : Int)) none H Q := by
  refine ⟨r, xs, rfl, sqT (j.g _ _ hr), fun h => ?_, fun _ p hp => q p _ _ (Ex.new (j.ng hp)) (j.newG hp) ?_⟩
  · have h1 := h.1
    rw [HT.sIx_nat] at h1
    refine q r G H (Ex.refl _) j ?_
    by_cases hm : m = 0
    · subst hm; exact hr
    · have : xs = [] := List.eq_nil_of_length_eq_zero (by omega)
      subst this; simpa using hr
  · rw [upd_same]
    congr 2
    unfold cutV
    rw [HT.sIx_nat, HT.sIx_none]
    by_cases hm : m ≤ xs.length
    · rw [Nat.min_eq_left hm, List.take_of_length_le (by rw [List.length_drop]; omega)]
    · rw [Nat.min_eq_right (by omega), List.drop_length, List.drop_of_length_le (by omega)]; simp
/-- lists of ints as data -/
def dI (l : List Int) : PyData := .list (l.map PyData.int)
theorem shaped_dI (l : List Int) : SeqAt.shaped (dI l) = true := by
  have h1 := lay_ints l
  have h2 := dep_ints l
  unfold SeqAt.shaped dI
  rw [PyData.canLay0, h1, PyData.depth]
  simp
  omega
theorem eqv_dI (l m : List Int) : PyData.eqv (dI l) (dI m) = decide (l = m) := by
  unfold dI; rw [PyData.eqv]; exact eqv_ints l m
theorem neD_I {a b : Addr} {l m : List Int} {G P : Hp} (J : Join G P H) (ha : G a = some (.lst (l.map V.int))) (hb : G b = some (.lst (m.map V.int))) (q : Q (.bl (!decide (l = m))) H) : rNeD K (.ref a) (.ref b) H Q :=
  ⟨_, _, .lst (sqL (J.g _ _ ha)) (dp_ints l), .lst (sqL (J.g _ _ hb)) (dp_ints m), shaped_dI _, shaped_dI _, by rw [show PyData.eqv (.list (l.map PyData.int)) (.list (m.map PyData.int)) = decide (l = m) from eqv_dI l m]; exact q⟩
theorem eqD_I {a b : Addr} {l m : List Int} {G P : Hp} (J : Join G P H) (ha : G a = some (.lst (l.map V.int))) (hb : G b = some (.lst (m.map V.int))) (q : Q (.bl (decide (l = m))) H) : rEqD K (.ref a) (.ref b) H Q :=
  ⟨_, _, .lst (sqL (J.g _ _ ha)) (dp_ints l), .lst (sqL (J.g _ _ hb)) (dp_ints m), shaped_dI _, shaped_dI _, by rw [show PyData.eqv (.list (l.map PyData.int)) (.list (m.map PyData.int)) = decide (l = m) from eqv_dI l m]; exact q⟩
end
end Lv

/-! range(i, j) of numbers of any size -/
namespace Lv
open PySem PySem.Spec PyProof.Rows L2
theorem turn_long {P : Program} {w : World} {K : PySem.W.Frag} {tg : Expr} (it : Addr) (lo : Int) (n : Nat) : Turn P w K tg (Itr lo n) [it] it (fun i h => IsLongIter h it (lo + (i : Nat) * 1) ((n : Int) - (i : Nat)) 1) where
  mem := by simp
  obj := fun i h st b hb => by
    have e : b = it := by simpa using hb
    subst e
    exact ⟨_, st, fun v z => by
      have z' : Data.fields _ = Data.cell v := z
      cases z'⟩
  keep := fun i h h' st k => k it (by simp) _ st
  item := by
    intro X hP hw hK hc i pins s σ H E I hf st hg
    subst hP hw hK
    obtain ⟨f0, f1, f2, f3, f4, f5⟩ := hf it (by simp)
    have W := Walks.longrange (prog := X.prog) (w := X.w) (I.ok.hd hc) it lo 1 n
    refine W.item i s _ _ hg st fun v h' tk hv st' kk => ?_
    obtain ⟨t, rfl⟩ := hv
    have I1 : Inv X pins σ H { s with heap := h', toks := tk } := I.turned (fun b o hb e => kk b o (by simpa using hb) e) f0 f1 f3 f4 f5
    refine ⟨_, rfl, go_of (s := { s with heap := h', toks := tk }) (n := "longrange_iterator") st' rfl rfl (by decide) ⟨.int (lo + i), H, I1, ⟨t, ?_⟩, ⟨rfl, rfl⟩, st', fun b hb => (hf b hb).1⟩⟩
    rw [Int.mul_one]
  done := by
    intro X hP hw hK hc i pins s σ H E I hf st hg
    subst hP hw hK
    obtain ⟨f0, f1, f2, f3, f4, f5⟩ := hf it (by simp)
    exact wpAny_pyNext_long_end (I.ok.hd hc) st (by have : n ≤ i := hg; omega) fun h' eb => ⟨rfl, I.turned (t' := s.toks) (fun b o hb e => eb b o hb e) f0 f1 f3 f4 f5⟩
  self := fun _ _ _ _ _ st h => wpAny_pyIter_longiter st h
section
variable {X : Cx} {tg : Expr}
theorem range_itW {pins : List (Addr × Obj)} {σ : L2.St} {H : Hp} {s : Shared} {R : It → Hp → Prop} {E : Value → Shared → Prop} {lo hi : Int} {t u v : Tok} {tk : Nat} (I : Inv X pins σ H s)
    (q : R (Itr lo (hi - lo).toNat) H) : wpAny (model X.prog X.w) X.A (pyIter (.ref s.heap.objs.size)) (PIE X pins σ tg R) E { s with heap := s.heap.push { cls := .type "range", data := .fields #[.int lo t, .int hi u, .int 1 v] }, toks := tk } := by
  have I1 : Inv X pins σ H { s with heap := s.heap.push { cls := .type "range", data := .fields #[.int lo t, .int hi u, .int 1 v] }, toks := tk } := I.kept fun b o e => Heap.get?_push_of_some _ e
  have e1 : lo + ((0 : Nat) : Int) * 1 = lo := by simp
  have e2 : (((hi - lo).toNat : Nat) : Int) - ((0 : Nat) : Int) = Builtin.Range.rangeSize lo hi 1 := by rw [rangeSize_one]; split <;> omega
  cases hsm : Builtin.Range.small lo hi 1 with
  | true =>
    refine wpAny_pyIter_range (IsRange.new ..) hsm ?_
    refine ⟨(s.heap.push { cls := .type "range", data := .fields #[.int lo t, .int hi u, .int 1 v] }).objs.size, [(s.heap.push { cls := .type "range", data := .fields #[.int lo t, .int hi u, .int 1 v] }).objs.size], _, _, H, rfl,
      I1.kept (t' := tk) fun b o e => Heap.get?_push_of_some _ e, turn_range _ lo (hi - lo).toNat, ?_, fun b hb => ?_, q⟩
    · show IsRangeIter _ _ (lo + ((0 : Nat) : Int) * 1) ((((hi - lo).toNat : Nat) : Int) - ((0 : Nat) : Int)) 1
      rw [e1, e2]
      exact Heap.get?_push_size _ rfl
    · have e : b = (s.heap.push { cls := .type "range", data := .fields #[.int lo t, .int hi u, .int 1 v] }).objs.size := by simpa using hb
      subst e
      exact I1.fpOk (Nat.le_refl _) (I1.hok.fresh (Nat.le_refl _))
  | false =>
    refine wpAny_pyIter_longrange (IsRange.new ..) hsm ?_
    refine ⟨(s.heap.push { cls := .type "range", data := .fields #[.int lo t, .int hi u, .int 1 v] }).objs.size, [(s.heap.push { cls := .type "range", data := .fields #[.int lo t, .int hi u, .int 1 v] }).objs.size], _, _, H, rfl,
      I1.kept (t' := tk) fun b o e => Heap.get?_push_of_some _ e, turn_long _ lo (hi - lo).toNat, ?_, fun b hb => ?_, q⟩
    · show IsLongIter _ _ (lo + ((0 : Nat) : Int) * 1) ((((hi - lo).toNat : Nat) : Int) - ((0 : Nat) : Int)) 1
      rw [e1, e2]
      exact Heap.get?_push_size _ rfl
    · have e : b = (s.heap.push { cls := .type "range", data := .fields #[.int lo t, .int hi u, .int 1 v] }).objs.size := by simpa using hb
      subst e
      exact I1.fpOk (Nat.le_refl _) (I1.hok.fresh (Nat.le_refl _))
def iRngW (ta : TA) : TI := fun σ H R => ta σ H fun vs H1 => ∃ i j : Int, vs = [.int i, .int j] ∧ R (Itr i (j - i).toNat) H1
theorem pi_rangeW {a b : Expr} {ta : TA} {p pos : Pos} (hg : Gl X "range") (hm : X.mg "range" = none) (ha : PA X [a, b] ta) (hs : starEach [a, b] X.env = [(false, eval a X.env), (false, eval b X.env)] := by rfl) (hs2 : starEach [b] X.env = [(false, eval b X.env)] := by rfl) :
    PI X tg (.Call (.Name "range" p) [a, b] [] pos) (iRngW ta) := by
  refine ⟨fun pins s σ H R I h => ?_⟩
  refine Call_ (ld_blt I hg hm boot_range (PyProof.Rows.callWith_type1 (thn (ha.run pos pins s σ H _ I h) fun us s1 ⟨vs, H1, I1, r1, q1⟩ => ?_) (by rw [hs, hs2]) (by rw [hs2]; rfl)))
  obtain ⟨i, j, e, q⟩ := q1
  subst e
  cases r1 with
  | cons r rr =>
    cases rr with
    | cons r' rr =>
      cases rr
      obtain ⟨t, rfl⟩ := r
      obtain ⟨t', rfl⟩ := r'
      exact call_range_2 (range_itW I1 q)
end
end Lv

/-! is True, comprehensions over enumerate and range(i, j), in for ints -/
namespace Lv
open PySem PySem.Spec PyProof.Rows L2
def rIsB (neg : Bool) : R2 := fun x y H Q => ∃ a b, x = .bl a ∧ y = .bl b ∧ Q (.bl (if neg then !decide (a = b) else decide (a = b))) H
theorem bl_beq (a b : Bool) : (Value.bool a == Value.bool b) = decide (a = b) := by cases a <;> cases b <;> rfl
section
variable {X : Cx} {K : PySem.W.Frag} {o e : Expr} {es : List Expr} {to : TE} {t : TA} {name : Str} {apos cpos : Pos} {T id : String} {r : V → List V → Hp → VK → Prop}
theorem mt_indexK (h : X.K = K) : MtR X "list.index" (rIndex K) := h ▸ mt_index
theorem pe_bmK (h : X.K = K) (pa : PlainAttrs T) (slot : Slot T name id) (hty : typeOf (.builtin id) = pure (.type "method_descriptor")) (hm : MtR X id r) (ho : PE X o to) (ha : PA X (e :: es) t)
    (hbase : attributeBase o name X.env (eval o X.env) = eval o X.env := by rfl)
    (hfew : ((backTo cpos (starEach (e :: es) X.env)).all (fun x => !x.1) && (backToKw cpos (keywordEach [] X.env)).all (fun x => x.1.isSome)
      && decide ((e :: es).length + ([] : List Keyword).length + (if ([] : List Keyword).isEmpty then 0 else 1) < 30)) = true := by rfl)
    (hline : (apos.endLine == cpos.line) = true := by rfl) (hs : starEach (e :: es) X.env = (false, eval e X.env) :: starEach es X.env := by rfl) (hplain : (backTo cpos (starEach es X.env)).any (·.1) = false := by rfl) :
    PE X (.Call (.Attribute o name apos) (e :: es) [] cpos) (tBM K T r to t) := h ▸ pe_bm pa slot hty hm ho ha hbase hfew hline hs hplain
end
section
variable {X : Cx}
theorem op_isB : OpR X (compareOp .Is) (rIsB false) := by
  intro pins s σ H x y v u Q I rx ry h
  obtain ⟨a, b, rfl, rfl, q⟩ := h
  cases (show v = Value.bool a from rx)
  cases (show u = Value.bool b from ry)
  exact wpAny_is_plain rfl (fin_bl I q (bl_beq a b).symm)
theorem op_isNotB : OpR X (compareOp .IsNot) (rIsB true) := by
  intro pins s σ H x y v u Q I rx ry h
  obtain ⟨a, b, rfl, rfl, q⟩ := h
  cases (show v = Value.bool a from rx)
  cases (show u = Value.bool b from ry)
  exact wpAny_isNot_plain rfl (fin_bl I q (congrArg not (bl_beq a b).symm))
end
section
variable {K : PySem.W.Frag} {σ : L2.St} {H : Hp} {Q : VK} {nx bk ct : L2.St → Hp → Prop} {rt : VK} {D : Ends} {v x y : V} {te ta tb : TE} {tt uu : TT} {t u : TS} {as : TA} {g : TG} {i j : Nat}
theorem w_isB {a b : Bool} (h : Q (.bl (decide (a = b))) H) : rIsB false (.bl a) (.bl b) H Q := ⟨a, b, rfl, rfl, h⟩
theorem w_isNB {a b : Bool} (h : Q (.bl (!decide (a = b))) H) : rIsB true (.bl a) (.bl b) H Q := ⟨a, b, rfl, rfl, h⟩
theorem lc_enumT {a : Addr} {xs : List V} {vs : List Nat} {H1 : Hp} {D : Addr} {Qd : Hp → Prop} (Pv : Nat → Hp → Prop) (h0 : Pv 0 (upd H1 D (.lst []))) (hl : ∀ i H, i ≤ xs.length → Pv i H → SqT K H a xs)
    (hs : ∀ (i : Nat) x H T, xs[i]? = some x → Pv i H → H T = none → g (.ref T) (wipe σ vs) (upd H T (.tup [.int i, x])) fun σ2 H2 => wipe σ2 vs = wipe σ vs ∧ tt σ2 H2 fun b H3 =>
      if b = true then te σ2 H3 fun y H4 => ∃ acc, H4 D = some (.lst acc) ∧ acc.length < sizeLine ∧ Pv (i + 1) (upd H4 D (.lst (acc ++ [y]))) else Pv (i + 1) H3) (hd : ∀ H, Pv xs.length H → Qd H) :
    ∃ W : Nat → Nat → Hp → Prop, (∃ m, W 0 m (upd H1 D (.lst []))) ∧ ∀ i m H, W i m H →
      ((Itet K a).stop i H ∧ Qd H) ∨ ((Itet K a).go i H ∧ ∃ Nx : Hp → Prop, (∀ H', Nx H' → ∃ m', m' < m ∧ W (i + 1) m' H') ∧ ∀ x H', (Itet K a).yld i H x H' → g x (wipe σ vs) H' fun σ2 H2 => wipe σ2 vs = wipe σ vs ∧ tt σ2 H2 fun b H3 =>
        if b = true then te σ2 H3 fun y H4 => ∃ acc, H4 D = some (.lst acc) ∧ acc.length < sizeLine ∧ Nx (upd H4 D (.lst (acc ++ [y]))) else Nx H3) := by
  refine ⟨fun i m H => m = xs.length - i ∧ i ≤ xs.length ∧ Pv i H, ⟨xs.length, by simp, Nat.zero_le _, h0⟩, ?_⟩
  rintro i m H ⟨rfl, hi, p⟩
  have q := hl i H hi p
  by_cases hlt : i < xs.length
  · refine .inr ⟨⟨xs, xs[i], q, by simp [hlt]⟩, Pv (i + 1), fun H' p' => ⟨xs.length - (i + 1), by omega, rfl, hlt, p'⟩, fun x H' y => ?_⟩
    obtain ⟨T, z, e1, e2, e3, y⟩ := y
    subst e1 e3
    exact hs i z H T (y xs q) p e2
  · have e : i = xs.length := by omega
    subst e
    exact .inl ⟨⟨xs, q, rfl⟩, hd H p⟩
/-- [.. for .. in enumerate(t)] -/
def aLcE (K : PySem.W.Frag) (g : TG) (tt : TT) (te : TE) (vs : List Nat) (σ : L2.St) : List V → Hp → VK → Prop := fun us H Q => tLc (fun _ H R => ∃ a xs, us = [.ref a] ∧ SqT K H a xs ∧ R (Itet K a) H) g tt te vs σ H Q
theorem w_lcE {ts : List Nat} (h : as σ H fun xs H1 => aLcE K g tt te ts σ xs H1 Q) : tLc (iEnumT K as) g tt te ts σ H Q := h
theorem aLcE.go {a : Addr} {xs : List V} {ts : List Nat} {G P : Hp} (Pp : Hp → Prop) (I : Nat → List V → Hp → Prop) (J : Join G P H) (hP : Pp P)
    (hS : G a = some (.tup xs)) (h0 : ∀ G', Ex G G' → I 0 [] G') (hI : ∀ i ws G2 D us ts, G2 D = some (.lst us) → I i ws G2 → I i ws (upd G2 D (.lst ts))) (hz : ∀ i ws G2, I i ws G2 → ws.length ≤ 1000000)
    (hm : ∀ i ws G2 G3, Ex G2 G3 → I i ws G2 → I i ws G3)
    (hs : ∀ (i : Nat) (x : V) (T : Addr) (ws : List V) (G' P' H' : Hp) (R : VK) (R0 : Hp → Prop), xs[i]? = some x → Ex G G' → I i ws G' → Pp P' → Join G' P' H' → G' T = some (.tup [.int i, x]) →
      (∀ v G2 P2 H2, Ex G' G2 → Pp P2 → Join G2 P2 H2 → I (i + 1) (ws ++ [v]) G2 → R v H2) → (∀ G2 P2 H2, Ex G' G2 → Pp P2 → Join G2 P2 H2 → I (i + 1) ws G2 → R0 H2) →
      g (.ref T) (wipe σ ts) H' fun σ2 H2 => wipe σ2 ts = wipe σ ts ∧ tt σ2 H2 fun b H3 => if b = true then te σ2 H3 R else R0 H3)
    (hq : ∀ p ws G' P' H', H p = none → Ex G G' → G' p = some (.lst ws) → I xs.length ws G' → Pp P' → Join G' P' H' → Q (.ref p) H') : aLcE K g tt te ts σ [.ref a] H Q := by
  refine ⟨a, xs, rfl, sqT (J.g _ _ hS), fun D hD => ?_⟩
  have gD : G D = none := J.ng hD
  refine lc_enumT (K := K) (a := a) (xs := xs) (fun i H' => ∃ (ws : List V) (G' P' : Hp), Ex G G' ∧ G' D = some (.lst ws) ∧ I i ws G' ∧ Pp P' ∧ Join G' P' H') ⟨[], _, P, Ex.new gD, upd_same, h0 _ (Ex.new gD), hP, J.newG hD⟩ (fun i H' _ ⟨ws, G', P', e, _, _, _, j⟩ => (e.trans j.exG).t (sqT hS)) (fun i x H' T hi ⟨ws, G', P', e, hd, hi2, hp, j⟩ hT => ?_) (fun H' ⟨ws, G', P', e, hd, hi2, hp, j⟩ => hq D ws G' P' H' hD e hd hi2 hp j)
  have eT := Ex.new (o := .tup [.int (i : Int), x]) (j.ng hT)
  refine hs i x T ws _ P' _ _ _ hi (e.trans eT) (hm _ _ _ _ eT hi2) hp (j.newG hT) upd_same (fun v G2 P2 H2 e2 hp2 j2 hi3 => ⟨ws, j2.g _ _ (e2 _ _ (eT _ _ hd)), Nat.lt_of_le_of_lt (hz _ _ _ hi2) (by decide), ws ++ [v], _, P2, ?_, upd_same, hI _ _ _ _ _ _ (e2 _ _ (eT _ _ hd)) hi3, hp2, j2.setG (j2.gp (e2 _ _ (eT _ _ hd)))⟩) (fun G2 P2 H2 e2 hp2 j2 hi3 => ⟨ws, G2, P2, (e.trans eT).trans e2, e2 _ _ (eT _ _ hd), hi3, hp2, j2⟩)
  exact ((e.trans eT).trans e2).mut gD
/-- range(i, j) -/
def aLcR2 (g : TG) (tt : TT) (te : TE) (vs : List Nat) (σ : L2.St) : List V → Hp → VK → Prop := fun xs H Q => tLc (fun _ H R => ∃ i j : Int, xs = [.int i, .int j] ∧ R (Itr i (j - i).toNat) H) g tt te vs σ H Q
theorem w_lcR2 {ts : List Nat} (h : as σ H fun xs H1 => aLcR2 g tt te ts σ xs H1 Q) : tLc (iRngW as) g tt te ts σ H Q := h
theorem aLcR2.go {lo hi : Int} {n : Nat} {ts : List Nat} {G P : Hp} (Pp : Hp → Prop) (I : Nat → List V → Hp → Prop) (J : Join G P H) (hP : Pp P) (hn : (hi - lo).toNat = n) (hb : -1000000 ≤ hi - lo ∧ hi - lo ≤ 1000000)
    (h0 : ∀ G', Ex G G' → I 0 [] G') (hI : ∀ i ws G2 D us ts, G2 D = some (.lst us) → I i ws G2 → I i ws (upd G2 D (.lst ts))) (hz : ∀ i ws G2, I i ws G2 → ws.length ≤ 1000000)
    (hs : ∀ (i : Nat) (ws : List V) (G' P' H' : Hp) (R : VK) (R0 : Hp → Prop), i < n → Ex G G' → I i ws G' → Pp P' → Join G' P' H' →
      (∀ v G2 P2 H2, Ex G' G2 → Pp P2 → Join G2 P2 H2 → I (i + 1) (ws ++ [v]) G2 → R v H2) → (∀ G2 P2 H2, Ex G' G2 → Pp P2 → Join G2 P2 H2 → I (i + 1) ws G2 → R0 H2) →
      g (.int (lo + i)) (wipe σ ts) H' fun σ2 H2 => wipe σ2 ts = wipe σ ts ∧ tt σ2 H2 fun b H3 => if b = true then te σ2 H3 R else R0 H3)
    (hq : ∀ p ws G' P' H', H p = none → Ex G G' → G' p = some (.lst ws) → I n ws G' → Pp P' → Join G' P' H' → Q (.ref p) H') : aLcR2 g tt te ts σ [.int lo, .int hi] H Q := by
  subst hn
  exact ⟨lo, hi, rfl, fun D hD => lcG_range (lo := lo) (n := (hi - lo).toNat) Pp I hD J hP (h0 _ (Ex.new (J.ng hD))) (fun i ws G2 us ts' h1 h2 => hI i ws G2 D us ts' h1 h2) hz hs fun ws G' P' H' e hd hi hp j => hq D ws G' P' H' hD e hd hi hp j⟩
def aForR2 (g : TG) (tb : TS) (D : Ends) (σ : L2.St) : List V → Hp → Prop := fun vs H => tFor (fun _ H R => ∃ i j : Int, vs = [.int i, .int j] ∧ R (Itr i (j - i).toNat) H) g tb D σ H
theorem w_forR2 {tb : TS} (h : as σ H fun vs H1 => aForR2 g tb D σ vs H1) : tFor (iRngW as) g tb D σ H := h
theorem aForR2.go {tb : TS} {G P : Hp} {lo hi : Int} {n : Nat} (hn : (hi - lo).toNat = n) (hb : -1000000 ≤ hi - lo ∧ hi - lo ≤ 1000000) (I : Nat → Hp → Hp → L2.St → Prop) (J : Join G P H) (h0 : I 0 G P σ)
    (hs : ∀ (i : Nat) (G' P' H' : Hp) (σ' : L2.St), i < n → Join G' P' H' → I i G' P' σ' → g (.int (lo + i)) σ' H' fun σ2 H2 => tb ⟨fun σ3 H3 => ∃ G3 P3, Join G3 P3 H3 ∧ I (i + 1) G3 P3 σ3, rt, nx, fun σ3 H3 => ∃ G3 P3, Join G3 P3 H3 ∧ I (i + 1) G3 P3 σ3⟩ σ2 H2)
    (hq : ∀ (G' P' H' : Hp) (σ' : L2.St), Join G' P' H' → I n G' P' σ' → nx σ' H') : aForR2 g tb ⟨nx, rt, bk, ct⟩ σ [.int lo, .int hi] H := by
  subst hn
  refine ⟨lo, hi, rfl, for_range (lo := lo) (n := (hi - lo).toNat) (fun i σ' H' => ∃ G3 P3, Join G3 P3 H' ∧ I i G3 P3 σ') ⟨G, P, J, h0⟩ ?_ ?_⟩
  · rintro i σ' H' hi ⟨G', P', J', hI⟩
    exact hs i G' P' H' σ' hi J' hI
  · rintro σ' H' ⟨G', P', J', hI⟩
    exact hq G' P' H' σ' J' hI
/-- a, b = x, y -/
def aPar (i j : Nat) (N : L2.St → Hp → Prop) (σ : L2.St) : List V → Hp → Prop := fun vs H => ∃ v w, vs = [v, w] ∧ N ((σ.set i (some v)).set j (some w)) H
theorem w_par (h : as σ H fun vs H1 => aPar i j nx σ vs H1) : tPar i j as ⟨nx, rt, bk, ct⟩ σ H := h
theorem w_apar {N : L2.St → Hp → Prop} (h : N ((σ.set i (some x)).set j (some y)) H) : aPar i j N σ [x, y] H := ⟨x, y, rfl, h⟩
theorem w_chain {r r' : R2} {tc : TE} (h : ta σ H fun x H1 => tb σ H1 fun y H2 => r x y H2 fun z H3 => ∃ k, z = .bl k ∧ (if k = true then tc σ H3 fun w' H4 => r' y w' H4 Q else Q (.bl false) H3)) : tChain r r' ta tb tc σ H Q := h
theorem atI_end1 {ws : List V} {n : Nat} {v : V} (hl : ws.length = n + 1) (h : ws[n]? = some v) : atI ws (-1) = some v := by
  have h1 : ws = ws.take n ++ [v] := by
    have h2 := take_more h
    rw [show n + 1 = ws.length by omega, List.take_length] at h2
    exact h2
  rw [h1]; exact atI_last _ _
theorem atI_end2 {ws : List V} {n : Nat} {v : V} (hl : ws.length = n + 2) (h : ws[n]? = some v) : atI ws (-2) = some v := by
  unfold atI ixN
  rw [hl, if_neg (by decide), if_pos (by omega)]
  show ws[((-2 : Int) + ((n + 2 : Nat) : Int)).toNat]? = some v
  rw [show ((-2 : Int) + ((n + 2 : Nat) : Int)).toNat = n by omega]; exact h
/-! in -/
theorem inV_ints (x : Int) : ∀ ns : List Int, inV (.int x) (ns.map V.int) = decide (x ∈ ns)
  | [] => by simp [inV]
  | a :: r => by
    have ih := inV_ints x r
    unfold inV at *
    rw [List.map_cons, List.any_cons, ih]
    show ((a == x) || _) = _
    by_cases h : a = x
    · subst h; simp
    · have h2 : (a == x) = false := by simp [h]
      rw [h2, Bool.false_or]
      exact decide_eq_decide.mpr ⟨fun h => List.mem_cons_of_mem _ h, fun q => (List.mem_cons.mp q).resolve_left fun z => h z.symm⟩
theorem all_flat (ns : List Int) : (ns.map V.int).all flatV = true := List.all_eq_true.mpr fun v hv => by
  obtain ⟨a, _, rfl⟩ := List.mem_map.mp hv
  rfl
theorem in_go {neg : Bool} {k : Int} {p : Addr} {ns : List Int} {G P : Hp} (J : Join G P H) (h : G p = some (.lst (ns.map V.int)) ∨ G p = some (.tup (ns.map V.int))) (q : Q (.bl (if neg then !decide (k ∈ ns) else decide (k ∈ ns))) H) : rIn K neg (.int k) (.ref p) H Q :=
  ⟨p, ns.map V.int, rfl, h.imp (fun h => sqL (J.g _ _ h)) (fun h => sqT (J.g _ _ h)), rfl, all_flat ns, by rw [inV_ints]; exact q⟩
/-! list(range(..)), list.index -/
def aLstRg (a b : Int) : Hp → VK → Prop := fun H Q => RgOk a b ∧ ∀ q, H q = none → Q (.ref q) (upd H q (.lst (rgV a b)))
theorem w_lstRg {tr : L2.St → Hp → (Int → Int → Hp → Prop) → Prop} (h : tr σ H fun a b H1 => aLstRg a b H1 Q) : tLstRg tr σ H Q := h
theorem w_rg1 {S : Int → Int → Hp → Prop} (h : ta σ H fun x H1 => ∃ n, x = .int n ∧ S 0 n H1) : tRg1 ta σ H S := h
theorem aLstRg.go {n : Nat} {m : Int} {G P : Hp} (J : Join G P H) (hn : m = n) (hm : n ≤ 100000) (q : ∀ p G' H', H p = none → Ex G G' → Join G' P H' → G' p = some (.lst (rV (List.range n))) → Q (.ref p) H') : aLstRg 0 m H Q := by
  subst hn
  refine ⟨RgOk.of_le (by omega) (by omega) (by omega) (by omega), fun p hp => q p _ _ hp (Ex.new (J.ng hp)) (J.newG hp) ?_⟩
  rw [upd_same]
  congr 2
  unfold rgV rV
  rw [Int.sub_zero, Int.toNat_natCast]
  refine List.map_congr_left fun i _ => ?_
  rw [Int.zero_add]
theorem idx_first : ∀ (ks : List Nat) (k : Nat), k ∈ ks → ks[ks.idxOf k]? = some k ∧ ∀ m : Nat, m < ks.idxOf k → ks[m]? ≠ some k
  | a :: r, k, h => by
    by_cases e : a = k
    · subst e
      rw [List.idxOf_cons_self]
      exact ⟨rfl, fun m hm => absurd hm (Nat.not_lt_zero _)⟩
    · have hr : k ∈ r := (List.mem_cons.mp h).resolve_left fun q => e q.symm
      obtain ⟨h1, h2⟩ := idx_first r k hr
      have e2 : (a :: r).idxOf k = r.idxOf k + 1 := by rw [List.idxOf_cons, show (a == k) = false by simp [e]]; rfl
      rw [e2]
      refine ⟨h1, fun m hm => ?_⟩
      cases m with
      | zero => exact fun q => e (Option.some.inj q)
      | succ m => exact h2 m (by omega)
theorem index_go {a : Addr} {ks : List Nat} {k : Nat} {G P : Hp} (J : Join G P H) (h : G a = some (.lst (rV ks))) (hk : k ∈ ks) (q : Q (.int ((ks.idxOf k : Nat) : Int)) H) : rIndex K (.ref a) [.int (k : Int)] H Q := by
  obtain ⟨h1, h2⟩ := idx_first ks k hk
  refine ⟨a, rV ks, .int k, ks.idxOf k, .int k, rfl, rfl, sqL (J.g _ _ h), rfl, ?_, ?_, ?_, fun m z hm hz => ?_, q⟩
  · have := all_flat (ks.map fun (i : Nat) => (i : Int))
    rw [List.map_map] at this; exact this
  · rw [rV, List.getElem?_map, h1]; rfl
  · show ((k : Int) == (k : Int)) = true
    simp
  · obtain ⟨y, hy, rfl⟩ := rV_at hz
    show ((y : Int) == (k : Int)) = false
    have : y ≠ k := fun e => h2 m hm (by rw [hy, e])
    simp; omega
end
section
variable {α : Type} {f : α → List V} {G G' : Hp} {vs ws : List V} {as bs : List α}
theorem TupL.app (h : TupL f G vs as) (h' : TupL f G ws bs) : TupL f G (vs ++ ws) (as ++ bs) := ⟨by simp [h.1, h'.1], fun i a ha => by
  by_cases hi : i < as.length
  · rw [List.getElem?_append_left hi] at ha
    obtain ⟨v, h1, h2⟩ := h.2 i a ha
    exact ⟨v, by rw [List.getElem?_append_left (by rw [h.1]; exact hi)]; exact h1, h2⟩
  · rw [List.getElem?_append_right (by omega)] at ha
    obtain ⟨v, h1, h2⟩ := h'.2 _ a ha
    exact ⟨v, by rw [List.getElem?_append_right (by rw [h.1]; omega), h.1]; exact h1, h2⟩⟩
theorem TupL.one {t : Addr} {a : α} (h : G t = some (.tup (f a))) : TupL f G [.ref t] [a] := TupL.add .nil h
theorem TupL.take (h : TupL f G vs as) (m : Nat) : TupL f G (vs.take m) (as.take m) := ⟨by simp [h.1], fun i a ha => by
  have h1 : i < m := by
    have := (List.getElem?_eq_some_iff.mp ha).1
    rw [List.length_take] at this; omega
  rw [List.getElem?_take, if_pos h1] at ha
  obtain ⟨v, h2, h3⟩ := h.2 i a ha
  exact ⟨v, by rw [List.getElem?_take, if_pos h1]; exact h2, h3⟩⟩
theorem TupL.drop (h : TupL f G vs as) (m : Nat) : TupL f G (vs.drop m) (as.drop m) := ⟨by simp [h.1], fun i a ha => by
  rw [List.getElem?_drop] at ha
  obtain ⟨v, h2, h3⟩ := h.2 _ a ha
  exact ⟨v, by rw [List.getElem?_drop]; exact h2, h3⟩⟩
end
end Lv

/-! exceptions of own classes; values of any kind -/
namespace Lv
open PySem PySem.Spec PyProof.Rows L2
theorem pmk_exc0 {X : Cx} {x : Str} {p pos : Pos} (c : (He.Fa.exc x).ok X.K = true) (gC : X.mg x = some (.ref (He.ga X.K x))) (hg : Gl X x) (hdb : (x == ("__debug__" : Str)) = false := by decide) :
    PMk X (.Call (.Name x p) [] [] pos) (fun _ H Q => Q (.ref (He.ga X.K x)) none H) := by
  obtain ⟨q, kC, s1, t1⟩ := He.exc_ok c
  intro pins s σ H Q I h
  refine wpAny_Call_Name_kw (ld_glob I hg gC ?_ hdb)
  refine PySem.W.callWith_K0 I.kIn kC ?_
  show wpAny _ _ (call (.ref (He.ga X.K x)) []) _ _ _
  obtain ⟨bm, N, nm, qn, bs, hdct, sn, sub, ab, col, dd, k0, k1, k2, k3, k5, mN, hC, hN, hni, T⟩ := exc_obj I.kIn q
  refine wpAny_call_exc_subT PySem.F.excBase_ValueError T hC hN hni (fun h' e hm => ?_) (by show 0 ≤ sizeLine; exact Nat.zero_le _)
  exact mk_of I hm (raises_own s1 t1) h (I.hok.gone hm.new)
/-- a value of a kind that the laws draw -/
inductive Kd (G : Hp) : V → Prop where
  | int (n : Int) : Kd G (.int n)
  | bl (b : Bool) : Kd G (.bl b)
  | non : Kd G .non
  | str (z : Str) : Kd G (.str z)
  | lst {a : Addr} {xs : List V} (h : G a = some (.lst xs)) : Kd G (.ref a)
  | tup {a : Addr} {xs : List V} (h : G a = some (.tup xs)) : Kd G (.ref a)
  | dic {a : Addr} {kvs : List (L2.Key × V)} (h : G a = some (.dK kvs)) : Kd G (.ref a)
theorem Kd.mono {G G' : Hp} (e : Ex G G') {v : V} (h : Kd G v) : Kd G' v := by
  cases h with
  | int n => exact .int n
  | bl b => exact .bl b
  | non => exact .non
  | str z => exact .str z
  | lst h => exact .lst (e _ _ h)
  | tup h => exact .tup (e _ _ h)
  | dic h => exact .dic (e _ _ h)
def isI : V → Bool
  | .int _ => true
  | _ => false
def isB : V → Bool
  | .bl _ => true
  | _ => false
section
variable {K : PySem.W.Frag} {G H : Hp} {v : V} {Q : VK}
theorem isi_I (J : Ex G H) (h : Kd G v) (q : Q (.bl (isI v || isB v)) H) : rIsi K [v, .ty "int"] H Q := by
  cases h with
  | int n => exact ⟨_, _, _, _, true, rfl, .ty _, .base (.int n), kit_ty (by decide +kernel), q⟩
  | bl b => exact ⟨_, _, _, _, true, rfl, .ty _, .base (.bl b), kit_ty (by decide +kernel), q⟩
  | non => exact ⟨_, _, _, _, false, rfl, .ty _, .base .non, kit_ty (by decide +kernel), q⟩
  | str z => exact ⟨_, _, _, _, false, rfl, .ty _, .base (.str z), kit_ty (by decide +kernel), q⟩
  | lst h => exact ⟨_, _, _, _, false, rfl, .ty _, .base (.lst (J _ _ h)), kit_ty (by decide +kernel), q⟩
  | tup h => exact ⟨_, _, _, _, false, rfl, .ty _, .base (.tup (J _ _ h)), kit_ty (by decide +kernel), q⟩
  | dic h => exact ⟨_, _, _, _, false, rfl, .ty _, .base (.dK (J _ _ h)), kit_ty (by decide +kernel), q⟩
theorem isi_B (J : Ex G H) (h : Kd G v) (q : Q (.bl (isB v)) H) : rIsi K [v, .ty "bool"] H Q := by
  cases h with
  | int n => exact ⟨_, _, _, _, false, rfl, .ty _, .base (.int n), kit_ty (by decide +kernel), q⟩
  | bl b => exact ⟨_, _, _, _, true, rfl, .ty _, .base (.bl b), kit_ty (by decide +kernel), q⟩
  | non => exact ⟨_, _, _, _, false, rfl, .ty _, .base .non, kit_ty (by decide +kernel), q⟩
  | str z => exact ⟨_, _, _, _, false, rfl, .ty _, .base (.str z), kit_ty (by decide +kernel), q⟩
  | lst h => exact ⟨_, _, _, _, false, rfl, .ty _, .base (.lst (J _ _ h)), kit_ty (by decide +kernel), q⟩
  | tup h => exact ⟨_, _, _, _, false, rfl, .ty _, .base (.tup (J _ _ h)), kit_ty (by decide +kernel), q⟩
  | dic h => exact ⟨_, _, _, _, false, rfl, .ty _, .base (.dK (J _ _ h)), kit_ty (by decide +kernel), q⟩
/-- a tuple or not -/
theorem isi_T (J : Ex G H) (h : Kd G v) (q1 : ∀ a xs, v = .ref a → G a = some (.tup xs) → Q (.bl true) H) (q2 : (∀ a xs, v = .ref a → G a ≠ some (.tup xs)) → Q (.bl false) H) : rIsi K [v, .ty "tuple"] H Q := by
  cases h with
  | int n => exact ⟨_, _, _, _, false, rfl, .ty _, .base (.int n), kit_ty (by decide +kernel), q2 fun a xs h => nomatch h⟩
  | bl b => exact ⟨_, _, _, _, false, rfl, .ty _, .base (.bl b), kit_ty (by decide +kernel), q2 fun a xs h => nomatch h⟩
  | non => exact ⟨_, _, _, _, false, rfl, .ty _, .base .non, kit_ty (by decide +kernel), q2 fun a xs h => nomatch h⟩
  | str z => exact ⟨_, _, _, _, false, rfl, .ty _, .base (.str z), kit_ty (by decide +kernel), q2 fun a xs h => nomatch h⟩
  | lst h => exact ⟨_, _, _, _, false, rfl, .ty _, .base (.lst (J _ _ h)), kit_ty (by decide +kernel), q2 fun a xs e q => by injection e with e; subst e; rw [h] at q; cases q⟩
  | tup h => exact ⟨_, _, _, _, true, rfl, .ty _, .base (.tup (J _ _ h)), kit_ty (by decide +kernel), q1 _ _ rfl h⟩
  | dic h => exact ⟨_, _, _, _, false, rfl, .ty _, .base (.dK (J _ _ h)), kit_ty (by decide +kernel), q2 fun a xs e q => by injection e with e; subst e; rw [h] at q; cases q⟩
end
section
variable {K : PySem.W.Frag} {σ : L2.St} {H : Hp} {Q : VK} {as : TA} {sp : Sp} {E : L2.St → XK}
theorem w_callS (h : as σ H fun vs H1 => sp vs H1 Q (E σ)) : tCallS sp E as σ H Q := h
/-- what is raised is caught -/
theorem only_go {c cls : Value} {ts : Addr → Value → Option Addr → TS} {Wout : WX} {D : Ends} {d : Option Addr} (h : PySem.W.exmOne K cls c = some true) (q : ∀ a, H a = none → ts a cls d D σ H) : wOnly K c ts Wout D cls d σ H := ⟨true, h, fun _ => q, fun h => nomatch h⟩
end
end Lv

/-! t[::-1] of a tuple; {}; tuple(range(..)) -/
namespace Lv
open PySem PySem.Spec PyProof.Rows HT
variable {prog : Program} {w : World} {A : Around} {E : Value → Shared → Prop} {s : Shared}
theorem adjust_rev (n : Nat) : Builtin.Slice.sliceAdjust none none (-1) (n : Int) = ((n : Int) - 1, -1) := rfl
theorem places_rev (n : Nat) : Builtin.Slice.slicePlaces ((n : Int) - 1) (-1) (-1) = n := by
  unfold Builtin.Slice.slicePlaces
  have h1 : ¬ ((-1 : Int) > 0) := by omega
  simp only [h1, if_false]
  by_cases h : (n : Int) - 1 > -1
  · rw [if_pos h]
    have : ((n : Int) - 1 - -1 - 1) / (- -1) = (n : Int) - 1 := by
      rw [show (- -1 : Int) = 1 by decide, Int.ediv_one]; omega
    rw [this]; omega
  · rw [if_neg h]; omega
theorem pick_rev (xs : Array Value) : ((List.range xs.size).filterMap fun (m : Nat) => xs[(((xs.size : Int) - 1) + (m : Int) * (-1)).toNat]?).toArray = xs.toList.reverse.toArray := by
  congr 1
  have e : (List.range xs.size).filterMap (fun (m : Nat) => xs[(((xs.size : Int) - 1) + (m : Int) * (-1)).toNat]?) = ((List.range xs.size).map fun k => xs.size - 1 - k).filterMap fun i => xs[i]? := by
    rw [List.filterMap_map]
    congr 1
    funext m
    show xs[_]? = xs[xs.size - 1 - m]?
    congr 1
    omega
  rw [e, PySem.W.krv_range, List.filterMap_reverse, PySem.W.krv_all]
theorem sliceApplied_rev {sl : Addr} {vl vu vs : Value} {n : Nat} {Q : Int × Int × Nat → Shared → Prop} (hs : s.heap.IsSliceOf sl vl vu vs) (pl : IsPart vl none) (pu : IsPart vu none) (ps : IsPart vs (some (-1)))
    (h : Q ((n : Int) - 1, -1, n) s) : wpAny (model prog w) A (Builtin.Slice.sliceApplied (.ref sl) (pure (n : Int))) Q E s := by
  obtain ⟨os, hos, hcs, hds⟩ := id hs
  unfold Builtin.Slice.sliceApplied Builtin.Slice.sliceFields
  refine wpAny_bind (wpAny_bind (wpAny_field hos hds (x := vl) rfl (wpAny_bind (wpAny_field hos hds (x := vu) rfl (wpAny_bind (wpAny_field hos hds (x := vs) rfl (wpAny_pure ?_)))))))
  refine wpAny_bind (slicePart_ ps ?_)
  show wpAny _ _ (if ((-1 : Int) == 0) = true then _ else _) _ _ s
  rw [if_neg (by decide)]
  refine wpAny_bind (slicePart_ pl (wpAny_bind (slicePart_ pu (wpAny_bind (wpAny_pure ?_)))))
  show wpAny _ _ (match Builtin.Slice.sliceAdjust none none (-1) (n : Int) with | (lo, hi) => pure (lo, (-1 : Int), Builtin.Slice.slicePlaces lo hi (-1))) _ _ s
  rw [adjust_rev n]
  show wpAny _ _ (pure ((n : Int) - 1, (-1 : Int), Builtin.Slice.slicePlaces ((n : Int) - 1) (-1) (-1))) _ _ s
  rw [places_rev]
  exact wpAny_pure h
theorem getItem_tuple_rev {t sl : Addr} {items : Array Value} {vl vu vs : Value} {Q : Value → Shared → Prop} (ht : IsTup s.heap t items) (hs : s.heap.IsSliceOf sl vl vu vs) (pl : IsPart vl none) (pu : IsPart vu none) (ps : IsPart vs (some (-1)))
    (h : Q (.ref s.heap.objs.size) { s with heap := s.heap.push { cls := .type "tuple", data := .seq items.toList.reverse.toArray } })
    (hsz : items.size ≤ sizeLine) : wpAny (model prog w) A (getItem (.ref t) (.ref sl)) Q E s := by
  have htake : sizeOk (.seq items.toList.reverse.toArray) := by
    show items.toList.reverse.toArray.size ≤ sizeLine
    rw [List.size_toArray, List.length_reverse, Array.length_toList]
    omega
  obtain ⟨os, hos, hcs, hds⟩ := id hs
  have hTs : s.TypeIs (.ref sl) "slice" := ⟨os, hos, hcs⟩
  unfold getItem
  try with_reducible refine wpAny_holding ?_
  first | refine wpAny_bind (wpAny_pure ?_) | skip
  refine wpAny_bind (wpAny_sequenceKey ht.typeIs (by decide) ?_)
  refine wpAny_bind (wpAny_callSpecial?_slot (name := Str.ofString "__getitem__") ht.typeIs PyProof.Rows.slot_tuple_getitem
    (wpAny_call_entry PyProof.Rows.slot_tuple_getitem ht.typeIs entry_tuple_getitem ?_ (args_tuple_getitem _ _)))
  show wpAny _ _ (Builtin.Tuple.tupleItemsOf (.ref t) >>= _) _ _ s
  refine wpAny_bind (tupleItemsOf_ ht ?_)
  refine wpAny_bind (wpAny_typeOf hTs ?_)
  rw [if_pos (by decide)]
  refine wpAny_bind (sliceApplied_rev hs pl pu ps ?_)
  have hno : ¬ ((((items.size : Int) - 1) == 0 && (-1 : Int) == 1 && items.size == items.size) = true) := by
    intro q
    rw [Bool.and_eq_true, Bool.and_eq_true] at q
    exact absurd q.1.2 (by decide)
  show wpAny _ _ (if (((items.size : Int) - 1) == 0 && (-1 : Int) == 1 && items.size == items.size) = true then _ else _) _ _ s
  rw [if_neg hno, pick_rev]
  first
    | exact wpAny_bind (m := Builtin.Tuple.tupleExact _) (wpAny_newObj_type (wpAny_pure ⟨_, rfl, wpAny_pure h⟩) htake)
    | exact wpAny_bind (m := Builtin.Tuple.tupleExact _) (wpAny_newObj_type (wpAny_bind (wpAny_pure (wpAny_pure ⟨_, rfl, wpAny_pure h⟩))) htake)
    | exact wpAny_bind (wpAny_bind (m := Builtin.Tuple.tupleExact _) (wpAny_newObj_type (wpAny_pure (wpAny_pure ⟨_, rfl, wpAny_pure h⟩)) htake))
    | exact wpAny_bind (wpAny_bind (m := Builtin.Tuple.tupleExact _) (wpAny_newObj_type (wpAny_pure ⟨_, rfl, wpAny_pure h⟩) htake))
end Lv

namespace Lv
open PySem PySem.Spec PyProof.Rows L2
/-- t[::-1] of a tuple -/
def tRevT (K : PySem.W.Frag) (te : TE) : TE := fun σ H Q => te σ H fun x H1 => ∃ a xs, x = .ref a ∧ SqT K H1 a xs ∧ ∀ p, H1 p = none → Q (.ref p) (upd H1 p (.tup xs.reverse))
theorem pe_revT {X : Cx} {e : Expr} {te : TE} {k : Nat} {p1 p2 p3 pos : Pos} (he : PE X e te) : PE X (.Subscript e (.Slice none none (some (.UnaryOp .USub (.Constant (.int 1) k p1) p2)) p3) pos) (tRevT X.K te) := by
  refine ⟨fun pins s σ H Q I h => ?_⟩
  refine Subscript_ (thn (he.run pins s σ H _ I h) fun v s1 ⟨x, H1, I1, r1, q1⟩ => ?_)
  obtain ⟨a, xs, ex, hx, q⟩ := q1
  subst ex
  cases r1
  have hst : PO X (some (.UnaryOp .USub (.Constant (.int 1) k p1) p2)) (tPart (tUn (rU fun i => .int (-i)) (tC (.int 1)))) := po_some (pe_un un_neg pe_int)
  refine wpAny_Slice (thn (po_none.run pins s1 σ H1 (fun o H2 => o = none ∧ H2 = H1) I1 ⟨rfl, rfl⟩) fun vl s2 ⟨l, H2, I2, pl, el, e2⟩ => ?_)
  subst el e2
  refine thn (po_none.run pins s2 σ H2 (fun o H3 => o = none ∧ H3 = H2) I2 ⟨rfl, rfl⟩) fun vu s3 ⟨u, H3, I3, pu, eu, e3⟩ => ?_
  subst eu e3
  refine thn (hst.run pins s3 σ H3 (fun o H4 => o = some (-1) ∧ H4 = H3) I3 ⟨1, rfl, -1, rfl, rfl, rfl⟩) fun vs s4 ⟨o, H4, I4, ps, eo, e4⟩ => ?_
  subst eo e4
  have I5 : Inv X pins σ H4 { s4 with heap := s4.heap.push { cls := .type "slice", data := .fields #[vl, vu, vs] } } := I4.kept (t' := s4.toks) fun b ob q => Heap.get?_push_of_some _ q
  obtain ⟨its, r, ht, hz⟩ := I5.tuple hx
  have hlen := r.length
  show wpAny (model X.prog X.w) X.A (subscriptTail e (.Slice none none (some (.UnaryOp .USub (.Constant (.int 1) k p1) p2)) p3) (.ref a) (.ref s4.heap.objs.size)) (EP X pins σ Q) X.xe { s4 with heap := s4.heap.push { cls := .type "slice", data := .fields #[vl, vu, vs] } }
  refine tail_any (ops := [.ref a, .ref s4.heap.objs.size]) ht.typeIs (PyProof.Rows.slot_tuple_getitem.lookup) ?_ (by with_unfolding_all rfl)
  refine getItem_tuple_rev ht (Heap.IsSliceOf.new _ vl vu vs) pl pu ps ?_ (by rw [List.size_toArray]; omega)
  refine ⟨.ref _, _, I5.laid (t' := s4.toks) (o := .tup xs.reverse) (fun b ob q => Heap.get?_push_of_some _ q) (Nat.le_refl _) ?_, rfl, q _ (I5.hok.fresh (Nat.le_refl _))⟩
  exact ⟨by rw [List.length_reverse]; exact hz, _, r.reverse, IsTup.new _ _⟩
end Lv

namespace Lv
open PySem PySem.Spec PyProof.Rows L2
section
variable {K : PySem.W.Frag} {σ : L2.St} {H : Hp} {Q : VK} {te : TE}
def aRevT (K : PySem.W.Frag) : V → Hp → VK → Prop := fun x H Q => ∃ a xs, x = .ref a ∧ SqT K H a xs ∧ ∀ p, H p = none → Q (.ref p) (upd H p (.tup xs.reverse))
theorem w_revT (h : te σ H fun x H1 => aRevT K x H1 Q) : tRevT K te σ H Q := h
theorem aRevT.go {G P : Hp} {a : Addr} {xs : List V} (J : Join G P H) (h : G a = some (.tup xs)) (q : ∀ p G' H', H p = none → Ex G G' → Join G' P H' → G' p = some (.tup xs.reverse) → Q (.ref p) H') : aRevT K (.ref a) H Q :=
  ⟨a, xs, rfl, sqT (J.g _ _ h), fun p hp => q p _ _ hp (Ex.new (J.ng hp)) (J.newG hp) upd_same⟩
def aDNew : Hp → VK → Prop := fun H Q => ∀ p, H p = none → Q (.ref p) (upd H p (.dK []))
theorem w_dnew (h : aDNew H Q) : tDNewK σ H Q := h
theorem aDNew.go {G P : Hp} (J : Join G P H) (q : ∀ p G' H', H p = none → Ex G G' → Join G' P H' → G' p = some (.dK []) → Q (.ref p) H') : aDNew H Q := fun p hp => q p _ _ hp (Ex.new (J.ng hp)) (J.newG hp) upd_same
def aTupRg (a b : Int) : Hp → VK → Prop := fun H Q => RgOk a b ∧ ∀ q, H q = none → Q (.ref q) (upd H q (.tup (rgV a b)))
theorem w_tupRg {tr : L2.St → Hp → (Int → Int → Hp → Prop) → Prop} (h : tr σ H fun a b H1 => aTupRg a b H1 Q) : tTupRg tr σ H Q := h
theorem aTupRg.go {n : Nat} {m : Int} {G P : Hp} (J : Join G P H) (hn : m = n) (hm : n ≤ 100000) (q : ∀ p G' H', H p = none → Ex G G' → Join G' P H' → G' p = some (.tup (rV (List.range n))) → Q (.ref p) H') : aTupRg 0 m H Q := by
  subst hn
  refine ⟨RgOk.of_le (by omega) (by omega) (by omega) (by omega), fun p hp => q p _ _ hp (Ex.new (J.ng hp)) (J.newG hp) ?_⟩
  rw [upd_same]
  congr 2
  unfold rgV rV
  rw [Int.sub_zero, Int.toNat_natCast]
  refine List.map_congr_left fun i _ => ?_
  rw [Int.zero_add]
end
end Lv

/-! dicts of ints as sets; while -/
namespace Lv
open PySem PySem.Spec PyProof.Rows L2
def keyP (ns : List Int) : List (L2.Key × V) := ns.map fun n => ((Sum.inl n : L2.Key), V.bl true)
theorem keyP_any (ns : List Int) (k : Int) : ((keyP ns).any fun kv => decide (kv.1 = (Sum.inl k : L2.Key))) = decide (k ∈ ns) := by
  induction ns with
  | nil => simp [keyP]
  | cons a r ih =>
    unfold keyP at *
    rw [List.map_cons, List.any_cons, ih]
    by_cases h : a = k
    · subst h; simp
    · have h2 : ¬ ((Sum.inl a : L2.Key) = Sum.inl k) := fun q => h (Sum.inl.inj q)
      have h3 : ¬ k = a := fun q => h q.symm
      simp [h, h3]
theorem keyP_val (ns : List Int) (k : Int) : (valV (keyP ns) (.inl k)).isSome = decide (k ∈ ns) := by rw [← valV_any, keyP_any]
theorem keyP_put {ns : List Int} {k : Int} (h : k ∉ ns) : putK (keyP ns) (.inl k) (.bl true) = keyP (ns ++ [k]) := by
  unfold putK
  rw [keyP_any, if_neg (by simp [h])]
  simp [keyP]
section
variable {K : PySem.W.Frag} {σ : L2.St} {H : Hp} {Q : VK} {R : Bool → Hp → Prop} {nx bk ct : L2.St → Hp → Prop} {rt : VK} {D : Ends} {ta td ty : TE} {tt : TT} {as : TA} {g : TG} {tk tv : TE}
/-- y in d -/
def rDIn (neg : Bool) : V → V → Hp → VK → Prop := fun y x H Q => ∃ a o, x = .ref a ∧ DGet H a y o ∧ Q (.bl (if neg then !o.isSome else o.isSome)) H
theorem w_din (h : ty σ H fun y H1 => td σ H1 fun x H2 => rDIn false y x H2 Q) : tDIn ty td σ H Q := h
theorem w_dnotin (h : ty σ H fun y H1 => td σ H1 fun x H2 => rDIn true y x H2 Q) : tDNotIn ty td σ H Q := h
theorem din_go {neg : Bool} {G P : Hp} {d : Addr} {ns : List Int} {k : Int} (J : Join G P H) (h : G d = some (.dK (keyP ns))) (q : Q (.bl (if neg then !decide (k ∈ ns) else decide (k ∈ ns))) H) : rDIn neg (.int k) (.ref d) H Q :=
  ⟨d, _, rfl, DGet.k (k := .inl k) (J.g _ _ h), by rw [keyP_val]; exact q⟩
/-- {n: True for n in t} -/
def aDcT (K : PySem.W.Frag) (g : TG) (tt : TT) (tk tv : TE) (vs : List Nat) (σ : L2.St) : V → Hp → VK → Prop := fun x H Q => tDc (fun _ H R => ∃ a, x = .ref a ∧ (∃ xs, SqT K H a xs) ∧ R (Itt K a) H) g tt tk tv vs σ H Q
theorem w_dcT {ts : List Nat} (h : ta σ H fun x H1 => aDcT K g tt tk tv ts σ x H1 Q) : tDc (iTup K ta) g tt tk tv ts σ H Q := h
/-- the numbers of a tuple, each once, to a dict -/
theorem aDcT.go {j : Nat} {a : Addr} {ns : List Int} {ts : List Nat} {G P : Hp} (J : Join G P H) (hS : G a = some (.tup (ns.map V.int))) (hn : ns.Nodup) (hl : ns.length ≤ 100000) (hw : ∀ x, wipe ((wipe σ ts).set j (some x)) ts = wipe σ ts)
    (hk : ∀ (n : Int) (H' : Hp) (S : VK), S (.int n) H' → tk ((wipe σ ts).set j (some (.int n))) H' S) (hv : ∀ (x : V) (H' : Hp) (S : VK), S (.bl true) H' → tv ((wipe σ ts).set j (some x)) H' S)
    (hq : ∀ p G' H', H p = none → Ex G G' → Join G' P H' → G' p = some (.dK (keyP ns)) → Q (.ref p) H') : aDcT K (gName j) tYes tk tv ts σ (.ref a) H Q := by
  refine ⟨a, rfl, ⟨_, sqT (J.g _ _ hS)⟩, fun D hD => ?_⟩
  have gD : G D = none := J.ng hD
  refine dc_tup (K := K) (a := a) (xs := ns.map V.int) (fun i H' => ∃ G', Ex G G' ∧ Join G' P H' ∧ G' D = some (.dK (keyP (ns.take i)))) ⟨_, Ex.new gD, J.newG hD, upd_same⟩ (fun i H' _ ⟨G', e, j', _⟩ => sqT (j'.g _ _ (e _ _ hS))) (fun i x H' hi ⟨G', e, j', hd⟩ => ?_) (fun H' ⟨G', e, j', hd⟩ => ?_)
  · obtain ⟨n, hi2, rfl⟩ := int_at hi
    have hil := (List.getElem?_eq_some_iff.mp hi2).1
    refine ⟨hw _, iteT (B := True) (hk n H' _ (hv _ H' _ ⟨keyP (ns.take i), .inl n, rfl, j'.g _ _ hd, ?_, _, ?_, j'.setG (j'.gp hd), ?_⟩))⟩
    · refine szlt ?_
      unfold keyP
      rw [List.length_map, List.length_take]; omega
    · exact e.mut gD
    · rw [upd_same, keyP_put, take_more hi2]
      intro hm
      obtain ⟨c, hc⟩ := List.getElem?_of_mem hm
      have hc1 := (List.getElem?_eq_some_iff.mp hc).1
      rw [List.length_take] at hc1
      rw [List.getElem?_take, if_pos (by omega)] at hc
      obtain ⟨b1, b2⟩ := List.getElem?_eq_some_iff.mp hc
      obtain ⟨b3, b4⟩ := List.getElem?_eq_some_iff.mp hi2
      have := (List.getElem_inj hn).mp (b2.trans b4.symm)
      omega
  · rw [List.length_map, List.take_length] at hd
    exact hq D G' H' hD e j' hd
/-- while: a turn -/
def turnW (I : Nat → Hp → Hp → L2.St → Prop) (m : Nat) (tb : TS) (nx : L2.St → Hp → Prop) (rt : VK) : L2.St → Hp → Prop := fun σ H => ∃ N : L2.St → Hp → Prop, (∀ σ' H', N σ' H' → ∃ m', m' < m ∧ ∃ G P, Join G P H' ∧ I m' G P σ') ∧ tb ⟨N, rt, nx, N⟩ σ H
theorem w_turn {I : Nat → Hp → Hp → L2.St → Prop} {m : Nat} {tb : TS} (h : tb ⟨fun σ3 H3 => ∃ m' G3 P3, m' < m ∧ Join G3 P3 H3 ∧ I m' G3 P3 σ3, rt, nx, fun σ3 H3 => ∃ m' G3 P3, m' < m ∧ Join G3 P3 H3 ∧ I m' G3 P3 σ3⟩ σ H) : turnW I m tb nx rt σ H :=
  ⟨_, fun _ _ ⟨m', G3, P3, h1, h2, h3⟩ => ⟨m', h1, G3, P3, h2, h3⟩, h⟩
theorem while_go {c : TT} {tb : TS} {G P : Hp} (I : Nat → Hp → Hp → L2.St → Prop) (J : Join G P H) (m0 : Nat) (h0 : I m0 G P σ)
    (hs : ∀ (m : Nat) (G' P' H' : Hp) (σ' : L2.St), Join G' P' H' → I m G' P' σ' → c σ' H' fun b H1 => if b = true then turnW I m tb nx rt σ' H1 else nx σ' H1) : tWhile c tb ⟨nx, rt, bk, ct⟩ σ H := by
  refine ⟨fun m σ H => ∃ G' P', Join G' P' H ∧ I m G' P' σ, ⟨m0, G, P, J, h0⟩, ?_⟩
  rintro m σ' H' ⟨G', P', J', hI⟩
  exact hs m G' P' H' σ' J' hI
theorem w_ip {f : Int → Int → Int} {a b : Int} (h : Q (.int (f a b)) H) : ipI f (.int a) (.int b) H Q := ⟨a, b, rfl, rfl, h⟩
/-- len of a dict -/
def rLenD : List V → Hp → VK → Prop := fun xs H Q => ∃ a kvs, xs = [.ref a] ∧ H a = some (.dK kvs) ∧ Q (.int kvs.length) H
theorem rLenD.go {G P : Hp} {d : Addr} {ns : List Int} (J : Join G P H) (h : G d = some (.dK (keyP ns))) (q : Q (.int ns.length) H) : rLenD [.ref d] H Q :=
  ⟨d, _, rfl, J.g _ _ h, by rw [keyP, List.length_map]; exact q⟩
theorem w_lend (h : as σ H fun vs H1 => rLenD vs H1 Q) : tCB (fun xs H Q => ∃ a kvs, xs = [.ref a] ∧ H a = some (.dK kvs) ∧ Q (.int kvs.length) H) as σ H Q := h
def rMin2 : List V → Hp → VK → Prop := fun xs H Q => ∃ i j, xs = [.int i, .int j] ∧ Q (.int (if j < i then j else i)) H
def rMax2 : List V → Hp → VK → Prop := fun xs H Q => ∃ i j, xs = [.int i, .int j] ∧ Q (.int (if i < j then j else i)) H
theorem w_rmin {a b : Int} (h : Q (.int (min a b)) H) : rMin2 [.int a, .int b] H Q := ⟨a, b, rfl, by rw [show (if b < a then b else a) = min a b by omega]; exact h⟩
theorem w_rmax {a b : Int} (h : Q (.int (max a b)) H) : rMax2 [.int a, .int b] H Q := ⟨a, b, rfl, by rw [show (if a < b then b else a) = max a b by omega]; exact h⟩
theorem w_min2 (h : as σ H fun vs H1 => rMin2 vs H1 Q) : tCB (fun xs H Q => ∃ i j, xs = [.int i, .int j] ∧ Q (.int (if j < i then j else i)) H) as σ H Q := h
theorem w_max2 (h : as σ H fun vs H1 => rMax2 vs H1 Q) : tCB (fun xs H Q => ∃ i j, xs = [.int i, .int j] ∧ Q (.int (if i < j then j else i)) H) as σ H Q := h
end
end Lv

/-! fields by names in a row -/
namespace Lv
open PySem PySem.Spec PyProof.Rows L2
theorem putF_zip : ∀ (ks : List Str) (vs : List V) {f : Str} {y : V}, ks.Nodup → ks[vs.length]? = some f → putF f y (ks.zip vs) = ks.zip (vs ++ [y])
  | [], vs, f, y, _, h => by simp at h
  | k :: ks, [], f, y, _, h => by
    have h' : k = f := by simpa using h
    subst h'; simp [putF]
  | k :: ks, v :: vs, f, y, hN, h => by
    have h' : ks[vs.length]? = some f := by simpa using h
    have hk : ¬ k = f := fun e => (List.nodup_cons.mp hN).1 (e ▸ List.mem_of_getElem? h')
    show (if k = f then (k, y) :: ks.zip vs else (k, v) :: putF f y (ks.zip vs)) = _
    rw [if_neg hk, putF_zip ks vs (List.nodup_cons.mp hN).2 h']; rfl
theorem lookup_zip : ∀ (ks : List Str) (vs : List V) {f : Str} {i : Nat} {v : V}, ks.Nodup → ks[i]? = some f → vs[i]? = some v → (ks.zip vs).lookup f = some v
  | [], vs, f, i, v, _, h, _ => by simp at h
  | k :: ks, [], f, i, v, _, _, h => by simp at h
  | k :: ks, w :: vs, f, 0, v, _, h, h2 => by
    have h' : k = f := by simpa using h
    have h2' : w = v := by simpa using h2
    subst h' h2'; simp
  | k :: ks, w :: vs, f, i + 1, v, hN, h, h2 => by
    have h' : ks[i]? = some f := by simpa using h
    have h2' : vs[i]? = some v := by simpa using h2
    have hk : (f == k) = false := by
      cases e : f == k with
      | false => rfl
      | true => exact absurd (List.mem_of_getElem? h') (by rw [eq_of_beq e]; exact (List.nodup_cons.mp hN).1)
    rw [List.zip_cons_cons, List.lookup_cons, hk]
    exact lookup_zip ks vs (List.nodup_cons.mp hN).2 h' h2'
theorem lookup_none : ∀ (ks : List Str) (vs : List V) {f : Str}, f ∉ ks → (ks.zip vs).lookup f = none
  | [], _, _, _ => rfl
  | k :: ks, [], _, _ => rfl
  | k :: ks, w :: vs, f, h => by
    have hk : (f == k) = false := by
      cases e : f == k with
      | false => rfl
      | true => exact absurd (by rw [eq_of_beq e]; exact List.mem_cons_self ..) h
    rw [List.zip_cons_cons, List.lookup_cons, hk]
    exact lookup_none ks vs fun q => h (List.mem_cons_of_mem _ q)
section
variable {K : PySem.W.Frag} {σ : L2.St} {H : Hp} {Q : VK} {nx bk ct : L2.St → Hp → Prop} {rt : VK} {ta tv : TE}
/-- x.f = y -/
def aSFld (K : PySem.W.Frag) (f : Str) (y : V) (N : L2.St → Hp → Prop) (σ : L2.St) : V → Hp → Prop := fun x H2 => ∃ a C dx fs, x = .ref a ∧ H2 a = some (.ins C dx fs) ∧ Cls K C ∧ NoAttr K C f ∧ fs.length < 1000 ∧ N σ (upd H2 a (.ins C dx (putF f y fs)))
theorem w_isN {A : Prop} (h : A) : V.non = V.non ∧ A := ⟨rfl, h⟩
theorem w_sfld {f : Str} (h : tv σ H fun y H1 => ta σ H1 fun x H2 => aSFld K f y nx σ x H2) : sFld K ta tv f ⟨nx, rt, bk, ct⟩ σ H := h
theorem aSFld.go {G P : Hp} {x C dx : Addr} {ks : List Str} {vs : List V} {f : Str} {y : V} {N : L2.St → Hp → Prop} (J : Join G P H) (e : G x = some (.ins C dx (ks.zip vs))) (hc : Cls K C) (hn : NoAttr K C f) (hN : ks.Nodup) (hi : ks[vs.length]? = some f) (hl : ks.length ≤ 900)
    (q : ∀ G' H', But x G G' → Join G' P H' → G' x = some (.ins C dx (ks.zip (vs ++ [y]))) → N σ H') : aSFld K f y N σ (.ref x) H := by
  refine ⟨x, C, dx, _, rfl, J.g _ _ e, hc, hn, by rw [List.length_zip]; omega, ?_⟩
  rw [putF_zip ks vs hN hi]
  exact q _ _ (fun b o h nb => by rw [upd_ne nb]; exact h) (J.setG (J.gp e)) upd_same
theorem aFld.go {G P : Hp} {x C dx : Addr} {ks : List Str} {vs : List V} {f : Str} {v : V} {i : Nat} (J : Join G P H) (e : G x = some (.ins C dx (ks.zip vs))) (hc : Cls K C) (hn : NoAttr K C f) (hN : ks.Nodup) (hi : ks[i]? = some f) (hv : vs[i]? = some v) (q : Q v H) : aFld K f (.ref x) H Q :=
  ⟨x, C, dx, _, _, rfl, J.g _ _ e, hc, hn, lookup_zip ks vs hN hi hv, q⟩
theorem sortI_go {a : Addr} {ns : List Int} {G P : Hp} (J : Join G P H) (h : G a = some (.lst (ns.map V.int))) (q : ∀ (ns' : List Int) p G' H', ns'.Perm ns → ns'.Pairwise (· ≤ ·) → H p = none → Ex G G' → Join G' P H' → G' p = some (.lst (ns'.map V.int)) → Q (.ref p) H') : rSortedI K [.ref a] H Q :=
  ⟨a, ns, rfl, sqL (J.g _ _ h), fun ns' p h1 h2 hp => q ns' p _ _ h1 h2 hp (Ex.new (J.ng hp)) (J.newG hp) upd_same⟩
end
theorem cr_sortedIK {X : Cx} {K : PySem.W.Frag} (h : X.K = K) : CallR X (.builtin "sorted") (rSortedI K) := h ▸ cr_sortedI
end Lv

/-! comprehensions of ints and flags -/
namespace Lv
open PySem PySem.Spec PyProof.Rows L2
/-- lo, lo + 1, .. -/
def rgI (lo : Int) (n : Nat) : List Int := (List.range n).map fun (i : Nat) => lo + i
theorem rgI_len (lo : Int) (n : Nat) : (rgI lo n).length = n := by simp [rgI]
theorem rgI_at {lo : Int} {n i : Nat} (h : i < n) : (rgI lo n)[i]? = some (lo + i) := by
  unfold rgI; rw [List.getElem?_map, List.getElem?_range h]; rfl
theorem rgI_mem {lo : Int} {n : Nat} {x : Int} : x ∈ rgI lo n ↔ lo ≤ x ∧ x < lo + n := by
  unfold rgI
  rw [List.mem_map]
  exact ⟨fun ⟨i, h1, h2⟩ => by have := List.mem_range.mp h1; omega, fun h => ⟨(x - lo).toNat, List.mem_range.mpr (by omega), by omega⟩⟩
theorem rgI_asc (lo : Int) (n : Nat) : (rgI lo n).Pairwise (· < ·) := by
  unfold rgI
  exact List.pairwise_map.mpr (List.pairwise_lt_range.imp fun {a b} h => by omega)
section
variable {K : PySem.W.Frag} {σ : L2.St} {H : Hp} {Q : VK} {te : TE} {tt : TT} {g : TG} {ts : List Nat} {G P : Hp} {a : Addr} {xs : List Int}
/-- what a turn has to show: f k the test, v k the value -/
def Turn (g : TG) (tt : TT) (te : TE) (ts : List Nat) (σ : L2.St) (G P : Hp) (xs : List Int) (f : Int → Bool) (v : Int → V) : Prop :=
  ∀ (k : Int) (G' H' : Hp) (R : VK) (R0 : Hp → Prop), k ∈ xs → Ex G G' → Join G' P H' → (f k = true → ∀ G2 H2, Ex G' G2 → Join G2 P H2 → R (v k) H2) → (f k = false → ∀ G2 H2, Ex G' G2 → Join G2 P H2 → R0 H2) →
      g (.int k) (wipe σ ts) H' fun σ2 H2 => wipe σ2 ts = wipe σ ts ∧ tt σ2 H2 fun b H3 => if b = true then te σ2 H3 R else R0 H3
theorem take_fil {f : Int → Bool} {v : Int → V} {i : Nat} {k : Int} (h : xs[i]? = some k) : ((xs.take (i + 1)).filter f).map v = ((xs.take i).filter f).map v ++ (if f k then [v k] else []) := by
  rw [take_more h, List.filter_append, List.map_append]
  congr 1
  cases e : f k with
  | true => rw [List.filter_cons_of_pos e]; rfl
  | false => rw [List.filter_cons_of_neg (by simp [e])]; rfl
theorem fil_len {f : Int → Bool} {v : Int → V} {i : Nat} (hl : xs.length ≤ 1000000) : (((xs.take i).filter f).map v).length ≤ 1000000 := by
  rw [List.length_map]
  have := List.length_filter_le f (xs.take i)
  rw [List.length_take] at this
  omega
theorem aLcT.fil (f : Int → Bool) (v : Int → V) (J : Join G P H) (hS : G a = some (.tup (xs.map V.int))) (hl : xs.length ≤ 1000000) (hs : Turn g tt te ts σ G P xs f v)
    (hq : ∀ p G' H', H p = none → Ex G G' → Join G' P H' → G' p = some (.lst ((xs.filter f).map v)) → Q (.ref p) H') : aLcT K g tt te ts σ (.ref a) H Q := by
  refine aLcT.go (fun P' => P' = P) (fun i us G' => us = (((xs.take i).filter f).map v)) J rfl hS (fun _ _ => rfl) (fun _ _ _ _ _ _ _ h => h) (fun i us G2 h => by rw [h]; exact fil_len hl) ?_ ?_
  · intro i x us G' P' H' R R0 hx e' hI hP j' kR kR0
    subst hP
    obtain ⟨k, hk, rfl⟩ := int_at hx
    refine hs k G' H' R R0 (List.mem_of_getElem? hk) e' j' (fun h G2 H2 e2 j2 => kR _ G2 _ H2 e2 rfl j2 ?_) (fun h G2 H2 e2 j2 => kR0 G2 _ H2 e2 rfl j2 ?_)
    · rw [take_fil hk, h, if_pos rfl, hI]
    · rw [take_fil hk, h, if_neg (by decide), hI, List.append_nil]
  · intro p us G' P' H' hp e' hd hI hP j'
    subst hP
    rw [List.length_map, List.take_length] at hI
    subst hI
    exact hq p G' H' hp e' j' hd
theorem aLcL.fil (f : Int → Bool) (v : Int → V) (J : Join G P H) (hS : G a = some (.lst (xs.map V.int))) (hl : xs.length ≤ 1000000) (hs : Turn g tt te ts σ G P xs f v)
    (hq : ∀ p G' H', H p = none → Ex G G' → Join G' P H' → G' p = some (.lst ((xs.filter f).map v)) → Q (.ref p) H') : aLcL K g tt te ts σ (.ref a) H Q := by
  refine aLcL.go (fun P' => P' = P) (fun i us G' => us = (((xs.take i).filter f).map v)) J rfl hS (fun _ _ => rfl) (fun _ _ _ _ _ _ _ h => h) (fun i us G2 h => by rw [h]; exact fil_len hl) ?_ ?_
  · intro i x us G' P' H' R R0 hx e' hI hP j' kR kR0
    subst hP
    obtain ⟨k, hk, rfl⟩ := int_at hx
    refine hs k G' H' R R0 (List.mem_of_getElem? hk) e' j' (fun h G2 H2 e2 j2 => kR _ G2 _ H2 e2 rfl j2 ?_) (fun h G2 H2 e2 j2 => kR0 G2 _ H2 e2 rfl j2 ?_)
    · rw [take_fil hk, h, if_pos rfl, hI]
    · rw [take_fil hk, h, if_neg (by decide), hI, List.append_nil]
  · intro p us G' P' H' hp e' hd hI hP j'
    subst hP
    rw [List.length_map, List.take_length] at hI
    subst hI
    exact hq p G' H' hp e' j' hd
theorem aLcR2.fil {lo hi : Int} {n : Nat} (f : Int → Bool) (v : Int → V) (J : Join G P H) (hn : (hi - lo).toNat = n) (hb : -1000000 ≤ hi - lo ∧ hi - lo ≤ 1000000) (hs : Turn g tt te ts σ G P (rgI lo n) f v)
    (hq : ∀ p G' H', H p = none → Ex G G' → Join G' P H' → G' p = some (.lst (((rgI lo n).filter f).map v)) → Q (.ref p) H') : aLcR2 g tt te ts σ [.int lo, .int hi] H Q := by
  have hl : (rgI lo n).length ≤ 1000000 := by rw [rgI_len]; omega
  refine aLcR2.go (n := n) (fun P' => P' = P) (fun i us G' => us = ((((rgI lo n).take i).filter f).map v)) J rfl hn hb (fun _ _ => rfl) (fun _ _ _ _ _ _ _ h => h) (fun i us G2 h => by rw [h]; exact fil_len hl) ?_ ?_
  · intro i us G' P' H' R R0 hi e' hI hP j' kR kR0
    subst hP
    have hk := rgI_at (lo := lo) hi
    refine hs _ G' H' R R0 (List.mem_of_getElem? hk) e' j' (fun h G2 H2 e2 j2 => kR _ G2 _ H2 e2 rfl j2 ?_) (fun h G2 H2 e2 j2 => kR0 G2 _ H2 e2 rfl j2 ?_)
    · rw [take_fil hk, h, if_pos rfl, hI]
    · rw [take_fil hk, h, if_neg (by decide), hI, List.append_nil]
  · intro p us G' P' H' hp e' hd hI hP j'
    subst hP
    rw [show (rgI lo n).take n = rgI lo n by rw [List.take_of_length_le (by rw [rgI_len]; exact Nat.le_refl _)]] at hI
    subst hI
    exact hq p G' H' hp e' j' hd
theorem aLcR.fil {m : Int} {n : Nat} (f : Int → Bool) (v : Int → V) (J : Join G P H) (hn : m = n) (hb : n ≤ 1000000) (hs : Turn g tt te ts σ G P (rgI 0 n) f v)
    (hq : ∀ p G' H', H p = none → Ex G G' → Join G' P H' → G' p = some (.lst (((rgI 0 n).filter f).map v)) → Q (.ref p) H') : aLcR g tt te ts σ [.int m] H Q := by
  have hl : (rgI 0 n).length ≤ 1000000 := by rw [rgI_len]; omega
  refine aLcR.go (n := n) (fun P' => P' = P) (fun i us G' => us = ((((rgI 0 n).take i).filter f).map v)) J rfl hn hb (fun _ _ => rfl) (fun _ _ _ _ _ _ _ h => h) (fun i us G2 h => by rw [h]; exact fil_len hl) ?_ ?_
  · intro i us G' P' H' R R0 hi e' hI hP j' kR kR0
    subst hP
    have hk := rgI_at (lo := 0) hi
    rw [Int.zero_add] at hk
    refine hs _ G' H' R R0 (List.mem_of_getElem? hk) e' j' (fun h G2 H2 e2 j2 => kR _ G2 _ H2 e2 rfl j2 ?_) (fun h G2 H2 e2 j2 => kR0 G2 _ H2 e2 rfl j2 ?_)
    · rw [take_fil hk, h, if_pos rfl, hI]
    · rw [take_fil hk, h, if_neg (by decide), hI, List.append_nil]
  · intro p us G' P' H' hp e' hd hI hP j'
    subst hP
    rw [show (rgI 0 n).take n = rgI 0 n by rw [List.take_of_length_le (by rw [rgI_len]; exact Nat.le_refl _)]] at hI
    subst hI
    exact hq p G' H' hp e' j' hd
theorem fil_all : xs.filter (fun _ => true) = xs := List.filter_eq_self.mpr fun _ _ => rfl
theorem mapI {l : List Int} (h : Int → Int) : l.map (fun k => V.int (h k)) = (l.map h).map V.int := by rw [List.map_map]; rfl
theorem mapB {l : List Int} (h : Int → Bool) : l.map (fun k => V.bl (h k)) = (l.map h).map V.bl := by rw [List.map_map]; rfl
theorem all_go {f : Int → Bool} (J : Join G P H) (h : G a = some (.lst (xs.map fun k => V.bl (f k)))) (q : Q (.bl (xs.all f)) H) : rAll K [.ref a] H Q :=
  ⟨a, xs.map f, rfl, sqL (J.g _ _ (by rw [← mapB]; exact h)), by rw [List.all_map]; exact q⟩
theorem any_go {f : Int → Bool} (J : Join G P H) (h : G a = some (.lst (xs.map fun k => V.bl (f k)))) (q : Q (.bl (xs.any f)) H) : rAny K [.ref a] H Q :=
  ⟨a, xs.map f, rfl, sqL (J.g _ _ (by rw [← mapB]; exact h)), by rw [List.any_map]; exact q⟩
end
end Lv

/-! flags added, lists by a step -/
namespace Lv
open PySem PySem.Spec PyProof.Rows PySem.SeqAt L2
def rAddB : R2 := fun x y H Q => ∃ i k, x = .bl i ∧ y = .bl k ∧ Q (.int (b2i i + b2i k)) H
theorem Vals_at {xs : List V} {us : List Value} (r : Vals xs us) : ∀ i : Nat, (∃ x u, xs[i]? = some x ∧ us[i]? = some u ∧ RelV x u) ∨ (xs[i]? = none ∧ us[i]? = none) := by
  induction r with
  | nil => exact fun i => .inr ⟨rfl, rfl⟩
  | cons h _ ih =>
    intro i
    cases i with
    | zero => exact .inl ⟨_, _, rfl, rfl, h⟩
    | succ i => exact ih i
theorem Vals_pick {xs : List V} {us : List Value} (r : Vals xs us) : ∀ is : List Nat, Vals (is.filterMap (xs[·]?)) (is.filterMap (us[·]?))
  | [] => .nil
  | i :: is => by
    rcases Vals_at r i with ⟨x, u, h1, h2, h3⟩ | ⟨h1, h2⟩
    · rw [List.filterMap_cons_some h1, List.filterMap_cons_some h2]
      exact .cons h3 (Vals_pick r is)
    · rw [List.filterMap_cons_none h1, List.filterMap_cons_none h2]
      exact Vals_pick r is
section
variable {X : Cx}
theorem op_addBB : OpR X (binaryOp .Add) rAddB := by
  intro pins s σ H x y v u Q I rx ry h
  obtain ⟨i, k, rfl, rfl, q⟩ := h
  cases (show v = Value.bool i from rx)
  cases (show u = Value.bool k from ry)
  exact add_bool ⟨.int (b2i i + b2i k), H, I.tok _, ⟨_, rfl⟩, q⟩
/-- xs[::k] -/
def rStepL (K : PySem.W.Frag) : V → Option Int → Hp → VK → Prop := fun x o H Q => ∃ a xs k, x = .ref a ∧ o = some k ∧ 1 ≤ k ∧ SqL K H a xs ∧ ∀ p zs, H p = none → zs.length ≤ xs.length → (∀ z ∈ zs, z ∈ xs) → Q (.ref p) (upd H p (.lst zs))
def tStepL (K : PySem.W.Frag) (te : TE) (th : TO) : TE := fun σ H Q => te σ H fun x H1 => th σ H1 fun o H2 => rStepL K x o H2 Q
theorem pe_stepL {e f : Expr} {te : TE} {th : TO} {p3 pos : Pos} (he : PE X e te) (hf : PO X (some f) th) (hsub : ∀ (v w : Value), subscripted (.Slice none none (some f) p3) false v w = operate [v, w] (getItem v w) := by intro v w; with_unfolding_all rfl) : PE X (.Subscript e (.Slice none none (some f) p3) pos) (tStepL X.K te th) := by
  refine ⟨fun pins s σ H Q I h => ?_⟩
  refine Subscript_ (thn (he.run pins s σ H _ I h) fun v s1 ⟨x, H1, I1, r1, q1⟩ => ?_)
  refine wpAny_Slice (thn (po_none.run pins s1 σ H1 (fun o H2 => o = none ∧ H2 = H1) I1 ⟨rfl, rfl⟩) fun vl s2 ⟨l, H2, I2, pl, el, e2⟩ => ?_)
  subst el e2
  refine thn (po_none.run pins s2 σ H2 (fun o H3 => o = none ∧ H3 = H2) I2 ⟨rfl, rfl⟩) fun vu s3 ⟨u, H3, I3, pu, eu, e3⟩ => ?_
  subst eu e3
  refine thn (hf.run pins s3 σ H3 _ I3 q1) fun vs s4 ⟨o, H4, I4, ps, q2⟩ => ?_
  obtain ⟨a, xs, k, ex, eo, hk, hx, q⟩ := q2
  subst ex eo
  cases r1
  have I5 : Inv X pins σ H4 { s4 with heap := s4.heap.push { cls := .type "slice", data := .fields #[vl, vu, vs] } } := I4.kept (t' := s4.toks) fun b ob q => Heap.get?_push_of_some _ q
  obtain ⟨its, r, ht, hz⟩ := I5.list hx
  have hlen := r.length
  show wpAny (model X.prog X.w) X.A (subscriptTail e (.Slice none none (some f) p3) (.ref a) (.ref s4.heap.objs.size)) (EP X pins σ Q) X.xe { s4 with heap := s4.heap.push { cls := .type "slice", data := .fields #[vl, vu, vs] } }
  refine tail_any (ops := [.ref a, .ref s4.heap.objs.size]) ht.isList.typeIs (PySem.slot_list_getitem.lookup) ?_ (hsub _ _)
  refine wpAny_getItem_list_slice ht.isList (Heap.IsSliceOf.new _ vl vu vs) pl pu ps (by intro h; injection h with h; omega) ?_ (by rw [List.size_toArray]; omega)
  obtain ⟨is, e1⟩ : ∃ is : List Nat, slicePick its.toArray none none (some k) = (is.filterMap (its[·]?)).toArray := by
    refine ⟨sliceRange (sliceBounds none none (some k) its.toArray.size).1 (sliceBounds none none (some k) its.toArray.size).2.1 (sliceBounds none none (some k) its.toArray.size).2.2, ?_⟩
    unfold slicePick
    simp only [List.getElem?_toArray]
  have hle := slicePick_size_le its.toArray none none (some k)
  rw [e1] at hle ⊢
  have r2 := Vals_pick r is
  have hl2 := r2.length
  simp only [List.size_toArray] at hle
  refine ⟨.ref _, _, I5.laid (t' := s4.toks) (o := .lst (is.filterMap (xs[·]?))) (fun b ob q => Heap.get?_push_of_some _ q) (Nat.le_refl _) ?_, rfl, q _ (is.filterMap (xs[·]?)) (I5.hok.fresh (Nat.le_refl _)) (by omega) fun z hz => ?_⟩
  · exact ⟨by omega, _, 0, r2, Heap.get?_push_size _ rfl⟩
  · obtain ⟨i, _, hi⟩ := List.mem_filterMap.mp hz
    exact List.mem_of_getElem? hi
end
section
variable {K : PySem.W.Frag} {σ : L2.St} {H : Hp} {Q : VK} {te : TE} {th : TO}
theorem w_addB {a b : Bool} (h : Q (.int (b2i a + b2i b)) H) : rAddB (.bl a) (.bl b) H Q := ⟨a, b, rfl, rfl, h⟩
theorem w_stepL (h : te σ H fun x H1 => th σ H1 fun o H2 => rStepL K x o H2 Q) : tStepL K te th σ H Q := h
theorem stepL_go {G P : Hp} {a : Addr} {xs : List V} {k : Int} (J : Join G P H) (h : G a = some (.lst xs)) (hk : 1 ≤ k) (q : ∀ p zs G' H', H p = none → zs.length ≤ xs.length → (∀ z ∈ zs, z ∈ xs) → Ex G G' → Join G' P H' → G' p = some (.lst zs) → Q (.ref p) H') : rStepL K (.ref a) (some k) H Q :=
  ⟨a, xs, k, rfl, rfl, hk, sqL (J.g _ _ h), fun p zs hp hl hm => q p zs _ _ hp hl hm (Ex.new (J.ng hp)) (J.newG hp) upd_same⟩
end
end Lv

/-! list(range(i, j)) of numbers of any size -/
namespace Lv
open PySem PySem.Spec PyProof.Rows L2
section
variable {prog : Program} {w : World} {A : Around} {E : Value → Shared → Prop} {s : Shared}
theorem ext_long {R : Result → Shared → Prop} {r : Addr} {a b c : Int} {t u v : Tok} {n : Nat} (nh : A.handled = none) (rg : IsRange s.heap r a b c t u v) (big : Builtin.Range.small a b c = false)
    (sz : Builtin.Range.rangeSize a b c = n) (le : n ≤ 2 ^ 24) (L : Addr) (res : Value) (c0 : Nat) (atL : s.heap.get? L = some { cls := .type "list", data := .seq #[] c0 })
    (out : ∀ h' tk xs c', (∀ b o, b ≠ L → s.heap.get? b = some o → h'.get? b = some o) → h'.get? L = some { cls := .type "list", dict := none, data := .seq xs c', slots := #[] } →
      ItemsOf (fun i v => ∃ t, v = .int (a + i * c) t) xs n → R (.ok (.ret res)) { s with heap := h', toks := tk }) :
    wpAny (model prog w) A.in1 (Builtin.List.listExtendWith (.ref L) (.ref r) res)
      (fun fin s' => match fin with | .done f => R (.ok f) s' | .again c' => c'.quiet = true ∧ codeAny (model prog w) A c' R s') (fun e s' => R (.error e) s') s := by
  have nLr : L ≠ r := fun e => by rw [e, rg] at atL; simp at atL
  have nLI : L ≠ s.heap.objs.size := Nat.ne_of_lt (Heap.lt_size atL)
  have W := (Walks.longrange (prog := prog) (w := w) (A := A.in1) nh s.heap.objs.size a c n).toS
  have loop : ∀ (h : Heap) (c1 tk : Nat), IsLongIter h s.heap.objs.size (a + ((0 : Nat) : Int) * c) ((n : Int) - ((0 : Nat) : Int)) c → (∀ b o, b ≠ L → s.heap.get? b = some o → h.get? b = some o) → h.get? L = some { cls := .type "list", data := .seq #[] c1 } →
      codeAny (model prog w) A (.builtin "list.extend.loop" ⟨[.ref L, .ref s.heap.objs.size, res], []⟩) R { s with heap := h, toks := tk } := fun h c1 tk it keep one => by
    refine codeAny_extend_loopS W (by rw [sizeLine_eq]; omega) L (fun m => nLI (List.mem_singleton.mp m)) res n 0 _ #[] c1 rfl (Nat.zero_le _) it one (ItemsOf.nil _) fun s' xs c' mv gL its => ?_
    rw [Moved.eq_with mv]
    refine out s'.heap s'.toks xs c' (fun b o nb e => mv.heap b o (fun m => ?_) (keep b o nb e)) gL its
    rcases List.mem_cons.mp m with q | q
    · exact nb q
    · rw [List.mem_singleton.mp q] at e; exact absurd (Heap.lt_size e) (Nat.lt_irrefl _)
  unfold Builtin.List.listExtendWith
  have d1 : Builtin.List.listSameRef (.ref L) (.ref r) = false := by simp [Builtin.List.listSameRef, nLr]
  have d2 : ((Value.type "range" == Value.type "list") || (Value.type "range" == Value.type "tuple")) = false := by decide
  refine wpAny_bind (wpAny_typeOf (T := "range") ⟨_, rg, rfl⟩ ?_)
  simp only [d1, d2, Bool.or_false, Bool.false_or, Bool.false_eq_true, if_false]
  first
    | refine wpAny_bind (wpAny_pyIter_longrange rg big ?_)
    | (simp only [show (Value.type "range" == Value.type "list") = false by decide, show (Value.type "range" == Value.type "tuple") = false by decide, Bool.or_false, Bool.false_eq_true, if_false]
       refine wpAny_bind (wpAny_pyIter_longrange rg big ?_))
  have ext : ∀ z o, s.heap.get? z = some o → (s.heap.push { cls := .type "longrange_iterator", data := .fields #[rawInt a, rawInt (Builtin.Range.rangeSize a b c), rawInt c] }).get? z = some o := fun z o e => Heap.get?_push_of_some _ e
  have it1 : IsLongIter (s.heap.push { cls := .type "longrange_iterator", data := .fields #[rawInt a, rawInt (Builtin.Range.rangeSize a b c), rawInt c] }) s.heap.objs.size (a + ((0 : Nat) : Int) * c) ((n : Int) - ((0 : Nat) : Int)) c := by
    unfold IsLongIter
    rw [sz]; simpa using Heap.get?_push_size _ rfl
  generalize (s.heap.push { cls := .type "longrange_iterator", data := .fields #[rawInt a, rawInt (Builtin.Range.rangeSize a b c), rawInt c] }) = h1 at ext it1
  have L1 := ext _ _ atL
  refine wpAny_bind (wpAny_holding (wpAny_hint_range (n := n) (ext _ _ rg) sz le ?_))
  refine wpAny_ite_split (fun _ => wpAny_bind (wpAny_rule (wpAny_bind ?_))) (fun _ => wpAny_pure ⟨plainId_quiet F.plain_extend_loop _, loop h1 c0 _ it1 (fun b o _ e => ext b o e) L1⟩)
  show wpAny _ _ (updateSeq L (·.push .none) >>= fun _ => updateSeq L (·.pop)) _ _ _
  have L2' := Heap.get?_update_self (Obj.mapSeq (·.push Value.none)) L1 rfl
  have L3 := Heap.get?_update_self (Obj.mapSeq (·.pop)) L2' rfl
  refine wpAny_bind (wpAny_updateSeq L1 rfl (wpAny_updateSeq (hz := by seq_fits) L2' rfl (wpAny_pure ⟨plainId_quiet F.plain_extend_loop _, loop _ _ _ (Eq.trans (Heap.get?_update_other _ _ nLI) (Eq.trans (Heap.get?_update_other _ _ nLI) it1)) (fun b o nb e => ?_) L3⟩)))
  exact Eq.trans (Heap.get?_update_other _ _ (Ne.symm nb)) (Eq.trans (Heap.get?_update_other _ _ (Ne.symm nb)) (ext b o e))
theorem init_long {R : Result → Shared → Prop} {r : Addr} {a b c : Int} {t u v : Tok} {n : Nat} (nh : A.handled = none) (rg : IsRange s.heap r a b c t u v) (big : Builtin.Range.small a b c = false)
    (sz : Builtin.Range.rangeSize a b c = n) (le : n ≤ 2 ^ 24) (L : Addr) (atL : s.heap.get? L = some { cls := .type "list", data := .seq #[] })
    (out : ∀ h' tk xs c', (∀ b o, b ≠ L → s.heap.get? b = some o → h'.get? b = some o) → h'.get? L = some { cls := .type "list", dict := none, data := .seq xs c', slots := #[] } →
      ItemsOf (fun i v => ∃ t, v = .int (a + i * c) t) xs n → R (.ok (.ret .none)) { s with heap := h', toks := tk }) :
    wpAny (model prog w) A.in1 (Builtin.«list.__init__» ⟨[.ref L, .ref r], []⟩)
      (fun fin s' => match fin with | .done f => R (.ok f) s' | .again c' => c'.quiet = true ∧ codeAny (model prog w) A c' R s') (fun e s' => R (.error e) s') s := by
  have nLr : L ≠ r := fun e => by rw [e, rg] at atL; simp at atL
  show wpAny _ _ (do let old ← Builtin.List.listItems (.ref L); Builtin.List.listUpdate (.ref L) (fun _ => #[]); letGo old.toList.reverse; Builtin.List.listExtendWith (.ref L) (.ref r) .none) _ _ s
  refine wpAny_bind (m := Builtin.List.listItems (.ref L)) ?_
  unfold Builtin.List.listItems
  refine wpAny_bind (wpAny_seqItems atL rfl ?_); refine wpAny_pure ?_
  show wpAny _ _ (updateSeq L (fun _ => #[]) >>= fun _ => letGo (#[] : Array Value).toList.reverse >>= fun _ => Builtin.List.listExtendWith (.ref L) (.ref r) .none) _ _ s
  have keep : ∀ b o, b ≠ L → s.heap.get? b = some o → (s.heap.update L (Obj.mapSeq (fun _ => (#[] : Array Value)))).get? b = some o := fun b o nb e => Eq.trans (Heap.get?_update_other _ _ (Ne.symm nb)) e
  have L2' := Heap.get?_update_self (Obj.mapSeq (fun _ => (#[] : Array Value))) atL rfl
  refine wpAny_bind (wpAny_updateSeq atL rfl (wpAny_bind (wpAny_letGo ?_)))
  exact ext_long nh (keep r _ (Ne.symm nLr) rg) big sz le L .none _ L2' fun h' tk xs c' k' g its => out h' tk xs c' (fun b o nb e => k' b o nb (keep b o nb e)) g its
theorem list_long {Q : Value → Shared → Prop} {r : Addr} {a b c : Int} {t u v : Tok} {n : Nat} (nh : A.handled = none) (rg : IsRange s.heap r a b c t u v) (big : Builtin.Range.small a b c = false)
    (sz : Builtin.Range.rangeSize a b c = n) (le : n ≤ 2 ^ 24)
    (out : ∀ h' tk xs c', (∀ b o, s.heap.get? b = some o → h'.get? b = some o) →
      h'.get? s.heap.objs.size = some { cls := .type "list", dict := none, data := .seq xs c', slots := #[] } → ItemsOf (fun i v => ∃ t, v = .int (a + i * c) t) xs n → Q (.ref s.heap.objs.size) { s with heap := h', toks := tk }) :
    wpAny (model prog w) A (call (.type "list") [.ref r]) Q E s := by
  have new : (s.heap.push { cls := .type "list", data := .seq #[] }).get? s.heap.objs.size = some { cls := .type "list", data := .seq #[] } := Heap.get?_push_size _ rfl
  refine callType_codes (Q₁ := fun obj s1 => obj = .ref s.heap.objs.size ∧ s1 = { s with heap := s.heap.push { cls := .type "list", data := .seq #[] } }) F.called_list (F.typeCall_list_1 _) F.entry_list_init (code_list_new _ ⟨rfl, rfl⟩) fun obj s1 h1 => ?_
  obtain ⟨rfl, rfl⟩ := h1
  exact ⟨⟨_, new, rfl⟩, F.args_list_init_2 _ _, init_long (A := A.in1) nh (Heap.get?_push_of_some _ rg) big sz le _ new fun h' tk xs c' k' g its => ⟨rfl, out h' tk xs c' (fun b o e => k' b o (Nat.ne_of_lt (Heap.lt_size e)) (Heap.get?_push_of_some _ e)) g its⟩⟩
end
section
variable {X : Cx} {e : Expr} {te : L2.St → Hp → (Int → Int → Hp → Prop) → Prop}
def tLstRgW (te : L2.St → Hp → (Int → Int → Hp → Prop) → Prop) : TE := fun σ H Q => te σ H fun a b H1 => (b - a).toNat ≤ 2 ^ 24 ∧ ∀ q, H1 q = none → Q (.ref q) (upd H1 q (.lst (rgV a b)))
theorem pe_listRgW {p pos : Pos} (hc : X.calm = true) (hg : Gl X "list") (hm : X.mg "list" = none) (he : PRg X e te) (na : starEach [e] X.env = (false, eval e X.env) :: starEach [] X.env := by rfl) : PE X (.Call (.Name "list" p) [e] [] pos) (tLstRgW te) := by
  refine ⟨fun pins s σ H Q I h => ?_⟩
  refine Call_ (ld_blt I hg hm boot_list (PyProof.Rows.callWith_type1 (args_cons (thn (he pins s σ H _ I h) fun x s1 ⟨r, a, b, t, u, v, H1, ex, hr, I1, b5, q⟩ => args_nil ?_) na) na))
  subst ex
  have fin : ∀ h' tk acc c', (∀ b o, s1.heap.get? b = some o → h'.get? b = some o) → h'.get? s1.heap.objs.size = some { cls := .type "list", dict := none, data := .seq acc c', slots := #[] } → ItemsOf (fun i v => ∃ t, v = .int (a + i * 1) t) acc (b - a).toNat →
      EP X pins σ Q (.ref s1.heap.objs.size) { s1 with heap := h', toks := tk } := fun h' tk acc c' hk e' hi => by
    refine ⟨.ref s1.heap.objs.size, upd H1 s1.heap.objs.size (.lst (rgV a b)), I1.laid hk (Nat.le_refl _) (show ObjOk X.prog X.w _ _ _ (.lst (rgV a b)) from ⟨?_, acc.toList, c', vals_rg hi, ?_⟩), rfl, q _ (I1.hok.fresh (Nat.le_refl _))⟩
    · rw [rgV_length, sizeLine_eq]; omega
    · rw [Array.toArray_toList]; exact e'
  cases hsm : Builtin.Range.small a b 1 with
  | true => exact call_list_range (n := (b - a).toNat) (I1.ok.hd hc) hr hsm (rangeSize_nat a b) b5 fin
  | false => exact list_long (n := (b - a).toNat) (I1.ok.hd hc) hr hsm (rangeSize_nat a b) b5 fin
end
section
variable {K : PySem.W.Frag} {σ : L2.St} {H : Hp} {Q : VK} {ta tb : TE}
def aLstRgW (a b : Int) : Hp → VK → Prop := fun H Q => (b - a).toNat ≤ 2 ^ 24 ∧ ∀ q, H q = none → Q (.ref q) (upd H q (.lst (rgV a b)))
theorem w_lstRgW {tr : L2.St → Hp → (Int → Int → Hp → Prop) → Prop} (h : tr σ H fun a b H1 => aLstRgW a b H1 Q) : tLstRgW tr σ H Q := h
theorem w_rg2 {S : Int → Int → Hp → Prop} (h : ta σ H fun x H1 => tb σ H1 fun y H2 => ∃ i j : Int, x = .int i ∧ y = .int j ∧ S i j H2) : tRg2 ta tb σ H S := h
theorem w_rg2' {S : Int → Int → Hp → Prop} {a b : Int} (h : S a b H) : ∃ i j : Int, V.int a = .int i ∧ V.int b = .int j ∧ S i j H := ⟨a, b, rfl, rfl, h⟩
theorem aLstRgW.go {lo hi : Int} {n : Nat} {G P : Hp} (J : Join G P H) (hn : (hi - lo).toNat = n) (hm : n ≤ 100000) (q : ∀ p G' H', H p = none → Ex G G' → Join G' P H' → G' p = some (.lst ((rgI lo n).map V.int)) → Q (.ref p) H') : aLstRgW lo hi H Q := by
  subst hn
  refine ⟨by omega, fun p hp => q p _ _ hp (Ex.new (J.ng hp)) (J.newG hp) ?_⟩
  rw [upd_same]
  congr 2
  unfold rgV rgI
  rw [List.map_map]
  rfl
end
end Lv

/-! walks of dicts that are locked; d.get(k, x) -/
namespace Lv
open PySem PySem.Spec PyProof.Rows L2
theorem for_keys {d : Addr} {o : Obj} {kvs : List (L2.Key × V)} {g : TG} {tb : TS} {D : Ends} {σ : L2.St} {H : Hp} (Pv : Nat → L2.St → Hp → Prop) (h0 : Pv 0 σ H) (hl : ∀ i σ H, i ≤ kvs.length → Pv i σ H → H d = some (.frz o (.dK kvs)))
    (hs : ∀ (i : Nat) (k : L2.Key) (v : V) σ H, kvs[i]? = some (k, v) → Pv i σ H → g (kV k) σ H fun σ2 H2 => tb { D with nx := Pv (i + 1), ct := Pv (i + 1), bk := D.nx } σ2 H2) (hd : ∀ σ H, Pv kvs.length σ H → D.nx σ H) :
    ∃ W : Nat → Nat → L2.St → Hp → Prop, (∃ m, W 0 m σ H) ∧ ∀ i m σ H, W i m σ H →
      ((Itk d o kvs).stop i H ∧ D.nx σ H) ∨ ((Itk d o kvs).go i H ∧ ∃ N : L2.St → Hp → Prop, (∀ σ' H', N σ' H' → ∃ m', m' < m ∧ W (i + 1) m' σ' H') ∧ ∀ x H', (Itk d o kvs).yld i H x H' → g x σ H' fun σ2 H2 => tb { D with nx := N, ct := N, bk := D.nx } σ2 H2) := by
  refine ⟨fun i m σ H => m = kvs.length - i ∧ i ≤ kvs.length ∧ Pv i σ H, ⟨kvs.length, by simp, Nat.zero_le _, h0⟩, ?_⟩
  rintro i m σ H ⟨rfl, hi, p⟩
  have q := hl i σ H hi p
  by_cases c : i < kvs.length
  · refine .inr ⟨⟨q, c⟩, Pv (i + 1), fun σ' H' p' => ⟨kvs.length - (i + 1), by omega, rfl, c, p'⟩, fun x H' y => ?_⟩
    obtain ⟨e, k, v, hk, rfl⟩ := y
    subst e
    exact hs i k v σ _ hk p
  · have e : i = kvs.length := by omega
    subst e
    exact .inl ⟨⟨q, Nat.le_refl _⟩, hd σ H p⟩
theorem lc_keys {d : Addr} {o : Obj} {kvs : List (L2.Key × V)} {g : TG} {tt : TT} {te : TE} {vs : List Nat} {σ : L2.St} {H1 : Hp} {D : Addr} {Qd : Hp → Prop} (Pv : Nat → Hp → Prop) (h0 : Pv 0 (upd H1 D (.lst []))) (hl : ∀ i H, i ≤ kvs.length → Pv i H → H d = some (.frz o (.dK kvs)))
    (hs : ∀ (i : Nat) (k : L2.Key) (v : V) H, kvs[i]? = some (k, v) → Pv i H → g (kV k) (wipe σ vs) H fun σ2 H2 => wipe σ2 vs = wipe σ vs ∧ tt σ2 H2 fun b H3 =>
      if b = true then te σ2 H3 fun y H4 => ∃ acc, H4 D = some (.lst acc) ∧ acc.length < sizeLine ∧ Pv (i + 1) (upd H4 D (.lst (acc ++ [y]))) else Pv (i + 1) H3) (hd : ∀ H, Pv kvs.length H → Qd H) :
    ∃ W : Nat → Nat → Hp → Prop, (∃ m, W 0 m (upd H1 D (.lst []))) ∧ ∀ i m H, W i m H →
      ((Itk d o kvs).stop i H ∧ Qd H) ∨ ((Itk d o kvs).go i H ∧ ∃ Nx : Hp → Prop, (∀ H', Nx H' → ∃ m', m' < m ∧ W (i + 1) m' H') ∧ ∀ x H', (Itk d o kvs).yld i H x H' → g x (wipe σ vs) H' fun σ2 H2 => wipe σ2 vs = wipe σ vs ∧ tt σ2 H2 fun b H3 =>
        if b = true then te σ2 H3 fun y H4 => ∃ acc, H4 D = some (.lst acc) ∧ acc.length < sizeLine ∧ Nx (upd H4 D (.lst (acc ++ [y]))) else Nx H3) := by
  refine ⟨fun i m H => m = kvs.length - i ∧ i ≤ kvs.length ∧ Pv i H, ⟨kvs.length, by simp, Nat.zero_le _, h0⟩, ?_⟩
  rintro i m H ⟨rfl, hi, p⟩
  have q := hl i H hi p
  by_cases c : i < kvs.length
  · refine .inr ⟨⟨q, c⟩, Pv (i + 1), fun H' p' => ⟨kvs.length - (i + 1), by omega, rfl, c, p'⟩, fun x H' y => ?_⟩
    obtain ⟨e, k, v, hk, rfl⟩ := y
    subst e
    exact hs i k v _ hk p
  · have e : i = kvs.length := by omega
    subst e
    exact .inl ⟨⟨q, Nat.le_refl _⟩, hd H p⟩
theorem keyP_at {ns : List Int} {i : Nat} {k : L2.Key} {v : V} (h : (keyP ns)[i]? = some (k, v)) : ∃ n, ns[i]? = some n ∧ k = .inl n := by
  unfold keyP at h
  rw [List.getElem?_map] at h
  cases e : ns[i]? with
  | none => rw [e] at h; cases h
  | some n => rw [e] at h; injection h with h; injection h with h1 h2; exact ⟨n, rfl, h1.symm⟩
section
variable {σ : L2.St} {G P H : Hp} {Q : VK} {nx bk ct : L2.St → Hp → Prop} {rt : VK} {td ty tx : TE} {tt : TT} {te : TE} {g : TG} {tb : TS} {d : Addr} {ns : List Int} {ts : List Nat}
theorem forK_go (J : Join G P H) (h : G d = some (.dK (keyP ns))) (htd : ∀ (H' : Hp) (Q : VK), Q (.ref d) H' → td σ H' Q) (I : Nat → Hp → Hp → L2.St → Prop) (h0 : ∀ od, I 0 (upd G d (.frz od (.dK (keyP ns)))) P σ)
    (hs : ∀ (od : Obj) (rt' : VK) (bk' : L2.St → Hp → Prop) (i : Nat) (n : Int) (G' P' H' : Hp) (σ' : L2.St), ns[i]? = some n → G' d = some (.frz od (.dK (keyP ns))) → Join G' P' H' → I i G' P' σ' →
      g (.int n) σ' H' fun σ2 H2 => tb ⟨fun σ3 H3 => ∃ G3 P3, Join G3 P3 H3 ∧ G3 d = some (.frz od (.dK (keyP ns))) ∧ I (i + 1) G3 P3 σ3, rt', bk', fun σ3 H3 => ∃ G3 P3, Join G3 P3 H3 ∧ G3 d = some (.frz od (.dK (keyP ns))) ∧ I (i + 1) G3 P3 σ3⟩ σ2 H2)
    (hq : ∀ (od : Obj) (G' P' H' : Hp) (σ' : L2.St), G' d = some (.frz od (.dK (keyP ns))) → Join G' P' H' → I ns.length G' P' σ' → nx σ' (upd H' d (.dK (keyP ns)))) : tLock (tFor (iKeys td) g tb) ⟨nx, rt, bk, ct⟩ σ H := by
  refine ⟨d, .dK (keyP ns), J.g _ _ h, trivial, fun od => htd _ _ ⟨d, od, rfl, .inl ⟨keyP ns, upd_same, ?_⟩⟩⟩
  refine for_keys (fun i σ' H' => ∃ G3 P3, Join G3 P3 H' ∧ G3 d = some (.frz od (.dK (keyP ns))) ∧ I i G3 P3 σ') ⟨_, P, J.setG (J.gp h), upd_same, h0 od⟩ (fun i σ' H' _ ⟨G', P', j', hd, _⟩ => j'.g _ _ hd) (fun i k v σ' H' hk ⟨G', P', j', hd, hI⟩ => ?_) (fun σ' H' ⟨G', P', j', hd, hI⟩ => ?_)
  · obtain ⟨n, hn, rfl⟩ := keyP_at hk
    exact hs od _ _ i n G' P' H' σ' hn hd j' hI
  · rw [keyP, List.length_map] at hI
    exact ⟨j'.g _ _ hd, hq od G' P' H' σ' hd j' hI⟩
/-- [.. for n in d], d locked -/
theorem lcK_go {f : Int → Bool} {v : Int → V} (J : Join G P H) (h : G d = some (.dK (keyP ns))) (hl : ns.length ≤ 1000000) (htd : ∀ (H' : Hp) (Q : VK), Q (.ref d) H' → td σ H' Q)
    (hs : ∀ (k : Int) (G' H' : Hp) (R : VK) (R0 : Hp → Prop), k ∈ ns → But d G G' → Join G' P H' → (f k = true → R (v k) H') → (f k = false → R0 H') →
      g (.int k) (wipe σ ts) H' fun σ2 H2 => wipe σ2 ts = wipe σ ts ∧ tt σ2 H2 fun b H3 => if b = true then te σ2 H3 R else R0 H3)
    (hq : ∀ p G' H', H p = none → Ex G G' → Join G' P H' → G' p = some (.lst ((ns.filter f).map v)) → Q (.ref p) H') : tLockE (tLc (iKeys td) g tt te ts) σ H Q := by
  refine ⟨d, .dK (keyP ns), J.g _ _ h, trivial, fun od => htd _ _ ⟨d, od, rfl, .inl ⟨keyP ns, upd_same, fun D hD => ?_⟩⟩⟩
  have nD : D ≠ d := fun e => by rw [e, upd_same] at hD; cases hD
  have hD0 : H D = none := by rw [upd_ne nD] at hD; exact hD
  have gD : G D = none := J.ng hD0
  have jl : Join (upd G d (.frz od (.dK (keyP ns)))) P (upd H d (.frz od (.dK (keyP ns)))) := J.setG (J.gp h)
  refine lc_keys (fun i H' => ∃ G', But d G G' ∧ G' d = some (.frz od (.dK (keyP ns))) ∧ G' D = some (.lst (((ns.take i).filter f).map v)) ∧ Join G' P H') ⟨_, fun b o e nb => ?_, Eq.trans (upd_ne (Ne.symm nD)) upd_same, upd_same, jl.newG hD⟩ (fun i H' _ ⟨G', _, hd, _, j'⟩ => j'.g _ _ hd) (fun i k x H' hk ⟨G', b', hd, hDl, j'⟩ => ?_) (fun H' ⟨G', b', hd, hDl, j'⟩ => ?_)
  · rw [upd_ne (ne_of_none e gD), upd_ne nb]; exact e
  · obtain ⟨n, hn, rfl⟩ := keyP_at hk
    refine hs n G' H' _ _ (List.mem_of_getElem? hn) b' j' (fun c => ⟨_, j'.g _ _ hDl, Nat.lt_of_le_of_lt (fil_len hl) (by decide), _, fun b o e nb => ?_, Eq.trans (upd_ne (Ne.symm nD)) hd, ?_, j'.setG (j'.gp hDl)⟩) (fun c => ⟨G', b', hd, ?_, j'⟩)
    · rw [upd_ne (ne_of_none e gD)]; exact b' b o e nb
    · rw [upd_same, take_fil hn, c, if_pos rfl]
    · rw [hDl, take_fil hn, c, if_neg (by decide), List.append_nil]
  · rw [keyP, List.length_map, List.take_length] at hDl
    refine ⟨j'.g _ _ hd, hq D (upd G' d (.dK (keyP ns))) _ hD0 (fun b o e => ?_) (j'.setG (j'.gp hd)) (Eq.trans (upd_ne nD) hDl)⟩
    by_cases c : b = d
    · subst c; rw [upd_same, ← h]; exact e
    · rw [upd_ne c]; exact b' b o e c
/-- d.get(k, x) -/
def aDGet2 (ty tx : TE) (σ : L2.St) : V → Hp → VK → Prop := fun x H1 Q => ∃ a, x = .ref a ∧ IsD H1 a ∧ ty σ H1 fun y H2 => tx σ H2 fun z H3 => ∃ o, DGet H3 a y o ∧ Q (o.getD z) H3
theorem w_dget2 (h : td σ H fun x H1 => aDGet2 ty tx σ x H1 Q) : tDGet2 td ty tx σ H Q := h
def rDGet2 (a : Addr) (y z : V) : Hp → VK → Prop := fun H Q => ∃ o, DGet H a y o ∧ Q (o.getD z) H
theorem dget2_go {kvs : List (L2.Key × V)} (J : Join G P H) (h : G d = some (.dK kvs)) (q : ty σ H fun y H2 => tx σ H2 fun z H3 => rDGet2 d y z H3 Q) : aDGet2 ty tx σ (.ref d) H Q :=
  ⟨d, rfl, .inl ⟨kvs, .inl (J.g _ _ h)⟩, q⟩
theorem rdget2_go {kvs : List (L2.Key × V)} {k : Int} {z : V} (J : Join G P H) (h : G d = some (.dK kvs)) (q : Q ((valV kvs (.inl k)).getD z) H) : rDGet2 d (.int k) z H Q :=
  ⟨_, DGet.k (k := .inl k) (J.g _ _ h), q⟩
def aDPut (v y : V) (nx : L2.St → Hp → Prop) (σ : L2.St) : V → Hp → Prop := fun x H3 => ∃ a H4, x = .ref a ∧ DPut H3 a y v H4 ∧ nx σ H4
theorem w_dput {tv : TE} (h : tv σ H fun v H1 => td σ H1 fun x H2 => ty σ H2 fun y H3 => aDPut v y nx σ x H3) : sDPut td ty tv ⟨nx, rt, bk, ct⟩ σ H := h
theorem dput_go {kvs : List (L2.Key × V)} {k : Int} {v : V} (J : Join G P H) (h : G d = some (.dK kvs)) (hl : kvs.length < 100000) (q : ∀ G' H', But d G G' → Join G' P H' → G' d = some (.dK (putK kvs (.inl k) v)) → nx σ H') : aDPut v (.int k) nx σ (.ref d) H :=
  ⟨d, _, rfl, DPut.k (k := .inl k) (J.g _ _ h) (szlt hl), q _ _ (fun b o e nb => by rw [upd_ne nb]; exact e) (J.setG (J.gp h)) upd_same⟩
end
end Lv

/-! lists unpacked -/
namespace Lv
open PySem PySem.Spec PyProof.Rows L2
theorem w_glst {K : PySem.W.Frag} {σ : L2.St} {H : Hp} {N : L2.St → Hp → Prop} {gs : TGs} {n : Nat} {a : Addr} {xs : List V} (e : H a = some (.lst xs)) (l : xs.length = n) (h : gs xs σ H N) : gLst K n gs (.ref a) σ H N := ⟨a, xs, rfl, sqL e, l, h⟩
end Lv

/-! things of other kinds than a class's own -/
namespace Lv
open PySem PySem.Spec PyProof.Rows L2
def kindN : List String := ["int", "bool", "NoneType", "str", "list", "tuple", "dict"]
/-- what a class with an own == has to do with the kinds -/
def otB (K : PySem.W.Frag) (c : Str) : Bool := kindN.all fun t => PySem.W.notFirst K (He.ga K c) (.type t) && (decide (PySem.W.kitOne K (.type t) (.ref (He.ga K c)) = some false) && decide (PySem.W.kitOne K (.ref (He.ga K c)) (.type t) = some false))
theorem otB_ok {K : PySem.W.Frag} {c : Str} (h : otB K c = true) {t : String} (ht : t ∈ kindN) : PySem.W.notFirst K (He.ga K c) (.type t) = true ∧ PySem.W.kitOne K (.type t) (.ref (He.ga K c)) = some false ∧ PySem.W.kitOne K (.ref (He.ga K c)) (.type t) = some false := by
  have := List.all_eq_true.mp h t ht
  rw [Bool.and_eq_true, Bool.and_eq_true, decide_eq_true_iff, decide_eq_true_iff] at this
  exact this
section
variable {K : PySem.W.Frag} {G H : Hp} {v : V} {Q : VK}
theorem kd_ty (J : Ex G H) (h : Kd G v) : ∃ t ∈ kindN, TyX K H v (.type t) := by
  cases h with
  | int n => exact ⟨_, by decide, .base (.int n)⟩
  | bl b => exact ⟨_, by decide, .base (.bl b)⟩
  | non => exact ⟨_, by decide, .base .non⟩
  | str z => exact ⟨_, by decide, .base (.str z)⟩
  | lst h => exact ⟨_, by decide, .base (.lst (J _ _ h))⟩
  | tup h => exact ⟨_, by decide, .base (.tup (J _ _ h))⟩
  | dic h => exact ⟨_, by decide, .base (.dK (J _ _ h))⟩
theorem isi_kd {c : Str} (o : otB K c = true) (J : Ex G H) (h : Kd G v) (q : Q (.bl false) H) : rIsi K [v, .ref (He.ga K c)] H Q := by
  obtain ⟨t, ht, ty⟩ := kd_ty (K := K) J h
  exact ⟨_, _, _, _, false, rfl, .own _, ty, (otB_ok o ht).2.1, q⟩
end
end Lv

namespace Lv
open PySem PySem.Spec PyProof.Rows L2

/-! ### the hook with the interpreter's own statics -/
def asV (n : Nat) (g : Addr → Option Obj) : List Addr := He.asD g n ++ [cStatics]
def obsV (n : Nat) (fa : List He.Fa) (fn : List He.DefD) (ex : PySem.W.Frag → Bool) (g : Addr → Option Obj) : He.AlX := (He.obsT fa fn [] (He.frT g (asV n g)), ex (He.frT g (asV n g)))
theorem saysV_of {n : Nat} {fa : List He.Fa} {fn : List He.DefD} {ex : PySem.W.Frag → Bool} {w : World} {h : Heap} (e : obsV n fa fn ex h.get? = He.valX fn [] w) : He.SaysX fa fn [] [] ex w h (He.frT h.get? (asV n h.get?)) :=
  ⟨congrArg (fun z : He.AlX => z.1) e, congrArg (fun z : He.AlX => z.2) e, fun p hp => absurd hp (by simp), fun p hp => absurd hp (by simp), fun p hp => absurd hp (by simp)⟩
def hookV (n : Nat) (fa : List He.Fa) (fn : List He.DefD) (ex : PySem.W.Frag → Bool) : PySem.W.Hook where
  α := He.AlX
  obs := fun s => obsV n fa fn ex s.heap.get?
  val := fun w => He.valX fn [] w
  says := fun w h => ∃ K : PySem.W.Frag, K.In h ∧ He.SaysX fa fn [] [] ex w h K
  of := fun _ _ e => ⟨_, He.frT_in, saysV_of e⟩
  keeps := fun _ _ _ ⟨K, hK, c⟩ k => ⟨K, PySem.W.Frag.In.keeps hK k, ⟨c.t, c.more, c.hd, c.out, fun p hp => k _ _ (c.empty p hp)⟩⟩
theorem obsV_eq {n : Nat} {fa : List He.Fa} {fn : List He.DefD} {ex : PySem.W.Frag → Bool} {g : Addr → Option Obj} {s : Shared} (h : ∀ a, g a = s.heap.get? a) : obsV n fa fn ex g = (hookV n fa fn ex).obs s := by
  have e : g = s.heap.get? := funext h
  rw [e] <;> rfl

/-! ### an exception class of one field whose __init__ says super().__init__(x) and self.x = x -/
def xiBd (f : Str) : FuncBody → Bool
  | .stmts [.Expr (.Call (.Attribute (.Call (.Name a _) [] [] _) b p3) [.Name c _] [] p5) _, .Assign [.Attribute (.Name d _) e _] (.Name g _) _] =>
    decide (p3.endLine = p5.line) && (decide (a = "super") && (decide (b = "__init__") && (decide (c = f) && (decide (d = "self") && (decide (e = f) && decide (g = f))))))
  | _ => false
theorem xiBd_ok {f : Str} {b : FuncBody} (h : xiBd f b = true) : ∃ p1 p2 p3 p4 p5 p6 p7 p8 p9 p10 : Pos, p3.endLine = p5.line ∧
    b = .stmts [.Expr (.Call (.Attribute (.Call (.Name "super" p1) [] [] p2) "__init__" p3) [.Name f p4] [] p5) p6, .Assign [.Attribute (.Name "self" p7) f p8] (.Name f p9) p10] := by
  unfold xiBd at h
  split at h
  · simp only [Bool.and_eq_true, decide_eq_true_eq] at h
    obtain ⟨hp, rfl, rfl, rfl, rfl, rfl, rfl⟩ := h
    exact ⟨_, _, _, _, _, _, _, _, _, _, hp, rfl⟩
  · cases h
def xiPr (f : Str) : Arguments → Bool
  | ⟨[], [a, b], none, [], [], none, []⟩ => decide (a.arg = "self") && decide (b.arg = f)
  | _ => false
theorem xiPr_ok {f : Str} {b : Arguments} (h : xiPr f b = true) : ∃ a1 a2 : Arg, b = ⟨[], [a1, a2], none, [], [], none, []⟩ ∧ a1.arg = "self" ∧ a2.arg = f := by
  unfold xiPr at h
  split at h
  · simp only [Bool.and_eq_true, decide_eq_true_eq] at h
    exact ⟨_, _, rfl, h.1, h.2⟩
  · cases h
def xiSc (f : Str) (sc : Scope) : Bool := decide (sc.kind = .function) && (!sc.isGenerator && (!sc.isCoroutine && (decide (sc.names.lookup ("super" : Str) = some .globalImplicit) && (decide (sc.names.lookup ("__class__" : Str) = some .free) &&
  (decide (sc.names.lookup ("self" : Str) = some .local) && (decide (sc.names.lookup f = some .local) && sc.names.all fun x => decide (x.2 ≠ .cell)))))))
def xiCell (K : PySem.W.Frag) (C a : Addr) : Bool := match K.lookup a with
  | some ⟨_, _, .cell (some (.ref v)), _⟩ => decide (v = C)
  | _ => false
theorem xiCell_ok {K : PySem.W.Frag} {C a : Addr} (h : xiCell K C a = true) : ∃ cl cd sl, K.lookup a = some ⟨cl, cd, .cell (some (.ref C)), sl⟩ := by
  unfold xiCell at h
  split at h
  · rename_i e
    exact ⟨_, _, _, by rw [e, of_decide_eq_true h]⟩
  · cases h
def xiFile (K : PySem.W.Frag) (file : Str) : Value → Bool
  | .ref c => (match K.lookup c with
    | some ⟨_, _, .fields vs, _⟩ => (match (vs[2]? : Option Value) with
      | some (.str g _) => decide (g = file)
      | _ => false)
    | _ => false)
  | _ => false
theorem xiFile_ok {K : PySem.W.Frag} {file : Str} {v : Value} (h : xiFile K file v = true) : ∃ (c : Addr) (cl : Value) (cd : Option Addr) (vs : Array Value) (sl : Array (Option Value)) (t : Tok), v = .ref c ∧ K.lookup c = some ⟨cl, cd, .fields vs, sl⟩ ∧ vs[2]? = some (.str file t) := by
  unfold xiFile at h
  split at h
  · split at h
    · rename_i e
      split at h
      · rename_i e2
        rw [of_decide_eq_true h] at e2
        exact ⟨_, _, _, _, _, _, rfl, e, e2⟩
      · cases h
    · cases h
  · cases h
def xiFn (K : PySem.W.Frag) (file f : Str) (C : Addr) (fd : FuncData) : Bool :=
  decide (fd.defaults = .none) && (decide (fd.kwdefaults = .none) && (xiBd f fd.body && (xiPr f fd.params && (xiSc f fd.scope && (decide (fd.globals = mainGlobals) && (decide (fd.builtins = builtinsNs) && (PySem.W.codeIn K fd.code fd.qualname && (xiFile K file fd.code && (match fd.closure with
    | [(c, a)] => decide (c = "__class__") && xiCell K C a
    | _ => false)))))))))
def xiCl (K : PySem.W.Frag) (C : Addr) : Bool := match K.lookup C with
  | some ⟨.type t, _, .cls cd, sl⟩ => decide (t = "type") && (match cd.mro, sl.toList with
    | .ref C' :: bm, [_, _, _, _, some (.builtin n), _] => decide (C' = C) && (decide (n = "ValueError.__new__") && (!cd.hasDel && (cd.hasDict && PySem.HandSPX.refsVE bm)))
    | _, _ => false)
  | _ => false
theorem xiCl_ok {K : PySem.W.Frag} {C : Addr} (h : xiCl K C = true) : ∃ nm q N bs bm sn sub ab col dd k0 k1 k2 k3 k5, K.lookup C = some (excClassObj nm q C N bs bm true sn sub ab col dd k0 k1 k2 k3 k5 "ValueError.__new__") ∧ PySem.HandSPX.refsVE bm = true := by
  unfold xiCl at h
  split at h
  · rename_i t dd cd sl ho
    obtain ⟨h1, h⟩ := Bool.and_eq_true_iff.mp h
    split at h
    · rename_i C' bm k0 k1 k2 k3 n k5 hm hs
      simp only [Bool.and_eq_true, decide_eq_true_eq, Bool.not_eq_true'] at h h1
      obtain ⟨rfl, rfl, hdel, hd, ht⟩ := h
      subst h1
      obtain ⟨nm, bs, mro, ns, qn, hdi, sn, sub, ab, col, del⟩ := cd
      dsimp only at hm hdel hd
      subst hm hdel hd
      have hsl : sl = #[k0, k1, k2, k3, some (.builtin "ValueError.__new__"), k5] := by
        obtain ⟨l⟩ := sl
        simp only at hs
        rw [hs]
      subst hsl
      exact ⟨nm, qn, ns, bs, bm, sn, sub, ab, col, dd, k0, k1, k2, k3, k5, ho, ht⟩
    · cases h
  · cases h
def xiB (K : PySem.W.Frag) (file x f : Str) : Bool :=
  xiCl K (He.ga K x) && (decide (PySem.W.findIn K (.ref (He.ga K x)) "__setattr__" = some (some (.builtin "object.__setattr__"))) && (decide (PySem.W.subIn K (.ref (He.ga K x)) (.type "BaseException") = some true) &&
  (decide (PySem.W.typeIn K (.ref (He.ga K x)) = some (.type "type")) && (PySem.W.keepIn K (.ref (He.ga K x)) && (decide (PySem.W.findIn K (.ref (He.ga K x)) "__init__" = some (some (.ref (He.ma K (He.ga K x) "__init__")))) &&
  (decide (PySem.W.typeIn K (.ref (He.ma K (He.ga K x) "__init__")) = some (.type "function")) && (decide (PySem.W.findIn K (.ref (He.ga K x)) f = some none) && (xfB K (He.ga K x) &&
  (decide (PySem.W.subIn K (.ref (He.ga K x)) (.type "ValueError") = some true) && (decide (PySem.W.ks_superIn K (He.ga K x) (He.ga K x) "__init__" = some (some (.builtin "ValueError.__init__"))) &&
  (decide (PySem.W.mroIn K (He.ga K x) (.ref (He.ga K x)) = some true) && (decide (PySem.W.nsIn K mainGlobals "super" = some none) && (decide (PySem.W.nsIn K cStatics "thirdparty.any" = some none) &&
  (match K.lookup (He.ma K (He.ga K x) "__init__") with
    | some ⟨_, _, .func fd, _⟩ => xiFn K file f (He.ga K x) fd
    | _ => false))))))))))))))
/-- what the program's file must say -/
structure XpOk (P : Program) (file : Str) : Prop where
  file : P.main.file = file
  top : (P.main.scope.names.lookup ("super" : Str)).isSome = false
structure XiC (K : PySem.W.Frag) (file : Str) (C : Addr) (f : Str) : Prop where
  oex : OexC K C
  fI : ∃ fi : Addr, PySem.W.findIn K (.ref C) "__init__" = some (some (.ref fi)) ∧ PySem.W.typeIn K (.ref fi) = some (.type "function") ∧ ∃ oc od fd osl, K.lookup fi = some ⟨oc, od, .func fd, osl⟩ ∧ xiFn K file f C fd = true
  noat : PySem.W.findIn K (.ref C) f = some none
  xf : XfC K C
  ve : PySem.W.subIn K (.ref C) (.type "ValueError") = some true
  sup : PySem.W.ks_superIn K C C "__init__" = some (some (.builtin "ValueError.__init__"))
  mro : PySem.W.mroIn K C (.ref C) = some true
  nosup : PySem.W.nsIn K mainGlobals "super" = some none
  noany : PySem.W.nsIn K cStatics "thirdparty.any" = some none
theorem xi_ok {K : PySem.W.Frag} {file x f : Str} (h : xiB K file x f = true) : XiC K file (He.ga K x) f := by
  unfold xiB at h
  simp only [Bool.and_eq_true, decide_eq_true_eq] at h
  obtain ⟨h1, h2, h3, h4, h5, h6, h7, h8, h9, h10, h11, h12, h13, h14, h15⟩ := h
  refine ⟨⟨xiCl_ok h1, h2, h3, h4, h5⟩, ⟨_, h6, h7, ?_⟩, h8, xfB_ok h9, h10, h11, h12, h13, h14⟩
  split at h15
  · rename_i e
    exact ⟨_, _, _, _, e, h15⟩
  · cases h15

section
variable {prog : Program} {w : World} {A : Around} {E : Value → Shared → Prop} {h : Heap} {g : Array GenState} {d : Drawn} {t : Nat} {os : OsState}
variable {nm q : Str} {C N : Addr} {bs bm : List Value} {hdct : Bool} {sn : List Str} {sub : List Value} {ab : Bool} {col : Option Bool} {dd : Option Addr} {k0 k1 k2 k3 k5 : Option Value}
theorem call_bwV {u e t0 : Addr} {rest : List Value} {Q : Value → Shared → Prop}
    (hC : h.get? C = some (excClassObj nm q C N bs bm hdct sn sub ab col dd k0 k1 k2 k3 k5 "ValueError.__new__")) (he : h.get? e = some (PySem.HandSPX.excO C t0)) (hu : h.get? u = some (PySem.W.kxs_mw "ValueError.__init__" e)) (hrest : rest.length ≤ sizeLine)
    (hq : ∀ h' t1, (∀ b o, b ≠ e → h.get? b = some o → h'.get? b = some o) → h'.get? e = some (PySem.HandSPX.excO C t1) → Q .none ⟨h', g, d, t, os⟩) :
    wpAny (model prog w) A (call (.ref u) rest) Q E ⟨h, g, d, t, os⟩ := by
  refine wpAny_call (codeAny_of_tree ?_)
  show wpAny _ A.in1 (callAny (.ref u) ⟨rest, []⟩) _ _ _
  simp only [callAny]
  refine wpAny_bind (wpAny_load hu ?_)
  simp only [PySem.W.kxs_mw, show (Value.type "method-wrapper" == Value.type "method" || Value.type "method-wrapper" == Value.type "builtin_function_or_method" || Value.type "method-wrapper" == Value.type "method-wrapper") = true by decide, if_true]
  refine PySem.W.KFB.if_so (by decide) ?_
  refine wpAny_bind (PySem.W.check_bound_init F.excBase_ValueError.toExcCallFacts hC he rfl ?_)
  refine wpAny_bind (wpAny_pure (wpAny_pure ?_))
  refine ⟨plainId_quiet F.excBase_ValueError.init.plain _, codeAny_builtin F.excBase_ValueError.initEntry ?_⟩
  rw [Around.under_plainId F.excBase_ValueError.init.plain _]
  wp_walk
  refine hq _ h.objs.size (fun b o hb ho => ?_) ?_
  · rw [Heap.get?_update_other _ _ (Ne.symm hb)]
    exact Heap.get?_push_of_some _ ho
  · rw [Heap.get?_update_self _ (Heap.get?_push_of_some _ he) rfl]
    rfl
end

theorem eval_methodCall1 {o e : Expr} {name : Str} {apos pos : Pos} {env : Env} (h : apos.endLine = pos.line) (hs : starEach [e] env = [(false, eval e env)]) : eval (.Call (.Attribute o name apos) [e] [] pos) env = (do
      let ov ← attributeBase o name env (eval o env)
      standAt apos.atName
      let (f, first) ← holding [ov] (getMethod ov name (do return (← importBound o env).getD true))
      callWith pos f first (backTo pos (starEach [e] env)) []) := by
  have hb : (apos.endLine == pos.line) = true := by simp [h]
  show (do
    let ov ← attributeBase o name env (eval o env)
    standAt apos.atName
    methodCall o name apos pos env ov 1 (backTo pos (starEach [e] env)) []) = _
  have hm : methodCallForm 1 (backTo pos (starEach [e] env)) [] = true := by
    rw [hs]
    rfl
  simp only [methodCall, methodCallPos, hm, hb, Bool.or_true, if_true, calleeOf, pure_bind]
/-- __init__ of such a class -/
def spXi (C : Addr) (f : Str) : Sp := fun vs H Q _ => ∃ (a : Addr) (y : V), vs = [.ref a, y] ∧ H a = some (exo a C none) ∧ ∀ dx, H dx = none → dx ≠ a → Q .non (upd (upd H dx (exd dx [(f, y)])) a (exo a C (some dx)))
theorem fn_xi {P : Program} {w : World} {K : PySem.W.Frag} {mg : Str → Option Value} {base : Heap} {CX : CXT} {file f : Str} {C fi : Addr} {oc : Value} {od : Option Addr} {fd : FuncData} {osl : Array (Option Value)} (D : XiC K file C f) (Pk : XpOk P file)
    (lk : K.lookup fi = some ⟨oc, od, .func fd, osl⟩) (hfn : xiFn K file f C fd = true) (hf1 : f ≠ "self") (hdb : (f == ("__debug__" : Str)) = false) : FnOk P w K mg base CX 1 fi fd ["self", f] (spXi C f) := by
  obtain ⟨nm, qn, pr, bd, sc, gl, cl, dV, kV, doc, pm, an, cdv, ct, bl⟩ := fd
  have hfn' := hfn
  simp only [xiFn, Bool.and_eq_true, decide_eq_true_eq] at hfn'
  obtain ⟨_, _, hbd, hpr, hsc, e1, e2, hcd, hfile, hcl⟩ := hfn'
  obtain ⟨p1, p2, p3, p4, p5, p6, p7, p8, p9, p10, hpos, rfl⟩ := xiBd_ok hbd
  obtain ⟨a1, a2, rfl, ha1, ha2⟩ := xiPr_ok hpr
  simp only [xiSc, Bool.and_eq_true, decide_eq_true_eq, Bool.not_eq_true'] at hsc
  obtain ⟨hk, hgen, hco, hks, hkc, hkself, hkf, hcells⟩ := hsc
  subst e1 e2
  obtain ⟨cda, ccl, cdd, cvs, ccs, ctk, rfl, lcd, hvs⟩ := xiFile_ok hfile
  obtain ⟨cc, rfl, lcc⟩ : ∃ cc, cl = [(("__class__" : Str), cc)] ∧ ∃ cl' cd' sl', K.lookup cc = some ⟨cl', cd', .cell (some (.ref C)), sl'⟩ := by
    split at hcl
    · simp only [Bool.and_eq_true, decide_eq_true_eq] at hcl
      obtain ⟨rfl, hc⟩ := hcl
      exact ⟨_, rfl, xiCell_ok hc⟩
    · cases hcl
  obtain ⟨ccl', ccd', csl', lcc⟩ := lcc
  obtain ⟨nmC, qC, NC, bsC, bmC, snC, subC, abC, colC, ddC, k0, k1, k2, k3, k5, lC, hbm⟩ := D.oex.cls
  refine ⟨fun vs H Q E q => ?_, fun A outer s H args us vs Q E hr e0 hb r hsp => ?_⟩
  · obtain ⟨a, y, rfl, _⟩ := q
    rfl
  obtain ⟨a, y, rfl, ea, hq⟩ := hsp
  obtain ⟨u0, us1, rfl, ra, rs⟩ : ∃ u0 us1, us = u0 :: us1 ∧ RelV (.ref a) u0 ∧ Vals [y] us1 := by
    cases r with
    | cons h1 h2 => exact ⟨_, _, rfl, h1, h2⟩
  obtain ⟨u, rfl, ry⟩ : ∃ u, us1 = [u] ∧ RelV y u := by
    cases rs with
    | cons h1 h2 =>
      cases h2
      exact ⟨_, rfl, h1⟩
  obtain rfl : u0 = Value.ref a := ra
  have KX : K.In s.heap := e0.mod.kin.keeps fun b o e => (e0.bs b o e).1
  have lim : s.heap.NoLimit := e0.mod.nolimit.keeps fun b o e => (e0.bs b o e).1
  obtain ⟨t1, hea⟩ := exo_at e0.hok ea
  have hroom : A.depth < recursionLimit := by have := hr.dp; omega
  obtain ⟨hp, gs, dr, tk, oss⟩ := s
  refine ks_codeAny_call_defAt hroom (KX _ _ lk) rfl lim (PySem.W.codeRec_of KX hcd) rfl hb (fun x hx => ?_) (fun x hx => ?_) (fun h1 hns hk1 => ?_) hco hgen hk
  · have z := List.all_eq_true.mp hcells x hx
    simpa using z
  · simp only [List.zip_cons_cons, List.zip_nil_right, List.mem_cons, List.not_mem_nil, or_false] at hx
    rcases hx with rfl | rfl
    · exact hkself
    · exact hkf
  have nL : ∀ {b : Addr} {o : Obj}, hp.get? b = some o → b ≠ hp.objs.size := fun {b o} z => Nat.ne_of_lt (Heap.lt_size z)
  have hLa : hp.objs.size ≠ a := (nL hea).symm
  have X1 : K.In h1 := KX.keeps hk1
  have hea1 := hk1 _ _ hea
  have hC1 := X1 _ _ lC
  have m1 : (fun x : Str => (((["self", f] : List Str).zip [Value.ref a, u]).reverse.lookup x)) "self" = some (.ref a) := by
    simp only [List.zip_cons_cons, List.zip_nil_right, List.reverse_cons, List.reverse_nil, List.nil_append, List.singleton_append]
    rw [List.lookup_cons, List.lookup_cons]
    have z : (("self" : Str) == f) = false := by simpa using (Ne.symm hf1)
    rw [z]
    rfl
  have m2 : (fun x : Str => (((["self", f] : List Str).zip [Value.ref a, u]).reverse.lookup x)) f = some u := by
    simp only [List.zip_cons_cons, List.zip_nil_right, List.reverse_cons, List.reverse_nil, List.nil_append, List.singleton_append]
    rw [List.lookup_cons]
    simp
  refine PySem.ks_wpAt_execs_cons (PySem.ks_wpAt_Expr_any (PySem.ks_wpAt_MethodCall ?_ (eval_methodCall1 hpos rfl)) ?hi)
  case hi =>
    show (sc.kind == .module && _) = false
    rw [hk]
    rfl
  refine PySem.ks_wpAt_super_base hks hkc (by decide) rfl (X1 _ _ lk) rfl rfl rfl (X1 _ _ lcd) rfl hvs (by rw [Pk.file]; simp) Pk.top ?_
  obtain ⟨mb, hmb, hmb2⟩ := e0.mod.blt
  have bk : ∀ b o, base.get? b = some o → h1.get? b = some o := fun b o e => hk1 _ _ (e0.bs b o e).1
  refine PySem.W.ks_loadName_global hk hks (PySem.Calls.loadGlobal_builtin (e0.mod.glob.keeps bk) (PySem.W.mg_none_of e0.mod.kin e0.mod.glob D.nosup) (hmb.keeps bk) ((hmb2 _ (by decide)).trans (by decide +kernel : bootBuiltins "super" = some (.type "super"))) ⟨rfl, ?_⟩)
  refine wpAny_loadName_free hk hkc rfl ⟨_, X1 _ _ lcc, rfl⟩ ?_
  rw [ha1]
  refine wpAny_loadName_local hk hkself hns m1 ?_
  refine PySem.ks_wpAny_isType_cls hC1 rfl ⟨rfl, ?_⟩
  refine PySem.ks_wpAny_call_super hC1 rfl hea1 rfl (fun c z => by cases z) (PySem.W.looks_mroIn X1 D.mro) (fun h2 e2 k2 => ?_)
  have X2 : K.In h2 := X1.keeps k2
  have hea2 := k2 _ _ hea1
  have hC2 := k2 _ _ hC1
  have hac : a ≠ C := fun z => by
    rw [z] at hea1
    rw [hC1] at hea1
    cases hea1
  have hclC : PySem.W.clsIn K C = some { name := nmC, bases := bsC, mro := .ref C :: bmC, ns := NC, qualname := qC, hasDict := true, slotNames := snC, subclasses := subC, abstract := abC, collection := colC, hasDel := false } := by
    unfold PySem.W.clsIn
    rw [lC]
  have hsup := D.sup
  unfold PySem.W.ks_superIn at hsup
  rw [hclC] at hsup
  have I2 : PySem.W.InstAt h2 a { cls := .ref C, dict := none, data := .fields #[.ref t1, .none, .none, .none, .bool false, .none] } C none := ⟨hea2, rfl, rfl, trivial⟩
  refine PySem.W.kxs_getMethod PySem.W.kxs_ValueError e2 (PySem.W.looks_opaque X2 D.noany) (l₀ := .ref C :: bmC) (fun A Q E s k q => wpAny_bind ((PySem.W.looks_clsIn X2 hclC) A _ E s k (wpAny_pure q))) rfl X2 hsup
    (I2.type.andThen (PySem.W.looks_subIn X2 D.ve)) hac (by decide) ?_
  have hu : (h2.push (PySem.W.kxs_mw "ValueError.__init__" a)).get? h2.objs.size = some (PySem.W.kxs_mw "ValueError.__init__" a) := Heap.get?_push_at rfl rfl
  have k3 : ∀ b o, h2.get? b = some o → (h2.push (PySem.W.kxs_mw "ValueError.__init__" a)).get? b = some o := fun b o e => Heap.get?_push_of_some _ e
  refine PySem.W.kxs_callWith (i := "ValueError.__init__") (x := a) rfl (PySem.Calls.evalArgs_plain ?_)
  refine PySem.Calls.spliced_cons (wpAny_Name (wpAny_loadName_local hk hkf ((hns.keeps k2).keeps k3) m2 ?_) hdb)
  refine PySem.Calls.spliced_nil ⟨hu, ?_⟩
  refine call_bwV (k3 _ _ hC2) (k3 _ _ hea2) hu (by rw [sizeLine_eq]; show 1 ≤ _; decide) (fun h4 t4 k4 e4 => ?_)
  have kk : ∀ b o, b ≠ a → hp.get? b = some o → h4.get? b = some o := fun b o n e => k4 b o n (k3 _ _ (k2 _ _ (hk1 _ _ e)))
  have X4 : K.In h4 := fun b o e => kk b o (fun z => by
    rw [z] at e
    have y := (e0.bs _ _ (e0.mod.kin _ _ e)).2
    rw [ea] at y
    cases y) (KX _ _ e)
  have hns4 := (((hns.keeps k2).keeps k3)).at (h' := h4) (fun o e => k4 _ o hLa e)
  refine wpAt_of_wpAny (wpAny_execs_cons (plainObj_wpAny_Assign_Attribute (wpAny_Name (wpAny_loadName_local hk hkf hns4 m2 ?_) hdb)))
  refine wpAny_Name (wpAny_loadName_local hk hkself hns4 m1 ?_) (by decide)
  refine PySem.W.set_plain X4 (ox := { cls := .ref C, dict := none, data := .fields #[.ref t4, .none, .none, .none, .bool false, .none] }) (od := none) ⟨e4, rfl, rfl, trivial⟩ D.oex.sa ?_
  refine PySem.HandSPX.exc_osa X4 e4 hclC (show PySem.HandSPX.refsVE (.ref C :: bmC) = true from hbm) rfl D.noat (fun h5 tk' dx k5 dn dne hx hn => ?_)
  have kf : ∀ b o, b ≠ a → hp.get? b = some o → h5.get? b = some o := fun b o n e => k5 b o n (kk b o n e)
  have hsz : hp.objs.size ≤ dx := Nat.le_of_lt (Nat.lt_of_lt_of_le hns4.lt dn)
  have hnd : H dx = none := e0.hok.fresh hsz
  have nd : ∀ {b : Addr} {o : Obj}, hp.get? b = some o → b ≠ dx := fun {b o} z => Nat.ne_of_lt (Nat.lt_of_lt_of_le (Heap.lt_size z) hsz)
  have na : ∀ {b : Addr}, H b = none → b ≠ a := fun {b} n z => by
    rw [z, ea] at n
    cases n
  refine wpAny_execs_nil ?_
  refine ⟨.non, _, rfl, e0.bare, ?_, ?_, rfl, hq dx hnd dne⟩
  · exact {
      keep := fun b o q n _ _ => kf b o (na n) q
      slot := fun b o q n _ _ => ⟨o.slots, kf b o (na n) q⟩
      free := fun b o q n _ => by rw [upd_ne (na n), upd_ne (nd q)]; exact n
      there := fun b o q _ => by
        by_cases hb : b = a
        · exact ⟨_, by rw [hb]; exact hx⟩
        · exact ⟨o, kf b o hb q⟩
      tups := fun b xs q => by rw [upd_ne (at_ne ea q exo_tup), upd_ne (ne_of_none q hnd)]; exact q
      frzs := fun b o v q => by rw [upd_ne (at_ne ea q exo_frz), upd_ne (ne_of_none q hnd)]; exact q
      tbls := fun b ps q => ⟨#[], by rw [upd_ne (at_ne ea q exo_tbl), upd_ne (ne_of_none q hnd), q]; simp⟩ }
  · intro b o q
    by_cases hb : b = a
    · subst hb
      rw [upd_same] at q
      cases q
      exact exo_ok hx
    · rw [upd_ne hb] at q
      by_cases hd : b = dx
      · subst hd
        rw [upd_same] at q
        cases q
        exact exd_ok hn (relO_put (fs := []) ry fun g => True.intro)
      · rw [upd_ne hd] at q
        exact (e0.hok b o q).stay (fun c v hc z => kf c v (by
            rcases hc with hc | hc
            · rw [hc]
              exact hb
            · exact at_ne ea hc exo_own) z)
          (fun c hc => by rw [upd_ne (at_ne ea hc exo_own), upd_ne (ne_of_none hc hnd)]; exact hc) (fun c xs hc => by rw [upd_ne (at_ne ea hc exo_tup), upd_ne (ne_of_none hc hnd)]; exact hc)
theorem pe_imp {X : Cx} {e : Expr} {te : TE} (h : PE X e te) : PE X e (fun σ H Q' => ∃ Q, te σ H Q ∧ ∀ v H1, Q v H1 → Q' v H1) :=
  ⟨fun pins s σ H Q' I ⟨Q, ht, hi⟩ => wpAny_mono (h.run pins s σ H Q I ht) (fun _ _ ⟨v, H1, I1, r, q⟩ => ⟨v, H1, I1, r, hi _ _ q⟩) fun _ _ z => z⟩
/-- C(e): the exception stands with its dict of one field -/
def tMkX (C : Addr) (f : Str) (te : TE) : L2.St → Hp → XK → Prop := fun σ H Q => te σ H fun y H1 => ∀ d, H1 d = none → Q (.ref C) (some d) (upd H1 d (.xd [(f, y)]))
def BindsXi (f : Str) : Prop := ∀ (nm qn : Str) (bd : FuncBody) (sc : Scope) (gl : Addr) (cl : List (Str × Addr)) (doc pm : Value) (an : Option Addr) (cdv ct : Value) (bl : Addr) (n1 n2 : Option Expr) (q1 q2 : Pos) (u0 u1 : Value),
  bindArgs ⟨nm, qn, ⟨[], [⟨"self", n1, q1⟩, ⟨f, n2, q2⟩], none, [], [], none, []⟩, bd, sc, gl, cl, .none, .none, doc, pm, an, cdv, ct, bl⟩ ⟨[u0, u1], []⟩ = pure ((["self", f] : List Str).zip [u0, u1])
theorem bx_part : BindsXi "part" := fun _ _ _ _ _ _ _ _ _ _ _ _ _ _ _ _ _ _ => rfl
theorem bx_most : BindsXi "most" := fun _ _ _ _ _ _ _ _ _ _ _ _ _ _ _ _ _ _ => rfl
theorem bx_line : BindsXi "line" := fun _ _ _ _ _ _ _ _ _ _ _ _ _ _ _ _ _ _ => rfl
theorem bx_name : BindsXi "name" := fun _ _ _ _ _ _ _ _ _ _ _ _ _ _ _ _ _ _ => rfl
theorem pmk_xi {X : Cx} {x f file : Str} {e : Expr} {te : TE} {p pos : Pos} (D : XiC X.K file (He.ga X.K x) f) (Pk : XpOk X.prog file) (bx : BindsXi f) (hr : Room 2 X.A) (hg : Gl X x) (hm : X.mg x = some (.ref (He.ga X.K x))) (ha : PE X e te)
    (hf1 : f ≠ "self" := by decide) (hdf : (f == ("__debug__" : Str)) = false := by decide) (hdb : (x == ("__debug__" : Str)) = false := by decide) (he : starEach [e] X.env = (false, eval e X.env) :: starEach [] X.env := by rfl) :
    PMk X (.Call (.Name x p) [e] [] pos) (tMkX (He.ga X.K x) f te) := by
  obtain ⟨fi, hi, ht, oc, od, fd, osl, lk, hfn⟩ := D.fI
  have hpr : fd.defaults = .none ∧ fd.kwdefaults = .none ∧ xiPr f fd.params = true := by
    simp only [xiFn, Bool.and_eq_true, decide_eq_true_eq] at hfn
    exact ⟨hfn.1, hfn.2.1, hfn.2.2.2.1⟩
  have hb : Binds X.K fd ["self", f] [] := Binds.all fun us hl => by
    obtain ⟨d1, d2, hpr⟩ := hpr
    obtain ⟨a1, a2, e1, e2, e3⟩ := xiPr_ok hpr
    obtain ⟨u0, u1, rfl⟩ : ∃ u0 u1, us = [u0, u1] := by
      match us, hl with
      | [u0, u1], _ => exact ⟨u0, u1, rfl⟩
    obtain ⟨_, n1, q1⟩ := a1
    obtain ⟨_, n2, q2⟩ := a2
    dsimp only at e2 e3
    subst e2 e3
    obtain ⟨nm, qn, pr, bd, sc, gl, cl, dV, kV, doc, pm, an, cdv, ct, bl⟩ := fd
    dsimp only at e1 d1 d2
    subst e1 d1 d2
    exact bx _ _ _ _ _ _ _ _ _ _ _ _ _ _ _ _ _ _
  have F1 := fn_xi (w := X.w) (mg := X.mg) (base := X.base) (CX := fun _ _ _ _ _ _ => False) D Pk lk hfn hf1 hdf
  intro pins s σ H Q I h
  refine pmk_oex (sp := spXi (He.ga X.K x) f) (dvs := []) (ds := []) D.oex hi ht F1 hr hb .nil (fun _ _ _ _ _ _ _ z => z.elim) hg hm (pa_cons (pe_imp ha) pa_nil he) hdb he rfl pins s σ H Q I ⟨_, h, fun y H1 q => ?_⟩
  refine ⟨by show 1 ≤ 1000; decide, fun a na => ⟨a, y, rfl, upd_same, fun dx nx ne => ⟨rfl, dx, [(f, y)], upd_same, ?_, ?_, ?_⟩⟩⟩
  · rw [upd_ne ne, upd_same]
  · rw [← nx, upd_ne ne]
  · have nx' : H1 dx = none := by rw [← nx, upd_ne ne]
    have z : upd (del (upd (upd (upd H1 a (exo a (He.ga X.K x) none)) dx (exd dx [(f, y)])) a (exo a (He.ga X.K x) (some dx))) a) dx (.xd [(f, y)]) = upd H1 dx (.xd [(f, y)]) := by
      funext b
      by_cases hb : b = dx
      · rw [hb, upd_same, upd_same]
      · rw [upd_ne hb, upd_ne hb]
        by_cases ha : b = a
        · rw [ha, del_same, na]
        · rw [del_ne ha, upd_ne ha, upd_ne hb, upd_ne ha]
    rw [z]
    exact q dx nx'
theorem as_go {K : PySem.W.Frag} {H : Hp} {σ : L2.St} {i : Nat} {c cls : Value} {ts : Addr → Value → Option Addr → TS} {Wout : WX} {D : Ends} {d : Option Addr} (h : PySem.W.exmOne K cls c = some true)
    (q : ∀ a, H a = none → ts a cls d { nx := fun σ' H' => D.nx (σ'.set i none) H', rt := D.rt, bk := fun σ' H' => D.bk (σ'.set i none) H', ct := fun σ' H' => D.ct (σ'.set i none) H' } (σ.set i (some (.ref a))) H) :
    wAs K c i ts Wout D cls d σ H := ⟨true, h, fun _ => q, fun h => nomatch h⟩
theorem xf_go {a C dd : Addr} {f : Str} {te : TE} {σ : L2.St} {H : Hp} {Q : VK} {y : V} (ea : H dd = some (.xd [(f, y)])) (h : te σ H fun x H1 => x = .ref a ∧ H1 = H) (q : Q y H) (hm : ∀ (Q Q' : VK), (∀ v H1, Q v H1 → Q' v H1) → te σ H Q → te σ H Q') :
    tXf a (.ref C) (some dd) C f te σ H Q := hm _ _ (fun v H1 ⟨hv, hH⟩ => ⟨hv, rfl, dd, [(f, y)], y, rfl, by rw [hH]; exact ea, by simp [List.lookup], by rw [hH]; exact q⟩) h
theorem w_mkx {C : Addr} {f : Str} {te : TE} {σ : L2.St} {H : Hp} {Q : XK} (h : te σ H fun y H1 => ∀ d, H1 d = none → Q (.ref C) (some d) (upd H1 d (.xd [(f, y)]))) : tMkX C f te σ H Q := h
end Lv

/-! sorted(xs), sorted(d): fewer than 64 tuples of ints of any length, in the order of tuples -/
namespace Lv
open PySem PySem.Spec PyProof.Rows L2
def lexLt : List Int → List Int → Bool
  | [], m => !m.isEmpty
  | _ :: _, [] => false
  | p :: ns, q :: ms => if p = q then lexLt ns ms else decide (p < q)
theorem lexLt_irr : ∀ a : List Int, lexLt a a = false
  | [] => rfl
  | p :: ns => by unfold lexLt; rw [if_pos rfl]; exact lexLt_irr ns
theorem lexLt_tri : ∀ a b : List Int, lexLt a b = false → lexLt b a = false → a = b
  | [], [], _, _ => rfl
  | [], _ :: _, h, _ => by cases h
  | _ :: _, [], _, h => by cases h
  | p :: ns, q :: ms, h1, h2 => by
    unfold lexLt at h1 h2
    by_cases e : p = q
    · subst e
      rw [if_pos rfl] at h1 h2
      rw [lexLt_tri ns ms h1 h2]
    · rw [if_neg e] at h1
      rw [if_neg (Ne.symm e)] at h2
      have := of_decide_eq_false h1
      have := of_decide_eq_false h2
      omega
theorem lexLt_trans : ∀ a b c : List Int, lexLt a b = true → lexLt b c = true → lexLt a c = true
  | [], [], _, h, _ => by cases h
  | [], _ :: _, [], _, h => by cases h
  | [], _ :: _, _ :: _, _, _ => rfl
  | _ :: _, [], _, h, _ => by cases h
  | _ :: _, _ :: _, [], _, h => by cases h
  | p :: ns, q :: ms, r :: ls, h1, h2 => by
    unfold lexLt at h1 h2 ⊢
    by_cases e1 : p = q
    · subst e1
      rw [if_pos rfl] at h1
      by_cases e2 : p = r
      · subst e2
        rw [if_pos rfl] at h2 ⊢
        exact lexLt_trans ns ms ls h1 h2
      · rw [if_neg e2] at h2 ⊢; exact h2
    · rw [if_neg e1] at h1
      have l1 := of_decide_eq_true h1
      by_cases e2 : q = r
      · subst e2
        rw [if_neg e1]; exact h1
      · rw [if_neg e2] at h2
        have l2 := of_decide_eq_true h2
        rw [if_neg (by omega)]
        exact decide_eq_true (by omega)
theorem lexLt_neg {a b c : List Int} (h1 : lexLt b a = false) (h2 : lexLt c b = false) : lexLt c a = false := by
  cases e : lexLt c a with
  | false => rfl
  | true =>
    cases e2 : lexLt a b with
    | true =>
      have := lexLt_trans _ _ _ e e2
      rw [h2] at this; cases this
    | false =>
      have := lexLt_tri a b e2 h1
      subst this
      rw [h2] at e; cases e
def lexRk (L : List (List Int)) (a : List Int) : Int := ((L.filter fun b => lexLt b a).length : Nat)
theorem filter_lt {α : Type} {f g : α → Bool} (h : ∀ x, f x = true → g x = true) : ∀ {l : List α} {y : α}, y ∈ l → f y = false → g y = true → (l.filter f).length < (l.filter g).length
  | [], _, hy, _, _ => nomatch hy
  | x :: l, y, hy, h1, h2 => by
    have mono : ∀ l : List α, (l.filter f).length ≤ (l.filter g).length := by
      intro l
      induction l with
      | nil => exact Nat.le_refl _
      | cons x l ih =>
        rw [List.filter_cons, List.filter_cons]
        cases e : f x with
        | true => rw [if_pos rfl, if_pos (h x e)]; simp only [List.length_cons]; omega
        | false =>
          rw [if_neg (by decide)]
          split
          · simp only [List.length_cons]; omega
          · exact ih
    rw [List.filter_cons, List.filter_cons]
    rcases List.mem_cons.mp hy with rfl | hy
    · rw [if_neg (by rw [h1]; decide), if_pos h2]
      have := mono l
      simp only [List.length_cons]; omega
    · have ih := filter_lt h hy h1 h2
      cases e : f x with
      | true => rw [if_pos rfl, if_pos (h x e)]; simp only [List.length_cons]; omega
      | false =>
        rw [if_neg (by decide)]
        split
        · simp only [List.length_cons]; omega
        · exact ih
theorem lexRk_lt {L : List (List Int)} {a b : List Int} (ha : a ∈ L) (h : lexLt a b = true) : lexRk L a < lexRk L b := by
  have := filter_lt (f := fun c => lexLt c a) (g := fun c => lexLt c b) (fun x hx => lexLt_trans x a b hx h) ha (lexLt_irr a) h
  unfold lexRk
  omega
theorem lexRk_eq {L : List (List Int)} {a b : List Int} (ha : a ∈ L) (hb : b ∈ L) : decide (lexRk L a < lexRk L b) = lexLt a b := by
  cases e : lexLt a b with
  | true => exact decide_eq_true (lexRk_lt ha e)
  | false =>
    refine decide_eq_false ?_
    cases e2 : lexLt b a with
    | true => have := lexRk_lt hb e2; omega
    | false => rw [lexLt_tri a b e e2]; omega
section
variable {prog : Program} {w : World} {A : Around} {E : Value → Shared → Prop} {s : Shared}
theorem lex_any {Q : Bool → Shared → Prop} {b : Bool} {xs ys : List Value} {ns ms : List Int} (i : Nat) (hx : IntsAre xs ns) (hy : IntsAre ys ms) (h : Q (lexLt ns ms) s) : PySem.W.KatLex prog w A b (decide (xs.length < ys.length)) Q (xs.zip ys) i s := by
  induction hx generalizing ys ms i with
  | nil =>
    cases hy with
    | nil => exact PySem.W.kat_nil h
    | cons q u hy => exact PySem.W.kat_nil (by simpa [lexLt] using h)
  | @cons p t xs ns hx ih =>
    cases hy with
    | nil => exact PySem.W.kat_nil (by simpa [lexLt] using h)
    | @cons q u ys ms hy =>
      have e0 : decide ((Value.int p t :: xs).length < (Value.int q u :: ys).length) = decide (xs.length < ys.length) := by
        simp only [List.length_cons]
        exact decide_eq_decide.mpr ⟨fun h => by omega, fun h => by omega⟩
      rw [e0]
      show PySem.W.KatLex prog w A b (decide (xs.length < ys.length)) Q ((Value.int p t, Value.int q u) :: xs.zip ys) i s
      refine PySem.W.kat_cons (wpAny_eqBool_int ?_)
      by_cases e : p = q
      · subst e
        rw [beq_self_eq_true]
        unfold lexLt at h
        rw [if_pos rfl] at h
        exact PySem.W.kat_yes (ih (i + 1) hy h)
      · rw [show (p == q) = false from beq_eq_false_iff_ne.mpr e]
        unfold lexLt at h
        rw [if_neg e] at h
        exact PySem.W.kat_no (TS.oneLt_ints _ h)
/-- what is sorted -/
def LexOk (h : Heap) (vs : List Value) : Prop := ∀ v, v ∈ vs → ∃ ns, TS.TupInts h v ns ∧ ns ≠ []
theorem lex_firsts {h : Heap} : ∀ vs : List Value, LexOk h vs → ∃ fs, PySem.W.KatTups h vs fs ∧ fs.length = vs.length ∧ ∀ f, f ∈ fs → ∃ n t, f = Value.int n t
  | [], _ => ⟨[], PySem.W.KatTups.nil, rfl, fun f hf => by simp at hf⟩
  | v :: vs, x => by
    obtain ⟨fs, k, hl, hi⟩ := lex_firsts vs fun u hu => x u (List.mem_cons_of_mem _ hu)
    obtain ⟨ns, ⟨a, xs, rfl, ⟨o, ho, hc, n, hdt⟩, i⟩, hn⟩ := x v (List.mem_cons_self ..)
    obtain ⟨y, ys, e⟩ : ∃ y ys, xs.toList = y :: ys := by
      cases q : xs.toList with
      | nil =>
        rw [q] at i
        have l := i.length
        rw [List.length_nil] at l
        exact absurd (List.eq_nil_of_length_eq_zero (by omega)) hn
      | cons y ys => exact ⟨y, ys, rfl⟩
    obtain ⟨m, t, hy⟩ := i.all y (by rw [e]; exact List.mem_cons_self ..)
    refine ⟨y :: fs, PySem.W.KatTups.cons ho hc hdt ?_ k, by simp [hl], ?_⟩
    · have z := congrArg (fun l : List Value => l[0]?) e
      simpa using z
    · intro f hf
      rcases List.mem_cons.mp hf with rfl | hf
      · exact ⟨m, t, hy⟩
      · exact hi f hf
theorem kind_lex {vs : List Value} (h2 : 2 ≤ vs.length) (x : LexOk s.heap vs) (r : Value → Int) (hr : ∀ v ∈ vs, ∀ u ∈ vs, ∀ ns ms, TS.TupInts s.heap v ns → TS.TupInts s.heap u ms → decide (r v < r u) = lexLt ns ms) (Q : SortKind → Shared → Prop)
    (h : ∀ κ, TS.Cmp prog w A s κ (pairsOf vs) r → Q κ s) : wpAny (model prog w) A (keyKind' vs.toArray) Q E s := by
  obtain ⟨fs, k, hl, hi⟩ := lex_firsts vs x
  refine PySem.W.kat_kind (T := Value.type "int") k (by omega) (fun f hf => ?_) rfl (h _ ?_)
  · obtain ⟨n, t, rfl⟩ := hi f hf
    exact PySem.W.Looks.of_pure rfl
  · intro p q hp hq Q' E' hQ
    rw [pairsOf_toList] at hp hq
    obtain ⟨ns, tp, np⟩ := x _ (mem_zip_self hp).2
    obtain ⟨ms, tq, nq⟩ := x _ (mem_zip_self hq).2
    have z := hr _ (mem_zip_self hp).2 _ (mem_zip_self hq).2 ns ms tp tq
    rw [z] at hQ
    obtain ⟨a, xs, e1, ⟨o, ho, hc, n, hdt⟩, i⟩ := tp
    obtain ⟨a', ys, e2, ⟨o', ho', hc', n', hdt'⟩, i'⟩ := tq
    rw [e1, e2]
    refine PySem.W.kat_lt ho hdt ho' hdt' ?_
    have l1 : xs.size = xs.toList.length := (Array.length_toList ..).symm
    have l2 : ys.size = ys.toList.length := (Array.length_toList ..).symm
    rw [l1, l2]
    exact lex_any 0 i i' hQ
def ltI (h : Heap) (v u : Value) : Bool := lexLt (TS.intsOf h v) (TS.intsOf h u)
theorem swo_ltI (h : Heap) : SrtO.Swo (ltI h) := by
  refine ⟨fun x y hxy => ?_, fun x y z h1 h2 => ?_⟩
  · unfold ltI at hxy ⊢
    cases e : lexLt (TS.intsOf h y) (TS.intsOf h x) with
    | false => rfl
    | true =>
      have := lexLt_trans _ _ _ hxy e
      rw [lexLt_irr] at this; cases this
  · unfold ltI at h1 h2 ⊢
    revert h1 h2
    generalize TS.intsOf h x = a
    generalize TS.intsOf h y = b
    generalize TS.intsOf h z = c
    intro h1 h2
    first
      | exact lexLt_neg h1 h2
      | exact lexLt_neg h2 h1
theorem lex_sortable {a : Addr} {vs : List Value} (h0 : 0 < vs.length) (x : LexOk s.heap vs) (ha : ∀ o, s.heap.get? a = some o → o.cls ≠ .type "tuple") : SrtO.SortableO prog w A s a vs (ltI s.heap) := by
  intro h' keep
  have keep2 : ∀ b o, s.heap.get? b = some o → o.cls = .type "tuple" → h'.get? b = some o := fun b o e c => keep b o (fun z => by subst z; exact ha o e c) e
  have x' : LexOk h' vs := fun v hv => let ⟨ns, t, hn⟩ := x v hv; ⟨ns, t.keeps keep2, hn⟩
  obtain ⟨fs, k, hl, hi⟩ := lex_firsts vs x'
  refine ⟨PyProof.Rows.tuples' true, fun Q E hq => ?_, fun p q hm hm' => ?_⟩
  · refine PySem.W.kat_kind (T := Value.type "int") k (by omega) (fun f hf => ?_) rfl ?_
    · obtain ⟨n, t, rfl⟩ := hi f hf
      exact PySem.W.Looks.of_pure rfl
    · have e : (Value.type "int" != Value.type "tuple") = true := by first | decide +kernel | rfl | decide
      rw [e]
      exact hq
  · obtain ⟨ns, tp, np⟩ := x p.1 hm
    obtain ⟨ms, tq, nq⟩ := x q.1 hm'
    have tp' := tp.keeps keep2
    have tq' := tq.keeps keep2
    have e0 : SrtO.lt2 (ltI s.heap) p q = lexLt ns ms := by
      show ltI s.heap p.1 q.1 = _
      unfold ltI
      rw [tp.ints, tq.ints]
    rw [e0]
    obtain ⟨a, xs, e1, ⟨o, ho, hc, n, hdt⟩, i⟩ := tp'
    obtain ⟨a', ys, e2, ⟨o', ho', hc', n', hdt'⟩, i'⟩ := tq'
    rw [e1, e2]
    refine PySem.W.kat_lt ho hdt ho' hdt' ?_
    have l1 : xs.size = xs.toList.length := (Array.length_toList ..).symm
    have l2 : ys.size = ys.toList.length := (Array.length_toList ..).symm
    rw [l1, l2]
    exact lex_any 0 i i' ⟨rfl, rfl⟩
/-- list.sort -/
theorem sort_lex {a : Addr} {vs : List Value} {n : Nat} {P : PySem.Fin → Shared → Prop} (ho : s.heap.get? a = some (seqObj "list" vs.toArray n)) (hz : vs.length ≤ sizeLine) (x : LexOk s.heap vs)
    (h : ∀ out : Array Value, out.toList.Perm vs → out.toList.Pairwise (fun u v => lexLt (TS.intsOf s.heap v) (TS.intsOf s.heap u) = false) → P (.done (.ret .none)) { s with heap := sortedHeap s.heap a vs out }) :
    wpAny (model prog w) A (Builtin.«list.sort» ⟨[.ref a], []⟩) P E s := by
  refine SrtO.list_sort_ord (swo_ltI s.heap) ho hz (fun h2 => lex_sortable (by omega) x fun o e => ?_) fun out h1 h2 => h out.toArray h2.perm h1
  rw [ho] at e
  have e' : seqObj "list" vs.toArray n = o := Option.some.inj e
  rw [← e']
  intro c
  exact absurd (Value.type.inj c) (by decide)
end
section
variable {X : Cx}
/-- tuples, sorted by their ints -/
def lexP (K : PySem.W.Frag) (H : Hp) (x y : V) : Prop := ∀ n m, TupI K H x n → TupI K H y m → lexLt m n = false
theorem lex_vals {pins : List (Addr × Obj)} {σ : L2.St} {H : Hp} {s : Shared} (I : Inv X pins σ H s) {xs : List V} {us : List Value} (rv : Vals xs us) (hx : ∀ x ∈ xs, ∃ ns, TupI X.K H x ns ∧ ns ≠ []) :
    xs = us.map bkV ∧ (∀ u ∈ us, ∃ a, u = Value.ref a) ∧ LexOk s.heap us := by
  obtain ⟨e1, e2⟩ := bkV_refs rv fun x m => by
    obtain ⟨ns, ⟨t, e, _⟩, _⟩ := hx x m
    exact ⟨t, e⟩
  refine ⟨e1, e2, fun v hv => ?_⟩
  obtain ⟨t, rfl⟩ := e2 v hv
  have hm : V.ref t ∈ xs := by
    rw [e1]
    exact List.mem_map.mpr ⟨_, hv, rfl⟩
  obtain ⟨ns, ⟨t', e, ht⟩, hn⟩ := hx _ hm
  cases e
  exact ⟨ns, tupI_raw I ht, hn⟩
theorem lexP_of {pins : List (Addr × Obj)} {σ : L2.St} {H : Hp} {s : Shared} (I : Inv X pins σ H s) {us : List Value} (h : us.Pairwise (fun u v => lexLt (TS.intsOf s.heap v) (TS.intsOf s.heap u) = false)) : (us.map bkV).Pairwise (lexP X.K H) := by
  rw [List.pairwise_map]
  refine List.Pairwise.imp (fun {u v} huv n m hn hm => ?_) h
  obtain ⟨t, et, ht⟩ := hn
  obtain ⟨t', et', ht'⟩ := hm
  have eu := bkV_ref et
  have ev := bkV_ref et'
  have i1 : TS.intsOf s.heap u = n := by
    rw [eu]
    exact (tupI_raw I ht).ints
  have i2 : TS.intsOf s.heap v = m := by
    rw [ev]
    exact (tupI_raw I ht').ints
  rw [← i1, ← i2]
  exact huv
/-- sorted(xs) of a list -/
def rSortLL (K : PySem.W.Frag) : List V → Hp → VK → Prop := fun vs H Q => ∃ (a : Addr) (xs : List V), vs = [V.ref a] ∧ SqL K H a xs ∧ (∀ x ∈ xs, ∃ ns, TupI K H x ns ∧ ns ≠ []) ∧
  ∀ (ys : List V) (p : Addr), ys.Perm xs → ys.Pairwise (lexP K H) → H p = none → Q (.ref p) (upd H p (.lst ys))
theorem cr_sortLL : CallR X (.builtin "sorted") (rSortLL X.K) := by
  intro pins s σ H vs us Q I r h
  obtain ⟨a, xs, rfl, hs, hx, q⟩ := h
  obtain ⟨its, rv, hl, hz⟩ := I.list hs
  rw [Vals.ref1 r]
  obtain ⟨e1, e2, x⟩ := lex_vals I rv hx
  have hzi : its.length ≤ sizeLine := by rw [← rv.length]; exact hz
  refine Calls.call_function_entry kind_sorted plain_sorted entry_sorted (args_sorted1 _) ?_
  unfold Builtin.«sorted»
  refine wpAny_bind (m := checkCount "sorted" 1 1 _) (wpAny_pure ?_)
  refine wpAny_bind (collect_list hl.isList ?_ (by simpa using hzi))
  refine wpAny_bind (wpAny_newList ?_ (by simpa using hzi))
  have hsz : ((s.heap.push (seqObj "list" #[] 0)).update s.heap.objs.size (Obj.mapSeq (· ++ its.toArray))).objs.size = s.heap.objs.size + 1 := by
    rw [Heap.size_update, size_push']
  have hoL : (((s.heap.push (seqObj "list" #[] 0)).update s.heap.objs.size (Obj.mapSeq (· ++ its.toArray))).push (seqObj "list" its.toArray 0)).get? (s.heap.objs.size + 1) = some (seqObj "list" its.toArray 0) := by
    rw [← hsz]; exact Heap.get?_push_size _ rfl
  have keep : ∀ b o, s.heap.get? b = some o → o.cls = .type "tuple" → (((s.heap.push (seqObj "list" #[] 0)).update s.heap.objs.size (Obj.mapSeq (· ++ its.toArray))).push (seqObj "list" its.toArray 0)).get? b = some o := fun b o q _ => by
    have hlt : b < s.heap.objs.size := Heap.lt_size q
    rw [Heap.get?_push_ne _ _ _ (by rw [hsz]; exact Nat.ne_of_lt (Nat.lt_succ_of_lt hlt)), Heap.get?_update_ne _ _ _ _ (Nat.ne_of_lt hlt), Heap.get?_push_ne _ _ _ (Nat.ne_of_lt hlt)]
    exact q
  show wpAny _ _ _ _ _ { s with heap := ((s.heap.push (seqObj "list" #[] 0)).update s.heap.objs.size (Obj.mapSeq (· ++ its.toArray))).push (seqObj "list" its.toArray 0) }
  rw [hsz]
  have ik : ∀ u ∈ its, TS.intsOf (((s.heap.push (seqObj "list" #[] 0)).update s.heap.objs.size (Obj.mapSeq (· ++ its.toArray))).push (seqObj "list" its.toArray 0)) u = TS.intsOf s.heap u := fun u hu => by
    obtain ⟨ns, t, _⟩ := x u hu
    rw [t.ints, (t.keeps keep).ints]
  refine wpAny_bind (wpAny_holding (wpAny_call_entry slot_list_sort ⟨_, hoL, rfl⟩ entry_list_sort (sort_lex hoL hzi (fun v hv => let ⟨ns, t, hn⟩ := x v hv; ⟨ns, t.keeps keep, hn⟩) fun out a1 a2 => ⟨_, rfl, ?_⟩) (args_list_sort _)))
  refine wpAny_pure ⟨_, rfl, ?_⟩
  obtain ⟨ep, he'⟩ := PyProof.Rows.sortedAll_at s.heap its out
  have h3 : ∀ u ∈ out.toList, ∃ a, u = Value.ref a := fun u hu => e2 u (a1.mem_iff.mp hu)
  have hp : (out.toList.map bkV).Perm xs := by
    rw [e1]
    exact a1.map bkV
  have hlen : (out.toList.map bkV).length ≤ sizeLine := by
    rw [hp.length_eq]
    exact hz
  refine ⟨.ref _, upd H (s.heap.objs.size + 1) (.lst (out.toList.map bkV)), I.laid (t' := s.toks) (fun _ _ => PyProof.Rows.sortedAll_old) (Nat.le_succ _) ⟨hlen, out.toList, ep, bkV_vals h3, he'⟩, rfl, q _ _ hp ?_ (I.hok.fresh (Nat.le_succ _))⟩
  refine lexP_of I (List.Pairwise.imp_of_mem (fun {u v} hu hv huv => ?_) a2)
  rw [ik u (a1.mem_iff.mp hu), ik v (a1.mem_iff.mp hv)] at huv
  exact huv
/-- sorted(d) of a dict with tuple keys -/
def rSortLD (K : PySem.W.Frag) : List V → Hp → VK → Prop := fun vs H Q => ∃ (d : Addr) (kvs : List (List L2.Key × V)), vs = [V.ref d] ∧ Rd H d (.dT kvs) ∧ (∀ kv ∈ kvs, ∃ ns : List Int, kv.1 = ns.map Sum.inl ∧ ns ≠ []) ∧
  ∀ (bs : List Addr) (ys : List V) (p : Addr), IsKeys H kvs bs → ys.Perm (bs.map V.ref) → ys.Pairwise (lexP K H) → H p = none → Q (.ref p) (upd H p (.lst ys))
theorem isKeys_tup {K : PySem.W.Frag} {H : Hp} {kvs : List (List L2.Key × V)} {bs : List Addr} (h : IsKeys H kvs bs) (hk : ∀ kv ∈ kvs, ∃ ns : List Int, kv.1 = ns.map Sum.inl ∧ ns ≠ []) : ∀ x ∈ bs.map V.ref, ∃ ns, TupI K H x ns ∧ ns ≠ [] := by
  unfold IsKeys at h
  induction h with
  | nil => intro x hx; exact nomatch hx
  | @cons p b ps bs hb t ih =>
    intro x hx
    rcases List.mem_cons.mp hx with rfl | hx
    · obtain ⟨ns, e, hn⟩ := hk p List.mem_cons_self
      refine ⟨ns, ⟨b, rfl, sqT ?_⟩, hn⟩
      rw [hb, e, List.map_map]
      rfl
    · exact ih (fun kv hkv => hk kv (List.mem_cons_of_mem _ hkv)) x hx
theorem cr_sortLD (hc : X.calm = true) : CallR X (.builtin "sorted") (rSortLD X.K) := by
  intro pins s σ H vs us Q I r h
  obtain ⟨d, kvs, rfl, hd, hk, q⟩ := h
  rw [Vals.ref1 r]
  obtain ⟨z, hs, ks, pr, o, es, ep, ho, hx, hdt, he, hn⟩ := (show ObjOk X.prog X.w H s.heap d (.dT kvs) from hd.ok I.hok)
  have l1 : es.size = ks.length := size_of_entries he
  have l2 : kvs.length = ks.length := Paired.length pr
  refine Calls.call_function_entry kind_sorted plain_sorted entry_sorted (args_sorted1 _) ?_
  unfold Builtin.«sorted»
  refine wpAny_bind (m := checkCount "sorted" 1 1 _) (wpAny_pure ?_)
  refine wpAny_bind (PySem.W.kdu_collect (A := X.A.in1) (kdl_raw hs hx hdt) (I.ok.hd hc) ho (by omega) fun h' tk acc hkp it => ?_)
  have ea : acc.toList = ks.map fun x => Value.ref x.2.1 := by
    have hl : acc.toList.length = ks.length := by rw [Array.length_toList, it.1]; exact l1
    apply List.ext_getElem?
    intro j
    rw [List.getElem?_map]
    cases hj : acc.toList[j]? with
    | none =>
      have h1 := List.getElem?_eq_none_iff.mp hj
      rw [List.getElem?_eq_none (by omega)]
      all_goals rfl
    | some v =>
      obtain ⟨en, hen, hv⟩ := it.2 j v (by rw [← Array.getElem?_toList]; exact hj)
      have qe := entry_at he j
      rw [hen] at qe
      cases hb : ks[j]? with
      | none =>
        rw [hb] at qe
        exact nomatch (show some en = none from qe)
      | some b =>
        rw [hb] at qe
        have e2 : en = entryOfKey (tupleKind (mixKind X.prog X.w)) b := Option.some.inj qe
        rw [hv, e2]
        rfl
  have I1 : Inv X pins σ H { s with heap := h', toks := tk } := I.kept hkp
  have hbs : IsKeys H kvs (ks.map fun x => x.2.1) := isKeys_of pr
  have hxs := isKeys_tup (K := X.K) hbs hk
  have rv : Vals ((ks.map fun x => x.2.1).map V.ref) acc.toList := by
    rw [ea]
    have z := vals_refs (ks.map fun x => x.2.1)
    rw [List.map_map] at z
    rw [List.map_map] at z ⊢
    exact z
  obtain ⟨e1, e2, x⟩ := lex_vals I1 rv hxs
  have hal : acc.toList.length ≤ sizeLine := by rw [ea, List.length_map]; omega
  refine wpAny_bind (wpAny_newList ?_ hal)
  have hoL : (h'.push (seqObj "list" acc.toList.toArray 0)).get? h'.objs.size = some (seqObj "list" acc.toList.toArray 0) := Heap.get?_push_size _ rfl
  have keep : ∀ b o, h'.get? b = some o → o.cls = .type "tuple" → (h'.push (seqObj "list" acc.toList.toArray 0)).get? b = some o := fun b o e _ => Heap.get?_push_of_some _ e
  have ik : ∀ u ∈ acc.toList, TS.intsOf (h'.push (seqObj "list" acc.toList.toArray 0)) u = TS.intsOf h' u := fun u hu => by
    obtain ⟨ns, t, _⟩ := x u hu
    rw [(show TS.TupInts h' u ns from t).ints, (TS.TupInts.keeps (h := h') t keep).ints]
  show wpAny _ _ _ _ _ { s with heap := h'.push (seqObj "list" acc.toList.toArray 0), toks := tk }
  refine wpAny_bind (wpAny_holding (wpAny_call_entry PyProof.Rows.slot_list_sort ⟨_, hoL, rfl⟩ PyProof.Rows.entry_list_sort
    (sort_lex (s := { s with heap := h'.push (seqObj "list" acc.toList.toArray 0), toks := tk }) hoL hal (fun v hv => let ⟨ns, t, hn⟩ := x v hv; ⟨ns, TS.TupInts.keeps (h := h') t keep, hn⟩) fun out a1 a2 => ⟨_, rfl, ?_⟩) (PyProof.Rows.args_list_sort _)))
  obtain ⟨e', he'⟩ := PyProof.Rows.sortedHeap_at (vs := acc.toList) (out := out) hoL
  have h3 : ∀ u ∈ out.toList, ∃ a, u = Value.ref a := fun u hu => e2 u (a1.mem_iff.mp hu)
  have hp : (out.toList.map bkV).Perm ((ks.map fun x => x.2.1).map V.ref) := by
    rw [e1]
    exact a1.map bkV
  have hlen : (out.toList.map bkV).length ≤ sizeLine := by
    rw [hp.length_eq, List.length_map, List.length_map]
    rw [ea, List.length_map] at hal
    exact hal
  refine wpAny_pure ⟨_, rfl, .ref h'.objs.size, upd H h'.objs.size (.lst (out.toList.map bkV)), I1.laid (t' := tk) (fun b u e => ?_) (Nat.le_refl _)
    (show ObjOk X.prog X.w _ _ _ (.lst (out.toList.map bkV)) from ⟨hlen, out.toList, e', bkV_vals h3, by rw [Array.toArray_toList]; exact he'⟩), rfl, q _ _ _ hbs hp ?_ (I1.hok.fresh (Nat.le_refl _))⟩
  · have hb : b < h'.objs.size := Heap.lt_size e
    rw [PyProof.Rows.sortedHeap_old (Nat.ne_of_lt hb) (by rw [size_push']; exact Nat.lt_succ_of_lt hb)]
    exact Heap.get?_push_of_some _ e
  · refine lexP_of I1 (List.Pairwise.imp_of_mem (fun {u v} hu hv huv => ?_) a2)
    have z1 := ik u (a1.mem_iff.mp hu)
    have z2 := ik v (a1.mem_iff.mp hv)
    have huv' : lexLt (TS.intsOf (h'.push (seqObj "list" acc.toList.toArray 0)) v) (TS.intsOf (h'.push (seqObj "list" acc.toList.toArray 0)) u) = false := huv
    rw [z1, z2] at huv'
    exact huv'
end
end Lv

/-! things that change stand in the heap's second part; dicts, their walks, comprehensions of dicts -/
namespace Lv
open PySem PySem.Spec PyProof.Rows L2
theorem room65 {k : Nat} {A : Around} (r : Room k A) : A.units + 65 < cLine := by have := r.un; omega
/-- the second part given back: what the function made goes to the first -/
theorem Join.back {G P P' H : Hp} (j : Join G P' H) (e : Ex P P') : ∃ G', Join G' P H ∧ Ex G G' ∧ ∀ c o, P' c = some o → P c = none → G' c = some o := by
  have hg : ∀ c (o : HO), (if P c = none then H c else none) = some o ↔ P c = none ∧ H c = some o := fun c o => by
    by_cases z : P c = none
    · rw [if_pos z]; exact ⟨fun h => ⟨z, h⟩, fun h => h.2⟩
    · rw [if_neg z]; exact ⟨fun h => (nomatch h), fun h => absurd h.1 z⟩
  refine ⟨fun c => if P c = none then H c else none, ⟨fun c u q => ?_, fun c u q => ((hg c u).mp q).2, fun c u q => j.p c u (e c u q), fun c q1 q2 => ?_⟩, fun c u q => ?_, fun c o q n => (hg c o).mpr ⟨n, j.p c o q⟩⟩
  · have n : P c ≠ none := fun z => by rw [z] at q; cases q
    show (if P c = none then H c else none) = none
    rw [if_neg n]
  · have q3 : (if P c = none then H c else none) = none := q1
    rw [if_pos q2] at q3; exact q3
  · refine (hg c u).mpr ⟨?_, j.g c u q⟩
    cases h : P c with
    | none => rfl
    | some o =>
      have := j.ap c o (e c o h)
      rw [this] at q; cases q
/-- a new thing of the first part goes to the second -/
theorem Join.toP {G0 G P H : Hp} {p : Addr} {o : HO} (j : Join G P H) (e : Ex G0 G) (n : G0 p = none) (h : G p = some o) : ∃ G', Join G' (upd P p o) H ∧ Ex G0 G' ∧ ∀ c u, c ≠ p → G c = some u → G' c = some u := by
  have np : P p = none := j.gp h
  refine ⟨fun c => if c = p then none else G c, ⟨fun c u q => ?_, fun c u q => ?_, fun c u q => ?_, fun c q1 q2 => ?_⟩, fun c u q => ?_, fun c u nc q => ?_⟩
  · show (if c = p then none else G c) = none
    by_cases z : c = p
    · rw [if_pos z]
    · rw [if_neg z]; rw [upd_ne z] at q; exact j.ap c u q
  · have q2 : (if c = p then none else G c) = some u := q
    by_cases z : c = p
    · rw [if_pos z] at q2; cases q2
    · rw [if_neg z] at q2; exact j.g c u q2
  · by_cases z : c = p
    · rw [z, upd_same] at q; rw [z, j.g p o h]; exact q
    · rw [upd_ne z] at q; exact j.p c u q
  · have z : c ≠ p := fun z => by rw [z, upd_same] at q2; cases q2
    have q3 : (if c = p then none else G c) = none := q1
    rw [if_neg z] at q3
    rw [upd_ne z] at q2
    exact j.no c q3 q2
  · show (if c = p then none else G c) = some u
    have z : c ≠ p := fun z => by rw [z, n] at q; cases q
    rw [if_neg z]; exact e c u q
  · show (if c = p then none else G c) = some u
    rw [if_neg nc]; exact q
theorem Join.gn {G P H : Hp} (j : Join G P H) {b : Addr} {o : HO} (h : P b = some o) : G b = none := j.ap b o h
theorem Ex.rdP {H H' : Hp} {a : Addr} {u : HO} (e : Ex H H') (h : Rd H a u) : Rd H' a u := Ex.rd e h
section
variable {K : PySem.W.Frag} {σ : L2.St} {G P H : Hp} {Q : VK} {nx bk ct : L2.St → Hp → Prop} {rt : VK} {D : Ends} {tt : TT} {td ty tx te tk tv : TE} {g : TG} {tb : TS} {as : TA} {d : Addr} {ts : List Nat} {j : Nat}
theorem aTup.goP {xs : List V} (J : Join G P H) (l : xs.length ≤ 100000) (q : ∀ p P' H', H p = none → Ex P P' → Join G P' H' → P' p = some (.tup xs) → Q (.ref p) H') : aTup xs H Q :=
  ⟨szle l, fun p hp => q p _ _ hp (Ex.new (J.np hp)) (J.setP (J.ng hp)) upd_same⟩
theorem aLst.goP {xs : List V} (J : Join G P H) (l : xs.length ≤ 100000) (q : ∀ p P' H', H p = none → Ex P P' → Join G P' H' → P' p = some (.lst xs) → Q (.ref p) H') : aLst xs H Q :=
  ⟨szle l, fun p hp => q p _ _ hp (Ex.new (J.np hp)) (J.setP (J.ng hp)) upd_same⟩
theorem aDNew.goP (J : Join G P H) (q : ∀ p P' H', H p = none → Ex P P' → Join G P' H' → P' p = some (.dK []) → Q (.ref p) H') : aDNew H Q := fun p hp => q p _ _ hp (Ex.new (J.np hp)) (J.setP (J.ng hp)) upd_same
def aDNewT : Hp → VK → Prop := fun H Q => ∀ p, H p = none → Q (.ref p) (upd H p (.dT []))
theorem w_dnewT (h : aDNewT H Q) : tDNewT σ H Q := h
theorem aDNewT.goP (J : Join G P H) (q : ∀ p P' H', H p = none → Ex P P' → Join G P' H' → P' p = some (.dT []) → Q (.ref p) H') : aDNewT H Q := fun p hp => q p _ _ hp (Ex.new (J.np hp)) (J.setP (J.ng hp)) upd_same
/-- {k: v} -/
theorem aDisp1.goP {k : L2.Key} {v : V} (J : Join G P H) (hk : ∀ H' S, S (kV k) H' → tk σ H' S) (hv : ∀ H' S, S v H' → tv σ H' S) (q : ∀ p P' H', H p = none → Ex P P' → Join G P' H' → P' p = some (.dK [(k, v)]) → Q (.ref p) H') : tDisp [(tk, tv)] σ H Q := by
  intro p hp
  refine hk _ _ (hv _ _ ⟨upd_same, [(k, v)], rfl, Nat.le_of_ble_eq_true rfl, ?_⟩)
  have e : upd (upd H p (.dK [])) p (.dK (mergeK [] [(k, v)])) = upd H p (.dK [(k, v)]) := by
    funext c
    by_cases z : c = p
    · rw [z, upd_same, upd_same]; rfl
    · rw [upd_ne z, upd_ne z, upd_ne z]
  rw [e]
  exact q p _ _ hp (Ex.new (J.np hp)) (J.setP (J.ng hp)) upd_same
/-- lists that change -/
theorem appendP {l : Addr} {xs : List V} {y : V} (J : Join G P H) (e : P l = some (.lst xs)) (z : xs.length < 100000) (q : ∀ H', Join G (upd P l (.lst (xs ++ [y]))) H' → Q .non H') : rAppend (.ref l) [y] H Q :=
  w_append (J.p _ _ e) z (q _ (J.setP (J.gn e)))
theorem popP {l : Addr} {xs : List V} {y : V} (J : Join G P H) (e : P l = some (.lst (xs ++ [y]))) (q : ∀ H', Join G (upd P l (.lst xs)) H' → Q y H') : rPop (.ref l) [] H Q := by
  refine ⟨l, xs ++ [y], y, rfl, rfl, J.p _ _ e, ?_, ?_⟩
  · rw [List.length_append, List.length_singleton, Nat.add_sub_cancel, List.getElem?_append_right (Nat.le_refl _), Nat.sub_self]; rfl
  · rw [List.dropLast_concat]
    exact q _ (J.setP (J.gn e))
/-! dicts -/
theorem din_rd {neg : Bool} {ns : List Int} {k : Int} (h : Rd H d (.dK (keyP ns))) (q : Q (.bl (if neg then !decide (k ∈ ns) else decide (k ∈ ns))) H) : rDIn neg (.int k) (.ref d) H Q :=
  ⟨d, _, rfl, .inl ⟨keyP ns, .inl k, h, rfl, rfl⟩, by rw [keyP_val]; exact q⟩
theorem dnot_rd {ns : List Int} {k : Int} (h : Rd H d (.dK (keyP ns))) (q : Q (.bl (!decide (k ∈ ns))) H) : rDIn true (.int k) (.ref d) H Q := din_rd h (by rw [if_pos rfl]; exact q)
theorem dyes_rd {ns : List Int} {k : Int} (h : Rd H d (.dK (keyP ns))) (q : Q (.bl (decide (k ∈ ns))) H) : rDIn false (.int k) (.ref d) H Q := din_rd h (by rw [if_neg (by decide)]; exact q)
theorem din_kv {neg : Bool} {kvs : List (L2.Key × V)} {k : L2.Key} {v : V} (hv : v = kV k) (h : Rd H d (.dK kvs)) (q : Q (.bl (if neg then !(valV kvs k).isSome else (valV kvs k).isSome)) H) : rDIn neg v (.ref d) H Q :=
  ⟨d, _, rfl, .inl ⟨kvs, k, h, hv, rfl⟩, q⟩
theorem din_t {neg : Bool} {kvs : List (List L2.Key × V)} {b : Addr} {ks : List Int} (h : Rd H d (.dT kvs)) (hb : H b = some (.tup (ks.map V.int))) (q : Q (.bl (if neg then !(valV kvs (ks.map Sum.inl)).isSome else (valV kvs (ks.map Sum.inl)).isSome)) H) : rDIn neg (.ref b) (.ref d) H Q :=
  ⟨d, _, rfl, .inr ⟨kvs, ks.map Sum.inl, b, h, rfl, by rw [hb, List.map_map]; rfl, rfl⟩, q⟩
/-- d[k] -/
def aDGet : V → V → Hp → VK → Prop := fun x y H Q => ∃ a v, x = .ref a ∧ DGet H a y (some v) ∧ Q v H
theorem w_dgetI (h : td σ H fun x H1 => ty σ H1 fun y H2 => aDGet x y H2 Q) : tDGet td ty σ H Q := h
theorem dget_kv {kvs : List (L2.Key × V)} {k : L2.Key} {v y : V} (hy : y = kV k) (h : Rd H d (.dK kvs)) (hv : valV kvs k = some v) (q : Q v H) : aDGet (.ref d) y H Q := ⟨d, v, rfl, .inl ⟨kvs, k, h, hy, hv.symm⟩, q⟩
theorem dget_t {kvs : List (List L2.Key × V)} {b : Addr} {ks : List Int} {v : V} (h : Rd H d (.dT kvs)) (hb : H b = some (.tup (ks.map V.int))) (hv : valV kvs (ks.map Sum.inl) = some v) (q : Q v H) : aDGet (.ref d) (.ref b) H Q :=
  ⟨d, v, rfl, .inr ⟨kvs, ks.map Sum.inl, b, h, rfl, by rw [hb, List.map_map]; rfl, hv.symm⟩, q⟩
theorem dputP {kvs : List (L2.Key × V)} {k : L2.Key} {v y : V} (J : Join G P H) (hy : y = kV k) (h : P d = some (.dK kvs)) (hl : kvs.length < 100000) (q : ∀ H', Join G (upd P d (.dK (putK kvs k v))) H' → nx σ H') : aDPut v y nx σ (.ref d) H := by
  subst hy
  exact ⟨d, _, rfl, DPut.k (J.p _ _ h) (szlt hl), q _ (J.setP (J.gn h))⟩
theorem dputTP {kvs : List (List L2.Key × V)} {b : Addr} {ks : List Int} {v : V} (J : Join G P H) (hb : H b = some (.tup (ks.map V.int))) (h : P d = some (.dT kvs)) (hl : kvs.length < 100000) (q : ∀ H', Join G (upd P d (.dT (putK kvs (ks.map Sum.inl) v))) H' → nx σ H') : aDPut v (.ref b) nx σ (.ref d) H :=
  ⟨d, _, rfl, DPut.t (k := ks.map Sum.inl) (J.p _ _ h) (by rw [hb, List.map_map]; rfl) (szlt hl), q _ (J.setP (J.gn h))⟩
theorem lenP {kvs : List (L2.Key × V)} (h : H d = some (.dK kvs)) (q : Q (.int kvs.length) H) : rLenD [.ref d] H Q := ⟨d, kvs, rfl, h, q⟩
/-- for k in d: d stands in the second part, locked -/
theorem forKP.go {kvs : List (L2.Key × V)} (J : Join G P H) (h : P d = some (.dK kvs)) (htd : ∀ (H' : Hp) (Q : VK), Q (.ref d) H' → td σ H' Q) (I : Nat → Hp → Hp → L2.St → Prop) (h0 : ∀ od, I 0 G (upd P d (.frz od (.dK kvs))) σ)
    (hs : ∀ (od : Obj) (rt' : VK) (bk' : L2.St → Hp → Prop) (i : Nat) (k : L2.Key) (v : V) (G' P' H' : Hp) (σ' : L2.St), kvs[i]? = some (k, v) → P' d = some (.frz od (.dK kvs)) → Join G' P' H' → I i G' P' σ' →
      g (kV k) σ' H' fun σ2 H2 => tb ⟨fun σ3 H3 => ∃ G3 P3, Join G3 P3 H3 ∧ P3 d = some (.frz od (.dK kvs)) ∧ I (i + 1) G3 P3 σ3, rt', bk', fun σ3 H3 => ∃ G3 P3, Join G3 P3 H3 ∧ P3 d = some (.frz od (.dK kvs)) ∧ I (i + 1) G3 P3 σ3⟩ σ2 H2)
    (hq : ∀ (od : Obj) (G' P' H' : Hp) (σ' : L2.St), P' d = some (.frz od (.dK kvs)) → I kvs.length G' P' σ' → Join G' (upd P' d (.dK kvs)) H' → nx σ' H') : tLock (tFor (iKeys td) g tb) ⟨nx, rt, bk, ct⟩ σ H := by
  refine ⟨d, .dK kvs, J.p _ _ h, trivial, fun od => htd _ _ ⟨d, od, rfl, .inl ⟨kvs, upd_same, ?_⟩⟩⟩
  refine for_keys (fun i σ' H' => ∃ G3 P3, Join G3 P3 H' ∧ P3 d = some (.frz od (.dK kvs)) ∧ I i G3 P3 σ') ⟨G, _, J.setP (J.gn h), upd_same, h0 od⟩ (fun i σ' H' _ ⟨G', P', j', hd, _⟩ => j'.p _ _ hd) (fun i k v σ' H' hk ⟨G', P', j', hd, hI⟩ => hs od _ _ i k v G' P' H' σ' hk hd j' hI) (fun σ' H' ⟨G', P', j', hd, hI⟩ => ⟨j'.p _ _ hd, hq od G' P' _ σ' hd hI (j'.setP (j'.gn hd))⟩)
/-- [.. for k in d ..]: d stands in the second part, locked -/
theorem lcKP.go {kvs : List (L2.Key × V)} (I : Nat → List V → Hp → Prop) (J : Join G P H) (h : P d = some (.dK kvs)) (htd : ∀ (H' : Hp) (Q : VK), Q (.ref d) H' → td σ H' Q) (hl : kvs.length ≤ 1000000)
    (h0 : I 0 [] G) (hm : ∀ i us G1 G2, Ex G1 G2 → I i us G1 → I i us G2) (hz : ∀ i us G2, I i us G2 → us.length ≤ i)
    (hs : ∀ (od : Obj) (i : Nat) (k : L2.Key) (v : V) (us : List V) (G' P' H' : Hp) (R : VK) (R0 : Hp → Prop), kvs[i]? = some (k, v) → Ex G G' → (∀ c o, c ≠ d → P c = some o → P' c = some o) → P' d = some (.frz od (.dK kvs)) → Join G' P' H' → I i us G' →
      (∀ y G2 H2, Ex G' G2 → Join G2 P' H2 → I (i + 1) (us ++ [y]) G2 → R y H2) → (∀ G2 H2, Ex G' G2 → Join G2 P' H2 → I (i + 1) us G2 → R0 H2) →
      g (kV k) (wipe σ ts) H' fun σ2 H2 => wipe σ2 ts = wipe σ ts ∧ tt σ2 H2 fun b H3 => if b = true then te σ2 H3 R else R0 H3)
    (hq : ∀ p us G' H', H p = none → Ex G G' → Join G' P H' → G' p = some (.lst us) → I kvs.length us G' → Q (.ref p) H') : tLockE (tLc (iKeys td) g tt te ts) σ H Q := by
  refine ⟨d, .dK kvs, J.p _ _ h, trivial, fun od => htd _ _ ⟨d, od, rfl, .inl ⟨kvs, upd_same, fun L hL => ?_⟩⟩⟩
  have nL : L ≠ d := fun e => by rw [e, upd_same] at hL; cases hL
  have hL0 : H L = none := by rw [upd_ne nL] at hL; exact hL
  have gL : G L = none := J.ng hL0
  have pL : P L = none := J.np hL0
  have j1 : Join G (upd P d (.frz od (.dK kvs))) (upd H d (.frz od (.dK kvs))) := J.setP (J.gn h)
  refine lc_keys (fun i H' => ∃ G' P' us, Ex G G' ∧ (∀ c o, c ≠ d → P c = some o → P' c = some o) ∧ P' d = some (.frz od (.dK kvs)) ∧ P' L = some (.lst us) ∧ I i us G' ∧ Join G' P' H') ⟨G, upd (upd P d (.frz od (.dK kvs))) L (.lst []), [], Ex.refl _, fun c o nc hc => ?_, Eq.trans (upd_ne (Ne.symm nL)) upd_same, upd_same, h0, j1.setP gL⟩ (fun i H' _ ⟨G', P', us, _, _, hd, _, _, j'⟩ => j'.p _ _ hd) (fun i k x H' hk ⟨G', P', us, e', hP, hd, hLs, hI, j'⟩ => ?_) (fun H' ⟨G', P', us, e', hP, hd, hLs, hI, j'⟩ => ?_)
  · rw [upd_ne (ne_of_none hc pL), upd_ne nc]; exact hc
  · have hul := hz _ _ _ hI
    have hil := (List.getElem?_eq_some_iff.mp hk).1
    refine hs od i k x us G' P' H' _ _ hk e' hP hd j' hI (fun y G2 H2 e2 j2 hI2 => ⟨us, j2.p _ _ hLs, Nat.lt_of_le_of_lt (show us.length ≤ 1000000 by omega) (by decide), G2, upd P' L (.lst (us ++ [y])), us ++ [y], e'.trans e2, fun c o nc hc => ?_, Eq.trans (upd_ne (Ne.symm nL)) hd, upd_same, hI2, j2.setP (j2.gn hLs)⟩) (fun G2 H2 e2 j2 hI2 => ⟨G2, P', us, e'.trans e2, hP, hd, hLs, hI2, j2⟩)
    rw [upd_ne (ne_of_none hc pL)]; exact hP c o nc hc
  · have j3 : Join G' (upd P' d (.dK kvs)) (upd H' d (.dK kvs)) := j'.setP (j'.gn hd)
    obtain ⟨G2, j4, e4, k4⟩ := j3.back (P := P) fun c o hc => by
      by_cases z : c = d
      · subst z; rw [upd_same, ← h]; exact hc
      · rw [upd_ne z]; exact hP c o z hc
    exact ⟨j'.p _ _ hd, hq L us G2 _ hL0 (e'.trans e4) j4 (k4 L _ (Eq.trans (upd_ne nL) hLs) pL) (hm _ _ _ _ e4 hI)⟩
/-- {n: .. for n in range(m)} -/
def aDcR (g : TG) (tt : TT) (tk tv : TE) (vs : List Nat) (σ : L2.St) : List V → Hp → VK → Prop := fun xs H Q => tDc (fun _ H R => ∃ j : Int, xs = [.int j] ∧ -(2 ^ 62) ≤ j ∧ j < 2 ^ 62 ∧ R (Itr 0 j.toNat) H) g tt tk tv vs σ H Q
theorem w_dcR (h : as σ H fun xs H1 => aDcR g tt tk tv ts σ xs H1 Q) : tDc (iRng1 as) g tt tk tv ts σ H Q := h
theorem putK_keyv {κ : Type} [DecidableEq κ] {kvs : List (κ × V)} {k : κ} {v : V} (h : ∀ x ∈ kvs, x.1 ≠ k) : putK kvs k v = kvs ++ [(k, v)] := by
  refine putK_new v ?_
  cases e : valV kvs k with
  | none => rfl
  | some y =>
    unfold valV at e
    cases e2 : kvs.find? fun kv => decide (kv.1 = k) with
    | none => rw [e2] at e; cases e
    | some z =>
      have h1 := List.find?_some e2
      exact absurd (of_decide_eq_true h1) (h z (List.mem_of_find?_eq_some e2))
theorem dc_range {lo : Int} {n : Nat} {vs : List Nat} {H1 : Hp} {D : Addr} {Qd : Hp → Prop} (Pv : Nat → Hp → Prop) (h0 : Pv 0 (upd H1 D (.dK [])))
    (hs : ∀ i H, i < n → Pv i H → g (.int (lo + (i : Int))) (wipe σ vs) H fun σ2 H2 => wipe σ2 vs = wipe σ vs ∧ tt σ2 H2 fun b H3 =>
      if b = true then tk σ2 H3 fun y H4 => tv σ2 H4 fun z H5 => ∃ kvs k, y = kV k ∧ H5 D = some (.dK kvs) ∧ kvs.length < sizeLine ∧ Pv (i + 1) (upd H5 D (.dK (putK kvs k z))) else Pv (i + 1) H3) (hd : ∀ H, Pv n H → Qd H) :
    ∃ W : Nat → Nat → Hp → Prop, (∃ m, W 0 m (upd H1 D (.dK []))) ∧ ∀ i m H, W i m H →
      ((Itr lo n).stop i H ∧ Qd H) ∨ ((Itr lo n).go i H ∧ ∃ Nx : Hp → Prop, (∀ H', Nx H' → ∃ m', m' < m ∧ W (i + 1) m' H') ∧ ∀ x H', (Itr lo n).yld i H x H' → g x (wipe σ vs) H' fun σ2 H2 => wipe σ2 vs = wipe σ vs ∧ tt σ2 H2 fun b H3 =>
        if b = true then tk σ2 H3 fun y H4 => tv σ2 H4 fun z H5 => ∃ kvs k, y = kV k ∧ H5 D = some (.dK kvs) ∧ kvs.length < sizeLine ∧ Nx (upd H5 D (.dK (putK kvs k z))) else Nx H3) := by
  refine ⟨fun i m H => m = n - i ∧ i ≤ n ∧ Pv i H, ⟨n, by simp, Nat.zero_le _, h0⟩, ?_⟩
  rintro i m H ⟨rfl, hi, p⟩
  by_cases hlt : i < n
  · refine .inr ⟨hlt, Pv (i + 1), fun H' p' => ⟨n - (i + 1), by omega, rfl, hlt, p'⟩, fun x H' y => ?_⟩
    obtain ⟨e, y⟩ := y
    subst e y
    exact hs i _ hlt p
  · have e : i = n := by omega
    subst e
    exact .inl ⟨Nat.le_refl _, hd H p⟩
theorem aDcR.go {n : Nat} {m : Int} (J : Join G P H) (hn : m = n) (hl : n ≤ 100000) (hw : ∀ x, wipe ((wipe σ ts).set j (some x)) ts = wipe σ ts)
    (hk : ∀ (n : Int) (H' : Hp) (S : VK), S (.int n) H' → tk ((wipe σ ts).set j (some (.int n))) H' S) (hv : ∀ (x : V) (H' : Hp) (S : VK), S (.bl true) H' → tv ((wipe σ ts).set j (some x)) H' S)
    (hq : ∀ p P' H', H p = none → Ex P P' → Join G P' H' → P' p = some (.dK (keyP (rgI 0 n))) → Q (.ref p) H') : aDcR (gName j) tYes tk tv ts σ [.int m] H Q := by
  subst hn
  refine ⟨(n : Int), rfl, by omega, by omega, fun D hD => ?_⟩
  have pD : P D = none := J.np hD
  have gD : G D = none := J.ng hD
  refine dc_range (n := (n : Int).toNat) (fun i H' => ∃ P', Ex P P' ∧ Join G P' H' ∧ P' D = some (.dK (keyP (rgI 0 i)))) ⟨_, Ex.new pD, J.setP gD, upd_same⟩ (fun i H' hi ⟨P', e, j', hd⟩ => ?_) (fun H' ⟨P', e, j', hd⟩ => ?_)
  · rw [Int.toNat_natCast] at hi
    refine ⟨hw _, iteT (B := True) (hk _ H' _ (hv _ H' _ ⟨keyP (rgI 0 i), .inl _, rfl, j'.p _ _ hd, ?_, _, ?_, j'.setP (j'.gn hd), ?_⟩))⟩
    · refine szlt ?_
      unfold keyP
      rw [List.length_map, rgI_len]; omega
    · exact e.mut pD
    · rw [upd_same, keyP_put]
      · congr 3
        unfold rgI
        rw [List.range_succ, List.map_append]; rfl
      · intro hm
        have := rgI_mem.mp hm
        omega
  · rw [Int.toNat_natCast] at hd
    exact hq D P' H' hD e j' hd
/-- {n: .. for n in d}: d stands in the second part, locked; the new dict, too -/
theorem dc_keys {o : Obj} {kvs0 : List (L2.Key × V)} {vs : List Nat} {H1 : Hp} {D : Addr} {Qd : Hp → Prop} (Pv : Nat → Hp → Prop) (h0 : Pv 0 (upd H1 D (.dK []))) (hl : ∀ i H, i ≤ kvs0.length → Pv i H → H d = some (.frz o (.dK kvs0)))
    (hs : ∀ (i : Nat) (k0 : L2.Key) (v0 : V) H, kvs0[i]? = some (k0, v0) → Pv i H → g (kV k0) (wipe σ vs) H fun σ2 H2 => wipe σ2 vs = wipe σ vs ∧ tt σ2 H2 fun b H3 =>
      if b = true then tk σ2 H3 fun y H4 => tv σ2 H4 fun z H5 => ∃ kvs k, y = kV k ∧ H5 D = some (.dK kvs) ∧ kvs.length < sizeLine ∧ Pv (i + 1) (upd H5 D (.dK (putK kvs k z))) else Pv (i + 1) H3) (hd : ∀ H, Pv kvs0.length H → Qd H) :
    ∃ W : Nat → Nat → Hp → Prop, (∃ m, W 0 m (upd H1 D (.dK []))) ∧ ∀ i m H, W i m H →
      ((Itk d o kvs0).stop i H ∧ Qd H) ∨ ((Itk d o kvs0).go i H ∧ ∃ Nx : Hp → Prop, (∀ H', Nx H' → ∃ m', m' < m ∧ W (i + 1) m' H') ∧ ∀ x H', (Itk d o kvs0).yld i H x H' → g x (wipe σ vs) H' fun σ2 H2 => wipe σ2 vs = wipe σ vs ∧ tt σ2 H2 fun b H3 =>
        if b = true then tk σ2 H3 fun y H4 => tv σ2 H4 fun z H5 => ∃ kvs k, y = kV k ∧ H5 D = some (.dK kvs) ∧ kvs.length < sizeLine ∧ Nx (upd H5 D (.dK (putK kvs k z))) else Nx H3) := by
  refine ⟨fun i m H => m = kvs0.length - i ∧ i ≤ kvs0.length ∧ Pv i H, ⟨kvs0.length, by simp, Nat.zero_le _, h0⟩, ?_⟩
  rintro i m H ⟨rfl, hi, p⟩
  have q := hl i H hi p
  by_cases c : i < kvs0.length
  · refine .inr ⟨⟨q, c⟩, Pv (i + 1), fun H' p' => ⟨kvs0.length - (i + 1), by omega, rfl, c, p'⟩, fun x H' y => ?_⟩
    obtain ⟨e, k, v, hk, rfl⟩ := y
    subst e
    exact hs i k v _ hk p
  · have e : i = kvs0.length := by omega
    subst e
    exact .inl ⟨⟨q, Nat.le_refl _⟩, hd H p⟩
def kvZ (ns : List Int) (vs : List V) : List (L2.Key × V) := (ns.zip vs).map fun z => (Sum.inl z.1, z.2)
theorem zip_more {α β : Type} : ∀ {ns : List α} {vs : List β} {n : α} {v : β}, ns[vs.length]? = some n → ns.zip (vs ++ [v]) = ns.zip vs ++ [(n, v)]
  | [], vs, _, _, h => by simp at h
  | a :: ns, [], n, v, h => by
    have e : a = n := by simpa using h
    subst e; simp
  | a :: ns, b :: vs, n, v, h => by
    have h2 : ns[vs.length]? = some n := by simpa using h
    have ih := zip_more (v := v) h2
    rw [List.cons_append, List.zip_cons_cons, ih, List.zip_cons_cons]; rfl
theorem kvZ_ne {ns : List Int} {vs : List V} {n : Int} (hn : ns.Nodup) (h : ns[vs.length]? = some n) : ∀ x ∈ kvZ ns vs, x.1 ≠ (Sum.inl n : L2.Key) := fun x hx e => by
  unfold kvZ at hx
  obtain ⟨z, hz, rfl⟩ := List.mem_map.mp hx
  injection e with e
  obtain ⟨a, ha⟩ := List.getElem?_of_mem hz
  obtain ⟨h1, h2⟩ := List.getElem?_zip_eq_some.mp ha
  have hlt := (List.getElem?_eq_some_iff.mp h2).1
  obtain ⟨b1, b2⟩ := List.getElem?_eq_some_iff.mp h1
  obtain ⟨b3, b4⟩ := List.getElem?_eq_some_iff.mp h
  have := (List.getElem_inj hn).mp (b2.trans (e.trans b4.symm))
  omega
theorem valV_kvZ : ∀ {ns : List Int} {vs : List V} {i : Nat} {n : Int} {v : V}, ns.Nodup → ns[i]? = some n → vs[i]? = some v → valV (kvZ ns vs) (.inl n) = some v
  | [], _, _, _, _, _, h, _ => by simp at h
  | _ :: _, [], _, _, _, _, _, h => by simp at h
  | a :: ns, b :: vs, 0, n, v, _, h1, h2 => by
    have e1 : a = n := by simpa using h1
    have e2 : b = v := by simpa using h2
    subst e1 e2
    exact valV_pos (p := ((Sum.inl a : L2.Key), b)) (r := kvZ ns vs) rfl
  | a :: ns, b :: vs, i + 1, n, v, hn, h1, h2 => by
    have h1' : ns[i]? = some n := by simpa using h1
    have h2' : vs[i]? = some v := by simpa using h2
    have ne : a ≠ n := fun e => by
      subst e
      exact (List.nodup_cons.mp hn).1 (List.mem_of_getElem? h1')
    rw [show kvZ (a :: ns) (b :: vs) = ((Sum.inl a : L2.Key), b) :: kvZ ns vs from rfl, valV_neg (fun e => ne (Sum.inl.inj e))]
    exact valV_kvZ (List.nodup_cons.mp hn).2 h1' h2'
theorem dcKP.go {ns : List Int} (Pv : Int → V → Hp → Prop) (J : Join G P H) (h : P d = some (.dK (keyP ns))) (htd : ∀ (H' : Hp) (Q : VK), Q (.ref d) H' → td σ H' Q) (hn : ns.Nodup) (hl : ns.length ≤ 100000)
    (hm : ∀ n v G1 G2, Ex G1 G2 → Pv n v G1 → Pv n v G2) (hw : ∀ x, wipe ((wipe σ ts).set j (some x)) ts = wipe σ ts) (hk : ∀ (n : Int) (H' : Hp) (S : VK), S (.int n) H' → tk ((wipe σ ts).set j (some (.int n))) H' S)
    (hv : ∀ (od : Obj) (n : Int) (G' P' H' : Hp) (S : VK), n ∈ ns → Ex G G' → (∀ c o, c ≠ d → P c = some o → P' c = some o) → P' d = some (.frz od (.dK (keyP ns))) → Join G' P' H' → (∀ v G2 H2, Ex G' G2 → Join G2 P' H2 → Pv n v G2 → S v H2) → tv ((wipe σ ts).set j (some (.int n))) H' S)
    (hq : ∀ p vs G' H', H p = none → vs.length = ns.length → (∀ (i : Nat) n v, ns[i]? = some n → vs[i]? = some v → Pv n v G') → Ex G G' → Join G' (upd P p (.dK (kvZ ns vs))) H' → Q (.ref p) H') : tLockE (tDc (iKeys td) (gName j) tYes tk tv ts) σ H Q := by
  refine ⟨d, .dK (keyP ns), J.p _ _ h, trivial, fun od => htd _ _ ⟨d, od, rfl, .inl ⟨keyP ns, upd_same, fun L hL => ?_⟩⟩⟩
  have nL : L ≠ d := fun e => by rw [e, upd_same] at hL; cases hL
  have hL0 : H L = none := by rw [upd_ne nL] at hL; exact hL
  have gL : G L = none := J.ng hL0
  have pL : P L = none := J.np hL0
  have j1 : Join G (upd P d (.frz od (.dK (keyP ns)))) (upd H d (.frz od (.dK (keyP ns)))) := J.setP (J.gn h)
  have lk : (keyP ns).length = ns.length := by unfold keyP; rw [List.length_map]
  have dP : ∀ o : HO, upd (upd P d (.frz od (.dK (keyP ns)))) L o d = some (.frz od (.dK (keyP ns))) := fun o => Eq.trans (upd_ne (Ne.symm nL)) upd_same
  have again : ∀ o u : HO, upd (upd (upd P d (.frz od (.dK (keyP ns)))) L o) L u = upd (upd P d (.frz od (.dK (keyP ns)))) L u := fun o u => by
    funext c
    by_cases z : c = L
    · rw [z, upd_same, upd_same]
    · rw [upd_ne z, upd_ne z, upd_ne z]
  refine dc_keys (fun i H' => ∃ G' vs, Ex G G' ∧ vs.length = i ∧ (∀ (i : Nat) n v, ns[i]? = some n → vs[i]? = some v → Pv n v G') ∧ Join G' (upd (upd P d (.frz od (.dK (keyP ns)))) L (.dK (kvZ ns vs))) H')
    ⟨G, [], Ex.refl _, rfl, fun i n v _ h2 => by simp at h2, ?_⟩ (fun i H' _ ⟨G', vs, _, _, _, j'⟩ => j'.p _ _ (dP _)) (fun i k x H' hk0 ⟨G', vs, e', hvl, hI, j'⟩ => ?_) (fun H' ⟨G', vs, e', hvl, hI, j'⟩ => ?_)
  · have e : kvZ ns [] = [] := by unfold kvZ; simp
    rw [e]; exact j1.setP gL
  · obtain ⟨n, hni, rfl⟩ := keyP_at hk0
    have hil := (List.getElem?_eq_some_iff.mp hni).1
    refine ⟨hw _, iteT (B := True) (hk n H' _ (hv od n G' _ H' _ (List.mem_of_getElem? hni) e' (fun c o nc hc => by rw [upd_ne (ne_of_none hc pL), upd_ne nc]; exact hc) (dP _) j' fun v G2 H2 e2 j2 hp => ⟨kvZ ns vs, .inl n, rfl, j2.p _ _ upd_same, ?_, G2, vs ++ [v], e'.trans e2, by rw [List.length_append, hvl]; rfl, fun a m u h1 h2 => ?_, ?_⟩))⟩
    · refine szlt ?_
      unfold kvZ
      rw [List.length_map, List.length_zip]; omega
    · by_cases c : a < vs.length
      · rw [List.getElem?_append_left c] at h2
        exact hm _ _ _ _ e2 (hI a m u h1 h2)
      · rw [List.getElem?_append_right (by omega)] at h2
        have e0 : a - vs.length = 0 := by
          cases e : a - vs.length with
          | zero => rfl
          | succ z => rw [e] at h2; simp at h2
        rw [e0] at h2
        have ea : a = i := by omega
        subst ea
        rw [hni] at h1
        cases h1
        cases h2
        exact hp
    · have e : putK (kvZ ns vs) (.inl n) v = kvZ ns (vs ++ [v]) := by
        rw [putK_keyv (kvZ_ne hn (by rw [hvl]; exact hni))]
        unfold kvZ
        rw [zip_more (by rw [hvl]; exact hni), List.map_append]; rfl
      rw [e, ← again (.dK (kvZ ns vs))]
      exact j2.setP (j2.gn upd_same)
  · have j3 := j'.setP (o := .dK (keyP ns)) (j'.gn (dP _))
    refine ⟨j'.p _ _ (dP _), hq L vs G' _ hL0 (by rw [hvl, lk]) hI e' ?_⟩
    have e : upd (upd (upd P d (.frz od (.dK (keyP ns)))) L (.dK (kvZ ns vs))) d (.dK (keyP ns)) = upd P L (.dK (kvZ ns vs)) := by
      funext c
      by_cases z : c = L
      · rw [z, upd_ne nL, upd_same, upd_same]
      · by_cases z2 : c = d
        · rw [z2, upd_same, upd_ne (Ne.symm nL), h]
        · rw [upd_ne z2, upd_ne z, upd_ne z2, upd_ne z]
    rw [e] at j3
    exact j3
/-- sorted(d) of a dict with int keys -/
def rSortDI : List V → Hp → VK → Prop := fun xs H Q => ∃ (a : Addr) (kvs : List (L2.Key × V)) (ks : List Int), xs = [.ref a] ∧ Rd H a (.dK kvs) ∧ kvs.map (·.1) = ks.map Sum.inl ∧ ks.length < 64 ∧
    ∀ (ys : List Int) (p : Addr), ys.Perm ks → ys.Pairwise (· ≤ ·) → H p = none → Q (.ref p) (upd H p (.lst (ys.map V.int)))
theorem cr_sortDI {X : Cx} (hc : X.calm = true) : CallR X (.builtin "sorted") rSortDI := call_sortedDI hc
theorem keyP_keys (ns : List Int) : (keyP ns).map (·.1) = ns.map Sum.inl := by unfold keyP; rw [List.map_map]; rfl
theorem kvZ_keys {ns : List Int} {vs : List V} (h : vs.length = ns.length) : (kvZ ns vs).map (·.1) = ns.map Sum.inl := by
  unfold kvZ
  rw [List.map_map]
  have e : ((fun x : L2.Key × V => x.1) ∘ fun z : Int × V => ((Sum.inl z.1 : L2.Key), z.2)) = (fun n : Int => (Sum.inl n : L2.Key)) ∘ Prod.fst := rfl
  rw [e, ← List.map_map, List.map_fst_zip (by omega)]
theorem sortDI_go {kvs : List (L2.Key × V)} {ns : List Int} (J : Join G P H) (h : Rd H d (.dK kvs)) (hk : kvs.map (·.1) = ns.map Sum.inl) (hl : ns.length < 64) (q : ∀ (ns' : List Int) p G' H', ns'.Perm ns → ns'.Pairwise (· ≤ ·) → H p = none → Ex G G' → Join G' P H' → G' p = some (.lst (ns'.map V.int)) → Q (.ref p) H') : rSortDI [.ref d] H Q :=
  ⟨d, kvs, ns, rfl, h, hk, hl, fun ys p h1 h2 hp => q ys p _ _ h1 h2 hp (Ex.new (J.ng hp)) (J.newG hp) upd_same⟩
/-- no tuple stands in the second part -/
def NT (P : Hp) : Prop := ∀ b xs, P b ≠ some (.tup xs)
theorem NT.gt {b : Addr} {xs : List V} (n : NT P) (J : Join G P H) (h : H b = some (.tup xs)) : G b = some (.tup xs) := by
  cases e : G b with
  | some o => rw [J.g b o e] at h; exact h
  | none =>
    cases e2 : P b with
    | none => rw [J.no b e e2] at h; cases h
    | some o => rw [J.p b o e2] at h; cases h; exact absurd e2 (n b xs)
theorem NT.upd {b : Addr} {o : HO} (n : NT P) (h : ∀ xs, o ≠ .tup xs) : NT (upd P b o) := fun c xs e => by
  by_cases z : c = b
  · rw [z, upd_same] at e; exact h xs (Option.some.inj e)
  · rw [upd_ne z] at e; exact n c xs e
theorem tupL_zip {α : Type} {f : α → List V} {G : Hp} {zs : List (V × α)} (h : ∀ z ∈ zs, ∃ t : Addr, z.1 = .ref t ∧ G t = some (.tup (f z.2))) : TupL f G (zs.map (·.1)) (zs.map (·.2)) := by
  refine ⟨by simp, fun i a ha => ?_⟩
  rw [List.getElem?_map] at ha
  cases e : zs[i]? with
  | none => rw [e] at ha; cases ha
  | some z =>
    rw [e] at ha
    have ea : z.2 = a := Option.some.inj ha
    subst ea
    obtain ⟨t, h1, h2⟩ := h z (List.mem_of_getElem? e)
    exact ⟨t, by rw [List.getElem?_map, e, ← h1]; rfl, h2⟩
theorem tupL_mem {α : Type} {f : α → List V} {G : Hp} {xs : List V} {as : List α} (h : TupL f G xs as) : ∀ z ∈ xs.zip as, ∃ t : Addr, z.1 = .ref t ∧ G t = some (.tup (f z.2)) := fun z hz => by
  obtain ⟨i, hi⟩ := List.getElem?_of_mem hz
  obtain ⟨h1, h2⟩ := List.getElem?_zip_eq_some.mp hi
  obtain ⟨t, h3, h4⟩ := h.2 i z.2 h2
  rw [h1] at h3
  exact ⟨t, Option.some.inj h3, h4⟩
theorem lex_perm {G H : Hp} {xs ys : List V} {nss : List (List Int)} (e : Ex G H) (ht : TupL iV G xs nss) (hp : ys.Perm xs) (hs : ys.Pairwise (lexP K H)) : ∃ nss', nss'.Perm nss ∧ nss'.Pairwise (fun a b => lexLt b a = false) ∧ TupL iV G ys nss' := by
  obtain ⟨zs, h1, h2⟩ := perm_lift (f := fun z : V × List Int => z.1) hp (xs.zip nss) (List.map_fst_zip (by rw [ht.1]; exact Nat.le_refl _))
  have hz : ∀ z ∈ zs, ∃ t : Addr, z.1 = .ref t ∧ G t = some (.tup (iV z.2)) := fun z hz => tupL_mem ht z (h1.mem_iff.mp hz)
  refine ⟨zs.map (·.2), ?_, ?_, ?_⟩
  · have := h1.map (fun z : V × List Int => z.2)
    rw [show (xs.zip nss).map (fun z : V × List Int => z.2) = nss from List.map_snd_zip (by rw [ht.1]; exact Nat.le_refl _)] at this
    exact this
  · rw [List.pairwise_map]
    have h3 : zs.Pairwise (fun a b => lexP K H a.1 b.1) := by rw [← List.pairwise_map (f := fun z : V × List Int => z.1), h2]; exact hs
    refine List.Pairwise.imp_of_mem (fun {a b} ha hb h => ?_) h3
    obtain ⟨t, e1, h4⟩ := hz a ha
    obtain ⟨u, e2, h5⟩ := hz b hb
    exact h a.2 b.2 ⟨t, e1, sqT (e _ _ h4)⟩ ⟨u, e2, sqT (e _ _ h5)⟩
  · have := tupL_zip hz
    rw [h2] at this
    exact this
theorem sortLL_go {a : Addr} {xs : List V} {nss : List (List Int)} (J : Join G P H) (h : H a = some (.lst xs)) (ht : TupL iV G xs nss) (hl : nss.length ≤ 100000) (hne : ∀ ns ∈ nss, ns ≠ [])
    (q : ∀ (nss' : List (List Int)) ys p G' H', nss'.Perm nss → nss'.Pairwise (fun a b => lexLt b a = false) → H p = none → Ex G G' → Join G' P H' → G' p = some (.lst ys) → TupL iV G' ys nss' → Q (.ref p) H') : rSortLL K [.ref a] H Q := by
  refine ⟨a, xs, rfl, sqL h, fun x hx => ?_, fun ys p h1 h2 hp => ?_⟩
  · obtain ⟨i, hi⟩ := List.getElem?_of_mem hx
    obtain ⟨ns, t, h1, h2, h3⟩ := ht.get hi
    exact ⟨ns, ⟨t, h2, sqT (J.g _ _ h3)⟩, hne ns (List.mem_of_getElem? h1)⟩
  · obtain ⟨nss', k1, k2, k3⟩ := lex_perm J.exG ht h1 h2
    have e : Ex G (upd G p (.lst ys)) := Ex.new (J.ng hp)
    exact q nss' ys p _ _ k1 k2 hp e (J.newG hp) upd_same (k3.mono e)
theorem isKeys_zip {H : Hp} {kvs : List (List L2.Key × V)} {bs : List Addr} (h : IsKeys H kvs bs) : ∀ {nss : List (List Int)}, kvs.map (·.1) = nss.map (·.map Sum.inl) → bs.length = nss.length ∧ ∀ z ∈ (bs.map V.ref).zip nss, ∃ t : Addr, z.1 = .ref t ∧ H t = some (.tup (iV z.2)) := by
  unfold IsKeys at h
  induction h with
  | nil =>
    intro nss hk
    cases nss with
    | nil => exact ⟨rfl, fun z hz => by simp at hz⟩
    | cons _ _ => cases hk
  | @cons p b ps bs hb t ih =>
    intro nss hk
    cases nss with
    | nil => cases hk
    | cons ns nss =>
      rw [List.map_cons, List.map_cons] at hk
      injection hk with k1 k2
      obtain ⟨l, r⟩ := ih k2
      refine ⟨by rw [List.length_cons, List.length_cons, l], fun z hz => ?_⟩
      rw [List.map_cons, List.zip_cons_cons] at hz
      rcases List.mem_cons.mp hz with rfl | hz
      · refine ⟨b, rfl, ?_⟩
        show H b = some (.tup (iV ns))
        rw [hb, k1, List.map_map]; rfl
      · exact r z hz
theorem sortLD_go {kvs : List (List L2.Key × V)} {nss : List (List Int)} (J : Join G P H) (n : NT P) (h : Rd H d (.dT kvs)) (hk : kvs.map (·.1) = nss.map (·.map Sum.inl)) (hl : nss.length ≤ 100000) (hne : ∀ ns ∈ nss, ns ≠ [])
    (q : ∀ (nss' : List (List Int)) ys p G' H', nss'.Perm nss → nss'.Pairwise (fun a b => lexLt b a = false) → H p = none → Ex G G' → Join G' P H' → G' p = some (.lst ys) → TupL iV G' ys nss' → Q (.ref p) H') : rSortLD K [.ref d] H Q := by
  have lk : kvs.length = nss.length := by have := congrArg List.length hk; simpa using this
  refine ⟨d, kvs, rfl, h, fun kv hkv => ?_, fun bs ys p hb h1 h2 hp => ?_⟩
  · have hm : kv.1 ∈ nss.map (·.map Sum.inl) := by rw [← hk]; exact List.mem_map.mpr ⟨kv, hkv, rfl⟩
    obtain ⟨ns, hns, e⟩ := List.mem_map.mp hm
    exact ⟨ns, e.symm, hne ns hns⟩
  · obtain ⟨l1, hz⟩ := isKeys_zip hb hk
    have ht : TupL iV G (bs.map V.ref) nss := by
      have := tupL_zip (f := iV) (G := G) (zs := (bs.map V.ref).zip nss) fun z hz1 => by
        obtain ⟨t, e1, e2⟩ := hz z hz1
        exact ⟨t, e1, n.gt J e2⟩
      rw [List.map_fst_zip (by rw [List.length_map, l1]; exact Nat.le_refl _), List.map_snd_zip (by rw [List.length_map, l1]; exact Nat.le_refl _)] at this
      exact this
    obtain ⟨nss', k1, k2, k3⟩ := lex_perm J.exG ht h1 h2
    have e : Ex G (upd G p (.lst ys)) := Ex.new (J.ng hp)
    exact q nss' ys p _ _ k1 k2 hp e (J.newG hp) upd_same (k3.mono e)
theorem lex_unique : ∀ {l m : List (List Int)}, l.Pairwise (fun a b => lexLt a b = true) → m.Pairwise (fun a b => lexLt a b = true) → (∀ x, x ∈ l ↔ x ∈ m) → l = m
  | [], [], _, _, _ => rfl
  | [], b :: m, _, _, h => nomatch (h b).mpr List.mem_cons_self
  | a :: l, [], _, _, h => nomatch (h a).mp List.mem_cons_self
  | a :: l, b :: m, h1, h2, h => by
    obtain ⟨a1, a2⟩ := List.pairwise_cons.mp h1
    obtain ⟨b1, b2⟩ := List.pairwise_cons.mp h2
    have e : a = b := by
      rcases List.mem_cons.mp ((h a).mp List.mem_cons_self) with e | hm
      · exact e
      · rcases List.mem_cons.mp ((h b).mpr List.mem_cons_self) with e | hl
        · exact e.symm
        · have x := lexLt_trans a b a (a1 b hl) (b1 a hm)
          rw [lexLt_irr] at x; cases x
    subst e
    have na : a ∉ l := fun hm => by have := a1 a hm; rw [lexLt_irr] at this; cases this
    have nb : a ∉ m := fun hm => by have := b1 a hm; rw [lexLt_irr] at this; cases this
    rw [lex_unique a2 b2 fun x => ⟨fun hx => by
      rcases List.mem_cons.mp ((h x).mp (List.mem_cons_of_mem _ hx)) with e | hm
      · subst e; exact absurd hx na
      · exact hm, fun hx => by
      rcases List.mem_cons.mp ((h x).mpr (List.mem_cons_of_mem _ hx)) with e | hm
      · subst e; exact absurd hx nb
      · exact hm⟩]
theorem lex_strict {l : List (List Int)} (h : l.Pairwise (fun a b => lexLt b a = false)) (hn : l.Nodup) : l.Pairwise (fun a b => lexLt a b = true) := by
  refine (h.and hn).imp fun {a b} hab => ?_
  cases e : lexLt a b with
  | true => rfl
  | false => exact absurd (lexLt_tri a b e hab.1) hab.2
theorem aDNewT.goP2 (J : Join G P H) (nt : NT P) (q : ∀ p P' H', H p = none → Ex P P' → Join G P' H' → P' p = some (.dT []) → NT P' → Q (.ref p) H') : aDNewT H Q := fun p hp => q p _ _ hp (Ex.new (J.np hp)) (J.setP (J.ng hp)) upd_same (nt.upd fun _ e => nomatch e)
theorem aDNew.goP2 (J : Join G P H) (nt : NT P) (q : ∀ p P' H', H p = none → Ex P P' → Join G P' H' → P' p = some (.dK []) → NT P' → Q (.ref p) H') : aDNew H Q := fun p hp => q p _ _ hp (Ex.new (J.np hp)) (J.setP (J.ng hp)) upd_same (nt.upd fun _ e => nomatch e)
theorem aLst.goP2 {xs : List V} (J : Join G P H) (nt : NT P) (l : xs.length ≤ 100000) (q : ∀ p P' H', H p = none → Ex P P' → Join G P' H' → P' p = some (.lst xs) → NT P' → Q (.ref p) H') : aLst xs H Q :=
  ⟨szle l, fun p hp => q p _ _ hp (Ex.new (J.np hp)) (J.setP (J.ng hp)) upd_same (nt.upd fun _ e => nomatch e)⟩
/-- k in xs, ints -/
theorem inH_yes {k : Int} {p : Addr} {ns : List Int} (h : H p = some (.lst (ns.map V.int)) ∨ H p = some (.tup (ns.map V.int))) (q : Q (.bl (decide (k ∈ ns))) H) : rIn K false (.int k) (.ref p) H Q := in_go (Join.self H) h (by rw [if_neg (by decide)]; exact q)
theorem inH_no {k : Int} {p : Addr} {ns : List Int} (h : H p = some (.lst (ns.map V.int)) ∨ H p = some (.tup (ns.map V.int))) (q : Q (.bl (!decide (k ∈ ns))) H) : rIn K true (.int k) (.ref p) H Q := in_go (Join.self H) h (by rw [if_pos rfl]; exact q)
theorem any_dT {ks : List Int} : ∀ nss : List (List Int), ((nss.map dT).any fun z => PyData.eqv z (dT ks)) = decide (ks ∈ nss)
  | [] => rfl
  | n :: nss => by
    rw [List.map_cons, List.any_cons, any_dT nss, eqv_dT]
    by_cases c : n = ks
    · subst c; simp
    · have c2 : ¬ ks = n := fun e => c e.symm
      simp [c, c2]
/-- t not in xs, tuples of ints -/
theorem notInD_go {tk a : Addr} {xs : List V} {nss : List (List Int)} {ks : List Int} (h : H a = some (.lst xs)) (ht : TupL iV H xs nss) (hk : H tk = some (.tup (ks.map V.int))) (q : Q (.bl (!decide (ks ∈ nss))) H) : rNotInD K (.ref tk) (.ref a) H Q :=
  ⟨dT ks, nss.map dT, dp_tup hk, dp_lst h ht, shaped_dT _, shaped_dL _, by rw [any_dT]; exact q⟩
theorem TupL.keep {α : Type} {f : α → List V} {G2 : Hp} {p : Addr} {xs ys : List V} {as : List α} (h : TupL f G ys as) (hp : G p = some (.lst xs)) (k : ∀ c u, c ≠ p → G c = some u → G2 c = some u) : TupL f G2 ys as := ⟨h.1, fun i a ha => by
  obtain ⟨t, h1, h2⟩ := h.2 i a ha
  exact ⟨t, h1, k t _ (fun e => by rw [e, hp] at h2; cases h2) h2⟩⟩
theorem clearP {l : Addr} {xs : List V} (J : Join G P H) (e : P l = some (.lst xs)) (q : ∀ H', Join G (upd P l (.lst [])) H' → Q .non H') : rClear (.ref l) [] H Q := ⟨l, xs, rfl, rfl, J.p _ _ e, q _ (J.setP (J.gn e))⟩
/-- the pot's part of a heap's second part -/
theorem Pot.norm {l : Addr} (J : Join G P H) (h : Pot P l) : ∃ G' P', Join G' P' H ∧ Ex G G' ∧ Pot P' l ∧ NT P' := by
  obtain ⟨g, s, gs, ss, t, c, h1, h2, h3, h4⟩ := h
  have e0 : Ex (fun b => if b = l ∨ b = g ∨ b = s then P b else none) P := fun b o q => by
    have q2 : (if b = l ∨ b = g ∨ b = s then P b else none) = some o := q
    by_cases z : b = l ∨ b = g ∨ b = s
    · rw [if_pos z] at q2; exact q2
    · rw [if_neg z] at q2; cases q2
  obtain ⟨G', j', e', _⟩ := J.back e0
  refine ⟨G', _, j', e', ⟨g, s, gs, ss, t, c, ?_, ?_, ?_, h4⟩, fun b xs q => ?_⟩
  · show (if l = l ∨ l = g ∨ l = s then P l else none) = _
    rw [if_pos (.inl rfl)]; exact h1
  · show (if g = l ∨ g = g ∨ g = s then P g else none) = _
    rw [if_pos (.inr (.inl rfl))]; exact h2
  · show (if s = l ∨ s = g ∨ s = s then P s else none) = _
    rw [if_pos (.inr (.inr rfl))]; exact h3
  · have q1 := e0 _ _ q
    have q2 : (if b = l ∨ b = g ∨ b = s then P b else none) = some (.tup xs) := q
    by_cases z : b = l ∨ b = g ∨ b = s
    · rcases z with z | z | z
      · rw [z, h1] at q1; cases q1
      · rw [z, h2] at q1; cases q1
      · rw [z, h3] at q1; cases q1
    · rw [if_neg z] at q2; cases q2
end
end Lv

/-! for .. in enumerate(t) -/
namespace Lv
open PySem PySem.Spec PyProof.Rows L2
section
variable {K : PySem.W.Frag} {σ : L2.St} {G P H : Hp} {nx bk ct : L2.St → Hp → Prop} {rt : VK} {D : Ends} {g : TG} {tb : TS} {as : TA}
def aForE (K : PySem.W.Frag) (g : TG) (tb : TS) (D : Ends) (σ : L2.St) : List V → Hp → Prop := fun us H => tFor (fun _ H R => ∃ a xs, us = [.ref a] ∧ SqT K H a xs ∧ R (Itet K a) H) g tb D σ H
theorem w_forE (h : as σ H fun xs H1 => aForE K g tb D σ xs H1) : tFor (iEnumT K as) g tb D σ H := h
theorem aForE.go {a : Addr} {xs : List V} (I : Nat → Hp → Hp → L2.St → Prop) (J : Join G P H) (hS : G a = some (.tup xs)) (h0 : I 0 G P σ) (hk : ∀ i G' P' σ', I i G' P' σ' → G' a = some (.tup xs))
    (hs : ∀ (i : Nat) (x : V) (T : Addr) (G0 G' P' H' : Hp) (σ' : L2.St), xs[i]? = some x → Join G' P' H' → G' T = some (.tup [.int i, x]) → Ex G0 G' → I i G0 P' σ' → g (.ref T) σ' H' fun σ2 H2 => tb ⟨fun σ3 H3 => ∃ G3 P3, Join G3 P3 H3 ∧ I (i + 1) G3 P3 σ3, rt, nx, fun σ3 H3 => ∃ G3 P3, Join G3 P3 H3 ∧ I (i + 1) G3 P3 σ3⟩ σ2 H2)
    (hq : ∀ (G' P' H' : Hp) (σ' : L2.St), Join G' P' H' → I xs.length G' P' σ' → nx σ' H') : aForE K g tb ⟨nx, rt, bk, ct⟩ σ [.ref a] H := by
  refine ⟨a, xs, rfl, sqT (J.g _ _ hS), for_enumT (K := K) (a := a) (xs := xs) (fun i σ' H' => ∃ G3 P3, Join G3 P3 H' ∧ I i G3 P3 σ') ⟨G, P, J, h0⟩ ?_ ?_ ?_⟩
  · rintro i σ' H' _ ⟨G', P', J', hI⟩
    exact sqT (J'.g _ _ (hk _ _ _ _ hI))
  · rintro i x σ' H' T hi ⟨G', P', J', hI⟩ hT
    exact hs i x T G' _ P' _ σ' hi (J'.newG hT) upd_same (Ex.new (J'.ng hT)) hI
  · rintro σ' H' ⟨G', P', J', hI⟩
    exact hq G' P' H' σ' J' hI
/-- {k: v}, v new -/
theorem aDisp1.goG {k : L2.Key} {tk tv : TE} {Q : VK} (Pv : V → Hp → Prop) (J : Join G P H) (hk : ∀ H' S, S (kV k) H' → tk σ H' S) (hv : ∀ P' H' S, Join G P' H' → (∀ v G2 H2, Ex G G2 → Join G2 P' H2 → Pv v G2 → S v H2) → tv σ H' S)
    (q : ∀ p v P' G' H', H p = none → Ex P P' → Ex G G' → Join G' P' H' → P' p = some (.dK [(k, v)]) → Pv v G' → Q (.ref p) H') : tDisp [(tk, tv)] σ H Q := by
  intro p hp
  have j1 : Join G (upd P p (.dK [])) (upd H p (.dK [])) := J.setP (J.ng hp)
  refine hk _ _ (hv _ _ _ j1 fun v G2 H2 e2 j2 pv => ⟨j2.p _ _ upd_same, [(k, v)], rfl, Nat.le_of_ble_eq_true rfl, ?_⟩)
  exact q p v _ G2 _ hp ((Ex.new (J.np hp)).mut (J.np hp)) e2 (j2.setP (o := .dK (mergeK [] [(k, v)])) (j2.gn upd_same)) upd_same pv
end
end Lv

/-! C(..) of an own class, within try -/
namespace Lv
open PySem PySem.Spec PyProof.Rows L2
section
variable {X : Cx} {CX : CXT} {k : Nat} {f C : Addr} {fd : FuncData} {ps : List Str} {sp : Sp} {E : L2.St → XK} {x : Str} {p pos : Pos} {e : Expr} {es : List Expr} {t : TA}
theorem run_makeS {dvs : List V} {ds : List Value} {pins : List (Addr × Obj)} {σ : L2.St} {H : Hp} {s : Shared} {Q : VK} {us : List Value} {vs : List V} (M : Mk X.K C f) (F : FnOk X.prog X.w X.K X.mg X.base CX k f fd ps sp) (hr : Room (k + 1) X.A) (hb : Binds X.K fd ps ds) (hd : Vals dvs ds)
    (hx : PassesAt CX X σ (E σ)) (I : Inv X pins σ H s) (r : Vals vs us)
    (h : ∀ x dx, H x = none → H dx = none → dx ≠ x → sp (.ref x :: (vs ++ dvs)) (upd (upd H dx (.own x)) x (.ins C dx [])) (fun v H2 => v = .non ∧ Q (.ref x) H2) (E σ)) :
    wpAny (model X.prog X.w) X.A (call (.ref C) us) (EP X pins σ Q) X.xe s := by
  have hq := h (s.heap.objs.size + 1) s.heap.objs.size (I.hok.fresh (Nat.le_succ _)) (I.hok.fresh (Nat.le_refl _)) (Nat.ne_of_lt (Nat.lt_succ_self _))
  have I2 := Inv.made (C := C) I
  have r2 : Vals (V.ref (s.heap.objs.size + 1) :: (vs ++ dvs)) (Value.ref (s.heap.objs.size + 1) :: (us ++ ds)) := .cons rfl (r.append hd)
  have hl : (Value.ref (s.heap.objs.size + 1) :: us ++ ds).length = ps.length := by
    have e := r2.length
    rw [F.len _ _ _ _ hq] at e
    exact e.symm
  refine wpAny_call (make_map (f := f) I.kIn M.makes M.init (beq_iff_eq.mp M.fn) (codeAny_mono (F.run _ X.stack _ _ ⟨Value.ref (s.heap.objs.size + 1) :: us, []⟩ (Value.ref (s.heap.objs.size + 1) :: (us ++ ds)) _ _ (E σ) (hr.make C us [])
    (I2.env0.make C us []) (hb _ (Value.ref (s.heap.objs.size + 1) :: us) I2.kIn hl) r2 hq) fun r s' hq' => ?_))
  cases r with
  | error e => exact hx pins _ _ e s' I2 hq'
  | ok fl =>
    cases fl with
    | ret u =>
      obtain ⟨v, H', I3, rv, ev, q3⟩ := I2.after hq'
      subst ev
      exact ⟨rv, ⟨V.ref (s.heap.objs.size + 1), H', I3, rfl, q3⟩⟩
    | next => exact False.elim hq'
    | brk => exact False.elim hq'
    | cont => exact False.elim hq'
def tMakeS (C : Addr) (sp : Sp) (E : L2.St → XK) (t : TA) : TE := fun σ H Q => tMake C sp [] (E σ) t σ H Q
theorem pe_makeS (M : Mk X.K C f) (F : FnOk X.prog X.w X.K X.mg X.base CX k f fd ps sp) (hr : Room (k + 1) X.A) (hg : Gl X x) (hm : X.mg x = some (.ref C)) (hb : Binds X.K fd ps []) (hx : ∀ σ, PassesAt CX X σ (E σ))
    (ha : PA X (e :: es) t) (hdb : (x == ("__debug__" : Str)) = false := by decide) (he : starEach (e :: es) X.env = (false, eval e X.env) :: starEach es X.env := by rfl) (hpl : (backTo pos (starEach es X.env)).any (·.1) = false := by rfl) :
    PE X (.Call (.Name x p) (e :: es) [] pos) (tMakeS C sp E t) := by
  refine ⟨fun pins s σ H Q I h => ?_⟩
  refine wpAny_Call_Name_kw (ld_glob I hg hm ?_ hdb)
  refine PySem.W.callWith_K (h₀ := X.base) I.ok.mod.kin M.kp (thn (ha.run pos pins s σ H _ I h) fun us s1 ⟨vs, H1, I1, r, q⟩ => ⟨I1.kIn, ?_⟩) he hpl
  exact run_makeS M F hr hb .nil (hx σ) I1 r q
theorem w_makeS {σ : L2.St} {H : Hp} {Q : VK} (h : t σ H fun vs H1 => aMake C sp [] (E σ) vs H1 Q) : tMakeS C sp E t σ H Q := h
end
end Lv

/-! a value that is a list or a tuple; dicts whose keys are tuples of ints -/
namespace Lv
open PySem PySem.Spec PyProof.Rows L2
section
variable {X : Cx} {tg : Expr}
/-- a walk over a list or a tuple -/
def iSeq (K : PySem.W.Frag) (tl : TE) : TI := fun σ H R => tl σ H fun x H1 => ∃ a, x = .ref a ∧ (((∃ xs, SqL K H1 a xs) ∧ R (Itl K a) H1) ∨ ((∃ xs, SqT K H1 a xs) ∧ R (Itt K a) H1))
theorem pi_seq {l : Expr} {tl : TE} (hl : PE X l tl) : PI X tg l (iSeq X.K tl) := by
  refine ⟨fun pins s σ H R I h => ?_⟩
  refine thn (hl.run pins s σ H _ I h) fun v s1 ⟨x, H1, I1, r1, q1⟩ => ?_
  obtain ⟨a, e, q1⟩ := q1
  subst e
  cases r1
  rcases q1 with ⟨⟨xs, hq⟩, q⟩ | ⟨⟨xs, hq⟩, q⟩
  · obtain ⟨its, rv, p, hz⟩ := I1.list hq
    refine wpAny_pyIter_list p.isList ?_
    refine ⟨s1.heap.objs.size, [s1.heap.objs.size], _, _, H1, rfl, I1.kept (t' := s1.toks) fun b o e => Heap.get?_push_of_some _ e, turn_list a _, ⟨_, Heap.get?_push_size _ rfl, rfl, rfl⟩, fun b hb => ?_, q⟩
    have e : b = s1.heap.objs.size := by simpa using hb
    subst e
    exact I1.fpOk (Nat.le_refl _) (I1.hok.fresh (Nat.le_refl _))
  · obtain ⟨its, rv, p, hz⟩ := I1.tuple hq
    refine wpAny_pyIter_tuple (show s1.heap.IsTuple a its.toArray from p) ?_
    refine ⟨s1.heap.objs.size, [s1.heap.objs.size], _, _, H1, rfl, I1.kept (t' := s1.toks) fun b o e => Heap.get?_push_of_some _ e, turn_tuple a _, ⟨_, Heap.get?_push_size _ rfl, rfl, rfl⟩, fun b hb => ?_, q⟩
    have e : b = s1.heap.objs.size := by simpa using hb
    subst e
    exact I1.fpOk (Nat.le_refl _) (I1.hok.fresh (Nat.le_refl _))
theorem pi_seqK {K : PySem.W.Frag} {e : Expr} {tl : TE} (h : X.K = K) (he : PE X e tl) : PI X tg e (iSeq K tl) := h ▸ pi_seq he
/-- enumerate of a list or a tuple -/
def iEnumS (K : PySem.W.Frag) (ta : TA) : TI := fun σ H R => ta σ H fun vs H1 => ∃ a xs, vs = [.ref a] ∧ ((SqL K H1 a xs ∧ R (Ite K a) H1) ∨ (SqT K H1 a xs ∧ R (Itet K a) H1))
theorem pi_enumS {e : Expr} {ta : TA} {p pos tpos : Pos} {elts : List Expr} {kk : Nat} (hg : Gl X "enumerate") (hm : X.mg "enumerate" = none) (ha : PA X [e] ta) (hs : starEach [e] X.env = [(false, eval e X.env)] := by rfl) :
    PI X (.Tuple elts kk tpos) (.Call (.Name "enumerate" p) [e] [] pos) (iEnumS X.K ta) := by
  refine ⟨fun pins s σ H R I h => ?_⟩
  refine Call_ (ld_blt I hg hm boot_enumerate (PyProof.Rows.callWith_type1 (thn (ha.run pos pins s σ H _ I h) fun us s1 ⟨vs, H1, I1, r1, q1⟩ => ?_) hs rfl))
  obtain ⟨a, xs, ex, q1⟩ := q1
  subst ex
  cases r1 with
  | cons r rr =>
    cases rr
    cases r
    rcases q1 with ⟨hq, q⟩ | ⟨hq, q⟩
    · obtain ⟨its, rv, p', hz⟩ := I1.list hq
      refine call_enumerate_list p'.isList fun h' he hit hsz hk => wpAny_pyIter_enum he ?_
      have I2 : Inv X pins σ H1 { s1 with heap := h' } := I1.kept (t' := s1.toks) hk
      refine ⟨s1.heap.objs.size + 1, [s1.heap.objs.size + 1, s1.heap.objs.size], _, _, H1, rfl, I2, turn_enum a (s1.heap.objs.size + 1) s1.heap.objs.size, ⟨⟨.none, he⟩, hit, Nat.succ_ne_self _⟩, fun b hb => ?_, q⟩
      have e' : b = s1.heap.objs.size + 1 ∨ b = s1.heap.objs.size := by simpa using hb
      have hle : s1.heap.objs.size ≤ b := by
        rcases e' with z | z
        · rw [z]; exact Nat.le_add_right _ _
        · rw [z]; exact Nat.le_refl _
      exact I1.fpOk hle (I1.hok.fresh hle)
    · obtain ⟨its, rv, p', hz⟩ := I1.tuple hq
      have hpt : s1.heap.IsTuple a its.toArray := p'
      have hal : a < s1.heap.objs.size := p'.lt
      refine call_enum1 (begins_tuple a its.toArray) hpt fun h' he hit hsz hk => wpAny_pyIter_enum he ?_
      have I2 : Inv X pins σ H1 { s1 with heap := h' } := I1.kept (t' := s1.toks) hk
      refine ⟨s1.heap.objs.size + 1, [s1.heap.objs.size + 1, s1.heap.objs.size], _, _, H1, rfl, I2, turn_enumT a (s1.heap.objs.size + 1) s1.heap.objs.size (Nat.ne_of_lt hal), ⟨⟨.none, he⟩, ⟨_, hit, rfl, rfl⟩, Nat.succ_ne_self _, Nat.ne_of_lt (Nat.lt_succ_of_lt hal)⟩, fun b hb => ?_, q⟩
      have e' : b = s1.heap.objs.size + 1 ∨ b = s1.heap.objs.size := by simpa using hb
      have hle : s1.heap.objs.size ≤ b := by
        rcases e' with z | z
        · rw [z]; exact Nat.le_add_right _ _
        · rw [z]; exact Nat.le_refl _
      exact I1.fpOk hle (I1.hok.fresh hle)
end
section
variable {K : PySem.W.Frag} {σ : L2.St} {G P H : Hp} {Q : VK} {nx bk ct : L2.St → Hp → Prop} {rt : VK} {D : Ends} {tt : TT} {td te ta : TE} {g : TG} {tb : TS} {as : TA} {ts : List Nat} {a : Addr} {xs : List V}
/-- a list or a tuple stands there -/
def Sq (G : Hp) (a : Addr) (xs : List V) : Prop := G a = some (.lst xs) ∨ G a = some (.tup xs)
theorem Sq.mono {G G' : Hp} (e : Ex G G') (h : Sq G a xs) : Sq G' a xs := h.imp (e _ _) (e _ _)
def aForS (K : PySem.W.Frag) (g : TG) (tb : TS) (D : Ends) (σ : L2.St) : V → Hp → Prop := fun x H => tFor (fun _ H R => ∃ a, x = .ref a ∧ (((∃ xs, SqL K H a xs) ∧ R (Itl K a) H) ∨ ((∃ xs, SqT K H a xs) ∧ R (Itt K a) H))) g tb D σ H
theorem w_forS (h : ta σ H fun x H1 => aForS K g tb D σ x H1) : tFor (iSeq K ta) g tb D σ H := h
theorem aForS.go (I : Nat → Hp → Hp → L2.St → Prop) {Gb : Hp} (J : Join G P H) (eb : Ex Gb G) (hS : Sq Gb a xs) (h0 : I 0 G P σ) (hk : ∀ i G' P' σ', I i G' P' σ' → Ex Gb G')
    (hs : ∀ (i : Nat) (x : V) (G' P' H' : Hp) (σ' : L2.St), xs[i]? = some x → Join G' P' H' → I i G' P' σ' → g x σ' H' fun σ2 H2 => tb ⟨fun σ3 H3 => ∃ G3 P3, Join G3 P3 H3 ∧ I (i + 1) G3 P3 σ3, rt, nx, fun σ3 H3 => ∃ G3 P3, Join G3 P3 H3 ∧ I (i + 1) G3 P3 σ3⟩ σ2 H2)
    (hq : ∀ (G' P' H' : Hp) (σ' : L2.St), Join G' P' H' → I xs.length G' P' σ' → nx σ' H') : aForS K g tb ⟨nx, rt, bk, ct⟩ σ (.ref a) H := by
  rcases hS with h | h
  · obtain ⟨b, e, h1, h2⟩ := (aForL.go (K := K) (bk := bk) (ct := ct) I J (eb _ _ h) h0 (fun i G' P' σ' hI => hk i G' P' σ' hI _ _ h) hs hq : aForL K g tb ⟨nx, rt, bk, ct⟩ σ (.ref a) H)
    exact ⟨b, e, .inl ⟨h1, h2⟩⟩
  · obtain ⟨b, e, h1, h2⟩ := (aForT.go (K := K) (bk := bk) (ct := ct) I J (eb _ _ h) h0 (fun i G' P' σ' hI => hk i G' P' σ' hI _ _ h) hs hq : aForT K g tb ⟨nx, rt, bk, ct⟩ σ (.ref a) H)
    exact ⟨b, e, .inr ⟨h1, h2⟩⟩
def aLcS (K : PySem.W.Frag) (g : TG) (tt : TT) (te : TE) (vs : List Nat) (σ : L2.St) : V → Hp → VK → Prop := fun x H Q => tLc (fun _ H R => ∃ a, x = .ref a ∧ (((∃ xs, SqL K H a xs) ∧ R (Itl K a) H) ∨ ((∃ xs, SqT K H a xs) ∧ R (Itt K a) H))) g tt te vs σ H Q
theorem w_lcS (h : ta σ H fun x H1 => aLcS K g tt te ts σ x H1 Q) : tLc (iSeq K ta) g tt te ts σ H Q := h
theorem aLcS.ofL (h : aLcL K g tt te ts σ (.ref a) H Q) : aLcS K g tt te ts σ (.ref a) H Q := by
  obtain ⟨b, e, h1, h2⟩ := h
  exact ⟨b, e, .inl ⟨h1, h2⟩⟩
theorem aLcS.ofT (h : aLcT K g tt te ts σ (.ref a) H Q) : aLcS K g tt te ts σ (.ref a) H Q := by
  obtain ⟨b, e, h1, h2⟩ := h
  exact ⟨b, e, .inr ⟨h1, h2⟩⟩
theorem aLcS.go (Pp : Hp → Prop) (I : Nat → List V → Hp → Prop) (J : Join G P H) (hP : Pp P)
    (hS : Sq G a xs) (h0 : ∀ G', Ex G G' → I 0 [] G') (hI : ∀ i ws G2 D us ts, G2 D = some (.lst us) → I i ws G2 → I i ws (upd G2 D (.lst ts))) (hz : ∀ i ws G2, I i ws G2 → ws.length ≤ 1000000)
    (hs : ∀ (i : Nat) (x : V) (ws : List V) (G' P' H' : Hp) (R : VK) (R0 : Hp → Prop), xs[i]? = some x → Ex G G' → I i ws G' → Pp P' → Join G' P' H' →
      (∀ v G2 P2 H2, Ex G' G2 → Pp P2 → Join G2 P2 H2 → I (i + 1) (ws ++ [v]) G2 → R v H2) → (∀ G2 P2 H2, Ex G' G2 → Pp P2 → Join G2 P2 H2 → I (i + 1) ws G2 → R0 H2) →
      g x (wipe σ ts) H' fun σ2 H2 => wipe σ2 ts = wipe σ ts ∧ tt σ2 H2 fun b H3 => if b = true then te σ2 H3 R else R0 H3)
    (hq : ∀ p ws G' P' H', H p = none → Ex G G' → G' p = some (.lst ws) → I xs.length ws G' → Pp P' → Join G' P' H' → Q (.ref p) H') : aLcS K g tt te ts σ (.ref a) H Q := by
  rcases hS with h | h
  · exact aLcS.ofL (aLcL.go Pp I J hP h h0 hI hz hs hq)
  · exact aLcS.ofT (aLcT.go Pp I J hP h h0 hI hz hs hq)
theorem for_enumL {D : Ends} (Pv : Nat → L2.St → Hp → Prop) (h0 : Pv 0 σ H) (hl : ∀ i σ H, i ≤ xs.length → Pv i σ H → SqL K H a xs)
    (hs : ∀ (i : Nat) x σ H T, xs[i]? = some x → Pv i σ H → H T = none → g (.ref T) σ (upd H T (.tup [.int i, x])) fun σ2 H2 => tb { D with nx := Pv (i + 1), ct := Pv (i + 1), bk := D.nx } σ2 H2) (hd : ∀ σ H, Pv xs.length σ H → D.nx σ H) :
    ∃ W : Nat → Nat → L2.St → Hp → Prop, (∃ m, W 0 m σ H) ∧ ∀ i m σ H, W i m σ H →
      ((Ite K a).stop i H ∧ D.nx σ H) ∨ ((Ite K a).go i H ∧ ∃ N : L2.St → Hp → Prop, (∀ σ' H', N σ' H' → ∃ m', m' < m ∧ W (i + 1) m' σ' H') ∧ ∀ x H', (Ite K a).yld i H x H' → g x σ H' fun σ2 H2 => tb { D with nx := N, ct := N, bk := D.nx } σ2 H2) := by
  refine ⟨fun i m σ H => m = xs.length - i ∧ i ≤ xs.length ∧ Pv i σ H, ⟨xs.length, by simp, Nat.zero_le _, h0⟩, ?_⟩
  rintro i m σ H ⟨rfl, hi, p⟩
  have q := hl i σ H hi p
  by_cases hlt : i < xs.length
  · refine .inr ⟨⟨xs, xs[i], q, by simp [hlt]⟩, Pv (i + 1), fun σ' H' p' => ⟨xs.length - (i + 1), by omega, rfl, hlt, p'⟩, fun x H' y => ?_⟩
    obtain ⟨T, z, e1, e2, e3, y⟩ := y
    subst e1 e3
    exact hs i z σ H T (y xs q) p e2
  · have e : i = xs.length := by omega
    subst e
    exact .inl ⟨⟨xs, q, Nat.le_refl _⟩, hd σ H p⟩
def aForES (K : PySem.W.Frag) (g : TG) (tb : TS) (D : Ends) (σ : L2.St) : List V → Hp → Prop := fun us H => tFor (fun _ H R => ∃ a xs, us = [.ref a] ∧ ((SqL K H a xs ∧ R (Ite K a) H) ∨ (SqT K H a xs ∧ R (Itet K a) H))) g tb D σ H
theorem w_forES (h : as σ H fun xs H1 => aForES K g tb D σ xs H1) : tFor (iEnumS K as) g tb D σ H := h
theorem aForES.go (I : Nat → Hp → Hp → L2.St → Prop) {Gb : Hp} (J : Join G P H) (eb : Ex Gb G) (hS : Sq Gb a xs) (h0 : I 0 G P σ) (hk : ∀ i G' P' σ', I i G' P' σ' → Ex Gb G')
    (hs : ∀ (i : Nat) (x : V) (T : Addr) (G0 G' P' H' : Hp) (σ' : L2.St), xs[i]? = some x → Join G' P' H' → G' T = some (.tup [.int i, x]) → Ex G0 G' → I i G0 P' σ' → g (.ref T) σ' H' fun σ2 H2 => tb ⟨fun σ3 H3 => ∃ G3 P3, Join G3 P3 H3 ∧ I (i + 1) G3 P3 σ3, rt, nx, fun σ3 H3 => ∃ G3 P3, Join G3 P3 H3 ∧ I (i + 1) G3 P3 σ3⟩ σ2 H2)
    (hq : ∀ (G' P' H' : Hp) (σ' : L2.St), Join G' P' H' → I xs.length G' P' σ' → nx σ' H') : aForES K g tb ⟨nx, rt, bk, ct⟩ σ [.ref a] H := by
  have hS' := hS
  rcases hS with h | h
  · refine ⟨a, xs, rfl, .inl ⟨sqL (J.g _ _ (eb _ _ h)), for_enumL (K := K) (a := a) (xs := xs) (fun i σ' H' => ∃ G3 P3, Join G3 P3 H' ∧ I i G3 P3 σ') ⟨G, P, J, h0⟩ ?_ ?_ ?_⟩⟩
    · rintro i σ' H' _ ⟨G', P', J', hI⟩
      exact sqL (J'.g _ _ (hk _ _ _ _ hI _ _ h))
    · rintro i x σ' H' T hi ⟨G', P', J', hI⟩ hT
      exact hs i x T G' _ P' _ σ' hi (J'.newG hT) upd_same (Ex.new (J'.ng hT)) hI
    · rintro σ' H' ⟨G', P', J', hI⟩
      exact hq G' P' H' σ' J' hI
  · refine ⟨a, xs, rfl, .inr ⟨sqT (J.g _ _ (eb _ _ h)), for_enumT (K := K) (a := a) (xs := xs) (fun i σ' H' => ∃ G3 P3, Join G3 P3 H' ∧ I i G3 P3 σ') ⟨G, P, J, h0⟩ ?_ ?_ ?_⟩⟩
    · rintro i σ' H' _ ⟨G', P', J', hI⟩
      exact sqT (J'.g _ _ (hk _ _ _ _ hI _ _ h))
    · rintro i x σ' H' T hi ⟨G', P', J', hI⟩ hT
      exact hs i x T G' _ P' _ σ' hi (J'.newG hT) upd_same (Ex.new (J'.ng hT)) hI
    · rintro σ' H' ⟨G', P', J', hI⟩
      exact hq G' P' H' σ' J' hI
/-- len, isinstance, list, tuple of such -/
theorem lenS_go (J : Join G P H) (h : Sq G a xs) (q : Q (.int xs.length) H) : rLenW K [.ref a] H Q :=
  ⟨_, _, rfl, h.imp (fun h => sqL (J.g _ _ h)) (fun h => sqT (J.g _ _ h)), q⟩
theorem lenV_go (J : Join G P H) (h : Sq G a xs) (q : Q (.int xs.length) H) : rLenV K [.ref a] H Q := by
  rcases h with h | h
  · exact w_rlenL (J.g _ _ h) q
  · exact w_rlenT (J.g _ _ h) q
end
/-! dicts whose keys are tuples of ints -/
def tK (kvs : List (List Int × V)) : List (List L2.Key × V) := kvs.map fun z => (z.1.map Sum.inl, z.2)
theorem inl_inj : ∀ {a b : List Int}, a.map (Sum.inl : Int → L2.Key) = b.map Sum.inl ↔ a = b
  | [], [] => by simp
  | [], b :: c => by simp
  | a :: c, [] => by simp
  | a :: c, b :: d => by
    rw [List.map_cons, List.map_cons, List.cons.injEq, List.cons.injEq, inl_inj]
    constructor
    · rintro ⟨h, k⟩; exact ⟨Sum.inl.inj h, k⟩
    · rintro ⟨h, k⟩; exact ⟨congrArg _ h, k⟩
theorem tK_len (kvs : List (List Int × V)) : (tK kvs).length = kvs.length := by simp [tK]
theorem tK_val (kvs : List (List Int × V)) (k : List Int) : valV (tK kvs) (k.map Sum.inl) = valV kvs k := by
  induction kvs with
  | nil => rfl
  | cons p r ih =>
    by_cases c : p.1 = k
    · rw [valV_pos c]
      show valV ((p.1.map Sum.inl, p.2) :: tK r) _ = _
      rw [valV_pos (inl_inj.mpr c)]
    · rw [valV_neg c]
      show valV ((p.1.map Sum.inl, p.2) :: tK r) _ = _
      rw [valV_neg (fun h => c (inl_inj.mp h)), ih]
theorem tK_put (kvs : List (List Int × V)) (k : List Int) (v : V) : putK (tK kvs) (k.map Sum.inl) v = tK (putK kvs k v) := by
  cases h : valV kvs k with
  | none =>
    rw [putK_new v h, putK_new v (by rw [tK_val]; exact h)]
    simp [tK]
  | some y =>
    have h2 : valV (tK kvs) (k.map Sum.inl) = some y := by rw [tK_val]; exact h
    unfold putK
    have a1 : (kvs.any fun kv => decide (kv.1 = k)) = true := by rw [valV_any, h]; rfl
    have a2 : ((tK kvs).any fun kv => decide (kv.1 = k.map Sum.inl)) = true := by rw [valV_any, h2]; rfl
    rw [if_pos a1, if_pos a2]
    unfold tK
    rw [List.map_map, List.map_map]
    refine List.map_congr_left fun z _ => ?_
    show (if z.1.map Sum.inl = k.map (Sum.inl : Int → L2.Key) then (z.1.map (Sum.inl : Int → L2.Key), v) else (z.1.map Sum.inl, z.2)) = ((if z.1 = k then (z.1, v) else z).1.map Sum.inl, (if z.1 = k then (z.1, v) else z).2)
    by_cases c : z.1 = k
    · rw [if_pos c, if_pos (inl_inj.mpr c)]
    · rw [if_neg c, if_neg (fun h => c (inl_inj.mp h))]
theorem tK_at {kvs : List (List Int × V)} {i : Nat} {k : List L2.Key} {v : V} (h : (tK kvs)[i]? = some (k, v)) : ∃ n, kvs[i]? = some (n, v) ∧ k = n.map Sum.inl := by
  unfold tK at h
  rw [List.getElem?_map] at h
  cases e : kvs[i]? with
  | none => rw [e] at h; cases h
  | some z => rw [e] at h; injection h with h; injection h with h1 h2; exact ⟨z.1, by rw [← h2], h1.symm⟩
theorem tup_kV (k : List Int) : (k.map (Sum.inl : Int → L2.Key)).map kV = k.map V.int := by rw [List.map_map]; rfl
/-- the keys, each a tuple that stands -/
theorem for_keysT {d : Addr} {o : Obj} {kvs : List (List L2.Key × V)} {g : TG} {tb : TS} {D : Ends} {σ : L2.St} {H : Hp} (Pv : Nat → L2.St → Hp → Prop) (h0 : Pv 0 σ H) (hl : ∀ i σ H, i ≤ kvs.length → Pv i σ H → H d = some (.frz o (.dT kvs)))
    (hs : ∀ (i : Nat) (k : List L2.Key) (v : V) (q : Addr) σ H, kvs[i]? = some (k, v) → H q = some (.tup (k.map kV)) → Pv i σ H → g (.ref q) σ H fun σ2 H2 => tb { D with nx := Pv (i + 1), ct := Pv (i + 1), bk := D.nx } σ2 H2) (hd : ∀ σ H, Pv kvs.length σ H → D.nx σ H) :
    ∃ W : Nat → Nat → L2.St → Hp → Prop, (∃ m, W 0 m σ H) ∧ ∀ i m σ H, W i m σ H →
      ((Itkt d o kvs).stop i H ∧ D.nx σ H) ∨ ((Itkt d o kvs).go i H ∧ ∃ N : L2.St → Hp → Prop, (∀ σ' H', N σ' H' → ∃ m', m' < m ∧ W (i + 1) m' σ' H') ∧ ∀ x H', (Itkt d o kvs).yld i H x H' → g x σ H' fun σ2 H2 => tb { D with nx := N, ct := N, bk := D.nx } σ2 H2) := by
  refine ⟨fun i m σ H => m = kvs.length - i ∧ i ≤ kvs.length ∧ Pv i σ H, ⟨kvs.length, by simp, Nat.zero_le _, h0⟩, ?_⟩
  rintro i m σ H ⟨rfl, hi, p⟩
  have q := hl i σ H hi p
  by_cases c : i < kvs.length
  · refine .inr ⟨⟨q, c⟩, Pv (i + 1), fun σ' H' p' => ⟨kvs.length - (i + 1), by omega, rfl, c, p'⟩, fun x H' y => ?_⟩
    obtain ⟨e, k, v, b, hk, rfl, hb⟩ := y
    subst e
    exact hs i k v b σ _ hk hb p
  · have e : i = kvs.length := by omega
    subst e
    exact .inl ⟨⟨q, Nat.le_refl _⟩, hd σ H p⟩
theorem lc_keysT {d : Addr} {o : Obj} {kvs : List (List L2.Key × V)} {g : TG} {tt : TT} {te : TE} {vs : List Nat} {σ : L2.St} {H1 : Hp} {D : Addr} {Qd : Hp → Prop} (Pv : Nat → Hp → Prop) (h0 : Pv 0 (upd H1 D (.lst []))) (hl : ∀ i H, i ≤ kvs.length → Pv i H → H d = some (.frz o (.dT kvs)))
    (hs : ∀ (i : Nat) (k : List L2.Key) (v : V) (q : Addr) H, kvs[i]? = some (k, v) → H q = some (.tup (k.map kV)) → Pv i H → g (.ref q) (wipe σ vs) H fun σ2 H2 => wipe σ2 vs = wipe σ vs ∧ tt σ2 H2 fun b H3 =>
      if b = true then te σ2 H3 fun y H4 => ∃ acc, H4 D = some (.lst acc) ∧ acc.length < sizeLine ∧ Pv (i + 1) (upd H4 D (.lst (acc ++ [y]))) else Pv (i + 1) H3) (hd : ∀ H, Pv kvs.length H → Qd H) :
    ∃ W : Nat → Nat → Hp → Prop, (∃ m, W 0 m (upd H1 D (.lst []))) ∧ ∀ i m H, W i m H →
      ((Itkt d o kvs).stop i H ∧ Qd H) ∨ ((Itkt d o kvs).go i H ∧ ∃ Nx : Hp → Prop, (∀ H', Nx H' → ∃ m', m' < m ∧ W (i + 1) m' H') ∧ ∀ x H', (Itkt d o kvs).yld i H x H' → g x (wipe σ vs) H' fun σ2 H2 => wipe σ2 vs = wipe σ vs ∧ tt σ2 H2 fun b H3 =>
        if b = true then te σ2 H3 fun y H4 => ∃ acc, H4 D = some (.lst acc) ∧ acc.length < sizeLine ∧ Nx (upd H4 D (.lst (acc ++ [y]))) else Nx H3) := by
  refine ⟨fun i m H => m = kvs.length - i ∧ i ≤ kvs.length ∧ Pv i H, ⟨kvs.length, by simp, Nat.zero_le _, h0⟩, ?_⟩
  rintro i m H ⟨rfl, hi, p⟩
  have q := hl i H hi p
  by_cases c : i < kvs.length
  · refine .inr ⟨⟨q, c⟩, Pv (i + 1), fun H' p' => ⟨kvs.length - (i + 1), by omega, rfl, c, p'⟩, fun x H' y => ?_⟩
    obtain ⟨e, k, v, b, hk, rfl, hb⟩ := y
    subst e
    exact hs i k v b _ hk hb p
  · have e : i = kvs.length := by omega
    subst e
    exact .inl ⟨⟨q, Nat.le_refl _⟩, hd H p⟩
/-- the pairs of a locked dict with tuple keys, each a new tuple -/
def Itit (d : Addr) (o : Obj) (kvs : List (List L2.Key × V)) : It :=
  ⟨fun i H => H d = some (.frz o (.dT kvs)) ∧ i < kvs.length, fun i H x H' => ∃ T k v q, kvs[i]? = some (k, v) ∧ H q = some (.tup (k.map kV)) ∧ x = .ref T ∧ H T = none ∧ H' = upd H T (.tup [.ref q, v]), fun i H => H d = some (.frz o (.dT kvs)) ∧ kvs.length ≤ i⟩
theorem frzT2 {X : Cx} {pins : List (Addr × Obj)} {σ : L2.St} {H : Hp} {s : Shared} {d : Addr} {o : Obj} {kvs : List (List L2.Key × V)} (I : Inv X pins σ H s) (h : H d = some (.frz o (.dT kvs))) :
    (d == sysModules) = false ∧ s.heap.get? d = some o ∧ o.ExactDict ∧ ∃ (es : Array DictEntry) (ep : Nat), o.data = .dict es ep ∧ es.size = kvs.length ∧
      ∀ (i : Nat) (k : List L2.Key) (v : V), kvs[i]? = some (k, v) → ∃ (en : DictEntry) (q : Addr), es[i]? = some en ∧ en.key = .ref q ∧ H q = some (.tup (k.map kV)) ∧ RelV v en.val := by
  obtain ⟨hd, z, hs, xs, pr, o', es, ep, ho, hx, hdt, he, _⟩ := I.hok d _ h
  rw [hd] at ho
  cases ho
  refine ⟨hs, hd, hx, es, ep, hdt, ?_, fun i k v e => ?_⟩
  · have l1 : es.size = xs.length := size_of_entries he
    have l2 : kvs.length = xs.length := Paired.length pr
    omega
  · obtain ⟨b, hb, e1, e2, e3⟩ := paired_get pr e
    have q := entry_at he i
    rw [hb] at q
    exact ⟨_, b.2.1, q, rfl, e2, e3⟩
theorem turn_itemsT {P : Program} {w : World} {K : PySem.W.Frag} {d : Addr} {o : Obj} {es : Array DictEntry} {ep : Nat} {kvs : List (List L2.Key × V)} {elts : List Expr} {kk : Nat} {tpos : Pos} (it : Addr) (hod : o.data = .dict es ep) :
    L2.Turn P w K (.Tuple elts kk tpos) (Itit d o kvs) [it] it (fun i h => ∃ ok ov, IsItemIter h it d i kvs.length ep ok ov) where
  mem := by simp
  obj := fun i h st b hb => by
    have e : b = it := by simpa using hb
    subst e
    obtain ⟨ok, ov, e⟩ := st
    exact ⟨_, e, fun v z => nomatch z⟩
  keep := fun i h h' st k => let ⟨ok, ov, e⟩ := st; ⟨ok, ov, k it (by simp) _ e⟩
  item := by
    intro X hP hw hK hc i pins s σ H E I hf st hg
    subst hP hw hK
    obtain ⟨hd, hi⟩ := hg
    obtain ⟨hs, hgd, hx, es', ep', hdt, hsz, ent⟩ := frzT2 I hd
    obtain ⟨rfl, rfl⟩ := dict_ep hod hdt
    obtain ⟨⟨k, v⟩, hkv⟩ : ∃ p, kvs[i]? = some p := ⟨kvs[i], List.getElem?_eq_getElem hi⟩
    obtain ⟨en, q, hen, hkey, hq, rv⟩ := ent i k v hkv
    obtain ⟨ok, ov, he⟩ := st
    rw [← hsz] at he
    have hi2 : i < es'.size := by omega
    have hes : es'[i] = en := by
      rw [Array.getElem?_eq_getElem hi2] at hen
      exact Option.some.inj hen
    have hlt : it < s.heap.objs.size := Heap.lt_size he
    refine DT.nextI he ⟨_, hgd, hx, hdt⟩ hi2 fun h' ho hT hz hk => ?_
    refine ⟨_, rfl, wpAny_letOwnedTupleGo_items (s := { s with heap := h' }) ho fun h'' he' sb => ?_⟩
    have hT2 : h''.get? s.heap.objs.size = some { cls := .type "tuple", data := .seq #[en.key, en.val] } := by
      rw [← hes]; exact (sb.2 _ (Nat.ne_of_gt hlt)).trans hT
    have new : ObjOk X.prog X.w (upd H s.heap.objs.size (.tup [.ref q, v])) h'' s.heap.objs.size (.tup [.ref q, v]) :=
      ⟨by show 2 ≤ sizeLine; decide, [en.key, en.val], .cons hkey (.cons rv .nil), ⟨_, hT2, rfl, _, rfl⟩⟩
    have I1 : Inv X pins σ (upd H s.heap.objs.size (.tup [.ref q, v])) { s with heap := h'' } :=
      I.turnedNew (t' := s.toks) (ch := [it]) (fun b ob hb e => (sb.2 b (by simpa using hb)).trans (hk b ob (by simpa using hb) e)) hf (Nat.le_refl _) new
    refine ⟨.ref s.heap.objs.size, _, I1, rfl, ⟨_, k, v, q, hkv, hq, rfl, I.hok.fresh (Nat.le_refl _), rfl⟩, ⟨es'[i].key, es'[i].val, ?_⟩, fun b hb => ?_⟩
    · rw [← hsz]; exact he'
    · have e : b = it := by simpa using hb
      rw [e, upd_ne (Nat.ne_of_lt hlt)]
      exact (hf it (by simp)).1
  done := by
    intro X hP hw hK hc i pins s σ H E I hf st hg
    subst hP hw hK
    obtain ⟨hd, hi⟩ := hg
    obtain ⟨f0, f1, f2, f3, f4, f5⟩ := hf it (by simp)
    obtain ⟨hs, hgd, hx, es', ep', hdt, hsz, ent⟩ := frzT2 I hd
    obtain ⟨rfl, rfl⟩ := dict_ep hod hdt
    obtain ⟨ok, ov, he⟩ := st
    rw [← hsz] at he
    exact DT.endI (I.ok.hd hc) he ⟨_, hgd, hx, hdt⟩ (by omega) fun h' eb => ⟨rfl, I.turned (t' := s.toks) (fun b ob hb e => eb b ob hb e) f0 f1 f3 f4 f5⟩
  self := fun A i s Q E st h => let ⟨_, _, e⟩ := st; PySem.W.kcp_self e h
def iItemsT (td : TE) : TI := fun σ H R => td σ H fun x H1 => ∃ d o kvs, x = .ref d ∧ H1 d = some (.frz o (.dT kvs)) ∧ R (Itit d o kvs) H1
theorem pi_itemsT {X : Cx} {e : Expr} {td : TE} {apos cpos : Pos} {elts : List Expr} {kk : Nat} {tpos : Pos} (he : PE X e td) (hbase : attributeBase e "items" X.env (eval e X.env) = eval e X.env := by rfl) (hline : (apos.endLine == cpos.line) = true := by rfl) :
    PI X (.Tuple elts kk tpos) (.Call (.Attribute e "items" apos) [] [] cpos) (iItemsT td) := by
  refine ⟨fun pins s σ H R I h => ?_⟩
  refine wpAny_Call_method (T := "dict") (id := "dict.items") hbase rfl hline F.plainAttrs_dict F.slot_dict_items F.type_dict_items (thn (he.run pins s σ H _ I h) fun u s1 ⟨x, H1, I1, rx, d, o, kvs, ex, hd, q⟩ => ?_)
  subst ex
  obtain rfl : u = Value.ref d := rx
  obtain ⟨hs, hgd, hx, es, ep, hdt, hsz, ent⟩ := frzT2 I1 hd
  have raw : DT.Raw s1.heap d es ep := ⟨_, hgd, hx, hdt⟩
  refine ⟨raw.typeIs, fun b e => by cases e; exact ⟨_, hgd, hx.2.1⟩, ?_⟩
  have I2 : Inv X pins σ H1 { s1 with heap := s1.heap.push { cls := .type "dict_items", data := .fields #[.ref d] } } := I1.kept (t' := s1.toks) fun b ob q => Heap.get?_push_of_some _ q
  have fin : wpAny (model X.prog X.w) X.A (pyIter (.ref s1.heap.objs.size)) (PIE X pins σ (.Tuple elts kk tpos) R) X.xe { s1 with heap := s1.heap.push { cls := .type "dict_items", data := .fields #[.ref d] } } := by
    refine DT.iterI (d := d) ⟨_, Heap.get?_push_size _ rfl, rfl, rfl⟩ (raw.push _) (pi_one (tk := s1.toks) I2 _ (turn_itemsT _ hdt) ⟨.none, .none, ?_⟩ q)
    rw [← hsz]
    exact Heap.get?_push_size _ rfl
  show wpAny _ _ (callWith cpos (.builtin "dict.items") [.ref d] [] []) _ X.xe s1
  exact method_meetsIn F.slot_dict_items F.entry_dict_items rfl (PySem.evalArgs_none ⟨rfl, raw.typeIs, F.args_dict_items_1 _, _, DT.meetsItems hs, ⟨raw, fin⟩⟩)
/-- {k: v}, k a tuple -/
def tDisp1T (tk tv : TE) : TE := fun σ H Q => ∀ p, H p = none → tk σ (upd H p (.dT [])) fun x H1 => tv σ H1 fun v H2 => H2 p = some (.dT []) ∧ ∃ (b : Addr) (ks : List L2.Key), x = .ref b ∧ H2 b = some (.tup (ks.map kV)) ∧ Q (.ref p) (upd H2 p (.dT [(ks, v)]))
theorem pe_disp1T {X : Cx} {k v : Expr} {pos : Pos} {tk tv : TE} (hu : X.A.units + 1 < cLine) (hk : PE X k tk) (hv : PE X v tv) : PE X (.Dict [some k] [v] pos) (tDisp1T tk tv) := by
  refine ⟨fun pins s σ H Q I q => ?_⟩
  have hn := I.hok.fresh (Nat.le_refl s.heap.objs.size)
  have I1 := I.laid (a := s.heap.objs.size) (o := .dT []) (h' := s.heap.push { cls := .type "dict", data := .dict #[] }) (t' := s.toks) (fun _ _ q => Heap.get?_push_of_some _ q) (Nat.le_refl _) (dt_empty s.heap I.big)
  rw [arm_eval_Dict, zip_pairTrees [some k] [v] X.env pos rfl rfl, dictDisplay_pairs _ (fun h => by have := congrArg List.length h; rw [pairTrees_length _ _ _ _ rfl rfl] at this; cases this) (by rw [pairTrees_length _ _ _ _ rfl rfl]; show 1 < 17; decide)]
  refine wpAny_bind (wpAny_standAt (wpAny_bind (wpAny_subDictH (knd := tupleKind (mixKind X.prog X.w)) (Q := fun d s' => wpAny (model X.prog X.w) X.A (pure (Value.ref d)) _ X.xe s') (show X.A.units < cLine by omega) (by rw [pairTrees_length _ _ _ _ rfl rfl]; show 1 ≤ 15; decide) ?_)))
  refine pairTrees_cons_walk (thn (hk.run pins _ σ _ _ I1 (q _ hn)) fun u s1 ⟨x, H1, I2, rx, q1⟩ => thn (hv.run pins s1 σ H1 _ I2 q1) fun r s2 ⟨y, H2, I3, ry, q2⟩ => pairTrees_nil_walk ?_)
  obtain ⟨e, b, ks, ex, hb, q3⟩ := q2
  subst ex
  obtain rfl : u = Value.ref b := rx
  obtain ⟨z, hd, xs, rel, dd⟩ := dt_of I3.hok e
  cases rel
  refine ⟨[(ks, b, r)], ⟨rfl, rfl, key_of I3.hok hb, True.intro⟩, dd, fun h' tk' dd' hs => wpAny_pure ⟨.ref s.heap.objs.size, _, ?_, rfl, q3⟩⟩
  have hl : [(ks, y)].length ≤ sizeLine := by rw [sizeLine_eq]; show 1 ≤ 16777216; decide
  have nb : b ≠ s.heap.objs.size := ne_of hb e (fun z => nomatch z)
  obtain ⟨o, es, ep, hq, h2, h3, h4, _, h5⟩ := dd'
  refine d_write I3 (by rw [e]; exact True.intro) hs ⟨o, hq⟩ ⟨hl, hd, [(ks, b, r)], .cons ⟨rfl, (upd_ne nb).trans hb, ry⟩ .nil, o, es, ep, hq, h2, h3, h4, h5⟩
section
variable {K : PySem.W.Frag} {σ : L2.St} {G P H : Hp} {Q : VK} {nx bk ct : L2.St → Hp → Prop} {rt : VK} {D : Ends} {tt : TT} {td te ta tk tv : TE} {g : TG} {tb : TS} {as : TA} {ts : List Nat} {d : Addr}
theorem aDisp1T.goP {ks : List Int} {v : V} (J : Join G P H) (nt : NT P) (hk : ∀ P' H' S, Join G P' H' → NT P' → (∀ b G2 H2, Ex G G2 → Join G2 P' H2 → G2 b = some (.tup (ks.map V.int)) → S (.ref b) H2) → tk σ H' S) (hv : ∀ H' S, S v H' → tv σ H' S)
    (q : ∀ p P' G' H', H p = none → Ex P P' → Ex G G' → Join G' P' H' → NT P' → P' p = some (.dT (tK [(ks, v)])) → Q (.ref p) H') : tDisp1T tk tv σ H Q := by
  intro p hp
  have j1 : Join G (upd P p (.dT [])) (upd H p (.dT [])) := J.setP (J.ng hp)
  have n1 : NT (upd P p (.dT [])) := nt.upd fun _ e => nomatch e
  refine hk _ _ _ j1 n1 fun b G2 H2 e2 j2 hb => hv _ _ ⟨j2.p _ _ upd_same, b, ks.map Sum.inl, rfl, by rw [tup_kV]; exact j2.g _ _ hb, ?_⟩
  exact q p _ G2 _ hp ((Ex.new (J.np hp)).mut (J.np hp)) e2 (j2.setP (o := .dT (tK [(ks, v)])) (j2.gn upd_same)) (n1.upd fun _ e => nomatch e) upd_same
/-- d[t] = v, t a tuple -/
theorem dputT_go {kvs : List (List Int × V)} {b : Addr} {ks : List Int} {v : V} (J : Join G P H) (nt : NT P) (hb : H b = some (.tup (ks.map V.int))) (h : P d = some (.dT (tK kvs))) (hl : kvs.length < 100000) (q : ∀ P' H', Join G P' H' → NT P' → P' = upd P d (.dT (tK (putK kvs ks v))) → nx σ H') : aDPut v (.ref b) nx σ (.ref d) H :=
  dputTP J hb h (by rw [tK_len]; exact hl) fun H' j' => q (upd P d (.dT (tK (putK kvs ks v)))) _ (by rw [tK_put] at j'; exact j') (nt.upd fun _ e => nomatch e) rfl
/-- t in d, t not in d -/
theorem dinT_go {kvs : List (List Int × V)} {b : Addr} {ks : List Int} (h : Rd H d (.dT (tK kvs))) (hb : H b = some (.tup (ks.map V.int))) (q : Q (.bl (valV kvs ks).isSome) H) : rDIn false (.ref b) (.ref d) H Q :=
  din_t h hb (by rw [if_neg (by decide), tK_val]; exact q)
theorem dnotT_go {kvs : List (List Int × V)} {b : Addr} {ks : List Int} (h : Rd H d (.dT (tK kvs))) (hb : H b = some (.tup (ks.map V.int))) (q : Q (.bl (!(valV kvs ks).isSome)) H) : rDIn true (.ref b) (.ref d) H Q :=
  din_t h hb (by rw [if_pos rfl, tK_val]; exact q)
theorem dgetT_go {kvs : List (List Int × V)} {b : Addr} {ks : List Int} {v : V} (h : Rd H d (.dT (tK kvs))) (hb : H b = some (.tup (ks.map V.int))) (hv : valV kvs ks = some v) (q : Q v H) : aDGet (.ref d) (.ref b) H Q :=
  dget_t h hb (by rw [tK_val]; exact hv) q
/-- d.get(t, x) -/
theorem dget2T_go {kvs : List (List Int × V)} {ty tx : TE} (h : Rd H d (.dT (tK kvs))) (q : ty σ H fun y H2 => tx σ H2 fun z H3 => rDGet2 d y z H3 Q) : aDGet2 ty tx σ (.ref d) H Q :=
  ⟨d, rfl, .inr ⟨_, h⟩, q⟩
theorem rdget2T_go {kvs : List (List Int × V)} {b : Addr} {ks : List Int} {z : V} (h : Rd H d (.dT (tK kvs))) (hb : H b = some (.tup (ks.map V.int))) (q : Q ((valV kvs ks).getD z) H) : rDGet2 d (.ref b) z H Q :=
  ⟨(valV kvs ks), .inr ⟨_, ks.map Sum.inl, b, h, rfl, by rw [hb, tup_kV], by rw [tK_val]⟩, q⟩
/-- len(d) -/
theorem lenT_go {kvs : List (List Int × V)} (h : H d = some (.dT (tK kvs))) (q : Q (.int kvs.length) H) : L2.rLenT [.ref d] H Q :=
  ⟨d, _, rfl, h, by rw [tK_len]; exact q⟩
/-- for t in d: d stands in the second part, locked -/
theorem forKT.go {kvs : List (List Int × V)} (J : Join G P H) (h : P d = some (.dT (tK kvs))) (htd : ∀ (H' : Hp) (Q : VK), Q (.ref d) H' → td σ H' Q) (I : Nat → Hp → Hp → L2.St → Prop) (h0 : ∀ od, I 0 G (upd P d (.frz od (.dT (tK kvs)))) σ)
    (hs : ∀ (od : Obj) (rt' : VK) (bk' : L2.St → Hp → Prop) (i : Nat) (k : List Int) (v : V) (b : Addr) (G' P' H' : Hp) (σ' : L2.St), kvs[i]? = some (k, v) → H' b = some (.tup (k.map V.int)) → P' d = some (.frz od (.dT (tK kvs))) → Join G' P' H' → I i G' P' σ' →
      g (.ref b) σ' H' fun σ2 H2 => tb ⟨fun σ3 H3 => ∃ G3 P3, Join G3 P3 H3 ∧ P3 d = some (.frz od (.dT (tK kvs))) ∧ I (i + 1) G3 P3 σ3, rt', bk', fun σ3 H3 => ∃ G3 P3, Join G3 P3 H3 ∧ P3 d = some (.frz od (.dT (tK kvs))) ∧ I (i + 1) G3 P3 σ3⟩ σ2 H2)
    (hq : ∀ (od : Obj) (G' P' H' : Hp) (σ' : L2.St), P' d = some (.frz od (.dT (tK kvs))) → I kvs.length G' P' σ' → Join G' (upd P' d (.dT (tK kvs))) H' → nx σ' H') : tLock (tFor (iKeys td) g tb) ⟨nx, rt, bk, ct⟩ σ H := by
  refine ⟨d, .dT (tK kvs), J.p _ _ h, trivial, fun od => htd _ _ ⟨d, od, rfl, .inr ⟨tK kvs, upd_same, ?_⟩⟩⟩
  refine for_keysT (fun i σ' H' => ∃ G3 P3, Join G3 P3 H' ∧ P3 d = some (.frz od (.dT (tK kvs))) ∧ I i G3 P3 σ') ⟨G, _, J.setP (J.gn h), upd_same, h0 od⟩ (fun i σ' H' _ ⟨G', P', j', hd, _⟩ => j'.p _ _ hd) (fun i k v b σ' H' hk hb ⟨G', P', j', hd, hI⟩ => ?_) (fun σ' H' ⟨G', P', j', hd, hI⟩ => ⟨j'.p _ _ hd, hq od G' P' _ σ' hd (by rw [tK_len] at hI; exact hI) (j'.setP (j'.gn hd))⟩)
  obtain ⟨n, hn, rfl⟩ := tK_at hk
  exact hs od _ _ i n v b G' P' H' σ' hn (by rw [hb, tup_kV]) hd j' hI
/-- for t, v in d.items() -/
def aItems (td : TE) (g : TG) (tb : TS) (D : Ends) (σ : L2.St) : Hp → Prop := fun H => tLock (tFor (iItemsT td) g tb) D σ H
theorem forIT.go {kvs : List (List Int × V)} (J : Join G P H) (h : P d = some (.dT (tK kvs))) (htd : ∀ (H' : Hp) (Q : VK), Q (.ref d) H' → td σ H' Q) (I : Nat → Hp → Hp → L2.St → Prop) (h0 : ∀ od, I 0 G (upd P d (.frz od (.dT (tK kvs)))) σ)
    (hs : ∀ (od : Obj) (rt' : VK) (bk' : L2.St → Hp → Prop) (i : Nat) (k : List Int) (v : V) (b T : Addr) (G0 G' P' H' : Hp) (σ' : L2.St), kvs[i]? = some (k, v) → H' b = some (.tup (k.map V.int)) → P' d = some (.frz od (.dT (tK kvs))) → Join G' P' H' → G' T = some (.tup [.ref b, v]) → Ex G0 G' → I i G0 P' σ' →
      g (.ref T) σ' H' fun σ2 H2 => tb ⟨fun σ3 H3 => ∃ G3 P3, Join G3 P3 H3 ∧ P3 d = some (.frz od (.dT (tK kvs))) ∧ I (i + 1) G3 P3 σ3, rt', bk', fun σ3 H3 => ∃ G3 P3, Join G3 P3 H3 ∧ P3 d = some (.frz od (.dT (tK kvs))) ∧ I (i + 1) G3 P3 σ3⟩ σ2 H2)
    (hq : ∀ (od : Obj) (G' P' H' : Hp) (σ' : L2.St), P' d = some (.frz od (.dT (tK kvs))) → I kvs.length G' P' σ' → Join G' (upd P' d (.dT (tK kvs))) H' → nx σ' H') : tLock (tFor (iItemsT td) g tb) ⟨nx, rt, bk, ct⟩ σ H := by
  refine ⟨d, .dT (tK kvs), J.p _ _ h, trivial, fun od => htd _ _ ⟨d, od, tK kvs, rfl, upd_same, ?_⟩⟩
  refine ⟨fun i m σ' H' => m = kvs.length - i ∧ i ≤ kvs.length ∧ ∃ G3 P3, Join G3 P3 H' ∧ P3 d = some (.frz od (.dT (tK kvs))) ∧ I i G3 P3 σ', ⟨kvs.length, by simp, Nat.zero_le _, G, _, J.setP (J.gn h), upd_same, h0 od⟩, ?_⟩
  rintro i m σ' H' ⟨rfl, hi, G', P', j', hd, hI⟩
  by_cases c : i < kvs.length
  · refine .inr ⟨⟨j'.p _ _ hd, by rw [tK_len]; exact c⟩, fun σ3 H3 => ∃ G3 P3, Join G3 P3 H3 ∧ P3 d = some (.frz od (.dT (tK kvs))) ∧ I (i + 1) G3 P3 σ3, fun σ3 H3 p' => ⟨kvs.length - (i + 1), by omega, rfl, c, p'⟩, fun x H2 y => ?_⟩
    obtain ⟨T, k, v, b, hk, hb, rfl, hT, rfl⟩ := y
    obtain ⟨n, hn, rfl⟩ := tK_at hk
    have nb : b ≠ T := ne_of_none hb hT
    exact hs od _ _ i n v b T G' _ P' _ σ' hn (by rw [upd_ne nb, hb, tup_kV]) hd (j'.newG hT) upd_same (Ex.new (j'.ng hT)) hI
  · have e : i = kvs.length := by omega
    subst e
    exact .inl ⟨⟨j'.p _ _ hd, by rw [tK_len]; exact Nat.le_refl _⟩, j'.p _ _ hd, hq od G' P' _ σ' hd hI (j'.setP (j'.gn hd))⟩
/-- [.. for t in d ..]: d stands in the second part, locked -/
theorem lcKT.go {kvs : List (List Int × V)} (I : Nat → List V → Hp → Prop) (J : Join G P H) (h : P d = some (.dT (tK kvs))) (htd : ∀ (H' : Hp) (Q : VK), Q (.ref d) H' → td σ H' Q) (hl : kvs.length ≤ 1000000)
    (h0 : I 0 [] G) (hm : ∀ i us G1 G2, Ex G1 G2 → I i us G1 → I i us G2) (hz : ∀ i us G2, I i us G2 → us.length ≤ i)
    (hs : ∀ (od : Obj) (i : Nat) (k : List Int) (v : V) (b : Addr) (us : List V) (G' P' H' : Hp) (R : VK) (R0 : Hp → Prop), kvs[i]? = some (k, v) → H' b = some (.tup (k.map V.int)) → Ex G G' → (∀ c o, c ≠ d → P c = some o → P' c = some o) → P' d = some (.frz od (.dT (tK kvs))) → Join G' P' H' → I i us G' →
      (∀ y G2 H2, Ex G' G2 → Join G2 P' H2 → I (i + 1) (us ++ [y]) G2 → R y H2) → (∀ G2 H2, Ex G' G2 → Join G2 P' H2 → I (i + 1) us G2 → R0 H2) →
      g (.ref b) (wipe σ ts) H' fun σ2 H2 => wipe σ2 ts = wipe σ ts ∧ tt σ2 H2 fun b H3 => if b = true then te σ2 H3 R else R0 H3)
    (hq : ∀ p us G' H', H p = none → Ex G G' → Join G' P H' → G' p = some (.lst us) → I kvs.length us G' → Q (.ref p) H') : tLockE (tLc (iKeys td) g tt te ts) σ H Q := by
  refine ⟨d, .dT (tK kvs), J.p _ _ h, trivial, fun od => htd _ _ ⟨d, od, rfl, .inr ⟨tK kvs, upd_same, fun L hL => ?_⟩⟩⟩
  have nL : L ≠ d := fun e => by rw [e, upd_same] at hL; cases hL
  have hL0 : H L = none := by rw [upd_ne nL] at hL; exact hL
  have gL : G L = none := J.ng hL0
  have pL : P L = none := J.np hL0
  have j1 : Join G (upd P d (.frz od (.dT (tK kvs)))) (upd H d (.frz od (.dT (tK kvs)))) := J.setP (J.gn h)
  refine lc_keysT (fun i H' => ∃ G' P' us, Ex G G' ∧ (∀ c o, c ≠ d → P c = some o → P' c = some o) ∧ P' d = some (.frz od (.dT (tK kvs))) ∧ P' L = some (.lst us) ∧ I i us G' ∧ Join G' P' H') ⟨G, upd (upd P d (.frz od (.dT (tK kvs)))) L (.lst []), [], Ex.refl _, fun c o nc hc => ?_, Eq.trans (upd_ne (Ne.symm nL)) upd_same, upd_same, h0, j1.setP gL⟩ (fun i H' _ ⟨G', P', us, _, _, hd, _, _, j'⟩ => j'.p _ _ hd) (fun i k x b H' hk hb ⟨G', P', us, e', hP, hd, hLs, hI, j'⟩ => ?_) (fun H' ⟨G', P', us, e', hP, hd, hLs, hI, j'⟩ => ?_)
  · rw [upd_ne (ne_of_none hc pL), upd_ne nc]; exact hc
  · obtain ⟨n, hn, rfl⟩ := tK_at hk
    have hul := hz _ _ _ hI
    have hil := (List.getElem?_eq_some_iff.mp hn).1
    refine hs od i n x b us G' P' H' _ _ hn (by rw [hb, tup_kV]) e' hP hd j' hI (fun y G2 H2 e2 j2 hI2 => ⟨us, j2.p _ _ hLs, Nat.lt_of_le_of_lt (show us.length ≤ 1000000 by omega) (by decide), G2, upd P' L (.lst (us ++ [y])), us ++ [y], e'.trans e2, fun c o nc hc => ?_, Eq.trans (upd_ne (Ne.symm nL)) hd, upd_same, hI2, j2.setP (j2.gn hLs)⟩) (fun G2 H2 e2 j2 hI2 => ⟨G2, P', us, e'.trans e2, hP, hd, hLs, hI2, j2⟩)
    rw [upd_ne (ne_of_none hc pL)]; exact hP c o nc hc
  · rw [tK_len] at hI
    have j3 : Join G' (upd P' d (.dT (tK kvs))) (upd H' d (.dT (tK kvs))) := j'.setP (j'.gn hd)
    obtain ⟨G2, j4, e4, k4⟩ := j3.back (P := P) fun c o hc => by
      by_cases z : c = d
      · subst z; rw [upd_same, ← h]; exact hc
      · rw [upd_ne z]; exact hP c o z hc
    exact ⟨j'.p _ _ hd, hq L us G2 _ hL0 (e'.trans e4) j4 (k4 L _ (Eq.trans (upd_ne nL) hLs) pL) (hm _ _ _ _ e4 hI)⟩
/-- list(d) -/
def rListT : List V → Hp → VK → Prop := fun xs H Q => ∃ d kvs, xs = [V.ref d] ∧ Rd H d (.dT kvs) ∧ ∀ p bs, H p = none → IsKeys H kvs bs → Q (.ref p) (upd H p (.lst (bs.map V.ref)))
theorem cr_listT {X : Cx} (hc : X.calm = true) : CallR X (.type "list") rListT := call_list_dT hc
theorem listT_go {kvs : List (List Int × V)} (J : Join G P H) (n : NT P) (h : Rd H d (.dT (tK kvs)))
    (q : ∀ ys p G' H', H p = none → Ex G G' → Join G' P H' → G' p = some (.lst ys) → TupL iV G' ys (kvs.map (·.1)) → Q (.ref p) H') : rListT [.ref d] H Q := by
  refine ⟨d, _, rfl, h, fun p bs hp hb => ?_⟩
  obtain ⟨l1, hz⟩ := isKeys_zip hb (nss := kvs.map (·.1)) (by unfold tK; rw [List.map_map, List.map_map]; rfl)
  have ht : TupL iV G (bs.map V.ref) (kvs.map (·.1)) := by
    have := tupL_zip (f := iV) (G := G) (zs := (bs.map V.ref).zip (kvs.map (·.1))) fun z hz1 => by
      obtain ⟨t, e1, e2⟩ := hz z hz1
      exact ⟨t, e1, n.gt J e2⟩
    rw [List.map_fst_zip (by rw [List.length_map, l1]; exact Nat.le_refl _), List.map_snd_zip (by rw [List.length_map V.ref, l1]; exact Nat.le_refl _)] at this
    exact this
  have e : Ex G (upd G p (.lst (bs.map V.ref))) := Ex.new (J.ng hp)
  exact q _ p _ _ hp e (J.newG hp) upd_same (ht.mono e)
end
end Lv

/-! items and slices of a value that is a list or a tuple; ranges that may be below 0 -/
namespace Lv
open PySem PySem.Spec PyProof.Rows L2
section
variable {X : Cx}
def rIxS (K : PySem.W.Frag) : R2 := fun x y H Q => rIxL K x y H Q ∨ rIxT K x y H Q
theorem ix_seq : IxR X (rIxS X.K) := fun value slice pins s σ H x y v u Q I rx ry h hs => h.elim (fun h => ix_list value slice pins s σ H x y v u Q I rx ry h hs) (fun h => ix_tup value slice pins s σ H x y v u Q I rx ry h hs)
theorem call_listK {K : PySem.W.Frag} (h : X.K = K) : CallR X (.type "list") (fun xs H Q => ∃ p ys, xs = [V.ref p] ∧ (SqL K H p ys ∨ SqT K H p ys) ∧ ∀ l, H l = none → Q (.ref l) (upd H l (.lst ys))) := h ▸ call_list_of
theorem ix_seqK {K : PySem.W.Frag} (h : X.K = K) : IxR X (rIxS K) := h ▸ ix_seq
def rSlS (K : PySem.W.Frag) : V → Option Int → Option Int → Hp → VK → Prop := fun x lo hi H Q => rSlL K x lo hi H Q ∨ rSlA K x lo hi H Q
theorem sl_seq : SlR X (rSlS X.K) := SlR.or sl_list sl_tupA
theorem sl_seqK {K : PySem.W.Frag} (h : X.K = K) : SlR X (rSlS K) := h ▸ sl_seq
end
section
variable {K : PySem.W.Frag} {σ : L2.St} {G P H : Hp} {Q : VK} {nx bk ct : L2.St → Hp → Prop} {rt : VK} {tt : TT} {te : TE} {g : TG} {tb : TS} {ts : List Nat} {a : Addr} {xs : List V}
theorem ixS_go {k : Int} {v : V} (J : Join G P H) (h : Sq G a xs) (l : atI xs k = some v) (q : Q v H) : rIxS K (.ref a) (.int k) H Q :=
  h.elim (fun h => .inl (w_ixL (J.g _ _ h) l q)) (fun h => .inr (w_ixT (J.g _ _ h) l q))
theorem slS_go {lo hi : Option Int} (J : Join G P H) (h : Sq G a xs) (q : ∀ t G' H', Ex G G' → Join G' P H' → Sq G' t (cutV xs lo hi) → Q (.ref t) H') : rSlS K (.ref a) lo hi H Q := by
  rcases h with h | h
  · exact .inl ⟨a, xs, rfl, sqL (J.g _ _ h), fun p hp => q p _ _ (Ex.new (J.ng hp)) (J.newG hp) (.inl upd_same)⟩
  · refine .inr ⟨a, xs, rfl, sqT (J.g _ _ h), fun hw => ?_, fun _ p hp => q p _ _ (Ex.new (J.ng hp)) (J.newG hp) (.inr upd_same)⟩
    refine q a G H (Ex.refl _) J (.inr ?_)
    unfold cutV
    rw [hw.1, hw.2, List.drop_zero, Nat.sub_zero, List.take_length]; exact h
theorem cut_mid {i j : Nat} (h : i ≤ j) (hj : j ≤ xs.length) : cutV xs (some (i : Int)) (some (j : Int)) = (xs.drop i).take (j - i) := by
  unfold cutV
  rw [HT.sIx_nat, HT.sIx_nat, Nat.min_eq_left (show i ≤ xs.length by omega), Nat.min_eq_left hj]
/-- ranges of any bound -/
theorem aLcR.goN {n : Nat} (Pp : Hp → Prop) (I : Nat → List V → Hp → Prop) (J : Join G P H) (hP : Pp P) {m : Int} (hn : m.toNat = n) (hm : -1000000 ≤ m ∧ m ≤ 1000000)
    (h0 : ∀ G', Ex G G' → I 0 [] G') (hI : ∀ i ws G2 D us ts, G2 D = some (.lst us) → I i ws G2 → I i ws (upd G2 D (.lst ts))) (hz : ∀ i ws G2, I i ws G2 → ws.length ≤ 1000000)
    (hs : ∀ (i : Nat) (ws : List V) (G' P' H' : Hp) (R : VK) (R0 : Hp → Prop), i < n → Ex G G' → I i ws G' → Pp P' → Join G' P' H' →
      (∀ v G2 P2 H2, Ex G' G2 → Pp P2 → Join G2 P2 H2 → I (i + 1) (ws ++ [v]) G2 → R v H2) → (∀ G2 P2 H2, Ex G' G2 → Pp P2 → Join G2 P2 H2 → I (i + 1) ws G2 → R0 H2) →
      g (.int (i : Int)) (wipe σ ts) H' fun σ2 H2 => wipe σ2 ts = wipe σ ts ∧ tt σ2 H2 fun b H3 => if b = true then te σ2 H3 R else R0 H3)
    (hq : ∀ p ws G' P' H', H p = none → Ex G G' → G' p = some (.lst ws) → I n ws G' → Pp P' → Join G' P' H' → Q (.ref p) H') : aLcR g tt te ts σ [.int m] H Q := by
  obtain ⟨j, e, _, _, q⟩ := (aLcR.go (m := (n : Int)) Pp I J hP rfl (by omega) h0 hI hz hs hq : aLcR g tt te ts σ [.int (n : Int)] H Q)
  injection e with e _
  injection e with e
  refine ⟨m, rfl, by omega, by omega, ?_⟩
  rw [← e, Int.toNat_natCast] at q
  rw [hn]; exact q
theorem aForR.goN {m : Int} {n : Nat} (hn : m.toNat = n) (hm : -1000000 ≤ m ∧ m ≤ 1000000) (I : Nat → Hp → Hp → L2.St → Prop) (J : Join G P H) (h0 : I 0 G P σ)
    (hs : ∀ (i : Nat) (G' P' H' : Hp) (σ' : L2.St), i < n → Join G' P' H' → I i G' P' σ' → g (.int (i : Int)) σ' H' fun σ2 H2 => tb ⟨fun σ3 H3 => ∃ G3 P3, Join G3 P3 H3 ∧ I (i + 1) G3 P3 σ3, rt, nx, fun σ3 H3 => ∃ G3 P3, Join G3 P3 H3 ∧ I (i + 1) G3 P3 σ3⟩ σ2 H2)
    (hq : ∀ (G' P' H' : Hp) (σ' : L2.St), Join G' P' H' → I n G' P' σ' → nx σ' H') : aForR g tb ⟨nx, rt, bk, ct⟩ σ [.int m] H := by
  obtain ⟨j, e, _, _, q⟩ := (aForR.go (m := (n : Int)) (bk := bk) (ct := ct) rfl (by omega) I J h0 hs hq : aForR g tb ⟨nx, rt, bk, ct⟩ σ [.int (n : Int)] H)
  injection e with e _
  injection e with e
  refine ⟨m, rfl, by omega, by omega, ?_⟩
  rw [← e, Int.toNat_natCast] at q
  rw [hn]; exact q
end
end Lv

/-! comprehensions of dicts whose keys may be tuples, of one clause and of two -/
namespace Lv
open PySem PySem.Spec PyProof.Rows L2
/-- a new dict's state -/
def Emp (o : HO) : Prop := o = .dK [] ∨ o = .dT []
theorem emp_ok {P : Program} {w : World} {H : Hp} {o : HO} (e : Emp o) (h : Heap) (hb : sysModules < h.objs.size) : ObjOk P w H (h.push { cls := .type "dict", data := .dict #[] }) h.objs.size o := by
  rcases e with rfl | rfl
  · exact dk_empty h hb
  · exact dt_empty h hb
/-- one pair more, keys of either kind -/
theorem put_any {X : Cx} {pins : List (Addr × Obj)} {σ : L2.St} {H H' : Hp} {s : Shared} {E : Value → Shared → Prop} {D : Addr} {y v : V} {u r : Value} {Q : Unit → Shared → Prop} (hu : X.A.units + 1 < cLine) (I : L2.Inv X pins σ H s) (g : DPut H D y v H')
    (ry : L2.RelV y u) (rv : L2.RelV v r) (h : ∀ s', L2.Inv X pins σ H' s' → Q () s') : wpAny (model X.prog X.w) X.A (dictSet D u r) Q E s := by
  rcases g with ⟨kvs, k, e, ey, l, eH⟩ | ⟨kvs, k, b, e, ey, eb, l, eH⟩
  · subst ey eH
    exact d_dictSet I e l ry rv h
  · subst ey eH
    cases (show u = Value.ref b from ry)
    obtain ⟨z, hd, xs, rel, dd⟩ := dt_of I.hok e
    have hz : xs.length ≤ sizeLine := by rw [← Paired.length rel]; exact z
    have hl : (putK kvs k v).length ≤ sizeLine := by have := length_putK kvs k v; omega
    refine wpAny_dictSet_heap (knd := tupleKind (mixKind X.prog X.w)) (hsz := hz) (show X.A.units < cLine by omega) (key_of I.hok eb) dd fun h' dd' hs => h _ ?_
    obtain ⟨o, es, ep, hq, h2, h3, h4, _, h5⟩ := dd'
    refine d_write I (by rw [e]; exact True.intro) hs ⟨o, hq⟩ ⟨hl, hd, _, (rel.put k eb rv).keeps fun c ys ec => ?_, o, es, ep, hq, h2, h3, h4, h5⟩
    rw [upd_ne (ne_of ec e (fun z => nomatch z))]
    exact ec
section
variable {X : Cx}
/-- where a block's loop stands -/
structure Blk (X : Cx) (own : List (Str × Nat)) (scope : Scope) (σ : L2.St) (tg : Expr) (J : It) (fp : List Addr) (it : Addr) (tn : Nat → Heap → Prop) (s3 : Shared) (H3 : Hp) (ce : Env) (C : Addr) (cl : List (Str × Addr)) (s4 : Shared) : Prop where
  ceq : ce = compEnvC scope cl C X.env
  T : L2.Turn X.prog X.w X.K tg J fp it tn
  i4 : L2.Inv (X.blk s3 H3 scope ce fp) [] (wipe σ (own.map (·.2))) H3 s4
  st : tn 0 s4.heap
  nf : ∀ b ∈ fp, H3 b = none
  stat : ∀ {σ' : L2.St} {H' : Hp} {s' : Shared}, L2.Inv (X.blk s3 H3 scope ce fp) [] σ' H' s' → (∀ b ∈ fp, H' b = none) → ∀ b ∈ fp, FpOk (X.blk s3 H3 scope ce fp) [] H' b
/-- the frame of a dict's comprehension: what is left is the loop -/
theorem dc_frame {pins : List (Addr × Obj)} {s : Shared} {σ : L2.St} {H : Hp} {Q : VK} {kx vx tg iter : Expr} {ifs : List Expr} {rest : List Comprehension} {scope : Scope} {own : List (Str × Nat)} {pos pos' : Pos} {wi : TI} {o0 : HO} {use : Option (Value → Sem Unit)} {Qf : Value → Shared → Prop} {R : It → Addr → Hp → Prop}
    (hc : X.calm = true) (hN : X.N.Nodup) (em : Emp o0) (I : L2.Inv X pins σ H s) (hi : PI X tg iter wi) (ok : BlkOk X.N X.env.scope scope own) (hs : ∀ x, foldedSetIterable iter X.env x = pure x)
    (h : wi σ H fun J H1 => ∀ D, H1 D = none → R J D (upd H1 D o0))
    (hloop : ∀ (J : It) (D : Addr) (fp : List Addr) (it : Addr) (tn : Nat → Heap → Prop) (s3 : Shared) (H3 : Hp) (ce : Env) (C : Addr) (cl : List (Str × Addr)) (s4 : Shared), R J D H3 → Blk X own scope σ tg J fp it tn s3 H3 ce C cl s4 →
      (∀ H5 s6, L2.Inv (X.blk s3 H3 scope ce fp) [] (wipe σ (own.map (·.2))) H5 s6 → Q (.ref D) H5 → compPost (model X.prog X.w) X.A X.xe use Qf (.ref D) C (.ok .next) s6) →
      codeAny (model X.prog X.w) X.A (.compLoop (.DictComp kx vx (⟨tg, iter, ifs, 0⟩ :: rest) scope pos) 0 (.ref it) (.ref D) ce) (compPost (model X.prog X.w) X.A X.xe use Qf (.ref D) C) s4)
    (hRR : ∀ D C s' m H', L2.Inv X pins σ H' s' → Q (.ref D) H' → s'.heap.Ns C m → FpOk X pins H' C → compPost (model X.prog X.w) X.A X.xe use Qf (.ref D) C (.ok .next) s') :
    wpAny (model X.prog X.w) X.A (comprehension (.DictComp kx vx (⟨tg, iter, ifs, 0⟩ :: rest) scope pos) scope X.env pos' newDict false (eval iter X.env) use) Qf X.xe s := by
  have hfree : ∀ y ∈ scope.names, y.2 = .free → ∃ c, X.env.cells.lookup y.1 = some c := fun y hy e => (ok.free y hy e).elim (fun k => I.ok.has _ (.inl k)) (fun k => I.ok.has _ (.inr k))
  refine wpAny_comprehension_free (use := use) rfl hs (closure_ok hfree) ok.kind (fun y hy e => by rw [ok.uniq y hy, e]) (thn (hi.run pins s σ H _ I h) fun xv s1 hx => thn hx fun itv s2 ⟨it, fp, tn, J, H2, e, I2, T, st2, f2, q⟩ => ?_)
  subst e
  refine wpAny_newObj_type (newEnv_comp ?_)
  generalize hD : s2.heap.objs.size = D
  have q := q D (I2.hok.fresh (Nat.le_of_eq hD))
  generalize hs3 : ({ s2 with heap := s2.heap.push { cls := .type "dict", data := .dict #[] } } : Shared) = s3
  have h3 : s3.heap = s2.heap.push { cls := .type "dict", data := .dict #[] } := by rw [← hs3]
  have I3 : L2.Inv X pins σ (upd H2 D o0) s3 := by
    rw [← hs3]
    refine I2.laid (t' := s2.toks) (fun b o e => Heap.get?_push_of_some _ e) (Nat.le_of_eq hD) ?_
    rw [← hD]
    exact emp_ok em s2.heap I2.big
  have f3 : ∀ b ∈ fp, FpOk X pins (upd H2 D o0) b ∧ b < s3.heap.objs.size := fun b hb => by
    obtain ⟨ob, eb, _⟩ := T.obj _ _ st2 b hb
    have hlt := Heap.lt_size eb
    exact ⟨⟨by rw [upd_ne (by rw [← hD]; exact Nat.ne_of_lt hlt)]; exact (f2 b hb).1, (f2 b hb).2⟩, by rw [h3, Heap.size_push]; exact Nat.lt_succ_of_lt hlt⟩
  have st3 : tn 0 s3.heap := T.keep _ _ _ st2 fun b _ o e => by rw [h3]; exact Heap.get?_push_of_some _ e
  have I4 := block_start I3 ok hN f3
  show codeAny _ _ (.compStart (.DictComp kx vx (⟨tg, iter, ifs, 0⟩ :: rest) scope pos) 0 (.ref it) (.ref D) (compEnvC scope (cellsFrom (s3.heap.objs.size + 1) scope.names (cloFrom X.env.cells scope.names [])) s3.heap.objs.size X.env)) (compPost (model X.prog X.w) X.A X.xe use Qf (.ref D) s3.heap.objs.size) { s3 with heap := pushCells (s3.heap.push { cls := .type "dict", data := .dict #[] }) scope.names }
  generalize hcl : cellsFrom (s3.heap.objs.size + 1) scope.names (cloFrom X.env.cells scope.names []) = cl at I4 ⊢
  generalize hce : compEnvC scope cl s3.heap.objs.size X.env = ce at I4 ⊢
  have cL : ce.locals = s3.heap.objs.size := by subst hce; rfl
  generalize hs4 : ({ s3 with heap := pushCells (s3.heap.push { cls := .type "dict", data := .dict #[] }) scope.names } : Shared) = s4 at I4 ⊢
  have st4 : tn 0 s4.heap := T.keep _ _ _ st3 fun b _ o e => by rw [← hs4]; exact pushCells_keeps _ _ _ _ (Heap.get?_push_of_some _ e)
  have loop := hloop J D fp it tn s3 (upd H2 D o0) ce s3.heap.objs.size cl s4 q ⟨hce.symm, T, I4, st4, fun b hb => (f3 b hb).1.1, fun {σ' H' s'} I' hn b hb =>
    ⟨hn b hb, (I'.ok.exf b hb).1, I'.ok.exfs b hb, .inl hb, fun x c e => (I'.ok.exf b hb).2 x c e, fun p hp => absurd (show p ∈ ([] : List (Addr × Obj)) ++ [] from hp) (by simp)⟩⟩ fun H5 s6 I6 qq => by
      have I7 : L2.Inv X pins σ H5 s6 := I3.call' (ch := fp) I6.os I6.base I6.hok I6.bare fun b hb => ⟨(f3 b hb).1.2.2.2.1, (f3 b hb).1.2.1, (f3 b hb).1.2.2.2.2.1, (f3 b hb).1.2.2.2.2.2⟩
      have nC : H5 s3.heap.objs.size = none := by
        have z : H5 ce.locals = none := I6.free
        rw [cL] at z; exact z
      obtain ⟨m, hn, _⟩ := I6.loc
      have hn : s6.heap.Ns ce.locals m := hn
      rw [cL] at hn
      exact hRR D s3.heap.objs.size s6 m H5 I7 qq hn (I3.fpOk (Nat.le_refl _) nC)
  exact codeAny_compStart_dict loop (T.self X.A 0 _ _ _ st4 loop)
/-- {k: v for target in iter if ..}: D the new dict, o0 its first state -/
def tDcG (o0 : HO) (wi : TI) (g : TG) (tt : TT) (tk tv : TE) (vs : List Nat) : TE := fun σ H Q => wi σ H fun J H1 => ∀ D, H1 D = none → ∃ W : Nat → Nat → Hp → Prop, (∃ m, W 0 m (upd H1 D o0)) ∧ ∀ i m H, W i m H →
  (J.stop i H ∧ Q (.ref D) H) ∨ (J.go i H ∧ ∃ Nx : Hp → Prop, (∀ H', Nx H' → ∃ m', m' < m ∧ W (i + 1) m' H') ∧ ∀ x H', J.yld i H x H' → g x (wipe σ vs) H' fun σ2 H2 => wipe σ2 vs = wipe σ vs ∧ tt σ2 H2 fun b H3 =>
    if b = true then tk σ2 H3 fun y H4 => tv σ2 H4 fun z H5 => ∃ H6, DPut H5 D y z H6 ∧ Nx H6 else Nx H3)
theorem pe_dcG {kx vx tg iter : Expr} {ifs : List Expr} {scope : Scope} {own : List (Str × Nat)} {pos : Pos} {wi : TI} {g : TG} {tt : TT} {tk tv : TE} {o0 : HO} (em : Emp o0) (hu : X.A.units + 1 < cLine) (hc : X.calm = true) (hN : X.N.Nodup) (hi : PI X tg iter wi) (ok : BlkOk X.N X.env.scope scope own)
    (hg : ∀ (s : Shared) (H : Hp) (C : Addr) (cl : List (Str × Addr)) (fp : List Addr), PG (X.blk s H scope (compEnvC scope cl C X.env) fp) tg g) (ht : ∀ (s : Shared) (H : Hp) (C : Addr) (cl : List (Str × Addr)) (fp : List Addr), PTs (X.blk s H scope (compEnvC scope cl C X.env) fp) ifs tt)
    (hk : ∀ (s : Shared) (H : Hp) (C : Addr) (cl : List (Str × Addr)) (fp : List Addr), PE (X.blk s H scope (compEnvC scope cl C X.env) fp) kx tk)
    (he : ∀ (s : Shared) (H : Hp) (C : Addr) (cl : List (Str × Addr)) (fp : List Addr), PE (X.blk s H scope (compEnvC scope cl C X.env) fp) vx tv) (hs : ∀ x, foldedSetIterable iter X.env x = pure x := by intro _; rfl) :
    PE X (.DictComp kx vx [⟨tg, iter, ifs, 0⟩] scope pos) (tDcG o0 wi g tt tk tv (own.map (·.2))) := by
  refine ⟨fun pins s σ H Q I h => ?_⟩
  rw [arm_eval_DictComp]
  refine dc_frame (Q := Q) (R := fun J D H3 => ∃ W : Nat → Nat → Hp → Prop, (∃ m, W 0 m H3) ∧ ∀ i m H, W i m H →
    (J.stop i H ∧ Q (.ref D) H) ∨ (J.go i H ∧ ∃ Nx : Hp → Prop, (∀ H', Nx H' → ∃ m', m' < m ∧ W (i + 1) m' H') ∧ ∀ x H', J.yld i H x H' → g x (wipe σ (own.map fun p : Str × Nat => p.2)) H' fun σ2 H2 => wipe σ2 (own.map fun p : Str × Nat => p.2) = wipe σ (own.map fun p : Str × Nat => p.2) ∧ tt σ2 H2 fun b H3 =>
      if b = true then tk σ2 H3 fun y H4 => tv σ2 H4 fun z H5 => ∃ H6, DPut H5 D y z H6 ∧ Nx H6 else Nx H3)) hc hN em I hi ok hs h ?_ fun D C s' m H' I' q hn f => ⟨m, hn, fun h'' sb => ?_⟩
  · rintro J D fp it tn s3 H3 ce C cl s4 ⟨W, ⟨m0, w0⟩, turn⟩ ⟨rfl, T, I4, st4, nfp, stat⟩ hexit
    refine compLoop_anyD (fun n s' => ∃ i H', L2.Inv (X.blk s3 H3 scope (compEnvC scope cl C X.env) fp) [] (wipe σ (own.map (·.2))) H' s' ∧ tn i s'.heap ∧ (∀ b ∈ fp, H' b = none) ∧ W i n H') ?_ m0 ⟨0, H3, I4, st4, nfp, w0⟩
    rintro n s5 ⟨i, H5, I5, st5, n5, w5⟩
    rcases turn i n H5 w5 with ⟨stop, qq⟩ | ⟨go, Nx, hNx, step⟩
    · refine thnF (T.done (X.blk s3 H3 scope (compEnvC scope cl C X.env) fp) rfl rfl rfl hc i [] s5 _ H5 (fun _ _ => False) I5 (stat I5 n5) st5 stop) fun r s6 ⟨hr, I6⟩ => ?_
      subst hr
      exact hexit H5 s6 I6 qq
    · refine thnF (T.item (X.blk s3 H3 scope (compEnvC scope cl C X.env) fp) rfl rfl rfl hc i [] s5 _ H5 (fun _ _ => False) I5 (stat I5 n5) st5 go) fun r s6 ⟨u, hr, h6⟩ => ?_
      subst hr
      refine thnF h6 fun _ s7 ⟨x, H7, I7, r7, y7, st7, n7⟩ => ?_
      have I7' := I7.pinned (stat I7 n7) (T.obj _ _ st7)
      refine thnF ((hg _ _ _ _ _).run _ s7 _ H7 x u _ I7' r7 (step x H7 y7)) fun _ s8 ⟨σ8, H8, I8, hw8, q8⟩ => ?_
      refine thnF ((ht _ _ _ _ _).run _ s8 σ8 H8 _ I8 q8) fun b s9 ⟨H9, I9, q9⟩ => ?_
      have fin : ∀ {s' : Shared} {H' : Hp}, L2.Inv (X.blk s3 H3 scope (compEnvC scope cl C X.env) fp) ([] ++ pinsAt fp s7.heap) σ8 H' s' → Nx H' → ∃ m, m < n ∧ ∃ i H', L2.Inv (X.blk s3 H3 scope (compEnvC scope cl C X.env) fp) [] (wipe σ (own.map (·.2))) H' s' ∧ tn i s'.heap ∧ (∀ b ∈ fp, H' b = none) ∧ W i m H' := fun {s' H'} I' nx => by
        obtain ⟨m', hm, w'⟩ := hNx H' nx
        have pin' : ∀ b ∈ fp, ∀ o, s7.heap.get? b = some o → s'.heap.get? b = some o ∧ H' b = none := fun b hb o e =>
          let z := I'.pin (b, o) (List.mem_append_right _ (List.mem_append_right _ (mem_pinsAt hb e)))
          ⟨z.1, z.2.1⟩
        refine ⟨m', hm, i + 1, H', (I'.unpinned (pins := [])).weak (by rw [← hw8, wipe_length]) (fun j v e => by rw [← hw8] at e; exact (wipe_some e).1), T.keep _ _ _ st7 fun b hb o e => (pin' b hb o e).1, fun b hb => ?_, w'⟩
        obtain ⟨o, e, _⟩ := T.obj _ _ st7 b hb
        exact (pin' b hb o e).2
      cases b with
      | false =>
        simp only [Bool.false_eq_true, if_false] at q9 ⊢
        exact fin I9 q9
      | true =>
        simp only [if_true] at q9 ⊢
        refine thnF ((hk _ _ _ _ _).run _ s9 σ8 H9 _ I9 q9) fun z s10 ⟨yk, H10, I10, r10, q10⟩ => ?_
        refine thnF ((he _ _ _ _ _).run _ s10 σ8 H10 _ I10 q10) fun z2 s11 ⟨yv, H11, I11, r11, H12, dp, nx⟩ => ?_
        exact put_any (X := X.blk s3 H3 scope (compEnvC scope cl C X.env) fp) hu I11 dp r10 r11 fun s12 I12 => fin I12 nx
  · obtain ⟨f0, f1, f2, f3, f4, f5⟩ := f
    exact ⟨.ref D, H', I'.turned (t' := s'.toks) (fun b o hb e => (sb.2 b hb).trans e) f0 f1 f3 f4 f5, rfl, q⟩
end
/-! two clauses -/
section
variable {prog : Program} {w : World} {A : Around} {R : Result → Shared → Prop} {s : Shared} {kx vx t0 i0 t1 i1 : Expr} {f0 f1 : List Expr} {scope : Scope} {pos : Pos} {it : Value} {D : Addr} {env : Env}
/-- both clauses, as a term -/
abbrev dc2 (kx vx t0 i0 t1 i1 : Expr) (f0 f1 : List Expr) (scope : Scope) (pos : Pos) : Expr := .DictComp kx vx [⟨t0, i0, f0, 0⟩, ⟨t1, i1, f1, 0⟩] scope pos
theorem turnD_out : compTurn (dc2 kx vx t0 i0 t1 i1 f0 f1 scope pos) 0 it (.ref D) env = (do
      standAt i0.pos
      match ← pyNext it with
      | none => pure (.done .next)
      | some v =>
        letOwnedTupleGo t0 it v
        assign t0 env v
        let mut ok := true
        for c in f0 do
          if ok then ok ← isTrue c env (eval c env)
        if ok then
          let x ← eval i1 env
          standAt i1.pos
          let x ← foldedSetIterable i1 env x
          let _ ← runOwn (.compStart (dc2 kx vx t0 i0 t1 i1 f0 f1 scope pos) 1 (← holding [x] (pyIter x)) (.ref D) env) env
        again (.compLoop (dc2 kx vx t0 i0 t1 i1 f0 f1 scope pos) 0 it (.ref D) env)) := by rfl
theorem turnD_in : compTurn (dc2 kx vx t0 i0 t1 i1 f0 f1 scope pos) 1 it (.ref D) env = (do
      standAt i1.pos
      match ← pyNext it with
      | none => pure (.done .next)
      | some v =>
        letOwnedTupleGo t1 it v
        assign t1 env v
        let mut ok := true
        for c in f1 do
          if ok then ok ← isTrue c env (eval c env)
        if ok then
          (do
            let kv ← eval kx env
            let vv ← holding [kv] (eval vx env)
            standAt { kx.pos with endLine := vx.pos.endLine, endCol := vx.pos.endCol }
            holding [kv, vv] (dictSet D kv vv))
        again (.compLoop (dc2 kx vx t0 i0 t1 i1 f0 f1 scope pos) 1 it (.ref D) env)) := by rfl
/-- what stands where an error is noted -/
abbrev Nt (prog : Program) (w : World) (A : Around) (env : Env) (R : Result → Shared → Prop) : Value → Shared → Prop := notedBy (model prog w) A env fun e s' => R (.error e) s'
/-- a turn's head: the item, its store, the tests -/
def Head (prog : Program) (w : World) (A : Around) (env : Env) (R : Result → Shared → Prop) (tg : Expr) (fs : List Expr) (it : Value) (B : Shared → Prop) (Z : Shared → Prop) (s : Shared) : Prop :=
  wpAny (model prog w) A (pyNext it) (fun r s₁ => match r with
    | none => R (.ok .next) s₁
    | some v => wpAny (model prog w) A (letOwnedTupleGo tg it v) (fun _ s₁' => wpAny (model prog w) A (assign tg env v) (fun _ s₂ =>
        wpAny (model prog w) A (forIn fs true fun c r => if r = true then do let ok ← isTrue c env (eval c env); pure (ForInStep.yield ok) else pure (ForInStep.yield r)) (fun ok s₃ => if ok = true then B s₃ else Z s₃) (Nt prog w A env R) s₂) (Nt prog w A env R) s₁') (Nt prog w A env R) s₁) (Nt prog w A env R) s
theorem loopD_out (hs : ∀ x, foldedSetIterable i1 env x = pure x) (I : Nat → Shared → Prop)
    (turn : ∀ n s, I n s → Head prog w A env R t0 f0 it (fun s₃ => wpAny (model prog w) A (eval i1 env) (fun x s₄ => wpAny (model prog w) A (pyIter x) (fun it1 s₅ =>
      codeAny (model prog w) A (.compStart (dc2 kx vx t0 i0 t1 i1 f0 f1 scope pos) 1 it1 (.ref D) env) (fun r s' => match r with
        | .ok _ => ∃ m, m < n ∧ I m s'
        | .error _ => False) s₅) (Nt prog w A env R) s₄) (Nt prog w A env R) s₃) (fun s₃ => ∃ m, m < n ∧ I m s₃) s)
    (n : Nat) (h : I n s) : codeAny (model prog w) A (.compLoop (dc2 kx vx t0 i0 t1 i1 f0 f1 scope pos) 0 it (.ref D) env) R s := by
  refine codeAny_loop rfl I (fun n s hI => ?_) n h
  show wpAny _ A ((compTurn (dc2 kx vx t0 i0 t1 i1 f0 f1 scope pos) 0 it (.ref D) env).onRaise (fun x => do noteFrame x env; theTreesLotGoes x)) _ _ s
  refine wpAny_noted ?_
  rw [turnD_out]
  have tn := turn n s hI
  unfold Head at tn
  refine wpAny_bind (wpAny_standAt (wpAny_bind (wpAny_mono tn (fun r s₁ h₁ => ?_) fun _ _ h' => h')))
  cases r with
  | none => exact wpAny_pure h₁
  | some v =>
    refine wpAny_bind (wpAny_mono h₁ (fun _ s₁' h₁' => wpAny_bind (wpAny_mono h₁' (fun _ s₂ h₂ => wpAny_bind (wpAny_mono h₂ (fun ok s₃ h₃ => ?_) fun _ _ h' => h')) fun _ _ h' => h')) fun _ _ h' => h')
    cases ok with
    | false => exact wpAny_pure ⟨rfl, h₃⟩
    | true =>
      refine wpAny_bind (wpAny_mono h₃ (fun x s₄ h₄ => ?_) fun _ _ h' => h')
      refine wpAny_bind (wpAny_standAt (wpAny_bind (wpAny_of_eq (hs x) (wpAny_bind (wpAny_holding (wpAny_mono h₄ (fun it1 s₅ h₅ => ?_) fun _ _ h' => h'))))))
      refine wpAny_bind (wpAny_runOwn ?_)
      rw [Around.mark_none]
      refine codeAny_mono h₅ fun r s' hr => ?_
      cases r with
      | ok f =>
        first
          | exact wpAny_pure ⟨rfl, hr⟩
          | exact wpAny_bind (wpAny_pure (wpAny_pure ⟨rfl, hr⟩))
      | error e => exact hr.elim
theorem loopD_in (I : Nat → Shared → Prop)
    (turn : ∀ n s, I n s → Head prog w A env R t1 f1 it (fun s₃ => wpAny (model prog w) A (eval kx env) (fun kv s₄ => wpAny (model prog w) A (eval vx env) (fun vv s₅ =>
      wpAny (model prog w) A (dictSet D kv vv) (fun _ s₆ => ∃ m, m < n ∧ I m s₆) (Nt prog w A env R) s₅) (Nt prog w A env R) s₄) (Nt prog w A env R) s₃) (fun s₃ => ∃ m, m < n ∧ I m s₃) s)
    (n : Nat) (h : I n s) : codeAny (model prog w) A (.compLoop (dc2 kx vx t0 i0 t1 i1 f0 f1 scope pos) 1 it (.ref D) env) R s := by
  refine codeAny_loop rfl I (fun n s hI => ?_) n h
  show wpAny _ A ((compTurn (dc2 kx vx t0 i0 t1 i1 f0 f1 scope pos) 1 it (.ref D) env).onRaise (fun x => do noteFrame x env; theTreesLotGoes x)) _ _ s
  refine wpAny_noted ?_
  rw [turnD_in]
  have tn := turn n s hI
  unfold Head at tn
  refine wpAny_bind (wpAny_standAt (wpAny_bind (wpAny_mono tn (fun r s₁ h₁ => ?_) fun _ _ h' => h')))
  cases r with
  | none => exact wpAny_pure h₁
  | some v =>
    refine wpAny_bind (wpAny_mono h₁ (fun _ s₁' h₁' => wpAny_bind (wpAny_mono h₁' (fun _ s₂ h₂ => wpAny_bind (wpAny_mono h₂ (fun ok s₃ h₃ => ?_) fun _ _ h' => h')) fun _ _ h' => h')) fun _ _ h' => h')
    cases ok with
    | false => exact wpAny_pure ⟨rfl, h₃⟩
    | true =>
      exact wpAny_bind (wpAny_bind (wpAny_mono h₃ (fun kv s₄ h₄ => wpAny_bind (wpAny_holding (wpAny_mono h₄ (fun vv s₅ h₅ => wpAny_bind (wpAny_standAt (wpAny_holding (wpAny_mono h₅ (fun _ s₆ h₆ => wpAny_pure ⟨rfl, h₆⟩) fun _ _ h' => h')))) fun _ _ h' => h'))) fun _ _ h' => h'))
/-- the second clause begins -/
theorem startD (h0 : codeAny (model prog w) A (.compLoop (dc2 kx vx t0 i0 t1 i1 f0 f1 scope pos) 1 it (.ref D) env) R s)
    (h : wpAny (model prog w) A (pyIter it) (fun it' s' => codeAny (model prog w) A (.compLoop (dc2 kx vx t0 i0 t1 i1 f0 f1 scope pos) 1 it' (.ref D) env) R s') (Nt prog w A env R) s) :
    codeAny (model prog w) A (.compStart (dc2 kx vx t0 i0 t1 i1 f0 f1 scope pos) 1 it (.ref D) env) R s := by
  refine codeAny_of_tree ?_
  show wpAny _ _ ((compStart (dc2 kx vx t0 i0 t1 i1 f0 f1 scope pos) 1 it (.ref D) env).onRaise (fun x => do noteFrame x env; standAt theWindowsPlace)) _ _ s
  refine wpAny_notedAt ?_
  unfold compStart
  show wpAny _ _ (ask >>= _) _ _ s
  refine wpAny_bind (wpAny_askSetting (wpAny_ite ?_))
  split
  · first
      | exact wpAny_bind (wpAny_pure (wpAny_pure (And.intro rfl h0)))
      | exact wpAny_pure (And.intro rfl h0)
  · first
      | exact wpAny_bind (wpAny_rule (wpAny_bind (wpAny_standAt (wpAny_bind (wpAny_mono h (fun it' s' h' => wpAny_pure (And.intro rfl h')) fun _ _ x => x)))))
      | (refine wpAny_bind (wpAny_rule ?_); show wpAny _ _ (standAt i1.pos >>= _) _ _ s; exact wpAny_bind (wpAny_standAt (wpAny_bind (wpAny_mono h (fun it' s' h' => wpAny_pure (And.intro rfl h')) fun _ _ x => x))))
end
section
variable {X : Cx}
/-- what the two clauses' loops show, D the new dict -/
def Two (J : It) (D : Addr) (H1 : Hp) (Qd : Hp → Prop) (g : TG) (tt : TT) (wi1 : TI) (g1 : TG) (tt1 : TT) (tk tv : TE) (vs vs1 : List Nat) (σ : L2.St) : Prop := ∃ W : Nat → Nat → Hp → Prop, (∃ m, W 0 m H1) ∧ ∀ i m H, W i m H →
  (J.stop i H ∧ Qd H) ∨ (J.go i H ∧ ∃ Nx : Hp → Prop, (∀ H', Nx H' → ∃ m', m' < m ∧ W (i + 1) m' H') ∧ ∀ x H', J.yld i H x H' → g x (wipe σ vs) H' fun σ2 H2 => wipe σ2 vs = wipe σ vs ∧ tt σ2 H2 fun b H3 =>
    if b = true then wi1 σ2 H3 fun J1 H4 => ∃ W1 : Nat → Nat → Hp → Prop, (∃ m, W1 0 m H4) ∧ ∀ j k H, W1 j k H →
      (J1.stop j H ∧ Nx H) ∨ (J1.go j H ∧ ∃ Nx1 : Hp → Prop, (∀ H', Nx1 H' → ∃ k', k' < k ∧ W1 (j + 1) k' H') ∧ ∀ x H', J1.yld j H x H' → g1 x (wipe σ2 vs1) H' fun σ3 H5 => wipe σ3 vs1 = wipe σ2 vs1 ∧ tt1 σ3 H5 fun b H6 =>
        if b = true then tk σ3 H6 fun y H7 => tv σ3 H7 fun z H8 => ∃ H9, DPut H8 D y z H9 ∧ Nx1 H9 else Nx1 H6)
    else Nx H3)
def tDc2G (o0 : HO) (wi : TI) (g : TG) (tt : TT) (wi1 : TI) (g1 : TG) (tt1 : TT) (tk tv : TE) (vs vs1 : List Nat) : TE := fun σ H Q => wi σ H fun J H1 => ∀ D, H1 D = none → Two J D (upd H1 D o0) (Q (.ref D)) g tt wi1 g1 tt1 tk tv vs vs1 σ
theorem pe_dc2G {kx vx tg iter tg1 iter1 : Expr} {ifs ifs1 : List Expr} {scope : Scope} {own : List (Str × Nat)} {vs1 : List Nat} {pos : Pos} {wi wi1 : TI} {g g1 : TG} {tt tt1 : TT} {tk tv : TE} {o0 : HO} (em : Emp o0) (hu : X.A.units + 1 < cLine) (hc : X.calm = true) (hN : X.N.Nodup) (hi : PI X tg iter wi) (ok : BlkOk X.N X.env.scope scope own) (hv : ∀ i ∈ vs1, i ∈ own.map (·.2))
    (hg : ∀ (s : Shared) (H : Hp) (C : Addr) (cl : List (Str × Addr)) (fp : List Addr), PG (X.blk s H scope (compEnvC scope cl C X.env) fp) tg g) (ht : ∀ (s : Shared) (H : Hp) (C : Addr) (cl : List (Str × Addr)) (fp : List Addr), PTs (X.blk s H scope (compEnvC scope cl C X.env) fp) ifs tt)
    (hi1 : ∀ (s : Shared) (H : Hp) (C : Addr) (cl : List (Str × Addr)) (fp : List Addr), PI (X.blk s H scope (compEnvC scope cl C X.env) fp) tg1 iter1 wi1)
    (hg1 : ∀ (s : Shared) (H : Hp) (C : Addr) (cl : List (Str × Addr)) (fp : List Addr), PG (X.blk s H scope (compEnvC scope cl C X.env) fp) tg1 g1) (ht1 : ∀ (s : Shared) (H : Hp) (C : Addr) (cl : List (Str × Addr)) (fp : List Addr), PTs (X.blk s H scope (compEnvC scope cl C X.env) fp) ifs1 tt1)
    (hk : ∀ (s : Shared) (H : Hp) (C : Addr) (cl : List (Str × Addr)) (fp : List Addr), PE (X.blk s H scope (compEnvC scope cl C X.env) fp) kx tk)
    (he : ∀ (s : Shared) (H : Hp) (C : Addr) (cl : List (Str × Addr)) (fp : List Addr), PE (X.blk s H scope (compEnvC scope cl C X.env) fp) vx tv) (hs : ∀ x, foldedSetIterable iter X.env x = pure x := by intro _; rfl) (hs1 : ∀ env x, foldedSetIterable iter1 env x = pure x := by intro _ _; rfl) :
    PE X (.DictComp kx vx [⟨tg, iter, ifs, 0⟩, ⟨tg1, iter1, ifs1, 0⟩] scope pos) (tDc2G o0 wi g tt wi1 g1 tt1 tk tv (own.map (·.2)) vs1) := by
  refine ⟨fun pins s σ H Q I h => ?_⟩
  rw [arm_eval_DictComp]
  refine dc_frame (Q := Q) (R := fun J D H3 => Two J D H3 (Q (.ref D)) g tt wi1 g1 tt1 tk tv (own.map fun p : Str × Nat => p.2) vs1 σ) hc hN em I hi ok hs h ?_ fun D C s' m H' I' q hn f => ⟨m, hn, fun h'' sb => ?_⟩
  · rintro J D fp it tn s3 H3 ce C cl s4 ⟨W, ⟨m0, w0⟩, turn⟩ ⟨hce, T, I4, st4, nfp, stat⟩ hexit
    have pg := hg s3 H3 C cl fp
    have pt := ht s3 H3 C cl fp
    have pi1 := hi1 s3 H3 C cl fp
    have pg1 := hg1 s3 H3 C cl fp
    have pt1 := ht1 s3 H3 C cl fp
    have pk := hk s3 H3 C cl fp
    have pv := he s3 H3 C cl fp
    rw [← hce] at pg pt pi1 pg1 pt1 pk pv
    refine loopD_out (hs1 ce) (fun n s' => ∃ i H', L2.Inv (X.blk s3 H3 scope ce fp) [] (wipe σ (own.map (·.2))) H' s' ∧ tn i s'.heap ∧ (∀ b ∈ fp, H' b = none) ∧ W i n H') ?_ m0 ⟨0, H3, I4, st4, nfp, w0⟩
    rintro n s5 ⟨i, H5, I5, st5, n5, w5⟩
    unfold Head
    rcases turn i n H5 w5 with ⟨stop, qq⟩ | ⟨go, Nx, hNx, step⟩
    · refine thnF (T.done (X.blk s3 H3 scope ce fp) rfl rfl rfl hc i [] s5 _ H5 (fun _ _ => False) I5 (stat I5 n5) st5 stop) fun r s6 ⟨hr, I6⟩ => ?_
      subst hr
      exact hexit H5 s6 I6 qq
    · refine thnF (T.item (X.blk s3 H3 scope ce fp) rfl rfl rfl hc i [] s5 _ H5 (fun _ _ => False) I5 (stat I5 n5) st5 go) fun r s6 ⟨u, hr, h6⟩ => ?_
      subst hr
      refine thnF h6 fun _ s7 ⟨x, H7, I7, r7, y7, st7, n7⟩ => ?_
      have I7' := I7.pinned (stat I7 n7) (T.obj _ _ st7)
      refine thnF (pg.run _ s7 _ H7 x u _ I7' r7 (step x H7 y7)) fun _ s8 ⟨σ8, H8, I8, hw8, q8⟩ => ?_
      refine thnF (pt.run _ s8 σ8 H8 _ I8 q8) fun b s9 ⟨H9, I9, q9⟩ => ?_
      have fin : ∀ {σ9 : L2.St} {s' : Shared} {H' : Hp}, L2.Inv (X.blk s3 H3 scope ce fp) ([] ++ pinsAt fp s7.heap) σ9 H' s' → (wipe σ (own.map (·.2))).length = σ9.length → (∀ (j : Nat) v, (wipe σ (own.map (·.2)))[j]? = some (some v) → σ9[j]? = some (some v)) → Nx H' →
          ∃ m, m < n ∧ ∃ i H', L2.Inv (X.blk s3 H3 scope ce fp) [] (wipe σ (own.map (·.2))) H' s' ∧ tn i s'.heap ∧ (∀ b ∈ fp, H' b = none) ∧ W i m H' := fun {σ9 s' H'} I' hl hk' nx => by
        obtain ⟨m', hm, w'⟩ := hNx H' nx
        have pin' : ∀ b ∈ fp, ∀ o, s7.heap.get? b = some o → s'.heap.get? b = some o ∧ H' b = none := fun b hb o e =>
          let z := I'.pin (b, o) (List.mem_append_right _ (List.mem_append_right _ (mem_pinsAt hb e)))
          ⟨z.1, z.2.1⟩
        refine ⟨m', hm, i + 1, H', (I'.unpinned (pins := [])).weak hl hk', T.keep _ _ _ st7 fun b hb o e => (pin' b hb o e).1, fun b hb => ?_, w'⟩
        obtain ⟨o, e, _⟩ := T.obj _ _ st7 b hb
        exact (pin' b hb o e).2
      have hl8 : (wipe σ (own.map (·.2))).length = σ8.length := by
        have := congrArg List.length hw8
        rw [wipe_length] at this
        exact this.symm
      have hk8 : ∀ (j : Nat) v, (wipe σ (own.map (·.2)))[j]? = some (some v) → σ8[j]? = some (some v) := fun j v e => by
        have e2 : (wipe σ8 (own.map fun p : Str × Nat => p.2))[j]? = some (some v) := by rw [hw8]; exact e
        exact (wipe_some e2).1
      have hk9 : ∀ (j : Nat) v, (wipe σ (own.map (·.2)))[j]? = some (some v) → (wipe σ8 vs1)[j]? = some (some v) := fun j v e => by
        have e2 : (wipe σ8 (own.map fun p : Str × Nat => p.2))[j]? = some (some v) := by rw [hw8]; exact e
        obtain ⟨e1, e3⟩ := wipe_some e2
        rw [wipe_out fun z => e3 (hv j z)]
        exact e1
      cases b with
      | false =>
        simp only [Bool.false_eq_true, if_false] at q9 ⊢
        exact fin I9 hl8 hk8 q9
      | true =>
        simp only [if_true] at q9 ⊢
        refine thnF (pi1.run _ s9 σ8 H9 _ I9 q9) fun xv s10 hx => thnF hx fun itv s11 ⟨it1, fp1, tn1, J1, H11, e1, I11, T1, st11, f11, W1, ⟨m1, w1⟩, turn1⟩ => ?_
        subst e1
        have stat1 : ∀ {H' : Hp}, (∀ b ∈ fp1, H' b = none) → ∀ b ∈ fp1, FpOk (X.blk s3 H3 scope ce fp) ([] ++ pinsAt fp s7.heap) H' b := fun hn b hb => ⟨hn b hb, (f11 b hb).2⟩
        have loop1 : codeAny (model X.prog X.w) X.A (.compLoop (dc2 kx vx tg iter tg1 iter1 ifs ifs1 scope pos) 1 (.ref it1) (.ref D) ce)
            (fun r s' => match r with
              | .ok _ => ∃ m, m < n ∧ ∃ i H', L2.Inv (X.blk s3 H3 scope ce fp) [] (wipe σ (own.map (·.2))) H' s' ∧ tn i s'.heap ∧ (∀ b ∈ fp, H' b = none) ∧ W i m H'
              | .error _ => False) s11 := by
          refine loopD_in (fun k s' => ∃ j H', L2.Inv (X.blk s3 H3 scope ce fp) ([] ++ pinsAt fp s7.heap) (wipe σ8 vs1) H' s' ∧ tn1 j s'.heap ∧ (∀ b ∈ fp1, H' b = none) ∧ W1 j k H') ?_ m1 ⟨0, H11, I11.weak (wipe_length _ _) (fun j v e => (wipe_some e).1), st11, fun b hb => (f11 b hb).1, w1⟩
          rintro k s12 ⟨j, H12, I12, st12, n12, w12⟩
          unfold Head
          rcases turn1 j k H12 w12 with ⟨stop1, nx1⟩ | ⟨go1, Nx1, hNx1, step1⟩
          · refine thnF (T1.done (X.blk s3 H3 scope ce fp) rfl rfl rfl hc j _ s12 (wipe σ8 vs1) H12 (fun _ _ => False) I12 (stat1 n12) st12 stop1) fun r s13 ⟨hr, I13⟩ => ?_
            subst hr
            exact fin I13 (hl8.trans (wipe_length σ8 vs1).symm) hk9 nx1
          · refine thnF (T1.item (X.blk s3 H3 scope ce fp) rfl rfl rfl hc j _ s12 (wipe σ8 vs1) H12 (fun _ _ => False) I12 (stat1 n12) st12 go1) fun r s13 ⟨u1, hr, h13⟩ => ?_
            subst hr
            refine thnF h13 fun _ s14 ⟨x1, H14, I14, r14, y14, st14, n14⟩ => ?_
            have I14' := I14.pinned (stat1 n14) (T1.obj _ _ st14)
            refine thnF (pg1.run _ s14 (wipe σ8 vs1) H14 x1 u1 _ I14' r14 (step1 x1 H14 y14)) fun _ s15 ⟨σ15, H15, I15, hw15, q15⟩ => ?_
            refine thnF (pt1.run _ s15 σ15 H15 _ I15 q15) fun b1 s16 ⟨H16, I16, q16⟩ => ?_
            have fin1 : ∀ {s' : Shared} {H' : Hp}, L2.Inv (X.blk s3 H3 scope ce fp) (([] ++ pinsAt fp s7.heap) ++ pinsAt fp1 s14.heap) σ15 H' s' → Nx1 H' → ∃ m, m < k ∧ ∃ j H', L2.Inv (X.blk s3 H3 scope ce fp) ([] ++ pinsAt fp s7.heap) (wipe σ8 vs1) H' s' ∧ tn1 j s'.heap ∧ (∀ b ∈ fp1, H' b = none) ∧ W1 j m H' := fun {s' H'} I' nx => by
              obtain ⟨m', hm, w'⟩ := hNx1 H' nx
              have pin' : ∀ b ∈ fp1, ∀ o, s14.heap.get? b = some o → s'.heap.get? b = some o ∧ H' b = none := fun b hb o e =>
                let z := I'.pin (b, o) (List.mem_append_right _ (List.mem_append_right _ (mem_pinsAt hb e)))
                ⟨z.1, z.2.1⟩
              refine ⟨m', hm, j + 1, H', I'.unpinned.weak (by rw [← hw15, wipe_length]) (fun j v e => by rw [← hw15] at e; exact (wipe_some e).1), T1.keep _ _ _ st14 fun b hb o e => (pin' b hb o e).1, fun b hb => ?_, w'⟩
              obtain ⟨o, e, _⟩ := T1.obj _ _ st14 b hb
              exact (pin' b hb o e).2
            cases b1 with
            | false =>
              simp only [Bool.false_eq_true, if_false] at q16 ⊢
              exact fin1 I16 q16
            | true =>
              simp only [if_true] at q16 ⊢
              refine thnF (pk.run _ s16 σ15 H16 _ I16 q16) fun z s17 ⟨yk, H17, I17, r17, q17⟩ => ?_
              refine thnF (pv.run _ s17 σ15 H17 _ I17 q17) fun z2 s18 ⟨yv, H18, I18, r18, H19, dp, nx⟩ => ?_
              exact put_any (X := X.blk s3 H3 scope ce fp) hu I18 dp r17 r18 fun s19 I19 => fin1 I19 nx
        exact startD loop1 (T1.self X.A 0 _ _ _ st11 loop1)
  · obtain ⟨f0, f1, f2, f3, f4, f5⟩ := f
    exact ⟨.ref D, H', I'.turned (t' := s'.toks) (fun b o hb e => (sb.2 b hb).trans e) f0 f1 f3 f4 f5, rfl, q⟩
end
end Lv

/-! division by any number but 0; {n: t for t in ts for n in t} -/
namespace Lv
open PySem PySem.Spec PyProof.Rows L2
def CDivZ (_ j : Int) : Prop := j ≠ 0 ∧ j.natAbs.log2 < 9000
theorem op_fdivZ {X : Cx} : OpR X (binaryOp .FloorDiv) (rI CDivZ fun i j => .int (Int.fdiv i j)) := opI fun _ _ _ _ _ _ _ hc q => floordiv_int hc.1 q (.inl (PyProof.noPylong_of_log2 hc.2))
theorem divZ {i j : Int} (h : j ≠ 0) (hb : j.natAbs < 2 ^ 8000) : CDivZ i j := ⟨h, Nat.lt_of_lt_of_le (PySem.Flt.log2_lt_of (by decide) hb) (by decide)⟩
/-- the pairs that stand there then -/
def prs (nss : List (List Int)) (xs : List V) : List (L2.Key × V) := (nss.zip xs).flatMap fun z => z.1.map fun n => ((Sum.inl n : L2.Key), z.2)
theorem prs_more {nss : List (List Int)} {xs : List V} {i : Nat} {ns : List Int} {x : V} (h1 : nss[i]? = some ns) (h2 : xs[i]? = some x) : prs (nss.take (i + 1)) (xs.take (i + 1)) = prs (nss.take i) (xs.take i) ++ ns.map fun n => ((Sum.inl n : L2.Key), x) := by
  unfold prs
  rw [take_more h1, take_more h2, List.zip_append (by
    have a := (List.getElem?_eq_some_iff.mp h1).1
    have b := (List.getElem?_eq_some_iff.mp h2).1
    rw [List.length_take, List.length_take]; omega), List.flatMap_append]
  simp
theorem prs_keys : ∀ {nss : List (List Int)} {xs : List V}, nss.length = xs.length → (prs nss xs).map (·.1) = nss.flatten.map (fun n : Int => (Sum.inl n : L2.Key))
  | [], [], _ => rfl
  | [], _ :: _, h => by cases h
  | _ :: _, [], h => by cases h
  | ns :: nss, x :: xs, h => by
    have ih := prs_keys (nss := nss) (xs := xs) (by simpa using h)
    show ((ns.map fun n => ((Sum.inl n : L2.Key), x)) ++ prs nss xs).map (·.1) = _
    rw [List.map_append, ih, List.flatten_cons, List.map_append, List.map_map]; rfl
theorem prs_val : ∀ {nss : List (List Int)} {xs : List V} {i : Nat} {ns : List Int} {x : V} {n : Int}, nss.flatten.Nodup → nss[i]? = some ns → xs[i]? = some x → n ∈ ns → valV (prs nss xs) (.inl n) = some x
  | [], xs, i, ns, x, n, _, h1, _, _ => by simp at h1
  | m :: nss, [], i, ns, x, n, _, _, h2, _ => by simp at h2
  | m :: nss, y :: xs, i, ns, x, n, hn, h1, h2, hm => by
    have hv : ∀ (l : List Int) (r : List (L2.Key × V)), valV (l.map (fun n => ((Sum.inl n : L2.Key), y)) ++ r) (.inl n) = if n ∈ l then some y else valV r (.inl n) := fun l r => by
      induction l with
      | nil => simp
      | cons a l ih =>
        rw [List.map_cons, List.cons_append]
        by_cases c : a = n
        · subst c
          rw [valV_pos rfl, if_pos List.mem_cons_self]
        · rw [valV_neg (fun h => c (Sum.inl.inj h)), ih]
          by_cases c2 : n ∈ l
          · rw [if_pos c2, if_pos (List.mem_cons_of_mem _ c2)]
          · rw [if_neg c2, if_neg fun h => (List.mem_cons.mp h).elim (fun h => c h.symm) c2]
    show valV (m.map (fun n => ((Sum.inl n : L2.Key), y)) ++ prs nss xs) (.inl n) = some x
    rw [hv]
    rw [List.flatten_cons, List.nodup_append] at hn
    cases i with
    | zero =>
      have e1 : m = ns := by simpa using h1
      have e2 : y = x := by simpa using h2
      subst e1 e2
      rw [if_pos hm]
    | succ i =>
      have h1' : nss[i]? = some ns := by simpa using h1
      have h2' : xs[i]? = some x := by simpa using h2
      rw [if_neg fun h => hn.2.2 n h n (List.mem_flatten.mpr ⟨ns, List.mem_of_getElem? h1', hm⟩) rfl]
      exact prs_val hn.2.1 h1' h2' hm
theorem prs_no {nss : List (List Int)} {xs : List V} {n : Int} (hl : nss.length = xs.length) (h : n ∉ nss.flatten) : valV (prs nss xs) (.inl n) = none := by
  cases e : valV (prs nss xs) (.inl n) with
  | none => rfl
  | some y =>
    have := valV_in e
    rw [prs_keys hl] at this
    obtain ⟨m, hm, em⟩ := List.mem_map.mp this
    injection em with em
    subst em
    exact absurd hm h
section
variable {K : PySem.W.Frag} {σ : L2.St} {G P H : Hp} {Q : VK} {tt tt1 : TT} {ta ti tk tv : TE} {g g1 : TG} {wi1 : TI} {vs vs1 : List Nat} {o0 : HO} {a : Addr} {xs : List V} {nss : List (List Int)}
def aDc2L (o0 : HO) (K : PySem.W.Frag) (g : TG) (tt : TT) (wi1 : TI) (g1 : TG) (tt1 : TT) (tk tv : TE) (vs vs1 : List Nat) (σ : L2.St) : V → Hp → VK → Prop := fun x H Q => tDc2G o0 (fun _ H R => ∃ a, x = .ref a ∧ (∃ xs, SqL K H a xs) ∧ R (Itl K a) H) g tt wi1 g1 tt1 tk tv vs vs1 σ H Q
theorem w_dc2L (h : ta σ H fun x H1 => aDc2L o0 K g tt wi1 g1 tt1 tk tv vs vs1 σ x H1 Q) : tDc2G o0 (iList K ta) g tt wi1 g1 tt1 tk tv vs vs1 σ H Q := h
theorem nodup_mid {l m : List Int} {n : Int} (h : (l ++ n :: m).Nodup) : n ∉ l := fun hm => (List.nodup_append.mp h).2.2 n hm n List.mem_cons_self rfl
theorem flat_split {nss : List (List Int)} {i j : Nat} {ns : List Int} {n : Int} (h1 : nss[i]? = some ns) (h2 : ns[j]? = some n) : nss.flatten = ((nss.take i).flatten ++ ns.take j) ++ n :: (ns.drop (j + 1) ++ (nss.drop (i + 1)).flatten) := by
  have e1 : nss = nss.take i ++ ns :: nss.drop (i + 1) := by
    conv => lhs; rw [← List.take_append_drop i nss]
    rw [List.drop_eq_getElem_cons (List.getElem?_eq_some_iff.mp h1).1, (List.getElem?_eq_some_iff.mp h1).2]
  have e2 : ns = ns.take j ++ n :: ns.drop (j + 1) := by
    conv => lhs; rw [← List.take_append_drop j ns]
    rw [List.drop_eq_getElem_cons (List.getElem?_eq_some_iff.mp h2).1, (List.getElem?_eq_some_iff.mp h2).2]
  conv => lhs; rw [e1]
  rw [List.flatten_append, List.flatten_cons]
  conv => lhs; rw [e2]
  simp
theorem aDc2L.go {S : V → L2.St} {S2 : V → Int → L2.St} (J : Join G P H) (hS : G a = some (.lst xs)) (hT : TupL iV G xs nss) (hnd : nss.flatten.Nodup) (hl : nss.flatten.length ≤ 100000)
    (hg : ∀ (x : V) (H' : Hp) (N : L2.St → Hp → Prop), N (S x) H' → g x (wipe σ vs) H' N) (hw : ∀ x, wipe (S x) vs = wipe σ vs) (hti : ∀ (x : V) (H' : Hp) (R : VK), R x H' → ti (S x) H' R)
    (hg1 : ∀ (x : V) (n : Int) (H' : Hp) (N : L2.St → Hp → Prop), N (S2 x n) H' → g1 (.int n) (wipe (S x) vs1) H' N) (hw1 : ∀ x n, wipe (S2 x n) vs1 = wipe (S x) vs1)
    (hk : ∀ (x : V) (n : Int) (H' : Hp) (R : VK), R (.int n) H' → tk (S2 x n) H' R) (hv : ∀ (x : V) (n : Int) (H' : Hp) (R : VK), R x H' → tv (S2 x n) H' R)
    (hq : ∀ d G' H', H d = none → Ex G G' → Join G' P H' → G' d = some (.dK (prs nss xs)) → Q (.ref d) H') : aDc2L (.dK []) K g tYes (iTup K ti) g1 tYes tk tv vs vs1 σ (.ref a) H Q := by
  refine ⟨a, rfl, ⟨_, sqL (J.g _ _ hS)⟩, fun D hD => ?_⟩
  have hlx := hT.1
  have oth : ∀ {c : Addr} {o u : HO}, H c = some o → upd H D u c = some o := fun {c o u} h => by rw [upd_ne (ne_of_none h hD)]; exact h
  refine ⟨fun i m H' => m = xs.length - i ∧ i ≤ xs.length ∧ H' = upd H D (.dK (prs (nss.take i) (xs.take i))), ⟨xs.length, by simp, Nat.zero_le _, by simp [prs]⟩, ?_⟩
  rintro i m H' ⟨rfl, hi, rfl⟩
  by_cases hlt : i < xs.length
  · refine .inr ⟨⟨xs, xs[i], sqL (oth (J.g _ _ hS)), by simp [hlt]⟩, fun H2 => i + 1 ≤ xs.length ∧ H2 = upd H D (.dK (prs (nss.take (i + 1)) (xs.take (i + 1)))), fun H2 p => ⟨xs.length - (i + 1), by omega, rfl, p⟩, fun x H2 y => ?_⟩
    obtain ⟨rfl, y⟩ := y
    have hx := y xs (sqL (oth (J.g _ _ hS)))
    obtain ⟨ns, t, hns, rfl, ht⟩ := hT.get hx
    refine hg _ _ _ ⟨hw _, w_yes (w_ifT (hti _ _ _ ⟨t, rfl, ⟨_, sqT (oth (J.g _ _ ht))⟩, ?_⟩))⟩
    refine ⟨fun j k H3 => k = ns.length - j ∧ j ≤ ns.length ∧ H3 = upd H D (.dK (prs (nss.take i) (xs.take i) ++ (ns.take j).map fun n => ((Sum.inl n : L2.Key), .ref t))), ⟨ns.length, by simp, Nat.zero_le _, by simp⟩, ?_⟩
    rintro j k H3 ⟨rfl, hj, rfl⟩
    by_cases hjl : j < ns.length
    · have hnj : ns[j]? = some ns[j] := List.getElem?_eq_getElem hjl
      refine .inr ⟨⟨iV ns, .int ns[j], sqT (oth (J.g _ _ ht)), by show (ns.map V.int)[j]? = _; rw [List.getElem?_map, hnj]; rfl⟩, fun H4 => j + 1 ≤ ns.length ∧ H4 = upd H D (.dK (prs (nss.take i) (xs.take i) ++ (ns.take (j + 1)).map fun n => ((Sum.inl n : L2.Key), .ref t))), fun H4 p => ⟨ns.length - (j + 1), by omega, rfl, p⟩, fun z H4 yz => ?_⟩
      obtain ⟨rfl, yz⟩ := yz
      have hz := yz (iV ns) (sqT (oth (J.g _ _ ht)))
      have hz2 : (ns.map V.int)[j]? = some z := hz
      rw [List.getElem?_map, hnj] at hz2
      cases hz2
      have fs := flat_split hns hnj
      have hkeys : (prs (nss.take i) (xs.take i) ++ (ns.take j).map fun n => ((Sum.inl n : L2.Key), V.ref t)).map (·.1) = ((nss.take i).flatten ++ ns.take j).map fun n : Int => (Sum.inl n : L2.Key) := by
        rw [List.map_append, prs_keys (by rw [List.length_take, List.length_take]; omega), List.map_append, List.map_map]; rfl
      have hlen : (prs (nss.take i) (xs.take i) ++ (ns.take j).map fun n => ((Sum.inl n : L2.Key), V.ref t)).length < 100001 := by
        have h1 := congrArg List.length hkeys
        rw [List.length_map, List.length_map] at h1
        rw [h1]
        have h2 := congrArg List.length fs
        rw [List.length_append] at h2
        simp at h2 ⊢
        simp at hl
        omega
      refine hg1 _ _ _ _ ⟨hw1 _ _, w_yes (w_ifT (hk _ _ _ _ (hv _ _ _ _ ⟨_, DPut.k (k := .inl ns[j]) upd_same (Nat.lt_of_lt_of_le hlen (by rw [sizeLine_eq]; decide)), hjl, ?_⟩)))⟩
      have nk : ∀ x ∈ (prs (nss.take i) (xs.take i) ++ (ns.take j).map fun n => ((Sum.inl n : L2.Key), V.ref t)), x.1 ≠ .inl ns[j] := fun x hx e => by
        have hm : x.1 ∈ ((nss.take i).flatten ++ ns.take j).map fun n : Int => (Sum.inl n : L2.Key) := by rw [← hkeys]; exact List.mem_map_of_mem hx
        obtain ⟨n, hn, en⟩ := List.mem_map.mp hm
        rw [e] at en
        injection en with en
        subst en
        rw [fs] at hnd
        exact nodup_mid hnd hn
      rw [putK_keyv nk, take_more hnj, List.map_append, ← List.append_assoc]
      funext c
      by_cases hc : c = D
      · rw [hc, upd_same, upd_same]; rfl
      · rw [upd_ne hc, upd_ne hc, upd_ne hc]
    · have ej : j = ns.length := by omega
      subst ej
      refine .inl ⟨⟨iV ns, sqT (oth (J.g _ _ ht)), by simp [iV]⟩, hlt, ?_⟩
      rw [List.take_length, prs_more hns hx]
  · have ei : i = xs.length := by omega
    subst ei
    refine .inl ⟨⟨xs, sqL (oth (J.g _ _ hS)), Nat.le_refl _⟩, ?_⟩
    rw [List.take_length, show nss.take xs.length = nss by rw [hlx, List.take_length]]
    exact hq D (upd G D _) _ hD (Ex.new (J.ng hD)) (J.newG hD) upd_same
end
end Lv

/-! {k: v}, k read from the heap, v new; dicts of pairs -/
namespace Lv
open PySem PySem.Spec PyProof.Rows L2
section
variable {K : PySem.W.Frag} {σ : L2.St} {G P H : Hp}
theorem aDisp1.goGK {k : L2.Key} {tk tv : TE} {Q : VK} (Pv : V → Hp → Prop) (J : Join G P H) (hk : ∀ P' H' S, Join G P' H' → S (kV k) H' → tk σ H' S) (hv : ∀ P' H' S, Join G P' H' → (∀ v G2 H2, Ex G G2 → Join G2 P' H2 → Pv v G2 → S v H2) → tv σ H' S)
    (q : ∀ p v P' G' H', H p = none → Ex P P' → Ex G G' → Join G' P' H' → P' p = some (.dK [(k, v)]) → Pv v G' → Q (.ref p) H') : tDisp [(tk, tv)] σ H Q := by
  intro p hp
  have j1 : Join G (upd P p (.dK [])) (upd H p (.dK [])) := J.setP (J.ng hp)
  refine hk _ _ _ j1 (hv _ _ _ j1 fun v G2 H2 e2 j2 pv => ⟨j2.p _ _ upd_same, [(k, v)], rfl, Nat.le_of_ble_eq_true rfl, ?_⟩)
  exact q p v _ G2 _ hp ((Ex.new (J.np hp)).mut (J.np hp)) e2 (j2.setP (o := .dK (mergeK [] [(k, v)])) (j2.gn upd_same)) upd_same pv
end
theorem kvZ_more {ns : List Int} {vs : List V} {n : Int} {v : V} (h : vs.length = ns.length) : kvZ (ns ++ [n]) (vs ++ [v]) = kvZ ns vs ++ [((Sum.inl n : L2.Key), v)] := by
  unfold kvZ
  rw [List.zip_append h.symm, List.map_append]; rfl
theorem kvZ_put {ns : List Int} {vs : List V} {n : Int} {v : V} (h : vs.length = ns.length) (hn : n ∉ ns) : putK (kvZ ns vs) (.inl n) v = kvZ (ns ++ [n]) (vs ++ [v]) := by
  rw [kvZ_more h, putK_keyv]
  intro x hx e
  have hm : x.1 ∈ (kvZ ns vs).map (·.1) := List.mem_map_of_mem hx
  rw [kvZ_keys h] at hm
  obtain ⟨m, hm, em⟩ := List.mem_map.mp hm
  rw [e] at em
  injection em with em
  subst em
  exact hn hm
theorem kvZ_len {ns : List Int} {vs : List V} (h : vs.length = ns.length) : (kvZ ns vs).length = ns.length := by
  unfold kvZ
  rw [List.length_map, List.length_zip]; omega
theorem kvZ_some {ns : List Int} {vs : List V} {n : Int} (hn : ns.Nodup) (h : vs.length = ns.length) : (valV (kvZ ns vs) (.inl n)).isSome = decide (n ∈ ns) := by
  by_cases c : n ∈ ns
  · rw [decide_eq_true c]
    obtain ⟨i, hi⟩ := List.getElem?_of_mem c
    have il := (List.getElem?_eq_some_iff.mp hi).1
    rw [valV_kvZ hn hi (List.getElem?_eq_getElem (by omega : i < vs.length))]; rfl
  · rw [decide_eq_false c]
    cases e : valV (kvZ ns vs) (.inl n) with
    | none => rfl
    | some y =>
      have := valV_in e
      rw [kvZ_keys h] at this
      obtain ⟨m, hm, em⟩ := List.mem_map.mp this
      injection em with em
      subst em
      exact absurd hm c
end Lv

/-! d.setdefault(k, x) -/
namespace Lv
open PySem PySem.Spec PyProof.Rows L2
section
variable {σ : L2.St} {G P H : Hp} {Q : VK} {td ty tx : TE} {d : Addr}
def rDSetd (a : Addr) (y z : V) : Hp → VK → Prop := fun H3 Q => ∃ (kvs : List (L2.Key × V)) (k : L2.Key), H3 a = some (.dK kvs) ∧ y = kV k ∧ kvs.length < sizeLine ∧
  (∀ v, valV kvs k = some v → Q v H3) ∧ (valV kvs k = none → Q z (upd H3 a (.dK (putK kvs k z))))
def aDSetd (ty tx : TE) (σ : L2.St) : V → Hp → VK → Prop := fun x H1 Q => ∃ a, x = .ref a ∧ IsD H1 a ∧ ty σ H1 fun y H2 => tx σ H2 fun z H3 => rDSetd a y z H3 Q
theorem w_dsetd (h : td σ H fun x H1 => aDSetd ty tx σ x H1 Q) : tDSetd td ty tx σ H Q := h
theorem dsetdP {kvs : List (L2.Key × V)} (J : Join G P H) (h : P d = some (.dK kvs)) (q : ty σ H fun y H2 => tx σ H2 fun z H3 => rDSetd d y z H3 Q) : aDSetd ty tx σ (.ref d) H Q :=
  ⟨d, rfl, .inl ⟨kvs, .inl (J.p _ _ h)⟩, q⟩
theorem rdsetdP {kvs : List (L2.Key × V)} {k : L2.Key} {y z : V} (hy : y = kV k) (J : Join G P H) (h : P d = some (.dK kvs)) (hl : kvs.length < 100000) (q1 : ∀ v, valV kvs k = some v → Q v H) (q2 : valV kvs k = none → ∀ H', Join G (upd P d (.dK (putK kvs k z))) H' → Q z H') : rDSetd d y z H Q :=
  ⟨kvs, k, J.p _ _ h, hy, szlt hl, q1, fun hn => q2 hn _ (J.setP (J.gn h))⟩
end
end Lv

/-! x = {..} by a comprehension, on one line, x a local -/
namespace Lv
open PySem PySem.Spec PyProof.Rows L2
section
variable {X : Cx}
theorem sw_trueD {kx vx : Expr} {gs : List Comprehension} {scope : Scope} {pos py : Pos} {y : Str} {l : Nat} {env : Env} (hk : env.scope.kind = .function) (hy : env.scope.names.lookup y = some .local) (hl : (py.line == pos.line) = true)
    (ha : (scope.names.any fun (n, k) => n == y && (k == .local || k == .cell)) = false) : swapsWith (.DictComp kx vx gs scope pos) (some (.Name y py)) l env = pure true := by
  have ky : env.kindOf y = some .local := hy
  have hb : env.blockKind = .function := by unfold Env.blockKind; rw [hk]; rfl
  unfold swapsWith
  simp only [hb, ky, ha, Expr.pos, hl]
  rfl
theorem ps_setDc {i : Nat} {y : Str} {py : Pos} {kx vx tg iter : Expr} {ifs : List Expr} {scope : Scope} {own : List (Str × Nat)} {pos spos : Pos} {wi : TI} {g : TG} {tt : TT} {tk tv : TE} (hc : X.calm = true) (hN : X.N.Nodup) (hy : X.N[i]? = some y) (hyl : X.env.scope.names.lookup y = some .local)
    (hsw : swapsWith (.DictComp kx vx [⟨tg, iter, ifs, 0⟩] scope pos) (some (.Name y py)) spos.line X.env = pure true) (hi : PI X tg iter wi) (ok : BlkOk X.N X.env.scope scope own)
    (hg : ∀ (s : Shared) (H : Hp) (C : Addr) (cl : List (Str × Addr)) (fp : List Addr), PG (X.blk s H scope (compEnvC scope cl C X.env) fp) tg g) (ht : ∀ (s : Shared) (H : Hp) (C : Addr) (cl : List (Str × Addr)) (fp : List Addr), PTs (X.blk s H scope (compEnvC scope cl C X.env) fp) ifs tt)
    (hk : ∀ (s : Shared) (H : Hp) (C : Addr) (cl : List (Str × Addr)) (fp : List Addr), PE (X.blk s H scope (compEnvC scope cl C X.env) fp) kx tk)
    (he : ∀ (s : Shared) (H : Hp) (C : Addr) (cl : List (Str × Addr)) (fp : List Addr), PE (X.blk s H scope (compEnvC scope cl C X.env) fp) vx tv) (hs : ∀ x, foldedSetIterable iter X.env x = pure x := by intro _; rfl) :
    PS X (.Assign [.Name y py] (.DictComp kx vx [⟨tg, iter, ifs, 0⟩] scope pos) spos) (tAsg (tDc wi g tt tk tv (own.map (·.2))) (gName i)) := by
  refine ⟨fun pins s σ H D I h => ?_⟩
  rw [exec_Assign_Name_used _ _ _ _ hsw]
  refine wpAny_bind (wpAny_standAt (wpAny_bind ?_))
  show wpAny _ X.A (do let _ ← comprehension (.DictComp kx vx [⟨tg, iter, ifs, 0⟩] scope pos) scope X.env (firstIterPos [⟨tg, iter, ifs, 0⟩] pos) newDict false (eval iter X.env) (some (assign (.Name y py) X.env))) _ _ s
  have h : tDc wi g tt tk tv (own.map (·.2)) σ H (fun x H1 => gName i x σ H1 D.nx) := h
  refine wpAny_bind (thn (dc_core (Qf := fun _ s' => SP X pins D .next s') hc hN I hi ok hg ht hk he hs h fun L C s' m H' I' q hn f => ?_) fun _ s' hq => wpAny_pure (wpAny_pure hq))
  show wpAny _ _ (assign (.Name y py) X.env (.ref L)) _ _ _
  refine wpAny_assign_Name (store_ok2 (v := V.ref L) I' hN hy (.inl hyl) rfl (fun s2 I2 ⟨a, sb, ha⟩ => ?_) (.inr hyl))
  obtain ⟨f0, f1, f2, f3, f4, f5⟩ := f
  have haC : C ≠ a := by
    rcases ha with z | z
    · rw [z]; exact f1
    · exact fun e => f4 y a z e.symm
  refine ⟨m, hn.sameBut sb haC, fun h3 sb3 => ?_⟩
  exact ⟨_, H', I2.turned (t' := s2.toks) (fun b o hb e => (sb3.2 b hb).trans e) f0 f1 f3 f4 f5, q⟩
end
end Lv

/-! {n: c for n in t}, a dict that changes later -/
namespace Lv
open PySem PySem.Spec PyProof.Rows L2
section
variable {K : PySem.W.Frag} {σ : L2.St} {H : Hp} {Q : VK} {tk tv : TE}
theorem aDcT.goC {j : Nat} {a : Addr} {ns : List Int} {ts : List Nat} {G P : Hp} {c : V} (J : Join G P H) (hS : G a = some (.tup (ns.map V.int))) (hn : ns.Nodup) (hl : ns.length ≤ 100000) (hw : ∀ x, wipe ((wipe σ ts).set j (some x)) ts = wipe σ ts)
    (hk : ∀ (n : Int) (H' : Hp) (S : VK), S (.int n) H' → tk ((wipe σ ts).set j (some (.int n))) H' S) (hv : ∀ (x : V) (H' : Hp) (S : VK), S c H' → tv ((wipe σ ts).set j (some x)) H' S)
    (hq : ∀ p P' H', H p = none → Ex P P' → Join G P' H' → P' p = some (.dK (kvZ ns (ns.map fun _ => c))) → Q (.ref p) H') : aDcT K (gName j) tYes tk tv ts σ (.ref a) H Q := by
  refine ⟨a, rfl, ⟨_, sqT (J.g _ _ hS)⟩, fun D hD => ?_⟩
  have pD : P D = none := J.np hD
  have gD : G D = none := J.ng hD
  refine dc_tup (K := K) (a := a) (xs := ns.map V.int) (fun i H' => ∃ P', Ex P P' ∧ Join G P' H' ∧ P' D = some (.dK (kvZ (ns.take i) ((ns.take i).map fun _ => c)))) ⟨_, Ex.new pD, J.setP gD, upd_same⟩ (fun i H' _ ⟨P', e, j', _⟩ => sqT (j'.g _ _ hS)) (fun i x H' hi ⟨P', e, j', hd⟩ => ?_) (fun H' ⟨P', e, j', hd⟩ => ?_)
  · obtain ⟨n, hi2, rfl⟩ := int_at hi
    have hil := (List.getElem?_eq_some_iff.mp hi2).1
    have hlen : ((ns.take i).map fun _ => c).length = (ns.take i).length := by rw [List.length_map]
    refine ⟨hw _, iteT (B := True) (hk n H' _ (hv _ H' _ ⟨_, .inl n, rfl, j'.p _ _ hd, ?_, _, ?_, j'.setP (j'.gn hd), ?_⟩))⟩
    · refine szlt ?_
      rw [kvZ_len hlen, List.length_take]; omega
    · exact e.mut pD
    · rw [upd_same, kvZ_put hlen, take_more hi2, List.map_append]; rfl
      intro hm
      obtain ⟨b, hc⟩ := List.getElem?_of_mem hm
      have hc1 := (List.getElem?_eq_some_iff.mp hc).1
      rw [List.length_take] at hc1
      rw [List.getElem?_take, if_pos (by omega)] at hc
      obtain ⟨b1, b2⟩ := List.getElem?_eq_some_iff.mp hc
      obtain ⟨b3, b4⟩ := List.getElem?_eq_some_iff.mp hi2
      have := (List.getElem_inj hn).mp (b2.trans b4.symm)
      omega
  · rw [List.length_map, List.take_length] at hd
    exact hq D P' H' hD e j' hd
end
end Lv

/-! xs[::-1] -/
namespace Lv
open PySem PySem.Spec PyProof.Rows L2
section
variable {K : PySem.W.Frag} {σ : L2.St} {G P H : Hp} {Q : VK} {te : TE}
def aRevL (K : PySem.W.Frag) : V → Hp → VK → Prop := fun x H1 Q => ∃ a xs, x = .ref a ∧ SqL K H1 a xs ∧ ∀ p, H1 p = none → Q (.ref p) (upd H1 p (.lst xs.reverse))
theorem w_revL (h : te σ H fun x H1 => aRevL K x H1 Q) : tRevL K te σ H Q := h
theorem aRevL.go {a : Addr} {xs : List V} (J : Join G P H) (h : H a = some (.lst xs)) (q : ∀ p G' H', H p = none → Ex G G' → Join G' P H' → G' p = some (.lst xs.reverse) → Q (.ref p) H') : aRevL K (.ref a) H Q :=
  ⟨a, xs, rfl, sqL h, fun p hp => q p _ _ hp (Ex.new (J.ng hp)) (J.newG hp) upd_same⟩
end
end Lv

/-! isinstance(e, C) of an error that is caught: its class is told where the suite is entered -/
namespace Lv
open PySem PySem.Spec PyProof.Rows L2
/-- what an own error class must say, and which of some classes it is -/
def excB (K : PySem.W.Frag) (c : Str) (cs : List Str) : Bool :=
  decide (PySem.W.findIn K (.ref (He.ga K c)) "__getattribute__" = some (some (.builtin "BaseException.__getattribute__"))) &&
  (decide (PySem.W.findIn K (.ref (He.ga K c)) "__getattr__" = some none) &&
  (decide (PySem.W.subIn K (.ref (He.ga K c)) (.type "BaseException") = some true) &&
  (decide (PySem.W.hasDictIn K (He.ga K c) = true) &&
  (decide (PySem.W.findIn K (.ref (He.ga K c)) "__class__" = some (some (.builtin "object.__class__"))) &&
  (decide (PySem.W.specialIn K (.builtin "object.__class__") "__get__" = some (some (.builtin "getset_descriptor.__get__"))) &&
  (decide (PySem.W.takesIn K (.builtin "object.__class__") = some true) &&
  (decide (PySem.W.mroIn K (He.ga K c) (.type "object") = some true) &&
  (decide (PySem.W.kitOne K (.ref (He.ga K c)) (.type "ValueError") = some true) &&
  cs.all fun y => decide (PySem.W.kitOne K (.ref (He.ga K c)) (.ref (He.ga K y)) = some (decide (c = y)))))))))))
theorem excB_ok {K : PySem.W.Frag} {c : Str} {cs : List Str} (h : excB K c cs = true) : ExcC K (He.ga K c) ∧ PySem.W.kitOne K (.ref (He.ga K c)) (.type "ValueError") = some true ∧ ∀ y ∈ cs, PySem.W.kitOne K (.ref (He.ga K c)) (.ref (He.ga K y)) = some (decide (c = y)) := by
  unfold excB at h
  simp only [Bool.and_eq_true, decide_eq_true_eq, List.all_eq_true] at h
  obtain ⟨h1, h2, h3, h4, h5, h6, h7, h8, h9, h10⟩ := h
  exact ⟨⟨h1, h2, h3, h4, h5, h6, h7, h8⟩, h9, h10⟩
/-- isinstance(e, c), e the error that the suite holds, of the class cls -/
def rIsG (K : PySem.W.Frag) (cls : Value) (d : Option Addr) (a : Addr) : List V → Hp → VK → Prop := fun xs H Q => ∃ D, cls = .ref D ∧ d = none ∧ ExcC K D ∧ rIsE K D a xs H Q
theorem call_isG {X : Cx} {a : Addr} {oe : Obj} {cls : Value} {d : Option Addr} {pn : List (Addr × Obj)} (hz : Zc cls d oe) (hf : ∃ vs, oe.data = .fields vs) : CallR (X.suite a ((a, oe) :: pn)) (.builtin "isinstance") (rIsG X.K cls d a) := by
  intro pins s σ H xs us Q I r h
  obtain ⟨D, rfl, rfl, C, h⟩ := h
  exact call_isE C hz hf pins s σ H xs us Q I r h
theorem call_isGK {X : Cx} {K : PySem.W.Frag} {a : Addr} {oe : Obj} {cls : Value} {d : Option Addr} {pn : List (Addr × Obj)} (h : X.K = K) (hz : Zc cls d oe) (hf : ∃ vs, oe.data = .fields vs) : CallR (X.suite a ((a, oe) :: pn)) (.builtin "isinstance") (rIsG K cls d a) := h ▸ call_isG hz hf
section
variable {K : PySem.W.Frag} {H : Hp} {σ : L2.St} {Q : VK} {a : Addr}
theorem w_isG {cls : Value} {d : Option Addr} {as : TA} (h : as σ H fun vs H1 => rIsG K cls d a vs H1 Q) : tCB (rIsG K cls d a) as σ H Q := h
theorem isG_own {c y : Str} {cs : List Str} (hB : excB K c cs = true) (hy : y ∈ cs) (q : Q (.bl (decide (c = y))) H) : rIsG K (.ref (He.ga K c)) none a [.ref a, .ref (He.ga K y)] H Q :=
  ⟨_, rfl, rfl, (excB_ok hB).1, _, .ref (He.ga K y), _, rfl, fun u r => r, (excB_ok hB).2.2 y hy, q⟩
theorem isG_val {c : Str} {cs : List Str} (hB : excB K c cs = true) (q : Q (.bl true) H) : rIsG K (.ref (He.ga K c)) none a [.ref a, .ty "ValueError"] H Q :=
  ⟨_, rfl, rfl, (excB_ok hB).1, _, .type "ValueError", _, rfl, fun u r => r, (excB_ok hB).2.1, q⟩
end
end Lv

/-! a comprehension over a list within an except suite, and what raises so that it can stand there -/
namespace Lv
open PySem PySem.Spec PyProof.Rows L2
section
variable {prog : Program} {w : World} {A : Around} {E : Value → Shared → Prop} {s : Shared}
/-- the end of a list's iterator while an error is handled -/
theorem next_hot {it l x1 : Addr} {i : Nat} {items : Array Value} {Q : Option Value → Shared → Prop}
    (hot : HotX.HotAt A x1 s.heap) (hne : x1 ≠ it) (hit : s.heap.IsListIter it l i)
    (hl : s.heap.IsList l items) (hx : items[i]? = none)
    (hQ : ∀ h', Heap.ExtBut it s.heap h' → Q none { s with heap := h' }) :
    wpAny (model prog w) A (pyNext (.ref it)) Q E s := by
  obtain ⟨oi, hoi, hci, hdi⟩ := id hit
  obtain ⟨ol, hol, _, _, hdl⟩ := hl
  obtain ⟨hh, o1, vs1, h1, d1, c1⟩ := hot
  unfold pyNext
  refine wpAny_bind (wpAny_attempt (wpAny_callSpecial?_slot
    (name := Str.ofString "__next__") hit.typeIs slot_listiter_next
    (wpAny_call_entry slot_listiter_next hit.typeIs
      entry_listiter_next ?_ (args_listiter_next _))))
  change wpAny _ _ (field (.ref it) 0 >>= _) _ _ _
  refine wpAny_bind (wpAny_field hoi hdi (x := .ref l) rfl ?_)
  change wpAny _ _ (if (Value.ref l == Value.none) = true then _ else _) _ _ _
  rw [if_neg (by exact Bool.false_ne_true)]
  change wpAny _ _ (field (.ref it) 1 >>= _) _ _ _
  refine wpAny_bind (wpAny_field hoi hdi (x := .int i 0) rfl ?_)
  change wpAny _ _ (seqItems? (.ref l) >>= _) _ _ _
  refine wpAny_bind (wpAny_seqItems hol hdl ?_)
  simp only [hx, Int.toNat_natCast]
  refine wpAny_bind (wpAny_rule (wpAny_bind
    (wpAny_setField hoi hdi (by simp) ?_)))
  change wpAny _ _ (newExc (.type "StopIteration") [] >>= _) _ _ _
  refine wpAny_bind ?_
  simp only [newTuple, newExc]
  refine wpAny_bind (wpAny_newObj_type ?_ (by size_fits))
  refine wpAny_bind (m := firstArgMember _ _)
    (wpAny_of_eq (a := Value.none) (by first | rfl | (simp only [firstArgMember]; rfl)) ?_)
  refine wpAny_newObj_type ?_ (by size_fits)
  refine HotX.raiseNew_hot
    ⟨hh, o1, vs1, Heap.get?_push_of_some _ (Heap.get?_push_of_some _
      ((Heap.get?_update_other _ _ (Ne.symm hne)).trans h1)), d1, c1⟩
    (Nat.ne_of_lt (Heap.lt_size (Heap.get?_push_of_some _
      ((Heap.get?_update_other _ _ (Ne.symm hne)).trans h1))))
    (Heap.get?_push_size _ rfl) rfl
    (by first | (simp; done) | (simp; omega)) ?_
  refine wpAny_bind (wpAny_isInstance (T := "StopIteration") (b := true)
    ⟨_, Heap.get?_update_self _ (Heap.get?_push_size _ rfl) rfl, rfl⟩
    isSubtype_stop ?_)
  refine wpAny_pure (hQ _ fun b o nb e => ?_)
  have e2 := (Heap.get?_update_other s.heap (Obj.mapFields fun x => x.setIfInBounds 0 Value.none) (Ne.symm nb)).trans e
  have e3 := Heap.get?_push_of_some { cls := Value.type "tuple", data := Data.seq #[] } e2
  refine (Heap.get?_update_other _ _ (Nat.ne_of_gt (Heap.lt_size e3))).trans ?_
  exact Heap.get?_push_of_some _ e3
end
/-- the error that is handled, pinned, its context None -/
structure HotCx (X : Cx) (x1 : Addr) (o1 : Obj) : Prop where
  han : X.A.handled = some (.ref x1)
  pin : (x1, o1) ∈ X.pn
  ctx : ∃ vs, o1.data = .fields vs ∧ vs[2]? = some .none
theorem HotCx.out {X : Cx} {x1 : Addr} {o1 : Obj} {pins : List (Addr × Obj)} {σ : L2.St} {H : Hp} {s : Shared} (h : HotCx X x1 o1) (I : Inv X pins σ H s) : x1 ∉ frs X.stack := by
  obtain ⟨_, _, h3, h4, _⟩ := I.pin (x1, o1) (List.mem_append_left _ h.pin)
  rcases I.ok.stk with e | ⟨e, e2⟩
  · rw [e]; exact h4
  · rw [e]
    unfold frs
    rw [List.filterMap_cons, e2]
    intro z
    rcases List.mem_cons.mp z with z | z
    · exact h3 z
    · exact h4 z
section
variable {X : Cx} {x1 : Addr} {o1 : Obj}
theorem pe_lcH {elt tg iter : Expr} {ifs : List Expr} {scope : Scope} {own : List (Str × Nat)} {pos : Pos} {tl : TE} {g : TG} {tt : TT} {te : TE}
    (hot : HotCx X x1 o1) (hN : X.N.Nodup) (hi : PE X iter tl) (ok : BlkOk X.N X.env.scope scope own)
    (hg : ∀ (s : Shared) (H : Hp) (C : Addr) (cl : List (Str × Addr)) (fp : List Addr), PG (X.blk s H scope (compEnvC scope cl C X.env) fp) tg g)
    (ht : ∀ (s : Shared) (H : Hp) (C : Addr) (cl : List (Str × Addr)) (fp : List Addr), PTs (X.blk s H scope (compEnvC scope cl C X.env) fp) ifs tt)
    (he : ∀ (s : Shared) (H : Hp) (C : Addr) (cl : List (Str × Addr)) (fp : List Addr), PE (X.blk s H scope (compEnvC scope cl C X.env) fp) elt te)
    (hs : ∀ x, foldedSetIterable iter X.env x = pure x := by intro _; rfl) :
    PE X (.ListComp elt [⟨tg, iter, ifs, 0⟩] scope pos) (tLc (iList X.K tl) g tt te (own.map (·.2))) := by
  refine ⟨fun pins s σ H Q I h => ?_⟩
  rw [eval_ListComp]
  have fre : ∀ y ∈ scope.names, y.2 = .free → ∃ c, X.env.cells.lookup y.1 = some c :=
    fun y hy e => (ok.free y hy e).elim (fun k => I.ok.has _ (.inl k)) fun k => I.ok.has _ (.inr k)
  refine wpAny_comprehension_free (use := none) rfl hs (closure_ok fre) ok.kind
    (fun y hy e => by rw [ok.uniq y hy, e]) (thn (hi.run pins s σ H _ I h) fun v s1 hv => ?_)
  obtain ⟨x, H1, I1, r1, a, rfl, ⟨xs, hq⟩, q⟩ := hv
  cases r1
  obtain ⟨its, rv, lsp, _⟩ := I1.list hq
  refine wpAny_pyIter_list lsp.isList ?_
  have I2 := I1.kept (t' := s1.toks) fun b o e =>
    Heap.get?_push_of_some { cls := .type "list_iterator", data := .fields #[.ref a, .int 0 0] } e
  have st2 : (s1.heap.push { cls := .type "list_iterator", data := .fields #[.ref a, .int 0 0] }).IsListIter s1.heap.objs.size a 0 :=
    ⟨_, Heap.get?_push_size _ rfl, rfl, rfl⟩
  have ft2 : FpOk X pins H1 s1.heap.objs.size := I1.fpOk (Nat.le_refl _) (I1.hok.fresh (Nat.le_refl _))
  generalize s1.heap.objs.size = it at st2 ft2 ⊢
  generalize hs2 : ({ s1 with heap := s1.heap.push { cls := .type "list_iterator", data := .fields #[.ref a, .int 0 0] } } : Shared) = s2 at I2 ⊢
  have st2 : s2.heap.IsListIter it a 0 := hs2 ▸ st2
  clear hs2
  refine wpAny_newObj_type (newEnv_comp ?_) (Nat.zero_le _)
  obtain ⟨L, hL⟩ : ∃ L, s2.heap.objs.size = L := ⟨_, rfl⟩
  have nL : H1 L = none := I2.hok.fresh (Nat.le_of_eq hL)
  rw [hL]
  obtain ⟨W, ⟨m0, w0⟩, turn⟩ := q L nL
  have I3 : Inv X pins σ (upd H1 L (.lst [])) { s2 with heap := s2.heap.push { cls := .type "list", data := .seq ([] : List Value).toArray } } :=
    I2.laid (t' := s2.toks) (fun b o e => Heap.get?_push_of_some _ e) (Nat.le_of_eq hL)
      ⟨Nat.zero_le _, [], 0, .nil, hL ▸ Heap.get?_push_size _ rfl⟩
  obtain ⟨oi, hoi, _⟩ := id st2
  have hlt := Heap.lt_size hoi
  have st3 : (s2.heap.push { cls := .type "list", data := .seq ([] : List Value).toArray }).IsListIter it a 0 :=
    st2.at fun o e => Heap.get?_push_of_some _ e
  have ft3 : ∀ b ∈ [it], FpOk X pins (upd H1 L (.lst [])) b ∧ b < (s2.heap.push { cls := .type "list", data := .seq ([] : List Value).toArray }).objs.size := fun b hb => by
    obtain rfl := List.mem_singleton.mp hb
    refine ⟨⟨?_, ft2.2⟩, by rw [Heap.size_push]; exact Nat.lt_succ_of_lt hlt⟩
    rw [upd_ne (Nat.ne_of_lt (hL ▸ hlt))]
    exact ft2.1
  generalize hs3 : ({ s2 with heap := s2.heap.push { cls := .type "list", data := .seq ([] : List Value).toArray } } : Shared) = s3 at I3 ⊢
  replace st3 : s3.heap.IsListIter it a 0 := hs3 ▸ st3
  replace ft3 : ∀ b ∈ [it], FpOk X pins (upd H1 L (.lst [])) b ∧ b < s3.heap.objs.size := hs3 ▸ ft3
  clear hs3 hoi hlt st2 ft2 I2 I1 hL
  have I4 := block_start I3 ok hN ft3
  have pG := hg s3 (upd H1 L (.lst [])) s3.heap.objs.size (cellsFrom (s3.heap.objs.size + 1) scope.names (cloFrom X.env.cells scope.names [])) [it]
  have pT := ht s3 (upd H1 L (.lst [])) s3.heap.objs.size (cellsFrom (s3.heap.objs.size + 1) scope.names (cloFrom X.env.cells scope.names [])) [it]
  have pE := he s3 (upd H1 L (.lst [])) s3.heap.objs.size (cellsFrom (s3.heap.objs.size + 1) scope.names (cloFrom X.env.cells scope.names [])) [it]
  change codeAny _ _
    (.compStart (.ListComp elt [⟨tg, iter, ifs, 0⟩] scope pos) 0 (.ref it) (.ref L)
      (compEnvC scope (cellsFrom (s3.heap.objs.size + 1) scope.names (cloFrom X.env.cells scope.names [])) s3.heap.objs.size X.env))
    (compPost (model X.prog X.w) X.A X.xe none (EP X pins σ Q) (.ref L) s3.heap.objs.size)
    { s3 with heap := pushCells (s3.heap.push { cls := .type "dict", data := .dict #[] }) scope.names }
  have n3 : (upd H1 L (.lst [])) it = none := (ft3 it (List.mem_singleton.mpr rfl)).1.1
  have hx1 := I3.pin (x1, o1) (List.mem_append_left _ hot.pin)
  have hxo := hot.out I3
  have hxi : x1 ≠ it := (ft3 it (List.mem_singleton.mpr rfl)).1.2.2.2.2.2 (x1, o1) (List.mem_append_left _ hot.pin)
  generalize hce : compEnvC scope (cellsFrom (s3.heap.objs.size + 1) scope.names (cloFrom X.env.cells scope.names [])) s3.heap.objs.size X.env = ce at I4 pG pT pE ⊢
  have cloc : ce.locals = s3.heap.objs.size := hce ▸ rfl
  generalize upd H1 L (.lst []) = H3 at I3 I4 pG pT pE w0 n3 ft3 hx1
  generalize hs4 : ({ s3 with heap := pushCells (s3.heap.push { cls := .type "dict", data := .dict #[] }) scope.names } : Shared) = s4 at I4 ⊢
  have st4 : s4.heap.IsListIter it a 0 :=
    st3.at fun o e => by rw [← hs4]; exact pushCells_keeps _ _ _ _ (Heap.get?_push_of_some _ e)
  clear hs4 hce
  have fpo : ∀ {σ' : L2.St} {H' : Hp} {s' : Shared}, Inv (X.blk s3 H3 scope ce [it]) [] σ' H' s' → H' it = none → FpOk (X.blk s3 H3 scope ce [it]) [] H' it := fun I' hn =>
    have m := List.mem_singleton.mpr rfl
    ⟨hn, (I'.ok.exf it m).1, I'.ok.exfs it m, .inl m, fun x c e => (I'.ok.exf it m).2 x c e, fun p hp => by simp at hp⟩
  have hotB : ∀ {σ' : L2.St} {H' : Hp} {s' : Shared}, Inv (X.blk s3 H3 scope ce [it]) [] σ' H' s' → HotX.HotAt X.A x1 s'.heap := fun I' => by
    obtain ⟨vs, c1, c2⟩ := hot.ctx
    exact ⟨hot.han, o1, vs, I'.base.keep x1 o1 hx1.1 hx1.2.1 hxo (fun z => hxi (List.mem_singleton.mp z)), c1, c2⟩
  have loop : codeAny (model X.prog X.w) X.A
      (.compLoop (.ListComp elt [⟨tg, iter, ifs, 0⟩] scope pos) 0 (.ref it) (.ref L) ce)
      (compPost (model X.prog X.w) X.A X.xe none (EP X pins σ Q) (.ref L) s3.heap.objs.size) s4 := by
    refine compLoop_any (fun n s' => ∃ i H', Inv (X.blk s3 H3 scope ce [it]) [] (wipe σ (own.map (·.2))) H' s' ∧
      s'.heap.IsListIter it a i ∧ H' it = none ∧ W i n H') ?_ m0 ⟨0, H3, I4, st4, n3, w0⟩
    rintro n s5 ⟨i, H5, I5, st5, n5, w5⟩
    obtain ⟨f0, f1, f2, f3, f4, f5⟩ := fpo I5 n5
    rcases turn i n H5 w5 with ⟨⟨ys, hys, hle⟩, qq⟩ | ⟨⟨ys, y, hys, hy⟩, Nx, hNx, step⟩
    · obtain ⟨jts, rv5, ls5, _⟩ := I5.list hys
      have hl5 := rv5.length
      have nx := next_hot (prog := X.prog) (w := X.w) (E := fun _ _ => False)
        (Q := fun r s' => r = none ∧ Inv (X.blk s3 H3 scope ce [it]) [] (wipe σ (own.map (·.2))) H5 s')
        (hotB I5) hxi st5 ls5.isList (by simp; omega) fun h' eb =>
          ⟨rfl, I5.turned (t' := s5.toks) (fun b o hb e => eb b o hb e) f0 f1 f3 f4 f5⟩
      refine thnF nx fun r s6 ⟨hr, I6⟩ => ?_
      subst hr
      have I7 : Inv X pins σ H5 s6 := I3.call' (ch := [it]) I6.os I6.base I6.hok I6.bare fun b hb =>
        have z := (ft3 b hb).1
        ⟨z.2.2.2.1, z.2.1, z.2.2.2.2.1, z.2.2.2.2.2⟩
      have nC : H5 s3.heap.objs.size = none := cloc ▸ I6.free
      obtain ⟨m, hn, _⟩ := I6.loc
      have hm : s6.heap.Ns s3.heap.objs.size m := cloc ▸ hn
      obtain ⟨k0, k1, k2, k3, k4, k5⟩ := I3.fpOk (H' := H5) (Nat.le_refl _) nC
      exact ⟨m, hm, fun h2 sb => ⟨.ref L, H5, I7.turned (t' := s6.toks) (fun b o hb e => (sb.2 b hb).trans e) k0 k1 k3 k4 k5, rfl, qq⟩⟩
    · obtain ⟨jts, rv5, ls5, _⟩ := I5.list hys
      obtain ⟨u, hu, ru⟩ := rv5.get hy
      refine wpAny_pyNext_list_item st5 ls5.isList (x := u) (by simpa using hu) fun h' st6 sb => ?_
      have I6 : Inv (X.blk s3 H3 scope ce [it]) [] (wipe σ (own.map (·.2))) H5 { s5 with heap := h' } :=
        I5.turned (t' := s5.toks) (fun b o hb e => (sb.2 b hb).trans e) f0 f1 f3 f4 f5
      obtain ⟨oi, ho1, ho2, ho3⟩ := id st6
      change wpAny _ _ (letOwnedTupleGo tg (.ref it) u) _ _ _
      refine go_of (s := { s5 with heap := h' }) ho1 ho2 ho3 (by decide) ?_
      replace ho1 : ({ s5 with heap := h' } : Shared).heap.get? it = some oi := ho1
      generalize ({ s5 with heap := h' } : Shared) = s7 at I6 st6 ho1 ⊢
      have hyl : (Itl X.K a).yld i H5 y H5 := ⟨rfl, fun zs hz => by rw [I6.list_inj hz hys]; exact hy⟩
      have I7 := I6.pinned (fp := [it])
        (fun b hb => by obtain rfl := List.mem_singleton.mp hb; exact fpo I6 n5)
        (fun b hb => by obtain rfl := List.mem_singleton.mp hb; exact ⟨oi, ho1, fun v z => by rw [ho3] at z; cases z⟩)
      have back : ∀ {σ' : L2.St} {s' : Shared} {H' : Hp}, wipe σ' (own.map (·.2)) = wipe σ (own.map (·.2)) →
          Inv (X.blk s3 H3 scope ce [it]) ([] ++ pinsAt [it] s7.heap) σ' H' s' → Nx H' →
          ∃ m, m < n ∧ ∃ i H', Inv (X.blk s3 H3 scope ce [it]) [] (wipe σ (own.map (·.2))) H' s' ∧ s'.heap.IsListIter it a i ∧ H' it = none ∧ W i m H' := fun {σ' s' H'} hw I' nx => by
        obtain ⟨m', hm, w'⟩ := hNx H' nx
        have hp := I'.pin (it, oi) (List.mem_append_right _ (List.mem_append_right _ (mem_pinsAt (List.mem_singleton.mpr rfl) ho1)))
        have hlen : (wipe σ (own.map (·.2))).length = σ'.length := by rw [← hw, wipe_length]
        refine ⟨m', hm, i + 1, H', (I'.unpinned (pins := [])).weak hlen (fun jj vv e => ?_), ⟨oi, hp.1, ho2, ho3⟩, hp.2.1, w'⟩
        rw [← hw] at e
        exact (wipe_some e).1
      refine thnF (pG.run _ s7 _ H5 y u _ I7 ru (step y H5 hyl)) fun _ s8 ⟨σ8, H8, I8, hw8, q8⟩ => ?_
      refine thnF (pT.run _ s8 σ8 H8 _ I8 q8) fun b s9 ⟨H9, I9, q9⟩ => ?_
      cases b with
      | false =>
        rw [if_neg (by decide)] at q9 ⊢
        exact back hw8 I9 q9
      | true =>
        rw [if_pos rfl] at q9 ⊢
        refine thnF (pE.run _ s9 σ8 H9 _ I9 q9) fun zv s10 ⟨yv, H10, I10, r10, acc, hD10, hz10, nx⟩ => ?_
        exact app_ok (X := X.blk s3 H3 scope ce [it]) I10 hD10 hz10 r10 fun s11 I11 => back hw8 I11 nx
  exact codeAny_compStart_list loop (wpAny_pyIter_listiter st4 loop)
theorem pe_lcHK {K : PySem.W.Frag} {elt tg iter : Expr} {ifs : List Expr} {scope : Scope} {own : List (Str × Nat)} {pos : Pos} {tl : TE} {g : TG} {tt : TT} {te : TE}
    (hK : X.K = K) (hot : HotCx X x1 o1) (hN : X.N.Nodup) (hi : PE X iter tl) (ok : BlkOk X.N X.env.scope scope own)
    (hg : ∀ (s : Shared) (H : Hp) (C : Addr) (cl : List (Str × Addr)) (fp : List Addr), PG (X.blk s H scope (compEnvC scope cl C X.env) fp) tg g)
    (ht : ∀ (s : Shared) (H : Hp) (C : Addr) (cl : List (Str × Addr)) (fp : List Addr), PTs (X.blk s H scope (compEnvC scope cl C X.env) fp) ifs tt)
    (he : ∀ (s : Shared) (H : Hp) (C : Addr) (cl : List (Str × Addr)) (fp : List Addr), PE (X.blk s H scope (compEnvC scope cl C X.env) fp) elt te)
    (hs : ∀ x, foldedSetIterable iter X.env x = pure x := by intro _; rfl) :
    PE X (.ListComp elt [⟨tg, iter, ifs, 0⟩] scope pos) (tLc (iList K tl) g tt te (own.map (·.2))) := hK ▸ pe_lcH hot hN hi ok hg ht he hs
theorem hot_suite {a : Addr} {oe : Obj} {cls : Value} {d : Option Addr} {pn : List (Addr × Obj)} (hz : L2N.Zn cls d oe) (hf : ∃ vs, oe.data = .fields vs) : HotCx (X.suite a ((a, oe) :: pn)) a oe :=
  ⟨rfl, List.mem_cons_self, hf.imp fun vs h => ⟨h, hz.2.2 vs h⟩⟩
end
theorem call_isGN {X : Cx} {K : PySem.W.Frag} {a : Addr} {oe : Obj} {cls : Value} {d : Option Addr} {pn : List (Addr × Obj)} (h : X.K = K) (hz : L2N.Zn cls d oe) (hf : ∃ vs, oe.data = .fields vs) : CallR (X.suite a ((a, oe) :: pn)) (.builtin "isinstance") (rIsG K cls d a) := call_isGK h hz.zc hf
theorem pmk_exc0N {X : Cx} {x : Str} {p pos : Pos} (c : (He.Fa.exc x).ok X.K = true) (gC : X.mg x = some (.ref (He.ga X.K x))) (hg : Gl X x) (hdb : (x == ("__debug__" : Str)) = false := by decide) :
    L2N.PMk X (.Call (.Name x p) [] [] pos) (fun _ H Q => Q (.ref (He.ga X.K x)) none H) := by
  obtain ⟨q, kC, s1, t1⟩ := He.exc_ok c
  intro pins s σ H Q I h
  refine wpAny_Call_Name_kw (ld_glob I hg gC ?_ hdb)
  refine PySem.W.callWith_K0 I.kIn kC ?_
  show wpAny _ _ (call (.ref (He.ga X.K x)) []) _ _ _
  obtain ⟨bm, N, nm, qn, bs, hdct, sn, sub, ab, col, dd, k0, k1, k2, k3, k5, mN, hC, hN, hni, T⟩ := exc_obj I.kIn q
  refine wpAny_call_exc_subT PySem.F.excBase_ValueError T hC hN hni (fun h' e hm => ?_) (by show 0 ≤ sizeLine; exact Nat.zero_le _)
  exact L2N.mk_of I hm (raises_own s1 t1) h (I.hok.gone hm.new)
theorem passLN {X : Cx} : Passes (L2N.CX X.prog X.w) X E0 := fun _ _ _ _ _ _ _ h => by
  obtain ⟨_, _, _, _, _, _, _, _, _, _, _, _, z⟩ := h
  exact z.elim
theorem takes0N {X : Cx} : L2N.Takes X (fun _ _ _ _ => False) := fun _ _ x => by
  obtain ⟨_, _, _, _, _, _, _, _, _, _, _, _, _, _, _, _, z⟩ := x
  exact z.elim
theorem walks_hot {prog : Program} {w : World} {A : Around} {x1 : Addr} {o1 : Obj} {vs1 : Array Value} (hh : A.handled = some (.ref x1)) (d1 : o1.data = .fields vs1) (c1 : vs1[2]? = some .none)
    (I ax : Addr) (hne : ax ≠ I) (hx : x1 ≠ I) (items : Array Value) :
    Walks prog w A I [I, ax, x1] [I] items.size (fun i v => items[i]? = some v) (fun i h => h.IsListIter I ax i ∧ h.IsList ax items ∧ h.get? x1 = some o1) where
  sub := fun b hb => by obtain rfl := List.mem_singleton.mp hb; exact List.mem_cons_self
  frame := fun _ _ _ st hk => ⟨st.1.at fun o e => hk I (by simp) o e, st.2.1.at fun o e => hk ax (by simp) o e, hk x1 (by simp) o1 st.2.2⟩
  item := fun i s Q E hi st hQ =>
    wpAny_pyNext_list_item st.1 st.2.1 (x := items[i]) (by simp [hi]) fun h' hit' sb =>
      hQ _ h' s.toks (by simp [hi]) ⟨hit', st.2.1.extBut sb.extBut hne, sb.extBut x1 o1 hx st.2.2⟩
        fun b o hb e => sb.extBut b o (fun z => hb (List.mem_singleton.mpr z)) e
  done := fun s Q E st hQ =>
    next_hot ⟨hh, o1, vs1, st.2.2, d1, c1⟩ hx st.1 st.2.1 (by simp) fun h' eb =>
      hQ h' s.toks fun b o hb e => eb b o (fun z => hb (List.mem_singleton.mpr z)) e
  self := fun _ _ _ _ st hQ => wpAny_pyIter_listiter st.1 hQ
theorem cr_sumH {X : Cx} {K : PySem.W.Frag} {x1 : Addr} {o1 : Obj} (hK : X.K = K) (hot : HotCx X x1 o1) : CallR X (.builtin "sum") (rSum K) := by
  subst hK
  intro pins s σ H vs us Q I r h
  obtain ⟨a, ns, rfl, hs, q⟩ := h
  obtain ⟨its, rv, hl, _⟩ := I.list hs
  rw [Vals.ref1 r]
  obtain ⟨xs, ei⟩ := rv.ints.allInts.items
  have hn : numsOf (intItems xs).toList = ns := by rw [← ei]; exact rv.ints.numsOf
  rw [nums_intItems] at hn
  have hli := hl.isList
  rw [ei] at hli
  obtain ⟨vs1, d1, c1⟩ := hot.ctx
  obtain ⟨px, _⟩ := I.pin (x1, o1) (List.mem_append_left _ hot.pin)
  have hlt := Heap.lt_size px
  refine call_sum_walkG (iter_intList hli fun s2 e st hfp hne => ?_)
  subst e
  have p2 := Heap.get?_push_of_some { cls := .type "list_iterator", data := .fields #[.ref a, .int 0 0] } px
  refine ⟨_, _, _, _, _, _, numAt xs, rfl, walks_hot (A := X.A.in1) hot.han d1 c1 _ a hne (Nat.ne_of_lt hlt) (intItems xs), ⟨st.1, st.2, p2⟩, fun b hb => ?_, fun _ _ => intItems_at, fun h' tk t' hk => ?_⟩
  · rcases List.mem_cons.mp hb with z | hb
    · exact hfp b (by rw [z]; simp)
    · rcases List.mem_cons.mp hb with z | hb
      · exact hfp b (by rw [z]; simp)
      · rw [List.mem_singleton.mp hb]; exact Heap.lt_size p2
  · have e : preSum (numAt xs) (intItems xs).size = ns.sum := by
      rw [preSum_eq, List.take_of_length_le (by simp [intItems]), hn]
    refine ⟨.int ns.sum, H, I.kept (t' := tk) fun b o eb => hk b o (fun z => ?_) (Heap.get?_push_of_some _ eb), ⟨t', by rw [e]⟩, q⟩
    exact absurd (List.mem_singleton.mp z) (Nat.ne_of_lt (Heap.lt_size eb))
end Lv

/-! {f(x): x for x in xs} over a list; list(d) of a dict keyed by ints; xs.extend(ys) -/
namespace Lv
open PySem PySem.Spec PyProof.Rows L2
/-- what stands there when the pairs are put behind each other -/
def PutOk (zs : List (Int × V)) (kvs : List (L2.Key × V)) : Prop := ∃ ns : List Int, kvs.map (·.1) = ns.map Sum.inl ∧ ns.Nodup ∧ (∀ k, k ∈ ns ↔ ∃ v, (k, v) ∈ zs) ∧ ∀ k ∈ ns, ∃ v, valV kvs (.inl k) = some v ∧ (k, v) ∈ zs
theorem PutOk.nil : PutOk [] [] := ⟨[], rfl, List.nodup_nil, fun k => ⟨fun h => (nomatch h), fun ⟨_, h⟩ => (nomatch h)⟩, fun k h => (nomatch h)⟩
theorem inl_mem {ns : List Int} {k : Int} : (Sum.inl k : L2.Key) ∈ ns.map Sum.inl ↔ k ∈ ns := by
  constructor
  · intro h
    obtain ⟨a, ha, e⟩ := List.mem_map.mp h
    injection e with e
    rw [← e]; exact ha
  · exact fun h => List.mem_map_of_mem h
theorem PutOk.add {zs : List (Int × V)} {kvs : List (L2.Key × V)} (h : PutOk zs kvs) (k : Int) (v : V) : PutOk (zs ++ [(k, v)]) (putK kvs (.inl k) v) := by
  obtain ⟨ns, h1, h2, h3, h4⟩ := h
  have hval : ∀ j, valV (putK kvs (.inl k) v) (.inl j) = if j = k then some v else valV kvs (.inl j) := fun j => by
    rw [valV_put]
    by_cases c : j = k
    · rw [if_pos c, if_pos (by rw [c])]
    · rw [if_neg c, if_neg fun e => c (Sum.inl.inj e)]
  by_cases m : k ∈ ns
  · refine ⟨ns, ?_, h2, fun j => ?_, fun j hj => ?_⟩
    · obtain ⟨u, hu, _⟩ := h4 k m
      have hk : (putK kvs (.inl k) v).map (·.1) = kvs.map (·.1) := by
        unfold putK
        rw [if_pos (by rw [valV_any, hu]; rfl), List.map_map]
        refine List.map_congr_left fun x _ => ?_
        show (if x.1 = Sum.inl k then (x.1, v) else x).1 = x.1
        split <;> rfl
      rw [hk, h1]
    · constructor
      · intro hj
        obtain ⟨u, hu⟩ := (h3 j).mp hj
        exact ⟨u, List.mem_append_left _ hu⟩
      · rintro ⟨u, hu⟩
        rcases List.mem_append.mp hu with hu | hu
        · exact (h3 j).mpr ⟨u, hu⟩
        · rw [List.mem_singleton] at hu
          injection hu with e1 e2
          rw [e1]; exact m
    · rw [hval]
      by_cases c : j = k
      · rw [if_pos c]
        exact ⟨v, rfl, List.mem_append_right _ (by rw [c]; exact List.mem_singleton_self _)⟩
      · rw [if_neg c]
        obtain ⟨u, q1, q2⟩ := h4 j hj
        exact ⟨u, q1, List.mem_append_left _ q2⟩
  · have hno : ∀ x ∈ kvs, x.1 ≠ Sum.inl k := fun x hx e => m (inl_mem.mp (by rw [← h1, ← e]; exact List.mem_map_of_mem hx))
    refine ⟨ns ++ [k], ?_, ?_, fun j => ?_, fun j hj => ?_⟩
    · rw [putK_keyv hno, List.map_append, h1, List.map_append]; rfl
    · refine List.nodup_append.mpr ⟨h2, List.nodup_cons.mpr ⟨fun h => (nomatch h), List.nodup_nil⟩, fun a ha b hb e => m ?_⟩
      rw [List.mem_singleton] at hb
      rw [← hb, ← e]; exact ha
    · rw [List.mem_append, List.mem_singleton, h3]
      constructor
      · rintro (⟨u, hu⟩ | rfl)
        · exact ⟨u, List.mem_append_left _ hu⟩
        · exact ⟨v, List.mem_append_right _ (List.mem_singleton_self _)⟩
      · rintro ⟨u, hu⟩
        rcases List.mem_append.mp hu with hu | hu
        · exact .inl ⟨u, hu⟩
        · rw [List.mem_singleton] at hu
          injection hu with e1 e2
          exact .inr e1
    · rw [hval]
      by_cases c : j = k
      · rw [if_pos c]
        exact ⟨v, rfl, List.mem_append_right _ (by rw [c]; exact List.mem_singleton_self _)⟩
      · rw [if_neg c]
        rcases List.mem_append.mp hj with hj | hj
        · obtain ⟨u, q1, q2⟩ := h4 j hj
          exact ⟨u, q1, List.mem_append_left _ q2⟩
        · exact absurd (List.mem_singleton.mp hj) c
theorem zip_take_more {ks : List Int} {xs : List V} {i : Nat} {k : Int} {x : V} (h1 : ks[i]? = some k) (h2 : xs[i]? = some x) : (ks.zip xs).take (i + 1) = (ks.zip xs).take i ++ [(k, x)] := take_more (List.getElem?_zip_eq_some.mpr ⟨h1, h2⟩)
section
variable {K : PySem.W.Frag} {σ : L2.St} {G P H : Hp} {Q : VK} {tt : TT} {ta tk tv : TE} {g : TG} {ts : List Nat} {a : Addr} {xs : List V} {ks : List Int} {j : Nat}
def aDcL (K : PySem.W.Frag) (g : TG) (tt : TT) (tk tv : TE) (vs : List Nat) (σ : L2.St) : V → Hp → VK → Prop := fun x H Q => tDc (fun _ H R => ∃ a, x = .ref a ∧ (∃ xs, SqL K H a xs) ∧ R (Itl K a) H) g tt tk tv vs σ H Q
theorem w_dcL (h : ta σ H fun x H1 => aDcL K g tt tk tv ts σ x H1 Q) : tDc (iList K ta) g tt tk tv ts σ H Q := h
/-- a dict of a list's things by a number of each -/
theorem aDcL.go (J : Join G P H) (hS : G a = some (.lst xs)) (hlk : ks.length = xs.length) (hl : xs.length ≤ 100000)
    (hw : ∀ x, wipe ((wipe σ ts).set j (some x)) ts = wipe σ ts)
    (hk : ∀ (i : Nat) (x : V) (k : Int) (H' : Hp) (S : VK), xs[i]? = some x → ks[i]? = some k → Ex H H' → S (.int k) H' → tk ((wipe σ ts).set j (some x)) H' S)
    (hv : ∀ (x : V) (H' : Hp) (S : VK), S x H' → tv ((wipe σ ts).set j (some x)) H' S)
    (hq : ∀ d G' H' kvs, H d = none → Ex G G' → Join G' P H' → G' d = some (.dK kvs) → PutOk (ks.zip xs) kvs → kvs.length ≤ xs.length → Q (.ref d) H') : aDcL K (gName j) tYes tk tv ts σ (.ref a) H Q := by
  refine ⟨a, rfl, ⟨_, sqL (J.g _ _ hS)⟩, fun D hD => ?_⟩
  have oth : ∀ {c : Addr} {o u : HO}, H c = some o → upd H D u c = some o := fun {c o u} h => by rw [upd_ne (ne_of_none h hD)]; exact h
  refine ⟨fun i m H' => m = xs.length - i ∧ i ≤ xs.length ∧ ∃ kvs, PutOk ((ks.zip xs).take i) kvs ∧ kvs.length ≤ i ∧ H' = upd H D (.dK kvs), ⟨xs.length, by simp, Nat.zero_le _, [], PutOk.nil, Nat.le_refl _, rfl⟩, ?_⟩
  rintro i m H' ⟨rfl, hi, kvs, hp, hle, rfl⟩
  by_cases hlt : i < xs.length
  · refine .inr ⟨⟨xs, xs[i], sqL (oth (J.g _ _ hS)), by simp [hlt]⟩, fun H2 => ∃ kvs, PutOk ((ks.zip xs).take (i + 1)) kvs ∧ kvs.length ≤ i + 1 ∧ H2 = upd H D (.dK kvs), fun H2 p => ⟨xs.length - (i + 1), by omega, rfl, by omega, p⟩, fun x H2 y => ?_⟩
    obtain ⟨rfl, y⟩ := y
    have hx : xs[i]? = some x := y xs (sqL (oth (J.g _ _ hS)))
    have hki : ks[i]? = some ks[i] := List.getElem?_eq_getElem (by omega)
    refine ⟨hw _, w_yes ?_⟩
    show tk _ _ _
    refine hk i x ks[i] _ _ hx hki (Ex.new hD) (hv x _ _ ?_)
    refine ⟨kvs, .inl ks[i], rfl, upd_same, szlt (by omega), _, (zip_take_more hki hx) ▸ hp.add ks[i] x, Nat.le_trans (length_putK _ _ _) (by omega), ?_⟩
    funext c
    by_cases hc : c = D
    · rw [hc, upd_same, upd_same]
    · rw [upd_ne hc, upd_ne hc, upd_ne hc]
  · have ei : i = xs.length := by omega
    subst ei
    refine .inl ⟨⟨xs, sqL (oth (J.g _ _ hS)), Nat.le_refl _⟩, ?_⟩
    rw [List.take_of_length_le (by rw [List.length_zip]; omega)] at hp
    exact hq D (upd G D _) _ kvs hD (Ex.new (J.ng hD)) (J.newG hD) upd_same hp hle
/-- list(d) -/
def rListDK : List V → Hp → VK → Prop := fun xs H Q => ∃ (a : Addr) (kvs : List (L2.Key × V)), xs = [.ref a] ∧ Rd H a (.dK kvs) ∧ ∀ p, H p = none → Q (.ref p) (upd H p (.lst (kvs.map fun kv => kV kv.1)))
theorem cr_listDK {X : Cx} (hc : X.calm = true) : CallR X (.type "list") rListDK := call_listD hc
theorem listDK_go {d : Addr} {kvs : List (L2.Key × V)} {ns : List Int} (J : Join G P H) (h : Rd H d (.dK kvs)) (hk : kvs.map (·.1) = ns.map Sum.inl)
    (q : ∀ p G' H', H p = none → Ex G G' → Join G' P H' → G' p = some (.lst (ns.map V.int)) → Q (.ref p) H') : rListDK [.ref d] H Q := by
  refine ⟨d, _, rfl, h, fun p hp => ?_⟩
  have e : (kvs.map fun kv => kV kv.1) = ns.map V.int := by
    have := congrArg (List.map kV) hk
    rw [List.map_map, List.map_map] at this
    exact this
  rw [e]
  exact q p _ _ hp (Ex.new (J.ng hp)) (J.newG hp) upd_same
theorem extP {l b : Addr} {xs zs : List V} (J : Join G P H) (e : P l = some (.lst xs)) (hb : H b = some (.lst zs)) (z : xs.length + zs.length < 100000) (q : ∀ H', Join G (upd P l (.lst (xs ++ zs))) H' → Q .non H') : rExtend (.ref l) [.ref b] H Q :=
  ⟨l, b, xs, zs, rfl, rfl, J.p _ _ e, hb, Nat.le_of_lt (szlt z), q _ (J.setP (J.gn e))⟩
end
end Lv

/-! for t in e, e a call that gives a dict keyed by tuples: it is locked where it stands, and stays so -/
namespace Lv
open PySem PySem.Spec PyProof.Rows L2
section
variable {X : Cx}
def iKeysF (td : TE) : TI := fun σ H R => td σ H fun x H1 => ∃ d kvs, x = .ref d ∧ H1 d = some (.dT kvs) ∧ ∀ o, R (Itkt d o kvs) (upd H1 d (.frz o (.dT kvs)))
theorem pi_keysF {tg e : Expr} {td : TE} (he : PE X e td) : PI X tg e (iKeysF td) := by
  refine ⟨fun pins s σ H R I h => ?_⟩
  refine thn (he.run pins s σ H _ I h) fun u s1 ⟨x, H1, I1, rx, d, kvs, ex, hd0, q⟩ => ?_
  subst ex
  obtain rfl : u = Value.ref d := rx
  obtain ⟨od, I2⟩ := I1.lock hd0 trivial
  have hd : (upd H1 d (.frz od (.dT kvs))) d = some (.frz od (.dT kvs)) := upd_same
  obtain ⟨hs, hgd, hx, es, ep, hdt, hsz, ent⟩ := I2.frzT hd
  refine iter_keys hs hgd hx hdt (pi_one (tk := s1.toks) I2 _ (turn_keysT _ hdt) ⟨_, Heap.get?_push_size _ rfl, rfl, ?_⟩ (q od))
  rw [hsz] <;> rfl
end
section
variable {σ : L2.St} {G P H : Hp} {nx : L2.St → Hp → Prop} {rt : VK} {bk ct : L2.St → Hp → Prop} {td : TE} {g : TG} {tb : TS} {d : Addr} {D : Ends}
def aForKF (g : TG) (tb : TS) (D : Ends) (σ : L2.St) : V → Hp → Prop := fun x H => tFor (fun _ H1 R => ∃ d kvs, x = .ref d ∧ H1 d = some (.dT kvs) ∧ ∀ o, R (Itkt d o kvs) (upd H1 d (.frz o (.dT kvs)))) g tb D σ H
theorem w_forKF (h : td σ H fun x H1 => aForKF g tb D σ x H1) : tFor (iKeysF td) g tb D σ H := h
theorem aForKF.go {kvs : List (List Int × V)} (J : Join G P H) (h : P d = some (.dT (tK kvs))) (I : Nat → Hp → Hp → L2.St → Prop) (h0 : ∀ od, I 0 G (upd P d (.frz od (.dT (tK kvs)))) σ)
    (hs : ∀ (od : Obj) (rt' : VK) (bk' : L2.St → Hp → Prop) (i : Nat) (k : List Int) (v : V) (b : Addr) (G' P' H' : Hp) (σ' : L2.St), kvs[i]? = some (k, v) → H' b = some (.tup (k.map V.int)) → P' d = some (.frz od (.dT (tK kvs))) → Join G' P' H' → I i G' P' σ' →
      g (.ref b) σ' H' fun σ2 H2 => tb ⟨fun σ3 H3 => ∃ G3 P3, Join G3 P3 H3 ∧ P3 d = some (.frz od (.dT (tK kvs))) ∧ I (i + 1) G3 P3 σ3, rt', bk', fun σ3 H3 => ∃ G3 P3, Join G3 P3 H3 ∧ P3 d = some (.frz od (.dT (tK kvs))) ∧ I (i + 1) G3 P3 σ3⟩ σ2 H2)
    (hq : ∀ (od : Obj) (G' P' H' : Hp) (σ' : L2.St), P' d = some (.frz od (.dT (tK kvs))) → I kvs.length G' P' σ' → Join G' P' H' → nx σ' H') : aForKF g tb ⟨nx, rt, bk, ct⟩ σ (.ref d) H := by
  refine ⟨d, tK kvs, rfl, J.p _ _ h, fun od => ?_⟩
  refine for_keysT (fun i σ' H' => ∃ G3 P3, Join G3 P3 H' ∧ P3 d = some (.frz od (.dT (tK kvs))) ∧ I i G3 P3 σ') ⟨G, _, J.setP (J.gn h), upd_same, h0 od⟩ (fun i σ' H' _ ⟨G', P', j', hd, _⟩ => j'.p _ _ hd) (fun i k v b σ' H' hk hb ⟨G', P', j', hd, hI⟩ => ?_) (fun σ' H' ⟨G', P', j', hd, hI⟩ => hq od G' P' _ σ' hd (by rw [tK_len] at hI; exact hI) j')
  obtain ⟨n, hn, rfl⟩ := tK_at hk
  exact hs od _ _ i n v b G' P' H' σ' hn (by rw [hb, tup_kV]) hd j' hI
end
end Lv

/-! {t: c for t in ts}, the keys tuples of ints, ts a tuple -/
namespace Lv
open PySem PySem.Spec PyProof.Rows L2
section
variable {X : Cx}
theorem dcG_core {pins : List (Addr × Obj)} {s : Shared} {σ : L2.St} {H : Hp} {Q : VK} {use : Option (Value → Sem Unit)} {Qf : Value → Shared → Prop} {pos' : Pos} {kx vx tg iter : Expr} {ifs : List Expr} {scope : Scope} {own : List (Str × Nat)} {pos : Pos} {wi : TI} {g : TG} {tt : TT} {tk tv : TE} {o0 : HO} (em : Emp o0) (hu : X.A.units + 1 < cLine) (hc : X.calm = true) (hN : X.N.Nodup) (hi : PI X tg iter wi) (ok : BlkOk X.N X.env.scope scope own)
    (hg : ∀ (s : Shared) (H : Hp) (C : Addr) (cl : List (Str × Addr)) (fp : List Addr), PG (X.blk s H scope (compEnvC scope cl C X.env) fp) tg g) (ht : ∀ (s : Shared) (H : Hp) (C : Addr) (cl : List (Str × Addr)) (fp : List Addr), PTs (X.blk s H scope (compEnvC scope cl C X.env) fp) ifs tt)
    (hk : ∀ (s : Shared) (H : Hp) (C : Addr) (cl : List (Str × Addr)) (fp : List Addr), PE (X.blk s H scope (compEnvC scope cl C X.env) fp) kx tk)
    (he : ∀ (s : Shared) (H : Hp) (C : Addr) (cl : List (Str × Addr)) (fp : List Addr), PE (X.blk s H scope (compEnvC scope cl C X.env) fp) vx tv) (hs : ∀ x, foldedSetIterable iter X.env x = pure x) (I : L2.Inv X pins σ H s) (h : tDcG o0 wi g tt tk tv (own.map (·.2)) σ H Q)
    (hRR : ∀ D C s' m H', L2.Inv X pins σ H' s' → Q (.ref D) H' → s'.heap.Ns C m → FpOk X pins H' C → compPost (model X.prog X.w) X.A X.xe use Qf (.ref D) C (.ok .next) s') :
    wpAny (model X.prog X.w) X.A (comprehension (.DictComp kx vx [⟨tg, iter, ifs, 0⟩] scope pos) scope X.env pos' newDict false (eval iter X.env) use) Qf X.xe s := by
  refine dc_frame (Q := Q) (R := fun J D H3 => ∃ W : Nat → Nat → Hp → Prop, (∃ m, W 0 m H3) ∧ ∀ i m H, W i m H →
    (J.stop i H ∧ Q (.ref D) H) ∨ (J.go i H ∧ ∃ Nx : Hp → Prop, (∀ H', Nx H' → ∃ m', m' < m ∧ W (i + 1) m' H') ∧ ∀ x H', J.yld i H x H' → g x (wipe σ (own.map fun p : Str × Nat => p.2)) H' fun σ2 H2 => wipe σ2 (own.map fun p : Str × Nat => p.2) = wipe σ (own.map fun p : Str × Nat => p.2) ∧ tt σ2 H2 fun b H3 =>
      if b = true then tk σ2 H3 fun y H4 => tv σ2 H4 fun z H5 => ∃ H6, DPut H5 D y z H6 ∧ Nx H6 else Nx H3)) hc hN em I hi ok hs h ?_ hRR
  · rintro J D fp it tn s3 H3 ce C cl s4 ⟨W, ⟨m0, w0⟩, turn⟩ ⟨rfl, T, I4, st4, nfp, stat⟩ hexit
    refine compLoop_anyD (fun n s' => ∃ i H', L2.Inv (X.blk s3 H3 scope (compEnvC scope cl C X.env) fp) [] (wipe σ (own.map (·.2))) H' s' ∧ tn i s'.heap ∧ (∀ b ∈ fp, H' b = none) ∧ W i n H') ?_ m0 ⟨0, H3, I4, st4, nfp, w0⟩
    rintro n s5 ⟨i, H5, I5, st5, n5, w5⟩
    rcases turn i n H5 w5 with ⟨stop, qq⟩ | ⟨go, Nx, hNx, step⟩
    · refine thnF (T.done (X.blk s3 H3 scope (compEnvC scope cl C X.env) fp) rfl rfl rfl hc i [] s5 _ H5 (fun _ _ => False) I5 (stat I5 n5) st5 stop) fun r s6 ⟨hr, I6⟩ => ?_
      subst hr
      exact hexit H5 s6 I6 qq
    · refine thnF (T.item (X.blk s3 H3 scope (compEnvC scope cl C X.env) fp) rfl rfl rfl hc i [] s5 _ H5 (fun _ _ => False) I5 (stat I5 n5) st5 go) fun r s6 ⟨u, hr, h6⟩ => ?_
      subst hr
      refine thnF h6 fun _ s7 ⟨x, H7, I7, r7, y7, st7, n7⟩ => ?_
      have I7' := I7.pinned (stat I7 n7) (T.obj _ _ st7)
      refine thnF ((hg _ _ _ _ _).run _ s7 _ H7 x u _ I7' r7 (step x H7 y7)) fun _ s8 ⟨σ8, H8, I8, hw8, q8⟩ => ?_
      refine thnF ((ht _ _ _ _ _).run _ s8 σ8 H8 _ I8 q8) fun b s9 ⟨H9, I9, q9⟩ => ?_
      have fin : ∀ {s' : Shared} {H' : Hp}, L2.Inv (X.blk s3 H3 scope (compEnvC scope cl C X.env) fp) ([] ++ pinsAt fp s7.heap) σ8 H' s' → Nx H' → ∃ m, m < n ∧ ∃ i H', L2.Inv (X.blk s3 H3 scope (compEnvC scope cl C X.env) fp) [] (wipe σ (own.map (·.2))) H' s' ∧ tn i s'.heap ∧ (∀ b ∈ fp, H' b = none) ∧ W i m H' := fun {s' H'} I' nx => by
        obtain ⟨m', hm, w'⟩ := hNx H' nx
        have pin' : ∀ b ∈ fp, ∀ o, s7.heap.get? b = some o → s'.heap.get? b = some o ∧ H' b = none := fun b hb o e =>
          let z := I'.pin (b, o) (List.mem_append_right _ (List.mem_append_right _ (mem_pinsAt hb e)))
          ⟨z.1, z.2.1⟩
        refine ⟨m', hm, i + 1, H', (I'.unpinned (pins := [])).weak (by rw [← hw8, wipe_length]) (fun j v e => by rw [← hw8] at e; exact (wipe_some e).1), T.keep _ _ _ st7 fun b hb o e => (pin' b hb o e).1, fun b hb => ?_, w'⟩
        obtain ⟨o, e, _⟩ := T.obj _ _ st7 b hb
        exact (pin' b hb o e).2
      cases b with
      | false =>
        simp only [Bool.false_eq_true, if_false] at q9 ⊢
        exact fin I9 q9
      | true =>
        simp only [if_true] at q9 ⊢
        refine thnF ((hk _ _ _ _ _).run _ s9 σ8 H9 _ I9 q9) fun z s10 ⟨yk, H10, I10, r10, q10⟩ => ?_
        refine thnF ((he _ _ _ _ _).run _ s10 σ8 H10 _ I10 q10) fun z2 s11 ⟨yv, H11, I11, r11, H12, dp, nx⟩ => ?_
        exact put_any (X := X.blk s3 H3 scope (compEnvC scope cl C X.env) fp) hu I11 dp r10 r11 fun s12 I12 => fin I12 nx
theorem ps_setDcG {i : Nat} {y : Str} {py spos : Pos} {kx vx tg iter : Expr} {ifs : List Expr} {scope : Scope} {own : List (Str × Nat)} {pos : Pos} {wi : TI} {g : TG} {tt : TT} {tk tv : TE} {o0 : HO} (em : Emp o0) (hu : X.A.units + 1 < cLine) (hc : X.calm = true) (hN : X.N.Nodup) (hy : X.N[i]? = some y) (hyl : X.env.scope.names.lookup y = some .local)
    (hsw : swapsWith (.DictComp kx vx [⟨tg, iter, ifs, 0⟩] scope pos) (some (.Name y py)) spos.line X.env = pure true) (hi : PI X tg iter wi) (ok : BlkOk X.N X.env.scope scope own)
    (hg : ∀ (s : Shared) (H : Hp) (C : Addr) (cl : List (Str × Addr)) (fp : List Addr), PG (X.blk s H scope (compEnvC scope cl C X.env) fp) tg g) (ht : ∀ (s : Shared) (H : Hp) (C : Addr) (cl : List (Str × Addr)) (fp : List Addr), PTs (X.blk s H scope (compEnvC scope cl C X.env) fp) ifs tt)
    (hk : ∀ (s : Shared) (H : Hp) (C : Addr) (cl : List (Str × Addr)) (fp : List Addr), PE (X.blk s H scope (compEnvC scope cl C X.env) fp) kx tk)
    (he : ∀ (s : Shared) (H : Hp) (C : Addr) (cl : List (Str × Addr)) (fp : List Addr), PE (X.blk s H scope (compEnvC scope cl C X.env) fp) vx tv) (hs : ∀ x, foldedSetIterable iter X.env x = pure x := by intro _; rfl) :
    PS X (.Assign [.Name y py] (.DictComp kx vx [⟨tg, iter, ifs, 0⟩] scope pos) spos) (tAsg (tDcG o0 wi g tt tk tv (own.map (·.2))) (gName i)) := by
  refine ⟨fun pins s σ H D I h => ?_⟩
  rw [exec_Assign_Name_used _ _ _ _ hsw]
  refine wpAny_bind (wpAny_standAt (wpAny_bind ?_))
  show wpAny _ X.A (do let _ ← comprehension (.DictComp kx vx [⟨tg, iter, ifs, 0⟩] scope pos) scope X.env (firstIterPos [⟨tg, iter, ifs, 0⟩] pos) newDict false (eval iter X.env) (some (assign (.Name y py) X.env))) _ _ s
  have h : tDcG o0 wi g tt tk tv (own.map (·.2)) σ H (fun x H1 => gName i x σ H1 D.nx) := h
  refine wpAny_bind (thn (dcG_core (Qf := fun _ s' => SP X pins D .next s') em hu hc hN hi ok hg ht hk he hs I h fun L C s' m H' I' q hn f => ?_) fun _ s' hq => wpAny_pure (wpAny_pure hq))
  show wpAny _ _ (assign (.Name y py) X.env (.ref L)) _ _ _
  refine wpAny_assign_Name (store_ok2 (v := V.ref L) I' hN hy (.inl hyl) rfl (fun s2 I2 ⟨a, sb, ha⟩ => ?_) (.inr hyl))
  obtain ⟨f0, f1, f2, f3, f4, f5⟩ := f
  have haC : C ≠ a := by
    rcases ha with z | z
    · rw [z]; exact f1
    · exact fun e => f4 y a z e.symm
  refine ⟨m, hn.sameBut sb haC, fun h3 sb3 => ?_⟩
  exact ⟨_, H', I2.turned (t' := s2.toks) (fun b o hb e => (sb3.2 b hb).trans e) f0 f1 f3 f4 f5, q⟩
end
def putAll (c : V) (acc : List (List Int × V)) (nss : List (List Int)) : List (List Int × V) := nss.foldl (fun acc k => putK acc k c) acc
theorem putAll_len (c : V) : ∀ (nss : List (List Int)) (acc : List (List Int × V)), (putAll c acc nss).length ≤ acc.length + nss.length
  | [], acc => Nat.le_refl _
  | n :: r, acc => by
    have h := putAll_len c r (putK acc n c)
    have k := length_putK acc n c
    show (putAll c (putK acc n c) r).length ≤ _
    rw [List.length_cons]; omega
theorem putAll_app (c : V) (acc : List (List Int × V)) (a b : List (List Int)) : putAll c acc (a ++ b) = putAll c (putAll c acc a) b := List.foldl_append
section
variable {K : PySem.W.Frag} {σ : L2.St} {G P H : Hp} {Q : VK} {tt : TT} {ta tk tv : TE} {g : TG} {ts : List Nat} {a : Addr} {xs : List V} {j : Nat} {o0 : HO} {c : V}
def aDcGT (K : PySem.W.Frag) (o0 : HO) (g : TG) (tt : TT) (tk tv : TE) (vs : List Nat) (σ : L2.St) : V → Hp → VK → Prop := fun x H Q => tDcG o0 (fun _ H R => ∃ a, x = .ref a ∧ (∃ xs, SqT K H a xs) ∧ R (Itt K a) H) g tt tk tv vs σ H Q
theorem w_dcGT (h : ta σ H fun x H1 => aDcGT K o0 g tt tk tv ts σ x H1 Q) : tDcG o0 (iTup K ta) g tt tk tv ts σ H Q := h
theorem aDcGT.go {nss : List (List Int)} (J : Join G P H) (nt : NT P) (hS : G a = some (.tup xs)) (hT : TupL iV G xs nss) (hl : xs.length ≤ 90000) (hw : ∀ x, wipe ((wipe σ ts).set j (some x)) ts = wipe σ ts)
    (hk : ∀ (x : V) (H' : Hp) (S : VK), S x H' → tk ((wipe σ ts).set j (some x)) H' S) (hv : ∀ (x : V) (H' : Hp) (S : VK), S c H' → tv ((wipe σ ts).set j (some x)) H' S)
    (hq : ∀ d P' H', H d = none → Ex P P' → Join G P' H' → NT P' → P' d = some (.dT (tK (putAll c [] nss))) → Q (.ref d) H') : aDcGT K (.dT []) (gName j) tYes tk tv ts σ (.ref a) H Q := by
  refine ⟨a, rfl, ⟨_, sqT (J.g _ _ hS)⟩, fun D hD => ?_⟩
  have pD : P D = none := J.np hD
  refine ⟨fun i m H' => m = xs.length - i ∧ i ≤ xs.length ∧ ∃ P', Ex P P' ∧ Join G P' H' ∧ NT P' ∧ P' D = some (.dT (tK (putAll c [] (nss.take i)))), ⟨xs.length, by simp, Nat.zero_le _, _, Ex.new pD, J.setP (J.ng hD), nt.upd fun _ e => (nomatch e), upd_same⟩, ?_⟩
  rintro i m H' ⟨rfl, hi, P', e, j', nt', hd⟩
  by_cases hlt : i < xs.length
  · refine .inr ⟨⟨xs, xs[i], sqT (j'.g _ _ hS), by simp [hlt]⟩, fun H2 => ∃ P', Ex P P' ∧ Join G P' H2 ∧ NT P' ∧ P' D = some (.dT (tK (putAll c [] (nss.take (i + 1))))), fun H2 p => ⟨xs.length - (i + 1), by omega, rfl, by omega, p⟩, fun x H2 y => ?_⟩
    obtain ⟨rfl, y⟩ := y
    have hx : xs[i]? = some x := y xs (sqT (j'.g _ _ hS))
    obtain ⟨ns, t, hns, rfl, ht⟩ := hT.get hx
    refine ⟨hw _, w_yes ?_⟩
    show tk _ _ _
    refine hk _ _ _ (hv _ _ _ ?_)
    refine ⟨_, DPut.t (k := ns.map Sum.inl) (j'.p _ _ hd) (by rw [tup_kV]; exact j'.g _ _ ht) (szlt ?_), _, ?_, j'.setP (j'.gn hd), nt'.upd fun _ e => (nomatch e), ?_⟩
    · rw [tK_len]
      have := putAll_len c (nss.take i) []
      rw [List.length_take] at this
      simp only [List.length_nil] at this
      omega
    · exact e.mut pD
    · rw [upd_same, tK_put, take_more hns, putAll_app]; rfl
  · have ei : i = xs.length := by omega
    subst ei
    rw [hT.1, List.take_length] at hd
    exact .inl ⟨⟨xs, sqT (j'.g _ _ hS), Nat.le_refl _⟩, hq D P' H' hD e j' nt' hd⟩
end
end Lv

/-! a thing of another kind == an object whose class has an own __eq__: the other side decides -/
namespace Lv
open PySem PySem.Spec PyProof.Rows PySem.SeqAt L2
open AutoSeq1 (wpAny_loadPart')
section
variable {C : Addr} {dx : Addr} {K : PySem.W.Frag}
theorem sub_step {M : Model} {A : Around} {E : Value → Shared → Prop} {s : Shared} {t : Value} {b : Bool} {Q : Bool → Shared → Prop} (X : K.In s.heap) (e : PySem.W.subIn K (.ref C) t = some b) (q : Q b s) : wpAny M A (isSubtype (.ref C) t) Q E s := (PySem.W.looks_subIn X e).here q
theorem none_own (m : Addr) : Gives (Builtin.«NoneType.__eq__» ⟨[.none, .ref m], []⟩) (.val (Value.notImplemented)) := NoneType___eq___none_ref_0 m
theorem int_own (b : Int) (u : Tok) (m : Addr) :
    Meets (Builtin.«int.__eq__» ⟨[.int b u, .ref m], []⟩) (fun _ R s => s.heap.get? m = some (PySem.W.instObj C dx) ∧ R (.ok (.ret .notImplemented)) s) :=
  .of_wp fun prog w A R s h => by obtain ⟨hp, g, d, tk, os⟩ := s; obtain ⟨hl, h⟩ := h; unfold PySem.W.instObj at hl; wp_walk using wpAny_loadPart' hl, wpAny_load hl; exact ⟨_, rfl, h⟩
theorem str_own (b : Str) (u : Tok) (m : Addr) :
    Meets (Builtin.«str.__eq__» ⟨[.str b u, .ref m], []⟩) (fun _ R s => s.heap.get? m = some (PySem.W.instObj C dx) ∧ R (.ok (.ret .notImplemented)) s) :=
  .of_wp fun prog w A R s h => by obtain ⟨hp, g, d, tk, os⟩ := s; obtain ⟨hl, h⟩ := h; unfold PySem.W.instObj at hl; wp_walk using wpAny_loadPart' hl, wpAny_load hl; exact ⟨_, rfl, h⟩
theorem tuple_own (hs : PySem.W.subIn K (.ref C) (.type "tuple") = some false) (l m : Addr) (items : Array Value) (n : Nat) (dd : Option Addr) (sl : Array (Option Value)) :
    Meets (Builtin.«tuple.__eq__» ⟨[.ref l, .ref m], []⟩) (fun _ R s => K.In s.heap ∧ s.heap.get? l = some { cls := .type "tuple", dict := dd, data := .seq items n, slots := sl } ∧ s.heap.get? m = some (PySem.W.instObj C dx) ∧ R (.ok (.ret .notImplemented)) s) :=
  .of_wp fun prog w A R s h => by obtain ⟨hp, g, d, tk, os⟩ := s; obtain ⟨X, hl, hm, h⟩ := h; unfold PySem.W.instObj at hm; wp_walk using wpAny_loadPart' hl, wpAny_loadPart' hm, wpAny_load hm, sub_step X hs; exact ⟨_, rfl, h⟩
theorem bool_own (b : Bool) (m : Addr) :
    Meets (Builtin.«int.__eq__» ⟨[.bool b, .ref m], []⟩) (fun _ R s => s.heap.get? m = some (PySem.W.instObj C dx) ∧ R (.ok (.ret .notImplemented)) s) :=
  .of_wp fun prog w A R s h => by obtain ⟨hp, g, d, tk, os⟩ := s; obtain ⟨hl, h⟩ := h; unfold PySem.W.instObj at hl; wp_walk using wpAny_loadPart' hl, wpAny_load hl; exact ⟨_, rfl, h⟩
theorem list_own (hs : PySem.W.subIn K (.ref C) (.type "list") = some false) (l m : Addr) (items : Array Value) (n : Nat) (dd : Option Addr) (sl : Array (Option Value)) :
    Meets (Builtin.«list.__eq__» ⟨[.ref l, .ref m], []⟩) (fun _ R s => K.In s.heap ∧ s.heap.get? l = some { cls := .type "list", dict := dd, data := .seq items n, slots := sl } ∧ s.heap.get? m = some (PySem.W.instObj C dx) ∧ R (.ok (.ret .notImplemented)) s) :=
  .of_wp fun prog w A R s h => by obtain ⟨hp, g, d, tk, os⟩ := s; obtain ⟨X, hl, hm, h⟩ := h; unfold PySem.W.instObj at hm; wp_walk using wpAny_loadPart' hl, wpAny_loadPart' hm, wpAny_load hm, sub_step X hs; exact ⟨_, rfl, h⟩
theorem dict_own (hs : PySem.W.subIn K (.ref C) (.type "dict") = some false) (l m : Addr) (o : Obj) (ho : o.cls = .type "dict") :
    Meets (Builtin.«dict.__eq__» ⟨[.ref l, .ref m], []⟩) (fun _ R s => K.In s.heap ∧ s.heap.get? l = some o ∧ s.heap.get? m = some (PySem.W.instObj C dx) ∧ R (.ok (.ret .notImplemented)) s) :=
  .of_wp fun prog w A R s h => by obtain ⟨hp, g, d, tk, os⟩ := s; obtain ⟨X, hl, hm, h⟩ := h; unfold PySem.W.instObj at hm; wp_walk using wpAny_loadPart' hl, wpAny_load hl, wpAny_loadPart' hm, wpAny_load hm, sub_step X hs; exact ⟨_, rfl, h⟩
end
section
variable {prog : Program} {w : World} {A : Around} {E : Value → Shared → Prop} {s : Shared} {K : PySem.W.Frag} {m C f : Addr} {ox : Obj} {od : Option Obj} {a : Value} {Ta ida : String}
theorem eq_back {Q : Value → Shared → Prop} (hu : A.units < cLine) (X : K.In s.heap) (I : PySem.W.InstAt s.heap m ox C od) (ha : s.TypeIs a Ta) (hsub : PySem.W.subIn K (.ref C) (.type Ta) = some false) (h1 : Slot Ta (cmpInfo .Eq).2.1 ida)
    (hc1 : ∀ Q' : Value → Shared → Prop, Q' .notImplemented s → wpAny (model prog w) A (call (.builtin ida) [a, .ref m]) Q' E s)
    (hs : PySem.W.findIn K (.ref C) "__eq__" = some (some (.ref f))) (hf : PySem.W.isFn K (.ref f) = true)
    (h : wpAny (model prog w) A (call (.ref f) [.ref m, a]) (PySem.W.CmpBack Q) E s) : wpAny (model prog w) A (richCompare .Eq a (.ref m)) Q E s := by
  rcases hi : cmpInfo CmpOp.Eq with ⟨sym, fn, r⟩
  have hr : r = "__eq__" := by
    have := congrArg (fun z : String × Str × Str => z.2.2) hi
    exact this.symm
  rw [hi] at h1
  simp only [richCompare, hi, ha.oneThing_none]
  refine wpAny_holding (wpAny_bind (wpAny_cRoomFor hu ?_))
  refine wpAny_bind (wpAny_typeOf ha (wpAny_bind (I.type.here ?_)))
  have hne : (Value.type Ta != Value.ref C) = true := rfl
  simp only [hne, if_true]
  refine wpAny_bind (sub_step X hsub ?_)
  simp only [Bool.false_eq_true, if_false, Bool.not_false, if_true]
  refine wpAny_bind (m := tryCompare a _ (.ref m)) (wpAny_tryCompare_declines ha h1 (hc1 _ ⟨rfl, ?_⟩))
  have one : wpAny (model prog w) A (tryCompare (.ref m) r a) (fun z s' => ∃ v, z = some v ∧ Q v s') E s := by
    unfold tryCompare
    subst hr
    refine wpAny_bind (PySem.W.ifBound_K X I hs hf (wpAny_mono h (fun v s' hv => ?_) fun _ _ e => e))
    cases v <;> first | exact hv.elim | exact wpAny_pure ⟨_, rfl, hv⟩
  refine wpAny_bind (wpAny_mono one (fun z s' hz => ?_) fun _ _ e => e)
  obtain ⟨v, rfl, hq⟩ := hz
  exact wpAny_pure hq
end
def subB (K : PySem.W.Frag) (c : Str) : Bool := kindN.all fun t => decide (PySem.W.subIn K (.ref (He.ga K c)) (.type t) = some false)
theorem subB_ok {K : PySem.W.Frag} {c : Str} (h : subB K c = true) : ∀ t ∈ kindN, PySem.W.subIn K (.ref (He.ga K c)) (.type t) = some false := fun t ht => of_decide_eq_true (List.all_eq_true.mp h t ht)
/-- x == y by the own __eq__ of y's class, x of another kind -/
def rEqR (K : PySem.W.Frag) (M f : Addr) (sp : Sp) (E : XK) : R2 := fun x y H Q => ∃ C a dx fs G, y = .ref a ∧ H a = some (.ins C dx fs) ∧ OwnE K C M f ∧ Ex G H ∧ Kd G x ∧ (∀ t ∈ kindN, PySem.W.subIn K (.ref C) (.type t) = some false) ∧ sp [y, x] H (fun v H' => ∃ c, v = .bl c ∧ Q (.bl c) H') E
section
variable {X : Cx} {CX : CXT} {M f : Addr} {fd : FuncData} {ps : List Str} {sp : Sp} {n : Nat} {E : XK}
theorem op_eqR (F : FnOk X.prog X.w X.K X.mg X.base CX n f fd ps sp) (hb : Binds X.K fd ps []) (hx : Passes CX X E) (hr : Room (n + 1) X.A) : OpR X (compareOp .Eq) (rEqR X.K M f sp E) := by
  intro pins s σ H x y v u Q I rx ry h
  obtain ⟨C, a, dx, fs, G, rfl, ha, ho, eG, hk, hsub, h⟩ := h
  cases (show u = Value.ref a from ry)
  obtain ⟨mA, J, _⟩ := ins_get I.hok ha
  have hobj := J.obj
  obtain ⟨od, J, _⟩ := J.look
  have hr' := hr.mono (Nat.le_succ n)
  show wpAny (model X.prog X.w) X.A (richCompare .Eq v (.ref a)) (EP X pins σ Q) X.xe s
  have hcall : wpAny (model X.prog X.w) X.A (call (.ref f) [.ref a, v]) (PySem.W.CmpBack (EP X pins σ Q)) X.xe s := by
    refine callOwn F hb hx hr' rfl I ry rx h fun z w H' s' I' rz hz => ?_
    obtain ⟨c, rfl, q⟩ := hz
    cases (show w = Value.bool c from rz)
    exact ⟨.bl c, H', I', rfl, q⟩
  cases hk with
  | int i =>
    obtain ⟨t, q⟩ := (show ∃ t, v = Value.int i t from rx)
    cases q
    exact eq_back hr'.units0 I.kIn J rfl (hsub _ (by decide)) PySem.F.slot_int_eq (fun _ hq => call_meets PySem.F.slot_int_eq rfl PySem.F.entry_int_eq (PySem.F.args_int_eq_2 _ _) (int_own i t a) ⟨hobj, hq⟩) ho.eq ho.fn hcall
  | bl b =>
    cases (show v = Value.bool b from rx)
    exact eq_back hr'.units0 I.kIn J rfl (hsub _ (by decide)) PySem.F.slot_bool_eq (fun _ hq => call_meets PySem.F.slot_bool_eq rfl PySem.F.entry_int_eq (PySem.F.args_int_eq_2 _ _) (bool_own b a) ⟨hobj, hq⟩) ho.eq ho.fn hcall
  | non =>
    cases (show v = Value.none from rx)
    exact eq_back hr'.units0 I.kIn J rfl (hsub _ (by decide)) PySem.F.slot_NoneType_eq (fun _ hq => call_gives PySem.F.slot_NoneType_eq rfl PySem.F.entry_NoneType_eq (PySem.F.args_NoneType_eq_2 _ _) (none_own a) hq) ho.eq ho.fn hcall
  | str z =>
    obtain ⟨t, q⟩ := (show ∃ t, v = Value.str z t from rx)
    cases q
    exact eq_back hr'.units0 I.kIn J rfl (hsub _ (by decide)) PySem.F.slot_str_eq (fun _ hq => call_meets PySem.F.slot_str_eq rfl PySem.F.entry_str_eq (PySem.F.args_str_eq_2 _ _) (str_own z t a) ⟨hobj, hq⟩) ho.eq ho.fn hcall
  | @lst b xs h1 =>
    cases (show v = Value.ref b from rx)
    obtain ⟨its, rv, ⟨⟨cls, dd, data, sls⟩, k, hob, hc, hdn, hdt⟩, hlen⟩ := I.list (sqL (K := X.K) (eG _ _ h1))
    simp only at hc hdt
    subst hc hdt
    exact eq_back hr'.units0 I.kIn J ⟨_, hob, rfl⟩ (hsub _ (by decide)) PySem.F.slot_list_eq (fun _ hq => call_meets PySem.F.slot_list_eq ⟨_, hob, rfl⟩ PySem.F.entry_list_eq (PySem.F.args_list_eq_2 _ _) (list_own (K := X.K) (hsub "list" (by decide)) b a _ _ _ _) ⟨I.kIn, hob, hobj, hq⟩) ho.eq ho.fn hcall
  | @tup b xs h1 =>
    cases (show v = Value.ref b from rx)
    obtain ⟨its, rv, p, hz⟩ := I.tuple (sqT (K := X.K) (eG _ _ h1))
    obtain ⟨⟨cls, dd, data, sls⟩, hob, hc, k, hdt⟩ := (show s.heap.IsTuple b its.toArray from p)
    simp only at hc hdt
    subst hc hdt
    exact eq_back hr'.units0 I.kIn J ⟨_, hob, rfl⟩ (hsub _ (by decide)) PySem.F.slot_tuple_eq (fun _ hq => call_meets PySem.F.slot_tuple_eq ⟨_, hob, rfl⟩ PySem.F.entry_tuple_eq (PySem.F.args_tuple_eq_2 _ _) (tuple_own (K := X.K) (hsub "tuple" (by decide)) b a _ _ _ _) ⟨I.kIn, hob, hobj, hq⟩) ho.eq ho.fn hcall
  | @dic b kvs h1 =>
    cases (show v = Value.ref b from rx)
    obtain ⟨_, _, vs, _, o, es, ep, hob, h2, _⟩ := (show ObjOk X.prog X.w H s.heap b (.dK kvs) from I.hok b _ (eG _ _ h1))
    exact eq_back hr'.units0 I.kIn J ⟨_, hob, h2.1⟩ (hsub _ (by decide)) PySem.F.slot_dict_eq (fun _ hq => call_meets PySem.F.slot_dict_eq ⟨_, hob, h2.1⟩ PySem.F.entry_dict_eq (PySem.F.args_dict_eq_2 _ _) (dict_own (K := X.K) (hsub "dict" (by decide)) b a o h2.1) ⟨I.kIn, hob, hobj, hq⟩) ho.eq ho.fn hcall
end
end Lv

/-! t.index(x) of a tuple of tuples, xs[lo::k], range(i, j, k) -/
namespace Lv
open PySem PySem.Spec PyProof.Rows PySem.SeqAt L2
def rIndexU : V → List V → Hp → VK → Prop := fun x xs H Q => ∃ (a t : Addr) (vs : List V) (nss : List (List Int)) (ns : List Int), x = .ref a ∧ xs = [.ref t] ∧ Rd H a (.tup vs) ∧ TupL iV H vs nss ∧ H t = some (.tup (iV ns)) ∧ ns ∈ nss ∧ ∃ j : Nat, nss[j]? = some ns ∧ (∀ i, i < j → nss[i]? ≠ some ns) ∧ Q (.int (j : Nat)) H
theorem idx_at {α : Type} [DecidableEq α] {a : α} : ∀ {l : List α} {j : Nat}, l[j]? = some a → (∀ i, i < j → l[i]? ≠ some a) → l.idxOf a = j
  | [], j, h, _ => by simp at h
  | b :: l, 0, h, _ => by
    have : b = a := by simpa using h
    subst this
    exact List.idxOf_cons_self
  | b :: l, j + 1, h, hn => by
    have hb : b ≠ a := fun e => hn 0 (by omega) (by simp [e])
    have ih := idx_at (l := l) (j := j) (by simpa using h) fun i hi => by
      have := hn (i + 1) (by omega)
      simpa using this
    have hb2 : (b == a) = false := by simpa using hb
    rw [List.idxOf_cons, hb2, ih]; rfl
section
variable {X : Cx}
theorem mt_indexU (hu : X.A.units + 65 < cLine) : MtR X "tuple.index" rIndexU := by
  intro pins s σ H x xs v us Q I rx rxs h
  obtain ⟨a, t, vs, nss, ns, rfl, rfl, ha, hT, ht, hm, jx, hj1, hj2, q⟩ := h
  cases rx
  cases rxs with
  | cons ry rt =>
    rename_i uy ut
    cases rt
    obtain ⟨bs, r1⟩ := Dp.reads I (dT ns) (.ref t) uy (dp_tup (K := X.K) ht) ry
    have hl : Dp X.K H (.ref a) (.tuple (nss.map dT)) := .tup (.inl ha) (dp_all nss vs hT)
    have sl : SeqAt.shaped (.tuple (nss.map dT)) = true := shaped_dU nss
    have sd : SeqAt.shaped (dT ns) = true := shaped_dT ns
    cases hl with
    | tup hs ha2 =>
      obtain ⟨its, rv, p, hz⟩ := I.tuple hs
      obtain ⟨as, h4⟩ := Dp.readsAll I _ _ its ha2 rv
      have hxs : PyData.canLayAll0 (nss.map dT) = true := SeqAt.canLay_of_shaped sl
      have hn : its.length = nss.length := by
        have := SeqAt.ReadsAll.length _ its as h4
        rw [List.length_map] at this
        exact this
      have hmap : its.map (SeqAt.readOf s.heap) = nss.map dT := SeqAt.readsAll_map _ its as hxs h4
      have hroom : X.A.units + 1 + min (PyData.depthAll (nss.map dT)) (dT ns).depth < cLine := room_in_shaped sd hu
      refine call_tuple_index (vs := its) (ks := nss) (k := ns) p ⟨hn, fun j h1 h2 => ?_⟩ hm (by rw [idx_at hj1 hj2]; exact ⟨.int (jx : Nat), H, I.tok _, ⟨s.toks, rfl⟩, q⟩)
      have e1 := SeqAt.items_eqAt (A := X.A) (vs := its.toArray) (show ReadsAll s.heap its.toArray.toList (nss.map dT) as from h4) r1 hxs (SeqAt.canLay_of_shaped sd) hroom its[j] (by simp)
      refine e1.cast ?_
      have e2 : SeqAt.readOf s.heap its[j] = dT nss[j] := by
        have h3 : (its.map (SeqAt.readOf s.heap))[j]? = (nss.map dT)[j]? := by rw [hmap]
        rw [List.getElem?_map, List.getElem?_map, List.getElem?_eq_getElem h1, List.getElem?_eq_getElem h2] at h3
        exact Option.some.inj h3
      rw [e2, eqv_dT]
/-- tuple(l) of a list, the tuple held as it stands -/
def rTupF (K : PySem.W.Frag) : List V → Hp → VK → Prop := fun xs H Q => ∃ l ys, xs = [.ref l] ∧ SqL K H l ys ∧ ∀ p o, H p = none → o.dict = none → o.cls = .type "tuple" → Q (.ref p) (upd H p (.frz o (.tup ys)))
theorem call_tupleF : CallR X (.type "tuple") (rTupF X.K) := by
  intro pins s σ H xs us Q I r h
  obtain ⟨p, ys, rfl, hq, q⟩ := h
  obtain ⟨u, rfl, rx⟩ := vals1 r
  cases rx
  obtain ⟨its, r', pl, hz⟩ := I.list hq
  have hlen := r'.length
  refine call_tuple_list pl.isList (fun h' kp => ?_) (by simp only [List.size_toArray] <;> omega)
  have I1 : Inv X pins σ H { s with heap := h' } := I.kept (t' := s.toks) kp
  have I2 : Inv X pins σ (upd H h'.objs.size (.frz { cls := .type "tuple", data := .seq its.toArray } (.tup ys))) { s with heap := h'.push { cls := .type "tuple", data := .seq its.toArray } } :=
    I1.laid (t' := s.toks) (fun b o e => Heap.get?_push_of_some _ e) (Nat.le_refl _) (show ObjOk X.prog X.w _ _ _ (.frz _ (.tup ys)) from ⟨Heap.get?_push_size _ rfl, hz, its, r', IsTup.new _ _⟩)
  exact ⟨.ref h'.objs.size, _, I2, rfl, q _ _ (I1.hok.fresh (Nat.le_refl _)) rfl rfl⟩
def tBMU (K : PySem.W.Frag) (r : V → List V → Hp → VK → Prop) (to : TE) (t : TA) : TE := fun σ H Q => to σ H fun x H1 => (∃ a o xs, x = .ref a ∧ H1 a = some (.frz o (.tup xs)) ∧ o.dict = none ∧ o.cls = .type "tuple") ∧ t σ H1 fun xs H2 => r x xs H2 Q
theorem pe_bmU {o e : Expr} {es : List Expr} {to : TE} {t : TA} {name : Str} {apos cpos : Pos} {id : String} {r : V → List V → Hp → VK → Prop} (pa : PlainAttrs "tuple") (slot : Slot "tuple" name id) (hty : typeOf (.builtin id) = pure (.type "method_descriptor")) (hm : MtR X id r) (ho : PE X o to) (ha : PA X (e :: es) t)
    (hbase : attributeBase o name X.env (eval o X.env) = eval o X.env := by rfl)
    (hfew : ((backTo cpos (starEach (e :: es) X.env)).all (fun x => !x.1) && (backToKw cpos (keywordEach [] X.env)).all (fun x => x.1.isSome)
      && decide ((e :: es).length + ([] : List Keyword).length + (if ([] : List Keyword).isEmpty then 0 else 1) < 30)) = true := by rfl)
    (hline : (apos.endLine == cpos.line) = true := by rfl) (hs : starEach (e :: es) X.env = (false, eval e X.env) :: starEach es X.env := by rfl) (hplain : (backTo cpos (starEach es X.env)).any (·.1) = false := by rfl) :
    PE X (.Call (.Attribute o name apos) (e :: es) [] cpos) (tBMU X.K r to t) := by
  refine ⟨fun pins s σ H Q I h => ?_⟩
  refine wpAny_Call_method_late hbase hfew hline rfl (thn (ho.run pins s σ H _ I h) fun v s1 ⟨x, H1, I1, r1, ⟨a, ob, xs, ex, hq, h3, h2⟩, q1⟩ => ?_)
  subst ex
  cases r1
  obtain ⟨h1, _⟩ := (show ObjOk X.prog X.w H1 s1.heap a (.frz ob (.tup xs)) from I1.hok a _ hq)
  refine ⟨"tuple", id, pa, slot, hty, ⟨ob, h1, h2⟩, fun b e => ?_, ?_⟩
  · cases e
    exact ⟨ob, h1, h3⟩
  have hA := ha.run cpos pins s1 σ H1 _ I1 q1
  rw [hs] at hA ⊢
  refine Calls.callWith_builtin (by show (false || (backTo cpos (starEach es X.env)).any (·.1)) = false; rw [hplain] <;> rfl) (Calls.evalArgs_plain ?_)
  exact thn hA fun us s2 ⟨vs, H2, I2, r2, q2⟩ => hm pins s2 σ H2 (.ref a) vs (.ref a) us Q I2 rfl r2 q2
/-- xs[lo::k] -/
def pickS (xs : List V) (lo k : Nat) : List V := (List.range ((xs.length - lo + k - 1) / k)).filterMap fun i => xs[lo + k * i]?
theorem sliceR_eq {lo k n : Nat} (hk : 1 ≤ k) : sliceRange (sliceBounds (some (lo : Int)) none (some (k : Int)) n).1 (sliceBounds (some (lo : Int)) none (some (k : Int)) n).2.1 (sliceBounds (some (lo : Int)) none (some (k : Int)) n).2.2 = (List.range ((n - lo + k - 1) / k)).map fun i => min lo n + k * i := by
  have h1 : sliceBounds (some (lo : Int)) none (some (k : Int)) n = (((min lo n : Nat) : Int), (n : Int), (k : Int)) := by
    unfold sliceBounds
    have hp : (k : Int) > 0 := by omega
    have h0 : ¬ ((lo : Int) < 0) := by omega
    simp only [Option.getD_some, hp, if_true, h0, if_false]
    have : max 0 (min (lo : Int) (n : Int)) = ((min lo n : Nat) : Int) := by omega
    rw [this]
  rw [h1]
  unfold sliceRange
  have hp : (k : Int) > 0 := by omega
  simp only [hp, if_true]
  by_cases hl : lo < n
  · have hm : min lo n = lo := by omega
    rw [hm, if_pos (by omega)]
    have hc : (((n : Int) - (lo : Int) + (k : Int) - 1) / (k : Int)).toNat = (n - lo + k - 1) / k := by
      have e : (n : Int) - (lo : Int) + (k : Int) - 1 = ((n - lo + k - 1 : Nat) : Int) := by omega
      rw [e, ← Int.natCast_ediv, Int.toNat_natCast]
    rw [hc]
    refine List.map_congr_left fun i _ => ?_
    have : (lo : Int) + (k : Int) * (i : Int) = ((lo + k * i : Nat) : Int) := by simp
    rw [this, Int.toNat_natCast]
  · have hm : min lo n = n := by omega
    rw [hm, if_neg (by omega)]
    have h0 : n - lo = 0 := by omega
    rw [h0, Nat.zero_add, Nat.div_eq_of_lt (by omega)]; rfl
theorem pick_eq {xs : List V} {lo k : Nat} (hk : 1 ≤ k) : (sliceRange (sliceBounds (some (lo : Int)) none (some (k : Int)) xs.length).1 (sliceBounds (some (lo : Int)) none (some (k : Int)) xs.length).2.1 (sliceBounds (some (lo : Int)) none (some (k : Int)) xs.length).2.2).filterMap (xs[·]?) = pickS xs lo k := by
  rw [sliceR_eq hk]
  unfold pickS
  rw [List.filterMap_map]
  by_cases hl : lo < xs.length
  · have hm : min lo xs.length = lo := by omega
    rw [hm]; rfl
  · have h0 : xs.length - lo = 0 := by omega
    rw [h0, Nat.zero_add, Nat.div_eq_of_lt (by omega)]; rfl
def rStepLo (K : PySem.W.Frag) : V → Option Int → Option Int → Hp → VK → Prop := fun x o o' H Q => ∃ (a : Addr) (xs : List V) (lo k : Nat), x = .ref a ∧ o = some (lo : Int) ∧ o' = some (k : Int) ∧ 1 ≤ k ∧ SqL K H a xs ∧ ∀ p, H p = none → Q (.ref p) (upd H p (.lst (pickS xs lo k)))
def tStepLo (K : PySem.W.Frag) (te : TE) (tl th : TO) : TE := fun σ H Q => te σ H fun x H1 => tl σ H1 fun o H2 => th σ H2 fun o' H3 => rStepLo K x o o' H3 Q
theorem pe_stepLo {e g f : Expr} {te : TE} {tl th : TO} {p3 pos : Pos} (he : PE X e te) (hg : PO X (some g) tl) (hf : PO X (some f) th) (hsub : ∀ (v w : Value), subscripted (.Slice (some g) none (some f) p3) false v w = operate [v, w] (getItem v w) := by intro v w; with_unfolding_all rfl) : PE X (.Subscript e (.Slice (some g) none (some f) p3) pos) (tStepLo X.K te tl th) := by
  refine ⟨fun pins s σ H Q I h => ?_⟩
  refine Subscript_ (thn (he.run pins s σ H _ I h) fun v s1 ⟨x, H1, I1, r1, q1⟩ => ?_)
  refine wpAny_Slice (thn (hg.run pins s1 σ H1 _ I1 q1) fun vl s2 ⟨l, H2, I2, pl, q2⟩ => ?_)
  refine thn (po_none.run pins s2 σ H2 (fun o H3 => o = none ∧ H3 = H2) I2 ⟨rfl, rfl⟩) fun vu s3 ⟨u, H3, I3, pu, eu, e3⟩ => ?_
  subst eu e3
  refine thn (hf.run pins s3 σ H3 _ I3 q2) fun vs s4 ⟨o, H4, I4, ps, q2⟩ => ?_
  obtain ⟨a, xs, lo, k, ex, el, eo, hk, hx, q⟩ := q2
  subst ex el eo
  cases r1
  have I5 : Inv X pins σ H4 { s4 with heap := s4.heap.push { cls := .type "slice", data := .fields #[vl, vu, vs] } } := I4.kept (t' := s4.toks) fun b ob q => Heap.get?_push_of_some _ q
  obtain ⟨its, r, ht, hz⟩ := I5.list hx
  have hlen := r.length
  show wpAny (model X.prog X.w) X.A (subscriptTail e (.Slice (some g) none (some f) p3) (.ref a) (.ref s4.heap.objs.size)) (EP X pins σ Q) X.xe { s4 with heap := s4.heap.push { cls := .type "slice", data := .fields #[vl, vu, vs] } }
  refine tail_any (ops := [.ref a, .ref s4.heap.objs.size]) ht.isList.typeIs (PySem.slot_list_getitem.lookup) ?_ (hsub _ _)
  refine wpAny_getItem_list_slice ht.isList (Heap.IsSliceOf.new _ vl vu vs) pl pu ps (by intro h; injection h with h; omega) ?_ (by rw [List.size_toArray]; omega)
  have hs : its.toArray.size = xs.length := by rw [List.size_toArray]; omega
  have e1 : slicePick its.toArray (some (lo : Int)) none (some (k : Int)) = ((sliceRange (sliceBounds (some (lo : Int)) none (some (k : Int)) xs.length).1 (sliceBounds (some (lo : Int)) none (some (k : Int)) xs.length).2.1 (sliceBounds (some (lo : Int)) none (some (k : Int)) xs.length).2.2).filterMap (its[·]?)).toArray := by
    unfold slicePick
    rw [hs]
    simp only [List.getElem?_toArray]
  have hle := slicePick_size_le its.toArray (some (lo : Int)) none (some (k : Int))
  rw [e1] at hle ⊢
  have r2 := Vals_pick r (sliceRange (sliceBounds (some (lo : Int)) none (some (k : Int)) xs.length).1 (sliceBounds (some (lo : Int)) none (some (k : Int)) xs.length).2.1 (sliceBounds (some (lo : Int)) none (some (k : Int)) xs.length).2.2)
  have hl2 := r2.length
  simp only [List.size_toArray] at hle
  have q1 := q s4.heap.objs.size (I4.hok.fresh (Nat.le_refl _))
  rw [pick_eq hk] at r2 hl2
  refine ⟨.ref _, _, I5.laid (t' := s4.toks) (o := .lst (pickS xs lo k)) (fun b ob q => Heap.get?_push_of_some _ q) (Nat.le_refl _) ?_, rfl, q _ (I5.hok.fresh (Nat.le_refl _))⟩
  exact ⟨by omega, _, 0, r2, Heap.get?_push_size _ rfl⟩
end
section
variable {K : PySem.W.Frag} {σ : L2.St} {H : Hp} {Q : VK} {te : TE} {tl th : TO}
theorem w_stepLo (h : te σ H fun x H1 => tl σ H1 fun o H2 => th σ H2 fun o' H3 => rStepLo K x o o' H3 Q) : tStepLo K te tl th σ H Q := h
theorem stepLo_go {G P : Hp} {a : Addr} {xs : List V} {lo k : Nat} (J : Join G P H) (h : G a = some (.lst xs)) (hk : 1 ≤ k) (q : ∀ p G' H', H p = none → Ex G G' → Join G' P H' → G' p = some (.lst (pickS xs lo k)) → Q (.ref p) H') : rStepLo K (.ref a) (some (lo : Int)) (some (k : Int)) H Q :=
  ⟨a, xs, lo, k, rfl, rfl, rfl, hk, sqL (J.g _ _ h), fun p hp => q p _ _ hp (Ex.new (J.ng hp)) (J.newG hp) upd_same⟩
end
section
variable {K : PySem.W.Frag} {σ : L2.St} {H : Hp} {Q : VK} {to : TE} {t : TA} {r : V → List V → Hp → VK → Prop}
def aBMU (K : PySem.W.Frag) (r : V → List V → Hp → VK → Prop) (t : TA) (σ : L2.St) : V → Hp → VK → Prop := fun x H Q => (∃ a o xs, x = .ref a ∧ H a = some (.frz o (.tup xs)) ∧ o.dict = none ∧ o.cls = .type "tuple") ∧ t σ H fun xs H2 => r x xs H2 Q
theorem w_bmu (h : to σ H fun x H1 => aBMU K r t σ x H1 Q) : tBMU K r to t σ H Q := h
theorem w_bmut {a : Addr} {o : Obj} {xs : List V} (e : H a = some (.frz o (.tup xs))) (h1 : o.dict = none) (h2 : o.cls = .type "tuple") (h : t σ H fun vs H2 => r (.ref a) vs H2 Q) : aBMU K r t σ (.ref a) H Q := ⟨⟨a, o, xs, rfl, e, h1, h2⟩, h⟩
theorem indexU_go {G P : Hp} {a t : Addr} {vs : List V} {nss : List (List Int)} {ns : List Int} {j : Nat} (J : Join G P H) (ha : Rd H a (.tup vs)) (hT : TupL iV G vs nss) (ht : G t = some (.tup (iV ns))) (hj : nss[j]? = some ns) (hn : ∀ i, i < j → nss[i]? ≠ some ns) (q : Q (.int (j : Nat)) H) : rIndexU (.ref a) [.ref t] H Q :=
  ⟨a, t, vs, nss, ns, rfl, rfl, ha, hT.monoJ J, J.g _ _ ht, List.mem_of_getElem? hj, j, hj, hn, q⟩
end
section
variable {K : PySem.W.Frag} {H : Hp} {Q : VK}
def FrT (G : Hp) (a : Addr) (xs : List V) : Prop := ∃ o : Obj, G a = some (.frz o (.tup xs)) ∧ o.dict = none ∧ o.cls = .type "tuple"
theorem FrT.mono {G G' : Hp} {a : Addr} {xs : List V} (e : Ex G G') (h : FrT G a xs) : FrT G' a xs := by
  obtain ⟨o, h1, h2⟩ := h
  exact ⟨o, e _ _ h1, h2⟩
theorem FrT.rd {G : Hp} {a : Addr} {xs : List V} (h : FrT G a xs) : Rd G a (.tup xs) := by
  obtain ⟨o, h1, h2⟩ := h
  exact .inr ⟨o, h1⟩
theorem FrT.len {a : Addr} {xs : List V} (e : FrT H a xs) (q : Q (.int xs.length) H) : rLenV K [.ref a] H Q := ⟨_, _, rfl, .inr ⟨xs, .inl e.rd, rfl⟩, q⟩
theorem FrT.bm {σ : L2.St} {t : TA} {r : V → List V → Hp → VK → Prop} {a : Addr} {xs : List V} (e : FrT H a xs) (h : t σ H fun vs H2 => r (.ref a) vs H2 Q) : aBMU K r t σ (.ref a) H Q := by
  obtain ⟨o, h1, h2, h3⟩ := e
  exact w_bmut h1 h2 h3 h
def aTupF (K : PySem.W.Frag) : List V → Hp → VK → Prop := fun xs H Q => rTupF K xs H Q
theorem w_tupF {σ : L2.St} {as : TA} (h : as σ H fun vs H1 => aTupF K vs H1 Q) : tCB (rTupF K) as σ H Q := h
theorem aTupF.go {G P : Hp} {p : Addr} {ws : List V} (J : Join G P H) (h : G p = some (.lst ws)) (q : ∀ t G' H', H t = none → Ex G G' → Join G' P H' → FrT G' t ws → Q (.ref t) H') : aTupF K [.ref p] H Q :=
  ⟨p, ws, rfl, sqL (J.g _ _ h), fun t o ht h1 h2 => q t _ _ ht (Ex.new (J.ng ht)) (J.newG ht) ⟨o, upd_same, h1, h2⟩⟩
theorem neD_F {G P : Hp} {a b : Addr} {vs ws : List V} {ls ms : List (List Int)} (J : Join G P H) (ha : G a = some (.tup vs)) (hv : TupL iV G vs ls) (hb : FrT G b ws) (hw : TupL iV G ws ms) (q : Q (.bl (!decide (ls = ms))) H) : rNeD K (.ref a) (.ref b) H Q :=
  ⟨_, _, dp_tt (J.g _ _ ha) (hv.monoJ J), .tup (.inl (hb.mono J.exG).rd) (dp_all ms ws (hw.monoJ J)), shaped_dU ls, shaped_dU ms, by rw [show PyData.eqv (dU ls) (PyData.tuple (ms.map dT)) = decide (ls = ms) from eqv_dU ls ms]; exact q⟩
end
/-! for in range(i, j, k) -/
section
variable {σ : L2.St} {H : Hp} {nx bk ct : L2.St → Hp → Prop} {rt : VK} {D : Ends} {g : TG} {as : TA}
def aForR3 (g : TG) (tb : TS) (D : Ends) (σ : L2.St) : List V → Hp → Prop := fun vs H => tFor (fun _ H R => ∃ (i j c : Int) (n : Nat), vs = [.int i, .int j, .int c] ∧ RgC i j c n ∧ R (Itc i c n) H) g tb D σ H
theorem w_forR3 {tb : TS} (h : as σ H fun vs H1 => aForR3 g tb D σ vs H1) : tFor (iRng3 as) g tb D σ H := h
theorem rangeSize_up {N k : Nat} (hk : 1 ≤ k) : Builtin.Range.rangeSize 0 (N : Int) (k : Int) = (((N + k - 1) / k : Nat) : Int) := by
  unfold Builtin.Range.rangeSize
  have hp : (k : Int) > 0 := by omega
  simp only [hp, if_true]
  by_cases h : 0 < N
  · rw [if_pos (by omega)]
    have e : (N : Int) - 0 - 1 = ((N - 1 : Nat) : Int) := by omega
    rw [e, ← Int.natCast_ediv, show N + k - 1 = (N - 1) + k by omega, Nat.add_div_right _ (by omega)]
    simp
  · have h0 : N = 0 := by omega
    subst h0
    rw [if_neg (by simp), Nat.zero_add, Nat.div_eq_of_lt (by omega)]; rfl
theorem aForR3.go {tb : TS} {G P : Hp} {N k n : Nat} (hN : N ≤ 1000000) (hk : 1 ≤ k) (hk2 : k ≤ 1000000) (hn : n = (N + k - 1) / k) (I : Nat → Hp → Hp → L2.St → Prop) (J : Join G P H) (h0 : I 0 G P σ)
    (hs : ∀ (i : Nat) (G' P' H' : Hp) (σ' : L2.St), i < n → Join G' P' H' → I i G' P' σ' → g (.int ((i * k : Nat) : Int)) σ' H' fun σ2 H2 => tb ⟨fun σ3 H3 => ∃ G3 P3, Join G3 P3 H3 ∧ I (i + 1) G3 P3 σ3, rt, nx, fun σ3 H3 => ∃ G3 P3, Join G3 P3 H3 ∧ I (i + 1) G3 P3 σ3⟩ σ2 H2)
    (hq : ∀ (G' P' H' : Hp) (σ' : L2.St), Join G' P' H' → I n G' P' σ' → nx σ' H') : aForR3 g tb ⟨nx, rt, bk, ct⟩ σ [.int 0, .int (N : Int), .int (k : Int)] H := by
  refine ⟨0, N, k, n, rfl, ⟨by omega, by omega, ?_, ?_⟩, for_rangeC (fun i σ' H' => ∃ G3 P3, Join G3 P3 H' ∧ I i G3 P3 σ') ⟨G, P, J, h0⟩ (fun i σ' H' hi ⟨G', P', J', hI⟩ => ?_) fun σ' H' ⟨G', P', J', hI⟩ => hq G' P' H' σ' J' hI⟩
  · unfold Builtin.Range.small
    rw [rangeSize_up hk]
    have hle : (N + k - 1) / k ≤ N + k - 1 := Nat.div_le_self _ _
    have hp : (k : Int) > 0 := by omega
    simp only [Builtin.Range.rangeFitsLong, Bool.and_eq_true, Bool.or_eq_true, decide_eq_true_eq, beq_iff_eq, hp, if_true]
    generalize (N + k - 1) / k = q at hle
    omega
  · rw [rangeSize_up hk, hn]
  · have h := hs i G' P' H' σ' hi J' hI
    have e : (0 : Int) + (i : Nat) * (k : Int) = ((i * k : Nat) : Int) := by simp
    rw [e]
    exact h
end
end Lv

/-! a test that is a conditional expression -/
namespace Lv
open PySem PySem.Spec PyProof.Rows L2
def tIfB (tc ta tb : TT) : TT := fun σ H Q => tc σ H fun c H1 => if c = true then ta σ H1 Q else tb σ H1 Q
section
variable {X : Cx} {c a b : Expr} {pos : Pos} {tc ta tb : TT}
theorem pt_ifExp (hc : PT X c tc) (ha : PT X a ta) (hb : PT X b tb) : PT X (.IfExp c a b pos) (tIfB tc ta tb) := by
  refine ⟨fun pins s σ H Q I h => ?_⟩
  rw [arm_isTrue_IfExp]
  refine wpAny_bind (thn (hc.run pins s σ H _ I h) fun d s1 ⟨H1, I1, q1⟩ => ?_)
  cases d with
  | true => exact ha.run pins s1 σ H1 Q I1 q1
  | false => exact hb.run pins s1 σ H1 Q I1 q1
end
section
variable {σ : L2.St} {H : Hp} {tc ta tb : TT} {Q : Bool → Hp → Prop}
theorem w_ifB (h : tc σ H fun c H1 => if c = true then ta σ H1 Q else tb σ H1 Q) : tIfB tc ta tb σ H Q := h
end
end Lv

/-! a hook that gathers the addresses level by level, each once, by the bits of one number -/
namespace Lv
open PySem PySem.Spec PyProof.Rows L2
def seeR (st : Nat × List Addr) (r : Addr) : Nat × List Addr := match Nat.land (Nat.shiftRight st.1 r) 1 with
  | 0 => (Nat.lor st.1 (Nat.shiftLeft 1 r), r :: st.2)
  | _ => st
def seeO (g : Addr → Option Obj) (st : Nat × List Addr) (a : Addr) : Nat × List Addr := match g a with
  | some o => (He.refsD o).foldl seeR st
  | none => st
/-- the next levels; seen, what stands ahead, all so far -/
def goW (g : Addr → Option Obj) : Nat → Nat → List Addr → List Addr → List Addr
  | 0, _, _, all => all
  | n + 1, seen, fr, all => match fr.foldl (seeO g) (seen, []) with
    | (seen', fr') => goW g n seen' fr'.reverse (all ++ fr'.reverse)
def asW (n : Nat) (g : Addr → Option Obj) : List Addr := goW g n (Nat.shiftLeft 1 mainGlobals) [mainGlobals] [mainGlobals] ++ [cStatics]
def obsW (n : Nat) (fa : List He.Fa) (fn : List He.DefD) (ex : PySem.W.Frag → Bool) (g : Addr → Option Obj) : He.AlX := (He.obsT fa fn [] (He.frT g (asW n g)), ex (He.frT g (asW n g)))
theorem saysW_of {n : Nat} {fa : List He.Fa} {fn : List He.DefD} {ex : PySem.W.Frag → Bool} {w : World} {h : Heap} (e : obsW n fa fn ex h.get? = He.valX fn [] w) : He.SaysX fa fn [] [] ex w h (He.frT h.get? (asW n h.get?)) :=
  ⟨congrArg (fun z : He.AlX => z.1) e, congrArg (fun z : He.AlX => z.2) e, fun p hp => absurd hp (by simp), fun p hp => absurd hp (by simp), fun p hp => absurd hp (by simp)⟩
def hookW (n : Nat) (fa : List He.Fa) (fn : List He.DefD) (ex : PySem.W.Frag → Bool) : PySem.W.Hook where
  α := He.AlX
  obs := fun s => obsW n fa fn ex s.heap.get?
  val := fun w => He.valX fn [] w
  says := fun w h => ∃ K : PySem.W.Frag, K.In h ∧ He.SaysX fa fn [] [] ex w h K
  of := fun _ _ e => ⟨_, He.frT_in, saysW_of e⟩
  keeps := fun _ _ _ ⟨K, hK, c⟩ k => ⟨K, PySem.W.Frag.In.keeps hK k, ⟨c.t, c.more, c.hd, c.out, fun p hp => k _ _ (c.empty p hp)⟩⟩
theorem obsW_eq {n : Nat} {fa : List He.Fa} {fn : List He.DefD} {ex : PySem.W.Frag → Bool} {g : Addr → Option Obj} {s : Shared} (h : ∀ a, g a = s.heap.get? a) : obsW n fa fn ex g = (hookW n fa fn ex).obs s := by
  have e : g = s.heap.get? := funext h
  rw [e] <;> rfl
end Lv

/-! a thing that may be a dict != a tuple -/
namespace Lv
open PySem PySem.Spec PyProof.Rows PySem.SeqAt L2
open AutoSeq1 (wpAny_loadPart')
theorem dict_ne_tup (l b : Addr) (items2 : Array Value) (o : Obj) (ho : o.cls = .type "dict") (n2 : Nat) (dd2 : Option Addr) (sl2 : Array (Option Value)) :
    Meets (Builtin.«dict.__ne__» ⟨[.ref l, .ref b], []⟩) (fun _ R s => s.heap.get? l = some o ∧ s.heap.get? b = some { cls := .type "tuple", dict := dd2, data := .seq items2 n2, slots := sl2 } ∧ R (.ok (.ret .notImplemented)) s) :=
  .of_wp fun prog w A R s h => by obtain ⟨hp, g, d, tk, os⟩ := s; obtain ⟨hl, hb, h⟩ := h; have f1 := F.sub_tuple_dict; wp_walk using wpAny_loadPart' hl, wpAny_load hl, wpAny_loadPart' hb, wpAny_load hb; exact ⟨_, rfl, h⟩
theorem tup_ne_dict (b l : Addr) (items2 : Array Value) (o : Obj) (ho : o.cls = .type "dict") (n2 : Nat) (dd2 : Option Addr) (sl2 : Array (Option Value)) :
    Meets (Builtin.«tuple.__ne__» ⟨[.ref b, .ref l], []⟩) (fun _ R s => s.heap.get? l = some o ∧ s.heap.get? b = some { cls := .type "tuple", dict := dd2, data := .seq items2 n2, slots := sl2 } ∧ R (.ok (.ret .notImplemented)) s) :=
  .of_wp fun prog w A R s h => by obtain ⟨hp, g, d, tk, os⟩ := s; obtain ⟨cls, dd, data, sl⟩ := o; simp only at ho; subst ho; obtain ⟨hl, hb, h⟩ := h; have f1 := F.sub_dict_tuple; wp_walk using wpAny_loadPart' hl, wpAny_load hl, wpAny_loadPart' hb, wpAny_load hb; exact ⟨_, rfl, h⟩
def rNeX (K : PySem.W.Frag) : R2 := fun x y H Q => rNeD K x y H Q ∨ ∃ a b ks ys, x = .ref a ∧ y = .ref b ∧ a ≠ b ∧ H a = some (.dK ks) ∧ SqT K H b ys ∧ Q (.bl true) H
section
variable {X : Cx}
theorem op_neX (hu : X.A.units + 64 < cLine) : OpR X (compareOp .NotEq) (rNeX X.K) := by
  intro pins s σ H x y v u Q I rx ry h
  rcases h with h | ⟨a, b, ks, ys, rfl, rfl, nab, ha, hb, q⟩
  · exact op_neD hu pins s σ H x y v u Q I rx ry h
  cases (show v = Value.ref a from rx)
  cases (show u = Value.ref b from ry)
  obtain ⟨_, _, vs, _, o, es, ep, hob, h2, _⟩ := (show ObjOk X.prog X.w H s.heap a (.dK ks) from I.hok a _ ha)
  obtain ⟨its, rv, p, hz⟩ := I.tuple hb
  obtain ⟨⟨cls, dd, data, sls⟩, hob2, hc, k, hdt⟩ := (show s.heap.IsTuple b its.toArray from p)
  simp only at hc hdt
  subst hc hdt
  show wpAny (model X.prog X.w) X.A (richCompare .NotEq (.ref a) (.ref b)) (EP X pins σ Q) X.xe s
  exact rc_ne_decline_or (k := false) ⟨_, hob, h2.1⟩ ⟨_, hob2, rfl⟩ (by decide) F.sub_tuple_dict F.slot_dict_ne F.slot_tuple_ne_refl
    (fun _ hq => call_meets F.slot_dict_ne ⟨_, hob, h2.1⟩ F.entry_dict_ne (F.args_dict_ne_2 _ _) (dict_ne_tup a b _ o h2.1 _ _ _) ⟨hob, hob2, hq⟩)
    (fun _ hq => call_meets F.slot_tuple_ne_refl ⟨_, hob2, rfl⟩ F.entry_tuple_ne (F.args_tuple_ne_2 _ _) (tup_ne_dict b a _ o h2.1 _ _ _) ⟨hob, hob2, hq⟩)
    (fun _ hq => wpAny_isSame_ref_other nab hob hob2 (by rw [h2.1]; simp) hq) (.inr (by omega)) ⟨.bl true, H, I, rfl, q⟩
theorem op_neXK {K : PySem.W.Frag} (h : X.K = K) (hu : X.A.units + 64 < cLine) : OpR X (compareOp .NotEq) (rNeX K) := h ▸ op_neX hu
end
end Lv

namespace Lv
open PySem PySem.Spec PyProof.Rows L2
/-! a tuple in a tuple of tuples -/
section
variable {X : Cx}
def rInU (K : PySem.W.Frag) : R2 := fun x y H Q => ∃ d ds, Dp K H x d ∧ Dp K H y (.tuple ds) ∧ SeqAt.shaped d = true ∧ SeqAt.shaped (.list ds) = true ∧ Q (.bl (ds.any fun z => PyData.eqv z d)) H
def rNotInU (K : PySem.W.Frag) : R2 := fun x y H Q => ∃ d ds, Dp K H x d ∧ Dp K H y (.tuple ds) ∧ SeqAt.shaped d = true ∧ SeqAt.shaped (.list ds) = true ∧ Q (.bl (!ds.any fun z => PyData.eqv z d)) H
theorem op_inU (hu : X.A.units + 65 < cLine) : OpR X (compareOp .In) (rInU X.K) := by
  intro pins s σ H x y v u Q I rx ry h
  obtain ⟨d, ds, hd, he, sd, se, q⟩ := h
  obtain ⟨as, r1⟩ := Dp.reads I d x v hd rx
  obtain ⟨bs, r2⟩ := Dp.reads I (.tuple ds) y u he ry
  exact SeqAt.in_tuple_reads r2 r1 (SeqAt.canLay_of_shaped se) (SeqAt.canLay_of_shaped sd) (room_in_shaped sd hu) ⟨.bl _, H, I, rfl, q⟩
theorem op_notInU (hu : X.A.units + 65 < cLine) : OpR X (compareOp .NotIn) (rNotInU X.K) := by
  intro pins s σ H x y v u Q I rx ry h
  obtain ⟨d, ds, hd, he, sd, se, q⟩ := h
  obtain ⟨as, r1⟩ := Dp.reads I d x v hd rx
  obtain ⟨bs, r2⟩ := Dp.reads I (.tuple ds) y u he ry
  exact SeqAt.notIn_tuple_reads r2 r1 (SeqAt.canLay_of_shaped se) (SeqAt.canLay_of_shaped sd) (room_in_shaped sd hu) ⟨.bl _, H, I, rfl, q⟩
theorem op_inUK {K : PySem.W.Frag} (h : X.K = K) (hu : X.A.units + 65 < cLine) : OpR X (compareOp .In) (rInU K) := h ▸ op_inU hu
theorem op_notInUK {K : PySem.W.Frag} (h : X.K = K) (hu : X.A.units + 65 < cLine) : OpR X (compareOp .NotIn) (rNotInU K) := h ▸ op_notInU hu
end
theorem notInU_go {K : PySem.W.Frag} {H : Hp} {Q : VK} {tk a : Addr} {xs : List V} {nss : List (List Int)} {ks : List Int} (h : H a = some (.tup xs)) (ht : TupL iV H xs nss) (hk : H tk = some (.tup (ks.map V.int))) (q : Q (.bl (!decide (ks ∈ nss))) H) : rNotInU K (.ref tk) (.ref a) H Q :=
  ⟨_, _, dp_tup hk, dp_tt h ht, shaped_dT _, shaped_dL nss, by rw [any_dT]; exact q⟩
theorem inU_go {K : PySem.W.Frag} {H : Hp} {Q : VK} {tk a : Addr} {xs : List V} {nss : List (List Int)} {ks : List Int} (h : H a = some (.tup xs)) (ht : TupL iV H xs nss) (hk : H tk = some (.tup (ks.map V.int))) (q : Q (.bl (decide (ks ∈ nss))) H) : rInU K (.ref tk) (.ref a) H Q :=
  ⟨_, _, dp_tup hk, dp_tt h ht, shaped_dT _, shaped_dL nss, by rw [any_dT]; exact q⟩
end Lv

/-! sorted of tuples that unlike whole numbers begin, whatever stands behind these -/
namespace Lv
open PySem PySem.Spec PyProof.Rows L2
section
variable {prog : Program} {w : World} {A : Around} {E : Value → Shared → Prop} {s : Shared}
theorem eqBool_self {p : Value} {Q : Bool → Shared → Prop} (h : Q true s) : wpAny (model prog w) A (eqBool p p) Q E s := by
  unfold eqBool
  refine wpAny_holding ?_
  rw [if_pos (beq_self_eq_true p)]
  exact wpAny_bind (wpAny_rule (wpAny_pure h))
theorem kat_self {b fin : Bool} {Q : Bool → Shared → Prop} (h : Q fin s) : ∀ (l : List Value) (i : Nat), PySem.W.KatLex prog w A b fin Q (l.zip l) i s
  | [], _ => PySem.W.kat_nil h
  | p :: l, i => PySem.W.kat_cons (eqBool_self (PySem.W.kat_yes (kat_self h l (i + 1))))
def FstInt (h : Heap) (v : Value) (n : Int) : Prop := ∃ a xs t ys, v = .ref a ∧ IsTup h a xs ∧ xs.toList = Value.int n t :: ys
theorem FstInt.keeps {h h' : Heap} {v : Value} {n : Int} (x : FstInt h v n) (k : ∀ b o, h.get? b = some o → o.cls = .type "tuple" → h'.get? b = some o) : FstInt h' v n := by
  obtain ⟨a, xs, t, ys, e, ⟨o, ho, hc, hd⟩, i⟩ := x
  exact ⟨a, xs, t, ys, e, ⟨o, k _ _ ho hc, hc, hd⟩, i⟩
def fstOf (h : Heap) (v : Value) : Int := (TS.intsOf h v).headD 0
theorem FstInt.fst {h : Heap} {v : Value} {n : Int} (x : FstInt h v n) : fstOf h v = n := by
  obtain ⟨a, xs, t, ys, rfl, ⟨o, ho, hc, m, hd⟩, i⟩ := x
  unfold fstOf
  simp only [TS.intsOf, ho, hd, i]
  rfl
/-- what is sorted -/
def KeyOk (h : Heap) (vs : List Value) : Prop := (∀ v, v ∈ vs → ∃ n, FstInt h v n) ∧ ∀ v, v ∈ vs → ∀ u, u ∈ vs → ∀ n, FstInt h v n → FstInt h u n → v = u
theorem key_firsts {h : Heap} : ∀ vs : List Value, (∀ v, v ∈ vs → ∃ n, FstInt h v n) → ∃ fs, PySem.W.KatTups h vs fs ∧ fs.length = vs.length ∧ ∀ f, f ∈ fs → ∃ n t, f = Value.int n t
  | [], _ => ⟨[], PySem.W.KatTups.nil, rfl, fun f hf => by simp at hf⟩
  | v :: vs, x => by
    obtain ⟨fs, k, hl, hi⟩ := key_firsts vs fun u hu => x u (List.mem_cons_of_mem _ hu)
    obtain ⟨m, a, xs, t, ys, rfl, ⟨o, ho, hc, n, hdt⟩, e⟩ := x v (List.mem_cons_self ..)
    refine ⟨Value.int m t :: fs, PySem.W.KatTups.cons ho hc hdt ?_ k, by simp [hl], ?_⟩
    · have z := congrArg (fun l : List Value => l[0]?) e
      simpa using z
    · intro f hf
      rcases List.mem_cons.mp hf with rfl | hf
      · exact ⟨m, t, rfl⟩
      · exact hi f hf
def ltF (h : Heap) (v u : Value) : Bool := decide (fstOf h v < fstOf h u)
theorem swo_ltF (h : Heap) : SrtO.Swo (ltF h) := by
  refine ⟨fun x y hxy => ?_, fun x y z h1 h2 => ?_⟩
  · unfold ltF at hxy ⊢
    simp only [decide_eq_true_eq, decide_eq_false_iff_not] at hxy ⊢
    omega
  · unfold ltF at h1 h2 ⊢
    simp only [decide_eq_false_iff_not] at h1 h2 ⊢
    omega
theorem key_sortable {a : Addr} {vs : List Value} (h0 : 0 < vs.length) (x : KeyOk s.heap vs) (ha : ∀ o, s.heap.get? a = some o → o.cls ≠ .type "tuple") : SrtO.SortableO prog w A s a vs (ltF s.heap) := by
  intro h' keep
  have keep2 : ∀ b o, s.heap.get? b = some o → o.cls = .type "tuple" → h'.get? b = some o := fun b o e c => keep b o (fun z => by subst z; exact ha o e c) e
  have x' : ∀ v, v ∈ vs → ∃ n, FstInt h' v n := fun v hv => let ⟨n, t⟩ := x.1 v hv; ⟨n, t.keeps keep2⟩
  obtain ⟨fs, k, hl, hi⟩ := key_firsts vs x'
  refine ⟨PyProof.Rows.tuples' true, fun Q E hq => ?_, fun p q hm hm' => ?_⟩
  · refine PySem.W.kat_kind (T := Value.type "int") k (by omega) (fun f hf => ?_) rfl ?_
    · obtain ⟨n, t, rfl⟩ := hi f hf
      exact PySem.W.Looks.of_pure rfl
    · have e : (Value.type "int" != Value.type "tuple") = true := by first | decide +kernel | rfl | decide
      rw [e]
      exact hq
  · obtain ⟨n, tp⟩ := x.1 p.1 hm
    obtain ⟨m, tq⟩ := x.1 q.1 hm'
    have tp' := tp.keeps keep2
    have tq' := tq.keeps keep2
    have e0 : SrtO.lt2 (ltF s.heap) p q = decide (n < m) := by
      show ltF s.heap p.1 q.1 = _
      unfold ltF
      rw [tp.fst, tq.fst]
    rw [e0]
    have same : n = m → p.1 = q.1 := fun e => x.2 _ hm _ hm' n tp (e ▸ tq)
    obtain ⟨a, xs, t, rx, e1, ⟨o, ho, hc, i, hdt⟩, ix⟩ := tp'
    obtain ⟨a', ys, t', ry, e2, ⟨o', ho', hc', i', hdt'⟩, iy⟩ := tq'
    rw [e1, e2] at same
    rw [e1, e2]
    refine PySem.W.kat_lt ho hdt ho' hdt' ?_
    by_cases e : n = m
    · have ea : a = a' := by have := same e; injection this
      subst ea
      rw [ho] at ho'
      obtain rfl := Option.some.inj ho'
      rw [hdt] at hdt'
      injection hdt' with hxy _
      subst hxy
      refine kat_self ?_ _ 0
      refine ⟨rfl, ?_⟩
      subst e
      rw [decide_eq_false (Nat.lt_irrefl _), decide_eq_false (Int.lt_irrefl _)]
    · rw [ix, iy, List.zip_cons_cons]
      refine PySem.W.kat_cons (wpAny_eqBool_int ?_)
      rw [show (n == m) = false from beq_eq_false_iff_ne.mpr e]
      exact PySem.W.kat_no (TS.oneLt_ints _ ⟨rfl, rfl⟩)
/-- list.sort -/
theorem sort_key {a : Addr} {vs : List Value} {n : Nat} {P : PySem.Fin → Shared → Prop} (ho : s.heap.get? a = some (seqObj "list" vs.toArray n)) (hz : vs.length ≤ sizeLine) (x : KeyOk s.heap vs)
    (h : ∀ out : Array Value, out.toList.Perm vs → out.toList.Pairwise (fun u v => ltF s.heap v u = false) → P (.done (.ret .none)) { s with heap := sortedHeap s.heap a vs out }) :
    wpAny (model prog w) A (Builtin.«list.sort» ⟨[.ref a], []⟩) P E s := by
  refine SrtO.list_sort_ord (swo_ltF s.heap) ho hz (fun h2 => key_sortable (by omega) x fun o e => ?_) fun out h1 h2 => h out.toArray h2.perm h1
  rw [ho] at e
  have e' : seqObj "list" vs.toArray n = o := Option.some.inj e
  rw [← e']
  intro c
  exact absurd (Value.type.inj c) (by decide)
end
section
variable {X : Cx}
theorem fst_raw {pins : List (Addr × Obj)} {σ : L2.St} {H : Hp} {s : Shared} (I : Inv X pins σ H s) {t : Addr} {n : Int} {rest : List V} (h : SqT X.K H t (.int n :: rest)) : FstInt s.heap (.ref t) n := by
  obtain ⟨its, rv, hT, _⟩ := I.tuple h
  cases rv with
  | cons r t2 =>
    obtain ⟨t', rfl⟩ := r
    exact ⟨t, _, t', _, rfl, hT, rfl⟩
/-- sorted(xs) of a list -/
def rSortK (K : PySem.W.Frag) : List V → Hp → VK → Prop := fun vs H Q => ∃ (a : Addr) (xs : List V) (k : V → Int), vs = [V.ref a] ∧ SqL K H a xs ∧ (∀ x ∈ xs, ∃ t rest, x = V.ref t ∧ SqT K H t (.int (k x) :: rest)) ∧ (∀ x ∈ xs, ∀ y ∈ xs, k x = k y → x = y) ∧
  ∀ (ys : List V) (p : Addr), ys.Perm xs → ys.Pairwise (fun x y => k x ≤ k y) → H p = none → Q (.ref p) (upd H p (.lst ys))
theorem cr_sortK : CallR X (.builtin "sorted") (rSortK X.K) := by
  intro pins s σ H vs us Q I r h
  obtain ⟨a, xs, key, rfl, hs, hx, hinj, q⟩ := h
  obtain ⟨its, rv, hl, hz⟩ := I.list hs
  rw [Vals.ref1 r]
  obtain ⟨e1, e2⟩ := bkV_refs rv fun x m => by
    obtain ⟨t, _, e, _⟩ := hx x m
    exact ⟨t, e⟩
  have hk : ∀ u ∈ its, FstInt s.heap u (key (bkV u)) := fun u hu => by
    obtain ⟨t, rfl⟩ := e2 u hu
    have hm : V.ref t ∈ xs := by rw [e1]; exact List.mem_map.mpr ⟨_, hu, rfl⟩
    obtain ⟨t', rest, e, ht⟩ := hx _ hm
    injection e with e
    subst e
    exact fst_raw I ht
  have x : KeyOk s.heap its := ⟨fun v hv => ⟨_, hk v hv⟩, fun v hv u hu n hn hm => by
    have i1 := (hk v hv).fst.symm.trans hn.fst
    have i2 := (hk u hu).fst.symm.trans hm.fst
    obtain ⟨t, rfl⟩ := e2 v hv
    obtain ⟨t', rfl⟩ := e2 u hu
    have m1 : V.ref t ∈ xs := by rw [e1]; exact List.mem_map.mpr ⟨_, hv, rfl⟩
    have m2 : V.ref t' ∈ xs := by rw [e1]; exact List.mem_map.mpr ⟨_, hu, rfl⟩
    have := hinj _ m1 _ m2 (i1.trans i2.symm)
    injection this with this
    rw [this]⟩
  have hzi : its.length ≤ sizeLine := by rw [← rv.length]; exact hz
  refine Calls.call_function_entry kind_sorted plain_sorted entry_sorted (args_sorted1 _) ?_
  unfold Builtin.«sorted»
  refine wpAny_bind (m := checkCount "sorted" 1 1 _) (wpAny_pure ?_)
  refine wpAny_bind (collect_list hl.isList ?_ (by simpa using hzi))
  refine wpAny_bind (wpAny_newList ?_ (by simpa using hzi))
  have hsz : ((s.heap.push (seqObj "list" #[] 0)).update s.heap.objs.size (Obj.mapSeq (· ++ its.toArray))).objs.size = s.heap.objs.size + 1 := by
    rw [Heap.size_update, size_push']
  have hoL : (((s.heap.push (seqObj "list" #[] 0)).update s.heap.objs.size (Obj.mapSeq (· ++ its.toArray))).push (seqObj "list" its.toArray 0)).get? (s.heap.objs.size + 1) = some (seqObj "list" its.toArray 0) := by
    rw [← hsz]; exact Heap.get?_push_size _ rfl
  have keep : ∀ b o, s.heap.get? b = some o → o.cls = .type "tuple" → (((s.heap.push (seqObj "list" #[] 0)).update s.heap.objs.size (Obj.mapSeq (· ++ its.toArray))).push (seqObj "list" its.toArray 0)).get? b = some o := fun b o q _ => by
    have hlt : b < s.heap.objs.size := Heap.lt_size q
    rw [Heap.get?_push_ne _ _ _ (by rw [hsz]; exact Nat.ne_of_lt (Nat.lt_succ_of_lt hlt)), Heap.get?_update_ne _ _ _ _ (Nat.ne_of_lt hlt), Heap.get?_push_ne _ _ _ (Nat.ne_of_lt hlt)]
    exact q
  show wpAny _ _ _ _ _ { s with heap := ((s.heap.push (seqObj "list" #[] 0)).update s.heap.objs.size (Obj.mapSeq (· ++ its.toArray))).push (seqObj "list" its.toArray 0) }
  rw [hsz]
  have hk2 : ∀ u ∈ its, FstInt (((s.heap.push (seqObj "list" #[] 0)).update s.heap.objs.size (Obj.mapSeq (· ++ its.toArray))).push (seqObj "list" its.toArray 0)) u (key (bkV u)) := fun u hu => (hk u hu).keeps keep
  have x2 : KeyOk (((s.heap.push (seqObj "list" #[] 0)).update s.heap.objs.size (Obj.mapSeq (· ++ its.toArray))).push (seqObj "list" its.toArray 0)) its := ⟨fun v hv => ⟨_, hk2 v hv⟩, fun v hv u hu n hn hm => by
    have i1 := (hk2 v hv).fst.symm.trans hn.fst
    have i2 := (hk2 u hu).fst.symm.trans hm.fst
    exact x.2 v hv u hu n (i1 ▸ hk v hv) (i2 ▸ hk u hu)⟩
  refine wpAny_bind (wpAny_holding (wpAny_call_entry slot_list_sort ⟨_, hoL, rfl⟩ entry_list_sort (sort_key hoL hzi x2 fun out a1 a2 => ⟨_, rfl, ?_⟩) (args_list_sort _)))
  refine wpAny_pure ⟨_, rfl, ?_⟩
  obtain ⟨ep, he'⟩ := PyProof.Rows.sortedAll_at s.heap its out
  have h3 : ∀ u ∈ out.toList, ∃ a, u = Value.ref a := fun u hu => e2 u (a1.mem_iff.mp hu)
  have hp : (out.toList.map bkV).Perm xs := by
    rw [e1]
    exact a1.map bkV
  have hlen : (out.toList.map bkV).length ≤ sizeLine := by
    rw [hp.length_eq]
    exact hz
  refine ⟨.ref _, upd H (s.heap.objs.size + 1) (.lst (out.toList.map bkV)), I.laid (t' := s.toks) (fun _ _ => PyProof.Rows.sortedAll_old) (Nat.le_succ _) ⟨hlen, out.toList, ep, bkV_vals h3, he'⟩, rfl, q _ _ hp ?_ (I.hok.fresh (Nat.le_succ _))⟩
  rw [List.pairwise_map]
  refine List.Pairwise.imp_of_mem (fun {u v} hu hv huv => ?_) a2
  unfold ltF at huv
  rw [(hk2 u (a1.mem_iff.mp hu)).fst, (hk2 v (a1.mem_iff.mp hv)).fst] at huv
  have := of_decide_eq_false huv
  omega
end
section
variable {K : PySem.W.Frag} {G P H : Hp} {Q : VK}
theorem sortK_go {a : Addr} {xs : List V} (k : V → Int) (J : Join G P H) (h : G a = some (.lst xs)) (hx : ∀ x ∈ xs, ∃ t rest, x = V.ref t ∧ G t = some (.tup (.int (k x) :: rest))) (hi : ∀ x ∈ xs, ∀ y ∈ xs, k x = k y → x = y)
    (q : ∀ (ys : List V) p G' H', ys.Perm xs → ys.Pairwise (fun x y => k x ≤ k y) → H p = none → Ex G G' → Join G' P H' → G' p = some (.lst ys) → Q (.ref p) H') : rSortK K [.ref a] H Q :=
  ⟨a, xs, k, rfl, sqL (J.g _ _ h), fun x hm => by
    obtain ⟨t, rest, e, ht⟩ := hx x hm
    exact ⟨t, rest, e, sqT (J.g _ _ ht)⟩, hi, fun ys p hp hw hn => q ys p _ _ hp hw hn (Ex.new (J.ng hn)) (J.newG hn) upd_same⟩
end
end Lv

/-! [.. for x, y in zip(xs, ys)] -/
namespace Lv
open PySem PySem.Spec PyProof.Rows L2
section
variable {K : PySem.W.Frag} {σ : L2.St} {H : Hp} {Q : VK} {te : TE} {tt : TT} {as : TA} {g : TG}
theorem lc_zipL {a b : Addr} {xs ys : List V} {vs : List Nat} {H1 : Hp} {D : Addr} {Qd : Hp → Prop} (Pv : Nat → Hp → Prop) (h0 : Pv 0 (upd H1 D (.lst []))) (hl : ∀ i H, Pv i H → SqL K H a xs ∧ SqL K H b ys)
    (hs : ∀ (i : Nat) x y H T, xs[i]? = some x → ys[i]? = some y → Pv i H → H T = none → g (.ref T) (wipe σ vs) (upd H T (.tup [x, y])) fun σ2 H2 => wipe σ2 vs = wipe σ vs ∧ tt σ2 H2 fun b H3 =>
      if b = true then te σ2 H3 fun y H4 => ∃ acc, H4 D = some (.lst acc) ∧ acc.length < sizeLine ∧ Pv (i + 1) (upd H4 D (.lst (acc ++ [y]))) else Pv (i + 1) H3) (hd : ∀ H, Pv (min xs.length ys.length) H → Qd H) :
    ∃ W : Nat → Nat → Hp → Prop, (∃ m, W 0 m (upd H1 D (.lst []))) ∧ ∀ i m H, W i m H →
      ((Itz K a b).stop i H ∧ Qd H) ∨ ((Itz K a b).go i H ∧ ∃ Nx : Hp → Prop, (∀ H', Nx H' → ∃ m', m' < m ∧ W (i + 1) m' H') ∧ ∀ x H', (Itz K a b).yld i H x H' → g x (wipe σ vs) H' fun σ2 H2 => wipe σ2 vs = wipe σ vs ∧ tt σ2 H2 fun b H3 =>
        if b = true then te σ2 H3 fun y H4 => ∃ acc, H4 D = some (.lst acc) ∧ acc.length < sizeLine ∧ Nx (upd H4 D (.lst (acc ++ [y]))) else Nx H3) := by
  refine ⟨fun i m H => m = min xs.length ys.length - i ∧ i ≤ min xs.length ys.length ∧ Pv i H, ⟨min xs.length ys.length, by simp, Nat.zero_le _, h0⟩, ?_⟩
  rintro i m H ⟨rfl, hi, p⟩
  obtain ⟨q1, q2⟩ := hl i H p
  by_cases hlt : i < min xs.length ys.length
  · have h1 : i < xs.length := by omega
    have h2 : i < ys.length := by omega
    refine .inr ⟨⟨xs, ys, xs[i], ys[i], q1, q2, by simp [h1], by simp [h2]⟩, Pv (i + 1), fun H' p' => ⟨min xs.length ys.length - (i + 1), by omega, rfl, hlt, p'⟩, fun x H' y => ?_⟩
    obtain ⟨T, z1, z2, e1, e2, e3, y1, y2⟩ := y
    subst e1 e3
    exact hs i z1 z2 H T (y1 xs q1) (y2 ys q2) p e2
  · have e : i = min xs.length ys.length := by omega
    subst e
    exact .inl ⟨⟨xs, ys, q1, q2, by omega⟩, hd H p⟩
def aLcZ (K : PySem.W.Frag) (g : TG) (tt : TT) (te : TE) (vs : List Nat) (σ : L2.St) : List V → Hp → VK → Prop := fun us H Q => tLc (fun _ H R => ∃ a b xs ys, us = [.ref a, .ref b] ∧ SqL K H a xs ∧ SqL K H b ys ∧ R (Itz K a b) H) g tt te vs σ H Q
theorem w_lcZ {ts : List Nat} (h : as σ H fun xs H1 => aLcZ K g tt te ts σ xs H1 Q) : tLc (iZip K as) g tt te ts σ H Q := h
theorem aLcZ.go {a b : Addr} {xs ys : List V} {ts : List Nat} {G P : Hp} (Pp : Hp → Prop) (I : Nat → List V → Hp → Prop) (J : Join G P H) (hP : Pp P)
    (hS : G a = some (.lst xs)) (hS2 : G b = some (.lst ys)) (h0 : ∀ G', Ex G G' → I 0 [] G') (hI : ∀ i ws G2 D us ts, G2 D = some (.lst us) → I i ws G2 → I i ws (upd G2 D (.lst ts))) (hz : ∀ i ws G2, I i ws G2 → ws.length ≤ 1000000)
    (hm : ∀ i ws G2 G3, Ex G2 G3 → I i ws G2 → I i ws G3)
    (hs : ∀ (i : Nat) (x y : V) (T : Addr) (ws : List V) (G' P' H' : Hp) (R : VK) (R0 : Hp → Prop), xs[i]? = some x → ys[i]? = some y → Ex G G' → I i ws G' → Pp P' → Join G' P' H' → G' T = some (.tup [x, y]) →
      (∀ v G2 P2 H2, Ex G' G2 → Pp P2 → Join G2 P2 H2 → I (i + 1) (ws ++ [v]) G2 → R v H2) → (∀ G2 P2 H2, Ex G' G2 → Pp P2 → Join G2 P2 H2 → I (i + 1) ws G2 → R0 H2) →
      g (.ref T) (wipe σ ts) H' fun σ2 H2 => wipe σ2 ts = wipe σ ts ∧ tt σ2 H2 fun b H3 => if b = true then te σ2 H3 R else R0 H3)
    (hq : ∀ p ws G' P' H', H p = none → Ex G G' → G' p = some (.lst ws) → I (min xs.length ys.length) ws G' → Pp P' → Join G' P' H' → Q (.ref p) H') : aLcZ K g tt te ts σ [.ref a, .ref b] H Q := by
  refine ⟨a, b, xs, ys, rfl, sqL (J.g _ _ hS), sqL (J.g _ _ hS2), fun D hD => ?_⟩
  have gD : G D = none := J.ng hD
  refine lc_zipL (K := K) (a := a) (b := b) (xs := xs) (ys := ys) (fun i H' => ∃ (ws : List V) (G' P' : Hp), Ex G G' ∧ G' D = some (.lst ws) ∧ I i ws G' ∧ Pp P' ∧ Join G' P' H') ⟨[], _, P, Ex.new gD, upd_same, h0 _ (Ex.new gD), hP, J.newG hD⟩ (fun i H' ⟨ws, G', P', e, _, _, _, j⟩ => ⟨(e.trans j.exG).l (sqL hS), (e.trans j.exG).l (sqL hS2)⟩) (fun i x y H' T hi hi' ⟨ws, G', P', e, hd, hi2, hp, j⟩ hT => ?_) (fun H' ⟨ws, G', P', e, hd, hi2, hp, j⟩ => hq D ws G' P' H' hD e hd hi2 hp j)
  have eT := Ex.new (o := .tup [x, y]) (j.ng hT)
  refine hs i x y T ws _ P' _ _ _ hi hi' (e.trans eT) (hm _ _ _ _ eT hi2) hp (j.newG hT) upd_same (fun v G2 P2 H2 e2 hp2 j2 hi3 => ⟨ws, j2.g _ _ (e2 _ _ (eT _ _ hd)), Nat.lt_of_le_of_lt (hz _ _ _ hi2) (by decide), ws ++ [v], _, P2, ?_, upd_same, hI _ _ _ _ _ _ (e2 _ _ (eT _ _ hd)) hi3, hp2, j2.setG (j2.gp (e2 _ _ (eT _ _ hd)))⟩) (fun G2 P2 H2 e2 hp2 j2 hi3 => ⟨ws, G2, P2, (e.trans eT).trans e2, e2 _ _ (eT _ _ hd), hi3, hp2, j2⟩)
  exact ((e.trans eT).trans e2).mut gD
end
end Lv

namespace Lv
open PySem PySem.Spec PyProof.Rows L2
/-! a tuple in a list, within a block -/
section
variable {X : Cx}
theorem op_inDK {K : PySem.W.Frag} (h : X.K = K) (hu : X.A.units + 65 < cLine) : OpR X (compareOp .In) (rInD K) := h ▸ op_inD hu
theorem op_notInDK {K : PySem.W.Frag} (h : X.K = K) (hu : X.A.units + 65 < cLine) : OpR X (compareOp .NotIn) (rNotInD K) := h ▸ op_notInD hu
end
end Lv

namespace Lv
open PySem PySem.Spec PyProof.Rows L2
/-! set(xs) of a list of ints -/
section
variable {P : Program} {w : World} {A : Around} {E : Value → Shared → Prop} {s : Shared}
set_option maxRecDepth 100000 in
set_option maxHeartbeats 3200000 in
theorem set_of_list {l : Addr} {us : Array Value} (ns : List Int) {Q : Value → Shared → Prop} (hA : A.handled = none) (hL : s.heap.IsList l us) (hI : IntsAre us.toList ns) (hB : ns.length + 1 < scanBound)
    (q : ∀ (h' : Heap) (tk c : Nat), SetR w h' s.heap.objs.size (fun j => decide (j ∈ ns)) c → c ≤ ns.length → (∀ b o, s.heap.get? b = some o → h'.get? b = some o) → Q (.ref s.heap.objs.size) { s with heap := h', toks := tk }) :
    wpAny (model P w) A (call (.type "set") [.ref l]) Q E s := by
  have hsz : us.size = ns.length := by
    have := IntsAre.length hI
    rwa [Array.length_toList] at this
  obtain ⟨c0, tl0, hmr⟩ := F.called_set.mro
  have hmd := F.called_set.made
  have hsb := F.called_set.sub
  refine wpAny_call (codeAny_of_tree ?_)
  show wpAny _ _ (callAny (.type "set") _) _ _ _
  refine wpAny_pure ⟨Code.quiet_builtin _ (by decide +kernel), codeAny_builtin F.entry_type_call ?_⟩
  rw [Around.under_plain (weight_type_call_type "set" [.ref l] []) rfl]
  have hn1 := F.called_set.notType
  have hn2 := F.called_set.canCreate
  have hn3 := F.typeCall_set_1 (.ref l)
  repeat (any_goals (first | assumption | wp_step))
  have mk := code_set_led1 (P := P) (A := A.in1) (w := w) (s := s) (.ref l) (E := E) (Q₁ := fun ob t => ob = .ref s.heap.objs.size ∧ t = { s with heap := s.heap.push ({ cls := .type "set", dict := none, data := .set #[] 0 (.fresh 0 0 (!w.params.followText "set-order")) } : Obj) }) ⟨rfl, rfl⟩
  refine codeAny_mono mk fun r t hr => ?_
  cases r with
  | error e => exact hr
  | ok fl =>
    cases fl with
    | ret ob =>
      obtain ⟨rfl, rfl⟩ := hr
      have g0 : (s.heap.push ({ cls := .type "set", dict := none, data := .set #[] 0 (.fresh 0 0 (!w.params.followText "set-order")) } : Obj)).get? s.heap.objs.size = some ({ cls := .type "set", dict := none, data := .set #[] 0 (.fresh 0 0 (!w.params.followText "set-order")) } : Obj) := Heap.get?_push_size _ rfl
      have hty : Shared.TypeIs { s with heap := s.heap.push ({ cls := .type "set", dict := none, data := .set #[] 0 (.fresh 0 0 (!w.params.followText "set-order")) } : Obj) } (.ref s.heap.objs.size) "set" := ⟨_, g0, rfl⟩
      have hlk := F.called_set.init.lookup
      have hbd := F.called_set.init.bind (.ref s.heap.objs.size)
      repeat (any_goals (first | assumption | wp_step))
      have key : codeAny (model P w) A.in1 (.call (.builtin "set.__init__") ⟨[.ref s.heap.objs.size, .ref l], []⟩) (wants (fun r t => r = .none ∧ ∃ h' tk c, t = { s with heap := h', toks := tk } ∧ SetR w h' s.heap.objs.size (fun j => decide (j ∈ ns)) c ∧ c ≤ ns.length ∧
          (∀ b o, s.heap.get? b = some o → h'.get? b = some o)) E) { s with heap := s.heap.push ({ cls := .type "set", dict := none, data := .set #[] 0 (.fresh 0 0 (!w.params.followText "set-order")) } : Obj) } := by
        refine codeAny_call_builtin F.called_set.init.plain F.entry_set_init (check_set_init_1 hty ?_)
        obtain ⟨lo, hlo, hc1, nl, hd1⟩ := hL
        obtain ⟨xc, xd, xa, xs⟩ := lo
        simp only at hc1 hd1
        subst hc1 hd1
        have g1 : (s.heap.push ({ cls := .type "set", dict := none, data := .set #[] 0 (.fresh 0 0 (!w.params.followText "set-order")) } : Obj)).get? l = some { cls := .type "list", dict := xd, data := .seq us nl, slots := xs } := Heap.get?_push_of_some _ hlo
        have hss := F.sub_list_set
        have hsf := F.sub_list_frozenset
        have hnd : (Value.type "list" == Value.type "dict") = false := by decide
        have hL1 : (s.heap.push ({ cls := .type "set", dict := none, data := .set #[] 0 (.fresh 0 0 (!w.params.followText "set-order")) } : Obj)).IsList l us := ⟨_, g1, rfl, nl, rfl⟩
        unfold Builtin.«set.__init__» noKeywords Builtin.Frozenset.updateFrom
        generalize hpi : pyIter = PI
        wp_walk
        subst hpi
        refine wpAny_pyIter_list hL1 ?_
        refine wpAny_bind (wpAny_runValue ?_)
        have lt1 : l < s.heap.objs.size := Heap.lt_size hlo
        have hA3 : A.in1.in1.in1.handled = none := by simp [hA]
        have hz1 : (s.heap.push ({ cls := .type "set", dict := none, data := .set #[] 0 (.fresh 0 0 (!w.params.followText "set-order")) } : Obj)).objs.size = s.heap.objs.size + 1 := Heap.size_push ..
        have ne1 : l ≠ (s.heap.push ({ cls := .type "set", dict := none, data := .set #[] 0 (.fresh 0 0 (!w.params.followText "set-order")) } : Obj)).objs.size := by rw [hz1]; exact Nat.ne_of_lt (Nat.lt_succ_of_lt lt1)
        have nf : s.heap.objs.size ∉ [(s.heap.push ({ cls := .type "set", dict := none, data := .set #[] 0 (.fresh 0 0 (!w.params.followText "set-order")) } : Obj)).objs.size, l] := by
          rw [hz1]
          simp only [List.mem_cons, List.not_mem_nil, or_false, not_or]
          exact ⟨Nat.ne_of_lt (Nat.lt_succ_self _), fun e => Nat.lt_irrefl _ (e ▸ lt1)⟩
        have hv : ∀ (i : Nat) (v : Value), us[i]? = some v → ∃ k t, ns[i]? = some k ∧ v = .int k t := fun i v e => by
          have hi : i < ns.length := by rw [← hsz]; exact (Array.getElem?_eq_some_iff.mp e).1
          obtain ⟨t, e2⟩ := PyProof.Rows.IntsAre.int_at hI i v (by rw [Array.getElem?_toList]; exact e)
          refine ⟨ns[i], t, List.getElem?_eq_getElem hi, ?_⟩
          rw [e2, List.getD_eq_getElem?_getD, List.getElem?_eq_getElem hi] <;> rfl
        refine set_update_ints ((Walks.list hA3 _ l ne1 us).toS) s.heap.objs.size nf ns hsz hB hv (us.size - 0) 0 _ (by omega) (Nat.zero_le _) ⟨⟨_, Heap.get?_push_size _ rfl, rfl, rfl⟩, (hL1.push _)⟩ ?z0 ?zR
        case z0 => exact ⟨0, Nat.le_refl 0, setR_new_at (Heap.get?_push_of_some _ g0)⟩
        case zR =>
          intro t c' hm hc2 hS2
          obtain ⟨h', g2, d2, tk, os2⟩ := t
          obtain rfl : g2 = s.gens := hm.gens
          obtain rfl : d2 = s.drawn := hm.drawn
          obtain rfl : os2 = s.os := hm.os
          show wpAny _ _ _ _ _ _
          refine wpAny_pure ?_
          show wpAny _ _ (ret Value.none) _ _ _
          rw [hsz] at hc2
          refine wpAny_pure ⟨rfl, h', tk, c', rfl, hS2, hc2, fun b o e => ?_⟩
          have lb : b < s.heap.objs.size := Heap.lt_size e
          refine hm.heap b o ?_ (Heap.get?_push_of_some _ (Heap.get?_push_of_some _ e))
          simp only [List.mem_cons, List.not_mem_nil, or_false, not_or]
          rw [hz1]
          exact ⟨Nat.ne_of_lt lb, Nat.ne_of_lt (Nat.lt_succ_of_lt lb)⟩
      refine codeAny_mono key fun r2 t2 hr2 => ?_
      cases r2 with
      | error e => exact hr2
      | ok fl2 =>
        cases fl2 with
        | ret r =>
          obtain ⟨rfl, h', tk, c', rfl, hS2, hc2, hk2⟩ := hr2
          repeat (any_goals (first | assumption | wp_step))
          exact q _ _ _ hS2 hc2 hk2
        | _ => exact hr2.elim
    | _ => exact hr.elim
end
def rSetLI (K : PySem.W.Frag) (w : World) : List V → Hp → VK → Prop := fun vs H Q => ∃ (l : Addr) (ns : List Int), vs = [.ref l] ∧ SqL K H l (ns.map V.int) ∧ ns.length < 64 ∧ ∀ (p : Addr) (c : Nat), H p = none → c ≤ ns.length → Q (.ref p) (upd H p (SetO w p (fun j => decide (j ∈ ns)) c))
theorem cr_setLI {X : Cx} (hc : X.calm = true) : CallR X (.type "set") (rSetLI X.K X.w) := by
  intro pins s σ H xs us Q I r h
  obtain ⟨l, ns, rfl, hS, hl, q⟩ := h
  obtain ⟨its, rv, pl, hz⟩ := I.list hS
  rw [Vals.ref1 r]
  refine set_of_list ns (I.ok.hd hc) pl.isList (by simpa using rv.ints) (by unfold scanBound; omega) fun h' tk c hR hcn k => ?_
  exact ⟨.ref _, _, I.laid (t' := tk) k (Nat.le_refl _) (setO_new hR), rfl, q _ c (I.hok.fresh (Nat.le_refl _)) hcn⟩
/-! {n: True for n in xs}, xs a list or a tuple, numbers more than once -/
def ddI : List Int → List Int → List Int
  | acc, [] => acc
  | acc, n :: r => ddI (if n ∈ acc then acc else acc ++ [n]) r
theorem ddI_mem : ∀ {ns acc : List Int} {x : Int}, x ∈ ddI acc ns ↔ x ∈ acc ∨ x ∈ ns
  | [], acc, x => by simp [ddI]
  | n :: r, acc, x => by
    unfold ddI
    rw [ddI_mem (ns := r), List.mem_cons]
    by_cases h : n ∈ acc
    · rw [if_pos h]
      constructor
      · rintro (h1 | h1)
        · exact .inl h1
        · exact .inr (.inr h1)
      · rintro (h1 | rfl | h1)
        · exact .inl h1
        · exact .inl h
        · exact .inr h1
    · rw [if_neg h, List.mem_append, List.mem_singleton, or_assoc]
theorem ddI_nodup : ∀ {ns acc : List Int}, acc.Nodup → (ddI acc ns).Nodup
  | [], acc, h => h
  | n :: r, acc, h => by
    unfold ddI
    refine ddI_nodup ?_
    by_cases c : n ∈ acc
    · rw [if_pos c]; exact h
    · rw [if_neg c]
      refine List.nodup_append.mpr ⟨h, by simp, fun a ha b hb => ?_⟩
      rw [List.mem_singleton] at hb
      subst hb
      exact fun e => c (e ▸ ha)
theorem ddI_app : ∀ {ns acc : List Int} {n : Int}, ddI acc (ns ++ [n]) = if n ∈ ddI acc ns then ddI acc ns else ddI acc ns ++ [n]
  | [], acc, n => rfl
  | m :: r, acc, n => by
    rw [List.cons_append]
    unfold ddI
    exact ddI_app (ns := r)
theorem ddI_len : ∀ {ns acc : List Int}, (ddI acc ns).length ≤ acc.length + ns.length
  | [], acc => Nat.le_refl _
  | n :: r, acc => by
    unfold ddI
    refine Nat.le_trans (ddI_len (ns := r)) ?_
    by_cases c : n ∈ acc
    · rw [if_pos c, List.length_cons]; omega
    · rw [if_neg c, List.length_append, List.length_singleton, List.length_cons]; omega
theorem ddI_same {ns : List Int} (h : ns.Nodup) : ddI [] ns = ns := by
  suffices key : ∀ (ns acc : List Int), (acc ++ ns).Nodup → ddI acc ns = acc ++ ns by simpa using key ns [] (by simpa using h)
  intro ns
  induction ns with
  | nil => intro acc _; simp [ddI]
  | cons n r ih =>
    intro acc h
    have hn : n ∉ acc := fun c => (List.nodup_append.mp h).2.2 n c n List.mem_cons_self rfl
    unfold ddI
    rw [if_neg hn, ih (acc ++ [n]) (by simpa using h)]
    simp
theorem keyP_putD (acc : List Int) (k : Int) : putK (keyP acc) (.inl k) (.bl true) = keyP (if k ∈ acc then acc else acc ++ [k]) := by
  by_cases c : k ∈ acc
  · rw [if_pos c]
    unfold putK
    rw [keyP_any, if_pos (by simp [c])]
    unfold keyP
    rw [List.map_map]
    refine List.map_congr_left fun n _ => ?_
    show (if (Sum.inl n : L2.Key) = .inl k then ((Sum.inl n : L2.Key), V.bl true) else ((Sum.inl n : L2.Key), V.bl true)) = _
    split <;> rfl
  · rw [if_neg c]
    exact keyP_put c
section
variable {K : PySem.W.Frag} {σ : L2.St} {G P H : Hp} {Q : VK} {tt : TT} {ta tk tv : TE} {g : TG} {ts : List Nat} {a : Addr} {ns : List Int} {j : Nat}
def aDcS (K : PySem.W.Frag) (g : TG) (tt : TT) (tk tv : TE) (vs : List Nat) (σ : L2.St) : V → Hp → VK → Prop := fun x H Q => tDc (fun _ H R => ∃ a, x = .ref a ∧ (((∃ xs, SqL K H a xs) ∧ R (Itl K a) H) ∨ ((∃ xs, SqT K H a xs) ∧ R (Itt K a) H))) g tt tk tv vs σ H Q
theorem w_dcS (h : ta σ H fun x H1 => aDcS K g tt tk tv ts σ x H1 Q) : tDc (iSeq K ta) g tt tk tv ts σ H Q := h
theorem dcSet {it : It} {D : Addr} {Qd : Hp → Prop} (A : Hp → Prop) (hA : ∀ G' H', Ex G G' → Join G' P H' → A H') (h1 : ∀ i H', A H' → i < ns.length → it.go i H') (h2 : ∀ i H' x H2, A H' → it.yld i H' x H2 → H2 = H' ∧ (ns.map V.int)[i]? = some x) (h3 : ∀ H', A H' → it.stop ns.length H')
    (J : Join G P H) (hl : ns.length ≤ 100000) (hw : ∀ x, wipe ((wipe σ ts).set j (some x)) ts = wipe σ ts)
    (hk : ∀ (n : Int) (H' : Hp) (S : VK), S (.int n) H' → tk ((wipe σ ts).set j (some (.int n))) H' S) (hv : ∀ (x : V) (H' : Hp) (S : VK), S (.bl true) H' → tv ((wipe σ ts).set j (some x)) H' S)
    (hD : H D = none) (hq : ∀ G' H', Ex G G' → Join G' P H' → G' D = some (.dK (keyP (ddI [] ns))) → Qd H') :
    ∃ W : Nat → Nat → Hp → Prop, (∃ m, W 0 m (upd H D (.dK []))) ∧ ∀ i m H, W i m H →
      (it.stop i H ∧ Qd H) ∨ (it.go i H ∧ ∃ Nx : Hp → Prop, (∀ H', Nx H' → ∃ m', m' < m ∧ W (i + 1) m' H') ∧ ∀ x H', it.yld i H x H' → gName j x (wipe σ ts) H' fun σ2 H2 => wipe σ2 ts = wipe σ ts ∧ tYes σ2 H2 fun b H3 =>
        if b = true then tk σ2 H3 fun y H4 => tv σ2 H4 fun z H5 => ∃ kvs k, y = kV k ∧ H5 D = some (.dK kvs) ∧ kvs.length < sizeLine ∧ Nx (upd H5 D (.dK (putK kvs k z))) else Nx H3) := by
  have gD : G D = none := J.ng hD
  let I : Nat → Hp → Prop := fun i H' => ∃ G', Ex G G' ∧ Join G' P H' ∧ G' D = some (.dK (keyP (ddI [] (ns.take i))))
  refine ⟨fun i m H' => m = ns.length - i ∧ i ≤ ns.length ∧ I i H', ⟨ns.length, by simp, Nat.zero_le _, _, Ex.new gD, J.newG hD, upd_same⟩, ?_⟩
  rintro i m H' ⟨rfl, hi, G', e, j', hd⟩
  have a1 := hA G' H' e j'
  by_cases hlt : i < ns.length
  · refine .inr ⟨h1 i H' a1 hlt, I (i + 1), fun H2 p => ⟨ns.length - (i + 1), by omega, rfl, hlt, p⟩, fun x H2 y => ?_⟩
    obtain ⟨rfl, hx⟩ := h2 i H' x H2 a1 y
    obtain ⟨n, hn, rfl⟩ := int_at hx
    refine ⟨hw _, iteT (B := True) (hk n H2 _ (hv _ H2 _ ⟨keyP (ddI [] (ns.take i)), .inl n, rfl, j'.g _ _ hd, ?_, _, ?_, j'.setG (j'.gp hd), ?_⟩))⟩
    · refine szlt ?_
      unfold keyP
      have := ddI_len (ns := ns.take i) (acc := [])
      rw [List.length_take] at this
      rw [List.length_map]
      simp only [List.length_nil] at this
      omega
    · exact e.mut gD
    · rw [upd_same, keyP_putD, take_more hn, ddI_app]
  · obtain rfl : i = ns.length := by omega
    rw [List.take_length] at hd
    exact .inl ⟨h3 H' a1, hq G' H' e j' hd⟩
theorem aDcS.go (J : Join G P H) (hS : Sq G a (ns.map V.int)) (hl : ns.length ≤ 100000) (hw : ∀ x, wipe ((wipe σ ts).set j (some x)) ts = wipe σ ts)
    (hk : ∀ (n : Int) (H' : Hp) (S : VK), S (.int n) H' → tk ((wipe σ ts).set j (some (.int n))) H' S) (hv : ∀ (x : V) (H' : Hp) (S : VK), S (.bl true) H' → tv ((wipe σ ts).set j (some x)) H' S)
    (hq : ∀ p G' H', H p = none → Ex G G' → Join G' P H' → G' p = some (.dK (keyP (ddI [] ns))) → Q (.ref p) H') : aDcS K (gName j) tYes tk tv ts σ (.ref a) H Q := by
  rcases hS with hS | hS
  · refine ⟨a, rfl, .inl ⟨⟨_, sqL (J.g _ _ hS)⟩, fun D hD => ?_⟩⟩
    refine dcSet (fun H' => SqL K H' a (ns.map V.int)) (fun G' H' e j' => sqL (j'.g _ _ (e _ _ hS))) (fun i H' s hi => ⟨_, .int ns[i], s, by rw [List.getElem?_map, List.getElem?_eq_getElem hi]; rfl⟩) (fun i H' x H2 s y => ⟨y.1, y.2 _ s⟩) (fun H' s => ⟨_, s, by rw [List.length_map]; exact Nat.le_refl _⟩) J hl hw hk hv hD fun G' H' e j' hd => hq D G' H' hD e j' hd
  · refine ⟨a, rfl, .inr ⟨⟨_, sqT (J.g _ _ hS)⟩, fun D hD => ?_⟩⟩
    refine dcSet (fun H' => SqT K H' a (ns.map V.int)) (fun G' H' e j' => sqT (j'.g _ _ (e _ _ hS))) (fun i H' s hi => ⟨_, .int ns[i], s, by rw [List.getElem?_map, List.getElem?_eq_getElem hi]; rfl⟩) (fun i H' x H2 s y => ⟨y.1, y.2 _ s⟩) (fun H' s => ⟨_, s, by rw [List.length_map]; exact Nat.le_refl _⟩) J hl hw hk hv hD fun G' H' e j' hd => hq D G' H' hD e j' hd
/-! sorted(set(xs)) -/
theorem setLI_go {w : World} {l : Addr} (J : Join G P H) (h : H l = some (.lst (ns.map V.int))) (hl : ns.length < 64) (q : ∀ p c G' H', H p = none → c ≤ ns.length → Ex G G' → Join G' P H' → G' p = some (SetO w p (fun j => decide (j ∈ ns)) c) → Q (.ref p) H') : rSetLI K w [.ref l] H Q :=
  ⟨l, ns, rfl, sqL h, hl, fun p c hp hc => q p c _ _ hp hc (Ex.new (J.ng hp)) (J.newG hp) upd_same⟩
theorem sortSet_go {w : World} {l : Addr} {c : Nat} (J : Join G P H) (h : H l = some (SetO w l (fun j => decide (j ∈ ns)) c)) (hc : c < 64) (q : ∀ (ns' : List Int) p G' H', ns'.Pairwise (· < ·) → (∀ k, k ∈ ns' ↔ k ∈ ns) → ns'.length = c → H p = none → Ex G G' → Join G' P H' → G' p = some (.lst (ns'.map V.int)) → Q (.ref p) H') : rSortedSet w [.ref l] H Q :=
  ⟨l, _, c, rfl, h, hc, fun ns' p h1 h2 h3 hp => q ns' p _ _ h1 (fun k => by rw [h2]; exact decide_eq_true_iff) h3 hp (Ex.new (J.ng hp)) (J.newG hp) upd_same⟩
theorem w_setLI {w : World} {as : TA} (h : as σ H fun vs H1 => rSetLI K w vs H1 Q) : tCB (rSetLI K w) as σ H Q := h
theorem w_sortSet {w : World} {as : TA} (h : as σ H fun vs H1 => rSortedSet w vs H1 Q) : tCB (rSortedSet w) as σ H Q := h
end
/-! max(xs), min(xs) of a list or a tuple of ints -/
section
variable {P : Program} {w : World} {A : Around} {E : Value → Shared → Prop} {s : Shared} {l : Addr}
theorem tup_it {us : Array Value} {Q : Value → Shared → Prop} (hL : s.heap.IsTuple l us)
    (q : ∀ t : Shared, t = { s with heap := s.heap.push ({ cls := .type "tuple_iterator", data := .fields #[.ref l, .int 0 0] } : Obj) } → (t.heap.IsTupleIter s.heap.objs.size l 0 ∧ t.heap.IsTuple l us) → (∀ b ∈ [s.heap.objs.size, l], b < t.heap.objs.size) → l ≠ s.heap.objs.size → Q (.ref s.heap.objs.size) t) :
    wpAny (model P w) A (pyIter (.ref l)) Q E s := by
  have lt : l < s.heap.objs.size := by
    obtain ⟨_, e, _⟩ := hL
    exact Heap.lt_size e
  refine wpAny_pyIter_tuple hL (q _ rfl ⟨⟨_, Heap.get?_push_size _ rfl, rfl, rfl⟩, hL.push _⟩ (fun b hb => ?_) (Nat.ne_of_lt lt))
  show b < (s.heap.push ({ cls := .type "tuple_iterator", data := .fields #[.ref l, .int 0 0] } : Obj)).objs.size
  rw [Heap.size_push]
  simp only [List.mem_cons, List.not_mem_nil, or_false] at hb
  rcases hb with rfl | rfl
  · exact Nat.lt_succ_self _
  · exact Nat.lt_succ_of_lt lt
theorem tup_old {h' : Heap} (hk : ∀ b o, b ∉ [s.heap.objs.size] → (s.heap.push ({ cls := .type "tuple_iterator", data := .fields #[.ref l, .int 0 0] } : Obj)).get? b = some o → h'.get? b = some o) (b : Addr) (o : Obj) (e : s.heap.get? b = some o) : h'.get? b = some o :=
  hk b o (fun hm => by
    obtain rfl := List.mem_singleton.mp hm
    exact absurd (Heap.lt_size e) (Nat.lt_irrefl _)) (Heap.get?_push_of_some _ e)
theorem max_tup {us : List Value} {ns : List Int} {Q : Value → Shared → Prop} (hh : A.handled = none) (hL : s.heap.IsTuple l us.toArray) (hI : IntsAre us ns) (hne : 0 < ns.length)
    (q : ∀ h' tk M t', (∀ b o, s.heap.get? b = some o → h'.get? b = some o) → M ∈ ns → (∀ a, a ∈ ns → a ≤ M) → Q (.int M t') { s with heap := h', toks := tk }) : wpAny (model P w) A (call (.builtin "max") [.ref l]) Q E s := by
  obtain ⟨xs, e⟩ := hI.allInts.items
  have hn : numsOf (intItems xs).toList = ns := by rw [← e]; exact hI.numsOf
  rw [nums_intItems] at hn
  subst hn
  rw [e] at hL
  have h0 : 0 < xs.size := by simpa using hne
  refine call_max_walk (tup_it hL fun t et st hfp hlI => ?_)
  subst et
  refine ⟨_, _, _, _, _, _, _, rfl, Walks.tuple (A := A.in1) hh _ l hlI (intItems xs), st, hfp, by simpa [intItems] using h0, CmpOf.ints_gt (numAt xs) (fun _ _ => intItems_at), fun v h' tk hv hk => ?_⟩
  obtain ⟨t, rfl⟩ := intItems_at hv
  obtain ⟨g1, g2⟩ := argBest_gt (numAt xs) ((intItems xs).size - 1)
  have hz : (intItems xs).size = xs.size := by simp [intItems]
  rw [hz] at g1 g2
  rw [hz]
  refine q h' tk _ t (tup_old hk) ?_ fun a ha => ?_
  · rw [numAt_eq]; exact PySem.getD_mem (by rw [List.length_map, Array.length_toList]; omega)
  · obtain ⟨i, hi, rfl⟩ := mem_getD ha
    rw [List.length_map, Array.length_toList] at hi
    rw [← numAt_eq]; exact g2 i (by omega)
theorem min_tup {us : List Value} {ns : List Int} {Q : Value → Shared → Prop} (hh : A.handled = none) (hL : s.heap.IsTuple l us.toArray) (hI : IntsAre us ns) (hne : 0 < ns.length)
    (q : ∀ h' tk M t', (∀ b o, s.heap.get? b = some o → h'.get? b = some o) → M ∈ ns → (∀ a, a ∈ ns → M ≤ a) → Q (.int M t') { s with heap := h', toks := tk }) : wpAny (model P w) A (call (.builtin "min") [.ref l]) Q E s := by
  obtain ⟨xs, e⟩ := hI.allInts.items
  have hn : numsOf (intItems xs).toList = ns := by rw [← e]; exact hI.numsOf
  rw [nums_intItems] at hn
  subst hn
  rw [e] at hL
  have h0 : 0 < xs.size := by simpa using hne
  refine call_min_walk (tup_it hL fun t et st hfp hlI => ?_)
  subst et
  refine ⟨_, _, _, _, _, _, _, rfl, Walks.tuple (A := A.in1) hh _ l hlI (intItems xs), st, hfp, by simpa [intItems] using h0, CmpOf.ints_lt (numAt xs) (fun _ _ => intItems_at), fun v h' tk hv hk => ?_⟩
  obtain ⟨t, rfl⟩ := intItems_at hv
  obtain ⟨g1, g2⟩ := argBest_lt (numAt xs) ((intItems xs).size - 1)
  have hz : (intItems xs).size = xs.size := by simp [intItems]
  rw [hz] at g1 g2
  rw [hz]
  refine q h' tk _ t (tup_old hk) ?_ fun a ha => ?_
  · rw [numAt_eq]; exact PySem.getD_mem (by rw [List.length_map, Array.length_toList]; omega)
  · obtain ⟨i, hi, rfl⟩ := mem_getD ha
    rw [List.length_map, Array.length_toList] at hi
    rw [← numAt_eq]; exact g2 i (by omega)
end
def rMaxS (K : PySem.W.Frag) : List V → Hp → VK → Prop := fun vs H Q => ∃ (a : Addr) (ns : List Int), vs = [V.ref a] ∧ (SqL K H a (ns.map V.int) ∨ SqT K H a (ns.map V.int)) ∧ 0 < ns.length ∧ ∀ m, m ∈ ns → (∀ y, y ∈ ns → y ≤ m) → Q (.int m) H
def rMinS (K : PySem.W.Frag) : List V → Hp → VK → Prop := fun vs H Q => ∃ (a : Addr) (ns : List Int), vs = [V.ref a] ∧ (SqL K H a (ns.map V.int) ∨ SqT K H a (ns.map V.int)) ∧ 0 < ns.length ∧ ∀ m, m ∈ ns → (∀ y, y ∈ ns → m ≤ y) → Q (.int m) H
theorem cr_maxS {X : Cx} (hc : X.calm = true) : CallR X (.builtin "max") (rMaxS X.K) := by
  intro pins s σ H vs us Q I r h
  obtain ⟨a, ns, rfl, hs | hs, hne, q⟩ := h
  · exact cr_max hc pins s σ H [.ref a] us Q I r ⟨a, ns, rfl, hs, hne, q⟩
  · obtain ⟨its, rv, hl, _⟩ := I.tuple hs
    rw [Vals.ref1 r]
    exact max_tup (I.ok.hd hc) (show s.heap.IsTuple a its.toArray from hl) (by simpa using rv.ints) hne fun h' tk m t' hk h1 h2 => ⟨.int _, H, I.kept hk, ⟨_, rfl⟩, q m h1 h2⟩
theorem cr_minS {X : Cx} (hc : X.calm = true) : CallR X (.builtin "min") (rMinS X.K) := by
  intro pins s σ H vs us Q I r h
  obtain ⟨a, ns, rfl, hs | hs, hne, q⟩ := h
  · exact cr_min hc pins s σ H [.ref a] us Q I r ⟨a, ns, rfl, hs, hne, q⟩
  · obtain ⟨its, rv, hl, _⟩ := I.tuple hs
    rw [Vals.ref1 r]
    exact min_tup (I.ok.hd hc) (show s.heap.IsTuple a its.toArray from hl) (by simpa using rv.ints) hne fun h' tk m t' hk h1 h2 => ⟨.int _, H, I.kept hk, ⟨_, rfl⟩, q m h1 h2⟩
theorem cr_maxSK {X : Cx} {K : PySem.W.Frag} (h : X.K = K) (hc : X.calm = true) : CallR X (.builtin "max") (rMaxS K) := h ▸ cr_maxS hc
theorem cr_minSK {X : Cx} {K : PySem.W.Frag} (h : X.K = K) (hc : X.calm = true) : CallR X (.builtin "min") (rMinS K) := h ▸ cr_minS hc
theorem cr_setLIK {X : Cx} {K : PySem.W.Frag} (h : X.K = K) (hc : X.calm = true) : CallR X (.type "set") (rSetLI K X.w) := h ▸ cr_setLI hc
section
variable {K : PySem.W.Frag} {σ : L2.St} {G P H : Hp} {Q : VK} {a : Addr} {ns : List Int}
theorem Sq.orK (J : Join G P H) (h : Sq G a (ns.map V.int)) : SqL K H a (ns.map V.int) ∨ SqT K H a (ns.map V.int) := h.imp (fun h => sqL (J.g _ _ h)) (fun h => sqT (J.g _ _ h))
theorem maxS_go (J : Join G P H) (h : Sq G a (ns.map V.int)) (hn : 0 < ns.length) (q : ∀ m, m ∈ ns → (∀ y, y ∈ ns → y ≤ m) → Q (.int m) H) : rMaxS K [.ref a] H Q := ⟨a, ns, rfl, Sq.orK J h, hn, q⟩
theorem minS_go (J : Join G P H) (h : Sq G a (ns.map V.int)) (hn : 0 < ns.length) (q : ∀ m, m ∈ ns → (∀ y, y ∈ ns → m ≤ y) → Q (.int m) H) : rMinS K [.ref a] H Q := ⟨a, ns, rfl, Sq.orK J h, hn, q⟩
theorem w_maxS {as : TA} (h : as σ H fun vs H1 => rMaxS K vs H1 Q) : tCB (rMaxS K) as σ H Q := h
theorem w_minS {as : TA} (h : as σ H fun vs H1 => rMinS K vs H1 Q) : tCB (rMinS K) as σ H Q := h
end
end Lv

local macro_rules | `(tactic| walk_at "w") => `(tactic| (repeat first | ((with_reducible apply Lv.w_seq)) | ((with_reducible apply Lv.w_var); (focus (exact rfl))) | ((with_reducible apply Lv.w_op)) | ((with_reducible apply Lv.w_c)) | ((with_reducible apply Lv.w_cons)) | ((with_reducible apply Lv.w_nil)) | ((with_reducible apply Lv.w_rI0)) | ((with_reducible apply Lv.w_asg)) | ((with_reducible apply Lv.w_name)) | ((with_reducible apply Lv.w_call)) | ((with_reducible apply Lv.w_callS)) | ((with_reducible apply Lv.w_tof)) | ((with_reducible apply Lv.w_lof)) | ((with_reducible apply Lv.w_abs)) | ((with_reducible apply Lv.w_int1)) | ((with_reducible apply Lv.w_lenv)) | ((with_reducible apply Lv.w_lens)) | ((with_reducible apply Lv.w_lend)) | ((with_reducible apply Lv.w_min2)) | ((with_reducible apply Lv.w_max2)) | ((with_reducible apply Lv.w_rmin)) | ((with_reducible apply Lv.w_rmax)) | ((with_reducible apply Lv.w_cb)) | ((with_reducible apply Lv.w_rabs)) | ((with_reducible apply Lv.w_rint)) | ((with_reducible apply Lv.w_rintb)) | ((with_reducible apply Lv.w_rlenT); (focus (first | assumption | (exact Lv.Join.g (by assumption) _ _ (by assumption)) | (exact Lv.Join.p (by assumption) _ _ (by assumption))))) | ((with_reducible apply Lv.w_rlenL); (focus (first | assumption | (exact Lv.Join.g (by assumption) _ _ (by assumption)) | (exact Lv.Join.p (by assumption) _ _ (by assumption))))) | ((with_reducible apply Lv.w_slenT); (focus (first | assumption | (exact Lv.Join.g (by assumption) _ _ (by assumption)) | (exact Lv.Join.p (by assumption) _ _ (by assumption))))) | ((with_reducible apply Lv.w_slenL); (focus (first | assumption | (exact Lv.Join.g (by assumption) _ _ (by assumption)) | (exact Lv.Join.p (by assumption) _ _ (by assumption))))) | ((with_reducible apply Lv.w_klenT); (focus (first | assumption | (exact Lv.Join.g (by assumption) _ _ (by assumption)) | (exact Lv.Join.p (by assumption) _ _ (by assumption))))) | ((with_reducible apply Lv.w_klenL); (focus (first | assumption | (exact Lv.Join.g (by assumption) _ _ (by assumption)) | (exact Lv.Join.p (by assumption) _ _ (by assumption))))) | ((with_reducible apply Lv.w_bm)) | ((with_reducible apply Lv.w_bm0)) | ((with_reducible apply Lv.w_bml); (focus (first | assumption | (exact Lv.Join.g (by assumption) _ _ (by assumption)) | (exact Lv.Join.p (by assumption) _ _ (by assumption))))) | ((with_reducible apply Lv.w_tup)) | ((with_reducible apply Lv.w_lst)) | ((with_reducible apply Lv.w_fld)) | ((with_reducible apply Lv.w_un)) | ((with_reducible apply Lv.w_rU)) | ((with_reducible apply Lv.w_ret)) | ((with_reducible apply Lv.w_retN)) | ((with_reducible apply Lv.w_next)) | ((with_reducible apply Lv.w_drop)) | ((with_reducible apply Lv.w_ifS)) | ((with_reducible apply Lv.w_gcons); (focus (exact rfl))) | ((with_reducible apply Lv.w_gnil); (focus (exact rfl))) | ((with_reducible apply Lv.w_gtup); (focus (first | assumption | (exact Lv.Join.g (by assumption) _ _ (by assumption)) | (exact Lv.Join.p (by assumption) _ _ (by assumption)))); (focus (exact rfl))) | ((with_reducible apply Lv.w_eq); (focus (exact rfl))) | ((with_reducible apply Lv.w_ne); (focus (exact rfl))) | ((with_reducible apply Lv.w_tB)) | ((with_reducible apply Lv.w_test)) | ((with_reducible apply Lv.w_bl)) | ((with_reducible apply Lv.w_and)) | ((with_reducible apply Lv.w_or)) | ((with_reducible apply Lv.w_not)) | ((with_reducible apply Lv.w_andV)) | ((with_reducible apply Lv.w_orV)) | ((with_reducible apply Lv.w_notV)) | ((with_reducible apply Lv.w_ifT)) | ((with_reducible apply Lv.w_ifF)) | ((with_reducible apply Lv.w_ifNT)) | ((with_reducible apply Lv.w_ifNF)) | ((with_reducible apply Lv.w_yes)) | ((with_reducible apply Lv.w_ixT); (focus (first | assumption | (exact Lv.Join.g (by assumption) _ _ (by assumption)) | (exact Lv.Join.p (by assumption) _ _ (by assumption)))); (focus (exact rfl))) | ((with_reducible apply Lv.w_aug); (focus (exact rfl))) | ((with_reducible apply Lv.w_rAdd)) | ((with_reducible apply Lv.w_rSub)) | ((with_reducible apply Lv.w_lcL)) | ((with_reducible apply Lv.w_lcT)) | ((with_reducible apply Lv.w_lcR)) | ((with_reducible apply Lv.w_sl)) | ((with_reducible apply Lv.w_npart)) | ((with_reducible apply Lv.w_part)) | ((with_reducible apply Lv.w_pint)) | ((with_reducible apply Lv.w_forR)) | ((with_reducible apply Lv.w_forR2)) | ((with_reducible apply Lv.w_din)) | ((with_reducible apply Lv.w_dnotin)) | ((with_reducible apply Lv.w_dcT)) | ((with_reducible apply Lv.w_dcL)) | ((with_reducible apply Lv.w_dcGT)) | ((with_reducible apply Lv.w_dcS)) | ((with_reducible apply Lv.w_setLI)) | ((with_reducible apply Lv.w_maxS)) | ((with_reducible apply Lv.w_minS)) | ((with_reducible apply Lv.w_sortSet)) | ((with_reducible apply Lv.w_bmu)) | ((with_reducible apply Lv.w_tupF)) | ((with_reducible apply Lv.w_forR3)) | ((with_reducible apply Lv.w_stepLo)) | ((with_reducible apply Lv.w_ifB)) | ((with_reducible apply Lv.w_forKF)) | ((with_reducible apply Lv.w_turn)) | ((with_reducible apply Lv.w_revT)) | ((with_reducible apply Lv.w_dnew)) | ((with_reducible apply Lv.w_tupRg)) | ((with_reducible apply Lv.w_chain)) | ((with_reducible apply Lv.w_lstRg)) | ((with_reducible apply Lv.w_rg1)) | ((with_reducible apply Lv.w_par)) | ((with_reducible apply Lv.w_apar)) | ((with_reducible apply Lv.w_lcR2)) | ((with_reducible apply Lv.w_lcE)) | ((with_reducible apply Lv.w_isB)) | ((with_reducible apply Lv.w_isNB)) | ((with_reducible apply Lv.w_forL)) | ((with_reducible apply Lv.w_forT)) | ((with_reducible apply Lv.w_brk)) | ((with_reducible apply Lv.w_cont)) | ((with_reducible apply Lv.w_meth)) | ((with_reducible apply Lv.w_make)) | ((with_reducible apply Lv.w_ip)) | ((with_reducible apply Lv.w_sfld)) | ((with_reducible apply Lv.w_isN)) | ((with_reducible apply Lv.w_addB)) | ((with_reducible apply Lv.w_stepL)) | ((with_reducible apply Lv.w_lstRgW)) | ((with_reducible apply Lv.w_rg2)) | ((with_reducible apply Lv.w_rg2')) | ((with_reducible apply Lv.w_dget2)) | ((with_reducible apply Lv.w_dsetd)) | ((with_reducible apply Lv.w_revL)) | ((with_reducible apply Lv.w_dput)) | ((with_reducible apply Lv.w_mkx)) | ((with_reducible apply Lv.w_glst); (focus (first | assumption | (exact Lv.Join.g (by assumption) _ _ (by assumption)) | (exact Lv.Join.p (by assumption) _ _ (by assumption)))); (focus (exact rfl))) | ((with_reducible apply Lv.w_dnewT)) | ((with_reducible apply Lv.w_dgetI)) | ((with_reducible apply Lv.w_dcR)) | ((with_reducible apply Lv.w_forE)) | ((with_reducible apply Lv.w_makeS)) | ((with_reducible apply Lv.w_forS)) | ((with_reducible apply Lv.w_lcS)) | ((with_reducible apply Lv.w_forES)) | ((with_reducible apply Lv.w_dc2L)) | ((with_reducible apply Lv.w_lcZ))))
namespace X
open PySem PySem.Spec PyProof.Rows L2 Lv
def top (i : Nat) : Stmt := PySem.Challenge.pw_neverleapt_k45_lots_refused.main.body.getD i (.Pass ⟨0, 0, 0, 0⟩)
abbrev s_is_integer : Stmt := top 6
abbrev s_is_within : Stmt := top 7
abbrev s_is_listed : Stmt := top 8
abbrev s_is_ascending : Stmt := top 9
abbrev s_is_rising : Stmt := top 13
abbrev s_keyed : Stmt := top 14
abbrev s_is_round : Stmt := top 15
abbrev s_least_step : Stmt := top 16
abbrev s_least_high : Stmt := top 17
abbrev s_greatest_low : Stmt := top 18
abbrev s_empty_lot : Stmt := top 21
abbrev s_check_integer : Stmt := top 22
abbrev s_lot_of : Stmt := top 23
abbrev s_every : Stmt := top 24
abbrev s_moved_rests : Stmt := top 25
abbrev s_moved_of : Stmt := top 26
abbrev s_moved : Stmt := top 27
abbrev s_mirrored_of : Stmt := top 28
abbrev s_next_above_of : Stmt := top 29
abbrev s_next_below_of : Stmt := top 30
abbrev s_next_above : Stmt := top 31
abbrev s_next_below : Stmt := top 32
abbrev s_many_with : Stmt := top 33
abbrev s_many_in : Stmt := top 34
abbrev s_l_pot : Stmt := top 36
abbrev s_l_draw : Stmt := top 37
abbrev s_l_any : Stmt := top 38
abbrev s_l_lot_parts : Stmt := top 39
abbrev s_l_lot : Stmt := top 40
abbrev s_l_six : Stmt := top 41
abbrev s_l_deep : Stmt := top 42
abbrev s_l_call : Stmt := top 43
abbrev s_l_word : Stmt := top 44
abbrev s_l_lists : Stmt := top 45
abbrev s_law : Stmt := top 46
abbrev s_BadLot_init : Stmt := inClass (top 2) 0
abbrev s_Lot_init : Stmt := inClass (top 19) 0
abbrev s_Lot_keep : Stmt := inClass (top 19) 1
abbrev s_Lot_told : Stmt := inClass (top 19) 2
abbrev s_Lot_eq : Stmt := inClass (top 19) 3
abbrev s_RawLot_init : Stmt := inClass (top 20) 0
def dd0 : He.DefD := ⟨("is_integer", none), "is_integer", "is_integer", defArgs s_is_integer, defBody s_is_integer, defScope s_is_integer, [], []⟩
def dd1 : He.DefD := ⟨("is_within", none), "is_within", "is_within", defArgs s_is_within, defBody s_is_within, defScope s_is_within, [], []⟩
def dd2 : He.DefD := ⟨("is_listed", none), "is_listed", "is_listed", defArgs s_is_listed, defBody s_is_listed, defScope s_is_listed, [], []⟩
def dd3 : He.DefD := ⟨("is_ascending", none), "is_ascending", "is_ascending", defArgs s_is_ascending, defBody s_is_ascending, defScope s_is_ascending, [], []⟩
def dd4 : He.DefD := ⟨("is_rising", none), "is_rising", "is_rising", defArgs s_is_rising, defBody s_is_rising, defScope s_is_rising, [], []⟩
def dd5 : He.DefD := ⟨("keyed", none), "keyed", "keyed", defArgs s_keyed, defBody s_keyed, defScope s_keyed, [], []⟩
def dd6 : He.DefD := ⟨("is_round", none), "is_round", "is_round", defArgs s_is_round, defBody s_is_round, defScope s_is_round, [], []⟩
def dd7 : He.DefD := ⟨("least_step", none), "least_step", "least_step", defArgs s_least_step, defBody s_least_step, defScope s_least_step, [], []⟩
def dd8 : He.DefD := ⟨("least_high", none), "least_high", "least_high", defArgs s_least_high, defBody s_least_high, defScope s_least_high, [], []⟩
def dd9 : He.DefD := ⟨("greatest_low", none), "greatest_low", "greatest_low", defArgs s_greatest_low, defBody s_greatest_low, defScope s_greatest_low, [], []⟩
def dd10 : He.DefD := ⟨("empty_lot", none), "empty_lot", "empty_lot", defArgs s_empty_lot, defBody s_empty_lot, defScope s_empty_lot, [], []⟩
def dd11 : He.DefD := ⟨("check_integer", none), "check_integer", "check_integer", defArgs s_check_integer, defBody s_check_integer, defScope s_check_integer, [], []⟩
def dd12 : He.DefD := ⟨("lot_of", none), "lot_of", "lot_of", defArgs s_lot_of, defBody s_lot_of, defScope s_lot_of, [], []⟩
def dd13 : He.DefD := ⟨("every", none), "every", "every", defArgs s_every, defBody s_every, defScope s_every, [], []⟩
def dd14 : He.DefD := ⟨("moved_rests", none), "moved_rests", "moved_rests", defArgs s_moved_rests, defBody s_moved_rests, defScope s_moved_rests, [], []⟩
def dd15 : He.DefD := ⟨("moved_of", none), "moved_of", "moved_of", defArgs s_moved_of, defBody s_moved_of, defScope s_moved_of, [], []⟩
def dd16 : He.DefD := ⟨("moved", none), "moved", "moved", defArgs s_moved, defBody s_moved, defScope s_moved, [], []⟩
def dd17 : He.DefD := ⟨("mirrored_of", none), "mirrored_of", "mirrored_of", defArgs s_mirrored_of, defBody s_mirrored_of, defScope s_mirrored_of, [], []⟩
def dd18 : He.DefD := ⟨("next_above_of", none), "next_above_of", "next_above_of", defArgs s_next_above_of, defBody s_next_above_of, defScope s_next_above_of, [], []⟩
def dd19 : He.DefD := ⟨("next_below_of", none), "next_below_of", "next_below_of", defArgs s_next_below_of, defBody s_next_below_of, defScope s_next_below_of, [], []⟩
def dd20 : He.DefD := ⟨("next_above", none), "next_above", "next_above", defArgs s_next_above, defBody s_next_above, defScope s_next_above, [], []⟩
def dd21 : He.DefD := ⟨("next_below", none), "next_below", "next_below", defArgs s_next_below, defBody s_next_below, defScope s_next_below, [], []⟩
def dd22 : He.DefD := ⟨("many_with", none), "many_with", "many_with", defArgs s_many_with, defBody s_many_with, defScope s_many_with, [], []⟩
def dd23 : He.DefD := ⟨("many_in", none), "many_in", "many_in", defArgs s_many_in, defBody s_many_in, defScope s_many_in, [], []⟩
def dd24 : He.DefD := ⟨("_law_pot", none), "_law_pot", "_law_pot", defArgs s_l_pot, defBody s_l_pot, defScope s_l_pot, [], []⟩
def dd25 : He.DefD := ⟨("_law_draw", none), "_law_draw", "_law_draw", defArgs s_l_draw, defBody s_l_draw, defScope s_l_draw, [], []⟩
def dd26 : He.DefD := ⟨("_law_any", none), "_law_any", "_law_any", defArgs s_l_any, defBody s_l_any, defScope s_l_any, [], []⟩
def dd27 : He.DefD := ⟨("_law_lot_parts", none), "_law_lot_parts", "_law_lot_parts", defArgs s_l_lot_parts, defBody s_l_lot_parts, defScope s_l_lot_parts, [], []⟩
def dd28 : He.DefD := ⟨("_law_lot", none), "_law_lot", "_law_lot", defArgs s_l_lot, defBody s_l_lot, defScope s_l_lot, [], []⟩
def dd29 : He.DefD := ⟨("_law_six", none), "_law_six", "_law_six", defArgs s_l_six, defBody s_l_six, defScope s_l_six, [], []⟩
def dd30 : He.DefD := ⟨("_law_deep", none), "_law_deep", "_law_deep", defArgs s_l_deep, defBody s_l_deep, defScope s_l_deep, [], []⟩
def dd31 : He.DefD := ⟨("_law_call", none), "_law_call", "_law_call", defArgs s_l_call, defBody s_l_call, defScope s_l_call, [], []⟩
def dd32 : He.DefD := ⟨("_law_word", none), "_law_word", "_law_word", defArgs s_l_word, defBody s_l_word, defScope s_l_word, [], []⟩
def dd33 : He.DefD := ⟨("_law_lists", none), "_law_lists", "_law_lists", defArgs s_l_lists, defBody s_l_lists, defScope s_l_lists, [], []⟩
def dd34 : He.DefD := ⟨("law", none), "law", "law", defArgs s_law, defBody s_law, defScope s_law, [], []⟩
def dd35 : He.DefD := ⟨("Lot", some "__init__"), "__init__", "Lot.__init__", defArgs s_Lot_init, defBody s_Lot_init, defScope s_Lot_init, [], []⟩
def dd36 : He.DefD := ⟨("Lot", some "keep"), "keep", "Lot.keep", defArgs s_Lot_keep, defBody s_Lot_keep, defScope s_Lot_keep, [], []⟩
def dd37 : He.DefD := ⟨("Lot", some "told"), "told", "Lot.told", defArgs s_Lot_told, defBody s_Lot_told, defScope s_Lot_told, [], []⟩
def dd38 : He.DefD := ⟨("Lot", some "__eq__"), "__eq__", "Lot.__eq__", defArgs s_Lot_eq, defBody s_Lot_eq, defScope s_Lot_eq, [], []⟩
def dd39 : He.DefD := ⟨("RawLot", some "__init__"), "__init__", "RawLot.__init__", defArgs s_RawLot_init, defBody s_RawLot_init, defScope s_RawLot_init, [], []⟩
def fn : List He.DefD := [dd0, dd1, dd2, dd3, dd4, dd5, dd6, dd7, dd8, dd9, dd10, dd11, dd12, dd13, dd14, dd15, dd16, dd17, dd18, dd19, dd20, dd21, dd22, dd23, dd24, dd25, dd26, dd27, dd28, dd29, dd30, dd31, dd32, dd33, dd34, dd35, dd36, dd37, dd38, dd39]
def fa0 : List He.Fa := [.glo "is_integer", .glo "is_within", .glo "is_listed", .glo "is_ascending", .glo "is_rising", .glo "keyed", .glo "is_round", .glo "least_step", .glo "least_high", .glo "greatest_low", .glo "empty_lot", .glo "check_integer", .glo "lot_of", .glo "every", .glo "moved_rests", .glo "moved_of", .glo "moved", .glo "mirrored_of", .glo "next_above_of", .glo "next_below_of", .glo "next_above", .glo "next_below", .glo "many_with", .glo "many_in", .glo "_law_pot", .glo "_law_draw", .glo "_law_any", .glo "_law_lot_parts", .glo "_law_lot", .glo "_law_six"]
def fa1 : List He.Fa := [.glo "_law_deep", .glo "_law_call", .glo "_law_word", .glo "_law_lists", .glo "law", .glo "LeapError", .glo "BadLot", .glo "NoNumber", .glo "NoNumbers", .glo "Lot", .glo "RawLot", .int "MOST_APART" (100000), .int "MOST_STEP" (4000), .free "int", .free "abs", .free "len", .free "sum", .free "isinstance", .free "range", .free "tuple", .free "list", .free "sorted", .free "max", .free "min", .free "all", .free "bool", .free "super", .cls "Lot", .noat "Lot" "above", .noat "Lot" "below"]
def fa2 : List He.Fa := [.noat "Lot" "has_above", .noat "Lot" "has_below", .noat "Lot" "has_members", .noat "Lot" "high", .noat "Lot" "low", .noat "Lot" "members", .noat "Lot" "step", .mkr "Lot", .meth "Lot" "keep", .meth "Lot" "told", .cls "RawLot", .noat "RawLot" "above", .noat "RawLot" "below", .noat "RawLot" "has_above", .noat "RawLot" "has_below", .noat "RawLot" "has_members", .noat "RawLot" "high", .noat "RawLot" "low", .noat "RawLot" "members", .noat "RawLot" "step", .meth "RawLot" "keep", .meth "RawLot" "told", .mkr "RawLot", .exc "NoNumber", .exm "NoNumber" "NoNumber" true, .exm "NoNumber" "NoNumbers" false, .exc "NoNumbers", .exm "NoNumbers" "NoNumber" false, .exm "NoNumbers" "NoNumbers" true, .exm "BadLot" "NoNumber" false]
def fa3 : List He.Fa := [.exm "BadLot" "NoNumbers" false]
def fa : List He.Fa := fa0 ++ fa1 ++ fa2 ++ fa3
def ex (K : PySem.W.Frag) : Bool := (Lv.ownB K "Lot" "Lot") && (Lv.eqB K "Lot" "Lot") && (Lv.ownB K "RawLot" "Lot") && (Lv.eqB K "RawLot" "Lot") && (Lv.maB K "RawLot" "Lot" "keep") && (Lv.maB K "RawLot" "Lot" "told") && (Lv.xiB K "/claim/cut.py" "BadLot" "part") && (Lv.otB K "Lot")
def loose0 : List Str := ["LeapError", "BadLot", "NoNumber", "NoNumbers", "is_integer", "is_within", "is_listed", "is_ascending", "MOST_APART", "MOST_STEP", "is_rising", "keyed", "is_round", "least_step", "least_high", "greatest_low", "Lot", "RawLot", "empty_lot", "check_integer", "lot_of", "every", "moved_rests", "moved_of", "moved", "mirrored_of", "next_above_of", "next_below_of", "next_above", "next_below"]
def loose1 : List Str := ["many_with", "many_in", "_law_pot", "_law_draw", "_law_any", "_law_lot_parts", "_law_lot", "_law_six", "_law_deep", "_law_call", "_law_word", "_law_lists"]
def loose : List Str := loose0 ++ loose1
abbrev R : PySem.W.OpenRow := PySem.W.OpenLaw.row PySem.Challenge.rw_neverleapt_k45_lots_refused
abbrev hk : PySem.W.Hook := Lv.hookW 5 fa fn ex
def ob (s : PySem.W.SharedT) : He.AlX := Lv.obsW 5 fa fn ex (HandSHeadRun.getT s)
theorem ob_eq (s : PySem.W.SharedT) : ob s = hk.obs s.abs := Lv.obsW_eq (HandSHeadRun.getT_eq s)
theorem run (w : World) : HandSHeadRun.RunEq R (PySem.W.view R.prog [46]) hk ob 20000 loose w := by
  intro os
  kernel_rfl
section
open PySem PySem.W PySem.Calls PyProof.Rows
abbrev vq : Program := PySem.W.view R.prog [46]
abbrev vd : DefRec := HandSHeadRun.topDef R.prog 46
theorem c_e : opening R.prog = plainProg R.prog.main.scope.names := by kernel_rfl
theorem c_f : ∀ s, fenceModules? R.prog s = some s := fun s => by kernel_rfl
theorem c_def : defOf vq R.name = some (vd, []) := by kernel_rfl
theorem c_p : R.prog.theDef R.name = some (vd.params, vd.body, vd.scope) := by kernel_rfl
theorem c_k : kwWritten? vd.params.kwonlyargs vd.params.kw_defaults = some [] := by kernel_rfl
theorem c_w : (!R.writes || R.records.isEmpty) = true := by rfl
theorem c_ok : (chainsOk vq && opensWell R.prog && (frees R.toRowW && R.within.isEmpty)) = true := by decide +kernel
theorem c_b : R.prog.bare := ⟨rfl, rfl, rfl, rfl, rfl, by decide +kernel⟩
theorem c_hw : R.toRowW.promised := by w_witness2
theorem c_df : vd.params.defaults = [] := by kernel_rfl
theorem c_nm : vd.name = ("law" : PySem.Str) := by kernel_rfl
theorem c_law (h : R.wellSaid = true → R.Holds) : PySem.Challenge.rw_neverleapt_k45_lots_refused.Holds := by
  w_on; o_law
  exact h (by assumption)
end
structure Txt (K : PySem.W.Frag) (mg : Str → Option Value) : Prop where
  g_is_integer : mg "is_integer" = some (.ref (He.ga K "is_integer"))
  g_is_within : mg "is_within" = some (.ref (He.ga K "is_within"))
  g_is_listed : mg "is_listed" = some (.ref (He.ga K "is_listed"))
  g_is_ascending : mg "is_ascending" = some (.ref (He.ga K "is_ascending"))
  g_is_rising : mg "is_rising" = some (.ref (He.ga K "is_rising"))
  g_keyed : mg "keyed" = some (.ref (He.ga K "keyed"))
  g_is_round : mg "is_round" = some (.ref (He.ga K "is_round"))
  g_least_step : mg "least_step" = some (.ref (He.ga K "least_step"))
  g_least_high : mg "least_high" = some (.ref (He.ga K "least_high"))
  g_greatest_low : mg "greatest_low" = some (.ref (He.ga K "greatest_low"))
  g_empty_lot : mg "empty_lot" = some (.ref (He.ga K "empty_lot"))
  g_check_integer : mg "check_integer" = some (.ref (He.ga K "check_integer"))
  g_lot_of : mg "lot_of" = some (.ref (He.ga K "lot_of"))
  g_every : mg "every" = some (.ref (He.ga K "every"))
  g_moved_rests : mg "moved_rests" = some (.ref (He.ga K "moved_rests"))
  g_moved_of : mg "moved_of" = some (.ref (He.ga K "moved_of"))
  g_moved : mg "moved" = some (.ref (He.ga K "moved"))
  g_mirrored_of : mg "mirrored_of" = some (.ref (He.ga K "mirrored_of"))
  g_next_above_of : mg "next_above_of" = some (.ref (He.ga K "next_above_of"))
  g_next_below_of : mg "next_below_of" = some (.ref (He.ga K "next_below_of"))
  g_next_above : mg "next_above" = some (.ref (He.ga K "next_above"))
  g_next_below : mg "next_below" = some (.ref (He.ga K "next_below"))
  g_many_with : mg "many_with" = some (.ref (He.ga K "many_with"))
  g_many_in : mg "many_in" = some (.ref (He.ga K "many_in"))
  g_l_pot : mg "_law_pot" = some (.ref (He.ga K "_law_pot"))
  g_l_draw : mg "_law_draw" = some (.ref (He.ga K "_law_draw"))
  g_l_any : mg "_law_any" = some (.ref (He.ga K "_law_any"))
  g_l_lot_parts : mg "_law_lot_parts" = some (.ref (He.ga K "_law_lot_parts"))
  g_l_lot : mg "_law_lot" = some (.ref (He.ga K "_law_lot"))
  g_l_six : mg "_law_six" = some (.ref (He.ga K "_law_six"))
  g_l_deep : mg "_law_deep" = some (.ref (He.ga K "_law_deep"))
  g_l_call : mg "_law_call" = some (.ref (He.ga K "_law_call"))
  g_l_word : mg "_law_word" = some (.ref (He.ga K "_law_word"))
  g_l_lists : mg "_law_lists" = some (.ref (He.ga K "_law_lists"))
  g_law : mg "law" = some (.ref (He.ga K "law"))
  g_LeapError : mg "LeapError" = some (.ref (He.ga K "LeapError"))
  g_BadLot : mg "BadLot" = some (.ref (He.ga K "BadLot"))
  g_NoNumber : mg "NoNumber" = some (.ref (He.ga K "NoNumber"))
  g_NoNumbers : mg "NoNumbers" = some (.ref (He.ga K "NoNumbers"))
  g_Lot : mg "Lot" = some (.ref (He.ga K "Lot"))
  g_RawLot : mg "RawLot" = some (.ref (He.ga K "RawLot"))
  i_MOST_APART : ∃ t, mg "MOST_APART" = some (.int (100000) t)
  i_MOST_STEP : ∃ t, mg "MOST_STEP" = some (.int (4000) t)
  n_int : mg "int" = none
  n_abs : mg "abs" = none
  n_len : mg "len" = none
  n_sum : mg "sum" = none
  n_isinstance : mg "isinstance" = none
  n_range : mg "range" = none
  n_tuple : mg "tuple" = none
  n_list : mg "list" = none
  n_sorted : mg "sorted" = none
  n_max : mg "max" = none
  n_min : mg "min" = none
  n_all : mg "all" = none
  n_bool : mg "bool" = none
  n_super : mg "super" = none
  c_Lot : Cls K (He.ga K "Lot")
  na_Lot_above : NoAttr K (He.ga K "Lot") "above"
  na_Lot_below : NoAttr K (He.ga K "Lot") "below"
  na_Lot_has_above : NoAttr K (He.ga K "Lot") "has_above"
  na_Lot_has_below : NoAttr K (He.ga K "Lot") "has_below"
  na_Lot_has_members : NoAttr K (He.ga K "Lot") "has_members"
  na_Lot_high : NoAttr K (He.ga K "Lot") "high"
  na_Lot_low : NoAttr K (He.ga K "Lot") "low"
  na_Lot_members : NoAttr K (He.ga K "Lot") "members"
  na_Lot_step : NoAttr K (He.ga K "Lot") "step"
  mk_Lot : Mk K (He.ga K "Lot") (He.ma K (He.ga K "Lot") "__init__")
  me_Lot_keep : Meth K (He.ga K "Lot") "keep" (He.ma K (He.ga K "Lot") "keep")
  me_Lot_told : Meth K (He.ga K "Lot") "told" (He.ma K (He.ga K "Lot") "told")
  c_RawLot : Cls K (He.ga K "RawLot")
  na_RawLot_above : NoAttr K (He.ga K "RawLot") "above"
  na_RawLot_below : NoAttr K (He.ga K "RawLot") "below"
  na_RawLot_has_above : NoAttr K (He.ga K "RawLot") "has_above"
  na_RawLot_has_below : NoAttr K (He.ga K "RawLot") "has_below"
  na_RawLot_has_members : NoAttr K (He.ga K "RawLot") "has_members"
  na_RawLot_high : NoAttr K (He.ga K "RawLot") "high"
  na_RawLot_low : NoAttr K (He.ga K "RawLot") "low"
  na_RawLot_members : NoAttr K (He.ga K "RawLot") "members"
  na_RawLot_step : NoAttr K (He.ga K "RawLot") "step"
  me_RawLot_keep : Meth K (He.ga K "RawLot") "keep" (He.ma K (He.ga K "RawLot") "keep")
  me_RawLot_told : Meth K (He.ga K "RawLot") "told" (He.ma K (He.ga K "RawLot") "told")
  mk_RawLot : Mk K (He.ga K "RawLot") (He.ma K (He.ga K "RawLot") "__init__")
  x_NoNumber : (He.Fa.exc "NoNumber").ok K = true
  m_NoNumber_NoNumber : (He.Fa.exm "NoNumber" "NoNumber" true).ok K = true
  m_NoNumber_NoNumbers : (He.Fa.exm "NoNumber" "NoNumbers" false).ok K = true
  x_NoNumbers : (He.Fa.exc "NoNumbers").ok K = true
  m_NoNumbers_NoNumber : (He.Fa.exm "NoNumbers" "NoNumber" false).ok K = true
  m_NoNumbers_NoNumbers : (He.Fa.exm "NoNumbers" "NoNumbers" true).ok K = true
  m_BadLot_NoNumber : (He.Fa.exm "BadLot" "NoNumber" false).ok K = true
  m_BadLot_NoNumbers : (He.Fa.exm "BadLot" "NoNumbers" false).ok K = true
  d_is_integer : ∃ fd, FunD K "is_integer" "is_integer" (defArgs s_is_integer) (defBody s_is_integer) (defScope s_is_integer) [] [] (He.ga K "is_integer") fd
  d_is_within : ∃ fd, FunD K "is_within" "is_within" (defArgs s_is_within) (defBody s_is_within) (defScope s_is_within) [] [] (He.ga K "is_within") fd
  d_is_listed : ∃ fd, FunD K "is_listed" "is_listed" (defArgs s_is_listed) (defBody s_is_listed) (defScope s_is_listed) [] [] (He.ga K "is_listed") fd
  d_is_ascending : ∃ fd, FunD K "is_ascending" "is_ascending" (defArgs s_is_ascending) (defBody s_is_ascending) (defScope s_is_ascending) [] [] (He.ga K "is_ascending") fd
  d_is_rising : ∃ fd, FunD K "is_rising" "is_rising" (defArgs s_is_rising) (defBody s_is_rising) (defScope s_is_rising) [] [] (He.ga K "is_rising") fd
  d_keyed : ∃ fd, FunD K "keyed" "keyed" (defArgs s_keyed) (defBody s_keyed) (defScope s_keyed) [] [] (He.ga K "keyed") fd
  d_is_round : ∃ fd, FunD K "is_round" "is_round" (defArgs s_is_round) (defBody s_is_round) (defScope s_is_round) [] [] (He.ga K "is_round") fd
  d_least_step : ∃ fd, FunD K "least_step" "least_step" (defArgs s_least_step) (defBody s_least_step) (defScope s_least_step) [] [] (He.ga K "least_step") fd
  d_least_high : ∃ fd, FunD K "least_high" "least_high" (defArgs s_least_high) (defBody s_least_high) (defScope s_least_high) [] [] (He.ga K "least_high") fd
  d_greatest_low : ∃ fd, FunD K "greatest_low" "greatest_low" (defArgs s_greatest_low) (defBody s_greatest_low) (defScope s_greatest_low) [] [] (He.ga K "greatest_low") fd
  d_empty_lot : ∃ fd, FunD K "empty_lot" "empty_lot" (defArgs s_empty_lot) (defBody s_empty_lot) (defScope s_empty_lot) [] [] (He.ga K "empty_lot") fd
  d_check_integer : ∃ fd, FunD K "check_integer" "check_integer" (defArgs s_check_integer) (defBody s_check_integer) (defScope s_check_integer) [] [] (He.ga K "check_integer") fd
  d_lot_of : ∃ fd, FunD K "lot_of" "lot_of" (defArgs s_lot_of) (defBody s_lot_of) (defScope s_lot_of) [] [] (He.ga K "lot_of") fd
  d_every : ∃ fd, FunD K "every" "every" (defArgs s_every) (defBody s_every) (defScope s_every) [] [] (He.ga K "every") fd
  d_moved_rests : ∃ fd, FunD K "moved_rests" "moved_rests" (defArgs s_moved_rests) (defBody s_moved_rests) (defScope s_moved_rests) [] [] (He.ga K "moved_rests") fd
  d_moved_of : ∃ fd, FunD K "moved_of" "moved_of" (defArgs s_moved_of) (defBody s_moved_of) (defScope s_moved_of) [] [] (He.ga K "moved_of") fd
  d_moved : ∃ fd, FunD K "moved" "moved" (defArgs s_moved) (defBody s_moved) (defScope s_moved) [] [] (He.ga K "moved") fd
  d_mirrored_of : ∃ fd, FunD K "mirrored_of" "mirrored_of" (defArgs s_mirrored_of) (defBody s_mirrored_of) (defScope s_mirrored_of) [] [] (He.ga K "mirrored_of") fd
  d_next_above_of : ∃ fd, FunD K "next_above_of" "next_above_of" (defArgs s_next_above_of) (defBody s_next_above_of) (defScope s_next_above_of) [] [] (He.ga K "next_above_of") fd
  d_next_below_of : ∃ fd, FunD K "next_below_of" "next_below_of" (defArgs s_next_below_of) (defBody s_next_below_of) (defScope s_next_below_of) [] [] (He.ga K "next_below_of") fd
  d_next_above : ∃ fd, FunD K "next_above" "next_above" (defArgs s_next_above) (defBody s_next_above) (defScope s_next_above) [] [] (He.ga K "next_above") fd
  d_next_below : ∃ fd, FunD K "next_below" "next_below" (defArgs s_next_below) (defBody s_next_below) (defScope s_next_below) [] [] (He.ga K "next_below") fd
  d_many_with : ∃ fd, FunD K "many_with" "many_with" (defArgs s_many_with) (defBody s_many_with) (defScope s_many_with) [] [] (He.ga K "many_with") fd
  d_many_in : ∃ fd, FunD K "many_in" "many_in" (defArgs s_many_in) (defBody s_many_in) (defScope s_many_in) [] [] (He.ga K "many_in") fd
  d_l_pot : ∃ fd, FunD K "_law_pot" "_law_pot" (defArgs s_l_pot) (defBody s_l_pot) (defScope s_l_pot) [] [] (He.ga K "_law_pot") fd
  d_l_draw : ∃ fd, FunD K "_law_draw" "_law_draw" (defArgs s_l_draw) (defBody s_l_draw) (defScope s_l_draw) [] [] (He.ga K "_law_draw") fd
  d_l_any : ∃ fd, FunD K "_law_any" "_law_any" (defArgs s_l_any) (defBody s_l_any) (defScope s_l_any) [] [] (He.ga K "_law_any") fd
  d_l_lot_parts : ∃ fd, FunD K "_law_lot_parts" "_law_lot_parts" (defArgs s_l_lot_parts) (defBody s_l_lot_parts) (defScope s_l_lot_parts) [] [] (He.ga K "_law_lot_parts") fd
  d_l_lot : ∃ fd, FunD K "_law_lot" "_law_lot" (defArgs s_l_lot) (defBody s_l_lot) (defScope s_l_lot) [] [] (He.ga K "_law_lot") fd
  d_l_six : ∃ fd, FunD K "_law_six" "_law_six" (defArgs s_l_six) (defBody s_l_six) (defScope s_l_six) [] [] (He.ga K "_law_six") fd
  d_l_deep : ∃ fd, FunD K "_law_deep" "_law_deep" (defArgs s_l_deep) (defBody s_l_deep) (defScope s_l_deep) [] [] (He.ga K "_law_deep") fd
  d_l_call : ∃ fd, FunD K "_law_call" "_law_call" (defArgs s_l_call) (defBody s_l_call) (defScope s_l_call) [] [] (He.ga K "_law_call") fd
  d_l_word : ∃ fd, FunD K "_law_word" "_law_word" (defArgs s_l_word) (defBody s_l_word) (defScope s_l_word) [] [] (He.ga K "_law_word") fd
  d_l_lists : ∃ fd, FunD K "_law_lists" "_law_lists" (defArgs s_l_lists) (defBody s_l_lists) (defScope s_l_lists) [] [] (He.ga K "_law_lists") fd
  d_law : ∃ fd, FunD K "law" "law" (defArgs s_law) (defBody s_law) (defScope s_law) [] [] (He.ga K "law") fd
  d_Lot_init : ∃ fd, FunD K "__init__" "Lot.__init__" (defArgs s_Lot_init) (defBody s_Lot_init) (defScope s_Lot_init) [] [] (He.ma K (He.ga K "Lot") "__init__") fd
  d_Lot_keep : ∃ fd, FunD K "keep" "Lot.keep" (defArgs s_Lot_keep) (defBody s_Lot_keep) (defScope s_Lot_keep) [] [] (He.ma K (He.ga K "Lot") "keep") fd
  d_Lot_told : ∃ fd, FunD K "told" "Lot.told" (defArgs s_Lot_told) (defBody s_Lot_told) (defScope s_Lot_told) [] [] (He.ma K (He.ga K "Lot") "told") fd
  d_Lot_eq : ∃ fd, FunD K "__eq__" "Lot.__eq__" (defArgs s_Lot_eq) (defBody s_Lot_eq) (defScope s_Lot_eq) [] [] (He.ma K (He.ga K "Lot") "__eq__") fd
  d_RawLot_init : ∃ fd, FunD K "__init__" "RawLot.__init__" (defArgs s_RawLot_init) (defBody s_RawLot_init) (defScope s_RawLot_init) [] [] (He.ma K (He.ga K "RawLot") "__init__") fd
  o_Lot : Lv.OwnC K (He.ga K "Lot") (He.ga K "Lot")
  q_Lot : Lv.OwnE K (He.ga K "Lot") (He.ga K "Lot") (He.ma K (He.ga K "Lot") "__eq__")
  o_RawLot : Lv.OwnC K (He.ga K "RawLot") (He.ga K "Lot")
  q_RawLot : Lv.OwnE K (He.ga K "RawLot") (He.ga K "Lot") (He.ma K (He.ga K "Lot") "__eq__")
  j_RawLot_keep : Lv.maB K "RawLot" "Lot" "keep" = true
  j_RawLot_told : Lv.maB K "RawLot" "Lot" "told" = true
  xi_BadLot : Lv.xiB K "/claim/cut.py" "BadLot" "part" = true
  ot_Lot : Lv.otB K "Lot" = true
theorem txt_of {w : World} {h : Heap} {K : PySem.W.Frag} {mg : Str → Option Value} (X : K.In h) (G : h.Ns mainGlobals mg) (c : He.SaysX fa fn [] [] ex w h K) : Txt K mg := by
  have e0 : ex K = true := c.more
  unfold ex at e0
  simp only [Bool.and_eq_true] at e0
  obtain ⟨⟨⟨⟨⟨⟨⟨b0, b1⟩, b2⟩, b3⟩, b4⟩, b5⟩, b6⟩, b7⟩ := e0
  exact ⟨He.glo_ok X G (c.t.d.fact 0 rfl), He.glo_ok X G (c.t.d.fact 1 rfl), He.glo_ok X G (c.t.d.fact 2 rfl), He.glo_ok X G (c.t.d.fact 3 rfl), He.glo_ok X G (c.t.d.fact 4 rfl), He.glo_ok X G (c.t.d.fact 5 rfl), He.glo_ok X G (c.t.d.fact 6 rfl), He.glo_ok X G (c.t.d.fact 7 rfl), He.glo_ok X G (c.t.d.fact 8 rfl), He.glo_ok X G (c.t.d.fact 9 rfl), He.glo_ok X G (c.t.d.fact 10 rfl), He.glo_ok X G (c.t.d.fact 11 rfl), He.glo_ok X G (c.t.d.fact 12 rfl), He.glo_ok X G (c.t.d.fact 13 rfl), He.glo_ok X G (c.t.d.fact 14 rfl), He.glo_ok X G (c.t.d.fact 15 rfl), He.glo_ok X G (c.t.d.fact 16 rfl), He.glo_ok X G (c.t.d.fact 17 rfl), He.glo_ok X G (c.t.d.fact 18 rfl), He.glo_ok X G (c.t.d.fact 19 rfl), He.glo_ok X G (c.t.d.fact 20 rfl), He.glo_ok X G (c.t.d.fact 21 rfl), He.glo_ok X G (c.t.d.fact 22 rfl), He.glo_ok X G (c.t.d.fact 23 rfl), He.glo_ok X G (c.t.d.fact 24 rfl), He.glo_ok X G (c.t.d.fact 25 rfl), He.glo_ok X G (c.t.d.fact 26 rfl), He.glo_ok X G (c.t.d.fact 27 rfl), He.glo_ok X G (c.t.d.fact 28 rfl), He.glo_ok X G (c.t.d.fact 29 rfl), He.glo_ok X G (c.t.d.fact 30 rfl), He.glo_ok X G (c.t.d.fact 31 rfl), He.glo_ok X G (c.t.d.fact 32 rfl), He.glo_ok X G (c.t.d.fact 33 rfl), He.glo_ok X G (c.t.d.fact 34 rfl), He.glo_ok X G (c.t.d.fact 35 rfl), He.glo_ok X G (c.t.d.fact 36 rfl), He.glo_ok X G (c.t.d.fact 37 rfl), He.glo_ok X G (c.t.d.fact 38 rfl), He.glo_ok X G (c.t.d.fact 39 rfl), He.glo_ok X G (c.t.d.fact 40 rfl), He.int_ok X G (c.t.d.fact 41 rfl), He.int_ok X G (c.t.d.fact 42 rfl), He.free_ok X G (c.t.d.fact 43 rfl), He.free_ok X G (c.t.d.fact 44 rfl), He.free_ok X G (c.t.d.fact 45 rfl), He.free_ok X G (c.t.d.fact 46 rfl), He.free_ok X G (c.t.d.fact 47 rfl), He.free_ok X G (c.t.d.fact 48 rfl), He.free_ok X G (c.t.d.fact 49 rfl), He.free_ok X G (c.t.d.fact 50 rfl), He.free_ok X G (c.t.d.fact 51 rfl), He.free_ok X G (c.t.d.fact 52 rfl), He.free_ok X G (c.t.d.fact 53 rfl), He.free_ok X G (c.t.d.fact 54 rfl), He.free_ok X G (c.t.d.fact 55 rfl), He.free_ok X G (c.t.d.fact 56 rfl), He.cls_ok (c.t.d.fact 57 rfl), He.noat_ok (c.t.d.fact 58 rfl), He.noat_ok (c.t.d.fact 59 rfl), He.noat_ok (c.t.d.fact 60 rfl), He.noat_ok (c.t.d.fact 61 rfl), He.noat_ok (c.t.d.fact 62 rfl), He.noat_ok (c.t.d.fact 63 rfl), He.noat_ok (c.t.d.fact 64 rfl), He.noat_ok (c.t.d.fact 65 rfl), He.noat_ok (c.t.d.fact 66 rfl), He.mkr_ok (c.t.d.fact 67 rfl), He.meth_ok (c.t.d.fact 68 rfl), He.meth_ok (c.t.d.fact 69 rfl), He.cls_ok (c.t.d.fact 70 rfl), He.noat_ok (c.t.d.fact 71 rfl), He.noat_ok (c.t.d.fact 72 rfl), He.noat_ok (c.t.d.fact 73 rfl), He.noat_ok (c.t.d.fact 74 rfl), He.noat_ok (c.t.d.fact 75 rfl), He.noat_ok (c.t.d.fact 76 rfl), He.noat_ok (c.t.d.fact 77 rfl), He.noat_ok (c.t.d.fact 78 rfl), He.noat_ok (c.t.d.fact 79 rfl), He.meth_ok (c.t.d.fact 80 rfl), He.meth_ok (c.t.d.fact 81 rfl), He.mkr_ok (c.t.d.fact 82 rfl), (c.t.d.fact 83 rfl), (c.t.d.fact 84 rfl), (c.t.d.fact 85 rfl), (c.t.d.fact 86 rfl), (c.t.d.fact 87 rfl), (c.t.d.fact 88 rfl), (c.t.d.fact 89 rfl), (c.t.d.fact 90 rfl), c.t.d.def_ 0 (d := dd0) rfl, c.t.d.def_ 1 (d := dd1) rfl, c.t.d.def_ 2 (d := dd2) rfl, c.t.d.def_ 3 (d := dd3) rfl, c.t.d.def_ 4 (d := dd4) rfl, c.t.d.def_ 5 (d := dd5) rfl, c.t.d.def_ 6 (d := dd6) rfl, c.t.d.def_ 7 (d := dd7) rfl, c.t.d.def_ 8 (d := dd8) rfl, c.t.d.def_ 9 (d := dd9) rfl, c.t.d.def_ 10 (d := dd10) rfl, c.t.d.def_ 11 (d := dd11) rfl, c.t.d.def_ 12 (d := dd12) rfl, c.t.d.def_ 13 (d := dd13) rfl, c.t.d.def_ 14 (d := dd14) rfl, c.t.d.def_ 15 (d := dd15) rfl, c.t.d.def_ 16 (d := dd16) rfl, c.t.d.def_ 17 (d := dd17) rfl, c.t.d.def_ 18 (d := dd18) rfl, c.t.d.def_ 19 (d := dd19) rfl, c.t.d.def_ 20 (d := dd20) rfl, c.t.d.def_ 21 (d := dd21) rfl, c.t.d.def_ 22 (d := dd22) rfl, c.t.d.def_ 23 (d := dd23) rfl, c.t.d.def_ 24 (d := dd24) rfl, c.t.d.def_ 25 (d := dd25) rfl, c.t.d.def_ 26 (d := dd26) rfl, c.t.d.def_ 27 (d := dd27) rfl, c.t.d.def_ 28 (d := dd28) rfl, c.t.d.def_ 29 (d := dd29) rfl, c.t.d.def_ 30 (d := dd30) rfl, c.t.d.def_ 31 (d := dd31) rfl, c.t.d.def_ 32 (d := dd32) rfl, c.t.d.def_ 33 (d := dd33) rfl, c.t.d.def_ 34 (d := dd34) rfl, c.t.d.def_ 35 (d := dd35) rfl, c.t.d.def_ 36 (d := dd36) rfl, c.t.d.def_ 37 (d := dd37) rfl, c.t.d.def_ 38 (d := dd38) rfl, c.t.d.def_ 39 (d := dd39) rfl, Lv.ownB_ok b0, Lv.eqB_ok b1, Lv.ownB_ok b2, Lv.eqB_ok b3, b4, b5, b6, b7⟩
end X

namespace X
open PySem PySem.Spec PyProof.Rows L2 Lv
variable {P : Program} {w : World} {K : PySem.W.Frag} {mg : Str → Option Value} {base : Heap}
def sp_is_integer (K : PySem.W.Frag) : Sp := fun vs H Q _ => ∃ n : Int, vs = [.int n] ∧ Q (.bl true) H
theorem sc_is_integer : FnScope ["thing"] ["thing"] (defScope s_is_integer) := ⟨rfl, rfl, rfl, by decide +kernel, rfl, by decide +kernel, by decide +kernel⟩
theorem ok_is_integer (T : Txt K mg) : ∃ fd, Dn P w K mg base (L2.CX P w) 1 "is_integer" ["thing"] (sp_is_integer K) fd := by
  obtain ⟨fd, F⟩ := T.d_is_integer
  refine ⟨fd, F.ok sc_is_integer (fun vs H Q E h => ?_) (fun cdv A outer s H vs Q E hr h => ?_), T.g_is_integer, F.kp, F.bindsN fun _ _ _ _ _ _ us hl => match us, hl with | [_], _ => rfl, Lv.fun_lk F⟩
  · obtain ⟨_, rfl, _⟩ := h
    rfl
  · have hu := hu_of hr
    refine ⟨_, PSs.nox (pss_one (ps_ret (pe_and (pe_callB call_isi (by rfl) T.n_isinstance (by decide +kernel) (pa_cons (pv 0) (pa_cons (pe_bltn (v := .ty "int") (by rfl) T.n_int (by decide +kernel) rfl) pa_nil))) (pe_one (pe_not (pe_callB call_isi (by rfl) T.n_isinstance (by decide +kernel) (pa_cons (pv 0) (pa_cons (pe_bltn (v := .ty "bool") (by rfl) T.n_bool (by decide +kernel) rfl) pa_nil)))))))), ?_⟩
    obtain ⟨n, rfl, k⟩ := h
    exact ⟨_, rfl, _, _, _, _, true, rfl, .ty _, .base (.int n), kit_ty (by decide +kernel), true, rfl, (if_pos rfl).mpr ⟨_, rfl, _, _, _, _, false, rfl, .ty _, .base (.int n), kit_ty (by decide +kernel), false, rfl, k⟩⟩
def sp_is_within (K : PySem.W.Frag) : Sp := fun vs H Q _ => ∃ n a b : Int, vs = [.int n, .int a, .int b] ∧ Q (.bl (decide (a ≤ n ∧ n ≤ b))) H
theorem sc_is_within : FnScope ["thing", "least", "most"] ["thing", "least", "most"] (defScope s_is_within) := ⟨rfl, rfl, rfl, by decide +kernel, rfl, by decide +kernel, by decide +kernel⟩
theorem ok_is_within (T : Txt K mg) {fd_is_integer : FuncData} (G_is_integer : Dn P w K mg base (L2.CX P w) 1 "is_integer" ["thing"] (sp_is_integer K) fd_is_integer) : ∃ fd, Dn P w K mg base (L2.CX P w) 2 "is_within" ["thing", "least", "most"] (sp_is_within K) fd := by
  obtain ⟨fd, F⟩ := T.d_is_within
  refine ⟨fd, F.ok sc_is_within (fun vs H Q E h => ?_) (fun cdv A outer s H vs Q E hr h => ?_), T.g_is_within, F.kp, F.bindsN fun _ _ _ _ _ _ us hl => match us, hl with | [_, _, _], _ => rfl, Lv.fun_lk F⟩
  · obtain ⟨_, _, _, rfl, _⟩ := h
    rfl
  · have hu := hu_of hr
    have hr_is_integer : Room 1 _ := hr.mono (by decide)
    refine ⟨_, PSs.nox (pss_one (ps_ret (pe_and (pe_call G_is_integer.ok hr_is_integer rfl G_is_integer.mg G_is_integer.kp G_is_integer.b .nil passL (pa_cons (pv 0) pa_nil)) (pe_one (pe_chain op_le op_le (pv 1) (pv 0) (pv 2)))))), ?_⟩
    obtain ⟨n, a, b, rfl, k⟩ := h
    refine ⟨_, rfl, n, rfl, true, rfl, (if_pos rfl).mpr ?_⟩
    refine ⟨_, rfl, _, rfl, a, n, rfl, rfl, _, rfl, ?_⟩
    by_cases h1 : a ≤ n
    · refine (if_pos (decide_eq_true h1)).mpr ⟨_, rfl, n, b, rfl, rfl, ?_⟩
      have e : decide (a ≤ n ∧ n ≤ b) = decide (n ≤ b) := by simp [h1]
      rw [e] at k
      exact k
    · refine (if_neg (by simp [h1])).mpr ?_
      have e : decide (a ≤ n ∧ n ≤ b) = false := by simp [h1]
      rw [e] at k
      exact k
def sp_is_from (K : PySem.W.Frag) : Sp := fun vs H Q _ => ∃ n a : Int, vs = [.int n, .int a] ∧ Q (.bl (decide (a ≤ n))) H
def sp_is_pair (K : PySem.W.Frag) : Sp := fun vs H Q _ => ∃ (p : Addr) (x y : V), vs = [.ref p] ∧ H p = some (.tup [x, y]) ∧ Q (.bl true) H
def sp_common_divisor (K : PySem.W.Frag) : Sp := fun vs H Q _ => ∃ (a b : Int), vs = [.int a, .int b] ∧ Q (.int (Int.gcd a b : Nat)) H
def sp_is_share (K : PySem.W.Frag) : Sp := fun vs H Q _ => ∃ (p : Addr) (a b : Int), vs = [.ref p] ∧ H p = some (.tup [.int a, .int b]) ∧ 1 ≤ b ∧ Int.gcd a b = 1 ∧ Q (.bl true) H
def sp_check_share (K : PySem.W.Frag) : Sp := fun vs H Q _ => ∃ (p : Addr) (a b : Int), vs = [.ref p] ∧ H p = some (.tup [.int a, .int b]) ∧ 1 ≤ b ∧ Int.gcd a b = 1 ∧ Q .non H
end X

namespace X
open PySem PySem.Spec PyProof.Rows L2 Lv
variable {P : Program} {w : World} {K : PySem.W.Frag} {mg : Str → Option Value} {base : Heap}
theorem cut_ints (ns : List Int) (lo hi : Option Int) : ∃ ms : List Int, cutV (ns.map V.int) lo hi = ms.map V.int ∧ ms.length ≤ ns.length := by
  refine ⟨(ns.drop (HT.sIx (ns.map V.int).length 0 lo)).take (HT.sIx (ns.map V.int).length (ns.map V.int).length hi - HT.sIx (ns.map V.int).length 0 lo), ?_, ?_⟩
  · unfold cutV
    rw [List.map_take, List.map_drop]
  · rw [List.length_take, List.length_drop]
    omega
theorem sc_l_pot : FnScope ["_law_script", "_law_cells", "_law_greats", "_law_smalls", "_law_item"] ["_law_script"] (defScope s_l_pot) := ⟨rfl, rfl, rfl, by decide +kernel, rfl, by decide +kernel, by decide +kernel⟩
theorem ok_l_pot (T : Txt K mg) : ∃ fd, Dn P w K mg base (L2.CX P w) 1 "_law_pot" ["_law_script"] (spPot K) fd := by
  obtain ⟨fd, F⟩ := T.d_l_pot
  refine ⟨fd, F.ok sc_l_pot (fun vs H Q E h => ?_) (fun cdv A outer s H vs Q E hr h => ?_), T.g_l_pot, F.kp, F.bindsN fun _ _ _ _ _ _ us hl => match us, hl with | [_], _ => rfl, Lv.fun_lk F⟩
  · obtain ⟨_, _, rfl, _⟩ := h
    rfl
  · have hu := hu_of hr
    refine ⟨_, PSs.nox (pss_cons (ps_setLc (i := 1) (own := [("_law_item", 4)]) (g := gName 4) (tt := tYes) rfl sc_l_pot.nd rfl rfl (sw_true rfl rfl rfl (by decide +kernel)) (pi_list (pe_slice sl_list (pv 0) po_none (po_some pe_int))) (blkOk_by (N := ["_law_script", "_law_cells", "_law_greats", "_law_smalls", "_law_item"]) (sc := defScope s_l_pot) (by decide +kernel)) (fun _ _ _ _ _ => (pg_name (i := 4) sc_l_pot.nd rfl (Or.inl rfl) (hf := Or.inr rfl))) (fun _ _ _ _ _ => pts_nil) (fun _ _ _ _ _ => (pe_callTy call_int1 (by rfl) T.n_int (by decide +kernel) (pa_cons (pv 4) pa_nil))))
      (pss_cons (ps_setLc (i := 2) (own := [("_law_item", 4)]) (g := gName 4) rfl sc_l_pot.nd rfl rfl (sw_true rfl rfl rfl (by decide +kernel)) (pi_list (pv 1)) (blkOk_by (N := ["_law_script", "_law_cells", "_law_greats", "_law_smalls", "_law_item"]) (sc := defScope s_l_pot) (by decide +kernel)) (fun _ _ _ _ _ => (pg_name (i := 4) sc_l_pot.nd rfl (Or.inl rfl) (hf := Or.inr rfl))) (fun _ _ _ _ _ => (pts_one (pt_cmpR op_ge (pe_callB call_abs (by rfl) T.n_abs (by decide +kernel) (pa_cons (pv 4) pa_nil)) (pe_op op_pow pe_int pe_int) (nomark _)))) (fun _ _ _ _ _ => (pe_callB call_abs (by rfl) T.n_abs (by decide +kernel) (pa_cons (pv 4) pa_nil))))
      (pss_cons (ps_set (i := 3) sc_l_pot.nd rfl (Or.inl rfl) (pe_op op_cat (pe_lc (own := [("_law_item", 4)]) (g := gName 4) rfl sc_l_pot.nd (pi_list (pv 1)) (blkOk_by (N := ["_law_script", "_law_cells", "_law_greats", "_law_smalls", "_law_item"]) (sc := defScope s_l_pot) (by decide +kernel)) (fun _ _ _ _ _ => (pg_name (i := 4) sc_l_pot.nd rfl (Or.inl rfl) (hf := Or.inr rfl))) (fun _ _ _ _ _ => (pts_one (pt_cmpR op_lt (pe_callB call_abs (by rfl) T.n_abs (by decide +kernel) (pa_cons (pv 4) pa_nil)) (pe_op op_pow pe_int pe_int) (nomark _)))) (fun _ _ _ _ _ => (pe_op op_mod (pe_callTy call_int1 (by rfl) T.n_int (by decide +kernel) (pa_cons (pv 4) pa_nil)) pe_int))) (pe_lst (pa_cons (pe_op op_add (pe_callB call_len_seq (by rfl) T.n_len PySem.boot_len (pa_cons (pv 1) pa_nil)) pe_int) pa_nil))))
      (pss_one (ps_ret (pe_lst (pa_cons (pv 2) (pa_cons (pv 3) (pa_cons pe_int (pa_cons (pe_op op_mod (pe_callTy call_int1 (by rfl) T.n_int (by decide +kernel) (pa_cons (pe_callB (cr_sum rfl) (by rfl) T.n_sum (by decide +kernel) (pa_cons (pv 3) pa_nil)) pa_nil)) pe_int) pa_nil)))))))))), ?_⟩
    obtain ⟨a, ns, rfl, hS, hl, k⟩ := h
    obtain ⟨ms, em, lm⟩ := cut_ints ns none (some 63)
    refine ⟨_, rfl, 63, rfl, a, _, rfl, hS, fun p hp => ⟨p, rfl, ⟨_, sqL upd_same⟩, fun D1 h1 => ?_⟩⟩
    rw [em] at h1 ⊢
    have j1 := (Join.self H).newG (o := .lst (ms.map V.int)) hp
    refine lc_ints (K := K) (ns := ms) (fun _ => true) (fun z => z) h1 (sqL upd_same) (by omega) (fun _ => rfl) ?_ ?_ ?_
    · exact fun z H' R _ r => r
    · exact fun z H' R _ _ r => ⟨_, rfl, .inl ⟨_, rfl, r⟩⟩
    have e1 : ((ms.filter fun _ => true).map fun z => z) = ms := by simp
    rw [e1]
    have j2 := j1.newG (o := .lst (ms.map V.int)) h1
    clear j1
    -- _law_greats
    refine ⟨_, rfl, D1, rfl, ⟨_, sqL upd_same⟩, fun D2 h2 => ?_⟩
    refine lc_ints (K := K) (ns := ms) (fun z => decide ((10 : Int) ^ 18 ≤ (if z < 0 then -z else z))) (fun z => if z < 0 then -z else z) h2 (sqL upd_same) (by omega) (fun _ => rfl) ?_ ?_ ?_
    · exact fun z H' R _ r => ⟨_, rfl, _, rfl, _, _, rfl, rfl, ⟨by decide, by decide, by decide⟩, _, _, rfl, rfl, _, rfl, r⟩
    · exact fun z H' R _ _ r => ⟨_, rfl, _, rfl, r⟩
    have hg : ((ms.filter fun z => decide ((10 : Int) ^ 18 ≤ (if z < 0 then -z else z))).map fun z => if z < 0 then -z else z).length ≤ 63 := by
      rw [List.length_map]
      have := List.length_filter_le (fun z : Int => decide ((10 : Int) ^ 18 ≤ (if z < 0 then -z else z))) ms
      omega
    generalize ((ms.filter fun z => decide ((10 : Int) ^ 18 ≤ (if z < 0 then -z else z))).map fun z => if z < 0 then -z else z) = gs at hg ⊢
    have j3 := j2.setP (o := .lst (gs.map V.int)) (j2.ng h2)
    -- _law_smalls
    have n12 : D1 ≠ D2 := fun q => by rw [← q, upd_same] at h2; cases h2
    refine ⟨_, rfl, D1, rfl, ⟨_, sqL (Eq.trans (upd_ne n12) upd_same)⟩, fun D3 h3 => ?_⟩
    refine lc_ints (K := K) (ns := ms) (fun z => decide ((if z < 0 then -z else z) < (10 : Int) ^ 18)) (fun z => z % 1000000007) h3 (sqL (Eq.trans (upd_ne n12) upd_same)) (by omega) (fun _ => rfl) ?_ ?_ ?_
    · exact fun z H' R _ r => ⟨_, rfl, _, rfl, _, _, rfl, rfl, ⟨by decide, by decide, by decide⟩, _, _, rfl, rfl, _, rfl, r⟩
    · exact fun z H' R _ _ r => ⟨_, rfl, .inl ⟨_, rfl, _, _, rfl, rfl, (by show (0 : Int) < 1000000007; decide), r⟩⟩
    have hs : ((ms.filter fun z => decide ((if z < 0 then -z else z) < (10 : Int) ^ 18)).map fun z => z % 1000000007).length ≤ 63 := by
      rw [List.length_map]
      have := List.length_filter_le (fun z : Int => decide ((if z < 0 then -z else z) < (10 : Int) ^ 18)) ms
      omega
    generalize ((ms.filter fun z => decide ((if z < 0 then -z else z) < (10 : Int) ^ 18)).map fun z => z % 1000000007) = ss at hs ⊢
    have j4 := j3.newG (o := .lst (ss.map V.int)) h3
    have n13 : D1 ≠ D3 := fun q => by rw [← q, upd_ne n12, upd_same] at h3; cases h3
    refine ⟨_, rfl, _, _, rfl, .inl (sqL (by rw [upd_ne n13, upd_ne n12, upd_same])), _, _, rfl, rfl, (by show 1 ≤ sizeLine; decide), fun D4 h4 => ?_⟩
    have j5 := j4.newG (o := .lst [V.int (((ms.map V.int).length : Int) + 1)]) h4
    have n34 : D3 ≠ D4 := fun q => by rw [← q, upd_same] at h4; cases h4
    refine ⟨D3, D4, _, _, rfl, rfl, Eq.trans (upd_ne n34) upd_same, upd_same, by rw [List.length_map]; exact szle (by show _ + 1 ≤ _; omega), fun D5 h5 => ?_⟩
    have j6 := j5.setP (o := .lst (ss.map V.int ++ [V.int (((ms.map V.int).length : Int) + 1)])) (j5.ng h5)
    have e2 : ss.map V.int ++ [V.int (((ms.map V.int).length : Int) + 1)] = (ss ++ [((ms.map V.int).length : Int) + 1]).map V.int := by rw [List.map_append]; rfl
    rw [e2] at j6 ⊢
    refine ⟨_, rfl, _, rfl, _, rfl, D5, _, rfl, sqL upd_same, .inl ⟨_, rfl, _, _, rfl, rfl, (by show (0 : Int) < 999983; decide), (by show 4 ≤ sizeLine; decide), fun l hl0 => ?_⟩⟩
    have n25 : D2 ≠ D5 := ne_of_none (j5.p D2 _ upd_same) h5
    have q2 := j6.p D2 _ (Eq.trans (upd_ne n25) upd_same)
    have q5 := j6.p D5 _ upd_same
    have j7 := j6.setP (o := .lst [V.ref D2, V.ref D5, V.int 0, V.int ((ss ++ [((ms.map V.int).length : Int) + 1]).sum % 999983)]) (j6.ng hl0)
    refine k l _ _ _ ((((Ex.new hp).trans (Ex.new h1)).trans (Ex.new (j3.ng h3))).trans (Ex.new (j4.ng h4))) j7 ⟨D2, D5, gs, _, 0, _, upd_same, Eq.trans (upd_ne (ne_of_none q2 hl0)) (Eq.trans (upd_ne n25) upd_same), Eq.trans (upd_ne (ne_of_none q5 hl0)) upd_same, n25, ?_, ?_, by omega⟩
    · simp
    · simp; omega
theorem sc_l_draw : FnScope ["_law_pot_here", "_law_many", "_law_turn", "_law_seed", "_law_number"] ["_law_pot_here", "_law_many"] (defScope s_l_draw) := ⟨rfl, rfl, rfl, by decide +kernel, rfl, by decide +kernel, by decide +kernel⟩
theorem ok_l_draw (T : Txt K mg) : ∃ fd, Dn P w K mg base (L2.CX P w) 1 "_law_draw" ["_law_pot_here", "_law_many"] spDraw fd := by
  obtain ⟨fd, F⟩ := T.d_l_draw
  refine ⟨fd, F.ok sc_l_draw (fun vs H Q E h => ?_) (fun cdv A outer s H vs Q E hr h => ?_), T.g_l_draw, F.kp, F.bindsN fun _ _ _ _ _ _ us hl => match us, hl with | [_, _], _ => rfl, Lv.fun_lk F⟩
  · obtain ⟨_, _, _, _, rfl, _⟩ := h
    rfl
  · have hu := hu_of hr
    refine ⟨_, PSs.nox (pss_cons (ps_set (i := 2) sc_l_draw.nd rfl (Or.inl rfl) (pe_ix ix_list (pv 0) pe_int (fun _ _ => rfl)))
      (pss_cons (ps_asg (pe_op op_add (pv 2) pe_int) (pg_sub (pv 0) pe_int set_list))
      (pss_cons (ps_if (pt_cmpR op_gt (pe_callB call_len_seq (by rfl) T.n_len PySem.boot_len (pa_cons (pe_ix ix_list (pv 0) pe_int (fun _ _ => rfl)) pa_nil)) pe_int (nomark _)) (pss_cons (ps_set (i := 4) sc_l_draw.nd rfl (Or.inl rfl) (pe_ix ix_list (pe_ix ix_list (pv 0) pe_int (fun _ _ => rfl)) pe_int (fun _ _ => rfl)))
      (pss_cons (ps_asg (pe_op op_fdivW (pv 4) (pv 1)) (pg_sub (pe_ix ix_list (pv 0) pe_int (fun _ _ => rfl)) pe_int set_list))
      (pss_cons (ps_if (pt_cmpR op_lt (pv 4) (pv 1) (nomark _)) (pss_one (ps_expr (pe_bm PySem.F.plainAttrs_list PySem.F.slot_list_pop PySem.F.type_list_pop mt_popAt (pe_ix ix_list (pv 0) pe_int (fun _ _ => rfl)) (pa_cons pe_int pa_nil)))) pss_nil)
      (pss_one (ps_ret (pe_op op_mod (pe_callTy call_int1 (by rfl) T.n_int (by decide +kernel) (pa_cons (pv 4) pa_nil)) (pv 1))))))) pss_nil)
      (pss_cons (ps_set (i := 3) sc_l_draw.nd rfl (Or.inl rfl) (pe_op op_add (pe_op op_add (pe_op op_mul (pe_ix ix_list (pe_ix ix_list (pv 0) pe_int (fun _ _ => rfl)) (pe_op op_mod (pe_callTy call_int1 (by rfl) T.n_int (by decide +kernel) (pa_cons (pv 2) pa_nil)) (pe_callB call_len_seq (by rfl) T.n_len PySem.boot_len (pa_cons (pe_ix ix_list (pv 0) pe_int (fun _ _ => rfl)) pa_nil))) (fun _ _ => rfl)) pe_int) (pe_op op_mul pe_int (pv 2))) (pe_op op_mul (pe_ix ix_list (pv 0) pe_int (fun _ _ => rfl)) pe_int)))
      (pss_cons (ps_set (i := 4) sc_l_draw.nd rfl (Or.inl rfl) (pe_op op_mod (pe_callTy call_int1 (by rfl) T.n_int (by decide +kernel) (pa_cons (pe_op op_add (pe_op op_mul (pv 3) pe_int) pe_int) pa_nil)) pe_int))
      (pss_cons (ps_set (i := 4) sc_l_draw.nd rfl (Or.inl rfl) (pe_op op_mod (pe_callTy call_int1 (by rfl) T.n_int (by decide +kernel) (pa_cons (pe_op op_mulW (pv 4) (pe_op op_add (pe_op op_fdiv (pv 4) pe_int) pe_int)) pa_nil)) pe_int))
      (pss_cons (ps_set (i := 4) sc_l_draw.nd rfl (Or.inl rfl) (pe_op op_mod (pe_callTy call_int1 (by rfl) T.n_int (by decide +kernel) (pa_cons (pe_op op_add (pe_op op_mulW (pv 4) (pe_op op_add (pe_op op_fdiv (pv 4) pe_int) pe_int)) (pv 2)) pa_nil)) pe_int))
      (pss_one (ps_ret (pe_op op_mod (pe_callTy call_int1 (by rfl) T.n_int (by decide +kernel) (pa_cons (pe_op op_fdiv (pv 4) pe_int) pa_nil)) (pv 1))))))))))), ?_⟩
    obtain ⟨l, n, G, P0, rfl, j, ⟨g, sa, gs, ss, t, c, hl, hg, hs, ngs, h0s, hls, hlg⟩, hn0, hn, k⟩ := h
    have ngl : g ≠ l := ne_of hg hl (by intro z; cases gs <;> simp at z)
    have nsl : sa ≠ l := ne_of hs hl (by intro z; cases ss <;> simp at z)
    have bn : n.natAbs < 2 ^ 1000 := nat1000 (Int.le_of_lt hn0) hn
    -- turn = pot[2]; pot[2] = turn + 1
    refine ⟨_, rfl, l, _, 2, _, rfl, rfl, sqL (j.p _ _ hl), rfl, ?_⟩
    refine ⟨_, rfl, t, 1, rfl, rfl, _, rfl, l, _, 2, 2, rfl, rfl, j.p _ _ hl, rfl, ?_⟩
    have j1 := j.setP (o := .lst [V.ref g, V.ref sa, V.int (t + 1), V.int c]) (j.ap _ _ hl)
    have hl1 : (upd P0 l (.lst [V.ref g, V.ref sa, V.int (t + 1), V.int c])) l = _ := upd_same
    have hg1 : (upd P0 l (.lst [V.ref g, V.ref sa, V.int (t + 1), V.int c])) g = _ := Eq.trans (upd_ne ngl) hg
    have hs1 : (upd P0 l (.lst [V.ref g, V.ref sa, V.int (t + 1), V.int c])) sa = _ := Eq.trans (upd_ne nsl) hs
    generalize (upd P0 l (.lst [V.ref g, V.ref sa, V.int (t + 1), V.int c])) = P1 at j1 hl1 hg1 hs1
    refine ⟨_, rfl, l, _, 0, _, rfl, rfl, sqL (j1.p _ _ hl1), rfl, g, _, rfl, .inl (sqL (j1.p _ _ hg1)), _, _, rfl, rfl, _, rfl, ?_⟩
    cases gs with
    | cons z r =>
      refine itT (by simp) ?_
      refine ⟨_, rfl, l, _, 0, _, rfl, rfl, sqL (j1.p _ _ hl1), rfl, g, _, 0, _, rfl, rfl, sqL (j1.p _ _ hg1), atI_int (by decide) rfl, ?_⟩
      have j2 := j1.setP (o := .lst (V.int (z / n) :: r.map V.int)) (j1.ap _ _ hg1)
      refine ⟨_, rfl, _, rfl, _, _, rfl, rfl, divW hn0 bn, _, rfl, l, _, 0, _, rfl, rfl, sqL (j1.p _ _ hl1), rfl, g, _, 0, 0, rfl, rfl, j1.p _ _ hg1, ixN_nat (by simp), ?_⟩
      have hl2 : (upd P1 g (.lst (V.int (z / n) :: r.map V.int))) l = _ := Eq.trans (upd_ne ngl.symm) hl1
      have hg2 : (upd P1 g (.lst (V.int (z / n) :: r.map V.int))) g = _ := upd_same
      have hs2 : (upd P1 g (.lst (V.int (z / n) :: r.map V.int))) sa = _ := Eq.trans (upd_ne ngs.symm) hs1
      generalize (upd P1 g (.lst (V.int (z / n) :: r.map V.int))) = P2 at j2 hl2 hg2 hs2
      refine ⟨_, rfl, _, rfl, _, _, rfl, rfl, _, rfl, ?_⟩
      have fin : ∀ (P3 H3 : Hp), Join G P3 H3 → Pot P3 l → Q (V.int (z % n)) H3 := fun P3 H3 => k (z % n) P3 H3 (Int.emod_nonneg _ (by omega)) (Int.emod_lt_of_pos _ hn0)
      by_cases hz : z < n
      · refine itT hz ?_
        have j3 := j2.setP (o := .lst (r.map V.int)) (j2.ap _ _ hg2)
        refine ⟨_, rfl, l, _, 0, _, rfl, rfl, sqL (j2.p _ _ hl2), rfl, .inl ⟨rfl, _, sqL (j2.p _ _ hg2)⟩, g, _, 0, 0, _, rfl, rfl, j2.p _ _ hg2, by decide, by decide, seq_nat (by simp), rfl, ?_⟩
        refine ⟨_, rfl, .inl ⟨_, rfl, _, rfl, _, _, rfl, rfl, hn0, fin _ _ j3 ⟨g, sa, r, ss, _, _, Eq.trans (upd_ne ngl.symm) hl2, upd_same, Eq.trans (upd_ne ngs.symm) hs2, ngs, h0s, hls, ?_⟩⟩⟩
        simp at hlg; omega
      · refine itF hz ?_
        exact ⟨_, rfl, .inl ⟨_, rfl, _, rfl, _, _, rfl, rfl, hn0, fin _ _ j2 ⟨g, sa, z / n :: r, ss, _, _, hl2, hg2, hs2, ngs, h0s, hls, by simpa using hlg⟩⟩⟩
    | nil =>
      refine itF (by simp) ?_
      have hp0 : (0 : Int) < ((ss.map V.int).length : Int) := by rw [List.length_map]; omega
      obtain ⟨v, hv⟩ : ∃ v, ss[(t % ((ss.map V.int).length : Int)).toNat]? = some v := by
        have h1 := Int.emod_nonneg t (Int.ne_of_gt hp0)
        have h2 := Int.emod_lt_of_pos t hp0
        rw [List.length_map] at h1 h2 ⊢
        exact ⟨_, List.getElem?_eq_getElem (by omega)⟩
      have hat : atI (ss.map V.int) (t % ((ss.map V.int).length : Int)) = some (V.int v) := atI_int (Int.emod_nonneg t (Int.ne_of_gt hp0)) (by rw [List.getElem?_map, hv]; rfl)
      refine ⟨_, rfl, l, _, 1, _, rfl, rfl, sqL (j1.p _ _ hl1), rfl, _, rfl, .inl ⟨_, rfl, _, rfl, l, _, 1, _, rfl, rfl, sqL (j1.p _ _ hl1), rfl, sa, _, rfl, .inl (sqL (j1.p _ _ hs1)), _, _, rfl, rfl, hp0, sa, _, _, _, rfl, rfl, sqL (j1.p _ _ hs1), hat, _, _, rfl, rfl, .inr ⟨by decide, by decide⟩,
        _, rfl, _, _, rfl, rfl, .inl ⟨by decide, by decide⟩, _, _, rfl, rfl, _, rfl, l, _, 3, _, rfl, rfl, sqL (j1.p _ _ hl1), rfl, _, _, rfl, rfl, .inr ⟨by decide, by decide⟩, _, _, rfl, rfl, ?_⟩⟩
      refine ⟨_, rfl, _, _, rfl, rfl, .inr ⟨by decide, by decide⟩, _, _, rfl, rfl, .inl ⟨_, rfl, _, _, rfl, rfl, (by show (0 : Int) < 2147483647; decide), ?_⟩⟩
      refine ⟨_, rfl, _, rfl, _, _, rfl, rfl, ⟨by decide, by decide⟩, _, _, rfl, rfl, _, _, rfl, rfl, mulSm (by omega) (by omega) (by omega) (by omega), .inl ⟨_, rfl, _, _, rfl, rfl, (by show (0 : Int) < 2147483629; decide), ?_⟩⟩
      refine ⟨_, rfl, _, rfl, _, _, rfl, rfl, ⟨by decide, by decide⟩, _, _, rfl, rfl, _, _, rfl, rfl, mulSm (by omega) (by omega) (by omega) (by omega), _, rfl, _, _, rfl, rfl, .inl ⟨_, rfl, _, _, rfl, rfl, (by show (0 : Int) < 2147483399; decide), ?_⟩⟩
      refine ⟨_, rfl, _, _, rfl, rfl, ⟨by decide, by decide⟩, .inl ⟨_, rfl, _, rfl, _, _, rfl, rfl, hn0, ?_⟩⟩
      exact k _ _ _ (Int.emod_nonneg _ (by omega)) (Int.emod_lt_of_pos _ hn0) j1 ⟨g, sa, [], ss, _, _, hl1, hg1, hs1, ngs, h0s, hls, by simp⟩
theorem sc_l_any : FnScope ["_law_pot_here", "_law_items"] ["_law_pot_here", "_law_items"] (defScope s_l_any) := ⟨rfl, rfl, rfl, by decide +kernel, rfl, by decide +kernel, by decide +kernel⟩
theorem ok_l_any (T : Txt K mg) {fd_l_draw : FuncData} (G_l_draw : Dn P w K mg base (L2.CX P w) 1 "_law_draw" ["_law_pot_here", "_law_many"] spDraw fd_l_draw) : ∃ fd, Dn P w K mg base (L2.CX P w) 2 "_law_any" ["_law_pot_here", "_law_items"] (spAny K) fd := by
  obtain ⟨fd, F⟩ := T.d_l_any
  refine ⟨fd, F.ok sc_l_any (fun vs H Q E h => ?_) (fun cdv A outer s H vs Q E hr h => ?_), T.g_l_any, F.kp, F.bindsN fun _ _ _ _ _ _ us hl => match us, hl with | [_, _], _ => rfl, Lv.fun_lk F⟩
  · obtain ⟨_, _, _, _, _, rfl, _⟩ := h
    rfl
  · have hu := hu_of hr
    have hr_l_draw : Room 1 _ := hr.mono (by decide)
    refine ⟨_, PSs.nox (pss_one (ps_ret (pe_ix ix_tup (pv 1) (pe_call G_l_draw.ok hr_l_draw rfl G_l_draw.mg G_l_draw.kp G_l_draw.b .nil passL (pa_cons (pv 0) (pa_cons (pe_callB call_len (by rfl) T.n_len PySem.boot_len (pa_cons (pv 1) pa_nil)) pa_nil))) (fun _ _ => rfl)))), ?_⟩
    obtain ⟨l, t, xs, G, P0, rfl, j, hP, ht, h0, hx, k⟩ := h
    have htH : SqT K H t xs := j.exG.t ht
    refine ⟨_, rfl, _, rfl, _, rfl, _, _, rfl, .inr ⟨_, htH, rfl⟩, l, _, G, P0, rfl, j, hP, by omega, ?_, fun r P' H' r0 r1 j' hP' => ?_⟩
    · exact Int.lt_of_lt_of_le (b := 2000) (by omega) (by decide)
    · obtain ⟨x, hx2⟩ : ∃ x, xs[r.toNat]? = some x := ⟨_, List.getElem?_eq_getElem (by omega)⟩
      exact ⟨t, xs, r, x, rfl, rfl, j'.exG.t ht, atI_int r0 hx2, k r.toNat x P' H' hx2 j' hP'⟩
end X

namespace X
open PySem PySem.Spec PyProof.Rows L2 Lv
variable {P : Program} {w : World} {K : PySem.W.Frag} {mg : Str → Option Value} {base : Heap}
/-- ascending ints, a ≤ .. ≤ b -/
def AscI (a b : Int) (ns : List Int) : Prop := (∀ x ∈ ns, a ≤ x ∧ x ≤ b) ∧ ns.Pairwise (· < ·)
theorem ascI_nodup {a b : Int} {ns : List Int} (h : AscI a b ns) : ns.Nodup := h.2.imp fun h e => by omega
theorem all_true {l : List Bool} (h : ∀ b ∈ l, b = true) : l.all id = true := List.all_eq_true.mpr fun b hb => h b hb
def spRising (K : PySem.W.Frag) : Sp := fun vs H Q _ => ∃ (p : Addr) (a b : Int) (ns : List Int) (G P : Hp), vs = [.ref p, .int a, .int b] ∧ Join G P H ∧ G p = some (.tup (ns.map V.int)) ∧ AscI a b ns ∧ ns.length ≤ 100000 ∧ ∀ G' H', Ex G G' → Join G' P H' → Q (.bl true) H'
theorem sc_is_rising : FnScope ["thing", "least", "most", "at", "item"] ["thing", "least", "most"] (defScope s_is_rising) := ⟨rfl, rfl, rfl, by decide +kernel, rfl, by decide +kernel, by decide +kernel⟩
theorem ok_is_rising (T : Txt K mg) {fd_is_within : FuncData} (G_is_within : Dn P w K mg base (L2.CX P w) 2 "is_within" ["thing", "least", "most"] (sp_is_within K) fd_is_within) : ∃ fd, Dn P w K mg base (L2.CX P w) 3 "is_rising" ["thing", "least", "most"] (spRising K) fd := by
  obtain ⟨fd, F⟩ := T.d_is_rising
  refine ⟨fd, F.ok sc_is_rising (fun vs H Q E h => ?_) (fun cdv A outer s H vs Q E hr h => ?_), T.g_is_rising, F.kp, F.bindsN fun _ _ _ _ _ _ us hl => match us, hl with | [_, _, _], _ => rfl, Lv.fun_lk F⟩
  · obtain ⟨_, _, _, _, _, _, rfl, _⟩ := h
    rfl
  · have hu := hu_of hr
    have hr_is_within : Room 2 _ := hr.mono (by decide)
    refine ⟨_, PSs.nox (pss_cons (ps_if (PW.pt (pw_or (pt_not (pt_val (pe_callB call_isi (by rfl) T.n_isinstance (by decide +kernel) (pa_cons (pv 0) (pa_cons (pe_bltn (v := .ty "tuple") (by rfl) T.n_tuple (by decide +kernel) rfl) pa_nil))))) (pw_or1 (pt_not (pt_val (pe_callB (cr_all rfl) (by rfl) T.n_all (by decide +kernel) (pa_cons (pe_lc (own := [("item", 4)]) (g := gName 4) (tt := tYes) rfl sc_is_rising.nd (pi_tup (pv 0)) (blkOk_by (N := ["thing", "least", "most", "at", "item"]) (sc := defScope s_is_rising) (by decide +kernel)) (fun _ _ _ _ _ => (pg_name (i := 4) sc_is_rising.nd rfl (Or.inl rfl) (hf := Or.inr rfl))) (fun _ _ _ _ _ => pts_nil) (fun _ _ _ _ _ => (pe_call G_is_within.ok hr_is_within rfl G_is_within.mg G_is_within.kp G_is_within.b .nil passL (pa_cons (pv 4) (pa_cons (pv 1) (pa_cons (pv 2) pa_nil)))))) pa_nil))))))) (pss_one (ps_ret pe_bl)) pss_nil)
      (pss_one (ps_ret (pe_callB (cr_all rfl) (by rfl) T.n_all (by decide +kernel) (pa_cons (pe_lc (own := [("at", 3)]) (g := gName 3) (tt := tYes) rfl sc_is_rising.nd (Lv.pi_rangeW (by rfl) T.n_range (pa_cons pe_int (pa_cons (pe_callB call_len (by rfl) T.n_len PySem.boot_len (pa_cons (pv 0) pa_nil)) pa_nil))) (blkOk_by (N := ["thing", "least", "most", "at", "item"]) (sc := defScope s_is_rising) (by decide +kernel)) (fun _ _ _ _ _ => (pg_name (i := 3) sc_is_rising.nd rfl (Or.inl rfl) (hf := Or.inr rfl))) (fun _ _ _ _ _ => pts_nil) (fun _ _ _ _ _ => (pe_cmpR op_lt (pe_ix (ix_tupK (K := K) rfl) (pv 0) (pe_op op_sub (pv 3) pe_int) (fun _ _ => rfl)) (pe_ix (ix_tupK (K := K) rfl) (pv 0) (pv 3) (fun _ _ => rfl)) (nomark _)))) pa_nil))))), ?_⟩
    obtain ⟨p, a, b, ns, G, P0, rfl, j, hp, hA, hl, q⟩ := h
    have hlv : (ns.map V.int).length = ns.length := by simp
    walk_at "w"
    refine isi_tup j hp ?_
    walk_at "w"
    refine aLcT.go (fun P' => P' = P0) (fun i us G' => us = ((ns.take i).map fun _ => true).map V.bl) j rfl hp (fun _ _ => rfl) (fun i us G2 D _ _ hd h => h) (fun i us G2 h => ?_) ?_ ?_
    · rw [h, List.length_map, List.length_map, List.length_take]; omega
    · intro i x us G' P' H' R R0 hx e' hI hP j' kR kR0
      subst hP
      obtain ⟨k, hk, rfl⟩ := int_at hx
      have hkN := hA.1 k (List.mem_of_getElem? hk)
      walk_at "w"
      refine ⟨rfl, ?_⟩
      walk_at "w"
      refine ⟨k, _, _, rfl, ?_⟩
      rw [decide_eq_true ⟨hkN.1, hkN.2⟩]
      refine kR _ _ _ H' (Ex.refl _) rfl j' ?_
      rw [hI, take_more hk, List.map_append, List.map_append]; rfl
    intro p1 us G1 P' H1 hp1 e1 hd1 hI hP j1
    subst hP
    subst hI
    replace hp := e1 _ _ hp
    walk_at "w"
    refine ⟨p1, _, rfl, sqL (j1.g _ _ hd1), ?_⟩
    rw [all_true fun b hb => by obtain ⟨_, _, rfl⟩ := List.mem_map.mp hb; rfl]
    walk_at "w"
    refine aLcR2.go (n := ns.length - 1) (fun Q' => Q' = P') (fun i us G' => us = ((List.range i).map fun _ => true).map V.bl ∧ i ≤ 100000) j1 rfl (by rw [hlv]; omega) (by rw [hlv]; omega) (fun _ _ => ⟨rfl, by decide⟩) (fun i us G2 D _ _ hd h => h) (fun i us G2 h => ?_) ?_ ?_
    · rw [h.1, List.length_map, List.length_map, List.length_range]; omega
    · intro i us G' P' H' R R0 hi e' hI hP j' kR kR0
      subst hP
      obtain ⟨x, hx⟩ : ∃ x, ns[i]? = some x := ⟨_, List.getElem?_eq_getElem (by omega)⟩
      obtain ⟨y, hy⟩ : ∃ y, ns[i + 1]? = some y := ⟨_, List.getElem?_eq_getElem (by omega)⟩
      have hxy : x < y := by
        obtain ⟨a1, b1⟩ := List.getElem?_eq_some_iff.mp hx
        obtain ⟨a2, b2⟩ := List.getElem?_eq_some_iff.mp hy
        have := List.pairwise_iff_getElem.mp hA.2 i (i + 1) a1 a2 (by omega)
        omega
      replace hp := e' _ _ hp
      walk_at "w"
      refine ⟨rfl, ?_⟩
      walk_at "w"
      rw [show (1 : Int) + (i : Int) - 1 = (i : Int) by omega]
      refine w_ixT (j'.g _ _ hp) (atI_nat (v := .int x) (by rw [List.getElem?_map, hx]; rfl)) ?_
      walk_at "w"
      rw [show (1 : Int) + (i : Int) = ((i + 1 : Nat) : Int) by omega]
      refine w_ixT (j'.g _ _ hp) (atI_nat (v := .int y) (by rw [List.getElem?_map, hy]; rfl)) ?_
      walk_at "w"
      rw [decide_eq_true hxy]
      refine kR _ _ _ H' (Ex.refl _) rfl j' ⟨?_, by omega⟩
      rw [hI.1, List.range_succ, List.map_append, List.map_append]; rfl
    intro p2 us G2 P'' H2 hp2 e2 hd2 hI hP j2
    subst hP
    replace hI := hI.1
    subst hI
    walk_at "w"
    refine ⟨p2, _, rfl, sqL (j2.g _ _ hd2), ?_⟩
    rw [all_true fun b hb => by obtain ⟨_, _, rfl⟩ := List.mem_map.mp hb; rfl]
    exact q G2 H2 (e1.trans e2) j2
def spKeyed (K : PySem.W.Frag) : Sp := fun vs H Q _ => ∃ (p : Addr) (ns : List Int) (G P : Hp), vs = [.ref p] ∧ Join G P H ∧ G p = some (.tup (ns.map V.int)) ∧ ns.Nodup ∧ ns.length ≤ 100000 ∧ ∀ d G' H', H d = none → Ex G G' → Join G' P H' → G' d = some (.dK (keyP ns)) → Q (.ref d) H'
theorem sc_keyed : FnScope ["numbers", "number"] ["numbers"] (defScope s_keyed) := ⟨rfl, rfl, rfl, by decide +kernel, rfl, by decide +kernel, by decide +kernel⟩
theorem ok_keyed (T : Txt K mg) : ∃ fd, Dn P w K mg base (L2.CX P w) 1 "keyed" ["numbers"] (spKeyed K) fd := by
  obtain ⟨fd, F⟩ := T.d_keyed
  refine ⟨fd, F.ok sc_keyed (fun vs H Q E h => ?_) (fun cdv A outer s H vs Q E hr h => ?_), T.g_keyed, F.kp, F.bindsN fun _ _ _ _ _ _ us hl => match us, hl with | [_], _ => rfl, Lv.fun_lk F⟩
  · obtain ⟨_, _, _, _, rfl, _⟩ := h
    rfl
  · have hu := hu_of hr
    refine ⟨_, PSs.nox (pss_one (ps_ret (pe_dc (own := [("number", 1)]) (g := gName 1) (tt := tYes) rfl sc_keyed.nd (Lv.pi_seq (pv 0)) (blkOk_by (N := ["numbers", "number"]) (sc := defScope s_keyed) (by decide +kernel)) (fun _ _ _ _ _ => (pg_name (i := 1) sc_keyed.nd rfl (Or.inl rfl) (hf := Or.inr rfl))) (fun _ _ _ _ _ => pts_nil) (fun _ _ _ _ _ => (pv 1)) (fun _ _ _ _ _ => pe_bl)))), ?_⟩
    obtain ⟨p, ns, G, P0, rfl, j, hp, hN, hl, q⟩ := h
    walk_at "w"
    refine aDcS.go j (.inr hp) hl (fun _ => rfl) (fun n H' S h => ?_) (fun x H' S h => ?_) fun d G' H' hd e' j' hd' => ?_
    · walk_at "w"
      exact h
    · walk_at "w"
      exact h
    · rw [ddI_same hN] at hd'
      exact q d G' H' hd e' j' hd'
def spKeyX (K : PySem.W.Frag) : Sp := fun vs H Q _ => ∃ (p : Addr) (ns : List Int) (G P : Hp), vs = [.ref p] ∧ Join G P H ∧ Sq G p (ns.map V.int) ∧ ns.length ≤ 100000 ∧ ∀ d G' H', H d = none → Ex G G' → Join G' P H' → G' d = some (.dK (keyP (ddI [] ns))) → Q (.ref d) H'
theorem okX_keyed (T : Txt K mg) : ∃ fd, Dn P w K mg base (L2.CX P w) 1 "keyed" ["numbers"] (spKeyX K) fd := by
  obtain ⟨fd, F⟩ := T.d_keyed
  refine ⟨fd, F.ok sc_keyed (fun vs H Q E h => ?_) (fun cdv A outer s H vs Q E hr h => ?_), T.g_keyed, F.kp, F.bindsN fun _ _ _ _ _ _ us hl => match us, hl with | [_], _ => rfl, Lv.fun_lk F⟩
  · obtain ⟨_, _, _, _, rfl, _⟩ := h
    rfl
  · have hu := hu_of hr
    refine ⟨_, PSs.nox (pss_one (ps_ret (pe_dc (own := [("number", 1)]) (g := gName 1) (tt := tYes) rfl sc_keyed.nd (Lv.pi_seq (pv 0)) (blkOk_by (N := ["numbers", "number"]) (sc := defScope s_keyed) (by decide +kernel)) (fun _ _ _ _ _ => (pg_name (i := 1) sc_keyed.nd rfl (Or.inl rfl) (hf := Or.inr rfl))) (fun _ _ _ _ _ => pts_nil) (fun _ _ _ _ _ => (pv 1)) (fun _ _ _ _ _ => pe_bl)))), ?_⟩
    obtain ⟨p, ns, G, P0, rfl, j, hp, hl, q⟩ := h
    walk_at "w"
    refine aDcS.go j hp hl (fun _ => rfl) (fun n H' S h => ?_) (fun x H' S h => ?_) fun d G' H' hd e' j' hd' => ?_
    · walk_at "w"
      exact h
    · walk_at "w"
      exact h
    · exact q d G' H' hd e' j' hd'
/-- rests go round by part -/
def roundB (ns : List Int) (step part : Int) : Bool := ns.all fun r => decide ((r + part) % step ∈ ns)
def spRound (K : PySem.W.Frag) : Sp := fun vs H Q _ => ∃ (p : Addr) (step part : Int) (ns : List Int) (G P : Hp), vs = [.ref p, .int step, .int part] ∧ Join G P H ∧ G p = some (.tup (ns.map V.int)) ∧ ns.Nodup ∧ ns.length ≤ 100000 ∧ 0 < step ∧ ∀ G' H', Ex G G' → Join G' P H' → Q (.bl (roundB ns step part)) H'
theorem sc_is_round : FnScope ["rests", "step", "part", "there", "rest"] ["rests", "step", "part"] (defScope s_is_round) := ⟨rfl, rfl, rfl, by decide +kernel, rfl, by decide +kernel, by decide +kernel⟩
theorem ok_is_round (T : Txt K mg) {fd_keyed : FuncData} (G_keyed : Dn P w K mg base (L2.CX P w) 1 "keyed" ["numbers"] (spKeyed K) fd_keyed) : ∃ fd, Dn P w K mg base (L2.CX P w) 2 "is_round" ["rests", "step", "part"] (spRound K) fd := by
  obtain ⟨fd, F⟩ := T.d_is_round
  refine ⟨fd, F.ok sc_is_round (fun vs H Q E h => ?_) (fun cdv A outer s H vs Q E hr h => ?_), T.g_is_round, F.kp, F.bindsN fun _ _ _ _ _ _ us hl => match us, hl with | [_, _, _], _ => rfl, Lv.fun_lk F⟩
  · obtain ⟨_, _, _, _, _, _, rfl, _⟩ := h
    rfl
  · have hu := hu_of hr
    have hr_keyed : Room 1 _ := hr.mono (by decide)
    refine ⟨_, PSs.nox (pss_cons (ps_set (i := 3) sc_is_round.nd rfl (Or.inr rfl) (pe_call G_keyed.ok hr_keyed rfl G_keyed.mg G_keyed.kp G_keyed.b .nil passL (pa_cons (pv 0) pa_nil)))
      (pss_one (ps_ret (pe_callB (cr_all rfl) (by rfl) T.n_all (by decide +kernel) (pa_cons (pe_lc (own := [("rest", 4)]) (g := gName 4) (tt := tYes) rfl sc_is_round.nd (pi_tup (pv 0)) (blkOk_by (N := ["rests", "step", "part", "there", "rest"]) (sc := defScope s_is_round) (by decide +kernel)) (fun _ _ _ _ _ => (pg_name (i := 4) sc_is_round.nd rfl (Or.inl rfl) (hf := Or.inr rfl))) (fun _ _ _ _ _ => pts_nil) (fun _ _ _ _ _ => (pe_cmp (pc_din hu (pe_op op_mod (pe_op op_add (pv 4) (pv 2)) (pv 1)) (pv 3)) rfl))) pa_nil))))), ?_⟩
    obtain ⟨p, step, part, ns, G, P0, rfl, j, hp, hN, hl, h0, q⟩ := h
    walk_at "w"
    refine ⟨p, ns, G, P0, rfl, j, hp, hN, hl, fun d G1 H1 hd e1 j1 hD => ?_⟩
    replace hp := e1 _ _ hp
    walk_at "w"
    refine aLcT.go (fun P' => P' = P0) (fun i us G' => us = ((ns.take i).map fun r => decide ((r + part) % step ∈ ns)).map V.bl) j1 rfl hp (fun _ _ => rfl) (fun i us G2 D _ _ hd h => h) (fun i us G2 h => ?_) ?_ ?_
    · rw [h, List.length_map, List.length_map, List.length_take]; omega
    · intro i x us G' P' H' R R0 hx e' hI hP j' kR kR0
      subst hP
      obtain ⟨k, hk, rfl⟩ := int_at hx
      replace hD := e' _ _ hD
      walk_at "w"
      refine ⟨rfl, ?_⟩
      walk_at "w"
      refine w_rI h0 ?_
      walk_at "w"
      refine din_go j' hD ?_
      refine kR _ _ _ H' (Ex.refl _) rfl j' ?_
      rw [hI, take_more hk, List.map_append, List.map_append]; rfl
    intro p1 us G2 P' H2 hp1 e2 hd1 hI hP j2
    subst hP
    rw [List.length_map, List.take_length] at hI
    subst hI
    walk_at "w"
    refine ⟨p1, _, rfl, sqL (j2.g _ _ hd1), ?_⟩
    have e3 : ((ns.map fun r => decide ((r + part) % step ∈ ns)).all id) = roundB ns step part := by
      unfold roundB; rw [List.all_map]; rfl
    rw [e3]
    exact q G2 H2 (e1.trans e2) j2
/-- p is a step of both -/
def stepOk (st : Int) (be ab : List Int) (p : Int) : Bool := decide (st % p = 0) && roundB be st p && roundB ab st p
/-- the least step: none below it is one -/
def IsStep (st : Int) (be ab : List Int) (p : Int) : Prop := 1 ≤ p ∧ p ≤ st ∧ (p = st ∨ stepOk st be ab p = true) ∧ ∀ q, 1 ≤ q → q < p → stepOk st be ab q = false
def spLStep (K : PySem.W.Frag) : Sp := fun vs H Q _ => ∃ (tb ta : Addr) (st : Int) (be ab : List Int) (G P : Hp), vs = [.int st, .ref tb, .ref ta] ∧ Join G P H ∧ G tb = some (.tup (be.map V.int)) ∧ G ta = some (.tup (ab.map V.int)) ∧ be.Nodup ∧ ab.Nodup ∧ be.length ≤ 100000 ∧ ab.length ≤ 100000 ∧ 1 ≤ st ∧ st ≤ 4000 ∧
  ∀ p G' H', IsStep st be ab p → Ex G G' → Join G' P H' → Q (.int p) H'
theorem sc_least_step : FnScope ["step", "below", "above", "part"] ["step", "below", "above"] (defScope s_least_step) := ⟨rfl, rfl, rfl, by decide +kernel, rfl, by decide +kernel, by decide +kernel⟩
theorem ok_least_step (T : Txt K mg) {fd_is_round : FuncData} (G_is_round : Dn P w K mg base (L2.CX P w) 2 "is_round" ["rests", "step", "part"] (spRound K) fd_is_round) : ∃ fd, Dn P w K mg base (L2.CX P w) 3 "least_step" ["step", "below", "above"] (spLStep K) fd := by
  obtain ⟨fd, F⟩ := T.d_least_step
  refine ⟨fd, F.ok sc_least_step (fun vs H Q E h => ?_) (fun cdv A outer s H vs Q E hr h => ?_), T.g_least_step, F.kp, F.bindsN fun _ _ _ _ _ _ us hl => match us, hl with | [_, _, _], _ => rfl, Lv.fun_lk F⟩
  · obtain ⟨_, _, _, _, _, _, _, rfl, _⟩ := h
    rfl
  · have hu := hu_of hr
    have hr_is_round : Room 2 _ := hr.mono (by decide)
    refine ⟨_, PSs.nox (pss_cons (ps_for PassesOwn.never rfl (Lv.pi_rangeW (by rfl) T.n_range (pa_cons pe_int (pa_cons (pv 0) pa_nil))) (pg_name (i := 3) sc_least_step.nd rfl (Or.inl rfl)) (pss_one (ps_if (PW.pt (pw_and (pt_cmpR op_eq (pe_op op_mod (pv 0) (pv 3)) pe_int (nomark _)) (pw_and (pt_val (pe_call G_is_round.ok hr_is_round rfl G_is_round.mg G_is_round.kp G_is_round.b .nil passL (pa_cons (pv 1) (pa_cons (pv 0) (pa_cons (pv 3) pa_nil))))) (pw_and1 (pt_val (pe_call G_is_round.ok hr_is_round rfl G_is_round.mg G_is_round.kp G_is_round.b .nil passL (pa_cons (pv 2) (pa_cons (pv 0) (pa_cons (pv 3) pa_nil))))))))) (pss_one (ps_ret (pv 3))) pss_nil)))
      (pss_one (ps_ret (pv 0)))), ?_⟩
    obtain ⟨tb, ta, st, be, ab, G, P0, rfl, j, hb, ha, nb, na, lb, la, s1, s2, q⟩ := h
    walk_at "w"
    refine aForR2.go (n := (st - 1).toNat) rfl (by omega) (fun i G' P' σ' => P' = P0 ∧ Ex G G' ∧ (∀ x, 1 ≤ x → x < 1 + (i : Int) → stepOk st be ab x = false) ∧ ∃ s3 : Option V, σ' = [some (.int st), some (.ref tb), some (.ref ta), s3]) j ⟨rfl, Ex.refl _, fun x h1 h2 => by omega, none, rfl⟩ ?_ ?_
    · rintro i G' P' H' σ' hi j' ⟨rfl, e', hno, s3, rfl⟩
      have hb' := e' _ _ hb
      have ha' := e' _ _ ha
      have hnext : stepOk st be ab (1 + (i : Int)) = false → ∀ x, 1 ≤ x → x < 1 + ((i + 1 : Nat) : Int) → stepOk st be ab x = false := fun h x h1 h2 => by
        by_cases e : x = 1 + (i : Int)
        · rw [e]; exact h
        · exact hno x h1 (by omega)
      walk_at "w"
      refine w_rI (by omega) ?_
      walk_at "w"
      by_cases h1 : st % (1 + (i : Int)) = 0
      · refine itT (congrArg V.int h1) ?_
        walk_at "w"
        refine ⟨tb, st, 1 + (i : Int), be, G', P', rfl, j', hb', nb, lb, by omega, fun G1 H1 e1 j1 => ?_⟩
        replace ha' := e1 _ _ ha'
        walk_at "w"
        cases h2 : roundB be st (1 + (i : Int)) with
        | false =>
          walk_at "w"
          exact ⟨G1, P', j1, rfl, e'.trans e1, hnext (by unfold stepOk; rw [h2]; simp), _, rfl⟩
        | true =>
          walk_at "w"
          refine ⟨ta, st, 1 + (i : Int), ab, G1, P', rfl, j1, ha', na, la, by omega, fun G2 H2 e2 j2 => ?_⟩
          walk_at "w"
          cases h3 : roundB ab st (1 + (i : Int)) with
          | false =>
            walk_at "w"
            exact ⟨G2, P', j2, rfl, (e'.trans e1).trans e2, hnext (by unfold stepOk; rw [h3]; simp), _, rfl⟩
          | true =>
            walk_at "w"
            exact q _ G2 H2 ⟨by omega, by omega, .inr (by unfold stepOk; rw [h2, h3, decide_eq_true h1]; rfl), hno⟩ ((e'.trans e1).trans e2) j2
      · refine itF (fun h => h1 (V.int.inj h)) ?_
        walk_at "w"
        exact ⟨G', P', j', rfl, e', hnext (by unfold stepOk; rw [decide_eq_false h1]; rfl), _, rfl⟩
    · rintro G' P' H' σ' j' ⟨rfl, e', hno, s3, rfl⟩
      walk_at "w"
      exact q st G' H' ⟨s1, Int.le_refl _, .inl rfl, fun x h1 h2 => hno x h1 (by omega)⟩ e' j'
/-- in a lot -/
def hasL (lo hi : Int) (ms : List Int) (st : Int) (be ab : List Int) (x : Int) : Bool := if x < lo then decide (x % st ∈ be) else if x < hi then decide (x ∈ ms) else decide (x % st ∈ ab)
def spLHigh (K : PySem.W.Frag) : Sp := fun vs H Q _ => ∃ (lo hi st : Int) (tm db da : Addr) (ms be ab : List Int) (G P : Hp), vs = [.int lo, .int hi, .ref tm, .int st, .ref db, .ref da] ∧ Join G P H ∧ G tm = some (.tup (ms.map V.int)) ∧ G db = some (.dK (keyP be)) ∧ G da = some (.dK (keyP ab)) ∧ AscI lo (hi - 1) ms ∧ ms.length ≤ 100000 ∧
  lo ≤ hi ∧ hi ≤ lo + 100001 ∧ 1 ≤ st ∧ st ≤ 4000 ∧
  (∀ t G' H', t ≤ hi → (∀ y, t ≤ y → hasL lo hi ms st be ab y = decide (y % st ∈ ab)) → hasL lo hi ms st be ab (t - 1) ≠ decide ((t - 1) % st ∈ ab) → Ex G G' → Join G' P H' → Q (.int t) H') ∧
  (∀ G' H', (∀ y, hasL lo hi ms st be ab y = decide (y % st ∈ ab)) → Ex G G' → Join G' P H' → Q .non H')
theorem hasL_hi {lo hi : Int} {ms : List Int} {st : Int} {be ab : List Int} {x : Int} (h0 : lo ≤ hi) (h : hi ≤ x) : hasL lo hi ms st be ab x = decide (x % st ∈ ab) := by
  unfold hasL; rw [if_neg (by omega), if_neg (by omega)]
theorem hasL_mid {lo hi : Int} {ms : List Int} {st : Int} {be ab : List Int} {x : Int} (h0 : lo ≤ x) (h : x < hi) : hasL lo hi ms st be ab x = decide (x ∈ ms) := by
  unfold hasL; rw [if_neg (by omega), if_pos h]
theorem hasL_lo {lo hi : Int} {ms : List Int} {st : Int} {be ab : List Int} {x : Int} (h0 : x < lo) : hasL lo hi ms st be ab x = decide (x % st ∈ be) := by
  unfold hasL; rw [if_pos h0]
theorem last_of {ms : List Int} (h : ms ≠ []) : ∃ m z, ms.length = m + 1 ∧ ms[m]? = some z := by
  cases ms with
  | nil => exact absurd rfl h
  | cons a r => exact ⟨r.length, (a :: r)[r.length]'(by simp), by simp, List.getElem?_eq_getElem (by simp)⟩
theorem le_last {a b : Int} {ms : List Int} {m : Nat} {z x : Int} (hA : AscI a b ms) (hl : ms.length = m + 1) (hz : ms[m]? = some z) (hx : x ∈ ms) : x ≤ z := by
  obtain ⟨i, hi, rfl⟩ := List.mem_iff_getElem.mp hx
  obtain ⟨h1, h2⟩ := List.getElem?_eq_some_iff.mp hz
  by_cases e : i = m
  · subst e; omega
  · have := List.pairwise_iff_getElem.mp hA.2 i m hi h1 (by omega)
    omega
theorem sc_least_high : FnScope ["low", "high", "members", "step", "below", "above", "there", "number", "turn"] ["low", "high", "members", "step", "below", "above"] (defScope s_least_high) := ⟨rfl, rfl, rfl, by decide +kernel, rfl, by decide +kernel, by decide +kernel⟩
theorem ok_least_high (T : Txt K mg) {fd_keyed : FuncData} (G_keyed : Dn P w K mg base (L2.CX P w) 1 "keyed" ["numbers"] (spKeyed K) fd_keyed) : ∃ fd, Dn P w K mg base (L2.CX P w) 2 "least_high" ["low", "high", "members", "step", "below", "above"] (spLHigh K) fd := by
  obtain ⟨fd, F⟩ := T.d_least_high
  refine ⟨fd, F.ok sc_least_high (fun vs H Q E h => ?_) (fun cdv A outer s H vs Q E hr h => ?_), T.g_least_high, F.kp, F.bindsN fun _ _ _ _ _ _ us hl => match us, hl with | [_, _, _, _, _, _], _ => rfl, Lv.fun_lk F⟩
  · obtain ⟨_, _, _, _, _, _, _, _, _, _, _, rfl, _⟩ := h
    rfl
  · have hu := hu_of hr
    have hr_keyed : Room 1 _ := hr.mono (by decide)
    refine ⟨_, PSs.nox (pss_cons (ps_set (i := 6) sc_least_high.nd rfl (Or.inl rfl) (pe_call G_keyed.ok hr_keyed rfl G_keyed.mg G_keyed.kp G_keyed.b .nil passL (pa_cons (pv 2) pa_nil)))
      (pss_cons (ps_set (i := 7) sc_least_high.nd rfl (Or.inl rfl) (pe_op op_sub (pv 1) pe_int))
      (Evl.pss_cut (ps_if (pt_cmpR op_eq (pe_callB call_lenD (by rfl) T.n_len PySem.boot_len (pa_cons (pv 5) pa_nil)) pe_int (nomark _)) (pss_one (ps_set (i := 7) sc_least_high.nd rfl (Or.inl rfl) (pe_ifExp (pt_cmpR op_gt (pe_callB call_len (by rfl) T.n_len PySem.boot_len (pa_cons (pv 2) pa_nil)) pe_int (nomark _)) (pe_ix ix_tup (pv 2) (pe_un un_neg pe_int) (fun _ _ => rfl)) (pe_op op_sub (pv 0) pe_int)))) pss_nil)
      (pss_cons (ps_while PassesOwn.never (PW.pt (pw_and (pt_cmpR op_ge (pv 7) (pv 0) (nomark _)) (pw_and1 (pt_cmpR op_eq (pe_cmp (pc_din hu (pv 7) (pv 6)) rfl) (pe_cmp (pc_din hu (pe_op op_mod (pv 7) (pv 3)) (pv 5)) rfl) (nomark _))))) (pss_one (ps_aug (i := 7) sc_least_high.nd rfl (.inl rfl) pe_int ip_sub)))
      (pss_cons (ps_if (pt_cmpR op_ge (pv 7) (pv 0) (nomark _)) (pss_one (ps_ret (pe_op op_add (pv 7) pe_int))) pss_nil)
      (pss_cons (ps_for PassesOwn.never rfl (pi_range1 (by rfl) T.n_range (pa_cons (pv 3) pa_nil)) (pg_name (i := 8) sc_least_high.nd rfl (Or.inl rfl)) (pss_cons (ps_if (pt_cmpR op_ne (pe_cmp (pc_din hu (pe_op op_mod (pv 7) (pv 3)) (pv 4)) rfl) (pe_cmp (pc_din hu (pe_op op_mod (pv 7) (pv 3)) (pv 5)) rfl) (nomark _)) (pss_one (ps_ret (pe_op op_add (pv 7) pe_int))) pss_nil)
      (pss_one (ps_aug (i := 7) sc_least_high.nd rfl (.inl rfl) pe_int ip_sub))))
      (pss_one (ps_ret pe_non)))))))), ?_⟩
    obtain ⟨lo, hi, st, tm, db, da, ms, be, ab, G, P0, rfl, j, hm, hb, ha, hA, lm, h1, h2, s1, s2, q1, q0⟩ := h
    walk_at "w"
    refine ⟨tm, ms, G, P0, rfl, j, hm, (ascI_nodup hA), lm, fun d G1 H1 hd e1 j1 hD => ?_⟩
    replace hm := e1 _ _ hm; replace hb := e1 _ _ hb; replace ha := e1 _ _ ha
    walk_at "w"
    refine ⟨fun σ' H' => ∃ n : Int, lo - 1 ≤ n ∧ n ≤ hi - 1 ∧ (∀ y, n < y → hasL lo hi ms st be ab y = decide (y % st ∈ ab)) ∧ σ' = [some (.int lo), some (.int hi), some (.ref tm), some (.int st), some (.ref db), some (.ref da), some (.ref d), some (.int n), none] ∧ Join G1 P0 H', ?_, ?_⟩
    · walk_at "w"
      refine rLenD.go j1 ha ?_
      walk_at "w"
      by_cases hab : ab = []
      · subst hab
        refine itT rfl ?_
        walk_at "w"
        refine w_ifE ?_
        walk_at "w"
        by_cases hms : ms = []
        · subst hms
          refine itF (by simp) ?_
          walk_at "w"
          exact ⟨lo - 1, by omega, by omega, fun y hy => by
            by_cases e : y < hi
            · rw [hasL_mid (by omega) e]; simp
            · rw [hasL_hi h1 (by omega)], rfl, j1⟩
        · obtain ⟨m, z, hl, hz⟩ := last_of hms
          have hzb := hA.1 z (List.mem_of_getElem? hz)
          refine itT (by simp; omega) ?_
          walk_at "w"
          refine w_ixT (j1.g _ _ hm) (atI_end1 (n := m) (v := .int z) (by simp [hl]) (by rw [List.getElem?_map, hz]; rfl)) ?_
          walk_at "w"
          exact ⟨z, by omega, by omega, fun y hy => by
            by_cases e : y < hi
            · rw [hasL_mid (by omega) e, decide_eq_false (fun h => by have := le_last hA hl hz h; omega)]; simp
            · rw [hasL_hi h1 (by omega)], rfl, j1⟩
      · refine itF (fun h => hab (by have := V.int.inj h; simp at this; exact this)) ?_
        walk_at "w"
        exact ⟨hi - 1, by omega, by omega, fun y hy => hasL_hi h1 (by omega), rfl, j1⟩
    rintro σ' H' ⟨n, n1, n2, hn, rfl, j2⟩
    walk_at "w"
    refine while_go (fun m G' P' σ' => P' = P0 ∧ G' = G1 ∧ ∃ n : Int, m = (n - lo + 1).toNat ∧ lo - 1 ≤ n ∧ n ≤ hi - 1 ∧ (∀ y, n < y → hasL lo hi ms st be ab y = decide (y % st ∈ ab)) ∧ σ' = [some (.int lo), some (.int hi), some (.ref tm), some (.int st), some (.ref db), some (.ref da), some (.ref d), some (.int n), none]) j2 _ ⟨rfl, rfl, n, rfl, n1, n2, hn, rfl⟩ ?_
    clear n1 n2 hn n j2
    rintro m G' P' H' σ' j2 ⟨rfl, rfl, n, rfl, n1, n2, hn, rfl⟩
    walk_at "w"
    by_cases hlo : lo ≤ n
    · refine itT hlo ?_
      walk_at "w"
      refine din_go j2 hD ?_
      walk_at "w"
      refine w_rI (by omega) ?_
      walk_at "w"
      refine din_go j2 ha ?_
      walk_at "w"
      by_cases hc : decide (n ∈ ms) = decide (n % st ∈ ab)
      · refine itT (congrArg V.bl hc) ?_
        walk_at "w"
        refine ⟨(n - 1 - lo + 1).toNat, _, _, by omega, j2, rfl, rfl, n - 1, rfl, by omega, by omega, fun y hy => ?_, rfl⟩
        by_cases e : y = n
        · subst e; rw [hasL_mid hlo (by omega), hc]
        · exact hn y (by omega)
      · refine itF (fun h => hc (V.bl.inj h)) ?_
        walk_at "w"
        refine itT hlo ?_
        walk_at "w"
        exact q1 _ _ _ (by omega) (fun y hy => hn y (by omega)) (by rw [show n + 1 - 1 = n by omega, hasL_mid hlo (by omega)]; exact hc) e1 j2
    · refine itF hlo ?_
      walk_at "w"
      refine itF hlo ?_
      have e : n = lo - 1 := by omega
      subst e
      clear hlo n1 n2
      walk_at "w"
      refine aForR.go (n := st.toNat) (by omega) (by omega) (fun i G2 P2 σ' => P2 = P' ∧ G2 = G' ∧ (∀ y, lo - 1 - (i : Int) < y → hasL lo hi ms st be ab y = decide (y % st ∈ ab)) ∧ ∃ s8 : Option V, σ' = [some (.int lo), some (.int hi), some (.ref tm), some (.int st), some (.ref db), some (.ref da), some (.ref d), some (.int (lo - 1 - (i : Int))), s8]) j2 ⟨rfl, rfl, fun y hy => hn y (by omega), none, by simp⟩ ?_ ?_
      · clear hn
        rintro i G2 P2 H2 σ' hi j3 ⟨rfl, rfl, hn, s8, rfl⟩
        walk_at "w"
        refine w_rI (by omega) ?_
        walk_at "w"
        refine din_go j3 hb ?_
        walk_at "w"
        refine w_rI (by omega) ?_
        walk_at "w"
        refine din_go j3 ha ?_
        walk_at "w"
        by_cases hc : decide ((lo - 1 - (i : Int)) % st ∈ be) = decide ((lo - 1 - (i : Int)) % st ∈ ab)
        · refine itNF (congrArg V.bl hc) ?_
          walk_at "w"
          refine ⟨_, _, j3, rfl, rfl, fun y hy => ?_, _, by rw [show lo - 1 - ((i + 1 : Nat) : Int) = lo - 1 - (i : Int) - 1 by omega]; rfl⟩
          by_cases e : y = lo - 1 - (i : Int)
          · subst e; rw [hasL_lo (by omega), hc]
          · exact hn y (by omega)
        · refine itNT (fun h => hc (V.bl.inj h)) ?_
          walk_at "w"
          exact q1 _ _ _ (by omega) (fun y hy => hn y (by omega)) (by rw [show lo - 1 - (i : Int) + 1 - 1 = lo - 1 - (i : Int) by omega, hasL_lo (by omega)]; exact hc) e1 j3
      · clear hn
        rintro G2 P2 H2 σ' j3 ⟨rfl, rfl, hn, s8, rfl⟩
        walk_at "w"
        refine q0 _ _ (fun y => ?_) e1 j3
        by_cases e : lo - 1 - st < y
        · exact hn y (by omega)
        · have r0 := Int.emod_nonneg (lo - 1 - y) (show st ≠ 0 by omega)
          have r1 := Int.emod_lt_of_pos (lo - 1 - y) (show 0 < st by omega)
          have r2 := Int.emod_add_mul_ediv (lo - 1 - y) st
          have r3 : (lo - 1 - (lo - 1 - y) % st) = y + st * ((lo - 1 - y) / st) := by omega
          have r4 := hn (lo - 1 - (lo - 1 - y) % st) (by omega)
          rw [hasL_lo (by omega), r3, Int.add_mul_emod_self_left] at r4
          rw [hasL_lo (by omega), r4]
def spGLow (K : PySem.W.Frag) : Sp := fun vs H Q _ => ∃ (lo hi st : Int) (tm db : Addr) (ms be ab : List Int) (t : Int) (G P : Hp), vs = [.int lo, .int t, .ref tm, .int st, .ref db] ∧ Join G P H ∧ G tm = some (.tup (ms.map V.int)) ∧ G db = some (.dK (keyP be)) ∧ AscI lo (hi - 1) ms ∧ ms.length ≤ 100000 ∧
  lo ≤ hi ∧ t ≤ hi ∧ 1 ≤ st ∧
  (∀ l G' H', l ≤ t → (∀ y, y < l → hasL lo hi ms st be ab y = decide (y % st ∈ be)) → (l = t ∨ (lo ≤ l ∧ hasL lo hi ms st be ab l ≠ decide (l % st ∈ be))) → Ex G G' → Join G' P H' → Q (.int l) H')
theorem sc_greatest_low : FnScope ["low", "high", "members", "step", "below", "there", "number"] ["low", "high", "members", "step", "below"] (defScope s_greatest_low) := ⟨rfl, rfl, rfl, by decide +kernel, rfl, by decide +kernel, by decide +kernel⟩
theorem ok_greatest_low (T : Txt K mg) {fd_keyed : FuncData} (G_keyed : Dn P w K mg base (L2.CX P w) 1 "keyed" ["numbers"] (spKeyed K) fd_keyed) : ∃ fd, Dn P w K mg base (L2.CX P w) 2 "greatest_low" ["low", "high", "members", "step", "below"] (spGLow K) fd := by
  obtain ⟨fd, F⟩ := T.d_greatest_low
  refine ⟨fd, F.ok sc_greatest_low (fun vs H Q E h => ?_) (fun cdv A outer s H vs Q E hr h => ?_), T.g_greatest_low, F.kp, F.bindsN fun _ _ _ _ _ _ us hl => match us, hl with | [_, _, _, _, _], _ => rfl, Lv.fun_lk F⟩
  · obtain ⟨_, _, _, _, _, _, _, _, _, _, _, rfl, _⟩ := h
    rfl
  · have hu := hu_of hr
    have hr_keyed : Room 1 _ := hr.mono (by decide)
    refine ⟨_, PSs.nox (pss_cons (ps_if (pt_cmpR op_le (pv 1) (pv 0) (nomark _)) (pss_one (ps_ret (pv 1))) pss_nil)
      (pss_cons (ps_set (i := 5) sc_greatest_low.nd rfl (Or.inl rfl) (pe_call G_keyed.ok hr_keyed rfl G_keyed.mg G_keyed.kp G_keyed.b .nil passL (pa_cons (pv 2) pa_nil)))
      (pss_cons (ps_set (i := 6) sc_greatest_low.nd rfl (Or.inl rfl) (pv 0))
      (Evl.pss_cut (ps_if (pt_cmpR op_eq (pe_callB call_lenD (by rfl) T.n_len PySem.boot_len (pa_cons (pv 4) pa_nil)) pe_int (nomark _)) (pss_one (ps_set (i := 6) sc_greatest_low.nd rfl (Or.inl rfl) (pe_ifExp (pt_cmpR op_gt (pe_callB call_len (by rfl) T.n_len PySem.boot_len (pa_cons (pv 2) pa_nil)) pe_int (nomark _)) (pe_callB (call_min2 rfl) (by rfl) T.n_min (by decide +kernel) (pa_cons (pe_ix ix_tup (pv 2) pe_int (fun _ _ => rfl)) (pa_cons (pv 1) pa_nil))) (pv 1)))) pss_nil)
      (pss_cons (ps_while PassesOwn.never (PW.pt (pw_and (pt_cmpR op_lt (pv 6) (pv 1) (nomark _)) (pw_and1 (pt_cmpR op_eq (pe_cmp (pc_din hu (pv 6) (pv 5)) rfl) (pe_cmp (pc_din hu (pe_op op_mod (pv 6) (pv 3)) (pv 4)) rfl) (nomark _))))) (pss_one (ps_aug (i := 6) sc_greatest_low.nd rfl (.inl rfl) pe_int ip_add)))
      (pss_one (ps_ret (pv 6)))))))), ?_⟩
    obtain ⟨lo, hi, st, tm, db, ms, be, ab, t, G, P0, rfl, j, hm, hb, hA, lm, h1, h2, s1, q1⟩ := h
    walk_at "w"
    by_cases h0 : t ≤ lo
    · refine itT h0 ?_
      walk_at "w"
      exact q1 _ _ _ (Int.le_refl _) (fun y hy => hasL_lo (by omega)) (.inl rfl) (Ex.refl _) j
    refine itF h0 ?_
    walk_at "w"
    refine ⟨tm, ms, G, P0, rfl, j, hm, (ascI_nodup hA), lm, fun d G1 H1 hd e1 j1 hD => ?_⟩
    replace hm := e1 _ _ hm; replace hb := e1 _ _ hb
    walk_at "w"
    refine ⟨fun σ' H' => ∃ n : Int, lo ≤ n ∧ n ≤ t ∧ (∀ y, y < n → hasL lo hi ms st be ab y = decide (y % st ∈ be)) ∧ σ' = [some (.int lo), some (.int t), some (.ref tm), some (.int st), some (.ref db), some (.ref d), some (.int n)] ∧ Join G1 P0 H', ?_, ?_⟩
    · walk_at "w"
      refine rLenD.go j1 hb ?_
      walk_at "w"
      by_cases hbe : be = []
      · subst hbe
        refine itT rfl ?_
        walk_at "w"
        refine w_ifE ?_
        walk_at "w"
        by_cases hms : ms = []
        · subst hms
          refine itF (by simp) ?_
          walk_at "w"
          exact ⟨t, by omega, by omega, fun y hy => by
            by_cases e : lo ≤ y
            · rw [hasL_mid e (by omega)]; simp
            · rw [hasL_lo (by omega)], rfl, j1⟩
        · obtain ⟨z, r, rfl⟩ : ∃ z r, ms = z :: r := by cases ms with | nil => exact absurd rfl hms | cons z r => exact ⟨z, r, rfl⟩
          have hzb := hA.1 z (List.mem_cons_self ..)
          refine itT (by simp) ?_
          walk_at "w"
          refine w_ixT (j1.g _ _ hm) (atI_nat (xs := (z :: r).map V.int) (j := 0) (v := V.int z) (by simp)) ?_
          walk_at "w"
          exact ⟨_, by omega, by omega, fun y hy => by
            by_cases e : lo ≤ y
            · rw [hasL_mid e (by omega), decide_eq_false (fun h => ?_)]
              · simp
              · rcases List.mem_cons.mp h with rfl | h
                · omega
                · have := (List.pairwise_cons.mp hA.2).1 y h
                  omega
            · rw [hasL_lo (by omega)], rfl, j1⟩
      · refine itF (fun h => hbe (by have := V.int.inj h; simp at this; exact this)) ?_
        walk_at "w"
        exact ⟨lo, by omega, by omega, fun y hy => hasL_lo hy, rfl, j1⟩
    rintro σ' H' ⟨n, n1, n2, hn, rfl, j2⟩
    walk_at "w"
    refine while_go (fun m G' P' σ' => P' = P0 ∧ G' = G1 ∧ ∃ n : Int, m = (t - n).toNat ∧ lo ≤ n ∧ n ≤ t ∧ (∀ y, y < n → hasL lo hi ms st be ab y = decide (y % st ∈ be)) ∧ σ' = [some (.int lo), some (.int t), some (.ref tm), some (.int st), some (.ref db), some (.ref d), some (.int n)]) j2 _ ⟨rfl, rfl, n, rfl, n1, n2, hn, rfl⟩ ?_
    clear n1 n2 hn n j2
    rintro m G' P' H' σ' j3 ⟨rfl, rfl, n, rfl, n1, n2, hn, rfl⟩
    walk_at "w"
    by_cases hlo : n < t
    · refine itT hlo ?_
      walk_at "w"
      refine din_go j3 hD ?_
      walk_at "w"
      refine w_rI (by omega) ?_
      walk_at "w"
      refine din_go j3 hb ?_
      walk_at "w"
      by_cases hc : decide (n ∈ ms) = decide (n % st ∈ be)
      · refine itT (congrArg V.bl hc) ?_
        walk_at "w"
        refine ⟨(t - (n + 1)).toNat, _, _, by omega, j3, rfl, rfl, n + 1, rfl, by omega, by omega, fun y hy => ?_, rfl⟩
        by_cases e : y = n
        · subst e; rw [hasL_mid n1 (by omega), hc]
        · exact hn y (by omega)
      · refine itF (fun h => hc (V.bl.inj h)) ?_
        walk_at "w"
        exact q1 _ _ _ n2 hn (.inr ⟨n1, by rw [hasL_mid n1 (by omega)]; exact hc⟩) e1 j3
    · refine itF hlo ?_
      walk_at "w"
      exact q1 _ _ _ n2 hn (.inl (by omega)) e1 j3
end X

namespace X
open PySem PySem.Spec PyProof.Rows L2 Lv
/-- the six parts of a lot -/
structure LP where
  lo : Int
  hi : Int
  ms : List Int
  st : Int
  be : List Int
  ab : List Int
deriving DecidableEq
def LP.has (L : LP) (x : Int) : Bool := hasL L.lo L.hi L.ms L.st L.be L.ab x
structure LpOk (L : LP) : Prop where
  h1 : L.lo ≤ L.hi
  h2 : L.hi ≤ L.lo + 100001
  ms : AscI L.lo (L.hi - 1) L.ms
  s1 : 1 ≤ L.st
  s2 : L.st ≤ 4000
  be : AscI 0 (L.st - 1) L.be
  ab : AscI 0 (L.st - 1) L.ab
  ml : L.ms.length ≤ 100000
structure Least (L : LP) : Prop where
  st : ∀ q, 1 ≤ q → q < L.st → stepOk L.st L.be L.ab q = false
  bo : (L.lo = 0 ∧ L.hi = 0 ∧ L.be = L.ab) ∨ (L.has (L.hi - 1) ≠ decide ((L.hi - 1) % L.st ∈ L.ab) ∧ (L.lo = L.hi ∨ L.has L.lo ≠ decide (L.lo % L.st ∈ L.be)))
theorem ascI_len {a b : Int} : ∀ {ns : List Int}, AscI a b ns → (ns.length : Int) ≤ (b - a + 1).toNat
  | [], _ => by show (0 : Int) ≤ _; omega
  | n :: r, h => by
    have h1 := h.1 n (List.mem_cons_self ..)
    have h2 : AscI (n + 1) b r := ⟨fun x hx => ⟨by have := (List.pairwise_cons.mp h.2).1 x hx; omega, (h.1 x (List.mem_cons_of_mem _ hx)).2⟩, (List.pairwise_cons.mp h.2).2⟩
    have h3 := ascI_len h2
    rw [List.length_cons]
    omega
theorem LpOk.bl {L : LP} (h : LpOk L) : L.be.length ≤ 100000 := by have := ascI_len h.be; have := h.s1; have := h.s2; omega
theorem LpOk.al {L : LP} (h : LpOk L) : L.ab.length ≤ 100000 := by have := ascI_len h.ab; have := h.s1; have := h.s2; omega
theorem roundB_iff {ns : List Int} {st p : Int} : roundB ns st p = true ↔ ∀ r ∈ ns, (r + p) % st ∈ ns := by
  unfold roundB; rw [List.all_eq_true]; simp
theorem stepOk_iff {st : Int} {be ab : List Int} {p : Int} : stepOk st be ab p = true ↔ st % p = 0 ∧ (∀ r ∈ be, (r + p) % st ∈ be) ∧ ∀ r ∈ ab, (r + p) % st ∈ ab := by
  unfold stepOk; rw [Bool.and_eq_true, Bool.and_eq_true, roundB_iff, roundB_iff, decide_eq_true_iff, and_assoc]
theorem round_many {ns : List Int} {st p : Int} (h : ∀ r ∈ ns, (r + p) % st ∈ ns) (hs : ∀ r ∈ ns, r % st = r) {r : Int} (hr : r ∈ ns) : ∀ k : Nat, (r + p * k) % st ∈ ns
  | 0 => by
    rw [show r + p * ((0 : Nat) : Int) = r by simp, hs r hr]; exact hr
  | k + 1 => by
    have h1 := h _ (round_many h hs hr k)
    rw [Int.emod_add_emod] at h1
    rw [show r + p * ((k + 1 : Nat) : Int) = r + p * k + p by push_cast; rw [Int.mul_add, Int.mul_one]; omega]
    exact h1
/-- rests by a lesser step -/
theorem rest_less {ns : List Int} {st p : Int} (hA : AscI 0 (st - 1) ns) (h1 : 1 ≤ p) (h2 : p ≤ st) (hp : p = st ∨ (st % p = 0 ∧ ∀ r ∈ ns, (r + p) % st ∈ ns)) (x : Int) : decide (x % p ∈ ns.filter fun r => decide (r < p)) = decide (x % st ∈ ns) := by
  have hx0 := Int.emod_nonneg x (show p ≠ 0 by omega)
  have hx1 := Int.emod_lt_of_pos x (show 0 < p by omega)
  have hy0 := Int.emod_nonneg x (show st ≠ 0 by omega)
  have hy1 := Int.emod_lt_of_pos x (show 0 < st by omega)
  have e1 : (x % p ∈ ns.filter fun r => decide (r < p)) ↔ x % p ∈ ns := by
    rw [List.mem_filter]; exact ⟨fun h => h.1, fun h => ⟨h, by simpa using hx1⟩⟩
  have e2 : x % p ∈ ns ↔ x % st ∈ ns := by
    rcases hp with rfl | ⟨hd, hr⟩
    · exact Iff.rfl
    · have hs : ∀ r ∈ ns, r % st = r := fun r h => Int.emod_eq_of_lt (hA.1 r h).1 (by have := (hA.1 r h).2; omega)
      have f1 : x % st % p = x % p := Int.emod_emod_of_dvd _ (Int.dvd_of_emod_eq_zero hd)
      have f2 := Int.emod_add_mul_ediv (x % st) p
      have f3 := Int.emod_add_mul_ediv st p
      rw [hd] at f3
      rw [f1] at f2
      have k0 : 0 ≤ x % st / p := Int.ediv_nonneg hy0 (by omega)
      have k1 : x % st / p ≤ st / p := Int.ediv_le_ediv (by omega) (by omega)
      constructor
      · intro h
        have := round_many hr hs h (x % st / p).toNat
        rw [Int.toNat_of_nonneg k0, f2, Int.emod_emod] at this
        exact this
      · intro h
        have := round_many hr hs h (st / p - x % st / p).toNat
        rw [Int.toNat_of_nonneg (by omega), Int.mul_sub, show x % st + (p * (st / p) - p * (x % st / p)) = x % p + st by omega, Int.add_emod_right, Int.emod_eq_of_lt hx0 (by omega)] at this
        exact this
  rw [decide_eq_decide, e1, e2]
theorem ascI_filter {a b c d : Int} {ns : List Int} (h : AscI a b ns) (f : Int → Bool) (hf : ∀ x ∈ ns, f x = true → c ≤ x ∧ x ≤ d) : AscI c d (ns.filter f) :=
  ⟨fun x hx => hf x (List.mem_filter.mp hx).1 (List.mem_filter.mp hx).2, h.2.filter _⟩
theorem ascI_ext {a b c d : Int} : ∀ {ns ms : List Int}, AscI a b ns → AscI c d ms → (∀ x, x ∈ ns ↔ x ∈ ms) → ns = ms
  | [], [], _, _, _ => rfl
  | [], m :: ms, _, _, h => absurd ((h m).mpr (List.mem_cons_self ..)) (by simp)
  | n :: ns, [], _, _, h => absurd ((h n).mp (List.mem_cons_self ..)) (by simp)
  | n :: ns, m :: ms, h1, h2, h => by
    have q1 := List.pairwise_cons.mp h1.2
    have q2 := List.pairwise_cons.mp h2.2
    have e : n = m := by
      rcases List.mem_cons.mp ((h n).mp (List.mem_cons_self ..)) with e | e
      · exact e
      · rcases List.mem_cons.mp ((h m).mpr (List.mem_cons_self ..)) with e' | e'
        · exact e'.symm
        · have := q2.1 n e; have := q1.1 m e'; omega
    subst e
    rw [ascI_ext (a := a) (b := b) (c := c) (d := d) ⟨fun x hx => h1.1 x (List.mem_cons_of_mem _ hx), q1.2⟩ ⟨fun x hx => h2.1 x (List.mem_cons_of_mem _ hx), q2.2⟩ fun x => ⟨fun hx => by
      rcases List.mem_cons.mp ((h x).mp (List.mem_cons_of_mem _ hx)) with rfl | e
      · have := q1.1 _ hx; omega
      · exact e, fun hx => by
      rcases List.mem_cons.mp ((h x).mpr (List.mem_cons_of_mem _ hx)) with rfl | e
      · have := q2.1 _ hx; omega
      · exact e⟩]
def ltF (ns : List Int) (p : Int) : List Int := ns.filter fun r => decide (r < p)
def inF (ns : List Int) (l t : Int) : List Int := ns.filter fun r => decide (l ≤ r ∧ r < t)
section
variable {T : LP} {p : Int}
theorem IsStep.be (h : LpOk T) (hp : IsStep T.st T.be T.ab p) (x : Int) : decide (x % p ∈ ltF T.be p) = decide (x % T.st ∈ T.be) :=
  rest_less h.be hp.1 hp.2.1 (hp.2.2.1.imp id fun q => ⟨(stepOk_iff.mp q).1, (stepOk_iff.mp q).2.1⟩) x
theorem IsStep.ab (h : LpOk T) (hp : IsStep T.st T.be T.ab p) (x : Int) : decide (x % p ∈ ltF T.ab p) = decide (x % T.st ∈ T.ab) :=
  rest_less h.ab hp.1 hp.2.1 (hp.2.2.1.imp id fun q => ⟨(stepOk_iff.mp q).1, (stepOk_iff.mp q).2.2⟩) x
theorem IsStep.has (h : LpOk T) (hp : IsStep T.st T.be T.ab p) (y : Int) : hasL T.lo T.hi T.ms p (ltF T.be p) (ltF T.ab p) y = T.has y := by
  unfold LP.has hasL; rw [hp.be h, hp.ab h]
theorem IsStep.dvd (hp : IsStep T.st T.be T.ab p) : T.st % p = 0 := by
  rcases hp.2.2.1 with e | e
  · subst e; simp
  · exact (stepOk_iff.mp e).1
theorem IsStep.least (h : LpOk T) (hp : IsStep T.st T.be T.ab p) (q : Int) (q1 : 1 ≤ q) (q2 : q < p) : stepOk p (ltF T.be p) (ltF T.ab p) q = false := by
  cases e : stepOk p (ltF T.be p) (ltF T.ab p) q with
  | false => rfl
  | true =>
    obtain ⟨e1, e2, e3⟩ := stepOk_iff.mp e
    have key : ∀ (ns : List Int), AscI 0 (T.st - 1) ns → (∀ x, decide (x % p ∈ ltF ns p) = decide (x % T.st ∈ ns)) → (∀ r ∈ ltF ns p, (r + q) % p ∈ ltF ns p) → ∀ r ∈ ns, (r + q) % T.st ∈ ns := by
      intro ns hA hR hr r hm
      have hs : r % T.st = r := Int.emod_eq_of_lt (hA.1 r hm).1 (by have := (hA.1 r hm).2; omega)
      have h1 : r % p ∈ ltF ns p := by
        have := hR r; rw [hs, decide_eq_true hm] at this; exact of_decide_eq_true this
      have h2 := hr _ h1
      rw [Int.emod_add_emod] at h2
      have := hR (r + q)
      rw [decide_eq_true h2] at this
      exact of_decide_eq_true this.symm
    have := hp.2.2.2 q q1 q2
    rw [stepOk_iff.mpr ⟨Int.emod_eq_zero_of_dvd (Int.dvd_trans (Int.dvd_of_emod_eq_zero e1) (Int.dvd_of_emod_eq_zero hp.dvd)), key _ h.be (hp.be h) e2, key _ h.ab (hp.ab h) e3⟩] at this
    cases this
theorem ltF_asc (h : LpOk T) (hp : 1 ≤ p) : AscI 0 (p - 1) (ltF T.be p) ∧ AscI 0 (p - 1) (ltF T.ab p) :=
  ⟨ascI_filter h.be _ fun x hx e => ⟨(h.be.1 x hx).1, by have := of_decide_eq_true e; omega⟩, ascI_filter h.ab _ fun x hx e => ⟨(h.ab.1 x hx).1, by have := of_decide_eq_true e; omega⟩⟩
/-- what is kept, with borders -/
theorem kept_some (h : LpOk T) (hp : IsStep T.st T.be T.ab p) {t l : Int} (t1 : t ≤ T.hi) (t2 : ∀ y, t ≤ y → hasL T.lo T.hi T.ms p (ltF T.be p) (ltF T.ab p) y = decide (y % p ∈ ltF T.ab p)) (t3 : hasL T.lo T.hi T.ms p (ltF T.be p) (ltF T.ab p) (t - 1) ≠ decide ((t - 1) % p ∈ ltF T.ab p))
    (l1 : l ≤ t) (l2 : ∀ y, y < l → hasL T.lo T.hi T.ms p (ltF T.be p) (ltF T.ab p) y = decide (y % p ∈ ltF T.be p)) (l3 : l = t ∨ (T.lo ≤ l ∧ hasL T.lo T.hi T.ms p (ltF T.be p) (ltF T.ab p) l ≠ decide (l % p ∈ ltF T.be p))) :
    LpOk ⟨l, t, inF T.ms l t, p, ltF T.be p, ltF T.ab p⟩ ∧ Least ⟨l, t, inF T.ms l t, p, ltF T.be p, ltF T.ab p⟩ ∧ ∀ y, LP.has ⟨l, t, inF T.ms l t, p, ltF T.be p, ltF T.ab p⟩ y = T.has y := by
  have hh : ∀ y, LP.has ⟨l, t, inF T.ms l t, p, ltF T.be p, ltF T.ab p⟩ y = hasL T.lo T.hi T.ms p (ltF T.be p) (ltF T.ab p) y := fun y => by
    show hasL l t (inF T.ms l t) p (ltF T.be p) (ltF T.ab p) y = _
    by_cases e1 : y < l
    · rw [hasL_lo e1, l2 y e1]
    · by_cases e2 : y < t
      · have e3 : T.lo ≤ l := by
          rcases l3 with e | e
          · omega
          · exact e.1
        rw [hasL_mid (by omega) e2, hasL_mid (by omega) (by omega), decide_eq_decide]
        unfold inF
        rw [List.mem_filter]
        exact ⟨fun q => q.1, fun q => ⟨q, decide_eq_true ⟨by omega, e2⟩⟩⟩
      · rw [hasL_hi l1 (by omega), t2 y (by omega)]
  have ha := ltF_asc h hp.1
  refine ⟨⟨l1, ?_, ascI_filter h.ms _ fun x hx e => ?_, hp.1, by have := hp.2.1; have := h.s2; show p ≤ 4000; omega, ha.1, ha.2, Nat.le_trans (List.length_filter_le _ _) h.ml⟩, ⟨fun q q1 q2 => hp.least h q q1 q2, .inr ⟨?_, ?_⟩⟩, fun y => by rw [hh, hp.has h]⟩
  · show t ≤ l + 100001
    have := h.h2
    rcases l3 with e | e
    · omega
    · have := e.1; omega
  · have := of_decide_eq_true e
    show l ≤ x ∧ x ≤ t - 1
    omega
  · rw [hh]; exact t3
  · rcases l3 with e | e
    · exact .inl e
    · exact .inr (by rw [hh]; exact e.2)
theorem kept_none (h : LpOk T) (hp : IsStep T.st T.be T.ab p) (t2 : ∀ y, hasL T.lo T.hi T.ms p (ltF T.be p) (ltF T.ab p) y = decide (y % p ∈ ltF T.ab p)) :
    LpOk ⟨0, 0, inF T.ms 0 0, p, ltF T.be p, ltF T.ab p⟩ ∧ Least ⟨0, 0, inF T.ms 0 0, p, ltF T.be p, ltF T.ab p⟩ ∧ ∀ y, LP.has ⟨0, 0, inF T.ms 0 0, p, ltF T.be p, ltF T.ab p⟩ y = T.has y := by
  have ha := ltF_asc h hp.1
  have hp1 := hp.1
  have he : ltF T.be p = ltF T.ab p := ascI_ext ha.1 ha.2 fun x => by
    have key : 0 ≤ x → x < p → (x ∈ ltF T.be p ↔ x ∈ ltF T.ab p) := fun x0 x1 => by
      have hy : x - p * (x - T.lo + p + 1).natAbs < T.lo := by
        have q1 : (x - T.lo + p + 1).natAbs ≤ p * (x - T.lo + p + 1).natAbs := by
          have := Int.mul_le_mul_of_nonneg_right hp1 (show (0 : Int) ≤ (x - T.lo + p + 1).natAbs by omega)
          rw [Int.one_mul] at this; exact this
        omega
      have hm : (x - p * (x - T.lo + p + 1).natAbs) % p = x := by
        rw [Int.sub_mul_emod_self_left, Int.emod_eq_of_lt x0 x1]
      have := t2 (x - p * (x - T.lo + p + 1).natAbs)
      rw [hasL_lo hy, hm, decide_eq_decide] at this
      exact this
    exact ⟨fun q => (key (ha.1.1 x q).1 (by have := (ha.1.1 x q).2; omega)).mp q, fun q => (key (ha.2.1 x q).1 (by have := (ha.2.1 x q).2; omega)).mpr q⟩
  have hz : inF T.ms 0 0 = [] := List.filter_eq_nil_iff.mpr fun x _ q => by have := of_decide_eq_true q; omega
  refine ⟨⟨Int.le_refl _, (by show (0 : Int) ≤ 0 + 100001; decide), by rw [hz]; exact (show AscI 0 (-1) [] from ⟨fun x h => (nomatch h), List.Pairwise.nil⟩), hp.1, by have := hp.2.1; have := h.s2; show p ≤ 4000; omega, ha.1, ha.2, by show (inF T.ms 0 0).length ≤ 100000; rw [hz]; decide⟩, ⟨fun q q1 q2 => hp.least h q q1 q2, .inl ⟨rfl, rfl, he⟩⟩, fun y => ?_⟩
  rw [← hp.has h, t2]
  show hasL 0 0 _ p (ltF T.be p) (ltF T.ab p) y = _
  by_cases e : y < 0
  · rw [hasL_lo e, he]
  · rw [hasL_hi (Int.le_refl _) (by omega)]
end
theorem hasL_be {L : LP} {x y : Int} (hx : x < L.lo) (hy : y < L.lo) (e : x % L.st = y % L.st) : L.has x = L.has y := by
  unfold LP.has; rw [hasL_lo hx, hasL_lo hy, e]
theorem hasL_ab {L : LP} {x y : Int} (h0 : L.lo ≤ L.hi) (hx : L.hi ≤ x) (hy : L.hi ≤ y) (e : x % L.st = y % L.st) : L.has x = L.has y := by
  unfold LP.has; rw [hasL_hi h0 hx, hasL_hi h0 hy, e]
/-- the place in a window -/
theorem window {st a x : Int} (h : 1 ≤ st) (hx : a ≤ x) : ∃ y, a ≤ y ∧ y < a + st ∧ y ≤ x ∧ y % st = x % st := by
  have r0 := Int.emod_nonneg (x - a) (show st ≠ 0 by omega)
  have r1 := Int.emod_lt_of_pos (x - a) (show 0 < st by omega)
  have r2 := Int.emod_add_mul_ediv (x - a) st
  have r3 : 0 ≤ st * ((x - a) / st) := Int.mul_nonneg (by omega) (Int.ediv_nonneg (by omega) (by omega))
  have r4 : x = a + (x - a) % st + st * ((x - a) / st) := by omega
  refine ⟨a + (x - a) % st, by omega, by omega, by omega, ?_⟩
  generalize (x - a) % st = u at *
  generalize (x - a) / st = v at *
  rw [r4, Int.add_mul_emod_self_left]
/-- the place in a window, from above -/
theorem window' {st a x : Int} (h : 1 ≤ st) (hx : x ≤ a) : ∃ y, y ≤ a ∧ a - st < y ∧ x ≤ y ∧ y % st = x % st := by
  have r0 := Int.emod_nonneg (a - x) (show st ≠ 0 by omega)
  have r1 := Int.emod_lt_of_pos (a - x) (show 0 < st by omega)
  have r2 := Int.emod_add_mul_ediv (a - x) st
  have r3 : 0 ≤ st * ((a - x) / st) := Int.mul_nonneg (by omega) (Int.ediv_nonneg (by omega) (by omega))
  refine ⟨a - (a - x) % st, by omega, by omega, by omega, ?_⟩
  rw [show a - (a - x) % st = x + st * ((a - x) / st) by omega, Int.add_mul_emod_self_left]
theorem LP.has_eq (T : LP) (x : Int) : T.has x = if x < T.lo then decide (x % T.st ∈ T.be) else if x < T.hi then decide (x ∈ T.ms) else decide (x % T.st ∈ T.ab) := rfl
end X

namespace X
open PySem PySem.Spec PyProof.Rows L2 Lv
variable {P : Program} {w : World} {K : PySem.W.Frag} {mg : Str → Option Value} {base : Heap}
def spAscI (K : PySem.W.Frag) : Sp := fun vs H Q _ => ∃ (p : Addr) (b : Int) (ns : List Int) (G P : Hp), vs = [.ref p, .int b] ∧ Join G P H ∧ G p = some (.tup (ns.map V.int)) ∧ AscI 0 (b - 1) ns ∧ ns.length ≤ 100000 ∧ ∀ G' H', Ex G G' → Join G' P H' → Q (.bl true) H'
theorem sc_is_ascending : FnScope ["thing", "many", "at", "item"] ["thing", "many"] (defScope s_is_ascending) := ⟨rfl, rfl, rfl, by decide +kernel, rfl, by decide +kernel, by decide +kernel⟩
theorem ok_is_ascending (T : Txt K mg) {fd_is_within : FuncData} (G_is_within : Dn P w K mg base (L2.CX P w) 2 "is_within" ["thing", "least", "most"] (sp_is_within K) fd_is_within) : ∃ fd, Dn P w K mg base (L2.CX P w) 3 "is_ascending" ["thing", "many"] (spAscI K) fd := by
  obtain ⟨fd, F⟩ := T.d_is_ascending
  refine ⟨fd, F.ok sc_is_ascending (fun vs H Q E h => ?_) (fun cdv A outer s H vs Q E hr h => ?_), T.g_is_ascending, F.kp, F.bindsN fun _ _ _ _ _ _ us hl => match us, hl with | [_, _], _ => rfl, Lv.fun_lk F⟩
  · obtain ⟨_, _, _, _, _, rfl, _⟩ := h
    rfl
  · have hu := hu_of hr
    have hr_is_within : Room 2 _ := hr.mono (by decide)
    refine ⟨_, PSs.nox (pss_cons (ps_if (PW.pt (pw_or (pt_not (pt_val (pe_callB call_isi (by rfl) T.n_isinstance (by decide +kernel) (pa_cons (pv 0) (pa_cons (pe_bltn (v := .ty "tuple") (by rfl) T.n_tuple (by decide +kernel) rfl) pa_nil))))) (pw_or1 (pt_not (pt_val (pe_callB (cr_all rfl) (by rfl) T.n_all (by decide +kernel) (pa_cons (pe_lc (own := [("item", 3)]) (g := gName 3) (tt := tYes) rfl sc_is_ascending.nd (pi_tup (pv 0)) (blkOk_by (N := ["thing", "many", "at", "item"]) (sc := defScope s_is_ascending) (by decide +kernel)) (fun _ _ _ _ _ => (pg_name (i := 3) sc_is_ascending.nd rfl (Or.inl rfl) (hf := Or.inr rfl))) (fun _ _ _ _ _ => pts_nil) (fun _ _ _ _ _ => (pe_call G_is_within.ok hr_is_within rfl G_is_within.mg G_is_within.kp G_is_within.b .nil passL (pa_cons (pv 3) (pa_cons pe_int (pa_cons (pe_op op_sub (pv 1) pe_int) pa_nil)))))) pa_nil))))))) (pss_one (ps_ret pe_bl)) pss_nil)
      (pss_one (ps_ret (pe_callB (cr_all rfl) (by rfl) T.n_all (by decide +kernel) (pa_cons (pe_lc (own := [("at", 2)]) (g := gName 2) (tt := tYes) rfl sc_is_ascending.nd (Lv.pi_rangeW (by rfl) T.n_range (pa_cons pe_int (pa_cons (pe_callB call_len (by rfl) T.n_len PySem.boot_len (pa_cons (pv 0) pa_nil)) pa_nil))) (blkOk_by (N := ["thing", "many", "at", "item"]) (sc := defScope s_is_ascending) (by decide +kernel)) (fun _ _ _ _ _ => (pg_name (i := 2) sc_is_ascending.nd rfl (Or.inl rfl) (hf := Or.inr rfl))) (fun _ _ _ _ _ => pts_nil) (fun _ _ _ _ _ => (pe_cmpR op_lt (pe_ix (ix_tupK (K := K) rfl) (pv 0) (pe_op op_sub (pv 2) pe_int) (fun _ _ => rfl)) (pe_ix (ix_tupK (K := K) rfl) (pv 0) (pv 2) (fun _ _ => rfl)) (nomark _)))) pa_nil))))), ?_⟩
    obtain ⟨p, b, ns, G, P0, rfl, j, hp, hA, hl, q⟩ := h
    have hlv : (ns.map V.int).length = ns.length := by simp
    walk_at "w"
    refine isi_tup j hp ?_
    walk_at "w"
    refine aLcT.go (fun P' => P' = P0) (fun i us G' => us = ((ns.take i).map fun _ => true).map V.bl) j rfl hp (fun _ _ => rfl) (fun i us G2 D _ _ hd h => h) (fun i us G2 h => ?_) ?_ ?_
    · rw [h, List.length_map, List.length_map, List.length_take]; omega
    · intro i x us G' P' H' R R0 hx e' hI hP j' kR kR0
      subst hP
      obtain ⟨k, hk, rfl⟩ := int_at hx
      have hkN := hA.1 k (List.mem_of_getElem? hk)
      walk_at "w"
      refine ⟨rfl, ?_⟩
      walk_at "w"
      refine ⟨k, _, _, rfl, ?_⟩
      rw [decide_eq_true ⟨hkN.1, hkN.2⟩]
      refine kR _ _ _ H' (Ex.refl _) rfl j' ?_
      rw [hI, take_more hk, List.map_append, List.map_append]; rfl
    intro p1 us G1 P' H1 hp1 e1 hd1 hI hP j1
    subst hP
    subst hI
    replace hp := e1 _ _ hp
    walk_at "w"
    refine ⟨p1, _, rfl, sqL (j1.g _ _ hd1), ?_⟩
    rw [all_true fun b hb => by obtain ⟨_, _, rfl⟩ := List.mem_map.mp hb; rfl]
    walk_at "w"
    refine aLcR2.go (n := ns.length - 1) (fun Q' => Q' = P') (fun i us G' => us = ((List.range i).map fun _ => true).map V.bl ∧ i ≤ 100000) j1 rfl (by rw [hlv]; omega) (by rw [hlv]; omega) (fun _ _ => ⟨rfl, by decide⟩) (fun i us G2 D _ _ hd h => h) (fun i us G2 h => ?_) ?_ ?_
    · rw [h.1, List.length_map, List.length_map, List.length_range]; omega
    · intro i us G' P' H' R R0 hi e' hI hP j' kR kR0
      subst hP
      obtain ⟨x, hx⟩ : ∃ x, ns[i]? = some x := ⟨_, List.getElem?_eq_getElem (by omega)⟩
      obtain ⟨y, hy⟩ : ∃ y, ns[i + 1]? = some y := ⟨_, List.getElem?_eq_getElem (by omega)⟩
      have hxy : x < y := by
        obtain ⟨a1, b1⟩ := List.getElem?_eq_some_iff.mp hx
        obtain ⟨a2, b2⟩ := List.getElem?_eq_some_iff.mp hy
        have := List.pairwise_iff_getElem.mp hA.2 i (i + 1) a1 a2 (by omega)
        omega
      replace hp := e' _ _ hp
      walk_at "w"
      refine ⟨rfl, ?_⟩
      walk_at "w"
      rw [show (1 : Int) + (i : Int) - 1 = (i : Int) by omega]
      refine w_ixT (j'.g _ _ hp) (atI_nat (v := .int x) (by rw [List.getElem?_map, hx]; rfl)) ?_
      walk_at "w"
      rw [show (1 : Int) + (i : Int) = ((i + 1 : Nat) : Int) by omega]
      refine w_ixT (j'.g _ _ hp) (atI_nat (v := .int y) (by rw [List.getElem?_map, hy]; rfl)) ?_
      walk_at "w"
      rw [decide_eq_true hxy]
      refine kR _ _ _ H' (Ex.refl _) rfl j' ⟨?_, by omega⟩
      rw [hI.1, List.range_succ, List.map_append, List.map_append]; rfl
    intro p2 us G2 P'' H2 hp2 e2 hd2 hI hP j2
    subst hP
    replace hI := hI.1
    subst hI
    walk_at "w"
    refine ⟨p2, _, rfl, sqL (j2.g _ _ hd2), ?_⟩
    rw [all_true fun b hb => by obtain ⟨_, _, rfl⟩ := List.mem_map.mp hb; rfl]
    exact q G2 H2 (e1.trans e2) j2
def lotKs : List Str := ["step", "below", "above", "has_below", "has_above", "low", "high", "members", "has_members"]
theorem lotKs_n : lotKs.Nodup := by decide +kernel
structure LC (K : PySem.W.Frag) (C : Addr) : Prop where
  c : Cls K C
  n : ∀ f ∈ lotKs, NoAttr K C f
  o : OwnC K C (He.ga K "Lot")
  q : OwnE K C (He.ga K "Lot") (He.ma K (He.ga K "Lot") "__eq__")
def LotV (L : LP) (tb ta db da tm dm : Addr) : List V := [.int L.st, .ref tb, .ref ta, .ref db, .ref da, .int L.lo, .int L.hi, .ref tm, .ref dm]
def LotIs (K : PySem.W.Frag) (C : Addr) (G : Hp) (p : Addr) (L : LP) : Prop := ∃ (dx tb ta db da tm dm : Addr), LC K C ∧ G p = some (.ins C dx (lotKs.zip (LotV L tb ta db da tm dm))) ∧
  G tb = some (.tup (L.be.map V.int)) ∧ G ta = some (.tup (L.ab.map V.int)) ∧ G db = some (.dK (keyP L.be)) ∧ G da = some (.dK (keyP L.ab)) ∧ G tm = some (.tup (L.ms.map V.int)) ∧ G dm = some (.dK (keyP L.ms))
def LotAt (K : PySem.W.Frag) (G : Hp) (p : Addr) (L : LP) : Prop := ∃ C : Addr, LotIs K C G p L
theorem LotIs.at {C : Addr} {G : Hp} {p : Addr} {L : LP} (h : LotIs K C G p L) : LotAt K G p L := ⟨C, h⟩
theorem LotIs.mono {C : Addr} {G G' : Hp} {p : Addr} {L : LP} (e : Ex G G') (h : LotIs K C G p L) : LotIs K C G' p L := by
  obtain ⟨dx, tb, ta, db, da, tm, dm, h1, h2, h3, h4, h5, h6, h7, h8⟩ := h
  exact ⟨dx, tb, ta, db, da, tm, dm, h1, e _ _ h2, e _ _ h3, e _ _ h4, e _ _ h5, e _ _ h6, e _ _ h7, e _ _ h8⟩
theorem LotAt.mono {G G' : Hp} {p : Addr} {L : LP} (e : Ex G G') (h : LotAt K G p L) : LotAt K G' p L := by
  obtain ⟨C, h⟩ := h
  exact ⟨C, h.mono e⟩
theorem lc_L (T : Txt K mg) : LC K (He.ga K "Lot") := ⟨T.c_Lot, by simp only [lotKs, List.forall_mem_cons]; exact ⟨T.na_Lot_step, T.na_Lot_below, T.na_Lot_above, T.na_Lot_has_below, T.na_Lot_has_above, T.na_Lot_low, T.na_Lot_high, T.na_Lot_members, T.na_Lot_has_members, fun _ h => nomatch h⟩, T.o_Lot, T.q_Lot⟩
def spKeepL (K : PySem.W.Frag) : Sp := fun vs H Q _ => ∃ (x C dx tm tb ta : Addr) (T : LP) (G P : Hp), vs = [.ref x, .int T.lo, .int T.hi, .ref tm, .int T.st, .ref tb, .ref ta] ∧ LC K C ∧ Join G P H ∧ G x = some (.ins C dx []) ∧ LpOk T ∧
  G tm = some (.tup (T.ms.map V.int)) ∧ G tb = some (.tup (T.be.map V.int)) ∧ G ta = some (.tup (T.ab.map V.int)) ∧
  ∀ L G' H', But x G G' → Join G' P H' → LpOk L → Least L → (∀ y, L.has y = T.has y) → LotIs K C G' x L → Q .non H'
theorem butTup {G G' : Hp} {x a C dx : Addr} {fs : List (Str × V)} {vs : List V} (b : But x G G') (hx : G x = some (.ins C dx fs)) (h : G a = some (.tup vs)) : G' a = some (.tup vs) := b a _ h (ne_of h hx (by intro z; cases z))
theorem butDk {G G' : Hp} {x a C dx : Addr} {fs : List (Str × V)} {vs : List (L2.Key × V)} (b : But x G G') (hx : G x = some (.ins C dx fs)) (h : G a = some (.dK vs)) : G' a = some (.dK vs) := b a _ h (ne_of h hx (by intro z; cases z))
theorem sc_Lot_keep : FnScope ["self", "low", "high", "members", "step", "below", "above", "top", "rest", "number"] ["self", "low", "high", "members", "step", "below", "above"] (defScope s_Lot_keep) := ⟨rfl, rfl, rfl, by decide +kernel, rfl, by decide +kernel, by decide +kernel⟩
theorem ok_Lot_keep (T : Txt K mg) {fd_least_step : FuncData} (G_least_step : Dn P w K mg base (L2.CX P w) 3 "least_step" ["step", "below", "above"] (spLStep K) fd_least_step) {fd_keyed : FuncData} (G_keyed : Dn P w K mg base (L2.CX P w) 1 "keyed" ["numbers"] (spKeyed K) fd_keyed) {fd_least_high : FuncData} (G_least_high : Dn P w K mg base (L2.CX P w) 2 "least_high" ["low", "high", "members", "step", "below", "above"] (spLHigh K) fd_least_high) {fd_greatest_low : FuncData} (G_greatest_low : Dn P w K mg base (L2.CX P w) 2 "greatest_low" ["low", "high", "members", "step", "below"] (spGLow K) fd_greatest_low) : ∃ fd, Dm P w K mg base (L2.CX P w) 4 "Lot" "keep" ["self", "low", "high", "members", "step", "below", "above"] (spKeepL K) fd := by
  obtain ⟨fd, F⟩ := T.d_Lot_keep
  refine ⟨fd, F.ok sc_Lot_keep (fun vs H Q E h => ?_) (fun cdv A outer s H vs Q E hr h => ?_), F.bindsN fun _ _ _ _ _ _ us hl => match us, hl with | [_, _, _, _, _, _, _], _ => rfl, Lv.fun_lk F⟩
  · obtain ⟨_, _, _, _, _, _, _, _, _, rfl, _⟩ := h
    rfl
  · have hu := hu_of hr
    have hr_least_step : Room 3 _ := hr.mono (by decide)
    have hr_keyed : Room 1 _ := hr.mono (by decide)
    have hr_least_high : Room 2 _ := hr.mono (by decide)
    have hr_greatest_low : Room 2 _ := hr.mono (by decide)
    refine ⟨_, PSs.nox (pss_cons (ps_fld (pv 0) (pe_call G_least_step.ok hr_least_step rfl G_least_step.mg G_least_step.kp G_least_step.b .nil passL (pa_cons (pv 4) (pa_cons (pv 5) (pa_cons (pv 6) pa_nil)))) rfl)
      (pss_cons (ps_fld (pv 0) (pe_callTy call_tuple_of (by rfl) T.n_tuple (by decide +kernel) (pa_cons (pe_lc (own := [("rest", 8)]) (g := gName 8) rfl sc_Lot_keep.nd (pi_tup (pv 5)) (blkOk_by (N := ["self", "low", "high", "members", "step", "below", "above", "top", "rest", "number"]) (sc := defScope s_Lot_keep) (by decide +kernel)) (fun _ _ _ _ _ => (pg_name (i := 8) sc_Lot_keep.nd rfl (Or.inl rfl) (hf := Or.inr rfl))) (fun _ _ _ _ _ => (pts_one (pt_cmpR op_lt (pv 8) (pe_fldK (K := K) rfl (pv 0) rfl) (nomark _)))) (fun _ _ _ _ _ => (pv 8))) pa_nil)) rfl)
      (pss_cons (ps_fld (pv 0) (pe_callTy call_tuple_of (by rfl) T.n_tuple (by decide +kernel) (pa_cons (pe_lc (own := [("rest", 8)]) (g := gName 8) rfl sc_Lot_keep.nd (pi_tup (pv 6)) (blkOk_by (N := ["self", "low", "high", "members", "step", "below", "above", "top", "rest", "number"]) (sc := defScope s_Lot_keep) (by decide +kernel)) (fun _ _ _ _ _ => (pg_name (i := 8) sc_Lot_keep.nd rfl (Or.inl rfl) (hf := Or.inr rfl))) (fun _ _ _ _ _ => (pts_one (pt_cmpR op_lt (pv 8) (pe_fldK (K := K) rfl (pv 0) rfl) (nomark _)))) (fun _ _ _ _ _ => (pv 8))) pa_nil)) rfl)
      (pss_cons (ps_fld (pv 0) (pe_call G_keyed.ok hr_keyed rfl G_keyed.mg G_keyed.kp G_keyed.b .nil passL (pa_cons (pe_fld (pv 0) rfl) pa_nil)) rfl)
      (pss_cons (ps_fld (pv 0) (pe_call G_keyed.ok hr_keyed rfl G_keyed.mg G_keyed.kp G_keyed.b .nil passL (pa_cons (pe_fld (pv 0) rfl) pa_nil)) rfl)
      (pss_cons (ps_set (i := 7) sc_Lot_keep.nd rfl (Or.inl rfl) (pe_call G_least_high.ok hr_least_high rfl G_least_high.mg G_least_high.kp G_least_high.b .nil passL (pa_cons (pv 1) (pa_cons (pv 2) (pa_cons (pv 3) (pa_cons (pe_fld (pv 0) rfl) (pa_cons (pe_fld (pv 0) rfl) (pa_cons (pe_fld (pv 0) rfl) pa_nil))))))))
      (pss_cons (ps_if (pt_cmpR op_isN (pv 7) pe_non (nomark _)) (pss_cons (ps_fld (pv 0) pe_int rfl)
      (pss_one (ps_fld (pv 0) pe_int rfl))) (pss_cons (ps_fld (pv 0) (pe_call G_greatest_low.ok hr_greatest_low rfl G_greatest_low.mg G_greatest_low.kp G_greatest_low.b .nil passL (pa_cons (pv 1) (pa_cons (pv 7) (pa_cons (pv 3) (pa_cons (pe_fld (pv 0) rfl) (pa_cons (pe_fld (pv 0) rfl) pa_nil)))))) rfl)
      (pss_one (ps_fld (pv 0) (pv 7) rfl))))
      (pss_cons (ps_fld (pv 0) (pe_callTy call_tuple_of (by rfl) T.n_tuple (by decide +kernel) (pa_cons (pe_lc (own := [("number", 9)]) (g := gName 9) rfl sc_Lot_keep.nd (pi_tup (pv 3)) (blkOk_by (N := ["self", "low", "high", "members", "step", "below", "above", "top", "rest", "number"]) (sc := defScope s_Lot_keep) (by decide +kernel)) (fun _ _ _ _ _ => (pg_name (i := 9) sc_Lot_keep.nd rfl (Or.inl rfl) (hf := Or.inr rfl))) (fun _ _ _ _ _ => (pts_one (pt_chain op_le op_lt (pe_fldK (K := K) rfl (pv 0) rfl) (pv 9) (pe_fldK (K := K) rfl (pv 0) rfl)))) (fun _ _ _ _ _ => (pv 9))) pa_nil)) rfl)
      (pss_one (ps_fld (pv 0) (pe_call G_keyed.ok hr_keyed rfl G_keyed.mg G_keyed.kp G_keyed.b .nil passL (pa_cons (pe_fld (pv 0) rfl) pa_nil)) rfl)))))))))), ?_⟩
    obtain ⟨x, C, dx, tm, tb, ta, T0, G, P0, rfl, hC, j, hx, hT, hm, hb, ha, q⟩ := h
    walk_at "w"
    refine ⟨tb, ta, T0.st, T0.be, T0.ab, G, P0, rfl, j, hb, ha, ascI_nodup hT.be, ascI_nodup hT.ab, hT.bl, hT.al, hT.s1, hT.s2, fun p G1 H1 hp e1 j1 => ?_⟩
    replace hx := e1 _ _ hx; replace hm := e1 _ _ hm; replace hb := e1 _ _ hb; replace ha := e1 _ _ ha
    have B0 : But x G G1 := But.ofEx e1
    walk_at "w"
    refine aSFld.go (ks := lotKs) (vs := []) j1 hx hC.c (hC.n _ (by simp [lotKs])) lotKs_n rfl (by decide) fun G2 H2 b2 js hx' => ?_
    replace hm := butTup b2 hx hm
    replace hb := butTup b2 hx hb
    replace ha := butTup b2 hx ha
    replace hx := hx'
    replace B0 := B0.trans b2
    clear e1 j1 b2 hx'
    walk_at "w"
    refine aLcT.go (fun P' => P' = P0) (fun i us G' => us = (((T0.be).take i).filter fun r => decide (r < p)).map V.int) js rfl hb (fun _ _ => rfl) (fun i us G2 D _ _ hd h => h) (fun i us G2 h => ?_) ?_ ?_
    · rw [h, List.length_map]
      have := List.length_filter_le (fun r => decide (r < p)) ((T0.be).take i)
      rw [List.length_take] at this
      have := hT.bl
      omega
    · intro i z us Gi Pi Hi R R0 hz ei hI hP ji kR kR0
      subst hP
      obtain ⟨k, hk, rfl⟩ := int_at hz
      have hxi := ei _ _ hx
      walk_at "w"
      refine ⟨rfl, ?_⟩
      walk_at "w"
      refine aFld.go (ks := lotKs) (i := 0) ji hxi hC.c (hC.n _ (by simp [lotKs])) lotKs_n rfl rfl ?_
      walk_at "w"
      by_cases hc : k < p
      · refine itT hc ?_
        walk_at "w"
        refine kR _ _ _ Hi (Ex.refl _) rfl ji ?_
        rw [hI, take_more hk, List.filter_append, List.map_append, List.filter_cons_of_pos (by simpa using hc)]; rfl
      · refine itF hc ?_
        walk_at "w"
        refine kR0 _ _ Hi (Ex.refl _) rfl ji ?_
        rw [hI, take_more hk, List.filter_append, List.filter_cons_of_neg (by simpa using hc)]; simp
    intro l1 us Ga Pa1 Ha hl0 ea hd1 hI hP ja
    subst hP
    rw [List.length_map, List.take_length] at hI
    subst hI
    replace hx := ea _ _ hx; replace hm := ea _ _ hm; replace ha := ea _ _ ha
    have B1a := B0.trans (But.ofEx ea)
    walk_at "w"
    refine tupOf_go ja hd1 fun tbe Gb Hb hg eb jb hbe' => ?_
    replace hx := eb _ _ hx; replace hm := eb _ _ hm; replace ha := eb _ _ ha
    have B1b := B1a.trans (But.ofEx eb)
    clear ja ea eb hd1 hl0 hg
    walk_at "w"
    refine aSFld.go (ks := lotKs) jb hx hC.c (hC.n _ (by simp [lotKs])) lotKs_n rfl (by decide) fun Gs Hs bs js hx' => ?_
    have B1 := B1b.trans bs
    replace hm := butTup bs hx hm
    replace ha := butTup bs hx ha
    replace hbe' := butTup bs hx hbe'
    replace hx := hx'
    clear hx' bs jb
    walk_at "w"
    refine aLcT.go (fun P' => P' = Pa1) (fun i us G' => us = (((T0.ab).take i).filter fun r => decide (r < p)).map V.int) js rfl ha (fun _ _ => rfl) (fun i us G2 D _ _ hd h => h) (fun i us G2 h => ?_) ?_ ?_
    · rw [h, List.length_map]
      have := List.length_filter_le (fun r => decide (r < p)) ((T0.ab).take i)
      rw [List.length_take] at this
      have := hT.al
      omega
    · intro i z us Gi Pi Hi R R0 hz ei hI hP ji kR kR0
      subst hP
      obtain ⟨k, hk, rfl⟩ := int_at hz
      have hxi := ei _ _ hx
      walk_at "w"
      refine ⟨rfl, ?_⟩
      walk_at "w"
      refine aFld.go (ks := lotKs) (i := 0) ji hxi hC.c (hC.n _ (by simp [lotKs])) lotKs_n rfl rfl ?_
      walk_at "w"
      by_cases hc : k < p
      · refine itT hc ?_
        walk_at "w"
        refine kR _ _ _ Hi (Ex.refl _) rfl ji ?_
        rw [hI, take_more hk, List.filter_append, List.map_append, List.filter_cons_of_pos (by simpa using hc)]; rfl
      · refine itF hc ?_
        walk_at "w"
        refine kR0 _ _ Hi (Ex.refl _) rfl ji ?_
        rw [hI, take_more hk, List.filter_append, List.filter_cons_of_neg (by simpa using hc)]; simp
    intro l2 us Ga Pa2 Ha hl0 ea hd1 hI hP ja
    subst hP
    rw [List.length_map, List.take_length] at hI
    subst hI
    replace hx := ea _ _ hx; replace hm := ea _ _ hm; replace hbe' := ea _ _ hbe'
    have B2a := B1.trans (But.ofEx ea)
    walk_at "w"
    refine tupOf_go ja hd1 fun tab Gb Hb hg eb jb hab' => ?_
    replace hx := eb _ _ hx; replace hm := eb _ _ hm; replace hbe' := eb _ _ hbe'
    have B2b := B2a.trans (But.ofEx eb)
    clear ja ea eb hd1 hl0 hg
    walk_at "w"
    refine aSFld.go (ks := lotKs) jb hx hC.c (hC.n _ (by simp [lotKs])) lotKs_n rfl (by decide) fun Gs Hs bs js hx' => ?_
    have B2 := B2b.trans bs
    replace hm := butTup bs hx hm
    replace hbe' := butTup bs hx hbe'
    replace hab' := butTup bs hx hab'
    replace hx := hx'
    clear hx' bs jb
    clear ha
    walk_at "w"
    have hAs := ltF_asc hT hp.1
    have hlb : (ltF T0.be p).length ≤ 100000 := Nat.le_trans (List.length_filter_le _ _) hT.bl
    have hla : (ltF T0.ab p).length ≤ 100000 := Nat.le_trans (List.length_filter_le _ _) hT.al
    have hp1 := hp.1
    have hp2 := hp.2.1
    have hs2 := hT.s2
    change Gs tbe = some (HO.tup ((ltF T0.be p).map V.int)) at hbe'
    change Gs tab = some (HO.tup ((ltF T0.ab p).map V.int)) at hab'
    refine aFld.go (ks := lotKs) (i := 1) js hx hC.c (hC.n _ (by simp [lotKs])) lotKs_n rfl rfl ?_
    walk_at "w"
    refine ⟨_, ltF T0.be p, _, Pa2, rfl, js, hbe', ascI_nodup hAs.1, hlb, fun db G11 H11 hd e11 j11 hdb => ?_⟩
    replace hx := e11 _ _ hx; replace hm := e11 _ _ hm; replace hbe' := e11 _ _ hbe'; replace hab' := e11 _ _ hab'
    have B11 := B2.trans (But.ofEx e11)
    clear js hd e11
    walk_at "w"
    refine aSFld.go (ks := lotKs) j11 hx hC.c (hC.n _ (by simp [lotKs])) lotKs_n rfl (by decide) fun G12 H12 bs js' hx' => ?_
    have B12 := B11.trans bs
    replace hm := butTup bs hx hm
    replace hbe' := butTup bs hx hbe'
    replace hab' := butTup bs hx hab'
    replace hdb := butDk bs hx hdb
    replace hx := hx'
    clear j11 bs hx'
    have js := js'; clear js'
    walk_at "w"
    refine aFld.go (ks := lotKs) (i := 2) js hx hC.c (hC.n _ (by simp [lotKs])) lotKs_n rfl rfl ?_
    walk_at "w"
    refine ⟨_, ltF T0.ab p, _, Pa2, rfl, js, hab', ascI_nodup hAs.2, hla, fun da G13 H13 hd e13 j13 hda => ?_⟩
    replace hx := e13 _ _ hx; replace hm := e13 _ _ hm; replace hbe' := e13 _ _ hbe'; replace hab' := e13 _ _ hab'; replace hdb := e13 _ _ hdb
    have B13 := B12.trans (But.ofEx e13)
    clear js hd e13
    walk_at "w"
    refine aSFld.go (ks := lotKs) j13 hx hC.c (hC.n _ (by simp [lotKs])) lotKs_n rfl (by decide) fun G14 H14 bs js' hx' => ?_
    have B14 := B13.trans bs
    replace hm := butTup bs hx hm
    replace hbe' := butTup bs hx hbe'
    replace hab' := butTup bs hx hab'
    replace hdb := butDk bs hx hdb
    replace hda := butDk bs hx hda
    replace hx := hx'
    clear j13 bs hx'
    have js := js'; clear js'
    walk_at "w"
    refine aFld.go (ks := lotKs) (i := 0) js hx hC.c (hC.n _ (by simp [lotKs])) lotKs_n rfl rfl ?_
    walk_at "w"
    refine aFld.go (ks := lotKs) (i := 3) js hx hC.c (hC.n _ (by simp [lotKs])) lotKs_n rfl rfl ?_
    walk_at "w"
    refine aFld.go (ks := lotKs) (i := 4) js hx hC.c (hC.n _ (by simp [lotKs])) lotKs_n rfl rfl ?_
    walk_at "w"
    refine ⟨T0.lo, T0.hi, p, tm, db, da, T0.ms, ltF T0.be p, ltF T0.ab p, _, Pa2, rfl, js, hm, hdb, hda, hT.ms, hT.ml, hT.h1, hT.h2, hp1, by omega, fun t Ga Ha t1 t2 t3 ea ja => ?_, fun Ga Ha t2 ea ja => ?_⟩
    · replace hx := ea _ _ hx; replace hm := ea _ _ hm; replace hbe' := ea _ _ hbe'; replace hab' := ea _ _ hab'; replace hdb := ea _ _ hdb; replace hda := ea _ _ hda
      have Bt := B14.trans (But.ofEx ea)
      clear js ea
      have js := ja; clear ja
      walk_at "w"
      refine itF (fun h => by cases h) ?_
      walk_at "w"
      refine aFld.go (ks := lotKs) (i := 0) js hx hC.c (hC.n _ (by simp [lotKs])) lotKs_n rfl rfl ?_
      walk_at "w"
      refine aFld.go (ks := lotKs) (i := 3) js hx hC.c (hC.n _ (by simp [lotKs])) lotKs_n rfl rfl ?_
      walk_at "w"
      refine ⟨T0.lo, T0.hi, p, tm, db, T0.ms, ltF T0.be p, ltF T0.ab p, t, _, Pa2, rfl, js, hm, hdb, hT.ms, hT.ml, hT.h1, t1, hp1, fun l Ga2 Ha2 l1 l2 l3 ea ja => ?_⟩
      replace hx := ea _ _ hx; replace hm := ea _ _ hm; replace hbe' := ea _ _ hbe'; replace hab' := ea _ _ hab'; replace hdb := ea _ _ hdb; replace hda := ea _ _ hda
      have Bu := Bt.trans (But.ofEx ea)
      clear js ea
      have js := ja; clear ja
      have hok := kept_some hT hp t1 t2 t3 l1 l2 l3
      clear t1 t2 t3 l1 l2 l3
      walk_at "w"
      refine aSFld.go (ks := lotKs) js hx hC.c (hC.n _ (by simp [lotKs])) lotKs_n rfl (by decide) fun G15 H15 bs js' hx' => ?_
      have B15 := Bu.trans bs
      replace hm := butTup bs hx hm
      replace hbe' := butTup bs hx hbe'
      replace hab' := butTup bs hx hab'
      replace hdb := butDk bs hx hdb
      replace hda := butDk bs hx hda
      replace hx := hx'
      clear js bs hx'
      have js := js'; clear js'
      walk_at "w"
      refine aSFld.go (ks := lotKs) js hx hC.c (hC.n _ (by simp [lotKs])) lotKs_n rfl (by decide) fun G16 H16 bs js' hx' => ?_
      have B16 := B15.trans bs
      replace hm := butTup bs hx hm
      replace hbe' := butTup bs hx hbe'
      replace hab' := butTup bs hx hab'
      replace hdb := butDk bs hx hdb
      replace hda := butDk bs hx hda
      replace hx := hx'
      clear js bs hx'
      have js := js'; clear js'
      walk_at "w"
      refine aLcT.go (fun P' => P' = Pa2) (fun i us G' => us = (((T0.ms).take i).filter fun r => decide (l ≤ r ∧ r < t)).map V.int) js rfl hm (fun _ _ => rfl) (fun i us G2 D _ _ hd h => h) (fun i us G2 h => ?_) ?_ ?_
      · rw [h, List.length_map]
        have := List.length_filter_le (fun r => decide (l ≤ r ∧ r < t)) ((T0.ms).take i)
        rw [List.length_take] at this
        have := hT.ml
        omega
      · intro i z us Gi Pi Hi R R0 hz ei hI hP ji kR kR0
        subst hP
        obtain ⟨k, hk, rfl⟩ := int_at hz
        have hxi := ei _ _ hx
        walk_at "w"
        refine ⟨rfl, ?_⟩
        walk_at "w"
        refine aFld.go (ks := lotKs) (i := 5) ji hxi hC.c (hC.n _ (by simp [lotKs])) lotKs_n rfl rfl ?_
        walk_at "w"
        by_cases hc : l ≤ k
        · refine itT hc ?_
          walk_at "w"
          refine aFld.go (ks := lotKs) (i := 6) ji hxi hC.c (hC.n _ (by simp [lotKs])) lotKs_n rfl rfl ?_
          walk_at "w"
          by_cases hc2 : k < t
          · refine itT hc2 ?_
            walk_at "w"
            refine kR _ _ _ Hi (Ex.refl _) rfl ji ?_
            rw [hI, take_more hk, List.filter_append, List.map_append, List.filter_cons_of_pos (p := fun r => decide (l ≤ r ∧ r < t)) (show decide (l ≤ k ∧ k < t) = true from decide_eq_true ⟨hc, hc2⟩)]; rfl
          · refine itF hc2 ?_
            walk_at "w"
            refine kR0 _ _ Hi (Ex.refl _) rfl ji ?_
            rw [hI, take_more hk, List.filter_append, List.filter_cons_of_neg (fun h => hc2 (of_decide_eq_true h).2)]; simp
        · refine itF hc ?_
          walk_at "w"
          refine kR0 _ _ Hi (Ex.refl _) rfl ji ?_
          rw [hI, take_more hk, List.filter_append, List.filter_cons_of_neg (fun h => hc (of_decide_eq_true h).1)]; simp
      intro lq us Gq Pq Hq hl0 ea hd1 hI hP ja
      subst hP
      rw [List.length_map, List.take_length] at hI
      subst hI
      replace hx := ea _ _ hx; replace hm := ea _ _ hm; replace hbe' := ea _ _ hbe'; replace hab' := ea _ _ hab'; replace hdb := ea _ _ hdb; replace hda := ea _ _ hda
      have Bq := B16.trans (But.ofEx ea)
      walk_at "w"
      refine tupOf_go ja hd1 fun tms Gr Hr hg eb jb hms => ?_
      replace hx := eb _ _ hx; replace hm := eb _ _ hm; replace hbe' := eb _ _ hbe'; replace hab' := eb _ _ hab'; replace hdb := eb _ _ hdb; replace hda := eb _ _ hda
      have Br := Bq.trans (But.ofEx eb)
      clear ja ea eb hd1 hl0 hg Bq js
      change Gr tms = some (HO.tup ((inF T0.ms l t).map V.int)) at hms
      walk_at "w"
      refine aSFld.go (ks := lotKs) jb hx hC.c (hC.n _ (by simp [lotKs])) lotKs_n rfl (by decide) fun G17 H17 bs js' hx' => ?_
      have B17 := Br.trans bs
      replace hbe' := butTup bs hx hbe'
      replace hab' := butTup bs hx hab'
      replace hdb := butDk bs hx hdb
      replace hda := butDk bs hx hda
      replace hms := butTup bs hx hms
      replace hx := hx'
      clear jb bs hx'
      have js := js'; clear js'
      walk_at "w"
      refine aFld.go (ks := lotKs) (i := 7) js hx hC.c (hC.n _ (by simp [lotKs])) lotKs_n rfl rfl ?_
      walk_at "w"
      refine ⟨_, inF T0.ms l t, _, Pq, rfl, js, hms, ascI_nodup hok.1.ms, hok.1.ml, fun dm G18 H18 hd e18 j18 hdm => ?_⟩
      replace hx := e18 _ _ hx; replace hbe' := e18 _ _ hbe'; replace hab' := e18 _ _ hab'; replace hdb := e18 _ _ hdb; replace hda := e18 _ _ hda; replace hms := e18 _ _ hms
      have B18 := B17.trans (But.ofEx e18)
      clear js hd e18
      walk_at "w"
      refine aSFld.go (ks := lotKs) j18 hx hC.c (hC.n _ (by simp [lotKs])) lotKs_n rfl (by decide) fun G19 H19 bs js' hx' => ?_
      have B19 := B18.trans bs
      replace hbe' := butTup bs hx hbe'
      replace hab' := butTup bs hx hab'
      replace hdb := butDk bs hx hdb
      replace hda := butDk bs hx hda
      replace hms := butTup bs hx hms
      replace hdm := butDk bs hx hdm
      replace hx := hx'
      clear j18 bs hx'
      have js := js'; clear js'
      walk_at "w"
      exact q _ _ _ B19 js hok.1 hok.2.1 hok.2.2 ⟨dx, tbe, tab, db, da, tms, dm, hC, hx, hbe', hab', hdb, hda, hms, hdm⟩
    · replace hx := ea _ _ hx; replace hm := ea _ _ hm; replace hbe' := ea _ _ hbe'; replace hab' := ea _ _ hab'; replace hdb := ea _ _ hdb; replace hda := ea _ _ hda
      have Bt := B14.trans (But.ofEx ea)
      clear js ea
      have js := ja; clear ja
      have hok := kept_none hT hp t2
      clear t2
      walk_at "w"
      refine itT rfl ?_
      walk_at "w"
      refine aSFld.go (ks := lotKs) js hx hC.c (hC.n _ (by simp [lotKs])) lotKs_n rfl (by decide) fun G20 H20 bs js' hx' => ?_
      have B20 := Bt.trans bs
      replace hm := butTup bs hx hm
      replace hbe' := butTup bs hx hbe'
      replace hab' := butTup bs hx hab'
      replace hdb := butDk bs hx hdb
      replace hda := butDk bs hx hda
      replace hx := hx'
      clear js bs hx'
      have js := js'; clear js'
      walk_at "w"
      refine aSFld.go (ks := lotKs) js hx hC.c (hC.n _ (by simp [lotKs])) lotKs_n rfl (by decide) fun G21 H21 bs js' hx' => ?_
      have B21 := B20.trans bs
      replace hm := butTup bs hx hm
      replace hbe' := butTup bs hx hbe'
      replace hab' := butTup bs hx hab'
      replace hdb := butDk bs hx hdb
      replace hda := butDk bs hx hda
      replace hx := hx'
      clear js bs hx'
      have js := js'; clear js'
      walk_at "w"
      refine aLcT.go (fun P' => P' = Pa2) (fun i us G' => us = (((T0.ms).take i).filter fun r => decide ((0 : Int) ≤ r ∧ r < (0 : Int))).map V.int) js rfl hm (fun _ _ => rfl) (fun i us G2 D _ _ hd h => h) (fun i us G2 h => ?_) ?_ ?_
      · rw [h, List.length_map]
        have := List.length_filter_le (fun r => decide ((0 : Int) ≤ r ∧ r < (0 : Int))) ((T0.ms).take i)
        rw [List.length_take] at this
        have := hT.ml
        omega
      · intro i z us Gi Pi Hi R R0 hz ei hI hP ji kR kR0
        subst hP
        obtain ⟨k, hk, rfl⟩ := int_at hz
        have hxi := ei _ _ hx
        walk_at "w"
        refine ⟨rfl, ?_⟩
        walk_at "w"
        refine aFld.go (ks := lotKs) (i := 5) ji hxi hC.c (hC.n _ (by simp [lotKs])) lotKs_n rfl rfl ?_
        walk_at "w"
        by_cases hc : (0 : Int) ≤ k
        · refine itT hc ?_
          walk_at "w"
          refine aFld.go (ks := lotKs) (i := 6) ji hxi hC.c (hC.n _ (by simp [lotKs])) lotKs_n rfl rfl ?_
          walk_at "w"
          by_cases hc2 : k < (0 : Int)
          · refine itT hc2 ?_
            walk_at "w"
            refine kR _ _ _ Hi (Ex.refl _) rfl ji ?_
            rw [hI, take_more hk, List.filter_append, List.map_append, List.filter_cons_of_pos (p := fun r => decide ((0 : Int) ≤ r ∧ r < (0 : Int))) (show decide ((0 : Int) ≤ k ∧ k < (0 : Int)) = true from decide_eq_true ⟨hc, hc2⟩)]; rfl
          · refine itF hc2 ?_
            walk_at "w"
            refine kR0 _ _ Hi (Ex.refl _) rfl ji ?_
            rw [hI, take_more hk, List.filter_append, List.filter_cons_of_neg (fun h => hc2 (of_decide_eq_true h).2)]; simp
        · refine itF hc ?_
          walk_at "w"
          refine kR0 _ _ Hi (Ex.refl _) rfl ji ?_
          rw [hI, take_more hk, List.filter_append, List.filter_cons_of_neg (fun h => hc (of_decide_eq_true h).1)]; simp
      intro lq us Gq Pq Hq hl0 ea hd1 hI hP ja
      subst hP
      rw [List.length_map, List.take_length] at hI
      subst hI
      replace hx := ea _ _ hx; replace hm := ea _ _ hm; replace hbe' := ea _ _ hbe'; replace hab' := ea _ _ hab'; replace hdb := ea _ _ hdb; replace hda := ea _ _ hda
      have Bq := B21.trans (But.ofEx ea)
      walk_at "w"
      refine tupOf_go ja hd1 fun tms Gr Hr hg eb jb hms => ?_
      replace hx := eb _ _ hx; replace hm := eb _ _ hm; replace hbe' := eb _ _ hbe'; replace hab' := eb _ _ hab'; replace hdb := eb _ _ hdb; replace hda := eb _ _ hda
      have Br := Bq.trans (But.ofEx eb)
      clear ja ea eb hd1 hl0 hg Bq js
      change Gr tms = some (HO.tup ((inF T0.ms (0 : Int) (0 : Int)).map V.int)) at hms
      walk_at "w"
      refine aSFld.go (ks := lotKs) jb hx hC.c (hC.n _ (by simp [lotKs])) lotKs_n rfl (by decide) fun G22 H22 bs js' hx' => ?_
      have B22 := Br.trans bs
      replace hbe' := butTup bs hx hbe'
      replace hab' := butTup bs hx hab'
      replace hdb := butDk bs hx hdb
      replace hda := butDk bs hx hda
      replace hms := butTup bs hx hms
      replace hx := hx'
      clear jb bs hx'
      have js := js'; clear js'
      walk_at "w"
      refine aFld.go (ks := lotKs) (i := 7) js hx hC.c (hC.n _ (by simp [lotKs])) lotKs_n rfl rfl ?_
      walk_at "w"
      refine ⟨_, inF T0.ms (0 : Int) (0 : Int), _, Pq, rfl, js, hms, ascI_nodup hok.1.ms, hok.1.ml, fun dm G23 H23 hd e23 j23 hdm => ?_⟩
      replace hx := e23 _ _ hx; replace hbe' := e23 _ _ hbe'; replace hab' := e23 _ _ hab'; replace hdb := e23 _ _ hdb; replace hda := e23 _ _ hda; replace hms := e23 _ _ hms
      have B23 := B22.trans (But.ofEx e23)
      clear js hd e23
      walk_at "w"
      refine aSFld.go (ks := lotKs) j23 hx hC.c (hC.n _ (by simp [lotKs])) lotKs_n rfl (by decide) fun G24 H24 bs js' hx' => ?_
      have B24 := B23.trans bs
      replace hbe' := butTup bs hx hbe'
      replace hab' := butTup bs hx hab'
      replace hdb := butDk bs hx hdb
      replace hda := butDk bs hx hda
      replace hms := butTup bs hx hms
      replace hdm := butDk bs hx hdm
      replace hx := hx'
      clear j23 bs hx'
      have js := js'; clear js'
      walk_at "w"
      exact q _ _ _ B24 js hok.1 hok.2.1 hok.2.2 ⟨dx, tbe, tab, db, da, tms, dm, hC, hx, hbe', hab', hdb, hda, hms, hdm⟩
end X

namespace X
open PySem PySem.Spec PyProof.Rows L2 Lv
variable {P : Program} {w : World} {K : PySem.W.Frag} {mg : Str → Option Value} {base : Heap}
section
variable {G P' H : Hp} {p : Addr} {L : LP} {Q : VK}
theorem lfStep (J : Join G P' H) (h : LotAt K G p L) (q : Q (.int L.st) H) : aFld K "step" (.ref p) H Q := by
  obtain ⟨C, dx, tb, ta, db, da, tm, dm, hC, hx, h3, h4, h5, h6, h7, h8⟩ := h
  exact aFld.go (ks := lotKs) (i := 0) J hx hC.c (hC.n _ (by simp [lotKs])) lotKs_n rfl rfl q
theorem lfLow (J : Join G P' H) (h : LotAt K G p L) (q : Q (.int L.lo) H) : aFld K "low" (.ref p) H Q := by
  obtain ⟨C, dx, tb, ta, db, da, tm, dm, hC, hx, h3, h4, h5, h6, h7, h8⟩ := h
  exact aFld.go (ks := lotKs) (i := 5) J hx hC.c (hC.n _ (by simp [lotKs])) lotKs_n rfl rfl q
theorem lfHigh (J : Join G P' H) (h : LotAt K G p L) (q : Q (.int L.hi) H) : aFld K "high" (.ref p) H Q := by
  obtain ⟨C, dx, tb, ta, db, da, tm, dm, hC, hx, h3, h4, h5, h6, h7, h8⟩ := h
  exact aFld.go (ks := lotKs) (i := 6) J hx hC.c (hC.n _ (by simp [lotKs])) lotKs_n rfl rfl q
theorem lfBelow (J : Join G P' H) (h : LotAt K G p L) (q : ∀ t, G t = some (.tup (L.be.map V.int)) → Q (.ref t) H) : aFld K "below" (.ref p) H Q := by
  obtain ⟨C, dx, tb, ta, db, da, tm, dm, hC, hx, h3, h4, h5, h6, h7, h8⟩ := h
  exact aFld.go (ks := lotKs) (i := 1) J hx hC.c (hC.n _ (by simp [lotKs])) lotKs_n rfl rfl (q _ h3)
theorem lfAbove (J : Join G P' H) (h : LotAt K G p L) (q : ∀ t, G t = some (.tup (L.ab.map V.int)) → Q (.ref t) H) : aFld K "above" (.ref p) H Q := by
  obtain ⟨C, dx, tb, ta, db, da, tm, dm, hC, hx, h3, h4, h5, h6, h7, h8⟩ := h
  exact aFld.go (ks := lotKs) (i := 2) J hx hC.c (hC.n _ (by simp [lotKs])) lotKs_n rfl rfl (q _ h4)
theorem lfMembers (J : Join G P' H) (h : LotAt K G p L) (q : ∀ t, G t = some (.tup (L.ms.map V.int)) → Q (.ref t) H) : aFld K "members" (.ref p) H Q := by
  obtain ⟨C, dx, tb, ta, db, da, tm, dm, hC, hx, h3, h4, h5, h6, h7, h8⟩ := h
  exact aFld.go (ks := lotKs) (i := 7) J hx hC.c (hC.n _ (by simp [lotKs])) lotKs_n rfl rfl (q _ h7)
theorem lfHBelow (J : Join G P' H) (h : LotAt K G p L) (q : ∀ t, G t = some (.dK (keyP L.be)) → Q (.ref t) H) : aFld K "has_below" (.ref p) H Q := by
  obtain ⟨C, dx, tb, ta, db, da, tm, dm, hC, hx, h3, h4, h5, h6, h7, h8⟩ := h
  exact aFld.go (ks := lotKs) (i := 3) J hx hC.c (hC.n _ (by simp [lotKs])) lotKs_n rfl rfl (q _ h5)
theorem lfHAbove (J : Join G P' H) (h : LotAt K G p L) (q : ∀ t, G t = some (.dK (keyP L.ab)) → Q (.ref t) H) : aFld K "has_above" (.ref p) H Q := by
  obtain ⟨C, dx, tb, ta, db, da, tm, dm, hC, hx, h3, h4, h5, h6, h7, h8⟩ := h
  exact aFld.go (ks := lotKs) (i := 4) J hx hC.c (hC.n _ (by simp [lotKs])) lotKs_n rfl rfl (q _ h6)
theorem lfHMembers (J : Join G P' H) (h : LotAt K G p L) (q : ∀ t, G t = some (.dK (keyP L.ms)) → Q (.ref t) H) : aFld K "has_members" (.ref p) H Q := by
  obtain ⟨C, dx, tb, ta, db, da, tm, dm, hC, hx, h3, h4, h5, h6, h7, h8⟩ := h
  exact aFld.go (ks := lotKs) (i := 8) J hx hC.c (hC.n _ (by simp [lotKs])) lotKs_n rfl rfl (q _ h8)
end
def spLotI (K : PySem.W.Frag) : Sp := fun vs H Q _ => ∃ (x dx tm tb ta : Addr) (T : LP) (G P : Hp), vs = [.ref x, .int T.lo, .int T.hi, .ref tm, .int T.st, .ref tb, .ref ta] ∧ Join G P H ∧ G x = some (.ins (He.ga K "Lot") dx []) ∧ LpOk T ∧ T.hi ≤ T.lo + 100000 ∧
  G tm = some (.tup (T.ms.map V.int)) ∧ G tb = some (.tup (T.be.map V.int)) ∧ G ta = some (.tup (T.ab.map V.int)) ∧
  ∀ L G' H', But x G G' → Join G' P H' → LpOk L → Least L → (∀ y, L.has y = T.has y) → LotIs K (He.ga K "Lot") G' x L → Q .non H'
theorem sc_Lot_init : FnScope ["self", "low", "high", "members", "step", "below", "above"] ["self", "low", "high", "members", "step", "below", "above"] (defScope s_Lot_init) := ⟨rfl, rfl, rfl, by decide +kernel, rfl, by decide +kernel, by decide +kernel⟩
theorem ok_Lot_init (T : Txt K mg) {fd_is_integer : FuncData} (G_is_integer : Dn P w K mg base (L2.CX P w) 1 "is_integer" ["thing"] (sp_is_integer K) fd_is_integer) {fd_is_within : FuncData} (G_is_within : Dn P w K mg base (L2.CX P w) 2 "is_within" ["thing", "least", "most"] (sp_is_within K) fd_is_within) {fd_is_rising : FuncData} (G_is_rising : Dn P w K mg base (L2.CX P w) 3 "is_rising" ["thing", "least", "most"] (spRising K) fd_is_rising) {fd_is_ascending : FuncData} (G_is_ascending : Dn P w K mg base (L2.CX P w) 3 "is_ascending" ["thing", "many"] (spAscI K) fd_is_ascending) {fd_Lot_keep : FuncData} (G_Lot_keep : Dm P w K mg base (L2.CX P w) 4 "Lot" "keep" ["self", "low", "high", "members", "step", "below", "above"] (spKeepL K) fd_Lot_keep) : ∃ fd, Dm P w K mg base (L2.CX P w) 5 "Lot" "__init__" ["self", "low", "high", "members", "step", "below", "above"] (spLotI K) fd := by
  obtain ⟨fd, F⟩ := T.d_Lot_init
  refine ⟨fd, F.ok sc_Lot_init (fun vs H Q E h => ?_) (fun cdv A outer s H vs Q E hr h => ?_), F.bindsN fun _ _ _ _ _ _ us hl => match us, hl with | [_, _, _, _, _, _, _], _ => rfl, Lv.fun_lk F⟩
  · obtain ⟨_, _, _, _, _, _, _, _, rfl, _⟩ := h
    rfl
  · have hu := hu_of hr
    have hr_is_integer : Room 1 _ := hr.mono (by decide)
    have hr_is_within : Room 2 _ := hr.mono (by decide)
    have hr_is_rising : Room 3 _ := hr.mono (by decide)
    have hr_is_ascending : Room 3 _ := hr.mono (by decide)
    have hr_Lot_keep : Room 4 _ := hr.mono (by decide)
    refine ⟨_, PSs.nox (pss_cons (ps_if (pt_not (pt_val (pe_call G_is_integer.ok hr_is_integer rfl G_is_integer.mg G_is_integer.kp G_is_integer.b .nil passL (pa_cons (pv 1) pa_nil)))) (pss_one ps_never) pss_nil)
      (pss_cons (ps_if (pt_not (pt_val (pe_call G_is_within.ok hr_is_within rfl G_is_within.mg G_is_within.kp G_is_within.b .nil passL (pa_cons (pv 2) (pa_cons (pv 1) (pa_cons (pe_op op_add (pv 1) (pe_glob (v := .int (100000)) rfl T.i_MOST_APART.choose_spec ⟨_, rfl⟩)) pa_nil)))))) (pss_one ps_never) pss_nil)
      (pss_cons (ps_if (pt_not (pt_val (pe_call G_is_rising.ok hr_is_rising rfl G_is_rising.mg G_is_rising.kp G_is_rising.b .nil passL (pa_cons (pv 3) (pa_cons (pv 1) (pa_cons (pe_op op_sub (pv 2) pe_int) pa_nil)))))) (pss_one ps_never) pss_nil)
      (pss_cons (ps_if (pt_not (pt_val (pe_call G_is_within.ok hr_is_within rfl G_is_within.mg G_is_within.kp G_is_within.b .nil passL (pa_cons (pv 4) (pa_cons pe_int (pa_cons (pe_glob (v := .int (4000)) rfl T.i_MOST_STEP.choose_spec ⟨_, rfl⟩) pa_nil)))))) (pss_one ps_never) pss_nil)
      (pss_cons (ps_if (pt_not (pt_val (pe_call G_is_ascending.ok hr_is_ascending rfl G_is_ascending.mg G_is_ascending.kp G_is_ascending.b .nil passL (pa_cons (pv 5) (pa_cons (pv 4) pa_nil))))) (pss_one ps_never) pss_nil)
      (pss_cons (ps_if (pt_not (pt_val (pe_call G_is_ascending.ok hr_is_ascending rfl G_is_ascending.mg G_is_ascending.kp G_is_ascending.b .nil passL (pa_cons (pv 6) (pa_cons (pv 4) pa_nil))))) (pss_one ps_never) pss_nil)
      (pss_one (ps_expr (pe_meth (pv 0) T.c_Lot T.me_Lot_keep G_Lot_keep.ok hr_Lot_keep G_Lot_keep.b .nil passL (pa_cons (pv 1) (pa_cons (pv 2) (pa_cons (pv 3) (pa_cons (pv 4) (pa_cons (pv 5) (pa_cons (pv 6) pa_nil))))))))))))))), ?_⟩
    obtain ⟨x, dx, tm, tb, ta, T0, G, P0, rfl, j, hx, hT, t2, hm, hb, ha, q⟩ := h
    have t1 := hT.h1
    have t3 := hT.s1
    have t4 := hT.s2
    walk_at "w"
    refine ⟨_, rfl, ?_⟩
    walk_at "w"
    refine ⟨_, _, _, rfl, ?_⟩
    rw [decide_eq_true ⟨t1, by omega⟩]
    walk_at "w"
    refine ⟨tm, _, _, T0.ms, G, P0, rfl, j, hm, hT.ms, hT.ml, fun G1 H1 e1 j1 => ?_⟩
    replace hx := e1 _ _ hx; replace hm := e1 _ _ hm; replace hb := e1 _ _ hb; replace ha := e1 _ _ ha
    have B1 : But x G G1 := But.ofEx e1
    clear e1 j
    walk_at "w"
    refine ⟨_, _, _, rfl, ?_⟩
    rw [decide_eq_true ⟨t3, by omega⟩]
    walk_at "w"
    refine ⟨tb, _, T0.be, G1, P0, rfl, j1, hb, hT.be, hT.bl, fun G2 H2 e2 j2 => ?_⟩
    replace hx := e2 _ _ hx; replace hm := e2 _ _ hm; replace hb := e2 _ _ hb; replace ha := e2 _ _ ha
    have B2 := B1.trans (But.ofEx e2)
    clear e2 j1
    walk_at "w"
    refine ⟨ta, _, T0.ab, G2, P0, rfl, j2, ha, hT.ab, hT.al, fun G3 H3 e3 j3 => ?_⟩
    replace hx := e3 _ _ hx; replace hm := e3 _ _ hm; replace hb := e3 _ _ hb; replace ha := e3 _ _ ha
    have B3 := B2.trans (But.ofEx e3)
    clear e3 j2
    walk_at "w"
    refine aMeth.go j3 hx rfl ?_
    walk_at "w"
    exact ⟨x, _, dx, tm, tb, ta, T0, G3, P0, rfl, lc_L T, j3, hx, hT, hm, hb, ha, fun L G' H' b j' l1 l2 l3 l4 => q L G' H' (B3.trans b) j' l1 l2 l3 l4⟩
def sp_checkint (K : PySem.W.Frag) : Sp := fun vs H Q _ => ∃ n : Int, vs = [.int n] ∧ Q .non H
theorem sc_check_integer : FnScope ["thing"] ["thing"] (defScope s_check_integer) := ⟨rfl, rfl, rfl, by decide +kernel, rfl, by decide +kernel, by decide +kernel⟩
theorem ok_check_integer (T : Txt K mg) {fd_is_integer : FuncData} (G_is_integer : Dn P w K mg base (L2.CX P w) 1 "is_integer" ["thing"] (sp_is_integer K) fd_is_integer) : ∃ fd, Dn P w K mg base (L2.CX P w) 3 "check_integer" ["thing"] (sp_checkint K) fd := by
  obtain ⟨fd, F⟩ := T.d_check_integer
  refine ⟨fd, F.ok sc_check_integer (fun vs H Q E h => ?_) (fun cdv A outer s H vs Q E hr h => ?_), T.g_check_integer, F.kp, F.bindsN fun _ _ _ _ _ _ us hl => match us, hl with | [_], _ => rfl, Lv.fun_lk F⟩
  · obtain ⟨_, rfl, _⟩ := h
    rfl
  · have hu := hu_of hr
    have hr_is_integer : Room 1 _ := hr.mono (by decide)
    refine ⟨_, PSs.nox (pss_one (ps_if (pt_not (pt_val (pe_call G_is_integer.ok hr_is_integer rfl G_is_integer.mg G_is_integer.kp G_is_integer.b .nil passL (pa_cons (pv 0) pa_nil)))) (pss_one ps_never) pss_nil)), ?_⟩
    obtain ⟨n, rfl, q⟩ := h
    walk_at "w"
    refine ⟨_, rfl, ?_⟩
    walk_at "w"
    exact q
def spHasL (K : PySem.W.Frag) : Sp := fun vs H Q _ => ∃ (p : Addr) (x : Int) (L : LP) (G P : Hp), vs = [.ref p, .int x] ∧ Join G P H ∧ LotAt K G p L ∧ LpOk L ∧ Q (.bl (L.has x)) H
end X

namespace X
open PySem PySem.Spec PyProof.Rows L2 Lv
variable {P : Program} {w : World} {K : PySem.W.Frag} {mg : Str → Option Value} {base : Heap}
def spNextA (K : PySem.W.Frag) : Sp := fun vs H Q _ => ∃ (p : Addr) (L : LP) (n : Int) (G P : Hp), vs = [.ref p, .int n] ∧ Join G P H ∧ LotAt K G p L ∧ LpOk L ∧
  (∀ r G' H', n < r → L.has r = true → (∀ y, n < y → y < r → L.has y = false) → Ex G G' → Join G' P H' → Q (.int r) H') ∧ (∀ G' H', (∀ y, n < y → L.has y = false) → Ex G G' → Join G' P H' → Q .non H')
theorem sc_next_above_of : FnScope ["lot", "number", "at", "item"] ["lot", "number"] (defScope s_next_above_of) := ⟨rfl, rfl, rfl, by decide +kernel, rfl, by decide +kernel, by decide +kernel⟩
theorem ok_next_above_of (T : Txt K mg) : ∃ fd, Dn P w K mg base (L2.CX P w) 2 "next_above_of" ["lot", "number"] (spNextA K) fd := by
  obtain ⟨fd, F⟩ := T.d_next_above_of
  refine ⟨fd, F.ok sc_next_above_of (fun vs H Q E h => ?_) (fun cdv A outer s H vs Q E hr h => ?_), T.g_next_above_of, F.kp, F.bindsN fun _ _ _ _ _ _ us hl => match us, hl with | [_, _], _ => rfl, Lv.fun_lk F⟩
  · obtain ⟨_, _, _, _, _, rfl, _⟩ := h
    rfl
  · have hu := hu_of hr
    refine ⟨_, PSs.nox (pss_cons (ps_set (i := 2) sc_next_above_of.nd rfl (Or.inl rfl) (pe_op op_add (pv 1) pe_int))
      (Evl.pss_cut (ps_if (pt_cmpR op_lt (pv 2) (pe_fld (pv 0) rfl) (nomark _)) (pss_cons (ps_for PassesOwn.never rfl (Lv.pi_rangeW (by rfl) T.n_range (pa_cons (pv 2) (pa_cons (pe_callB (call_min2 rfl) (by rfl) T.n_min (by decide +kernel) (pa_cons (pe_fld (pv 0) rfl) (pa_cons (pe_op op_add (pv 2) (pe_fld (pv 0) rfl)) pa_nil))) pa_nil))) (pg_name (i := 3) sc_next_above_of.nd rfl (Or.inl rfl)) (pss_one (ps_if (pt_cmp (pc_din hu (pe_op op_mod (pv 3) (pe_fld (pv 0) rfl)) (pe_fld (pv 0) rfl))) (pss_one (ps_ret (pv 3))) pss_nil)))
      (pss_one (ps_set (i := 2) sc_next_above_of.nd rfl (Or.inl rfl) (pe_fld (pv 0) rfl)))) pss_nil)
      (Evl.pss_cut (ps_if (pt_cmpR op_lt (pv 2) (pe_fld (pv 0) rfl) (nomark _)) (pss_cons (ps_for PassesOwn.never rfl (pi_tup (pe_fld (pv 0) rfl)) (pg_name (i := 3) sc_next_above_of.nd rfl (Or.inl rfl)) (pss_one (ps_if (pt_cmpR op_ge (pv 3) (pv 2) (nomark _)) (pss_one (ps_ret (pv 3))) pss_nil)))
      (pss_one (ps_set (i := 2) sc_next_above_of.nd rfl (Or.inl rfl) (pe_fld (pv 0) rfl)))) pss_nil)
      (pss_cons (ps_for PassesOwn.never rfl (Lv.pi_rangeW (by rfl) T.n_range (pa_cons (pv 2) (pa_cons (pe_op op_add (pv 2) (pe_fld (pv 0) rfl)) pa_nil))) (pg_name (i := 3) sc_next_above_of.nd rfl (Or.inl rfl)) (pss_one (ps_if (pt_cmp (pc_din hu (pe_op op_mod (pv 3) (pe_fld (pv 0) rfl)) (pe_fld (pv 0) rfl))) (pss_one (ps_ret (pv 3))) pss_nil)))
      (pss_one (ps_ret pe_non)))))), ?_⟩
    obtain ⟨p, L, n, G, P0, rfl, j, hp, hL, q1, q0⟩ := h
    have s1 := hL.s1
    have s2 := hL.s2
    have lh := hL.h1
    walk_at "w"
    refine ⟨fun σ' H' => ∃ (a : Int) (s3 s4 : Option V), n < a ∧ L.lo ≤ a ∧ (∀ y, n < y → y < a → L.has y = false) ∧ σ' = [some (.ref p), some (.int n), some (.int a), s3] ∧ Join G P0 H', ?_, ?_⟩
    · walk_at "w"
      refine lfLow j hp ?_
      walk_at "w"
      by_cases h0 : n + 1 < L.lo
      · refine itT h0 ?_
        walk_at "w"
        refine lfLow j hp ?_
        walk_at "w"
        refine lfStep j hp ?_
        walk_at "w"
        refine aForR2.go (n := (min L.lo (n + 1 + L.st) - (n + 1)).toNat) rfl (by omega) (fun i G' P' σ' => G' = G ∧ P' = P0 ∧ (∀ y, n < y → y < n + 1 + i → L.has y = false) ∧ ∃ s3 : Option V, σ' = [some (.ref p), some (.int n), some (.int (n + 1)), s3]) j ⟨rfl, rfl, fun y h1 h2 => by omega, none, rfl⟩ ?_ ?_
        · rintro i Gi Pi Hi σ' hi ji ⟨rfl, rfl, hn, s3, rfl⟩
          walk_at "w"
          refine lfStep ji hp ?_
          walk_at "w"
          refine w_rI (by omega) ?_
          walk_at "w"
          refine lfHBelow ji hp fun t ht => ?_
          walk_at "w"
          refine din_go ji ht ?_
          have hh : L.has (n + 1 + i) = decide ((n + 1 + i) % L.st ∈ L.be) := hasL_lo (by omega)
          walk_at "w"
          cases hc : decide ((n + 1 + (i : Int)) % L.st ∈ L.be) with
          | true =>
            refine itBT rfl ?_
            walk_at "w"
            exact q1 _ _ _ (by omega) (hh.trans hc) (fun y h1 h2 => hn y h1 (by omega)) (Ex.refl _) ji
          | false =>
            refine itBF rfl ?_
            walk_at "w"
            refine ⟨_, _, ji, rfl, rfl, fun y h1 h2 => ?_, _, rfl⟩
            by_cases e : y = n + 1 + i
            · rw [e, hh, hc]
            · exact hn y h1 (by omega)
        · rintro Gi Pi Hi σ' ji ⟨rfl, rfl, hn, s3, rfl⟩
          walk_at "w"
          refine lfLow ji hp ?_
          walk_at "w"
          refine ⟨L.lo, _, none, by omega, Int.le_refl _, fun y h1 h2 => ?_, rfl, ji⟩
          by_cases e : y < n + 1 + L.st
          · exact hn y h1 (by omega)
          · obtain ⟨z, z1, z2, z3, z4⟩ := window (st := L.st) (a := n + 1) (x := y) (by omega) (by omega)
            rw [← hasL_be (by omega) h2 z4]
            exact hn z (by omega) (by omega)
      · refine itF h0 ?_
        walk_at "w"
        exact ⟨n + 1, _, none, by omega, by omega, fun y h1 h2 => by omega, rfl, j⟩
    rintro σ' H' ⟨a, s3, s4, a1, a2, hn, rfl, j⟩
    walk_at "w"
    refine ⟨fun σ' H' => ∃ (a : Int) (s3 : Option V), n < a ∧ L.hi ≤ a ∧ (∀ y, n < y → y < a → L.has y = false) ∧ σ' = [some (.ref p), some (.int n), some (.int a), s3] ∧ Join G P0 H', ?_, ?_⟩
    · walk_at "w"
      refine lfHigh j hp ?_
      walk_at "w"
      by_cases h0 : a < L.hi
      · refine itT h0 ?_
        walk_at "w"
        refine lfMembers j hp fun t ht => ?_
        walk_at "w"
        refine aForT.go (fun i G' P' σ' => G' = G ∧ P' = P0 ∧ (∀ k x, k < i → L.ms[k]? = some x → x < a) ∧ ∃ s3 : Option V, σ' = [some (.ref p), some (.int n), some (.int a), s3]) j ht ⟨rfl, rfl, fun k x h1 h2 => by omega, _, rfl⟩ (fun i G' P' σ' h => h.1 ▸ ht) ?_ ?_
        · rintro i z Gi Pi Hi σ' hz ji ⟨rfl, rfl, hm, s3, rfl⟩
          obtain ⟨x, hx, rfl⟩ := int_at hz
          walk_at "w"
          by_cases hc : a ≤ x
          · refine itT hc ?_
            walk_at "w"
            have hxm := List.mem_of_getElem? hx
            have hxb := hL.ms.1 x hxm
            refine q1 _ _ _ (by omega) ((hasL_mid (by omega) (by omega)).trans (decide_eq_true hxm)) (fun y h1 h2 => ?_) (Ex.refl _) ji
            by_cases e : y < a
            · exact hn y h1 e
            · refine (hasL_mid (by omega) (by omega)).trans (decide_eq_false fun hy => ?_)
              obtain ⟨k, hk, rfl⟩ := List.mem_iff_getElem.mp hy
              obtain ⟨b1, b2⟩ := List.getElem?_eq_some_iff.mp hx
              by_cases hki : k < i
              · have := hm k _ hki (List.getElem?_eq_getElem hk); omega
              · by_cases hke : k = i
                · subst hke; omega
                · have := List.pairwise_iff_getElem.mp hL.ms.2 i k b1 hk (by omega)
                  omega
          · refine itF hc ?_
            walk_at "w"
            refine ⟨_, _, ji, rfl, rfl, fun k x' h1 h2 => ?_, _, rfl⟩
            by_cases hki : k < i
            · exact hm k x' hki h2
            · have e : k = i := by omega
              subst e
              rw [hx] at h2; injection h2 with h2; omega
        · rintro Gi Pi Hi σ' ji ⟨rfl, rfl, hm, s3, rfl⟩
          walk_at "w"
          refine lfHigh ji hp ?_
          walk_at "w"
          refine ⟨L.hi, _, by omega, Int.le_refl _, fun y h1 h2 => ?_, rfl, ji⟩
          by_cases e : y < a
          · exact hn y h1 e
          · refine (hasL_mid (by omega) (by omega)).trans (decide_eq_false fun hy => ?_)
            obtain ⟨k, hk, rfl⟩ := List.mem_iff_getElem.mp hy
            have := hm k _ (by simpa using hk) (List.getElem?_eq_getElem hk)
            omega
      · refine itF h0 ?_
        walk_at "w"
        exact ⟨a, _, by omega, by omega, hn, rfl, j⟩
    clear hn a1 a2 a j
    rintro σ' H' ⟨a, s3, a1, a2, hn, rfl, j⟩
    walk_at "w"
    refine lfStep j hp ?_
    walk_at "w"
    refine aForR2.go (n := L.st.toNat) (by omega) (by omega) (fun i G' P' σ' => G' = G ∧ P' = P0 ∧ (∀ y, n < y → y < a + i → L.has y = false) ∧ ∃ s3 : Option V, σ' = [some (.ref p), some (.int n), some (.int a), s3]) j ⟨rfl, rfl, fun y h1 h2 => hn y h1 (by omega), _, rfl⟩ ?_ ?_
    · clear hn
      rintro i Gi Pi Hi σ' hi ji ⟨rfl, rfl, hn, s3, rfl⟩
      walk_at "w"
      refine lfStep ji hp ?_
      walk_at "w"
      refine w_rI (by omega) ?_
      walk_at "w"
      refine lfHAbove ji hp fun t ht => ?_
      walk_at "w"
      refine din_go ji ht ?_
      have hh : L.has (a + i) = decide ((a + i) % L.st ∈ L.ab) := hasL_hi lh (by omega)
      walk_at "w"
      cases hc : decide ((a + (i : Int)) % L.st ∈ L.ab) with
      | true =>
        refine itBT rfl ?_
        walk_at "w"
        exact q1 _ _ _ (by omega) (hh.trans hc) (fun y h1 h2 => hn y h1 (by omega)) (Ex.refl _) ji
      | false =>
        refine itBF rfl ?_
        walk_at "w"
        refine ⟨_, _, ji, rfl, rfl, fun y h1 h2 => ?_, _, rfl⟩
        by_cases e : y = a + i
        · rw [e, hh, hc]
        · exact hn y h1 (by omega)
    · clear hn
      rintro Gi Pi Hi σ' ji ⟨rfl, rfl, hn, s3, rfl⟩
      walk_at "w"
      refine q0 _ _ (fun y h1 => ?_) (Ex.refl _) ji
      by_cases e : y < a + L.st
      · exact hn y h1 (by omega)
      · obtain ⟨z, z1, z2, z3, z4⟩ := window (st := L.st) (a := a) (x := y) (by omega) (by omega)
        rw [← hasL_ab lh (by omega) (by omega) z4]
        exact hn z (by omega) (by omega)
theorem sc_next_above : FnScope ["lot", "number"] ["lot", "number"] (defScope s_next_above) := ⟨rfl, rfl, rfl, by decide +kernel, rfl, by decide +kernel, by decide +kernel⟩
theorem ok_next_above (T : Txt K mg) {fd_check_integer : FuncData} (G_check_integer : Dn P w K mg base (L2.CX P w) 3 "check_integer" ["thing"] (sp_checkint K) fd_check_integer) {fd_next_above_of : FuncData} (G_next_above_of : Dn P w K mg base (L2.CX P w) 2 "next_above_of" ["lot", "number"] (spNextA K) fd_next_above_of) : ∃ fd, Dn P w K mg base (L2.CX P w) 4 "next_above" ["lot", "number"] (spNextA K) fd := by
  obtain ⟨fd, F⟩ := T.d_next_above
  refine ⟨fd, F.ok sc_next_above (fun vs H Q E h => ?_) (fun cdv A outer s H vs Q E hr h => ?_), T.g_next_above, F.kp, F.bindsN fun _ _ _ _ _ _ us hl => match us, hl with | [_, _], _ => rfl, Lv.fun_lk F⟩
  · obtain ⟨_, _, _, _, _, rfl, _⟩ := h
    rfl
  · have hu := hu_of hr
    have hr_check_integer : Room 3 _ := hr.mono (by decide)
    have hr_next_above_of : Room 2 _ := hr.mono (by decide)
    refine ⟨_, PSs.nox (pss_cons (ps_expr (pe_call G_check_integer.ok hr_check_integer rfl G_check_integer.mg G_check_integer.kp G_check_integer.b .nil passL (pa_cons (pv 1) pa_nil)))
      (pss_one (ps_ret (pe_call G_next_above_of.ok hr_next_above_of rfl G_next_above_of.mg G_next_above_of.kp G_next_above_of.b .nil passL (pa_cons (pv 0) (pa_cons (pv 1) pa_nil)))))), ?_⟩
    obtain ⟨p, L, n, G, P0, rfl, j, hp, hL, q1, q0⟩ := h
    walk_at "w"
    refine ⟨_, rfl, ?_⟩
    walk_at "w"
    exact ⟨p, L, n, G, P0, rfl, j, hp, hL, q1, q0⟩
end X

namespace X
open PySem PySem.Spec PyProof.Rows L2 Lv
variable {P : Program} {w : World} {K : PySem.W.Frag} {mg : Str → Option Value} {base : Heap}
/-- how many of the n numbers from a on f lets -/
def cnt (f : Int → Bool) (a : Int) (n : Nat) : Nat := (List.range n).countP fun (i : Nat) => f (a + i)
theorem cnt_add (f : Int → Bool) (a : Int) (m n : Nat) : cnt f a (m + n) = cnt f a m + cnt f (a + m) n := by
  unfold cnt
  rw [List.range_add, List.countP_append, List.countP_map]
  congr 1
  refine List.countP_congr fun i _ => ?_
  show f (a + ((m + i : Nat) : Int)) = true ↔ f (a + m + i) = true
  rw [show a + ((m + i : Nat) : Int) = a + m + i by omega]
theorem cnt_succ (f : Int → Bool) (a : Int) (n : Nat) : cnt f a (n + 1) = cnt f a n + (if f (a + n) then 1 else 0) := by
  unfold cnt; rw [List.range_succ, List.countP_append]; simp [List.countP_cons]
theorem cnt_congr {f g : Int → Bool} {a : Int} {n : Nat} (h : ∀ y, a ≤ y → y < a + n → f y = g y) : cnt f a n = cnt g a n := by
  unfold cnt
  exact List.countP_congr fun i hi => by rw [h (a + i) (by omega) (by have := List.mem_range.mp hi; omega)]
theorem div_step (z st : Int) (h : 1 ≤ st) : z / st - (z - 1) / st = if z % st = 0 then 1 else 0 := by
  have f1 := Int.emod_add_mul_ediv z st
  have r0 := Int.emod_nonneg z (show st ≠ 0 by omega)
  have r1 := Int.emod_lt_of_pos z (show 0 < st by omega)
  by_cases e : z % st = 0
  · rw [if_pos e]
    have : (z - 1) / st = z / st - 1 := by
      refine (Int.ediv_emod_unique (show 0 < st by omega) (r := st - 1)).mpr ⟨?_, by omega, by omega⟩ |>.1
      rw [Int.mul_sub]; omega
    omega
  · rw [if_neg e]
    have : (z - 1) / st = z / st := by
      refine (Int.ediv_emod_unique (show 0 < st by omega) (r := z % st - 1)).mpr ⟨?_, by omega, by omega⟩ |>.1
      omega
    omega
def term (st a b r : Int) : Int := (b - 1 - r) / st - (a - 1 - r) / st
theorem cnt_rest {st r : Int} (h : 1 ≤ st) (r0 : 0 ≤ r) (r1 : r < st) (a : Int) : ∀ n : Nat, ((cnt (fun x => decide (x % st = r)) a n : Nat) : Int) = term st a (a + n) r
  | 0 => by unfold cnt term; simp
  | n + 1 => by
    rw [cnt_succ]
    have ih := cnt_rest h r0 r1 a n
    have hd := div_step (a + n - r) st h
    have e : (a + (n : Int)) % st = r ↔ (a + n - r) % st = 0 := by
      constructor
      · intro q
        rw [Int.sub_emod, q, Int.emod_eq_of_lt r0 r1, Int.sub_self, Int.zero_emod]
      · intro q
        have q2 : a + (n : Int) = r + st * ((a + n - r) / st) := by have := Int.emod_add_mul_ediv (a + n - r) st; omega
        rw [q2, Int.add_mul_emod_self_left, Int.emod_eq_of_lt r0 r1]
    unfold term at *
    rw [show a + ((n + 1 : Nat) : Int) - 1 - r = a + n - r by omega]
    rw [show a + (n : Int) - r - 1 = a + n - 1 - r by omega] at hd
    push_cast
    rw [ih]
    by_cases q : (a + (n : Int)) % st = r
    · rw [if_pos (e.mp q)] at hd
      rw [if_pos (decide_eq_true q)]; push_cast; omega
    · rw [if_neg fun z => q (e.mpr z)] at hd
      rw [if_neg (by simpa using q)]; push_cast; omega
def sumT (st a b : Int) (rs : List Int) : Int := (rs.map (term st a b)).sum
theorem cnt_or {f g : Int → Bool} (h : ∀ x, f x = true → g x = false) (a : Int) : ∀ n : Nat, cnt (fun x => f x || g x) a n = cnt f a n + cnt g a n
  | 0 => rfl
  | n + 1 => by
    rw [cnt_succ, cnt_succ, cnt_succ, cnt_or h a n]
    cases e : f (a + n) with
    | true => rw [h _ e]; simp; omega
    | false => simp; omega
theorem cnt_rests {st : Int} (h : 1 ≤ st) (a : Int) (n : Nat) : ∀ rs : List Int, AscI 0 (st - 1) rs → ((cnt (fun x => decide (x % st ∈ rs)) a n : Nat) : Int) = sumT st a (a + n) rs
  | [], _ => by
    have : cnt (fun x => decide (x % st ∈ ([] : List Int))) a n = 0 := by unfold cnt; exact List.countP_eq_zero.mpr fun i _ => by simp
    rw [this]; rfl
  | r :: rs, hA => by
    have q := List.pairwise_cons.mp hA.2
    have hr := hA.1 r (List.mem_cons_self ..)
    have ih := cnt_rests h a n rs ⟨fun x hx => hA.1 x (List.mem_cons_of_mem _ hx), q.2⟩
    have e : cnt (fun x => decide (x % st ∈ r :: rs)) a n = cnt (fun x => decide (x % st = r) || decide (x % st ∈ rs)) a n := cnt_congr fun y _ _ => by simp
    rw [e, cnt_or (fun x hx => decide_eq_false fun hm => by have := q.1 _ hm; have := of_decide_eq_true hx; omega)]
    push_cast
    rw [ih, cnt_rest h hr.1 (by omega)]
    unfold sumT
    rw [List.map_cons, List.sum_cons]
/-- how many integers of a lot stand from a on below b -/
def LP.many (L : LP) (a b : Int) : Nat := cnt L.has a (b - a).toNat
theorem cnt_mem {ns : List Int} (hN : ns.Nodup) (a : Int) (n : Nat) : cnt (fun x => decide (x ∈ ns)) a n = ns.countP fun x => decide (a ≤ x ∧ x < a + n) := by
  induction n with
  | zero => unfold cnt; rw [List.range_zero, List.countP_nil]; exact (List.countP_eq_zero.mpr fun x _ => by simp).symm
  | succ n ih =>
    rw [cnt_succ, ih]
    have e : (ns.countP fun x => decide (a ≤ x ∧ x < a + ((n + 1 : Nat) : Int))) = (ns.countP fun x => decide (a ≤ x ∧ x < a + n)) + ns.count (a + n) := by
      clear ih hN
      induction ns with
      | nil => rfl
      | cons x r ih =>
        rw [List.countP_cons, List.countP_cons, List.count_cons, ih]
        by_cases h1 : x = a + n
        · subst h1
          rw [if_pos (decide_eq_true ⟨by omega, by omega⟩), if_neg (fun h => by have := of_decide_eq_true h; omega), if_pos (by simp)]; omega
        · have : (a ≤ x ∧ x < a + ((n + 1 : Nat) : Int)) ↔ (a ≤ x ∧ x < a + n) := by omega
          rw [decide_eq_decide.mpr this, if_neg (c := (x == a + ↑n) = true) (by simpa using h1)]; omega
    rw [e]
    by_cases h : a + (n : Int) ∈ ns
    · have c1 := List.count_pos_iff.mpr h
      have c2 := List.nodup_iff_count.mp hN (a + (n : Int))
      rw [if_pos (decide_eq_true h)]; omega
    · rw [if_neg (by simpa using h), List.count_eq_zero.mpr h]
theorem many_split (L : LP) {a b c : Int} (h1 : a ≤ b) (h2 : b ≤ c) : L.many a c = L.many a b + L.many b c := by
  unfold LP.many
  rw [show (c - a).toNat = (b - a).toNat + (c - b).toNat by omega, cnt_add, show a + ((b - a).toNat : Int) = b by omega]
theorem many_lo {L : LP} (h : LpOk L) {a b : Int} (h1 : a ≤ b) (h2 : b ≤ L.lo) : (L.many a b : Int) = sumT L.st a b L.be := by
  unfold LP.many
  rw [cnt_congr (f := L.has) (g := fun x => decide (x % L.st ∈ L.be)) fun y _ _ => hasL_lo (by omega), cnt_rests h.s1 _ _ _ h.be, show a + ((b - a).toNat : Int) = b by omega]
theorem many_hi {L : LP} (h : LpOk L) {a b : Int} (h1 : a ≤ b) (h2 : L.hi ≤ a) : (L.many a b : Int) = sumT L.st a b L.ab := by
  unfold LP.many
  rw [cnt_congr (f := L.has) (g := fun x => decide (x % L.st ∈ L.ab)) fun y _ _ => hasL_hi h.h1 (by omega), cnt_rests h.s1 _ _ _ h.ab, show a + ((b - a).toNat : Int) = b by omega]
theorem many_mid {L : LP} (h : LpOk L) {a b : Int} (h1 : L.lo ≤ a) (h2 : b ≤ L.hi) : L.many a b = L.ms.countP fun x => decide (a ≤ x ∧ x < b) := by
  unfold LP.many
  rw [cnt_congr (f := L.has) (g := fun x => decide (x ∈ L.ms)) fun y _ _ => hasL_mid (by omega) (by omega), cnt_mem (ascI_nodup h.ms)]
  refine List.countP_congr fun x _ => ?_
  simp only [decide_eq_true_eq]
  omega
theorem many_le {L : LP} {a b : Int} (h : b ≤ a) : L.many a b = 0 := by
  unfold LP.many; rw [show (b - a).toNat = 0 by omega]; rfl
def mW (st a b : Int) (rs : List Int) : Int := if b ≤ a then 0 else sumT st a b rs
/-- many_in's sum -/
theorem many_sum {L : LP} (h : LpOk L) (a b : Int) : (L.many a b : Int) = mW L.st a (min b L.lo) L.be + (L.ms.countP fun x => decide (a ≤ x ∧ x < b) : Nat) + mW L.st (max a L.hi) b L.ab := by
  have hlh := h.h1
  have e1 : mW L.st a (min b L.lo) L.be = (L.many a (min b L.lo) : Nat) := by
    unfold mW; split
    · rw [many_le (by assumption)]; rfl
    · rw [many_lo h (by omega) (by omega)]
  have e3 : mW L.st (max a L.hi) b L.ab = (L.many (max a L.hi) b : Nat) := by
    unfold mW; split
    · rw [many_le (by assumption)]; rfl
    · rw [many_hi h (by omega) (by omega)]
  have e2 : (L.ms.countP fun x => decide (a ≤ x ∧ x < b)) = L.many (max a L.lo) (min b L.hi) := by
    rw [many_mid h (by omega) (by omega)]
    refine List.countP_congr fun x hx => ?_
    have := h.ms.1 x hx
    simp only [decide_eq_true_eq]
    omega
  rw [e1, e2, e3]
  by_cases hab : b ≤ a
  · rw [many_le hab, many_le (by omega), many_le (by omega), many_le (by omega)]; rfl
  · by_cases c1 : b ≤ L.lo
    · rw [show min b L.lo = b by omega, many_le (a := max a L.lo) (by omega), many_le (a := max a L.hi) (by omega)]; omega
    · by_cases c2 : L.hi ≤ a
      · rw [show max a L.hi = a by omega, many_le (b := min b L.lo) (by omega), many_le (b := min b L.hi) (by omega)]; omega
      · have p1 : L.many a b = L.many a (max a L.lo) + L.many (max a L.lo) b := many_split L (by omega) (by omega)
        have p2 : L.many (max a L.lo) b = L.many (max a L.lo) (min b L.hi) + L.many (min b L.hi) b := many_split L (by omega) (by omega)
        have p3 : L.many a (max a L.lo) = L.many a (min b L.lo) := by
          by_cases q : a ≤ L.lo
          · rw [show max a L.lo = L.lo by omega, show min b L.lo = L.lo by omega]
          · rw [many_le (b := max a L.lo) (by omega), many_le (b := min b L.lo) (by omega)]
        have p4 : L.many (min b L.hi) b = L.many (max a L.hi) b := by
          by_cases q : L.hi ≤ b
          · rw [show max a L.hi = L.hi by omega, show min b L.hi = L.hi by omega]
          · rw [many_le (a := min b L.hi) (by omega), many_le (a := max a L.hi) (by omega)]
        rw [p1, p2, p3, p4]; push_cast; omega
def spManyW (K : PySem.W.Frag) : Sp := fun vs H Q _ => ∃ (t : Addr) (st a b : Int) (rs : List Int) (G P : Hp), vs = [.ref t, .int st, .int a, .int b] ∧ Join G P H ∧ G t = some (.tup (rs.map V.int)) ∧ rs.length ≤ 100000 ∧ 1 ≤ st ∧ st ≤ 4000 ∧ ∀ G' H', Ex G G' → Join G' P H' → Q (.int (mW st a b rs)) H'
theorem sc_many_with : FnScope ["rests", "step", "one", "other", "rest"] ["rests", "step", "one", "other"] (defScope s_many_with) := ⟨rfl, rfl, rfl, by decide +kernel, rfl, by decide +kernel, by decide +kernel⟩
theorem ok_many_with (T : Txt K mg) : ∃ fd, Dn P w K mg base (L2.CX P w) 2 "many_with" ["rests", "step", "one", "other"] (spManyW K) fd := by
  obtain ⟨fd, F⟩ := T.d_many_with
  refine ⟨fd, F.ok sc_many_with (fun vs H Q E h => ?_) (fun cdv A outer s H vs Q E hr h => ?_), T.g_many_with, F.kp, F.bindsN fun _ _ _ _ _ _ us hl => match us, hl with | [_, _, _, _], _ => rfl, Lv.fun_lk F⟩
  · obtain ⟨_, _, _, _, _, _, _, rfl, _⟩ := h
    rfl
  · have hu := hu_of hr
    refine ⟨_, PSs.nox (pss_cons (ps_if (pt_cmpR op_le (pv 3) (pv 2) (nomark _)) (pss_one (ps_ret pe_int)) pss_nil)
      (pss_one (ps_ret (pe_callB (cr_sum rfl) (by rfl) T.n_sum (by decide +kernel) (pa_cons (pe_lc (own := [("rest", 4)]) (g := gName 4) (tt := tYes) rfl sc_many_with.nd (pi_tup (pv 0)) (blkOk_by (N := ["rests", "step", "one", "other", "rest"]) (sc := defScope s_many_with) (by decide +kernel)) (fun _ _ _ _ _ => (pg_name (i := 4) sc_many_with.nd rfl (Or.inl rfl) (hf := Or.inr rfl))) (fun _ _ _ _ _ => pts_nil) (fun _ _ _ _ _ => (pe_op op_sub (pe_op op_fdivW (pe_op op_sub (pe_op op_sub (pv 3) pe_int) (pv 4)) (pv 1)) (pe_op op_fdivW (pe_op op_sub (pe_op op_sub (pv 2) pe_int) (pv 4)) (pv 1))))) pa_nil))))), ?_⟩
    obtain ⟨t, st, a, b, rs, G, P0, rfl, j, ht, hl, s1, s2, q⟩ := h
    walk_at "w"
    by_cases h0 : b ≤ a
    · refine itT h0 ?_
      walk_at "w"
      have := q G H (Ex.refl _) j
      unfold mW at this
      rw [if_pos h0] at this
      exact this
    refine itF h0 ?_
    walk_at "w"
    refine aLcT.go (fun P' => P' = P0) (fun i us G' => us = ((rs.take i).map (term st a b)).map V.int) j rfl ht (fun _ _ => rfl) (fun i us G2 D _ _ hd h => h) (fun i us G2 h => ?_) ?_ ?_
    · rw [h, List.length_map, List.length_map, List.length_take]; omega
    · intro i z us Gi Pi Hi R R0 hz ei hI hP ji kR kR0
      subst hP
      obtain ⟨k, hk, rfl⟩ := int_at hz
      walk_at "w"
      refine ⟨rfl, ?_⟩
      walk_at "w"
      refine w_rI (divW (by omega) (big15 (by omega) (by omega))) ?_
      walk_at "w"
      refine w_rI (divW (by omega) (big15 (by omega) (by omega))) ?_
      walk_at "w"
      refine kR _ _ _ Hi (Ex.refl _) rfl ji ?_
      rw [hI, take_more hk, List.map_append, List.map_append]; rfl
    intro l us Ga Pa Ha hl0 ea hd1 hI hP ja
    subst hP
    rw [List.length_map, List.take_length] at hI
    subst hI
    walk_at "w"
    refine ⟨l, _, rfl, sqL (ja.g _ _ hd1), ?_⟩
    have := q Ga Ha ea ja
    unfold mW at this
    rw [if_neg h0] at this
    exact this
def spManyIn (K : PySem.W.Frag) : Sp := fun vs H Q _ => ∃ (p : Addr) (a b : Int) (L : LP) (G P : Hp), vs = [.ref p, .int a, .int b] ∧ Join G P H ∧ LotAt K G p L ∧ LpOk L ∧ ∀ G' H', Ex G G' → Join G' P H' → Q (.int (L.many a b : Nat)) H'
theorem sc_many_in : FnScope ["lot", "one", "other", "many", "number"] ["lot", "one", "other"] (defScope s_many_in) := ⟨rfl, rfl, rfl, by decide +kernel, rfl, by decide +kernel, by decide +kernel⟩
theorem ok_many_in (T : Txt K mg) {fd_check_integer : FuncData} (G_check_integer : Dn P w K mg base (L2.CX P w) 3 "check_integer" ["thing"] (sp_checkint K) fd_check_integer) {fd_many_with : FuncData} (G_many_with : Dn P w K mg base (L2.CX P w) 2 "many_with" ["rests", "step", "one", "other"] (spManyW K) fd_many_with) : ∃ fd, Dn P w K mg base (L2.CX P w) 4 "many_in" ["lot", "one", "other"] (spManyIn K) fd := by
  obtain ⟨fd, F⟩ := T.d_many_in
  refine ⟨fd, F.ok sc_many_in (fun vs H Q E h => ?_) (fun cdv A outer s H vs Q E hr h => ?_), T.g_many_in, F.kp, F.bindsN fun _ _ _ _ _ _ us hl => match us, hl with | [_, _, _], _ => rfl, Lv.fun_lk F⟩
  · obtain ⟨_, _, _, _, _, _, rfl, _⟩ := h
    rfl
  · have hu := hu_of hr
    have hr_check_integer : Room 3 _ := hr.mono (by decide)
    have hr_many_with : Room 2 _ := hr.mono (by decide)
    refine ⟨_, PSs.nox (pss_cons (ps_expr (pe_call G_check_integer.ok hr_check_integer rfl G_check_integer.mg G_check_integer.kp G_check_integer.b .nil passL (pa_cons (pv 1) pa_nil)))
      (pss_cons (ps_expr (pe_call G_check_integer.ok hr_check_integer rfl G_check_integer.mg G_check_integer.kp G_check_integer.b .nil passL (pa_cons (pv 2) pa_nil)))
      (pss_cons (ps_set (i := 3) sc_many_in.nd rfl (Or.inl rfl) (pe_call G_many_with.ok hr_many_with rfl G_many_with.mg G_many_with.kp G_many_with.b .nil passL (pa_cons (pe_fld (pv 0) rfl) (pa_cons (pe_fld (pv 0) rfl) (pa_cons (pv 1) (pa_cons (pe_callB (call_min2 rfl) (by rfl) T.n_min (by decide +kernel) (pa_cons (pv 2) (pa_cons (pe_fld (pv 0) rfl) pa_nil))) pa_nil))))))
      (pss_cons (ps_aug (i := 3) sc_many_in.nd rfl (.inl rfl) (pe_callB call_len_seq (by rfl) T.n_len PySem.boot_len (pa_cons (pe_lc (own := [("number", 4)]) (g := gName 4) rfl sc_many_in.nd (pi_tup (pe_fld (pv 0) rfl)) (blkOk_by (N := ["lot", "one", "other", "many", "number"]) (sc := defScope s_many_in) (by decide +kernel)) (fun _ _ _ _ _ => (pg_name (i := 4) sc_many_in.nd rfl (Or.inl rfl) (hf := Or.inr rfl))) (fun _ _ _ _ _ => (pts_one (pt_chain op_le op_lt (pv 1) (pv 4) (pv 2)))) (fun _ _ _ _ _ => (pv 4))) pa_nil)) ip_add)
      (pss_one (ps_ret (pe_op op_add (pv 3) (pe_call G_many_with.ok hr_many_with rfl G_many_with.mg G_many_with.kp G_many_with.b .nil passL (pa_cons (pe_fld (pv 0) rfl) (pa_cons (pe_fld (pv 0) rfl) (pa_cons (pe_callB (call_max2 rfl) (by rfl) T.n_max (by decide +kernel) (pa_cons (pv 1) (pa_cons (pe_fld (pv 0) rfl) pa_nil))) (pa_cons (pv 2) pa_nil)))))))))))), ?_⟩
    obtain ⟨p, a, b, L, G, P0, rfl, j, hp, hL, q⟩ := h
    walk_at "w"
    refine ⟨_, rfl, ?_⟩
    walk_at "w"
    refine ⟨_, rfl, ?_⟩
    walk_at "w"
    refine lfBelow j hp fun tb htb => ?_
    walk_at "w"
    refine lfStep j hp ?_
    walk_at "w"
    refine lfLow j hp ?_
    walk_at "w"
    refine ⟨tb, L.st, a, _, L.be, G, P0, rfl, j, htb, hL.bl, hL.s1, hL.s2, fun G1 H1 e1 j1 => ?_⟩
    replace hp := hp.mono e1
    walk_at "w"
    refine lfMembers j1 hp fun tm htm => ?_
    walk_at "w"
    refine aLcT.go (fun P' => P' = P0) (fun i us G' => us = ((L.ms.take i).filter fun x => decide (a ≤ x ∧ x < b)).map V.int) j1 rfl htm (fun _ _ => rfl) (fun i us G2 D _ _ hd h => h) (fun i us G2 h => ?_) ?_ ?_
    · rw [h, List.length_map]
      have := List.length_filter_le (fun x => decide (a ≤ x ∧ x < b)) (L.ms.take i)
      rw [List.length_take] at this
      have := hL.ml
      omega
    · intro i z us Gi Pi Hi R R0 hz ei hI hP ji kR kR0
      subst hP
      obtain ⟨k, hk, rfl⟩ := int_at hz
      walk_at "w"
      refine ⟨rfl, ?_⟩
      walk_at "w"
      by_cases hc : a ≤ k
      · refine itT hc ?_
        walk_at "w"
        by_cases hc2 : k < b
        · refine itT hc2 ?_
          walk_at "w"
          refine kR _ _ _ Hi (Ex.refl _) rfl ji ?_
          rw [hI, take_more hk, List.filter_append, List.map_append, List.filter_cons_of_pos (p := fun x => decide (a ≤ x ∧ x < b)) (show decide (a ≤ k ∧ k < b) = true from decide_eq_true ⟨hc, hc2⟩)]; rfl
        · refine itF hc2 ?_
          walk_at "w"
          refine kR0 _ _ Hi (Ex.refl _) rfl ji ?_
          rw [hI, take_more hk, List.filter_append, List.filter_cons_of_neg (fun h => hc2 (of_decide_eq_true h).2)]; simp
      · refine itF hc ?_
        walk_at "w"
        refine kR0 _ _ Hi (Ex.refl _) rfl ji ?_
        rw [hI, take_more hk, List.filter_append, List.filter_cons_of_neg (fun h => hc (of_decide_eq_true h).1)]; simp
    intro l us Ga Pa Ha hl0 ea hd1 hI hP ja
    subst hP
    rw [List.length_map, List.take_length] at hI
    subst hI
    replace hp := hp.mono ea
    walk_at "w"
    refine lfAbove ja hp fun ta hta => ?_
    walk_at "w"
    refine lfStep ja hp ?_
    walk_at "w"
    refine lfHigh ja hp ?_
    walk_at "w"
    refine ⟨ta, L.st, _, b, L.ab, Ga, Pa, rfl, ja, hta, hL.al, hL.s1, hL.s2, fun G2 H2 e2 j2 => ?_⟩
    walk_at "w"
    have := q G2 H2 ((e1.trans ea).trans e2) j2
    rw [many_sum hL] at this
    rw [List.length_map, ← List.countP_eq_length_filter]
    exact this
end X

namespace X
open PySem PySem.Spec PyProof.Rows L2 Lv
variable {P : Program} {w : World} {K : PySem.W.Frag} {mg : Str → Option Value} {base : Heap}
/-- six parts of a lot, at a tuple -/
def PtAt (G : Hp) (t : Addr) (T : LP) : Prop := ∃ tm tb ta : Addr, G t = some (.tup [.int T.lo, .int T.hi, .ref tm, .int T.st, .ref tb, .ref ta]) ∧ G tm = some (.tup (T.ms.map V.int)) ∧ G tb = some (.tup (T.be.map V.int)) ∧ G ta = some (.tup (T.ab.map V.int))
theorem PtAt.mono {G G' : Hp} {t : Addr} {T : LP} (e : Ex G G') (h : PtAt G t T) : PtAt G' t T := by
  obtain ⟨tm, tb, ta, h1, h2, h3, h4⟩ := h
  exact ⟨tm, tb, ta, e _ _ h1, e _ _ h2, e _ _ h3, e _ _ h4⟩
def spLotLP (K : PySem.W.Frag) : Sp := fun vs H Q _ => ∃ (l : Addr) (b : Bool) (G P : Hp), vs = [.ref l, .bl b] ∧ Join G P H ∧ Pot P l ∧
  ∀ T t G' P' H', LpOk T → -10 ≤ T.lo → T.lo ≤ 10 → T.hi ≤ T.lo + 11 → T.st ≤ 60 → (b = false → T.st ≤ 6) → Ex G G' → Join G' P' H' → Pot P' l → PtAt G' t T → Q (.ref t) H'
theorem ascI_more {a : Int} {n : Int} {ns : List Int} (h : AscI a (n - 1) ns) (ha : a ≤ n) : AscI a n (ns ++ [n]) :=
  ⟨fun x hx => by
    rcases List.mem_append.mp hx with q | q
    · have := h.1 x q; omega
    · have e : x = n := by simpa using q
      omega, List.pairwise_append.mpr ⟨h.2, List.pairwise_singleton .., fun x hx y hy => by
    have e : y = n := by simpa using hy
    have := h.1 x hx; omega⟩⟩
theorem ascI_wide {a b c d : Int} {ns : List Int} (h : AscI a b ns) (h1 : c ≤ a) (h2 : b ≤ d) : AscI c d ns := ⟨fun x hx => by have := h.1 x hx; omega, h.2⟩
theorem ascI_nil (a b : Int) : AscI a b [] := ⟨fun x h => (nomatch h), List.Pairwise.nil⟩
theorem sc_l_lot_parts : FnScope ["_law_pot_here", "_law_great", "_law_step", "_law_low", "_law_high", "_law_members", "_law_below", "_law_above", "_law_kind", "_law_number", "_law_rest"] ["_law_pot_here", "_law_great"] (defScope s_l_lot_parts) := ⟨rfl, rfl, rfl, by decide +kernel, rfl, by decide +kernel, by decide +kernel⟩
theorem ok_l_lot_parts (T : Txt K mg) {fd_l_draw : FuncData} (G_l_draw : Dn P w K mg base (L2.CX P w) 1 "_law_draw" ["_law_pot_here", "_law_many"] spDraw fd_l_draw) : ∃ fd, Dn P w K mg base (L2.CX P w) 2 "_law_lot_parts" ["_law_pot_here", "_law_great"] (spLotLP K) fd := by
  obtain ⟨fd, F⟩ := T.d_l_lot_parts
  refine ⟨fd, F.ok sc_l_lot_parts (fun vs H Q E h => ?_) (fun cdv A outer s H vs Q E hr h => ?_), T.g_l_lot_parts, F.kp, F.bindsN fun _ _ _ _ _ _ us hl => match us, hl with | [_, _], _ => rfl, Lv.fun_lk F⟩
  · obtain ⟨_, _, _, _, rfl, _⟩ := h
    rfl
  · have hu := hu_of hr
    have hr_l_draw : Room 1 _ := hr.mono (by decide)
    refine ⟨_, PSs.nox (pss_cons (ps_set (i := 2) sc_l_lot_parts.nd rfl (Or.inr rfl) (pe_op op_add pe_int (pe_call G_l_draw.ok hr_l_draw rfl G_l_draw.mg G_l_draw.kp G_l_draw.b .nil passL (pa_cons (pv 0) (pa_cons (pe_ifExp (pt_val (pv 1)) pe_int pe_int) pa_nil)))))
      (pss_cons (ps_set (i := 3) sc_l_lot_parts.nd rfl (Or.inl rfl) (pe_op op_sub (pe_call G_l_draw.ok hr_l_draw rfl G_l_draw.mg G_l_draw.kp G_l_draw.b .nil passL (pa_cons (pv 0) (pa_cons pe_int pa_nil))) pe_int))
      (pss_cons (ps_set (i := 4) sc_l_lot_parts.nd rfl (Or.inl rfl) (pe_op op_add (pv 3) (pe_call G_l_draw.ok hr_l_draw rfl G_l_draw.mg G_l_draw.kp G_l_draw.b .nil passL (pa_cons (pv 0) (pa_cons pe_int pa_nil)))))
      (pss_cons (ps_set (i := 5) sc_l_lot_parts.nd rfl (Or.inl rfl) (pe_callTy call_tuple_of (by rfl) T.n_tuple (by decide +kernel) (pa_cons (pe_lc (own := [("_law_number", 9)]) (g := gName 9) rfl sc_l_lot_parts.nd (Lv.pi_rangeW (by rfl) T.n_range (pa_cons (pv 3) (pa_cons (pv 4) pa_nil))) (blkOk_by (N := ["_law_pot_here", "_law_great", "_law_step", "_law_low", "_law_high", "_law_members", "_law_below", "_law_above", "_law_kind", "_law_number", "_law_rest"]) (sc := defScope s_l_lot_parts) (by decide +kernel)) (fun _ _ _ _ _ => (pg_name (i := 9) sc_l_lot_parts.nd rfl (Or.inl rfl) (hf := Or.inr rfl))) (fun _ _ _ _ _ => (pts_one (pt_cmpR op_eq (pe_call G_l_draw.ok hr_l_draw rfl G_l_draw.mg G_l_draw.kp G_l_draw.b .nil passL (pa_cons (pv 0) (pa_cons pe_int pa_nil))) pe_int (nomark _)))) (fun _ _ _ _ _ => (pv 9))) pa_nil)))
      (pss_cons (ps_set (i := 6) sc_l_lot_parts.nd rfl (Or.inr rfl) (pe_callTy call_tuple_of (by rfl) T.n_tuple (by decide +kernel) (pa_cons (pe_lc (own := [("_law_rest", 10)]) (g := gName 10) rfl sc_l_lot_parts.nd (pi_range1 (by rfl) T.n_range (pa_cons (pv 2) pa_nil)) (blkOk_by (N := ["_law_pot_here", "_law_great", "_law_step", "_law_low", "_law_high", "_law_members", "_law_below", "_law_above", "_law_kind", "_law_number", "_law_rest"]) (sc := defScope s_l_lot_parts) (by decide +kernel)) (fun _ _ _ _ _ => (pg_name (i := 10) sc_l_lot_parts.nd rfl (Or.inl rfl) (hf := Or.inr rfl))) (fun _ _ _ _ _ => (pts_one (pt_cmpR op_eq (pe_call G_l_draw.ok hr_l_draw rfl G_l_draw.mg G_l_draw.kp G_l_draw.b .nil passL (pa_cons (pv 0) (pa_cons pe_int pa_nil))) pe_int (nomark _)))) (fun _ _ _ _ _ => (pv 10))) pa_nil)))
      (pss_cons (ps_set (i := 7) sc_l_lot_parts.nd rfl (Or.inl rfl) (pe_callTy call_tuple_of (by rfl) T.n_tuple (by decide +kernel) (pa_cons (pe_lc (own := [("_law_rest", 10)]) (g := gName 10) rfl sc_l_lot_parts.nd (pi_range1 (by rfl) T.n_range (pa_cons (pv 2) pa_nil)) (blkOk_by (N := ["_law_pot_here", "_law_great", "_law_step", "_law_low", "_law_high", "_law_members", "_law_below", "_law_above", "_law_kind", "_law_number", "_law_rest"]) (sc := defScope s_l_lot_parts) (by decide +kernel)) (fun _ _ _ _ _ => (pg_name (i := 10) sc_l_lot_parts.nd rfl (Or.inl rfl) (hf := Or.inr rfl))) (fun _ _ _ _ _ => (pts_one (pt_cmpR op_eq (pe_call G_l_draw.ok hr_l_draw rfl G_l_draw.mg G_l_draw.kp G_l_draw.b .nil passL (pa_cons (pv 0) (pa_cons pe_int pa_nil))) pe_int (nomark _)))) (fun _ _ _ _ _ => (pv 10))) pa_nil)))
      (pss_cons (ps_set (i := 8) sc_l_lot_parts.nd rfl (Or.inl rfl) (pe_call G_l_draw.ok hr_l_draw rfl G_l_draw.mg G_l_draw.kp G_l_draw.b .nil passL (pa_cons (pv 0) (pa_cons pe_int pa_nil))))
      (Evl.pss_cut (ps_if (pt_cmpR op_eq (pv 8) pe_int (nomark _)) (pss_one (ps_asg (pe_tup (pa_cons (pe_tup pa_nil) (pa_cons (pe_tup pa_nil) pa_nil))) (pg_tup rfl (pgs_cons (pg_name (i := 6) sc_l_lot_parts.nd rfl (Or.inr rfl)) (pgs_cons (pg_name (i := 7) sc_l_lot_parts.nd rfl (Or.inl rfl)) pgs_nil))))) pss_nil)
      (Evl.pss_cut (ps_if (pt_cmpR op_eq (pv 8) pe_int (nomark _)) (pss_cons (ps_set (i := 7) sc_l_lot_parts.nd rfl (Or.inl rfl) (pv 6))
      (pss_one (ps_set (i := 5) sc_l_lot_parts.nd rfl (Or.inl rfl) (pe_callTy call_tuple_of (by rfl) T.n_tuple (by decide +kernel) (pa_cons (pe_lc (own := [("_law_number", 9)]) (g := gName 9) rfl sc_l_lot_parts.nd (Lv.pi_rangeW (by rfl) T.n_range (pa_cons (pv 3) (pa_cons (pv 4) pa_nil))) (blkOk_by (N := ["_law_pot_here", "_law_great", "_law_step", "_law_low", "_law_high", "_law_members", "_law_below", "_law_above", "_law_kind", "_law_number", "_law_rest"]) (sc := defScope s_l_lot_parts) (by decide +kernel)) (fun _ _ _ _ _ => (pg_name (i := 9) sc_l_lot_parts.nd rfl (Or.inl rfl) (hf := Or.inr rfl))) (fun _ _ _ _ _ => (pts_one (pt_cmpR (op_inK (K := K) rfl) (pe_op op_mod (pe_callTy call_int1 (by rfl) T.n_int (by decide +kernel) (pa_cons (pv 9) pa_nil)) (pv 2)) (pv 6) (by rfl)))) (fun _ _ _ _ _ => (pv 9))) pa_nil))))) pss_nil)
      (pss_one (ps_ret (pe_tup (pa_cons (pv 3) (pa_cons (pv 4) (pa_cons (pv 5) (pa_cons (pv 2) (pa_cons (pv 6) (pa_cons (pv 7) pa_nil)))))))))))))))))), ?_⟩
    obtain ⟨l, b, G, P0, rfl, j, hP, q⟩ := h
    walk_at "w"
    refine tIf_c rfl ?_
    walk_at "w"
    have hw : (if b then V.int 60 else V.int 6) = .int (if b then 60 else 6) := by cases b <;> rfl
    have hw1 : (1 : Int) ≤ (if b then 60 else 6) ∧ (if b then 60 else 6) ≤ (60 : Int) := by cases b <;> decide
    rw [hw]
    refine ⟨l, _, G, P0, rfl, j, hP, by omega, by have := hw1.2; exact Int.lt_of_le_of_lt this (by decide), fun st P1 H1 d0 d1 j hP => ?_⟩
    have st1 : st + 1 ≤ 60 := by omega
    have st6 : b = false → st + 1 ≤ 6 := fun e => by subst e; have : st < 6 := d1; omega
    clear hw d1
    walk_at "w"
    refine ⟨l, _, G, P1, rfl, j, hP, by decide, by decide, fun lo P2 H2 e0 e1 j hP => ?_⟩
    walk_at "w"
    refine ⟨l, _, G, P2, rfl, j, hP, by decide, by decide, fun hi P3 H3 f0 f1 j hP => ?_⟩
    walk_at "w"
    have eh : (lo - 10 + hi - (lo - 10)).toNat = hi.toNat := by omega
    refine aLcR2.go (n := hi.toNat) (fun P' => Pot P' l) (fun i us G' => ∃ ns : List Int, us = ns.map V.int ∧ AscI (lo - 10) (lo - 10 + i - 1) ns ∧ i ≤ 1000) j hP eh (by omega) (fun _ _ => ⟨[], rfl, ascI_nil _ _, by decide⟩) (fun i us G2 D _ _ hd h => h) (fun i us G2 h => ?_) ?_ ?_
    · obtain ⟨ns, rfl, hA, hi0⟩ := h
      have := ascI_len hA
      rw [List.length_map]; omega
    · intro i us Gi Pi Hi R R0 hi' ei hI hPi ji kR kR0
      obtain ⟨ns, rfl, hA, hi0⟩ := hI
      walk_at "w"
      refine ⟨rfl, ?_⟩
      walk_at "w"
      refine ⟨l, _, Gi, Pi, rfl, ji, hPi, by decide, by decide, fun d Pj Hj d0 d1 jj hPj => ?_⟩
      walk_at "w"
      by_cases hc : d = 0
      · refine itT (congrArg V.int hc) ?_
        walk_at "w"
        exact kR _ _ _ Hj (Ex.refl _) hPj jj ⟨ns ++ [lo - 10 + i], by rw [List.map_append]; rfl, by rw [show lo - 10 + ((i + 1 : Nat) : Int) - 1 = lo - 10 + i by omega]; exact ascI_more hA (by omega), by omega⟩
      · refine itF (fun h => hc (V.int.inj h)) ?_
        walk_at "w"
        exact kR0 _ _ Hj (Ex.refl _) hPj jj ⟨ns, rfl, ascI_wide hA (Int.le_refl _) (by omega), by omega⟩
    clear j hP
    intro lm us G4 P4 H4 hl0 e4 hd1 hI hP j
    obtain ⟨ms, rfl, hms, _⟩ := hI
    walk_at "w"
    refine tupOf_go j hd1 fun tm G5 H5 hg e5 j5 htm => ?_
    have E5 := e4.trans e5
    clear j hl0 hd1 hg e4 e5
    walk_at "w"
    refine aLcR.go (n := (1 + st).toNat) (fun P' => Pot P' l) (fun i us G' => ∃ ns : List Int, us = ns.map V.int ∧ AscI 0 ((i : Int) - 1) ns ∧ i ≤ 1000) j5 hP (by omega) (by omega) (fun _ _ => ⟨[], rfl, ascI_nil _ _, by decide⟩) (fun i us G2 D _ _ hd h => h) (fun i us G2 h => ?_) ?_ ?_
    · obtain ⟨ns, rfl, hA, hi0⟩ := h
      have := ascI_len hA
      rw [List.length_map]; omega
    · intro i us Gi Pi Hi R R0 hi' ei hI hPi ji kR kR0
      obtain ⟨ns, rfl, hA, hi0⟩ := hI
      walk_at "w"
      refine ⟨rfl, ?_⟩
      walk_at "w"
      refine ⟨l, _, Gi, Pi, rfl, ji, hPi, by decide, by decide, fun d Pj Hj d0 d1 jj hPj => ?_⟩
      walk_at "w"
      by_cases hc : d = 0
      · refine itT (congrArg V.int hc) ?_
        walk_at "w"
        exact kR _ _ _ Hj (Ex.refl _) hPj jj ⟨ns ++ [(i : Int)], by rw [List.map_append]; rfl, by rw [show ((i + 1 : Nat) : Int) - 1 = i by omega]; exact ascI_more hA (by omega), by omega⟩
      · refine itF (fun h => hc (V.int.inj h)) ?_
        walk_at "w"
        exact kR0 _ _ Hj (Ex.refl _) hPj jj ⟨ns, rfl, ascI_wide hA (Int.le_refl _) (by omega), by omega⟩
    clear j5 hP
    intro lb us G6 P6 H6 hl0 e6 hd1 hI hP j
    obtain ⟨be, rfl, hbe, _⟩ := hI
    replace htm := e6 _ _ htm
    walk_at "w"
    refine tupOf_go j hd1 fun tb G7 H7 hg e7 j7 htb => ?_
    replace htm := e7 _ _ htm
    have E7 := (E5.trans e6).trans e7
    clear j hl0 hd1 hg e6 e7
    walk_at "w"
    refine aLcR.go (n := (1 + st).toNat) (fun P' => Pot P' l) (fun i us G' => ∃ ns : List Int, us = ns.map V.int ∧ AscI 0 ((i : Int) - 1) ns ∧ i ≤ 1000) j7 hP (by omega) (by omega) (fun _ _ => ⟨[], rfl, ascI_nil _ _, by decide⟩) (fun i us G2 D _ _ hd h => h) (fun i us G2 h => ?_) ?_ ?_
    · obtain ⟨ns, rfl, hA, hi0⟩ := h
      have := ascI_len hA
      rw [List.length_map]; omega
    · intro i us Gi Pi Hi R R0 hi' ei hI hPi ji kR kR0
      obtain ⟨ns, rfl, hA, hi0⟩ := hI
      walk_at "w"
      refine ⟨rfl, ?_⟩
      walk_at "w"
      refine ⟨l, _, Gi, Pi, rfl, ji, hPi, by decide, by decide, fun d Pj Hj d0 d1 jj hPj => ?_⟩
      walk_at "w"
      by_cases hc : d = 0
      · refine itT (congrArg V.int hc) ?_
        walk_at "w"
        exact kR _ _ _ Hj (Ex.refl _) hPj jj ⟨ns ++ [(i : Int)], by rw [List.map_append]; rfl, by rw [show ((i + 1 : Nat) : Int) - 1 = i by omega]; exact ascI_more hA (by omega), by omega⟩
      · refine itF (fun h => hc (V.int.inj h)) ?_
        walk_at "w"
        exact kR0 _ _ Hj (Ex.refl _) hPj jj ⟨ns, rfl, ascI_wide hA (Int.le_refl _) (by omega), by omega⟩
    clear j7 hP
    intro la us G8 P8 H8 hl0 e8 hd1 hI hP j
    obtain ⟨ab, rfl, hab, _⟩ := hI
    replace htm := e8 _ _ htm; replace htb := e8 _ _ htb
    walk_at "w"
    refine tupOf_go j hd1 fun ta G9 H9 hg e9 j9 hta => ?_
    replace htm := e9 _ _ htm; replace htb := e9 _ _ htb
    have E9 := (E7.trans e8).trans e9
    clear j hl0 hd1 hg e8 e9 E5 E7
    walk_at "w"
    refine ⟨l, _, G9, P8, rfl, j9, hP, by decide, by decide, fun kind P10 H10 d0' d1' j10 hP10 => ?_⟩
    clear j9 hP
    have hms' : AscI (lo - 10) (lo - 10 + hi - 1) ms := ascI_wide hms (Int.le_refl _) (by omega)
    have hbe' : AscI 0 (1 + st - 1) be := ascI_wide hbe (Int.le_refl _) (by omega)
    have hab' : AscI 0 (1 + st - 1) ab := ascI_wide hab (Int.le_refl _) (by omega)
    walk_at "w"
    refine ⟨fun σ' H' => ∃ (be ab : List Int) (tb ta : Addr) (G1 P1 : Hp) (s9 s10 : Option V), σ' = [some (.ref l), some (.bl b), some (.int (1 + st)), some (.int (lo - 10)), some (.int (lo - 10 + hi)), some (.ref tm), some (.ref tb), some (.ref ta), some (.int kind), s9, s10] ∧
      AscI 0 (1 + st - 1) be ∧ AscI 0 (1 + st - 1) ab ∧ Ex G G1 ∧ Join G1 P1 H' ∧ Pot P1 l ∧ G1 tm = some (.tup (ms.map V.int)) ∧ G1 tb = some (.tup (be.map V.int)) ∧ G1 ta = some (.tup (ab.map V.int)), ?_, ?_⟩
    · walk_at "w"
      by_cases hk : kind = 0
      · refine itT (congrArg V.int hk) ?_
        walk_at "w"
        refine aTup.go j10 (by show 0 ≤ 100000; decide) fun n1 Ga Ha hp1 ea ja h1 => ?_
        replace htm := ea _ _ htm
        walk_at "w"
        refine aTup.go ja (by show 0 ≤ 100000; decide) fun n2 Gb Hb hp2 eb jb h2 => ?_
        replace htm := eb _ _ htm; replace h1 := eb _ _ h1
        walk_at "w"
        refine aTup.go jb (by show 2 ≤ 100000; decide) fun n3 Gc Hc hp3 ec jc h3 => ?_
        replace htm := ec _ _ htm; replace h1 := ec _ _ h1; replace h2 := ec _ _ h2
        walk_at "w"
        exact ⟨[], [], n1, n2, Gc, P10, _, _, rfl, ascI_nil _ _, ascI_nil _ _, ((E9.trans ea).trans eb).trans ec, jc, hP10, htm, h1, h2⟩
      · refine itF (fun h => hk (V.int.inj h)) ?_
        walk_at "w"
        exact ⟨be, ab, tb, ta, G9, P10, _, _, rfl, hbe', hab', E9, j10, hP10, htm, htb, hta⟩
    clear hta htb htm j10 hP10 E9 hab' hbe' hab hbe ab be tb ta
    rintro σ' H' ⟨be, ab, tb, ta, G9, P10, s9, s10, rfl, hbe', hab', E9, j10, hP10, htm, htb, hta⟩
    walk_at "w"
    refine ⟨fun σ' H' => ∃ (ms ab : List Int) (tm ta : Addr) (G1 P1 : Hp) (s9 s10 : Option V), σ' = [some (.ref l), some (.bl b), some (.int (1 + st)), some (.int (lo - 10)), some (.int (lo - 10 + hi)), some (.ref tm), some (.ref tb), some (.ref ta), some (.int kind), s9, s10] ∧
      AscI (lo - 10) (lo - 10 + hi - 1) ms ∧ AscI 0 (1 + st - 1) ab ∧ Ex G G1 ∧ Join G1 P1 H' ∧ Pot P1 l ∧ G1 tm = some (.tup (ms.map V.int)) ∧ G1 tb = some (.tup (be.map V.int)) ∧ G1 ta = some (.tup (ab.map V.int)), ?_, ?_⟩
    · walk_at "w"
      by_cases hk : kind = 1
      · refine itT (congrArg V.int hk) ?_
        walk_at "w"
        refine aLcR2.go (n := hi.toNat) (fun P' => P' = P10) (fun i us G' => ∃ ns : List Int, us = ns.map V.int ∧ AscI (lo - 10) (lo - 10 + i - 1) ns ∧ i ≤ 1000) j10 rfl eh (by omega) (fun _ _ => ⟨[], rfl, ascI_nil _ _, by decide⟩) (fun i us G2 D _ _ hd h => h) (fun i us G2 h => ?_) ?_ ?_
        · obtain ⟨ns, rfl, hA, hi0⟩ := h
          have := ascI_len hA
          rw [List.length_map]; omega
        · intro i us Gi Pi Hi R R0 hi' ei hI hPi ji kR kR0
          subst hPi
          obtain ⟨ns, rfl, hA, hi0⟩ := hI
          walk_at "w"
          refine ⟨rfl, ?_⟩
          walk_at "w"
          refine w_rI (by omega) ?_
          walk_at "w"
          refine in_go ji (.inr (ei _ _ htb)) ?_
          walk_at "w"
          cases hc : decide ((lo - 10 + (i : Int)) % (1 + st) ∈ be) with
          | true =>
            refine itBT rfl ?_
            walk_at "w"
            exact kR _ _ _ Hi (Ex.refl _) rfl ji ⟨ns ++ [lo - 10 + i], by rw [List.map_append]; rfl, by rw [show lo - 10 + ((i + 1 : Nat) : Int) - 1 = lo - 10 + i by omega]; exact ascI_more hA (by omega), by omega⟩
          | false =>
            refine itBF rfl ?_
            walk_at "w"
            exact kR0 _ _ Hi (Ex.refl _) rfl ji ⟨ns, rfl, ascI_wide hA (Int.le_refl _) (by omega), by omega⟩
        intro lm us Gj Pj Hj hl0 ej hd1 hI hPj jj
        subst hPj
        obtain ⟨ns, rfl, hns, _⟩ := hI
        replace htb := ej _ _ htb
        walk_at "w"
        refine tupOf_go jj hd1 fun tn Gk Hk hg ek jk htn => ?_
        replace htb := ek _ _ htb
        walk_at "w"
        exact ⟨ns, be, tn, tb, Gk, Pj, _, _, rfl, ascI_wide hns (Int.le_refl _) (by omega), hbe', (E9.trans ej).trans ek, jk, hP10, htn, htb, htb⟩
      · refine itF (fun h => hk (V.int.inj h)) ?_
        walk_at "w"
        exact ⟨ms, ab, tm, ta, G9, P10, _, _, rfl, hms', hab', E9, j10, hP10, htm, htb, hta⟩
    clear hta htb htm j10 hP10 E9 hab' ab tm ta hms' hms ms
    rintro σ' H' ⟨ms, ab, tm, ta, G9, P10, s9, s10, rfl, hms', hab', E9, j10, hP10, htm, htb, hta⟩
    walk_at "w"
    refine aTup.go j10 (by show 6 ≤ 100000; decide) fun t G11 H11 hp e11 j11 ht => ?_
    replace htm := e11 _ _ htm; replace htb := e11 _ _ htb; replace hta := e11 _ _ hta
    exact q ⟨lo - 10, lo - 10 + hi, ms, 1 + st, be, ab⟩ t G11 P10 H11 ⟨by show lo - 10 ≤ lo - 10 + hi; omega, by show lo - 10 + hi ≤ lo - 10 + 100001; omega, hms', by show 1 ≤ 1 + st; omega, by show 1 + st ≤ 4000; omega, hbe', hab', by have := ascI_len hms'; show ms.length ≤ 100000; omega⟩ (by show -10 ≤ lo - 10; omega) (by show lo - 10 ≤ 10; omega) (by show lo - 10 + hi ≤ lo - 10 + 11; omega) (by show 1 + st ≤ 60; omega) (fun e => by have := st6 e; show 1 + st ≤ 6; omega) (E9.trans e11) j11 hP10 ⟨tm, tb, ta, ht, htm, htb, hta⟩
def spLot (K : PySem.W.Frag) : Sp := fun vs H Q _ => ∃ (t : Addr) (T : LP) (G P : Hp), vs = [.ref t] ∧ Join G P H ∧ PtAt G t T ∧ LpOk T ∧ T.hi ≤ T.lo + 100000 ∧
  ∀ p L G' H', Ex G G' → Join G' P H' → LpOk L → Least L → (∀ y, L.has y = T.has y) → LotIs K (He.ga K "Lot") G' p L → Q (.ref p) H'
theorem sc_l_lot : FnScope ["_law_parts"] ["_law_parts"] (defScope s_l_lot) := ⟨rfl, rfl, rfl, by decide +kernel, rfl, by decide +kernel, by decide +kernel⟩
theorem ok_l_lot (T : Txt K mg) {fd_Lot_init : FuncData} (G_Lot_init : Dm P w K mg base (L2.CX P w) 5 "Lot" "__init__" ["self", "low", "high", "members", "step", "below", "above"] (spLotI K) fd_Lot_init) : ∃ fd, Dn P w K mg base (L2.CX P w) 7 "_law_lot" ["_law_parts"] (spLot K) fd := by
  obtain ⟨fd, F⟩ := T.d_l_lot
  refine ⟨fd, F.ok sc_l_lot (fun vs H Q E h => ?_) (fun cdv A outer s H vs Q E hr h => ?_), T.g_l_lot, F.kp, F.bindsN fun _ _ _ _ _ _ us hl => match us, hl with | [_], _ => rfl, Lv.fun_lk F⟩
  · obtain ⟨_, _, _, _, rfl, _⟩ := h
    rfl
  · have hu := hu_of hr
    have hr_Lot_init : Room 6 _ := hr.mono (by decide)
    refine ⟨_, PSs.nox (pss_one (ps_ret (pe_make T.mk_Lot G_Lot_init.ok hr_Lot_init (by rfl) T.g_Lot G_Lot_init.b .nil passL (pa_cons (pe_ix ix_tup (pv 0) pe_int (fun _ _ => rfl)) (pa_cons (pe_ix ix_tup (pv 0) pe_int (fun _ _ => rfl)) (pa_cons (pe_ix ix_tup (pv 0) pe_int (fun _ _ => rfl)) (pa_cons (pe_ix ix_tup (pv 0) pe_int (fun _ _ => rfl)) (pa_cons (pe_ix ix_tup (pv 0) pe_int (fun _ _ => rfl)) (pa_cons (pe_ix ix_tup (pv 0) pe_int (fun _ _ => rfl)) pa_nil))))))))), ?_⟩
    obtain ⟨t, T0, G, P0, rfl, j, ⟨tm, tb, ta, ht, hm, hb, ha⟩, hT, hw, q⟩ := h
    walk_at "w"
    refine aMake.go j fun x dx G1 H1 hx0 e1 j1 hx => ?_
    replace ht := e1 _ _ ht; replace hm := e1 _ _ hm; replace hb := e1 _ _ hb; replace ha := e1 _ _ ha
    refine ⟨x, dx, tm, tb, ta, T0, G1, P0, rfl, j1, hx, hT, hw, hm, hb, ha, fun L G' H' b j' l1 l2 l3 l4 => ⟨rfl, q x L G' H' ?_ j' l1 l2 l3 l4⟩⟩
    exact b.ex e1 (j.ng hx0)
theorem LP.has_def (T : LP) (x : Int) : T.has x = if x < T.lo then decide (x % T.st ∈ T.be) else if x < T.hi then decide (x ∈ T.ms) else decide (x % T.st ∈ T.ab) := rfl
def spHas (K : PySem.W.Frag) : Sp := fun vs H Q _ => ∃ (t : Addr) (x : Int) (T : LP) (G P : Hp), vs = [.ref t, .int x] ∧ Join G P H ∧ PtAt G t T ∧ 1 ≤ T.st ∧ Q (.bl (T.has x)) H
def spFar : Sp := fun vs H Q _ => ∃ (l : Addr) (G P : Hp), vs = [.ref l] ∧ Join G P H ∧ Pot P l ∧ ∀ (r : Int) (P' H' : Hp), -100000000000000000000000000000000000000 ≤ r → r ≤ 100000000000000000000000000000000000000 → Join G P' H' → Pot P' l → Q (.int r) H'
/-- an int or None -/
def IntN (v : V) : Prop := v = .non ∨ ∃ n : Int, v = .int n
def spSameN (K : PySem.W.Frag) : Sp := fun vs H Q _ => ∃ (x y : V), vs = [x, y] ∧ IntN x ∧ IntN y ∧ Q (.bl (decide (x = y))) H
theorem moved_rests {st b : Int} {ns ns' : List Int} (s1 : 1 ≤ st) (hA : AscI 0 (st - 1) ns) (hp : ns'.Perm (ns.map fun r => (r + b) % st)) (hs : ns'.Pairwise (· ≤ ·)) : AscI 0 (st - 1) ns' ∧ ∀ y, decide (y % st ∈ ns') = decide ((y - b) % st ∈ ns) := by
  have key : ∀ r y, 0 ≤ r → r < st → ((r + b) % st = y % st ↔ r = (y - b) % st) := fun r y r0 r1 => ⟨fun h => by
    rw [Int.sub_emod y b, ← h, ← Int.sub_emod, Int.add_sub_cancel, Int.emod_eq_of_lt r0 r1], fun h => by
    rw [h, Int.emod_add_emod, Int.sub_add_cancel]⟩
  have hn : ns'.Nodup := by
    refine hp.nodup_iff.mpr ?_
    refine List.pairwise_map.mpr ?_
    refine List.Pairwise.imp_of_mem (R := (· < ·)) (fun {x y} hx hy hxy e => ?_) hA.2
    have hx' := hA.1 x hx
    have hy' := hA.1 y hy
    have := (key x (y + b) hx'.1 (by omega)).mp e
    rw [Int.add_sub_cancel, Int.emod_eq_of_lt hy'.1 (by omega)] at this
    omega
  refine ⟨⟨fun x hx => ?_, ?_⟩, fun y => ?_⟩
  · obtain ⟨r, _, rfl⟩ := List.mem_map.mp (hp.mem_iff.mp hx)
    have := Int.emod_nonneg (r + b) (show st ≠ 0 by omega)
    have := Int.emod_lt_of_pos (r + b) (show 0 < st by omega)
    omega
  · exact (hs.and hn).imp fun {x y} h => by have := h.1; have := h.2; omega
  · rw [decide_eq_decide, hp.mem_iff]
    constructor
    · intro h
      obtain ⟨r, hr, e⟩ := List.mem_map.mp h
      have := hA.1 r hr
      rw [← (key r y this.1 (by omega)).mp e]; exact hr
    · intro h
      have := hA.1 _ h
      exact List.mem_map.mpr ⟨_, h, (key _ y this.1 (by omega)).mpr rfl⟩
def spMoved (K : PySem.W.Frag) : Sp := fun vs H Q _ => ∃ (t : Addr) (b : Int) (T : LP) (G P : Hp), vs = [.ref t, .int b] ∧ Join G P H ∧ PtAt G t T ∧ LpOk T ∧
  ∀ T' p G' H', LpOk T' → T'.lo = T.lo + b → T'.hi = T.hi + b → T'.st = T.st → (∀ y, T'.has y = T.has (y - b)) → Ex G G' → Join G' P H' → PtAt G' p T' → Q (.ref p) H'
end X

namespace X
open PySem PySem.Spec PyProof.Rows L2 Lv
variable {P : Program} {w : World} {K : PySem.W.Frag} {mg : Str → Option Value} {base : Heap}
theorem lc_R (T : Txt K mg) : LC K (He.ga K "RawLot") := ⟨T.c_RawLot, by simp only [lotKs, List.forall_mem_cons]; exact ⟨T.na_RawLot_step, T.na_RawLot_below, T.na_RawLot_above, T.na_RawLot_has_below, T.na_RawLot_has_above, T.na_RawLot_low, T.na_RawLot_high, T.na_RawLot_members, T.na_RawLot_has_members, fun _ h => nomatch h⟩, T.o_RawLot, T.q_RawLot⟩
def spRawI (K : PySem.W.Frag) : Sp := fun vs H Q _ => ∃ (x dx tm tb ta : Addr) (T : LP) (G P : Hp), vs = [.ref x, .int T.lo, .int T.hi, .ref tm, .int T.st, .ref tb, .ref ta] ∧ Join G P H ∧ G x = some (.ins (He.ga K "RawLot") dx []) ∧ LpOk T ∧
  G tm = some (.tup (T.ms.map V.int)) ∧ G tb = some (.tup (T.be.map V.int)) ∧ G ta = some (.tup (T.ab.map V.int)) ∧
  ∀ L G' H', But x G G' → Join G' P H' → LpOk L → Least L → (∀ y, L.has y = T.has y) → LotIs K (He.ga K "RawLot") G' x L → Q .non H'
theorem sc_RawLot_init : FnScope ["self", "low", "high", "members", "step", "below", "above"] ["self", "low", "high", "members", "step", "below", "above"] (defScope s_RawLot_init) := ⟨rfl, rfl, rfl, by decide +kernel, rfl, by decide +kernel, by decide +kernel⟩
theorem ok_RawLot_init (T : Txt K mg) {fd_Lot_keep : FuncData} (G_Lot_keep : Dm P w K mg base (L2.CX P w) 4 "Lot" "keep" ["self", "low", "high", "members", "step", "below", "above"] (spKeepL K) fd_Lot_keep) : ∃ fd, Dm P w K mg base (L2.CX P w) 5 "RawLot" "__init__" ["self", "low", "high", "members", "step", "below", "above"] (spRawI K) fd := by
  obtain ⟨fd, F⟩ := T.d_RawLot_init
  refine ⟨fd, F.ok sc_RawLot_init (fun vs H Q E h => ?_) (fun cdv A outer s H vs Q E hr h => ?_), F.bindsN fun _ _ _ _ _ _ us hl => match us, hl with | [_, _, _, _, _, _, _], _ => rfl, Lv.fun_lk F⟩
  · obtain ⟨_, _, _, _, _, _, _, _, rfl, _⟩ := h
    rfl
  · have hu := hu_of hr
    have hr_Lot_keep : Room 4 _ := hr.mono (by decide)
    refine ⟨_, PSs.nox (pss_one (ps_expr (pe_meth (pv 0) T.c_RawLot (Lv.meth_cast T.me_RawLot_keep T.j_RawLot_keep) G_Lot_keep.ok hr_Lot_keep G_Lot_keep.b .nil passL (pa_cons (pv 1) (pa_cons (pv 2) (pa_cons (pv 3) (pa_cons (pv 4) (pa_cons (pv 5) (pa_cons (pv 6) pa_nil))))))))), ?_⟩
    obtain ⟨x, dx, tm, tb, ta, T0, G, P0, rfl, j, hx, hT, hm, hb, ha, q⟩ := h
    walk_at "w"
    refine aMeth.go j hx rfl ?_
    walk_at "w"
    exact ⟨x, _, dx, tm, tb, ta, T0, G, P0, rfl, lc_R T, j, hx, hT, hm, hb, ha, q⟩
theorem raw_go {G P0 H : Hp} {tm tb ta : Addr} {T : LP} {Q : VK} {E : XK} (j : Join G P0 H) (hT : LpOk T) (hm : G tm = some (.tup (T.ms.map V.int))) (hb : G tb = some (.tup (T.be.map V.int))) (ha : G ta = some (.tup (T.ab.map V.int)))
    (q : ∀ x L G' H', H x = none → Ex G G' → Join G' P0 H' → LpOk L → Least L → (∀ y, L.has y = T.has y) → LotIs K (He.ga K "RawLot") G' x L → Q (.ref x) H') : aMake (He.ga K "RawLot") (spRawI K) [] E [.int T.lo, .int T.hi, .ref tm, .int T.st, .ref tb, .ref ta] H Q := by
  refine aMake.go j fun x dx G1 H1 hx0 e1 j1 hx => ?_
  replace hm := e1 _ _ hm; replace hb := e1 _ _ hb; replace ha := e1 _ _ ha
  exact ⟨x, dx, tm, tb, ta, T, G1, P0, rfl, j1, hx, hT, hm, hb, ha, fun L G' H' b j' l1 l2 l3 l4 => ⟨rfl, q x L G' H' hx0 (b.ex e1 (j.ng hx0)) j' l1 l2 l3 l4⟩⟩
theorem asc_sorted {a b : Int} {ns : List Int} (h : ∀ x ∈ ns, a ≤ x ∧ x ≤ b) (hn : ns.Nodup) (hs : ns.Pairwise (· ≤ ·)) : AscI a b ns := ⟨h, (hs.and hn).imp fun {x y} h => by have := h.1; have := h.2; omega⟩
/-- rests that go to other rests, sorted -/
theorem sorted_rests {st : Int} {f g : Int → Int} {ns ns' : List Int} (s1 : 1 ≤ st) (hA : AscI 0 (st - 1) ns) (key : ∀ r y, 0 ≤ r → r < st → (f r % st = y % st ↔ r = g y % st)) (hp : ns'.Perm (ns.map fun r => f r % st)) (hs : ns'.Pairwise (· ≤ ·)) :
    AscI 0 (st - 1) ns' ∧ ∀ y, decide (y % st ∈ ns') = decide (g y % st ∈ ns) := by
  have hn : ns'.Nodup := by
    refine hp.nodup_iff.mpr ?_
    refine List.pairwise_map.mpr ?_
    refine List.Pairwise.imp_of_mem (R := (· < ·)) (fun {x y} hx hy hxy e => ?_) hA.2
    have hx' := hA.1 x hx
    have hy' := hA.1 y hy
    have e1 := (key x (f y) hx'.1 (by omega)).mp e
    have e2 := (key y (f y) hy'.1 (by omega)).mp rfl
    omega
  refine ⟨asc_sorted (fun x hx => ?_) hn hs, fun y => ?_⟩
  · obtain ⟨r, _, rfl⟩ := List.mem_map.mp (hp.mem_iff.mp hx)
    have := Int.emod_nonneg (f r) (show st ≠ 0 by omega)
    have := Int.emod_lt_of_pos (f r) (show 0 < st by omega)
    omega
  · rw [decide_eq_decide, hp.mem_iff]
    constructor
    · intro h
      obtain ⟨r, hr, e⟩ := List.mem_map.mp h
      have := hA.1 r hr
      rw [← (key r y this.1 (by omega)).mp e]; exact hr
    · intro h
      have := hA.1 _ h
      exact List.mem_map.mpr ⟨_, h, (key _ y this.1 (by omega)).mpr rfl⟩
theorem neg_key {st : Int} (s1 : 1 ≤ st) (r y : Int) (r0 : 0 ≤ r) (r1 : r < st) : -r % st = y % st ↔ r = -y % st := by
  have e : r = r % st := (Int.emod_eq_of_lt r0 r1).symm
  rw [Int.emod_eq_emod_iff_emod_sub_eq_zero]
  constructor
  · intro h
    have h2 : r % st = -y % st := by
      rw [Int.emod_eq_emod_iff_emod_sub_eq_zero]
      have := Int.dvd_neg.mpr (Int.dvd_of_emod_eq_zero h)
      rw [show r - -y = -(-r - y) by omega]
      exact Int.emod_eq_zero_of_dvd this
    omega
  · intro h
    have h2 : r % st = -y % st := by omega
    rw [Int.emod_eq_emod_iff_emod_sub_eq_zero] at h2
    have := Int.dvd_neg.mpr (Int.dvd_of_emod_eq_zero h2)
    rw [show -r - y = -(r - -y) by omega]
    exact Int.emod_eq_zero_of_dvd this
theorem mir_ok {L : LP} (h : LpOk L) {be ab : List Int} (hb : be.Perm (L.ab.map fun r => -r % L.st)) (sb : be.Pairwise (· ≤ ·)) (ha : ab.Perm (L.be.map fun r => -r % L.st)) (sa : ab.Pairwise (· ≤ ·)) :
    LpOk ⟨1 - L.hi, 1 - L.lo, L.ms.reverse.map fun k => -k, L.st, be, ab⟩ ∧ ∀ y, LP.has ⟨1 - L.hi, 1 - L.lo, L.ms.reverse.map fun k => -k, L.st, be, ab⟩ y = L.has (-y) := by
  have s1 := h.s1
  have r1 := sorted_rests (f := fun r => -r) (g := fun y => -y) s1 h.ab (neg_key s1) hb sb
  have r2 := sorted_rests (f := fun r => -r) (g := fun y => -y) s1 h.be (neg_key s1) ha sa
  have lh := h.h1
  have lh2 := h.h2
  refine ⟨⟨by show 1 - L.hi ≤ 1 - L.lo; omega, by show 1 - L.lo ≤ 1 - L.hi + 100001; omega, ⟨fun x hx => ?_, ?_⟩, s1, h.s2, r1.1, r2.1, by show (L.ms.reverse.map fun k => -k).length ≤ 100000; rw [List.length_map, List.length_reverse]; exact h.ml⟩, fun y => ?_⟩
  · obtain ⟨k, hk, rfl⟩ := List.mem_map.mp hx
    have := h.ms.1 k (List.mem_reverse.mp hk)
    show 1 - L.hi ≤ -k ∧ -k ≤ 1 - L.lo - 1
    omega
  · show (L.ms.reverse.map fun k => -k).Pairwise (· < ·)
    rw [List.pairwise_map, List.pairwise_reverse]
    exact h.ms.2.imp fun {a b} hab => by omega
  · rw [LP.has_eq, LP.has_eq]
    show (if y < 1 - L.hi then decide (y % L.st ∈ be) else if y < 1 - L.lo then decide (y ∈ L.ms.reverse.map fun k => -k) else decide (y % L.st ∈ ab)) = _
    rw [r1.2, r2.2, decide_eq_decide.mpr (show (y ∈ L.ms.reverse.map fun k => -k) ↔ -y ∈ L.ms from ⟨fun hm => by
      obtain ⟨k, hk, e⟩ := List.mem_map.mp hm
      rw [show -y = k by omega]; exact List.mem_reverse.mp hk, fun hm => List.mem_map.mpr ⟨-y, List.mem_reverse.mpr hm, by omega⟩⟩)]
    by_cases c1 : y < 1 - L.hi
    · rw [if_pos c1, if_neg (by omega), if_neg (by omega)]
    · rw [if_neg c1]
      by_cases c2 : y < 1 - L.lo
      · rw [if_pos c2, if_neg (by omega), if_pos (by omega)]
      · rw [if_neg c2, if_pos (by omega)]
def spMir (K : PySem.W.Frag) : Sp := fun vs H Q _ => ∃ (p : Addr) (L : LP) (G P : Hp), vs = [.ref p] ∧ Join G P H ∧ LotAt K G p L ∧ LpOk L ∧ ∀ x M G' H', Ex G G' → Join G' P H' → LpOk M → Least M → (∀ y, M.has y = L.has (-y)) → LotAt K G' x M → Q (.ref x) H'
theorem sc_mirrored_of : FnScope ["lot", "members", "below", "above", "number", "rest"] ["lot"] (defScope s_mirrored_of) := ⟨rfl, rfl, rfl, by decide +kernel, rfl, by decide +kernel, by decide +kernel⟩
theorem ok_mirrored_of (T : Txt K mg) {fd_RawLot_init : FuncData} (G_RawLot_init : Dm P w K mg base (L2.CX P w) 5 "RawLot" "__init__" ["self", "low", "high", "members", "step", "below", "above"] (spRawI K) fd_RawLot_init) : ∃ fd, Dn P w K mg base (L2.CX P w) 7 "mirrored_of" ["lot"] (spMir K) fd := by
  obtain ⟨fd, F⟩ := T.d_mirrored_of
  refine ⟨fd, F.ok sc_mirrored_of (fun vs H Q E h => ?_) (fun cdv A outer s H vs Q E hr h => ?_), T.g_mirrored_of, F.kp, F.bindsN fun _ _ _ _ _ _ us hl => match us, hl with | [_], _ => rfl, Lv.fun_lk F⟩
  · obtain ⟨_, _, _, _, rfl, _⟩ := h
    rfl
  · have hu := hu_of hr
    have hr_RawLot_init : Room 6 _ := hr.mono (by decide)
    refine ⟨_, PSs.nox (pss_cons (ps_set (i := 1) sc_mirrored_of.nd rfl (Or.inl rfl) (pe_callTy call_tuple_of (by rfl) T.n_tuple (by decide +kernel) (pa_cons (pe_lc (own := [("number", 4)]) (g := gName 4) (tt := tYes) rfl sc_mirrored_of.nd (pi_tup (Lv.pe_revT (pe_fld (pv 0) rfl))) (blkOk_by (N := ["lot", "members", "below", "above", "number", "rest"]) (sc := defScope s_mirrored_of) (by decide +kernel)) (fun _ _ _ _ _ => (pg_name (i := 4) sc_mirrored_of.nd rfl (Or.inl rfl) (hf := Or.inr rfl))) (fun _ _ _ _ _ => pts_nil) (fun _ _ _ _ _ => (pe_un un_neg (pv 4)))) pa_nil)))
      (pss_cons (ps_set (i := 2) sc_mirrored_of.nd rfl (Or.inl rfl) (pe_callTy call_tuple_of (by rfl) T.n_tuple (by decide +kernel) (pa_cons (pe_callB (Lv.cr_sortedIK (K := K) rfl) (by rfl) T.n_sorted (by decide +kernel) (pa_cons (pe_lc (own := [("rest", 5)]) (g := gName 5) (tt := tYes) rfl sc_mirrored_of.nd (pi_tup (pe_fld (pv 0) rfl)) (blkOk_by (N := ["lot", "members", "below", "above", "number", "rest"]) (sc := defScope s_mirrored_of) (by decide +kernel)) (fun _ _ _ _ _ => (pg_name (i := 5) sc_mirrored_of.nd rfl (Or.inl rfl) (hf := Or.inr rfl))) (fun _ _ _ _ _ => pts_nil) (fun _ _ _ _ _ => (pe_op op_mod (pe_un un_neg (pv 5)) (pe_fldK (K := K) rfl (pv 0) rfl)))) pa_nil)) pa_nil)))
      (pss_cons (ps_set (i := 3) sc_mirrored_of.nd rfl (Or.inl rfl) (pe_callTy call_tuple_of (by rfl) T.n_tuple (by decide +kernel) (pa_cons (pe_callB (Lv.cr_sortedIK (K := K) rfl) (by rfl) T.n_sorted (by decide +kernel) (pa_cons (pe_lc (own := [("rest", 5)]) (g := gName 5) (tt := tYes) rfl sc_mirrored_of.nd (pi_tup (pe_fld (pv 0) rfl)) (blkOk_by (N := ["lot", "members", "below", "above", "number", "rest"]) (sc := defScope s_mirrored_of) (by decide +kernel)) (fun _ _ _ _ _ => (pg_name (i := 5) sc_mirrored_of.nd rfl (Or.inl rfl) (hf := Or.inr rfl))) (fun _ _ _ _ _ => pts_nil) (fun _ _ _ _ _ => (pe_op op_mod (pe_un un_neg (pv 5)) (pe_fldK (K := K) rfl (pv 0) rfl)))) pa_nil)) pa_nil)))
      (pss_one (ps_ret (pe_make T.mk_RawLot G_RawLot_init.ok hr_RawLot_init (by rfl) T.g_RawLot G_RawLot_init.b .nil passL (pa_cons (pe_op op_sub pe_int (pe_fld (pv 0) rfl)) (pa_cons (pe_op op_sub pe_int (pe_fld (pv 0) rfl)) (pa_cons (pv 1) (pa_cons (pe_fld (pv 0) rfl) (pa_cons (pv 2) (pa_cons (pv 3) pa_nil)))))))))))), ?_⟩
    obtain ⟨p, L, G, P0, rfl, j, hp, hL, q⟩ := h
    have s1 := hL.s1
    have l1 := hL.ml
    have l2 := hL.al
    have l3 := hL.bl
    walk_at "w"
    refine lfMembers j hp fun t ht => ?_
    walk_at "w"
    refine aRevT.go j ht fun r G1 H1 hr e1 j1 hr1 => ?_
    rw [← List.map_reverse] at hr1
    replace hp := hp.mono e1
    walk_at "w"
    refine aLcT.fil (fun _ => true) (fun k => .int (-k)) j1 hr1 (by rw [List.length_reverse]; omega) (fun k G' H' R R0 hk e' j' kR _ => ?_) fun l2 G2 H2 hl2 e2 j2 hl => ?_
    · walk_at "w"
      refine ⟨rfl, ?_⟩
      walk_at "w"
      exact kR rfl _ _ (Ex.refl _) j'
    rw [fil_all, mapI] at hl
    replace hp := hp.mono e2
    walk_at "w"
    refine tupOf_go j2 hl fun tm G3 H3 _ e3 j3 htm => ?_
    replace hp := hp.mono e3
    walk_at "w"
    refine lfAbove j3 hp fun ta hta => ?_
    walk_at "w"
    refine aLcT.fil (fun _ => true) (fun k => .int (-k % L.st)) j3 hta (by omega) (fun k G' H' R R0 hk e' j' kR _ => ?_) fun l4 G4 H4 hl4 e4 j4 hl4' => ?_
    · walk_at "w"
      refine ⟨rfl, ?_⟩
      walk_at "w"
      refine lfStep j' (hp.mono e') ?_
      walk_at "w"
      refine w_rI (by omega) ?_
      exact kR rfl _ _ (Ex.refl _) j'
    rw [fil_all, mapI] at hl4'
    replace htm := e4 _ _ htm; replace hp := hp.mono e4
    walk_at "w"
    refine sortI_go j4 hl4' fun nbe ls G5 H5 pb sb hg e5 j5 hls => ?_
    replace htm := e5 _ _ htm; replace hp := hp.mono e5
    walk_at "w"
    refine tupOf_go j5 hls fun tb' G6 H6 _ e6 j6 htb' => ?_
    replace htm := e6 _ _ htm; replace hp := hp.mono e6
    walk_at "w"
    refine lfBelow j6 hp fun tb htb => ?_
    walk_at "w"
    refine aLcT.fil (fun _ => true) (fun k => .int (-k % L.st)) j6 htb (by omega) (fun k G' H' R R0 hk e' j' kR _ => ?_) fun l7 G7 H7 hl7 e7 j7 hl7' => ?_
    · walk_at "w"
      refine ⟨rfl, ?_⟩
      walk_at "w"
      refine lfStep j' (hp.mono e') ?_
      walk_at "w"
      refine w_rI (by omega) ?_
      exact kR rfl _ _ (Ex.refl _) j'
    rw [fil_all, mapI] at hl7'
    replace htm := e7 _ _ htm; replace htb' := e7 _ _ htb'; replace hp := hp.mono e7
    walk_at "w"
    refine sortI_go j7 hl7' fun nab ls G8 H8 pa sa hg e8 j8 hls => ?_
    replace htm := e8 _ _ htm; replace htb' := e8 _ _ htb'; replace hp := hp.mono e8
    walk_at "w"
    refine tupOf_go j8 hls fun ta' G9 H9 _ e9 j9 hta' => ?_
    replace htm := e9 _ _ htm; replace htb' := e9 _ _ htb'; replace hp := hp.mono e9
    walk_at "w"
    refine lfHigh j9 hp ?_
    walk_at "w"
    refine lfLow j9 hp ?_
    walk_at "w"
    refine lfStep j9 hp ?_
    walk_at "w"
    have hok := mir_ok hL pb sb pa sa
    exact raw_go (T := ⟨1 - L.hi, 1 - L.lo, L.ms.reverse.map fun k => -k, L.st, nbe, nab⟩) j9 hok.1 htm htb' hta' fun x M Ga Ha _ ea ja m1 m2 m3 m4 => q x M Ga Ha ((((((((e1.trans e2).trans e3).trans e4).trans e5).trans e6).trans e7).trans e8).trans (e9.trans ea)) ja m1 m2 (fun y => (m3 y).trans (hok.2 y)) m4.at
def spNextB (K : PySem.W.Frag) : Sp := fun vs H Q _ => ∃ (p : Addr) (L : LP) (n : Int) (G P : Hp), vs = [.ref p, .int n] ∧ Join G P H ∧ LotAt K G p L ∧ LpOk L ∧
  (∀ r G' H', r < n → L.has r = true → (∀ y, r < y → y < n → L.has y = false) → Ex G G' → Join G' P H' → Q (.int r) H') ∧ (∀ G' H', (∀ y, y < n → L.has y = false) → Ex G G' → Join G' P H' → Q .non H')
theorem sc_next_below_of : FnScope ["lot", "number", "found"] ["lot", "number"] (defScope s_next_below_of) := ⟨rfl, rfl, rfl, by decide +kernel, rfl, by decide +kernel, by decide +kernel⟩
theorem ok_next_below_of (T : Txt K mg) {fd_mirrored_of : FuncData} (G_mirrored_of : Dn P w K mg base (L2.CX P w) 7 "mirrored_of" ["lot"] (spMir K) fd_mirrored_of) {fd_next_above_of : FuncData} (G_next_above_of : Dn P w K mg base (L2.CX P w) 2 "next_above_of" ["lot", "number"] (spNextA K) fd_next_above_of) : ∃ fd, Dn P w K mg base (L2.CX P w) 8 "next_below_of" ["lot", "number"] (spNextB K) fd := by
  obtain ⟨fd, F⟩ := T.d_next_below_of
  refine ⟨fd, F.ok sc_next_below_of (fun vs H Q E h => ?_) (fun cdv A outer s H vs Q E hr h => ?_), T.g_next_below_of, F.kp, F.bindsN fun _ _ _ _ _ _ us hl => match us, hl with | [_, _], _ => rfl, Lv.fun_lk F⟩
  · obtain ⟨_, _, _, _, _, rfl, _⟩ := h
    rfl
  · have hu := hu_of hr
    have hr_mirrored_of : Room 7 _ := hr.mono (by decide)
    have hr_next_above_of : Room 2 _ := hr.mono (by decide)
    refine ⟨_, PSs.nox (pss_cons (ps_set (i := 2) sc_next_below_of.nd rfl (Or.inl rfl) (pe_call G_next_above_of.ok hr_next_above_of rfl G_next_above_of.mg G_next_above_of.kp G_next_above_of.b .nil passL (pa_cons (pe_call G_mirrored_of.ok hr_mirrored_of rfl G_mirrored_of.mg G_mirrored_of.kp G_mirrored_of.b .nil passL (pa_cons (pv 0) pa_nil)) (pa_cons (pe_un un_neg (pv 1)) pa_nil))))
      (pss_one (ps_ret (pe_ifExp (pt_cmpR op_isN (pv 2) pe_non (nomark _)) pe_non (pe_un un_neg (pv 2)))))), ?_⟩
    obtain ⟨p, L, n, G, P0, rfl, j, hp, hL, q1, q0⟩ := h
    walk_at "w"
    refine ⟨p, L, G, P0, rfl, j, hp, hL, fun x M G1 H1 e1 j1 hM _ hm hx => ?_⟩
    walk_at "w"
    refine ⟨x, M, -n, G1, P0, rfl, j1, hx, hM, fun r G2 H2 r1 r2 r3 e2 j2 => ?_, fun G2 H2 r3 e2 j2 => ?_⟩
    · walk_at "w"
      refine w_ifE ?_
      walk_at "w"
      refine itF (fun h => by cases h) ?_
      walk_at "w"
      exact q1 _ G2 H2 (by omega) (by rw [← hm]; exact r2) (fun y y1 y2 => by rw [← Int.neg_neg y, ← hm]; exact r3 _ (by omega) (by omega)) (e1.trans e2) j2
    · walk_at "w"
      refine w_ifE ?_
      walk_at "w"
      refine itT rfl ?_
      walk_at "w"
      exact q0 G2 H2 (fun y y1 => by rw [← Int.neg_neg y, ← hm]; exact r3 _ (by omega)) (e1.trans e2) j2
theorem sc_next_below : FnScope ["lot", "number"] ["lot", "number"] (defScope s_next_below) := ⟨rfl, rfl, rfl, by decide +kernel, rfl, by decide +kernel, by decide +kernel⟩
theorem ok_next_below (T : Txt K mg) {fd_check_integer : FuncData} (G_check_integer : Dn P w K mg base (L2.CX P w) 3 "check_integer" ["thing"] (sp_checkint K) fd_check_integer) {fd_next_below_of : FuncData} (G_next_below_of : Dn P w K mg base (L2.CX P w) 8 "next_below_of" ["lot", "number"] (spNextB K) fd_next_below_of) : ∃ fd, Dn P w K mg base (L2.CX P w) 9 "next_below" ["lot", "number"] (spNextB K) fd := by
  obtain ⟨fd, F⟩ := T.d_next_below
  refine ⟨fd, F.ok sc_next_below (fun vs H Q E h => ?_) (fun cdv A outer s H vs Q E hr h => ?_), T.g_next_below, F.kp, F.bindsN fun _ _ _ _ _ _ us hl => match us, hl with | [_, _], _ => rfl, Lv.fun_lk F⟩
  · obtain ⟨_, _, _, _, _, rfl, _⟩ := h
    rfl
  · have hu := hu_of hr
    have hr_check_integer : Room 3 _ := hr.mono (by decide)
    have hr_next_below_of : Room 8 _ := hr.mono (by decide)
    refine ⟨_, PSs.nox (pss_cons (ps_expr (pe_call G_check_integer.ok hr_check_integer rfl G_check_integer.mg G_check_integer.kp G_check_integer.b .nil passL (pa_cons (pv 1) pa_nil)))
      (pss_one (ps_ret (pe_call G_next_below_of.ok hr_next_below_of rfl G_next_below_of.mg G_next_below_of.kp G_next_below_of.b .nil passL (pa_cons (pv 0) (pa_cons (pv 1) pa_nil)))))), ?_⟩
    obtain ⟨p, L, n, G, P0, rfl, j, hp, hL, q1, q0⟩ := h
    walk_at "w"
    refine ⟨_, rfl, ?_⟩
    walk_at "w"
    exact ⟨p, L, n, G, P0, rfl, j, hp, hL, q1, q0⟩
/-- the least number that f lets, None if there is none or no least one -/
def IsLe (f : Int → Bool) (v : V) : Prop := (∃ r : Int, v = .int r ∧ f r = true ∧ ∀ y, y < r → f y = false) ∨ (v = .non ∧ ((∀ y, f y = false) ∨ ∀ a, ∃ y, y < a ∧ f y = true))
theorem IsLe.one {f : Int → Bool} {v u : V} (h : IsLe f v) (h' : IsLe f u) : v = u := by
  have key : ∀ (r : Int) (w : V), f r = true → (∀ y, y < r → f y = false) → IsLe f w → w = .int r := fun r w h1 h2 h3 => by
    rcases h3 with ⟨s, rfl, s1, s2⟩ | ⟨rfl, h | h⟩
    · have a1 : ¬ s < r := fun q => by rw [h2 s q] at s1; cases s1
      have a2 : ¬ r < s := fun q => by rw [s2 r q] at h1; cases h1
      rw [show s = r by omega]
    · rw [h r] at h1; cases h1
    · obtain ⟨y, y1, y2⟩ := h r
      rw [h2 y y1] at y2; cases y2
  rcases h with ⟨r, rfl, r1, r2⟩ | ⟨rfl, h⟩
  · exact (key r u r1 r2 h').symm
  · rcases h' with ⟨s, rfl, s1, s2⟩ | ⟨rfl, _⟩
    · exact key s .non s1 s2 (.inr ⟨rfl, h⟩)
    · rfl
/-- the next number from n on upward -/
def IsNx (f : Int → Bool) (n : Int) (v : V) : Prop := (∃ r : Int, v = .int r ∧ n < r ∧ f r = true ∧ ∀ y, n < y → y < r → f y = false) ∨ (v = .non ∧ ∀ y, n < y → f y = false)
theorem IsNx.one {f : Int → Bool} {n : Int} {v u : V} (h : IsNx f n v) (h' : IsNx f n u) : v = u := by
  rcases h with ⟨r, rfl, r0, r1, r2⟩ | ⟨rfl, h⟩
  · rcases h' with ⟨s, rfl, s0, s1, s2⟩ | ⟨rfl, h'⟩
    · have a1 : ¬ s < r := fun q => by rw [r2 s s0 q] at s1; cases s1
      have a2 : ¬ r < s := fun q => by rw [s2 r r0 q] at r1; cases r1
      rw [show s = r by omega]
    · rw [h' r r0] at r1; cases r1
  · rcases h' with ⟨s, rfl, s0, s1, s2⟩ | ⟨rfl, h'⟩
    · rw [h s s0] at s1; cases s1
    · rfl
/-- some number lies below each, if there is a rest below -/
theorem has_deep {L : LP} (h : LpOk L) (hb : L.be ≠ []) (a : Int) : ∃ y, y < a ∧ L.has y = true := by
  obtain ⟨r, hr⟩ := List.exists_mem_of_ne_nil _ hb
  have hr' := h.be.1 r hr
  have s1 := h.s1
  obtain ⟨y, y1, y2⟩ : ∃ y, y < min a L.lo ∧ y % L.st = r := by
    refine ⟨r - L.st * (r - min a L.lo + 1).natAbs, ?_, by rw [Int.sub_mul_emod_self_left, Int.emod_eq_of_lt hr'.1 (by omega)]⟩
    have q1 : ((r - min a L.lo + 1).natAbs : Int) ≤ L.st * (r - min a L.lo + 1).natAbs := by
      have := Int.mul_le_mul_of_nonneg_right s1 (show (0 : Int) ≤ (r - min a L.lo + 1).natAbs by omega)
      rw [Int.one_mul] at this; exact this
    omega
  exact ⟨y, by omega, by rw [LP.has_eq, if_pos (by omega), y2]; exact decide_eq_true hr⟩
theorem has_high {L : LP} (h : LpOk L) (hb : L.ab ≠ []) (a : Int) : ∃ y, a < y ∧ L.has y = true := by
  obtain ⟨r, hr⟩ := List.exists_mem_of_ne_nil _ hb
  have hr' := h.ab.1 r hr
  have s1 := h.s1
  have lh := h.h1
  obtain ⟨y, y1, y2⟩ : ∃ y, max a L.hi < y ∧ y % L.st = r := by
    refine ⟨r + L.st * (max a L.hi - r + 1).natAbs, ?_, by rw [Int.add_mul_emod_self_left, Int.emod_eq_of_lt hr'.1 (by omega)]⟩
    have q1 : ((max a L.hi - r + 1).natAbs : Int) ≤ L.st * (max a L.hi - r + 1).natAbs := by
      have := Int.mul_le_mul_of_nonneg_right s1 (show (0 : Int) ≤ (max a L.hi - r + 1).natAbs by omega)
      rw [Int.one_mul] at this; exact this
    omega
  exact ⟨y, by omega, by rw [LP.has_eq, if_neg (by omega), if_neg (by omega), y2]; exact decide_eq_true hr⟩
def spLeastIn (K : PySem.W.Frag) : Sp := fun vs H Q _ => ∃ (p : Addr) (L : LP) (G P : Hp), vs = [.ref p] ∧ Join G P H ∧ LotAt K G p L ∧ LpOk L ∧ ∀ v G' H', IsLe L.has v → Ex G G' → Join G' P H' → Q v H'
/-- the greatest number that f lets -/
def IsGr (f : Int → Bool) (v : V) : Prop := (∃ r : Int, v = .int r ∧ f r = true ∧ ∀ y, r < y → f y = false) ∨ (v = .non ∧ ((∀ y, f y = false) ∨ ∀ a, ∃ y, a < y ∧ f y = true))
theorem IsGr.one {f : Int → Bool} {v u : V} (h : IsGr f v) (h' : IsGr f u) : v = u := by
  have key : ∀ (r : Int) (w : V), f r = true → (∀ y, r < y → f y = false) → IsGr f w → w = .int r := fun r w h1 h2 h3 => by
    rcases h3 with ⟨s, rfl, s1, s2⟩ | ⟨rfl, h | h⟩
    · have a1 : ¬ r < s := fun q => by rw [h2 s q] at s1; cases s1
      have a2 : ¬ s < r := fun q => by rw [s2 r q] at h1; cases h1
      rw [show s = r by omega]
    · rw [h r] at h1; cases h1
    · obtain ⟨y, y1, y2⟩ := h r
      rw [h2 y y1] at y2; cases y2
  rcases h with ⟨r, rfl, r1, r2⟩ | ⟨rfl, h⟩
  · exact (key r u r1 r2 h').symm
  · rcases h' with ⟨s, rfl, s1, s2⟩ | ⟨rfl, _⟩
    · exact key s .non s1 s2 (.inr ⟨rfl, h⟩)
    · rfl
/-- the next number from n on downward -/
def IsPv (f : Int → Bool) (n : Int) (v : V) : Prop := (∃ r : Int, v = .int r ∧ r < n ∧ f r = true ∧ ∀ y, r < y → y < n → f y = false) ∨ (v = .non ∧ ∀ y, y < n → f y = false)
theorem IsPv.one {f : Int → Bool} {n : Int} {v u : V} (h : IsPv f n v) (h' : IsPv f n u) : v = u := by
  rcases h with ⟨r, rfl, r0, r1, r2⟩ | ⟨rfl, h⟩
  · rcases h' with ⟨s, rfl, s0, s1, s2⟩ | ⟨rfl, h'⟩
    · have a1 : ¬ r < s := fun q => by rw [r2 s q s0] at s1; cases s1
      have a2 : ¬ s < r := fun q => by rw [s2 r q r0] at r1; cases r1
      rw [show s = r by omega]
    · rw [h' r r0] at r1; cases r1
  · rcases h' with ⟨s, rfl, s0, s1, s2⟩ | ⟨rfl, h'⟩
    · rw [h s s0] at s1; cases s1
    · rfl
def spGreatestIn (K : PySem.W.Frag) : Sp := fun vs H Q _ => ∃ (p : Addr) (L : LP) (G P : Hp), vs = [.ref p] ∧ Join G P H ∧ LotAt K G p L ∧ LpOk L ∧ ∀ v G' H', IsGr L.has v → Ex G G' → Join G' P H' → Q v H'
end X

namespace X
open PySem PySem.Spec PyProof.Rows L2 Lv
variable {P : Program} {w : World} {K : PySem.W.Frag} {mg : Str → Option Value} {base : Heap}
/-- p is a period of the rests ns by st -/
def Per (ns : List Int) (st p : Int) : Prop := ∀ x, decide ((x + p) % st ∈ ns) = decide (x % st ∈ ns)
theorem Per.sub {ns : List Int} {st a b : Int} (ha : Per ns st a) (hb : Per ns st b) : Per ns st (a - b) := fun x => by
  have h1 := ha (x - b)
  have h2 := hb (x - b)
  rw [Int.sub_add_cancel] at h2
  rw [show x + (a - b) = x - b + a by omega, h1, ← h2]
theorem Per.st (ns : List Int) (st : Int) : Per ns st st := fun x => by rw [Int.add_emod_right]
theorem Per.mul {ns : List Int} {st a b : Int} (ha : Per ns st a) (hb : Per ns st b) : ∀ k : Nat, Per ns st (a - b * k)
  | 0 => by rw [show a - b * ((0 : Nat) : Int) = a by simp]; exact ha
  | k + 1 => by
    have := (Per.mul ha hb k).sub hb
    rw [show a - b * ((k + 1 : Nat) : Int) = a - b * k - b by push_cast; rw [Int.mul_add, Int.mul_one]; omega]
    exact this
theorem Per.round {ns : List Int} {st p : Int} (h : 1 ≤ st) (hA : AscI 0 (st - 1) ns) (hr : ∀ r ∈ ns, (r + p) % st ∈ ns) : Per ns st p := fun x => by
  have hs : ∀ r ∈ ns, r % st = r := fun r h => Int.emod_eq_of_lt (hA.1 r h).1 (by have := (hA.1 r h).2; omega)
  rw [decide_eq_decide]
  constructor
  · intro hm
    have := round_many hr hs hm (st - 1).toNat
    rw [Int.toNat_of_nonneg (by omega), Int.emod_add_emod, Int.mul_sub, Int.mul_one, show x + p + (p * st - p) = x + p * st by omega, Int.add_mul_emod_self_right] at this
    exact this
  · intro hm
    have := hr _ hm
    rw [Int.emod_add_emod] at this
    exact this
theorem per_step {L : LP} (h : LpOk L) {q : Int} (hd : L.st % q = 0) (pb : Per L.be L.st q) (pa : Per L.ab L.st q) : stepOk L.st L.be L.ab q = true := by
  have key : ∀ ns : List Int, AscI 0 (L.st - 1) ns → Per ns L.st q → ∀ r ∈ ns, (r + q) % L.st ∈ ns := fun ns hA hp r hr => by
    have := hp r
    rw [Int.emod_eq_of_lt (hA.1 r hr).1 (by have := (hA.1 r hr).2; omega), decide_eq_true hr] at this
    exact of_decide_eq_true this
  exact stepOk_iff.mpr ⟨hd, key _ h.be pb, key _ h.ab pa⟩
/-- the least step divides each period -/
theorem st_dvd {L : LP} (h : LpOk L) (hl : Least L) : ∀ n : Nat, 1 ≤ n → Per L.be L.st n → Per L.ab L.st n → L.st ∣ (n : Int) := by
  intro n
  induction n using Nat.strongRecOn with
  | ind n ih =>
    intro h1 pb pa
    have s1 := h.s1
    by_cases c : L.st ≤ n
    · by_cases e : L.st = n
      · rw [e]; exact Int.dvd_refl _
      · have := ih (n - L.st.toNat) (by omega) (by omega) (by rw [show ((n - L.st.toNat : Nat) : Int) = n - L.st by omega]; exact pb.sub (Per.st _ _)) (by rw [show ((n - L.st.toNat : Nat) : Int) = n - L.st by omega]; exact pa.sub (Per.st _ _))
        rw [show ((n - L.st.toNat : Nat) : Int) = n - L.st by omega] at this
        have := Int.dvd_add this (Int.dvd_refl L.st)
        rw [Int.sub_add_cancel] at this
        exact this
    · have e := Int.emod_add_mul_ediv L.st n
      have r0 := Int.emod_nonneg L.st (show (n : Int) ≠ 0 by omega)
      have r1 := Int.emod_lt_of_pos L.st (show (0 : Int) < n by omega)
      have k0 : 0 ≤ L.st / n := Int.ediv_nonneg (by omega) (by omega)
      have hr : L.st % n = L.st - n * ((L.st / n).toNat : Int) := by rw [Int.toNat_of_nonneg k0]; omega
      have qb := (Per.st L.be L.st).mul pb (L.st / n).toNat
      have qa := (Per.st L.ab L.st).mul pa (L.st / n).toNat
      rw [← hr] at qb qa
      by_cases z : L.st % n = 0
      · have := hl.st n (by omega) (by omega)
        rw [per_step h z pb pa] at this
        cases this
      · have := ih (L.st % n).toNat (by omega) (by omega) (by rw [Int.toNat_of_nonneg r0]; exact qb) (by rw [Int.toNat_of_nonneg r0]; exact qa)
        rw [Int.toNat_of_nonneg r0] at this
        have := Int.le_of_dvd (by omega) this
        omega
theorem far_low (a b c x : Int) (ha : 1 ≤ a) (hb : 1 ≤ b) : ∃ y, y < c ∧ y % a = x % a ∧ y % b = x % b := by
  have h : 1 ≤ a * b := by have := Int.mul_le_mul_of_nonneg_right ha (show 0 ≤ b by omega); rw [Int.one_mul] at this; omega
  have q1 : ((x - c + 1).natAbs : Int) ≤ a * b * (x - c + 1).natAbs := by
    have := Int.mul_le_mul_of_nonneg_right h (show (0 : Int) ≤ (x - c + 1).natAbs by omega)
    rw [Int.one_mul] at this; exact this
  refine ⟨x - a * b * (x - c + 1).natAbs, by omega, ?_, ?_⟩
  · rw [Int.mul_assoc, Int.sub_mul_emod_self_left]
  · rw [Int.mul_comm a b, Int.mul_assoc, Int.sub_mul_emod_self_left]
theorem far_high (a b c x : Int) (ha : 1 ≤ a) (hb : 1 ≤ b) : ∃ y, c ≤ y ∧ y % a = x % a ∧ y % b = x % b := by
  have h : 1 ≤ a * b := by have := Int.mul_le_mul_of_nonneg_right ha (show 0 ≤ b by omega); rw [Int.one_mul] at this; omega
  have q1 : ((c - x).natAbs : Int) ≤ a * b * (c - x).natAbs := by
    have := Int.mul_le_mul_of_nonneg_right h (show (0 : Int) ≤ (c - x).natAbs by omega)
    rw [Int.one_mul] at this; exact this
  refine ⟨x + a * b * (c - x).natAbs, by omega, ?_, ?_⟩
  · rw [Int.mul_assoc, Int.add_mul_emod_self_left]
  · rw [Int.mul_comm a b, Int.mul_assoc, Int.add_mul_emod_self_left]
section
variable {L T : LP}
theorem pat_be (hL : LpOk L) (hT : LpOk T) (hh : ∀ y, L.has y = T.has y) (x : Int) : decide (x % L.st ∈ L.be) = decide (x % T.st ∈ T.be) := by
  obtain ⟨y, y1, y2, y3⟩ := far_low L.st T.st (min L.lo T.lo) x hL.s1 hT.s1
  rw [← y2, ← y3]
  have := hh y
  unfold LP.has at this
  rw [hasL_lo (by omega), hasL_lo (by omega)] at this
  exact this
theorem pat_ab (hL : LpOk L) (hT : LpOk T) (hh : ∀ y, L.has y = T.has y) (x : Int) : decide (x % L.st ∈ L.ab) = decide (x % T.st ∈ T.ab) := by
  obtain ⟨y, y1, y2, y3⟩ := far_high L.st T.st (max L.hi T.hi) x hL.s1 hT.s1
  rw [← y2, ← y3]
  have := hh y
  unfold LP.has at this
  rw [hasL_hi hL.h1 (by omega), hasL_hi hT.h1 (by omega)] at this
  exact this
theorem dvd_same (hL : LpOk L) (lL : Least L) (hT : LpOk T) (hh : ∀ y, L.has y = T.has y) : L.st ∣ T.st := by
  have s1 := hT.s1
  have e : ((T.st.toNat : Nat) : Int) = T.st := by omega
  have := st_dvd hL lL T.st.toNat (by omega) (by rw [e]; exact fun x => by rw [pat_be hL hT hh, pat_be hL hT hh, Int.add_emod_right]) (by rw [e]; exact fun x => by rw [pat_ab hL hT hh, pat_ab hL hT hh, Int.add_emod_right])
  rw [e] at this; exact this
theorem full_of (hL : LpOk L) (h : L.lo = 0 ∧ L.hi = 0 ∧ L.be = L.ab) (y : Int) : L.has y = decide (y % L.st ∈ L.ab) := by
  rw [LP.has]
  by_cases c : y < L.lo
  · rw [hasL_lo c, h.2.2]
  · rw [hasL_hi hL.h1 (by omega)]
theorem ms_nil {a : Int} (h : AscI a (a - 1) L.ms) : L.ms = [] := by
  cases e : L.ms with
  | nil => rfl
  | cons x r =>
    rw [e] at h
    have := h.1 x (List.mem_cons_self ..)
    omega
/-- the least form is one -/
theorem least_one (hL : LpOk L) (lL : Least L) (hT : LpOk T) (lT : Least T) (hh : ∀ y, L.has y = T.has y) : L = T := by
  have hh' : ∀ y, T.has y = L.has y := fun y => (hh y).symm
  have s1 := hL.s1
  have s2 := hT.s1
  have est : L.st = T.st := Int.dvd_antisymm (by omega) (by omega) (dvd_same hL lL hT hh) (dvd_same hT lT hL hh')
  have key : ∀ ns ms : List Int, AscI 0 (L.st - 1) ns → AscI 0 (T.st - 1) ms → (∀ x, decide (x % L.st ∈ ns) = decide (x % T.st ∈ ms)) → ns = ms := fun ns ms hn hm hp => ascI_ext hn hm fun x => by
    have q := hp x
    by_cases c : 0 ≤ x ∧ x < L.st
    · rw [Int.emod_eq_of_lt c.1 c.2, Int.emod_eq_of_lt c.1 (by omega), decide_eq_decide] at q
      exact q
    · exact ⟨fun h => absurd (hn.1 x h) (by omega), fun h => absurd (hm.1 x h) (by omega)⟩
  have ebe := key _ _ hL.be hT.be (pat_be hL hT hh)
  have eab := key _ _ hL.ab hT.ab (pat_ab hL hT hh)
  have big : L.lo = T.lo ∧ L.hi = T.hi := by
    rcases lL.bo with b1 | b1 <;> rcases lT.bo with b2 | b2
    · omega
    · exact absurd (by rw [← hh, full_of hL b1, est, eab]) b2.1
    · exact absurd (by rw [hh, full_of hT b2, est, eab]) b1.1
    · have e1 : L.hi = T.hi := by
        rcases Int.lt_trichotomy L.hi T.hi with c | c | c
        · exact absurd (by rw [← hh, LP.has, hasL_hi hL.h1 (by omega), est, eab]) b2.1
        · exact c
        · exact absurd (by rw [hh, LP.has, hasL_hi hT.h1 (by omega), est, eab]) b1.1
      have l1 := hL.h1
      have l2 := hT.h1
      refine ⟨?_, e1⟩
      rcases Int.lt_trichotomy L.lo T.lo with c | c | c
      · rcases b1.2 with z | z
        · omega
        · exact absurd (by rw [hh, LP.has, hasL_lo c, est, ebe]) z
      · exact c
      · rcases b2.2 with z | z
        · omega
        · exact absurd (by rw [← hh, LP.has, hasL_lo c, est, ebe]) z
  have ems : L.ms = T.ms := ascI_ext hL.ms hT.ms fun x => by
    by_cases c : L.lo ≤ x ∧ x < L.hi
    · have := hh x
      unfold LP.has at this
      rw [hasL_mid c.1 c.2, hasL_mid (by omega) (by omega), decide_eq_decide] at this
      exact this
    · exact ⟨fun h => absurd (hL.ms.1 x h) (by omega), fun h => absurd (hT.ms.1 x h) (by omega)⟩
  cases L; cases T
  simp only [LP.mk.injEq]
  exact ⟨big.1, big.2, ems, est, ebe, eab⟩
end
theorem border_same {L T : LP} (hL : LpOk L) (lL : Least L) (hT : LpOk T) (hh : ∀ y, L.has y = T.has y) : (L.lo = 0 ∧ L.hi = 0 ∧ L.be = L.ab) ∨ (T.lo - T.st ≤ L.lo ∧ L.hi ≤ T.hi) := by
  rcases lL.bo with h | ⟨h1, h2⟩
  · exact .inl h
  right
  have lh := hL.h1
  have th := hT.h1
  have s1 := hT.s1
  have a1 : L.hi ≤ T.hi := by
    by_cases c : L.hi - 1 < T.hi
    · omega
    · exact absurd (by rw [hh, LP.has, hasL_hi hT.h1 (by omega), pat_ab hL hT hh]) h1
  refine ⟨?_, a1⟩
  rcases h2 with e | h2
  · by_cases c : L.hi < T.lo - T.st
    · -- a full round between shows both rests alike
      have full : ∀ x, decide (x % L.st ∈ L.be) = decide (x % L.st ∈ L.ab) := fun x => by
        have r0 := Int.emod_nonneg (x - L.hi) (show T.st ≠ 0 by omega)
        have r1 := Int.emod_lt_of_pos (x - L.hi) (show 0 < T.st by omega)
        have hy : (L.hi + (x - L.hi) % T.st) % T.st = x % T.st := by
          rw [Int.add_emod_emod]; congr 1; omega
        have e1 := hh (L.hi + (x - L.hi) % T.st)
        rw [LP.has, hasL_hi lh (by omega), LP.has, hasL_lo (by omega), ← pat_be hL hT hh, pat_ab hL hT hh, hy, ← pat_ab hL hT hh, pat_be hL hT hh, hy, ← pat_be hL hT hh] at e1
        exact e1.symm
      exact absurd (by rw [LP.has, hasL_lo (by omega), full]) h1
    · omega
  · by_cases c : L.lo < T.lo
    · exact absurd (by rw [hh, LP.has, hasL_lo c, pat_be hL hT hh]) h2
    · omega
/-- as data -/
def dLP (T : LP) : PyData := .tuple [.int T.lo, .int T.hi, dT T.ms, .int T.st, dT T.be, dT T.ab]
theorem shaped_dLP (T : LP) : SeqAt.shaped (dLP T) = true := by
  have h1 := lay_ints T.ms
  have h2 := lay_ints T.be
  have h3 := lay_ints T.ab
  have d1 := dep_ints T.ms
  have d2 := dep_ints T.be
  have d3 := dep_ints T.ab
  unfold SeqAt.shaped dLP
  simp [PyData.canLay0, PyData.canLayAll0, PyData.depth, PyData.depthAll, dT, h1, h2, h3]
  omega
theorem eqv_dLP (T U : LP) : PyData.eqv (dLP T) (dLP U) = decide (T = U) := by
  obtain ⟨a1, a2, a3, a4, a5, a6⟩ := T
  obtain ⟨b1, b2, b3, b4, b5, b6⟩ := U
  unfold dLP
  simp only [PyData.eqv, PyData.eqvAll, eqv_dT, LP.mk.injEq, Bool.and_true, Bool.decide_and]
  congr 1
theorem dp_LP {G P H : Hp} {t : Addr} {T : LP} (j : Join G P H) (h : PtAt G t T) : Dp K H (.ref t) (dLP T) := by
  obtain ⟨tm, tb, ta, h1, h2, h3, h4⟩ := h
  exact .tup (sqT (j.g _ _ h1)) (.cons (.int _) (.cons (.int _) (.cons (dp_tup (j.g _ _ h2)) (.cons (.int _) (.cons (dp_tup (j.g _ _ h3)) (.cons (dp_tup (j.g _ _ h4)) .nil))))))
theorem eqD_LP {G P H : Hp} {t u : Addr} {T U : LP} {Q : VK} (j : Join G P H) (ht : PtAt G t T) (hu : PtAt G u U) (q : Q (.bl (decide (T = U))) H) : rEqD K (.ref t) (.ref u) H Q :=
  ⟨_, _, dp_LP j ht, dp_LP j hu, shaped_dLP _, shaped_dLP _, by rw [eqv_dLP]; exact q⟩
theorem neD_LP {G P H : Hp} {t u : Addr} {T U : LP} {Q : VK} (j : Join G P H) (ht : PtAt G t T) (hu : PtAt G u U) (q : Q (.bl (!decide (T = U))) H) : rNeD K (.ref t) (.ref u) H Q :=
  ⟨_, _, dp_LP j ht, dp_LP j hu, shaped_dLP _, shaped_dLP _, by rw [eqv_dLP]; exact q⟩
/-- the six parts of a lot, told -/
def spTold (K : PySem.W.Frag) : Sp := fun vs H Q _ => ∃ (p : Addr) (L : LP) (G P : Hp), vs = [.ref p] ∧ Join G P H ∧ LotAt K G p L ∧ ∀ t G' H', Ex G G' → Join G' P H' → PtAt G' t L → Q (.ref t) H'
theorem sc_Lot_told : FnScope ["self"] ["self"] (defScope s_Lot_told) := ⟨rfl, rfl, rfl, by decide +kernel, rfl, by decide +kernel, by decide +kernel⟩
theorem ok_Lot_told (T : Txt K mg) : ∃ fd, Dm P w K mg base (L2.CX P w) 1 "Lot" "told" ["self"] (spTold K) fd := by
  obtain ⟨fd, F⟩ := T.d_Lot_told
  refine ⟨fd, F.ok sc_Lot_told (fun vs H Q E h => ?_) (fun cdv A outer s H vs Q E hr h => ?_), F.bindsN fun _ _ _ _ _ _ us hl => match us, hl with | [_], _ => rfl, Lv.fun_lk F⟩
  · obtain ⟨_, _, _, _, rfl, _⟩ := h
    rfl
  · have hu := hu_of hr
    refine ⟨_, PSs.nox (pss_one (ps_ret (pe_tup (pa_cons (pe_fld (pv 0) rfl) (pa_cons (pe_fld (pv 0) rfl) (pa_cons (pe_fld (pv 0) rfl) (pa_cons (pe_fld (pv 0) rfl) (pa_cons (pe_fld (pv 0) rfl) (pa_cons (pe_fld (pv 0) rfl) pa_nil))))))))), ?_⟩
    obtain ⟨p, L, G, P0, rfl, j, hp, q⟩ := h
    walk_at "w"
    refine lfLow j hp ?_
    walk_at "w"
    refine lfHigh j hp ?_
    walk_at "w"
    refine lfMembers j hp fun tm htm => ?_
    walk_at "w"
    refine lfStep j hp ?_
    walk_at "w"
    refine lfBelow j hp fun tb htb => ?_
    walk_at "w"
    refine lfAbove j hp fun ta hta => ?_
    walk_at "w"
    refine aTup.go j (by show 6 ≤ 100000; decide) fun t G1 H1 _ e1 j1 ht => ?_
    exact q t G1 H1 e1 j1 ⟨tm, tb, ta, ht, e1 _ _ htm, e1 _ _ htb, e1 _ _ hta⟩
theorem LC.ty {C : Addr} (h : LC K C) {H : Hp} {a dx : Addr} {fs : List (Str × V)} (e : H a = some (.ins C dx fs)) : TyX K H (.ref a) (.ref C) := .base (.ins e h.c h.o.ha h.o.hn h.o.htk h.o.hm)
/-- a class of lots, with its told -/
structure LM (K : PySem.W.Frag) (C : Addr) : Prop extends LC K C where
  told : Meth K C "told" (He.ma K (He.ga K "Lot") "told")
theorem lm_L (T : Txt K mg) : LM K (He.ga K "Lot") := ⟨lc_L T, T.me_Lot_told⟩
def spLEq (K : PySem.W.Frag) : Sp := fun vs H Q _ => ∃ Ca Cb : Addr, LM K Ca ∧ LM K Cb ∧ ∃ (a b : Addr) (L L' : LP) (G P : Hp), vs = [.ref a, .ref b] ∧ Join G P H ∧ LotIs K Ca G a L ∧ LotIs K Cb G b L' ∧ ∀ G' H', Ex G G' → Join G' P H' → Q (.bl (decide (L = L'))) H'
theorem sc_Lot_eq : FnScope ["self", "other"] ["self", "other"] (defScope s_Lot_eq) := ⟨rfl, rfl, rfl, by decide +kernel, rfl, by decide +kernel, by decide +kernel⟩
theorem ok_Lot_eq (T : Txt K mg) {fd_Lot_told : FuncData} (G_Lot_told : Dm P w K mg base (L2.CX P w) 1 "Lot" "told" ["self"] (spTold K) fd_Lot_told) : ∃ fd, Dm P w K mg base (L2.CX P w) 2 "Lot" "__eq__" ["self", "other"] (spLEq K) fd := by
  obtain ⟨fd, F⟩ := T.d_Lot_eq
  refine ⟨fd, F.ok sc_Lot_eq (fun vs H Q E h => ?_) (fun cdv A outer s H vs Q E hr h => ?_), F.bindsN fun _ _ _ _ _ _ us hl => match us, hl with | [_, _], _ => rfl, Lv.fun_lk F⟩
  · obtain ⟨_, _, _, _, _, _, _, _, _, _, rfl, _⟩ := h
    rfl
  · have hu := hu_of hr
    have hr_Lot_told : Room 1 _ := hr.mono (by decide)
    obtain ⟨Ca, Cb, hCa, hCb, h⟩ := h
    refine ⟨_, PSs.nox (pss_one (ps_ret (pe_and (pe_callB call_isi (by rfl) T.n_isinstance (by decide +kernel) (pa_cons (pv 1) (pa_cons (pe_glob (v := .ref (He.ga K "Lot")) rfl T.g_Lot rfl) pa_nil))) (pe_one (pe_cmpR (op_eqD hr.units) (pe_meth0 (pv 0) hCa.c hCa.told G_Lot_told.ok hr_Lot_told G_Lot_told.b .nil passL) (pe_meth0 (pv 1) hCb.c hCb.told G_Lot_told.ok hr_Lot_told G_Lot_told.b .nil passL) (nomark _)))))), ?_⟩
    obtain ⟨a, b, L, L', G, P0, rfl, j, ha, hb, q⟩ := h
    obtain ⟨dxa, ta1, ta2, ta3, ta4, ta5, ta6, _, hxa, _⟩ := id ha
    obtain ⟨dxb, tb1, tb2, tb3, tb4, tb5, tb6, _, hxb, _⟩ := id hb
    walk_at "w"
    refine ⟨_, _, _, _, true, rfl, .own _, hCb.toLC.ty (j.g _ _ hxb), hCb.o.kit, ?_⟩
    walk_at "w"
    refine aMeth.go j hxa (lookup_none _ _ (by decide +kernel)) ?_
    walk_at "w"
    refine ⟨a, L, G, P0, rfl, j, ha.at, fun t1 G1 H1 e1 j1 h1 => ?_⟩
    replace hb := hb.mono e1
    replace hxb := e1 _ _ hxb
    walk_at "w"
    refine aMeth.go j1 hxb (lookup_none _ _ (by decide +kernel)) ?_
    walk_at "w"
    refine ⟨b, L', G1, P0, rfl, j1, hb.at, fun t2 G2 H2 e2 j2 h2 => ?_⟩
    exact eqD_LP j2 (h1.mono e2) h2 (q G2 H2 (e1.trans e2) j2)
/-- == of two lots of one class -/
theorem lotEq_go {C : Addr} {G P0 H : Hp} {a b : Addr} {L L' : LP} {Q : VK} {E : XK} (hC : LM K C) (j : Join G P0 H) (ha : LotIs K C G a L) (hb : LotIs K C G b L') (q : ∀ G' H', Ex G G' → Join G' P0 H' → Q (.bl (decide (L = L'))) H') :
    rEqO K (He.ga K "Lot") (He.ma K (He.ga K "Lot") "__eq__") (spLEq K) E (.ref a) (.ref b) H Q := by
  obtain ⟨dxa, ta1, ta2, ta3, ta4, ta5, ta6, hCa, hxa, _⟩ := id ha
  obtain ⟨dxb, tb1, tb2, tb3, tb4, tb5, tb6, hCb, hxb, _⟩ := id hb
  exact ⟨_, a, dxa, _, _, rfl, j.g _ _ hxa, hCa.q, hCb.ty (j.g _ _ hxb), first_self, _, _, hC, hC, a, b, L, L', G, P0, rfl, j, ha, hb, fun G' H' e' j' => ⟨_, rfl, q G' H' e' j'⟩⟩
/-- == of a lot of any class and one made by Lot -/
theorem lotEq_L {C : Addr} {G P0 H : Hp} {a b : Addr} {L L' : LP} {Q : VK} {E : XK} (hC : LM K C) (hD : LM K (He.ga K "Lot")) (j : Join G P0 H) (ha : LotIs K C G a L) (hb : LotIs K (He.ga K "Lot") G b L') (q : ∀ G' H', Ex G G' → Join G' P0 H' → Q (.bl (decide (L = L'))) H') :
    rEqO K (He.ga K "Lot") (He.ma K (He.ga K "Lot") "__eq__") (spLEq K) E (.ref a) (.ref b) H Q := by
  obtain ⟨dxa, ta1, ta2, ta3, ta4, ta5, ta6, hCa, hxa, _⟩ := id ha
  obtain ⟨dxb, tb1, tb2, tb3, tb4, tb5, tb6, hCb, hxb, _⟩ := id hb
  exact ⟨_, a, dxa, _, _, rfl, j.g _ _ hxa, hCa.q, hCb.ty (j.g _ _ hxb), hCa.q.first, _, _, hC, hD, a, b, L, L', G, P0, rfl, j, ha, hb, fun G' H' e' j' => ⟨_, rfl, q G' H' e' j'⟩⟩
end X

namespace X
open PySem PySem.Spec PyProof.Rows L2 Lv
variable {P : Program} {w : World} {K : PySem.W.Frag} {mg : Str → Option Value} {base : Heap}
theorem sc_l_six : FnScope ["_law_lot_here"] ["_law_lot_here"] (defScope s_l_six) := ⟨rfl, rfl, rfl, by decide +kernel, rfl, by decide +kernel, by decide +kernel⟩
theorem ok_l_six (T : Txt K mg) : ∃ fd, Dn P w K mg base (L2.CX P w) 1 "_law_six" ["_law_lot_here"] (spTold K) fd := by
  obtain ⟨fd, F⟩ := T.d_l_six
  refine ⟨fd, F.ok sc_l_six (fun vs H Q E h => ?_) (fun cdv A outer s H vs Q E hr h => ?_), T.g_l_six, F.kp, F.bindsN fun _ _ _ _ _ _ us hl => match us, hl with | [_], _ => rfl, Lv.fun_lk F⟩
  · obtain ⟨_, _, _, _, rfl, _⟩ := h
    rfl
  · have hu := hu_of hr
    refine ⟨_, PSs.nox (pss_one (ps_ret (pe_tup (pa_cons (pe_fld (pv 0) rfl) (pa_cons (pe_fld (pv 0) rfl) (pa_cons (pe_fld (pv 0) rfl) (pa_cons (pe_fld (pv 0) rfl) (pa_cons (pe_fld (pv 0) rfl) (pa_cons (pe_fld (pv 0) rfl) pa_nil))))))))), ?_⟩
    obtain ⟨p, L, G, P0, rfl, j, hp, q⟩ := h
    walk_at "w"
    refine lfLow j hp ?_
    walk_at "w"
    refine lfHigh j hp ?_
    walk_at "w"
    refine lfMembers j hp fun tm htm => ?_
    walk_at "w"
    refine lfStep j hp ?_
    walk_at "w"
    refine lfBelow j hp fun tb htb => ?_
    walk_at "w"
    refine lfAbove j hp fun ta hta => ?_
    walk_at "w"
    refine aTup.go j (by show 6 ≤ 100000; decide) fun t G1 H1 _ e1 j1 ht => ?_
    exact q t G1 H1 e1 j1 ⟨tm, tb, ta, ht, e1 _ _ htm, e1 _ _ htb, e1 _ _ hta⟩
/-- told by more numbers -/
def spFlag (K : PySem.W.Frag) : Sp := fun vs H Q _ => ∃ (a b : Bool), vs = [.bl a, .bl b] ∧ Q (.bl (decide (a = b))) H
theorem blD (a b : Bool) : decide (V.bl a = V.bl b) = decide (a = b) := decide_eq_decide.mpr ⟨fun h => V.bl.inj h, fun h => congrArg _ h⟩
end X

namespace X
open PySem PySem.Spec PyProof.Rows L2 Lv
variable {P : Program} {w : World} {K : PySem.W.Frag} {mg : Str → Option Value} {base : Heap}
theorem add_key {st b : Int} (s1 : 1 ≤ st) (r y : Int) (r0 : 0 ≤ r) (r1 : r < st) : (r + b) % st = y % st ↔ r = (y - b) % st := ⟨fun h => by
  rw [Int.sub_emod y b, ← h, ← Int.sub_emod, Int.add_sub_cancel, Int.emod_eq_of_lt r0 r1], fun h => by
  rw [h, Int.emod_add_emod, Int.sub_add_cancel]⟩
def spMR (K : PySem.W.Frag) : Sp := fun vs H Q _ => ∃ (t : Addr) (st b : Int) (ns : List Int) (G P : Hp), vs = [.ref t, .int st, .int b] ∧ Join G P H ∧ G t = some (.tup (ns.map V.int)) ∧ AscI 0 (st - 1) ns ∧ 1 ≤ st ∧ ns.length ≤ 100000 ∧
  ∀ p ns' G' H', AscI 0 (st - 1) ns' → (∀ y, decide (y % st ∈ ns') = decide ((y - b) % st ∈ ns)) → Ex G G' → Join G' P H' → G' p = some (.tup (ns'.map V.int)) → Q (.ref p) H'
theorem sc_moved_rests : FnScope ["rests", "step", "by", "rest"] ["rests", "step", "by"] (defScope s_moved_rests) := ⟨rfl, rfl, rfl, by decide +kernel, rfl, by decide +kernel, by decide +kernel⟩
theorem ok_moved_rests (T : Txt K mg) : ∃ fd, Dn P w K mg base (L2.CX P w) 1 "moved_rests" ["rests", "step", "by"] (spMR K) fd := by
  obtain ⟨fd, F⟩ := T.d_moved_rests
  refine ⟨fd, F.ok sc_moved_rests (fun vs H Q E h => ?_) (fun cdv A outer s H vs Q E hr h => ?_), T.g_moved_rests, F.kp, F.bindsN fun _ _ _ _ _ _ us hl => match us, hl with | [_, _, _], _ => rfl, Lv.fun_lk F⟩
  · obtain ⟨_, _, _, _, _, _, rfl, _⟩ := h
    rfl
  · have hu := hu_of hr
    refine ⟨_, PSs.nox (pss_one (ps_ret (pe_callTy call_tuple_of (by rfl) T.n_tuple (by decide +kernel) (pa_cons (pe_callB (Lv.cr_sortedIK (K := K) rfl) (by rfl) T.n_sorted (by decide +kernel) (pa_cons (pe_lc (own := [("rest", 3)]) (g := gName 3) (tt := tYes) rfl sc_moved_rests.nd (pi_tup (pv 0)) (blkOk_by (N := ["rests", "step", "by", "rest"]) (sc := defScope s_moved_rests) (by decide +kernel)) (fun _ _ _ _ _ => (pg_name (i := 3) sc_moved_rests.nd rfl (Or.inl rfl) (hf := Or.inr rfl))) (fun _ _ _ _ _ => pts_nil) (fun _ _ _ _ _ => (pe_op op_mod (pe_op op_add (pv 3) (pv 2)) (pv 1)))) pa_nil)) pa_nil)))), ?_⟩
    obtain ⟨t, st, b, ns, G, P0, rfl, j, ht, hA, s1, hl, q⟩ := h
    walk_at "w"
    refine aLcT.fil (fun _ => true) (fun k => .int ((k + b) % st)) j ht (by omega) (fun k G' H' R R0 hk e' j' kR _ => ?_) fun l1 G1 H1 _ e1 j1 h1 => ?_
    · walk_at "w"
      refine ⟨rfl, ?_⟩
      walk_at "w"
      refine w_rI (by omega) ?_
      exact kR rfl _ _ (Ex.refl _) j'
    rw [fil_all, mapI] at h1
    walk_at "w"
    refine sortI_go j1 h1 fun ns' l2 G2 H2 per srt _ e2 j2 h2 => ?_
    walk_at "w"
    refine tupOf_go j2 h2 fun p G3 H3 _ e3 j3 h3 => ?_
    have r1 := sorted_rests (f := fun r => r + b) (g := fun y => y - b) s1 hA (add_key s1) per srt
    exact q p ns' G3 H3 r1.1 r1.2 ((e1.trans e2).trans e3) j3 h3
theorem mvLP_ok {L : LP} (h : LpOk L) {b : Int} {be ab : List Int} (hb : AscI 0 (L.st - 1) be) (pb : ∀ y, decide (y % L.st ∈ be) = decide ((y - b) % L.st ∈ L.be)) (ha : AscI 0 (L.st - 1) ab) (pa : ∀ y, decide (y % L.st ∈ ab) = decide ((y - b) % L.st ∈ L.ab)) :
    LpOk ⟨L.lo + b, L.hi + b, L.ms.map fun r => r + b, L.st, be, ab⟩ ∧ ∀ y, LP.has ⟨L.lo + b, L.hi + b, L.ms.map fun r => r + b, L.st, be, ab⟩ y = L.has (y - b) := by
  have lh := h.h1
  have lh2 := h.h2
  refine ⟨⟨by show L.lo + b ≤ L.hi + b; omega, by show L.hi + b ≤ L.lo + b + 100001; omega, ⟨fun x hx => ?_, ?_⟩, h.s1, h.s2, hb, ha, by show (L.ms.map fun r => r + b).length ≤ 100000; rw [List.length_map]; exact h.ml⟩, fun y => ?_⟩
  · obtain ⟨k, hk, rfl⟩ := List.mem_map.mp hx
    have := h.ms.1 k hk
    show L.lo + b ≤ k + b ∧ k + b ≤ L.hi + b - 1
    omega
  · exact List.pairwise_map.mpr (h.ms.2.imp fun {x y} h => by omega)
  · rw [LP.has_eq, LP.has_eq]
    show (if y < L.lo + b then decide (y % L.st ∈ be) else if y < L.hi + b then decide (y ∈ L.ms.map fun r => r + b) else decide (y % L.st ∈ ab)) = _
    rw [pb, pa, decide_eq_decide.mpr (show (y ∈ L.ms.map fun r => r + b) ↔ y - b ∈ L.ms from ⟨fun hm => by
      obtain ⟨k, hk, e⟩ := List.mem_map.mp hm
      rw [show y - b = k by omega]; exact hk, fun hm => List.mem_map.mpr ⟨y - b, hm, by omega⟩⟩)]
    by_cases c1 : y < L.lo + b
    · rw [if_pos c1, if_pos (by omega)]
    · rw [if_neg c1, if_neg (show ¬ y - b < L.lo by omega)]
      by_cases c2 : y < L.hi + b
      · rw [if_pos c2, if_pos (by omega)]
      · rw [if_neg c2, if_neg (by omega)]
/-- a lot moved; the parts that it is made of -/
def spMv (K : PySem.W.Frag) : Sp := fun vs H Q _ => ∃ (p : Addr) (b : Int) (L : LP) (G P : Hp), vs = [.ref p, .int b] ∧ Join G P H ∧ LotAt K G p L ∧ LpOk L ∧
  ∀ x N be ab G' H', Ex G G' → Join G' P H' → LpOk N → Least N → LpOk ⟨L.lo + b, L.hi + b, L.ms.map fun r => r + b, L.st, be, ab⟩ → (∀ y, N.has y = LP.has ⟨L.lo + b, L.hi + b, L.ms.map fun r => r + b, L.st, be, ab⟩ y) → (∀ y, N.has y = L.has (y - b)) → LotIs K (He.ga K "RawLot") G' x N → Q (.ref x) H'
theorem sc_moved_of : FnScope ["lot", "by", "members", "below", "number"] ["lot", "by"] (defScope s_moved_of) := ⟨rfl, rfl, rfl, by decide +kernel, rfl, by decide +kernel, by decide +kernel⟩
theorem ok_moved_of (T : Txt K mg) {fd_moved_rests : FuncData} (G_moved_rests : Dn P w K mg base (L2.CX P w) 1 "moved_rests" ["rests", "step", "by"] (spMR K) fd_moved_rests) {fd_RawLot_init : FuncData} (G_RawLot_init : Dm P w K mg base (L2.CX P w) 5 "RawLot" "__init__" ["self", "low", "high", "members", "step", "below", "above"] (spRawI K) fd_RawLot_init) : ∃ fd, Dn P w K mg base (L2.CX P w) 7 "moved_of" ["lot", "by"] (spMv K) fd := by
  obtain ⟨fd, F⟩ := T.d_moved_of
  refine ⟨fd, F.ok sc_moved_of (fun vs H Q E h => ?_) (fun cdv A outer s H vs Q E hr h => ?_), T.g_moved_of, F.kp, F.bindsN fun _ _ _ _ _ _ us hl => match us, hl with | [_, _], _ => rfl, Lv.fun_lk F⟩
  · obtain ⟨_, _, _, _, _, rfl, _⟩ := h
    rfl
  · have hu := hu_of hr
    have hr_moved_rests : Room 1 _ := hr.mono (by decide)
    have hr_RawLot_init : Room 6 _ := hr.mono (by decide)
    refine ⟨_, PSs.nox (pss_cons (ps_set (i := 2) sc_moved_of.nd rfl (Or.inl rfl) (pe_callTy call_tuple_of (by rfl) T.n_tuple (by decide +kernel) (pa_cons (pe_lc (own := [("number", 4)]) (g := gName 4) (tt := tYes) rfl sc_moved_of.nd (pi_tup (pe_fld (pv 0) rfl)) (blkOk_by (N := ["lot", "by", "members", "below", "number"]) (sc := defScope s_moved_of) (by decide +kernel)) (fun _ _ _ _ _ => (pg_name (i := 4) sc_moved_of.nd rfl (Or.inl rfl) (hf := Or.inr rfl))) (fun _ _ _ _ _ => pts_nil) (fun _ _ _ _ _ => (pe_op op_add (pv 4) (pv 1)))) pa_nil)))
      (pss_cons (ps_set (i := 3) sc_moved_of.nd rfl (Or.inl rfl) (pe_call G_moved_rests.ok hr_moved_rests rfl G_moved_rests.mg G_moved_rests.kp G_moved_rests.b .nil passL (pa_cons (pe_fld (pv 0) rfl) (pa_cons (pe_fld (pv 0) rfl) (pa_cons (pv 1) pa_nil)))))
      (pss_one (ps_ret (pe_make T.mk_RawLot G_RawLot_init.ok hr_RawLot_init (by rfl) T.g_RawLot G_RawLot_init.b .nil passL (pa_cons (pe_op op_add (pe_fld (pv 0) rfl) (pv 1)) (pa_cons (pe_op op_add (pe_fld (pv 0) rfl) (pv 1)) (pa_cons (pv 2) (pa_cons (pe_fld (pv 0) rfl) (pa_cons (pv 3) (pa_cons (pe_call G_moved_rests.ok hr_moved_rests rfl G_moved_rests.mg G_moved_rests.kp G_moved_rests.b .nil passL (pa_cons (pe_fld (pv 0) rfl) (pa_cons (pe_fld (pv 0) rfl) (pa_cons (pv 1) pa_nil)))) pa_nil))))))))))), ?_⟩
    obtain ⟨p, b, L, G, P0, rfl, j, hp, hL, q⟩ := h
    have l1 := hL.ml
    walk_at "w"
    refine lfMembers j hp fun t ht => ?_
    walk_at "w"
    refine aLcT.fil (fun _ => true) (fun k => .int (k + b)) j ht (by omega) (fun k G' H' R R0 hk e' j' kR _ => ?_) fun l2 G2 H2 _ e2 j2 hl => ?_
    · walk_at "w"
      refine ⟨rfl, ?_⟩
      walk_at "w"
      exact kR rfl _ _ (Ex.refl _) j'
    rw [fil_all, mapI] at hl
    replace hp := hp.mono e2
    walk_at "w"
    refine tupOf_go j2 hl fun tm G3 H3 _ e3 j3 htm => ?_
    replace hp := hp.mono e3
    walk_at "w"
    refine lfBelow j3 hp fun tb htb => ?_
    walk_at "w"
    refine lfStep j3 hp ?_
    walk_at "w"
    refine ⟨tb, L.st, b, L.be, G3, P0, rfl, j3, htb, hL.be, hL.s1, hL.bl, fun ub nbe G4 H4 hnb pnb e4 j4 hub => ?_⟩
    replace htm := e4 _ _ htm; replace hp := hp.mono e4
    walk_at "w"
    refine lfLow j4 hp ?_
    walk_at "w"
    refine lfHigh j4 hp ?_
    walk_at "w"
    refine lfStep j4 hp ?_
    walk_at "w"
    refine lfAbove j4 hp fun ta hta => ?_
    walk_at "w"
    refine lfStep j4 hp ?_
    walk_at "w"
    refine ⟨ta, L.st, b, L.ab, G4, P0, rfl, j4, hta, hL.ab, hL.s1, hL.al, fun ua nab G5 H5 hna pna e5 j5 hua => ?_⟩
    replace htm := e5 _ _ htm; replace hub := e5 _ _ hub
    walk_at "w"
    have hok := mvLP_ok hL hnb pnb hna pna
    exact raw_go (T := ⟨L.lo + b, L.hi + b, L.ms.map fun r => r + b, L.st, nbe, nab⟩) j5 hok.1 htm hub hua fun x N Ga Ha _ ea ja m1 m2 m3 m4 => q x N nbe nab Ga Ha ((((e2.trans e3).trans e4).trans e5).trans ea) ja m1 m2 hok.1 m3 (fun y => (m3 y).trans (hok.2 y)) m4
theorem sc_moved : FnScope ["lot", "by"] ["lot", "by"] (defScope s_moved) := ⟨rfl, rfl, rfl, by decide +kernel, rfl, by decide +kernel, by decide +kernel⟩
theorem ok_moved (T : Txt K mg) {fd_check_integer : FuncData} (G_check_integer : Dn P w K mg base (L2.CX P w) 3 "check_integer" ["thing"] (sp_checkint K) fd_check_integer) {fd_moved_of : FuncData} (G_moved_of : Dn P w K mg base (L2.CX P w) 7 "moved_of" ["lot", "by"] (spMv K) fd_moved_of) : ∃ fd, Dn P w K mg base (L2.CX P w) 8 "moved" ["lot", "by"] (spMv K) fd := by
  obtain ⟨fd, F⟩ := T.d_moved
  refine ⟨fd, F.ok sc_moved (fun vs H Q E h => ?_) (fun cdv A outer s H vs Q E hr h => ?_), T.g_moved, F.kp, F.bindsN fun _ _ _ _ _ _ us hl => match us, hl with | [_, _], _ => rfl, Lv.fun_lk F⟩
  · obtain ⟨_, _, _, _, _, rfl, _⟩ := h
    rfl
  · have hu := hu_of hr
    have hr_check_integer : Room 3 _ := hr.mono (by decide)
    have hr_moved_of : Room 7 _ := hr.mono (by decide)
    refine ⟨_, PSs.nox (pss_cons (ps_expr (pe_call G_check_integer.ok hr_check_integer rfl G_check_integer.mg G_check_integer.kp G_check_integer.b .nil passL (pa_cons (pv 1) pa_nil)))
      (pss_one (ps_ret (pe_call G_moved_of.ok hr_moved_of rfl G_moved_of.mg G_moved_of.kp G_moved_of.b .nil passL (pa_cons (pv 0) (pa_cons (pv 1) pa_nil)))))), ?_⟩
    obtain ⟨p, b, L, G, P0, rfl, j, hp, hL, q⟩ := h
    walk_at "w"
    refine ⟨_, rfl, ?_⟩
    walk_at "w"
    exact ⟨p, b, L, G, P0, rfl, j, hp, hL, q⟩
end X

namespace X
open PySem PySem.Spec PyProof.Rows L2 Lv
variable {P : Program} {w : World} {K : PySem.W.Frag} {mg : Str → Option Value} {base : Heap}
theorem lm_R (T : Txt K mg) : LM K (He.ga K "RawLot") := ⟨lc_R T, Lv.meth_cast T.me_RawLot_told T.j_RawLot_told⟩
theorem isiS_go {a tp : Addr} {xs : List V} {G Pp H : Hp} {Q : VK} (J : Join G Pp H) (h : Sq G a xs) (ht : G tp = some (.tup [.ty "list", .ty "tuple"])) (q : Q (.bl true) H) : rIsiT K [.ref a, .ref tp] H Q := by
  rcases h with h | h
  · refine ⟨.ref a, tp, _, _, [.type "list", .type "tuple"], true, rfl, J.g _ _ ht, .cons (.ty _) (.cons (.ty _) .nil), .base (.lst (J.g _ _ h)), kitAny_cons (b := true) (kit_ty (by decide +kernel)) (fun h => nomatch h) (fun _ => rfl), q⟩
  · refine ⟨.ref a, tp, _, _, [.type "list", .type "tuple"], true, rfl, J.g _ _ ht, .cons (.ty _) (.cons (.ty _) .nil), .base (.tup (J.g _ _ h)), kitAny_cons (b := false) (kit_ty (by decide +kernel)) (fun _ => kitAny_cons (b := true) (kit_ty (by decide +kernel)) (fun h => nomatch h) (fun _ => rfl)) (fun h => nomatch h), q⟩
def spListed (K : PySem.W.Frag) : Sp := fun vs H Q _ => ∃ (p : Addr) (xs : List V) (G P : Hp), vs = [.ref p] ∧ Join G P H ∧ Sq G p xs ∧ ∀ G' H', Ex G G' → Join G' P H' → Q (.bl true) H'
theorem sc_is_listed : FnScope ["thing"] ["thing"] (defScope s_is_listed) := ⟨rfl, rfl, rfl, by decide +kernel, rfl, by decide +kernel, by decide +kernel⟩
theorem ok_is_listed (T : Txt K mg) : ∃ fd, Dn P w K mg base (L2.CX P w) 1 "is_listed" ["thing"] (spListed K) fd := by
  obtain ⟨fd, F⟩ := T.d_is_listed
  refine ⟨fd, F.ok sc_is_listed (fun vs H Q E h => ?_) (fun cdv A outer s H vs Q E hr h => ?_), T.g_is_listed, F.kp, F.bindsN fun _ _ _ _ _ _ us hl => match us, hl with | [_], _ => rfl, Lv.fun_lk F⟩
  · obtain ⟨_, _, _, _, rfl, _⟩ := h
    rfl
  · have hu := hu_of hr
    refine ⟨_, PSs.nox (pss_one (ps_ret (pe_callB call_isiT (by rfl) T.n_isinstance (by decide +kernel) (pa_cons (pv 0) (pa_cons (pe_tup (pa_cons (pe_bltn (v := .ty "list") (by rfl) T.n_list (by decide +kernel) rfl) (pa_cons (pe_bltn (v := .ty "tuple") (by rfl) T.n_tuple (by decide +kernel) rfl) pa_nil))) pa_nil))))), ?_⟩
    obtain ⟨p, xs, G, P0, rfl, j, hp, q⟩ := h
    walk_at "w"
    refine aTup.go j (by show 2 ≤ 100000; decide) fun tp G1 H1 _ e1 j1 htp => ?_
    walk_at "w"
    refine isiS_go j1 (hp.mono e1) htp ?_
    exact q G1 H1 e1 j1
def emptyLP : LP := ⟨0, 0, [], 1, [], []⟩
theorem emptyLP_ok : LpOk emptyLP := ⟨by decide, by decide, ⟨fun x h => (nomatch h), List.Pairwise.nil⟩, by decide, by decide, ⟨fun x h => (nomatch h), List.Pairwise.nil⟩, ⟨fun x h => (nomatch h), List.Pairwise.nil⟩, by decide⟩
theorem emptyLP_has (y : Int) : emptyLP.has y = false := by
  rw [LP.has_def]
  show (if y < 0 then decide (y % 1 ∈ []) else if y < 0 then decide (y ∈ []) else decide (y % 1 ∈ [])) = false
  simp
def spEmptyL (K : PySem.W.Frag) : Sp := fun vs H Q _ => ∃ (G P : Hp), vs = [] ∧ Join G P H ∧ ∀ x N G' H', Ex G G' → Join G' P H' → LpOk N → Least N → (∀ y, N.has y = false) → LotIs K (He.ga K "RawLot") G' x N → Q (.ref x) H'
theorem sc_empty_lot : FnScope [] [] (defScope s_empty_lot) := ⟨rfl, rfl, rfl, by decide +kernel, rfl, by decide +kernel, by decide +kernel⟩
theorem ok_empty_lot (T : Txt K mg) {fd_RawLot_init : FuncData} (G_RawLot_init : Dm P w K mg base (L2.CX P w) 5 "RawLot" "__init__" ["self", "low", "high", "members", "step", "below", "above"] (spRawI K) fd_RawLot_init) : ∃ fd, Dn P w K mg base (L2.CX P w) 7 "empty_lot" [] (spEmptyL K) fd := by
  obtain ⟨fd, F⟩ := T.d_empty_lot
  refine ⟨fd, F.ok sc_empty_lot (fun vs H Q E h => ?_) (fun cdv A outer s H vs Q E hr h => ?_), T.g_empty_lot, F.kp, F.bindsN fun _ _ _ _ _ _ us hl => match us, hl with | [], _ => rfl, Lv.fun_lk F⟩
  · obtain ⟨_, _, rfl, _⟩ := h
    rfl
  · have hu := hu_of hr
    have hr_RawLot_init : Room 6 _ := hr.mono (by decide)
    refine ⟨_, PSs.nox (pss_one (ps_ret (pe_make T.mk_RawLot G_RawLot_init.ok hr_RawLot_init (by rfl) T.g_RawLot G_RawLot_init.b .nil passL (pa_cons pe_int (pa_cons pe_int (pa_cons (pe_tup pa_nil) (pa_cons pe_int (pa_cons (pe_tup pa_nil) (pa_cons (pe_tup pa_nil) pa_nil))))))))), ?_⟩
    obtain ⟨G, P0, rfl, j, q⟩ := h
    walk_at "w"
    refine aTup.go j (by show 0 ≤ 100000; decide) fun t1 G1 H1 _ e1 j1 h1 => ?_
    walk_at "w"
    refine aTup.go j1 (by show 0 ≤ 100000; decide) fun t2 G2 H2 _ e2 j2 h2 => ?_
    walk_at "w"
    refine aTup.go j2 (by show 0 ≤ 100000; decide) fun t3 G3 H3 _ e3 j3 h3 => ?_
    walk_at "w"
    exact raw_go (T := emptyLP) j3 emptyLP_ok ((e2.trans e3) _ _ h1) (e3 _ _ h2) h3 fun x M Ga Ha _ ea ja m1 m2 m3 m4 => q x M Ga Ha (((e1.trans e2).trans e3).trans ea) ja m1 m2 (fun y => (m3 y).trans (emptyLP_has y)) m4
def evLP (st r : Int) : LP := ⟨0, 0, [], st, [r], [r]⟩
theorem evLP_ok {st r : Int} (s1 : 1 ≤ st) (s2 : st ≤ 4000) (r1 : 0 ≤ r) (r2 : r < st) : LpOk (evLP st r) := by
  have ho : AscI 0 (st - 1) [r] := ⟨fun x h => by obtain rfl := List.mem_singleton.mp h; omega, List.pairwise_singleton _ _⟩
  exact ⟨by show (0 : Int) ≤ 0; decide, by show (0 : Int) ≤ 0 + 100001; decide, ⟨fun x h => (nomatch h), List.Pairwise.nil⟩, s1, s2, ho, ho, by show 0 ≤ 100000; decide⟩
theorem evLP_has {st r : Int} (y : Int) : (evLP st r).has y = decide (y % st = r) := by
  rw [LP.has_def]
  show (if y < 0 then decide (y % st ∈ [r]) else if y < 0 then decide (y ∈ []) else decide (y % st ∈ [r])) = _
  simp only [List.mem_singleton, List.not_mem_nil]
  by_cases h : y < 0
  · rw [if_pos h]
  · rw [if_neg h, if_neg h]
def spEvery (K : PySem.W.Frag) : Sp := fun vs H Q _ => ∃ (st r : Int) (G P : Hp), vs = [.int st, .int r] ∧ Join G P H ∧ 1 ≤ st ∧ st ≤ 4000 ∧ 0 ≤ r ∧ r < st ∧ ∀ x N G' H', Ex G G' → Join G' P H' → LpOk N → Least N → (∀ y, N.has y = decide (y % st = r)) → LotIs K (He.ga K "RawLot") G' x N → Q (.ref x) H'
theorem sc_every : FnScope ["step", "rest"] ["step", "rest"] (defScope s_every) := ⟨rfl, rfl, rfl, by decide +kernel, rfl, by decide +kernel, by decide +kernel⟩
theorem ok_every (T : Txt K mg) {fd_is_within : FuncData} (G_is_within : Dn P w K mg base (L2.CX P w) 2 "is_within" ["thing", "least", "most"] (sp_is_within K) fd_is_within) {fd_RawLot_init : FuncData} (G_RawLot_init : Dm P w K mg base (L2.CX P w) 5 "RawLot" "__init__" ["self", "low", "high", "members", "step", "below", "above"] (spRawI K) fd_RawLot_init) : ∃ fd, Dn P w K mg base (L2.CX P w) 7 "every" ["step", "rest"] (spEvery K) fd := by
  obtain ⟨fd, F⟩ := T.d_every
  refine ⟨fd, F.ok sc_every (fun vs H Q E h => ?_) (fun cdv A outer s H vs Q E hr h => ?_), T.g_every, F.kp, F.bindsN fun _ _ _ _ _ _ us hl => match us, hl with | [_, _], _ => rfl, Lv.fun_lk F⟩
  · obtain ⟨_, _, _, _, rfl, _⟩ := h
    rfl
  · have hu := hu_of hr
    have hr_is_within : Room 2 _ := hr.mono (by decide)
    have hr_RawLot_init : Room 6 _ := hr.mono (by decide)
    refine ⟨_, PSs.nox (pss_cons (ps_if (PW.pt (pw_or (pt_not (pt_val (pe_call G_is_within.ok hr_is_within rfl G_is_within.mg G_is_within.kp G_is_within.b .nil passL (pa_cons (pv 0) (pa_cons pe_int (pa_cons (pe_glob (v := .int (4000)) rfl T.i_MOST_STEP.choose_spec ⟨_, rfl⟩) pa_nil)))))) (pw_or1 (pt_not (pt_val (pe_call G_is_within.ok hr_is_within rfl G_is_within.mg G_is_within.kp G_is_within.b .nil passL (pa_cons (pv 1) (pa_cons pe_int (pa_cons (pe_op op_sub (pv 0) pe_int) pa_nil))))))))) (pss_one ps_never) pss_nil)
      (pss_one (ps_ret (pe_make T.mk_RawLot G_RawLot_init.ok hr_RawLot_init (by rfl) T.g_RawLot G_RawLot_init.b .nil passL (pa_cons pe_int (pa_cons pe_int (pa_cons (pe_tup pa_nil) (pa_cons (pv 0) (pa_cons (pe_tup (pa_cons (pv 1) pa_nil)) (pa_cons (pe_tup (pa_cons (pv 1) pa_nil)) pa_nil)))))))))), ?_⟩
    obtain ⟨st, r, G, P0, rfl, j, s1, s2, r1, r2, q⟩ := h
    walk_at "w"
    refine ⟨_, _, _, rfl, ?_⟩
    rw [decide_eq_true ⟨s1, by omega⟩]
    walk_at "w"
    refine ⟨_, _, _, rfl, ?_⟩
    rw [decide_eq_true ⟨r1, by omega⟩]
    walk_at "w"
    refine aTup.go j (by show 0 ≤ 100000; decide) fun t1 G1 H1 _ e1 j1 h1 => ?_
    walk_at "w"
    refine aTup.go j1 (by show 1 ≤ 100000; decide) fun t2 G2 H2 _ e2 j2 h2 => ?_
    walk_at "w"
    refine aTup.go j2 (by show 1 ≤ 100000; decide) fun t3 G3 H3 _ e3 j3 h3 => ?_
    walk_at "w"
    exact raw_go (T := evLP st r) j3 (evLP_ok s1 s2 r1 r2) ((e2.trans e3) _ _ h1) (e3 _ _ h2) h3 fun x M Ga Ha _ ea ja m1 m2 m3 m4 => q x M Ga Ha (((e1.trans e2).trans e3).trans ea) ja m1 m2 (fun y => (m3 y).trans (evLP_has y)) m4
theorem keyP_keys39 (ns : List Int) : (keyP ns).map (·.1) = ns.map Sum.inl := by
  unfold keyP
  rw [List.map_map]
  rfl
def ofLP (ms : List Int) (a b : Int) : LP := ⟨a, b + 1, ms, 1, [], []⟩
theorem ofLP_ok {ns ms : List Int} {m : Nat} {a b : Int} (hd : ∀ x ∈ ns, ∀ y ∈ ns, x - y ≤ 100000) (hm : ∀ k, k ∈ ms ↔ k ∈ ns) (hs : ms.Pairwise (· < ·)) (hl : ms.length = m + 1) (ha : ms[0]? = some a) (hb : ms[m]? = some b) (hml : ms.length ≤ 100000) : LpOk (ofLP ms a b) ∧ ∀ y, (ofLP ms a b).has y = decide (y ∈ ns) := by
  have ma := List.mem_of_getElem? ha
  have mb := List.mem_of_getElem? hb
  have hab := hd b ((hm b).mp mb) a ((hm a).mp ma)
  have hr : ∀ x ∈ ms, a ≤ x ∧ x ≤ b := fun x hx => by
    obtain ⟨i, hi, rfl⟩ := List.getElem_of_mem hx
    have h0 := List.getElem?_eq_some_iff.mp ha
    have h1 := List.getElem?_eq_some_iff.mp hb
    obtain ⟨p0, rfl⟩ := h0
    obtain ⟨p1, rfl⟩ := h1
    have key := List.pairwise_iff_getElem.mp hs
    constructor
    · rcases Nat.eq_zero_or_pos i with rfl | h
      · exact Int.le_refl _
      · have := key 0 i p0 hi h; omega
    · rcases Nat.lt_or_ge i m with h | h
      · have := key i m hi p1 h; omega
      · obtain rfl : i = m := by omega
        exact Int.le_refl _
  have hA : AscI a (b + 1 - 1) ms := ⟨fun x hx => by have := hr x hx; omega, hs⟩
  have hle := (hr a ma).2
  refine ⟨⟨by show a ≤ b + 1; omega, by show b + 1 ≤ a + 100001; omega, hA, by show (1 : Int) ≤ 1; decide, by show (1 : Int) ≤ 4000; decide, ⟨fun x h => (nomatch h), List.Pairwise.nil⟩, ⟨fun x h => (nomatch h), List.Pairwise.nil⟩, hml⟩, fun y => ?_⟩
  rw [LP.has_def]
  show (if y < a then decide (y % 1 ∈ []) else if y < b + 1 then decide (y ∈ ms) else decide (y % 1 ∈ [])) = _
  have hym : decide (y ∈ ms) = decide (y ∈ ns) := decide_eq_decide.mpr (hm y)
  by_cases c1 : y < a
  · rw [if_pos c1, ← hym]
    simp only [List.not_mem_nil]
    exact (decide_eq_decide.mpr ⟨fun h => h.elim, fun h => by have := (hr y h).1; omega⟩)
  · rw [if_neg c1]
    by_cases c2 : y < b + 1
    · rw [if_pos c2, hym]
    · rw [if_neg c2, ← hym]
      simp only [List.not_mem_nil]
      exact (decide_eq_decide.mpr ⟨fun h => h.elim, fun h => by have := (hr y h).2; omega⟩)
def spLotOf (K : PySem.W.Frag) : Sp := fun vs H Q _ => ∃ (p : Addr) (ns : List Int) (G P : Hp), vs = [.ref p] ∧ Join G P H ∧ Sq G p (ns.map V.int) ∧ ns.length < 64 ∧ (∀ x ∈ ns, ∀ y ∈ ns, x - y ≤ 100000) ∧ ∀ x N G' H', Ex G G' → Join G' P H' → LpOk N → Least N → (∀ y, N.has y = decide (y ∈ ns)) → LotIs K (He.ga K "RawLot") G' x N → Q (.ref x) H'
theorem sc_lot_of : FnScope ["numbers", "members", "number"] ["numbers"] (defScope s_lot_of) := ⟨rfl, rfl, rfl, by decide +kernel, rfl, by decide +kernel, by decide +kernel⟩
theorem ok_lot_of (T : Txt K mg) {fd_is_listed : FuncData} (G_is_listed : Dn P w K mg base (L2.CX P w) 1 "is_listed" ["thing"] (spListed K) fd_is_listed) {fd_is_integer : FuncData} (G_is_integer : Dn P w K mg base (L2.CX P w) 1 "is_integer" ["thing"] (sp_is_integer K) fd_is_integer) {fd_empty_lot : FuncData} (G_empty_lot : Dn P w K mg base (L2.CX P w) 7 "empty_lot" [] (spEmptyL K) fd_empty_lot) {fd_keyed : FuncData} (G_keyed : Dn P w K mg base (L2.CX P w) 1 "keyed" ["numbers"] (spKeyX K) fd_keyed) {fd_RawLot_init : FuncData} (G_RawLot_init : Dm P w K mg base (L2.CX P w) 5 "RawLot" "__init__" ["self", "low", "high", "members", "step", "below", "above"] (spRawI K) fd_RawLot_init) : ∃ fd, Dn P w K mg base (L2.CX P w) 8 "lot_of" ["numbers"] (spLotOf K) fd := by
  obtain ⟨fd, F⟩ := T.d_lot_of
  refine ⟨fd, F.ok sc_lot_of (fun vs H Q E h => ?_) (fun cdv A outer s H vs Q E hr h => ?_), T.g_lot_of, F.kp, F.bindsN fun _ _ _ _ _ _ us hl => match us, hl with | [_], _ => rfl, Lv.fun_lk F⟩
  · obtain ⟨_, _, _, _, rfl, _⟩ := h
    rfl
  · have hu := hu_of hr
    have hr_is_listed : Room 1 _ := hr.mono (by decide)
    have hr_is_integer : Room 1 _ := hr.mono (by decide)
    have hr_empty_lot : Room 7 _ := hr.mono (by decide)
    have hr_keyed : Room 1 _ := hr.mono (by decide)
    have hr_RawLot_init : Room 6 _ := hr.mono (by decide)
    refine ⟨_, PSs.nox (pss_cons (ps_if (PW.pt (pw_or (pt_not (pt_val (pe_call G_is_listed.ok hr_is_listed rfl G_is_listed.mg G_is_listed.kp G_is_listed.b .nil passL (pa_cons (pv 0) pa_nil)))) (pw_or1 (pt_not (pt_val (pe_callB (cr_all rfl) (by rfl) T.n_all (by decide +kernel) (pa_cons (pe_lc (own := [("number", 2)]) (g := gName 2) (tt := tYes) rfl sc_lot_of.nd (Lv.pi_seq (pv 0)) (blkOk_by (N := ["numbers", "members", "number"]) (sc := defScope s_lot_of) (by decide +kernel)) (fun _ _ _ _ _ => (pg_name (i := 2) sc_lot_of.nd rfl (Or.inl rfl) (hf := Or.inr rfl))) (fun _ _ _ _ _ => pts_nil) (fun _ _ _ _ _ => (pe_call G_is_integer.ok hr_is_integer rfl G_is_integer.mg G_is_integer.kp G_is_integer.b .nil passL (pa_cons (pv 2) pa_nil)))) pa_nil))))))) (pss_one ps_never) pss_nil)
      (pss_cons (ps_if (pt_cmpR op_eq (pe_callB call_len (by rfl) T.n_len PySem.boot_len (pa_cons (pv 0) pa_nil)) pe_int (nomark _)) (pss_one (ps_ret (pe_call0 G_empty_lot.ok hr_empty_lot rfl G_empty_lot.mg G_empty_lot.kp G_empty_lot.b .nil passL))) pss_nil)
      (pss_cons (ps_if (pt_cmpR op_gt (pe_op op_sub (pe_callB (Lv.cr_maxSK (K := K) rfl rfl) (by rfl) T.n_max (by decide +kernel) (pa_cons (pv 0) pa_nil)) (pe_callB (Lv.cr_minSK (K := K) rfl rfl) (by rfl) T.n_min (by decide +kernel) (pa_cons (pv 0) pa_nil))) (pe_glob (v := .int (100000)) rfl T.i_MOST_APART.choose_spec ⟨_, rfl⟩) (nomark _)) (pss_one ps_never) pss_nil)
      (pss_cons (ps_set (i := 1) sc_lot_of.nd rfl (Or.inl rfl) (pe_callTy call_tuple_of (by rfl) T.n_tuple (by decide +kernel) (pa_cons (pe_callB (Lv.cr_sortDI rfl) (by rfl) T.n_sorted (by decide +kernel) (pa_cons (pe_call G_keyed.ok hr_keyed rfl G_keyed.mg G_keyed.kp G_keyed.b .nil passL (pa_cons (pv 0) pa_nil)) pa_nil)) pa_nil)))
      (pss_one (ps_ret (pe_make T.mk_RawLot G_RawLot_init.ok hr_RawLot_init (by rfl) T.g_RawLot G_RawLot_init.b .nil passL (pa_cons (pe_ix ix_tup (pv 1) pe_int (fun _ _ => rfl)) (pa_cons (pe_op op_add (pe_ix ix_tup (pv 1) (pe_un un_neg pe_int) (fun _ _ => rfl)) pe_int) (pa_cons (pv 1) (pa_cons pe_int (pa_cons (pe_tup pa_nil) (pa_cons (pe_tup pa_nil) pa_nil))))))))))))), ?_⟩
    obtain ⟨p, ns, G, P0, rfl, j, hp, hl, hd, q⟩ := h
    walk_at "w"
    refine ⟨p, _, G, P0, rfl, j, hp, fun G1 H1 e1 j1 => ?_⟩
    walk_at "w"
    refine aLcS.go (fun P2 => P2 = P0) (fun i us G2 => us = (List.replicate i true).map V.bl ∧ i ≤ ns.length) j1 rfl (hp.mono e1) (fun _ _ => ⟨rfl, Nat.zero_le _⟩) (fun i us G2 D _ _ hd h => h) (fun i us G2 h => by rw [h.1, List.length_map, List.length_replicate]; omega) ?_ ?_
    · intro i x us G2 P2 H2 R R0 hx e2 hI hP j2 kR kR0
      subst hP
      have hil := (List.getElem?_eq_some_iff.mp hx).1
      rw [List.length_map] at hil
      obtain ⟨k, hk, rfl⟩ := int_at hx
      walk_at "w"
      refine ⟨rfl, ?_⟩
      walk_at "w"
      refine ⟨_, rfl, ?_⟩
      refine kR _ _ _ H2 (Ex.refl _) rfl j2 ⟨?_, by omega⟩
      rw [hI.1, List.replicate_succ', List.map_append]; rfl
    intro L us G2 P2 H2 hL e2 hd2 hI hP j2
    subst hP
    walk_at "w"
    refine all_go (xs := ns) (f := fun _ => true) j2 (by rw [hd2, hI.1, List.length_map, List.map_replicate, List.map_const']) ?_
    rw [show (ns.all fun _ => true) = true from List.all_eq_true.mpr fun _ _ => rfl]
    have hp2 : Sq G2 p (ns.map V.int) := hp.mono (e1.trans e2)
    have eA := e1.trans e2
    clear hd2 hI j
    walk_at "w"
    refine lenV_go j2 hp2 ?_
    rw [List.length_map]
    walk_at "w"
    by_cases hn : ns.length = 0
    · refine itT (congrArg V.int (by omega)) ?_
      walk_at "w"
      obtain rfl := List.length_eq_zero_iff.mp hn
      exact ⟨G2, P2, rfl, j2, fun x N G' H' e' j' h1 h2 h3 h4 => q x N G' H' (eA.trans e') j' h1 h2 (fun y => (h3 y).trans (by simp)) h4⟩
    refine itF (fun h => hn (by have := V.int.inj h; omega)) ?_
    walk_at "w"
    refine maxS_go j2 hp2 (by omega) fun mx mx1 mx2 => ?_
    walk_at "w"
    refine minS_go j2 hp2 (by omega) fun mn mn1 mn2 => ?_
    walk_at "w"
    refine itF (by have := hd mx mx1 mn mn1; omega) ?_
    walk_at "w"
    refine ⟨p, ns, G2, P2, rfl, j2, hp2, by omega, fun d G3 H3 _ e3 j3 hd3 => ?_⟩
    walk_at "w"
    have hdn := ddI_nodup (acc := []) (ns := ns) List.Pairwise.nil
    have hdm : ∀ x, x ∈ ddI [] ns ↔ x ∈ ns := fun x => ddI_mem.trans (by simp)
    have hdl := ddI_len (acc := []) (ns := ns)
    simp only [List.length_nil] at hdl
    refine sortDI_go j3 (.inl (j3.g _ _ hd3)) (keyP_keys39 _) (by omega) fun ms l4 G4 H4 per srt _ e4 j4 hl4 => ?_
    walk_at "w"
    refine tupOf_go j4 hl4 fun tm G5 H5 _ e5 j5 htm => ?_
    have hml := per.length_eq
    have hm1 : 0 < (ddI [] ns).length := by
      refine List.length_pos_iff.mpr fun h => ?_
      have := (hdm mx).mpr mx1
      rw [h] at this
      cases this
    obtain ⟨m, hm⟩ : ∃ m, ms.length = m + 1 := ⟨ms.length - 1, by omega⟩
    have hms : ms.Pairwise (· < ·) := ((srt.and (per.nodup_iff.mpr hdn)).imp fun {x y} h => by have := h.1; have := h.2; omega)
    obtain ⟨a, ha⟩ : ∃ a, ms[0]? = some a := ⟨_, List.getElem?_eq_getElem (by omega)⟩
    obtain ⟨b, hb⟩ : ∃ b, ms[m]? = some b := ⟨_, List.getElem?_eq_getElem (by omega)⟩
    have hok := ofLP_ok hd (fun k => per.mem_iff.trans (hdm k)) hms hm ha hb (by omega)
    walk_at "w"
    refine w_ixT (j5.g _ _ htm) (by have h := atI_nat (show (ms.map V.int)[0]? = some (.int a) by rw [List.getElem?_map, ha]; rfl); simpa using h) ?_
    walk_at "w"
    refine w_ixT (j5.g _ _ htm) (atI_end1 (n := m) (v := .int b) (by simp [hm]) (by rw [List.getElem?_map, hb]; rfl)) ?_
    walk_at "w"
    refine aTup.go j5 (by show 0 ≤ 100000; decide) fun t6 G6 H6 _ e6 j6 h6 => ?_
    walk_at "w"
    refine aTup.go j6 (by show 0 ≤ 100000; decide) fun t7 G7 H7 _ e7 j7 h7 => ?_
    walk_at "w"
    have eB := (eA.trans e3).trans (e4.trans (e5.trans (e6.trans e7)))
    exact raw_go (T := ofLP ms a b) j7 hok.1 ((e6.trans e7) _ _ htm) (e7 _ _ h6) h7 fun x M Ga Ha _ ea ja m1 m2 m3 m4 => q x M Ga Ha (eB.trans ea) ja m1 m2 (fun y => (m3 y).trans (hok.2 y)) m4
end X

namespace X
open PySem PySem.Spec PyProof.Rows L2 Lv
variable {P : Program} {w : World} {K : PySem.W.Frag} {mg : Str → Option Value} {base : Heap}
/-- things of any kind, or lots -/
inductive KdL (K : PySem.W.Frag) (G : Hp) : V → Prop where
  | kd {v : V} (h : Kd G v) : KdL K G v
  | lot {a dx : Addr} {fs : List (Str × V)} (hC : LC K (He.ga K "Lot")) (h : G a = some (.ins (He.ga K "Lot") dx fs)) : KdL K G (.ref a)
theorem KdL.mono {G G' : Hp} {v : V} (e : Ex G G') (h : KdL K G v) : KdL K G' v := by
  cases h with
  | kd h => exact .kd (h.mono e)
  | lot hC h => exact .lot hC (e _ _ h)
theorem isiL_I {G H : Hp} {v : V} {Q : VK} (o : otB K "Lot" = true) (J : Ex G H) (h : KdL K G v) (q : Q (.bl (isI v || isB v)) H) : rIsi K [v, .ty "int"] H Q := by
  cases h with
  | kd h => exact isi_I J h q
  | lot hC h => exact ⟨_, _, _, _, false, rfl, .ty _, hC.ty (J _ _ h), (otB_ok o (by decide)).2.2, q⟩
theorem isiL_B {G H : Hp} {v : V} {Q : VK} (o : otB K "Lot" = true) (J : Ex G H) (h : KdL K G v) (q : Q (.bl (isB v)) H) : rIsi K [v, .ty "bool"] H Q := by
  cases h with
  | kd h => exact isi_B J h q
  | lot hC h => exact ⟨_, _, _, _, false, rfl, .ty _, hC.ty (J _ _ h), (otB_ok o (by decide)).2.2, q⟩
theorem isB_I {v : V} (h : isB v = true) : isI v = false := by cases v <;> first | rfl | cases h
def spIsI (K : PySem.W.Frag) : Sp := fun vs H Q _ => ∃ (v : V) (G : Hp), vs = [v] ∧ Ex G H ∧ KdL K G v ∧ Q (.bl (isI v)) H
theorem okX_is_integer (T : Txt K mg) : ∃ fd, Dn P w K mg base (L2.CX P w) 1 "is_integer" ["thing"] (spIsI K) fd := by
  obtain ⟨fd, F⟩ := T.d_is_integer
  refine ⟨fd, F.ok sc_is_integer (fun vs H Q E h => ?_) (fun cdv A outer s H vs Q E hr h => ?_), T.g_is_integer, F.kp, F.bindsN fun _ _ _ _ _ _ us hl => match us, hl with | [_], _ => rfl, Lv.fun_lk F⟩
  · obtain ⟨_, _, rfl, _⟩ := h
    rfl
  · have hu := hu_of hr
    refine ⟨_, PSs.nox (pss_one (ps_ret (pe_and (pe_callB call_isi (by rfl) T.n_isinstance (by decide +kernel) (pa_cons (pv 0) (pa_cons (pe_bltn (v := .ty "int") (by rfl) T.n_int (by decide +kernel) rfl) pa_nil))) (pe_one (pe_not (pe_callB call_isi (by rfl) T.n_isinstance (by decide +kernel) (pa_cons (pv 0) (pa_cons (pe_bltn (v := .ty "bool") (by rfl) T.n_bool (by decide +kernel) rfl) pa_nil)))))))), ?_⟩
    obtain ⟨v, G, rfl, e, hk, q⟩ := h
    walk_at "w"
    refine isiL_I T.ot_Lot e hk ?_
    walk_at "w"
    by_cases h : (isI v || isB v) = true
    · refine itBT h ?_
      walk_at "w"
      refine isiL_B T.ot_Lot e hk ?_
      walk_at "w"
      have e2 : (!isB v) = isI v := by
        cases hb : isB v with
        | true => rw [isB_I hb]; rfl
        | false => rw [hb, Bool.or_false] at h; rw [h]; rfl
      rw [e2]; exact q
    · refine (if_neg h).mpr ?_
      have e2 : isI v = false := by
        cases h2 : isI v with
        | false => rfl
        | true => exact absurd (by rw [h2]; rfl) h
      rw [e2] at q; exact q
/-- an int within -/
def inB (v : V) (a b : Int) : Bool := match v with
  | .int n => decide (a ≤ n ∧ n ≤ b)
  | _ => false
theorem inB_I {v : V} {a b : Int} (h : isI v = false) : inB v a b = false := by cases v <;> first | rfl | cases h
theorem isI_ex {v : V} (h : isI v = true) : ∃ n : Int, v = .int n := by cases v <;> first | exact ⟨_, rfl⟩ | cases h
def spIsW (K : PySem.W.Frag) : Sp := fun vs H Q _ => ∃ (v : V) (a b : Int) (G : Hp), vs = [v, .int a, .int b] ∧ Ex G H ∧ KdL K G v ∧ Q (.bl (inB v a b)) H
theorem okX_is_within (T : Txt K mg) {fd_is_integer : FuncData} (G_is_integer : Dn P w K mg base (L2.CX P w) 1 "is_integer" ["thing"] (spIsI K) fd_is_integer) : ∃ fd, Dn P w K mg base (L2.CX P w) 2 "is_within" ["thing", "least", "most"] (spIsW K) fd := by
  obtain ⟨fd, F⟩ := T.d_is_within
  refine ⟨fd, F.ok sc_is_within (fun vs H Q E h => ?_) (fun cdv A outer s H vs Q E hr h => ?_), T.g_is_within, F.kp, F.bindsN fun _ _ _ _ _ _ us hl => match us, hl with | [_, _, _], _ => rfl, Lv.fun_lk F⟩
  · obtain ⟨_, _, _, _, rfl, _⟩ := h
    rfl
  · have hu := hu_of hr
    have hr_is_integer : Room 1 _ := hr.mono (by decide)
    refine ⟨_, PSs.nox (pss_one (ps_ret (pe_and (pe_call G_is_integer.ok hr_is_integer rfl G_is_integer.mg G_is_integer.kp G_is_integer.b .nil passL (pa_cons (pv 0) pa_nil)) (pe_one (pe_chain op_le op_le (pv 1) (pv 0) (pv 2)))))), ?_⟩
    obtain ⟨v, a, b, G, rfl, e, hk, q⟩ := h
    walk_at "w"
    refine ⟨v, G, rfl, e, hk, ?_⟩
    walk_at "w"
    cases c : isI v with
    | false =>
      rw [inB_I c] at q
      exact itBF rfl q
    | true =>
      obtain ⟨n, rfl⟩ := isI_ex c
      refine itBT rfl ?_
      refine ⟨_, rfl, _, rfl, a, n, rfl, rfl, _, rfl, ?_⟩
      by_cases h1 : a ≤ n
      · refine itT h1 ⟨_, rfl, n, b, rfl, rfl, ?_⟩
        have e : decide (a ≤ n ∧ n ≤ b) = decide (n ≤ b) := by simp [h1]
        have q2 : Q (.bl (decide (a ≤ n ∧ n ≤ b))) H := q
        rw [e] at q2; exact q2
      · refine itF h1 ?_
        have e : decide (a ≤ n ∧ n ≤ b) = false := by simp [h1]
        have q2 : Q (.bl (decide (a ≤ n ∧ n ≤ b))) H := q
        rw [e] at q2; exact q2
theorem isiT_no {v : V} {tp : Addr} {x : Value} {G H : Hp} {Q : VK} (J : Ex G H) (ty : TyX K H v x) (h1 : PySem.W.kitOne K x (.type "list") = some false) (h2 : PySem.W.kitOne K x (.type "tuple") = some false) (ht : G tp = some (.tup [.ty "list", .ty "tuple"])) (q : Q (.bl false) H) : rIsiT K [v, .ref tp] H Q :=
  ⟨v, tp, _, _, [.type "list", .type "tuple"], false, rfl, J _ _ ht, .cons (.ty _) (.cons (.ty _) .nil), ty, kitAny_cons (b := false) h1 (fun _ => kitAny_cons (b := false) h2 (fun _ => rfl) (fun h => nomatch h)) (fun h => nomatch h), q⟩
def spListX (K : PySem.W.Frag) : Sp := fun vs H Q _ => ∃ (v : V) (G P : Hp), vs = [v] ∧ Join G P H ∧ KdL K G v ∧ (∀ a xs, v = .ref a → Sq G a xs → ∀ G' H', Ex G G' → Join G' P H' → Q (.bl true) H') ∧ ((¬ ∃ a xs, v = .ref a ∧ Sq G a xs) → ∀ G' H', Ex G G' → Join G' P H' → Q (.bl false) H')
theorem okX_is_listed (T : Txt K mg) : ∃ fd, Dn P w K mg base (L2.CX P w) 1 "is_listed" ["thing"] (spListX K) fd := by
  obtain ⟨fd, F⟩ := T.d_is_listed
  refine ⟨fd, F.ok sc_is_listed (fun vs H Q E h => ?_) (fun cdv A outer s H vs Q E hr h => ?_), T.g_is_listed, F.kp, F.bindsN fun _ _ _ _ _ _ us hl => match us, hl with | [_], _ => rfl, Lv.fun_lk F⟩
  · obtain ⟨_, _, _, rfl, _⟩ := h
    rfl
  · have hu := hu_of hr
    refine ⟨_, PSs.nox (pss_one (ps_ret (pe_callB call_isiT (by rfl) T.n_isinstance (by decide +kernel) (pa_cons (pv 0) (pa_cons (pe_tup (pa_cons (pe_bltn (v := .ty "list") (by rfl) T.n_list (by decide +kernel) rfl) (pa_cons (pe_bltn (v := .ty "tuple") (by rfl) T.n_tuple (by decide +kernel) rfl) pa_nil))) pa_nil))))), ?_⟩
    obtain ⟨v, G, P0, rfl, j, hk, q1, q0⟩ := h
    walk_at "w"
    refine aTup.go j (by show 2 ≤ 100000; decide) fun tp G1 H1 _ e1 j1 htp => ?_
    walk_at "w"
    have ot := fun (x : String) (hx : x ∈ kindN) => (otB_ok T.ot_Lot hx).2.2
    cases hk with
    | lot hC h => exact isiT_no j1.exG (hC.ty (j1.g _ _ (e1 _ _ h))) (ot _ (by decide)) (ot _ (by decide)) htp (q0 (fun ⟨a, xs, e, hs⟩ => by cases e; rcases hs with hs | hs <;> rw [h] at hs <;> cases hs) G1 H1 e1 j1)
    | kd h =>
      cases h with
      | int n => exact isiT_no j1.exG (.base (.int n)) (kit_ty (by decide +kernel)) (kit_ty (by decide +kernel)) htp (q0 (fun ⟨a, xs, e, _⟩ => nomatch e) G1 H1 e1 j1)
      | bl b => exact isiT_no j1.exG (.base (.bl b)) (kit_ty (by decide +kernel)) (kit_ty (by decide +kernel)) htp (q0 (fun ⟨a, xs, e, _⟩ => nomatch e) G1 H1 e1 j1)
      | non => exact isiT_no j1.exG (.base .non) (kit_ty (by decide +kernel)) (kit_ty (by decide +kernel)) htp (q0 (fun ⟨a, xs, e, _⟩ => nomatch e) G1 H1 e1 j1)
      | str z => exact isiT_no j1.exG (.base (.str z)) (kit_ty (by decide +kernel)) (kit_ty (by decide +kernel)) htp (q0 (fun ⟨a, xs, e, _⟩ => nomatch e) G1 H1 e1 j1)
      | lst h => exact isiS_go j1 (.inl (e1 _ _ h)) htp (q1 _ _ rfl (.inl h) G1 H1 e1 j1)
      | tup h => exact isiS_go j1 (.inr (e1 _ _ h)) htp (q1 _ _ rfl (.inr h) G1 H1 e1 j1)
      | dic h => exact isiT_no j1.exG (.base (.dK (j1.g _ _ (e1 _ _ h)))) (kit_ty (by decide +kernel)) (kit_ty (by decide +kernel)) htp (q0 (fun ⟨a, xs, e, hs⟩ => by cases e; rcases hs with hs | hs <;> rw [h] at hs <;> cases hs) G1 H1 e1 j1)
def spCkI (K : PySem.W.Frag) : Sp := fun vs H Q E => ∃ (v : V) (G : Hp), vs = [v] ∧ Ex G H ∧ KdL K G v ∧ (isI v = true → Q .non H) ∧ (isI v = false → E (.ref (He.ga K "NoNumber")) none H)
theorem okX_check_integer (T : Txt K mg) {fd_is_integer : FuncData} (G_is_integer : Dn P w K mg base (L2.CX P w) 1 "is_integer" ["thing"] (spIsI K) fd_is_integer) : ∃ fd, Dn P w K mg base (L2.CX P w) 3 "check_integer" ["thing"] (spCkI K) fd := by
  obtain ⟨fd, F⟩ := T.d_check_integer
  refine ⟨fd, F.ok sc_check_integer (fun vs H Q E h => ?_) (fun cdv A outer s H vs Q E hr h => ?_), T.g_check_integer, F.kp, F.bindsN fun _ _ _ _ _ _ us hl => match us, hl with | [_], _ => rfl, Lv.fun_lk F⟩
  · obtain ⟨_, _, rfl, _⟩ := h
    rfl
  · have hu := hu_of hr
    have hr_is_integer : Room 1 _ := hr.mono (by decide)
    refine ⟨_, (pss_one (ps_if (pt_not (pt_val (pe_call G_is_integer.ok hr_is_integer rfl G_is_integer.mg G_is_integer.kp G_is_integer.b .nil (passes_call (takes_of rfl rfl rfl rfl) (fun _ _ _ _ h => h)) (pa_cons (pv 0) pa_nil)))) (pss_one (ps_raise rfl (takes_of rfl rfl rfl rfl) (Lv.pmk_exc0 T.x_NoNumber T.g_NoNumber (by rfl)))) pss_nil)), ?_⟩
    obtain ⟨v, G, rfl, e, hk, q1, q0⟩ := h
    walk_at "w"
    refine ⟨v, G, rfl, e, hk, ?_⟩
    cases c : isI v with
    | true =>
      walk_at "w"
      exact q1 c
    | false =>
      walk_at "w"
      exact q0 c
def EvOkV (v u : V) : Prop := inB v 1 4000 = true ∧ ∃ st : Int, v = .int st ∧ inB u 0 (st - 1) = true
def spEvX (K : PySem.W.Frag) : Sp := fun vs H Q E => ∃ (v u : V) (G P : Hp), vs = [v, u] ∧ Join G P H ∧ KdL K G v ∧ KdL K G u ∧ (EvOkV v u → ∀ x G' H', Ex G G' → Join G' P H' → Q (.ref x) H') ∧ (¬ EvOkV v u → E (.ref (He.ga K "NoNumber")) none H)
theorem okX_every (T : Txt K mg) {fd_is_within : FuncData} (G_is_within : Dn P w K mg base (L2.CX P w) 2 "is_within" ["thing", "least", "most"] (spIsW K) fd_is_within) {fd_RawLot_init : FuncData} (G_RawLot_init : Dm P w K mg base (L2.CX P w) 5 "RawLot" "__init__" ["self", "low", "high", "members", "step", "below", "above"] (spRawI K) fd_RawLot_init) : ∃ fd, Dn P w K mg base (L2.CX P w) 7 "every" ["step", "rest"] (spEvX K) fd := by
  obtain ⟨fd, F⟩ := T.d_every
  refine ⟨fd, F.ok sc_every (fun vs H Q E h => ?_) (fun cdv A outer s H vs Q E hr h => ?_), T.g_every, F.kp, F.bindsN fun _ _ _ _ _ _ us hl => match us, hl with | [_, _], _ => rfl, Lv.fun_lk F⟩
  · obtain ⟨_, _, _, _, rfl, _⟩ := h
    rfl
  · have hu := hu_of hr
    have hr_is_within : Room 2 _ := hr.mono (by decide)
    have hr_RawLot_init : Room 6 _ := hr.mono (by decide)
    refine ⟨_, (pss_cons (ps_if (PW.pt (pw_or (pt_not (pt_val (pe_call G_is_within.ok hr_is_within rfl G_is_within.mg G_is_within.kp G_is_within.b .nil (passes_call (takes_of rfl rfl rfl rfl) (fun _ _ _ _ h => h)) (pa_cons (pv 0) (pa_cons pe_int (pa_cons (pe_glob (v := .int (4000)) rfl T.i_MOST_STEP.choose_spec ⟨_, rfl⟩) pa_nil)))))) (pw_or1 (pt_not (pt_val (pe_call G_is_within.ok hr_is_within rfl G_is_within.mg G_is_within.kp G_is_within.b .nil (passes_call (takes_of rfl rfl rfl rfl) (fun _ _ _ _ h => h)) (pa_cons (pv 1) (pa_cons pe_int (pa_cons (pe_op op_sub (pv 0) pe_int) pa_nil))))))))) (pss_one (ps_raise rfl (takes_of rfl rfl rfl rfl) (Lv.pmk_exc0 T.x_NoNumber T.g_NoNumber (by rfl)))) pss_nil)
      (pss_one (ps_ret (pe_make T.mk_RawLot G_RawLot_init.ok hr_RawLot_init (by rfl) T.g_RawLot G_RawLot_init.b .nil (passes_call (takes_of rfl rfl rfl rfl) (fun _ _ _ _ h => h)) (pa_cons pe_int (pa_cons pe_int (pa_cons (pe_tup pa_nil) (pa_cons (pv 0) (pa_cons (pe_tup (pa_cons (pv 1) pa_nil)) (pa_cons (pe_tup (pa_cons (pv 1) pa_nil)) pa_nil)))))))))), ?_⟩
    obtain ⟨v, u, G, P0, rfl, j, hv, hu, q1, q0⟩ := h
    walk_at "w"
    refine ⟨v, _, _, G, rfl, j.exG, hv, ?_⟩
    cases c : inB v 1 4000 with
    | false =>
      walk_at "w"
      exact q0 fun h => by have h1 := h.1; rw [c] at h1; cases h1
    | true =>
      obtain ⟨st, rfl⟩ : ∃ st : Int, v = .int st := by
        cases ci : isI v with
        | true => exact isI_ex ci
        | false => rw [inB_I ci] at c; cases c
      have hst := of_decide_eq_true c
      walk_at "w"
      refine ⟨u, _, _, G, rfl, j.exG, hu, ?_⟩
      cases c2 : inB u 0 (st - 1) with
      | false =>
        walk_at "w"
        exact q0 fun h => by
          obtain ⟨_, st', e, h2⟩ := h
          obtain rfl := V.int.inj e
          rw [c2] at h2
          cases h2
      | true =>
        obtain ⟨r, rfl⟩ : ∃ r : Int, u = .int r := by
          cases ci : isI u with
          | true => exact isI_ex ci
          | false => rw [inB_I ci] at c2; cases c2
        have hr := of_decide_eq_true c2
        walk_at "w"
        refine aTup.go j (by show 0 ≤ 100000; decide) fun t1 G1 H1 _ e1 j1 h1 => ?_
        walk_at "w"
        refine aTup.go j1 (by show 1 ≤ 100000; decide) fun t2 G2 H2 _ e2 j2 h2 => ?_
        walk_at "w"
        refine aTup.go j2 (by show 1 ≤ 100000; decide) fun t3 G3 H3 _ e3 j3 h3 => ?_
        walk_at "w"
        exact raw_go (T := evLP st r) j3 (evLP_ok hst.1 hst.2 hr.1 (by omega)) ((e2.trans e3) _ _ h1) (e3 _ _ h2) h3 fun x M Ga Ha _ ea ja m1 m2 m3 m4 => q1 ⟨c, st, rfl, c2⟩ x Ga Ha (((e1.trans e2).trans e3).trans ea) ja
def spMovX (K : PySem.W.Frag) : Sp := fun vs H Q E => ∃ (p : Addr) (L : LP) (v : V) (G P : Hp), vs = [.ref p, v] ∧ Join G P H ∧ LotAt K G p L ∧ LpOk L ∧ KdL K G v ∧ (isI v = true → ∀ x G' H', Ex G G' → Join G' P H' → Q x H') ∧ (isI v = false → E (.ref (He.ga K "NoNumber")) none H)
theorem okX_moved (T : Txt K mg) {fd_check_integer : FuncData} (G_check_integer : Dn P w K mg base (L2.CX P w) 3 "check_integer" ["thing"] (spCkI K) fd_check_integer) {fd_moved_of : FuncData} (G_moved_of : Dn P w K mg base (L2.CX P w) 7 "moved_of" ["lot", "by"] (spMv K) fd_moved_of) : ∃ fd, Dn P w K mg base (L2.CX P w) 8 "moved" ["lot", "by"] (spMovX K) fd := by
  obtain ⟨fd, F⟩ := T.d_moved
  refine ⟨fd, F.ok sc_moved (fun vs H Q E h => ?_) (fun cdv A outer s H vs Q E hr h => ?_), T.g_moved, F.kp, F.bindsN fun _ _ _ _ _ _ us hl => match us, hl with | [_, _], _ => rfl, Lv.fun_lk F⟩
  · obtain ⟨_, _, _, _, _, rfl, _⟩ := h
    rfl
  · have hu := hu_of hr
    have hr_check_integer : Room 3 _ := hr.mono (by decide)
    have hr_moved_of : Room 7 _ := hr.mono (by decide)
    refine ⟨_, (pss_cons (ps_expr (pe_call G_check_integer.ok hr_check_integer rfl G_check_integer.mg G_check_integer.kp G_check_integer.b .nil (passes_call (takes_of rfl rfl rfl rfl) (fun _ _ _ _ h => h)) (pa_cons (pv 1) pa_nil)))
      (pss_one (ps_ret (pe_call G_moved_of.ok hr_moved_of rfl G_moved_of.mg G_moved_of.kp G_moved_of.b .nil (passes_call (takes_of rfl rfl rfl rfl) (fun _ _ _ _ h => h)) (pa_cons (pv 0) (pa_cons (pv 1) pa_nil)))))), ?_⟩
    obtain ⟨p, L, v, G, P0, rfl, j, hp, hL, hv, q1, q0⟩ := h
    walk_at "w"
    refine ⟨v, G, rfl, j.exG, hv, fun c => ?_, fun c => ?_⟩
    · obtain ⟨n, rfl⟩ := isI_ex c
      walk_at "w"
      exact ⟨p, n, L, G, P0, rfl, j, hp, hL, fun x N be ab G' H' e' j' _ _ _ _ _ _ => q1 c _ G' H' e' j'⟩
    · walk_at "w"
      exact q0 c
theorem okX_next_above (T : Txt K mg) {fd_check_integer : FuncData} (G_check_integer : Dn P w K mg base (L2.CX P w) 3 "check_integer" ["thing"] (spCkI K) fd_check_integer) {fd_next_above_of : FuncData} (G_next_above_of : Dn P w K mg base (L2.CX P w) 2 "next_above_of" ["lot", "number"] (spNextA K) fd_next_above_of) : ∃ fd, Dn P w K mg base (L2.CX P w) 4 "next_above" ["lot", "number"] (spMovX K) fd := by
  obtain ⟨fd, F⟩ := T.d_next_above
  refine ⟨fd, F.ok sc_next_above (fun vs H Q E h => ?_) (fun cdv A outer s H vs Q E hr h => ?_), T.g_next_above, F.kp, F.bindsN fun _ _ _ _ _ _ us hl => match us, hl with | [_, _], _ => rfl, Lv.fun_lk F⟩
  · obtain ⟨_, _, _, _, _, rfl, _⟩ := h
    rfl
  · have hu := hu_of hr
    have hr_check_integer : Room 3 _ := hr.mono (by decide)
    have hr_next_above_of : Room 2 _ := hr.mono (by decide)
    refine ⟨_, (pss_cons (ps_expr (pe_call G_check_integer.ok hr_check_integer rfl G_check_integer.mg G_check_integer.kp G_check_integer.b .nil (passes_call (takes_of rfl rfl rfl rfl) (fun _ _ _ _ h => h)) (pa_cons (pv 1) pa_nil)))
      (pss_one (ps_ret (pe_call G_next_above_of.ok hr_next_above_of rfl G_next_above_of.mg G_next_above_of.kp G_next_above_of.b .nil (passes_call (takes_of rfl rfl rfl rfl) (fun _ _ _ _ h => h)) (pa_cons (pv 0) (pa_cons (pv 1) pa_nil)))))), ?_⟩
    obtain ⟨p, L, v, G, P0, rfl, j, hp, hL, hv, q1, q0⟩ := h
    walk_at "w"
    refine ⟨v, G, rfl, j.exG, hv, fun c => ?_, fun c => ?_⟩
    · obtain ⟨n, rfl⟩ := isI_ex c
      walk_at "w"
      exact ⟨p, L, n, G, P0, rfl, j, hp, hL, fun r G' H' _ _ _ e' j' => q1 c _ G' H' e' j', fun G' H' _ e' j' => q1 c _ G' H' e' j'⟩
    · walk_at "w"
      exact q0 c
theorem okX_next_below (T : Txt K mg) {fd_check_integer : FuncData} (G_check_integer : Dn P w K mg base (L2.CX P w) 3 "check_integer" ["thing"] (spCkI K) fd_check_integer) {fd_next_below_of : FuncData} (G_next_below_of : Dn P w K mg base (L2.CX P w) 8 "next_below_of" ["lot", "number"] (spNextB K) fd_next_below_of) : ∃ fd, Dn P w K mg base (L2.CX P w) 9 "next_below" ["lot", "number"] (spMovX K) fd := by
  obtain ⟨fd, F⟩ := T.d_next_below
  refine ⟨fd, F.ok sc_next_below (fun vs H Q E h => ?_) (fun cdv A outer s H vs Q E hr h => ?_), T.g_next_below, F.kp, F.bindsN fun _ _ _ _ _ _ us hl => match us, hl with | [_, _], _ => rfl, Lv.fun_lk F⟩
  · obtain ⟨_, _, _, _, _, rfl, _⟩ := h
    rfl
  · have hu := hu_of hr
    have hr_check_integer : Room 3 _ := hr.mono (by decide)
    have hr_next_below_of : Room 8 _ := hr.mono (by decide)
    refine ⟨_, (pss_cons (ps_expr (pe_call G_check_integer.ok hr_check_integer rfl G_check_integer.mg G_check_integer.kp G_check_integer.b .nil (passes_call (takes_of rfl rfl rfl rfl) (fun _ _ _ _ h => h)) (pa_cons (pv 1) pa_nil)))
      (pss_one (ps_ret (pe_call G_next_below_of.ok hr_next_below_of rfl G_next_below_of.mg G_next_below_of.kp G_next_below_of.b .nil (passes_call (takes_of rfl rfl rfl rfl) (fun _ _ _ _ h => h)) (pa_cons (pv 0) (pa_cons (pv 1) pa_nil)))))), ?_⟩
    obtain ⟨p, L, v, G, P0, rfl, j, hp, hL, hv, q1, q0⟩ := h
    walk_at "w"
    refine ⟨v, G, rfl, j.exG, hv, fun c => ?_, fun c => ?_⟩
    · obtain ⟨n, rfl⟩ := isI_ex c
      walk_at "w"
      exact ⟨p, L, n, G, P0, rfl, j, hp, hL, fun r G' H' _ _ _ e' j' => q1 c _ G' H' e' j', fun G' H' _ e' j' => q1 c _ G' H' e' j'⟩
    · walk_at "w"
      exact q0 c
def spManX (K : PySem.W.Frag) : Sp := fun vs H Q E => ∃ (p : Addr) (L : LP) (v u : V) (G P : Hp), vs = [.ref p, v, u] ∧ Join G P H ∧ LotAt K G p L ∧ LpOk L ∧ KdL K G v ∧ KdL K G u ∧ (∀ a b, v = .int a → u = .int b → ∀ G' H', Ex G G' → Join G' P H' → Q (.int (L.many a b : Nat)) H') ∧ (¬ (isI v = true ∧ isI u = true) → E (.ref (He.ga K "NoNumber")) none H)
theorem okX_many_in (T : Txt K mg) {fd_check_integer : FuncData} (G_check_integer : Dn P w K mg base (L2.CX P w) 3 "check_integer" ["thing"] (spCkI K) fd_check_integer) {fd_many_with : FuncData} (G_many_with : Dn P w K mg base (L2.CX P w) 2 "many_with" ["rests", "step", "one", "other"] (spManyW K) fd_many_with) : ∃ fd, Dn P w K mg base (L2.CX P w) 4 "many_in" ["lot", "one", "other"] (spManX K) fd := by
  obtain ⟨fd, F⟩ := T.d_many_in
  refine ⟨fd, F.ok sc_many_in (fun vs H Q E h => ?_) (fun cdv A outer s H vs Q E hr h => ?_), T.g_many_in, F.kp, F.bindsN fun _ _ _ _ _ _ us hl => match us, hl with | [_, _, _], _ => rfl, Lv.fun_lk F⟩
  · obtain ⟨_, _, _, _, _, _, rfl, _⟩ := h
    rfl
  · have hu := hu_of hr
    have hr_check_integer : Room 3 _ := hr.mono (by decide)
    have hr_many_with : Room 2 _ := hr.mono (by decide)
    refine ⟨_, (pss_cons (ps_expr (pe_call G_check_integer.ok hr_check_integer rfl G_check_integer.mg G_check_integer.kp G_check_integer.b .nil (passes_call (takes_of rfl rfl rfl rfl) (fun _ _ _ _ h => h)) (pa_cons (pv 1) pa_nil)))
      (pss_cons (ps_expr (pe_call G_check_integer.ok hr_check_integer rfl G_check_integer.mg G_check_integer.kp G_check_integer.b .nil (passes_call (takes_of rfl rfl rfl rfl) (fun _ _ _ _ h => h)) (pa_cons (pv 2) pa_nil)))
      (pss_cons (ps_set (i := 3) sc_many_in.nd rfl (Or.inl rfl) (pe_call G_many_with.ok hr_many_with rfl G_many_with.mg G_many_with.kp G_many_with.b .nil (passes_call (takes_of rfl rfl rfl rfl) (fun _ _ _ _ h => h)) (pa_cons (pe_fld (pv 0) rfl) (pa_cons (pe_fld (pv 0) rfl) (pa_cons (pv 1) (pa_cons (pe_callB (call_min2 rfl) (by rfl) T.n_min (by decide +kernel) (pa_cons (pv 2) (pa_cons (pe_fld (pv 0) rfl) pa_nil))) pa_nil))))))
      (pss_cons (ps_aug (i := 3) sc_many_in.nd rfl (.inl rfl) (pe_callB call_len_seq (by rfl) T.n_len PySem.boot_len (pa_cons (pe_lc (own := [("number", 4)]) (g := gName 4) rfl sc_many_in.nd (pi_tup (pe_fld (pv 0) rfl)) (blkOk_by (N := ["lot", "one", "other", "many", "number"]) (sc := defScope s_many_in) (by decide +kernel)) (fun _ _ _ _ _ => (pg_name (i := 4) sc_many_in.nd rfl (Or.inl rfl) (hf := Or.inr rfl))) (fun _ _ _ _ _ => (pts_one (pt_chain op_le op_lt (pv 1) (pv 4) (pv 2)))) (fun _ _ _ _ _ => (pv 4))) pa_nil)) ip_add)
      (pss_one (ps_ret (pe_op op_add (pv 3) (pe_call G_many_with.ok hr_many_with rfl G_many_with.mg G_many_with.kp G_many_with.b .nil (passes_call (takes_of rfl rfl rfl rfl) (fun _ _ _ _ h => h)) (pa_cons (pe_fld (pv 0) rfl) (pa_cons (pe_fld (pv 0) rfl) (pa_cons (pe_callB (call_max2 rfl) (by rfl) T.n_max (by decide +kernel) (pa_cons (pv 1) (pa_cons (pe_fld (pv 0) rfl) pa_nil))) (pa_cons (pv 2) pa_nil)))))))))))), ?_⟩
    obtain ⟨p, L, v, u, G, P0, rfl, j, hp, hL, hv, hu, q1, q0⟩ := h
    walk_at "w"
    refine ⟨v, G, rfl, j.exG, hv, fun c => ?_, fun c => ?_⟩
    · walk_at "w"
      refine ⟨u, G, rfl, j.exG, hu, fun c2 => ?_, fun c2 => ?_⟩
      · obtain ⟨a, rfl⟩ := isI_ex c
        obtain ⟨b, rfl⟩ := isI_ex c2
        walk_at "w"
        refine lfBelow j hp fun tb htb => ?_
        walk_at "w"
        refine lfStep j hp ?_
        walk_at "w"
        refine lfLow j hp ?_
        walk_at "w"
        refine ⟨tb, L.st, a, _, L.be, G, P0, rfl, j, htb, hL.bl, hL.s1, hL.s2, fun G1 H1 e1 j1 => ?_⟩
        replace hp := hp.mono e1
        walk_at "w"
        refine lfMembers j1 hp fun tm htm => ?_
        walk_at "w"
        refine aLcT.go (fun P' => P' = P0) (fun i us G' => us = ((L.ms.take i).filter fun x => decide (a ≤ x ∧ x < b)).map V.int) j1 rfl htm (fun _ _ => rfl) (fun i us G2 D _ _ hd h => h) (fun i us G2 h => ?_) ?_ ?_
        · rw [h, List.length_map]
          have := List.length_filter_le (fun x => decide (a ≤ x ∧ x < b)) (L.ms.take i)
          rw [List.length_take] at this
          have := hL.ml
          omega
        · intro i z us Gi Pi Hi R R0 hz ei hI hP ji kR kR0
          subst hP
          obtain ⟨k, hk, rfl⟩ := int_at hz
          walk_at "w"
          refine ⟨rfl, ?_⟩
          walk_at "w"
          by_cases hc : a ≤ k
          · refine itT hc ?_
            walk_at "w"
            by_cases hc2 : k < b
            · refine itT hc2 ?_
              walk_at "w"
              refine kR _ _ _ Hi (Ex.refl _) rfl ji ?_
              rw [hI, take_more hk, List.filter_append, List.map_append, List.filter_cons_of_pos (p := fun x => decide (a ≤ x ∧ x < b)) (show decide (a ≤ k ∧ k < b) = true from decide_eq_true ⟨hc, hc2⟩)]; rfl
            · refine itF hc2 ?_
              walk_at "w"
              refine kR0 _ _ Hi (Ex.refl _) rfl ji ?_
              rw [hI, take_more hk, List.filter_append, List.filter_cons_of_neg (fun h => hc2 (of_decide_eq_true h).2)]; simp
          · refine itF hc ?_
            walk_at "w"
            refine kR0 _ _ Hi (Ex.refl _) rfl ji ?_
            rw [hI, take_more hk, List.filter_append, List.filter_cons_of_neg (fun h => hc (of_decide_eq_true h).1)]; simp
        intro l us Ga Pa Ha hl0 ea hd1 hI hP ja
        subst hP
        rw [List.length_map, List.take_length] at hI
        subst hI
        replace hp := hp.mono ea
        walk_at "w"
        refine lfAbove ja hp fun ta hta => ?_
        walk_at "w"
        refine lfStep ja hp ?_
        walk_at "w"
        refine lfHigh ja hp ?_
        walk_at "w"
        refine ⟨ta, L.st, _, b, L.ab, Ga, Pa, rfl, ja, hta, hL.al, hL.s1, hL.s2, fun G2 H2 e2 j2 => ?_⟩
        walk_at "w"
        have := q1 a b rfl rfl G2 H2 ((e1.trans ea).trans e2) j2
        rw [many_sum hL] at this
        rw [List.length_map, ← List.countP_eq_length_filter]
        exact this
      · walk_at "w"
        exact q0 fun h => by rw [c2] at h; exact nomatch h.2
    · walk_at "w"
      exact q0 fun h => by rw [c] at h; exact nomatch h.1
theorem ints_all : ∀ {xs : List V}, (∀ x ∈ xs, isI x = true) → ∃ ns : List Int, xs = ns.map V.int
  | [], _ => ⟨[], rfl⟩
  | x :: r, h => by
    obtain ⟨n, rfl⟩ := isI_ex (h x List.mem_cons_self)
    obtain ⟨ns, rfl⟩ := ints_all (xs := r) fun y hy => h y (List.mem_cons_of_mem _ hy)
    exact ⟨n :: ns, rfl⟩
/-- a list or a tuple of integers not too far apart -/
def LoOk (G : Hp) (v : V) : Prop := ∃ (a : Addr) (ns : List Int), v = .ref a ∧ Sq G a (ns.map V.int) ∧ ∀ x ∈ ns, ∀ y ∈ ns, x - y ≤ 100000
def ItK (K : PySem.W.Frag) (G : Hp) (v : V) : Prop := ∀ (a : Addr) (xs : List V), v = .ref a → Sq G a xs → xs.length < 64 ∧ ∀ x ∈ xs, KdL K G x
theorem sq_one {G : Hp} {a : Addr} {xs ys : List V} (h : Sq G a xs) (h' : Sq G a ys) : xs = ys := by
  rcases h with h | h <;> rcases h' with h' | h' <;> rw [h] at h' <;> first | (cases h'; rfl) | cases h'
def spLoX (K : PySem.W.Frag) : Sp := fun vs H Q E => ∃ (v : V) (G P : Hp), vs = [v] ∧ Join G P H ∧ KdL K G v ∧ ItK K G v ∧ (LoOk G v → ∀ x G' H', Ex G G' → Join G' P H' → Q (.ref x) H') ∧ (¬ LoOk G v → ∀ G' H', Ex G G' → Join G' P H' → E (.ref (He.ga K "NoNumbers")) none H')
theorem okX_lot_of (T : Txt K mg) {fd_is_listed : FuncData} (G_is_listed : Dn P w K mg base (L2.CX P w) 1 "is_listed" ["thing"] (spListX K) fd_is_listed) {fd_is_integer : FuncData} (G_is_integer : Dn P w K mg base (L2.CX P w) 1 "is_integer" ["thing"] (spIsI K) fd_is_integer) {fd_empty_lot : FuncData} (G_empty_lot : Dn P w K mg base (L2.CX P w) 7 "empty_lot" [] (spEmptyL K) fd_empty_lot) {fd_keyed : FuncData} (G_keyed : Dn P w K mg base (L2.CX P w) 1 "keyed" ["numbers"] (spKeyX K) fd_keyed) {fd_RawLot_init : FuncData} (G_RawLot_init : Dm P w K mg base (L2.CX P w) 5 "RawLot" "__init__" ["self", "low", "high", "members", "step", "below", "above"] (spRawI K) fd_RawLot_init) : ∃ fd, Dn P w K mg base (L2.CX P w) 8 "lot_of" ["numbers"] (spLoX K) fd := by
  obtain ⟨fd, F⟩ := T.d_lot_of
  refine ⟨fd, F.ok sc_lot_of (fun vs H Q E h => ?_) (fun cdv A outer s H vs Q E hr h => ?_), T.g_lot_of, F.kp, F.bindsN fun _ _ _ _ _ _ us hl => match us, hl with | [_], _ => rfl, Lv.fun_lk F⟩
  · obtain ⟨_, _, _, rfl, _⟩ := h
    rfl
  · have hu := hu_of hr
    have hr_is_listed : Room 1 _ := hr.mono (by decide)
    have hr_is_integer : Room 1 _ := hr.mono (by decide)
    have hr_empty_lot : Room 7 _ := hr.mono (by decide)
    have hr_keyed : Room 1 _ := hr.mono (by decide)
    have hr_RawLot_init : Room 6 _ := hr.mono (by decide)
    refine ⟨_, (pss_cons (ps_if (PW.pt (pw_or (pt_not (pt_val (pe_call G_is_listed.ok hr_is_listed rfl G_is_listed.mg G_is_listed.kp G_is_listed.b .nil (passes_call (takes_of rfl rfl rfl rfl) (fun _ _ _ _ h => h)) (pa_cons (pv 0) pa_nil)))) (pw_or1 (pt_not (pt_val (pe_callB (cr_all rfl) (by rfl) T.n_all (by decide +kernel) (pa_cons (pe_lc (own := [("number", 2)]) (g := gName 2) (tt := tYes) rfl sc_lot_of.nd (Lv.pi_seq (pv 0)) (blkOk_by (N := ["numbers", "members", "number"]) (sc := defScope s_lot_of) (by decide +kernel)) (fun _ _ _ _ _ => (pg_name (i := 2) sc_lot_of.nd rfl (Or.inl rfl) (hf := Or.inr rfl))) (fun _ _ _ _ _ => pts_nil) (fun _ _ _ _ _ => (pe_call G_is_integer.ok hr_is_integer rfl G_is_integer.mg G_is_integer.kp G_is_integer.b .nil passL (pa_cons (pv 2) pa_nil)))) pa_nil))))))) (pss_one (ps_raise rfl (takes_of rfl rfl rfl rfl) (Lv.pmk_exc0 T.x_NoNumbers T.g_NoNumbers (by rfl)))) pss_nil)
      (pss_cons (ps_if (pt_cmpR op_eq (pe_callB call_len (by rfl) T.n_len PySem.boot_len (pa_cons (pv 0) pa_nil)) pe_int (nomark _)) (pss_one (ps_ret (pe_call0 G_empty_lot.ok hr_empty_lot rfl G_empty_lot.mg G_empty_lot.kp G_empty_lot.b .nil (passes_call (takes_of rfl rfl rfl rfl) (fun _ _ _ _ h => h))))) pss_nil)
      (pss_cons (ps_if (pt_cmpR op_gt (pe_op op_sub (pe_callB (Lv.cr_maxSK (K := K) rfl rfl) (by rfl) T.n_max (by decide +kernel) (pa_cons (pv 0) pa_nil)) (pe_callB (Lv.cr_minSK (K := K) rfl rfl) (by rfl) T.n_min (by decide +kernel) (pa_cons (pv 0) pa_nil))) (pe_glob (v := .int (100000)) rfl T.i_MOST_APART.choose_spec ⟨_, rfl⟩) (nomark _)) (pss_one (ps_raise rfl (takes_of rfl rfl rfl rfl) (Lv.pmk_exc0 T.x_NoNumbers T.g_NoNumbers (by rfl)))) pss_nil)
      (pss_cons (ps_set (i := 1) sc_lot_of.nd rfl (Or.inl rfl) (pe_callTy call_tuple_of (by rfl) T.n_tuple (by decide +kernel) (pa_cons (pe_callB (Lv.cr_sortDI rfl) (by rfl) T.n_sorted (by decide +kernel) (pa_cons (pe_call G_keyed.ok hr_keyed rfl G_keyed.mg G_keyed.kp G_keyed.b .nil (passes_call (takes_of rfl rfl rfl rfl) (fun _ _ _ _ h => h)) (pa_cons (pv 0) pa_nil)) pa_nil)) pa_nil)))
      (pss_one (ps_ret (pe_make T.mk_RawLot G_RawLot_init.ok hr_RawLot_init (by rfl) T.g_RawLot G_RawLot_init.b .nil (passes_call (takes_of rfl rfl rfl rfl) (fun _ _ _ _ h => h)) (pa_cons (pe_ix ix_tup (pv 1) pe_int (fun _ _ => rfl)) (pa_cons (pe_op op_add (pe_ix ix_tup (pv 1) (pe_un un_neg pe_int) (fun _ _ => rfl)) pe_int) (pa_cons (pv 1) (pa_cons pe_int (pa_cons (pe_tup pa_nil) (pa_cons (pe_tup pa_nil) pa_nil))))))))))))), ?_⟩
    obtain ⟨v, G, P0, rfl, j, hv, hit, q1, q0⟩ := h
    walk_at "w"
    refine ⟨v, G, P0, rfl, j, hv, fun p xs ev hp G1 H1 e1 j1 => ?_, fun hno G1 H1 e1 j1 => ?_⟩
    rotate_left
    · walk_at "w"
      exact q0 (fun ⟨a, ns, e, h, _⟩ => hno ⟨a, _, e, h⟩) G1 H1 e1 j1
    subst ev
    obtain ⟨hl, hks⟩ := hit p xs rfl hp
    walk_at "w"
    refine aLcS.go (fun P2 => P2 = P0) (fun i us G2 => us = ((xs.take i).map isI).map V.bl ∧ i ≤ xs.length) j1 rfl (hp.mono e1) (fun _ _ => ⟨rfl, Nat.zero_le _⟩) (fun i us G2 D _ _ hd h => h) (fun i us G2 h => by rw [h.1, List.length_map, List.length_map, List.length_take]; omega) ?_ ?_
    · intro i x us G2 P2 H2 R R0 hx e2 hI hP j2 kR kR0
      subst hP
      have hil := (List.getElem?_eq_some_iff.mp hx).1
      walk_at "w"
      refine ⟨rfl, ?_⟩
      walk_at "w"
      refine ⟨x, G2, rfl, j2.exG, (hks x (List.mem_of_getElem? hx)).mono (e1.trans e2), ?_⟩
      refine kR _ _ _ H2 (Ex.refl _) rfl j2 ⟨?_, by omega⟩
      rw [hI.1, take_more hx, List.map_append, List.map_append]; rfl
    intro L us G2 P2 H2 hL e2 hd2 hI hP j2
    subst hP
    have hus : us = (xs.map isI).map V.bl := by rw [hI.1, List.take_length]
    subst hus
    walk_at "w"
    refine ⟨L, _, rfl, sqL (j2.g _ _ hd2), ?_⟩
    cases hall : (xs.map isI).all id with
    | false =>
      walk_at "w"
      refine q0 (fun ⟨a, ns, e, h, _⟩ => ?_) G2 H2 (e1.trans e2) j2
      cases e
      obtain rfl := sq_one hp h
      rw [List.all_eq_true.mpr] at hall
      · cases hall
      · intro b hb
        rw [List.map_map] at hb
        obtain ⟨n, _, rfl⟩ := List.mem_map.mp hb
        rfl
    | true =>
    obtain ⟨ns, rfl⟩ := ints_all (xs := xs) fun x hx => List.all_eq_true.mp hall _ (List.mem_map_of_mem (f := isI) hx)
    rw [List.length_map] at hl
    clear hall hks hit hd2 hI
    have hp2 : Sq G2 p (ns.map V.int) := hp.mono (e1.trans e2)
    have eA := e1.trans e2
    walk_at "w"
    refine lenV_go j2 hp2 ?_
    rw [List.length_map]
    walk_at "w"
    by_cases hn : ns.length = 0
    · refine itT (congrArg V.int (by omega)) ?_
      walk_at "w"
      obtain rfl := List.length_eq_zero_iff.mp hn
      exact ⟨G2, P2, rfl, j2, fun x N G' H' e' j' h1 h2 h3 h4 => q1 ⟨p, [], rfl, hp, fun x h => (nomatch h)⟩ x G' H' (eA.trans e') j'⟩
    refine itF (fun h => hn (by have := V.int.inj h; omega)) ?_
    walk_at "w"
    refine maxS_go j2 hp2 (by omega) fun mx mx1 mx2 => ?_
    walk_at "w"
    refine minS_go j2 hp2 (by omega) fun mn mn1 mn2 => ?_
    walk_at "w"
    by_cases hfar : 100000 < mx - mn
    · refine itT hfar ?_
      walk_at "w"
      refine q0 (fun ⟨a, ms, e, h, hd⟩ => ?_) G2 H2 eA j2
      cases e
      have := sq_one hp h
      obtain rfl : ns = ms := by
        have h2 := congrArg (List.map fun v => match v with | V.int n => n | _ => (0 : Int)) this
        rw [List.map_map, List.map_map] at h2
        have e3 : ((fun v => match v with | V.int n => n | _ => (0 : Int)) ∘ V.int) = id := rfl
        rw [e3, List.map_id, List.map_id] at h2
        exact h2
      have := hd mx mx1 mn mn1
      omega
    refine itF hfar ?_
    have hd : ∀ x ∈ ns, ∀ y ∈ ns, x - y ≤ 100000 := fun x hx y hy => by
      have := mx2 x hx
      have := mn2 y hy
      omega
    walk_at "w"
    refine ⟨p, ns, G2, P2, rfl, j2, hp2, by omega, fun d G3 H3 _ e3 j3 hd3 => ?_⟩
    walk_at "w"
    have hdn := ddI_nodup (acc := []) (ns := ns) List.Pairwise.nil
    have hdm : ∀ x, x ∈ ddI [] ns ↔ x ∈ ns := fun x => ddI_mem.trans (by simp)
    have hdl := ddI_len (acc := []) (ns := ns)
    simp only [List.length_nil] at hdl
    refine sortDI_go j3 (.inl (j3.g _ _ hd3)) (keyP_keys39 _) (by omega) fun ms l4 G4 H4 per srt _ e4 j4 hl4 => ?_
    walk_at "w"
    refine tupOf_go j4 hl4 fun tm G5 H5 _ e5 j5 htm => ?_
    have hml := per.length_eq
    have hm1 : 0 < (ddI [] ns).length := by
      refine List.length_pos_iff.mpr fun h => ?_
      have := (hdm mx).mpr mx1
      rw [h] at this
      cases this
    obtain ⟨m, hm⟩ : ∃ m, ms.length = m + 1 := ⟨ms.length - 1, by omega⟩
    have hms : ms.Pairwise (· < ·) := ((srt.and (per.nodup_iff.mpr hdn)).imp fun {x y} h => by have := h.1; have := h.2; omega)
    obtain ⟨a, ha⟩ : ∃ a, ms[0]? = some a := ⟨_, List.getElem?_eq_getElem (by omega)⟩
    obtain ⟨b, hb⟩ : ∃ b, ms[m]? = some b := ⟨_, List.getElem?_eq_getElem (by omega)⟩
    have hok := ofLP_ok hd (fun k => per.mem_iff.trans (hdm k)) hms hm ha hb (by omega)
    walk_at "w"
    refine w_ixT (j5.g _ _ htm) (by have h := atI_nat (show (ms.map V.int)[0]? = some (.int a) by rw [List.getElem?_map, ha]; rfl); simpa using h) ?_
    walk_at "w"
    refine w_ixT (j5.g _ _ htm) (atI_end1 (n := m) (v := .int b) (by simp [hm]) (by rw [List.getElem?_map, hb]; rfl)) ?_
    walk_at "w"
    refine aTup.go j5 (by show 0 ≤ 100000; decide) fun t6 G6 H6 _ e6 j6 h6 => ?_
    walk_at "w"
    refine aTup.go j6 (by show 0 ≤ 100000; decide) fun t7 G7 H7 _ e7 j7 h7 => ?_
    walk_at "w"
    have eB := (eA.trans e3).trans (e4.trans (e5.trans (e6.trans e7)))
    exact raw_go (T := ofLP ms a b) j7 hok.1 ((e6.trans e7) _ _ htm) (e7 _ _ h6) h7 fun x M Ga Ha _ ea ja m1 m2 m3 m4 => q1 ⟨p, ns, rfl, hp, hd⟩ x Ga Ha (eB.trans ea) ja
end X

namespace X
open PySem PySem.Spec PyProof.Rows L2 Lv
variable {P : Program} {w : World} {K : PySem.W.Frag} {mg : Str → Option Value} {base : Heap}
def Good (G : Hp) (k : Int) (v u : V) : Prop := (k = 0 ∧ EvOkV v u) ∨ (k = 1 ∧ LoOk G v) ∨ ((k = 2 ∨ k = 3 ∨ k = 4) ∧ isI v = true) ∨ (k = 5 ∧ isI v = true ∧ isI u = true)
def excN (k : Int) : Str := if k = 1 then "NoNumbers" else "NoNumber"
def spCall (K : PySem.W.Frag) : Sp := fun vs H Q E => ∃ (k : Int) (p : Addr) (L : LP) (v u : V) (G P : Hp), vs = [.int k, .ref p, v, u] ∧ Join G P H ∧ LotAt K G p L ∧ LpOk L ∧ KdL K G v ∧ KdL K G u ∧ (k = 1 → ItK K G v) ∧ 0 ≤ k ∧ k ≤ 5 ∧ (Good G k v u → ∀ G' H', Ex G G' → Join G' P H' → Q .non H') ∧ (¬ Good G k v u → ∀ G' H', Ex G G' → Join G' P H' → E (.ref (He.ga K (excN k))) none H')
theorem sc_l_call : FnScope ["_law_kind", "_law_lot_here", "_law_one", "_law_other"] ["_law_kind", "_law_lot_here", "_law_one", "_law_other"] (defScope s_l_call) := ⟨rfl, rfl, rfl, by decide +kernel, rfl, by decide +kernel, by decide +kernel⟩
theorem okX_l_call (T : Txt K mg) {fd_every : FuncData} (G_every : Dn P w K mg base (L2.CX P w) 7 "every" ["step", "rest"] (spEvX K) fd_every) {fd_lot_of : FuncData} (G_lot_of : Dn P w K mg base (L2.CX P w) 8 "lot_of" ["numbers"] (spLoX K) fd_lot_of) {fd_moved : FuncData} (G_moved : Dn P w K mg base (L2.CX P w) 8 "moved" ["lot", "by"] (spMovX K) fd_moved) {fd_next_above : FuncData} (G_next_above : Dn P w K mg base (L2.CX P w) 4 "next_above" ["lot", "number"] (spMovX K) fd_next_above) {fd_next_below : FuncData} (G_next_below : Dn P w K mg base (L2.CX P w) 9 "next_below" ["lot", "number"] (spMovX K) fd_next_below) {fd_many_in : FuncData} (G_many_in : Dn P w K mg base (L2.CX P w) 4 "many_in" ["lot", "one", "other"] (spManX K) fd_many_in) : ∃ fd, Dn P w K mg base (L2.CX P w) 10 "_law_call" ["_law_kind", "_law_lot_here", "_law_one", "_law_other"] (spCall K) fd := by
  obtain ⟨fd, F⟩ := T.d_l_call
  refine ⟨fd, F.ok sc_l_call (fun vs H Q E h => ?_) (fun cdv A outer s H vs Q E hr h => ?_), T.g_l_call, F.kp, F.bindsN fun _ _ _ _ _ _ us hl => match us, hl with | [_, _, _, _], _ => rfl, Lv.fun_lk F⟩
  · obtain ⟨_, _, _, _, _, _, _, rfl, _⟩ := h
    rfl
  · have hu := hu_of hr
    have hr_every : Room 7 _ := hr.mono (by decide)
    have hr_lot_of : Room 8 _ := hr.mono (by decide)
    have hr_moved : Room 8 _ := hr.mono (by decide)
    have hr_next_above : Room 4 _ := hr.mono (by decide)
    have hr_next_below : Room 9 _ := hr.mono (by decide)
    have hr_many_in : Room 4 _ := hr.mono (by decide)
    refine ⟨_, (pss_one (ps_if (pt_cmpR op_eq (pv 0) pe_int (nomark _)) (pss_one (ps_expr (pe_call G_every.ok hr_every rfl G_every.mg G_every.kp G_every.b .nil (passes_call (takes_of rfl rfl rfl rfl) (fun _ _ _ _ h => h)) (pa_cons (pv 2) (pa_cons (pv 3) pa_nil))))) (pss_one (ps_if (pt_cmpR op_eq (pv 0) pe_int (nomark _)) (pss_one (ps_expr (pe_call G_lot_of.ok hr_lot_of rfl G_lot_of.mg G_lot_of.kp G_lot_of.b .nil (passes_call (takes_of rfl rfl rfl rfl) (fun _ _ _ _ h => h)) (pa_cons (pv 2) pa_nil)))) (pss_one (ps_if (pt_cmpR op_eq (pv 0) pe_int (nomark _)) (pss_one (ps_expr (pe_call G_moved.ok hr_moved rfl G_moved.mg G_moved.kp G_moved.b .nil (passes_call (takes_of rfl rfl rfl rfl) (fun _ _ _ _ h => h)) (pa_cons (pv 1) (pa_cons (pv 2) pa_nil))))) (pss_one (ps_if (pt_cmpR op_eq (pv 0) pe_int (nomark _)) (pss_one (ps_expr (pe_call G_next_above.ok hr_next_above rfl G_next_above.mg G_next_above.kp G_next_above.b .nil (passes_call (takes_of rfl rfl rfl rfl) (fun _ _ _ _ h => h)) (pa_cons (pv 1) (pa_cons (pv 2) pa_nil))))) (pss_one (ps_if (pt_cmpR op_eq (pv 0) pe_int (nomark _)) (pss_one (ps_expr (pe_call G_next_below.ok hr_next_below rfl G_next_below.mg G_next_below.kp G_next_below.b .nil (passes_call (takes_of rfl rfl rfl rfl) (fun _ _ _ _ h => h)) (pa_cons (pv 1) (pa_cons (pv 2) pa_nil))))) (pss_one (ps_expr (pe_call G_many_in.ok hr_many_in rfl G_many_in.mg G_many_in.kp G_many_in.b .nil (passes_call (takes_of rfl rfl rfl rfl) (fun _ _ _ _ h => h)) (pa_cons (pv 1) (pa_cons (pv 2) (pa_cons (pv 3) pa_nil)))))))))))))))), ?_⟩
    obtain ⟨k, p, L, v, u, G, P0, rfl, j, hp, hL, hv, hu, hit, k0, k5, q1, q0⟩ := h
    have hk : k = 0 ∨ k = 1 ∨ k = 2 ∨ k = 3 ∨ k = 4 ∨ k = 5 := by omega
    walk_at "w"
    rcases hk with rfl | rfl | rfl | rfl | rfl | rfl
    · refine itT rfl ?_
      walk_at "w"
      refine ⟨v, u, G, P0, rfl, j, hv, hu, fun hg x G' H' e' j' => ?_, fun hg => q0 (fun h => ?_) G H (Ex.refl _) j⟩
      · walk_at "w"
        exact q1 (.inl ⟨rfl, hg⟩) G' H' e' j'
      · rcases h with ⟨_, h⟩ | ⟨h, _⟩ | ⟨h, _⟩ | ⟨h, _⟩
        · exact hg h
        · omega
        · omega
        · omega
    · refine itF (by decide) ?_
      walk_at "w"
      refine itT rfl ?_
      walk_at "w"
      refine ⟨v, G, P0, rfl, j, hv, hit rfl, fun hg x G' H' e' j' => ?_, fun hg => q0 (fun h => ?_)⟩
      · walk_at "w"
        exact q1 (.inr (.inl ⟨rfl, hg⟩)) G' H' e' j'
      · rcases h with ⟨h, _⟩ | ⟨_, h⟩ | ⟨h, _⟩ | ⟨h, _⟩
        · omega
        · exact hg h
        · omega
        · omega
    · refine itF (by decide) ?_
      walk_at "w"
      refine itF (by decide) ?_
      walk_at "w"
      refine itT rfl ?_
      walk_at "w"
      refine ⟨p, L, v, G, P0, rfl, j, hp, hL, hv, fun hg x G' H' e' j' => ?_, fun hg => q0 (fun h => ?_) G H (Ex.refl _) j⟩
      · walk_at "w"
        exact q1 (.inr (.inr (.inl ⟨by decide, hg⟩))) G' H' e' j'
      · rcases h with ⟨h, _⟩ | ⟨h, _⟩ | ⟨_, h⟩ | ⟨h, _⟩
        · omega
        · omega
        · rw [hg] at h; cases h
        · omega
    · refine itF (by decide) ?_
      walk_at "w"
      refine itF (by decide) ?_
      walk_at "w"
      refine itF (by decide) ?_
      walk_at "w"
      refine itT rfl ?_
      walk_at "w"
      refine ⟨p, L, v, G, P0, rfl, j, hp, hL, hv, fun hg x G' H' e' j' => ?_, fun hg => q0 (fun h => ?_) G H (Ex.refl _) j⟩
      · walk_at "w"
        exact q1 (.inr (.inr (.inl ⟨by decide, hg⟩))) G' H' e' j'
      · rcases h with ⟨h, _⟩ | ⟨h, _⟩ | ⟨_, h⟩ | ⟨h, _⟩
        · omega
        · omega
        · rw [hg] at h; cases h
        · omega
    · refine itF (by decide) ?_
      walk_at "w"
      refine itF (by decide) ?_
      walk_at "w"
      refine itF (by decide) ?_
      walk_at "w"
      refine itF (by decide) ?_
      walk_at "w"
      refine itT rfl ?_
      walk_at "w"
      refine ⟨p, L, v, G, P0, rfl, j, hp, hL, hv, fun hg x G' H' e' j' => ?_, fun hg => q0 (fun h => ?_) G H (Ex.refl _) j⟩
      · walk_at "w"
        exact q1 (.inr (.inr (.inl ⟨by decide, hg⟩))) G' H' e' j'
      · rcases h with ⟨h, _⟩ | ⟨h, _⟩ | ⟨_, h⟩ | ⟨h, _⟩
        · omega
        · omega
        · rw [hg] at h; cases h
        · omega
    · refine itF (by decide) ?_
      walk_at "w"
      refine itF (by decide) ?_
      walk_at "w"
      refine itF (by decide) ?_
      walk_at "w"
      refine itF (by decide) ?_
      walk_at "w"
      refine itF (by decide) ?_
      walk_at "w"
      refine ⟨p, L, v, u, G, P0, rfl, j, hp, hL, hv, hu, fun a b ea eb G' H' e' j' => ?_, fun hg => q0 (fun h => ?_) G H (Ex.refl _) j⟩
      · walk_at "w"
        exact q1 (.inr (.inr (.inr ⟨rfl, by rw [ea]; rfl, by rw [eb]; rfl⟩))) G' H' e' j'
      · rcases h with ⟨h, _⟩ | ⟨h, _⟩ | ⟨h, _⟩ | ⟨_, h⟩
        · omega
        · omega
        · omega
        · exact hg h
def spWord (K : PySem.W.Frag) : Sp := fun vs H Q _ => ∃ (k : Int) (p : Addr) (L : LP) (v u : V) (G P : Hp), vs = [.int k, .ref p, v, u] ∧ Join G P H ∧ LotAt K G p L ∧ LpOk L ∧ KdL K G v ∧ KdL K G u ∧ (k = 1 → ItK K G v) ∧ 0 ≤ k ∧ k ≤ 5 ∧ (Good G k v u → ∀ G' H', Ex G G' → Join G' P H' → Q (.str "told") H') ∧ (¬ Good G k v u → ∀ G' H', Ex G G' → Join G' P H' → Q (.str (if k = 1 then "numbers" else "number")) H')
theorem sc_l_word : FnScope ["_law_kind", "_law_lot_here", "_law_one", "_law_other", "_law_word_here"] ["_law_kind", "_law_lot_here", "_law_one", "_law_other"] (defScope s_l_word) := ⟨rfl, rfl, rfl, by decide +kernel, rfl, by decide +kernel, by decide +kernel⟩
theorem ok_l_word (T : Txt K mg) {fd_l_call : FuncData} (G_l_call : Dn P w K mg base (L2.CX P w) 10 "_law_call" ["_law_kind", "_law_lot_here", "_law_one", "_law_other"] (spCall K) fd_l_call) : ∃ fd, Dn P w K mg base (L2.CX P w) 11 "_law_word" ["_law_kind", "_law_lot_here", "_law_one", "_law_other"] (spWord K) fd := by
  obtain ⟨fd, F⟩ := T.d_l_word
  refine ⟨fd, F.ok sc_l_word (fun vs H Q E h => ?_) (fun cdv A outer s H vs Q E hr h => ?_), T.g_l_word, F.kp, F.bindsN fun _ _ _ _ _ _ us hl => match us, hl with | [_, _, _, _], _ => rfl, Lv.fun_lk F⟩
  · obtain ⟨_, _, _, _, _, _, _, rfl, _⟩ := h
    rfl
  · have hu := hu_of hr
    have hr_l_call : Room 10 _ := hr.mono (by decide)
    refine ⟨_, PSs.nox (pss_cons (ps_set (i := 4) sc_l_word.nd rfl (Or.inl rfl) pe_str)
      (pss_cons (ps_try_many (Wout := fun _ _ _ _ => False) rfl rfl takes0 (fun W pn xe tk po => (pss_one (ps_expr (pe_callS G_l_call.ok hr_l_call rfl G_l_call.mg G_l_call.kp G_l_call.b (fun σ => passAt tk σ) (pa_cons (pv 0) (pa_cons (pv 1) (pa_cons (pv 2) (pa_cons (pv 3) pa_nil)))))))) (.cons (c := .ref (He.ga K "NoNumber")) ⟨rfl, by decide, Or.inl T.g_NoNumber⟩ (fun _ _ _ _ _ _ _ => (pss_one (ps_set (i := 4) sc_l_word.nd rfl (Or.inl rfl) pe_str))) (.cons (c := .ref (He.ga K "NoNumbers")) ⟨rfl, by decide, Or.inl T.g_NoNumbers⟩ (fun _ _ _ _ _ _ _ => (pss_one (ps_set (i := 4) sc_l_word.nd rfl (Or.inl rfl) pe_str))) .nil)))
      (pss_one (ps_ret (pv 4))))), ?_⟩
    obtain ⟨k, p, L, v, u, G, P0, rfl, j, hp, hL, hv, hu, hit, k0, k5, q1, q0⟩ := h
    walk_at "w"
    refine ⟨k, p, L, v, u, G, P0, rfl, j, hp, hL, hv, hu, hit, k0, k5, fun hg G' H' e' j' => ?_, fun hg G' H' e' j' => ?_⟩
    · walk_at "w"
      exact q1 hg G' H' e' j'
    · by_cases hk : k = 1
      · have e1 : excN k = "NoNumbers" := if_pos hk
        have q2 := q0 hg G' H' e' j'
        rw [if_pos hk] at q2
        rw [e1]
        refine ⟨false, He.exm_ok T.m_NoNumbers_NoNumber, fun h => (nomatch h), fun _ => ⟨true, He.exm_ok T.m_NoNumbers_NoNumbers, fun _ a ha => ?_, fun h => (nomatch h)⟩⟩
        walk_at "w"
        exact q2
      · have e1 : excN k = "NoNumber" := if_neg hk
        have q2 := q0 hg G' H' e' j'
        rw [if_neg hk] at q2
        rw [e1]
        refine ⟨true, He.exm_ok T.m_NoNumber_NoNumber, fun _ a ha => ?_, fun h => (nomatch h)⟩
        walk_at "w"
        exact q2
end X

namespace X
open PySem PySem.Spec PyProof.Rows L2 Lv
variable {P : Program} {w : World} {K : PySem.W.Frag} {mg : Str → Option Value} {base : Heap}
def spDeep (K : PySem.W.Frag) : Sp := fun vs H Q _ => ∃ (l : Addr) (G P : Hp), vs = [.ref l] ∧ Join G P H ∧ Pot P l ∧ ∀ v G' P' H', Kd G' v → isI v = false → Ex G G' → Join G' P' H' → Pot P' l → Q v H'
theorem sc_l_deep : FnScope ["_law_pot_here", "_law_thing", "_law_turn"] ["_law_pot_here"] (defScope s_l_deep) := ⟨rfl, rfl, rfl, by decide +kernel, rfl, by decide +kernel, by decide +kernel⟩
theorem ok_l_deep (T : Txt K mg) {fd_l_any : FuncData} (G_l_any : Dn P w K mg base (L2.CX P w) 2 "_law_any" ["_law_pot_here", "_law_items"] (spAny K) fd_l_any) {fd_l_draw : FuncData} (G_l_draw : Dn P w K mg base (L2.CX P w) 1 "_law_draw" ["_law_pot_here", "_law_many"] spDraw fd_l_draw) : ∃ fd, Dn P w K mg base (L2.CX P w) 3 "_law_deep" ["_law_pot_here"] (spDeep K) fd := by
  obtain ⟨fd, F⟩ := T.d_l_deep
  refine ⟨fd, F.ok sc_l_deep (fun vs H Q E h => ?_) (fun cdv A outer s H vs Q E hr h => ?_), T.g_l_deep, F.kp, F.bindsN fun _ _ _ _ _ _ us hl => match us, hl with | [_], _ => rfl, Lv.fun_lk F⟩
  · obtain ⟨_, _, _, rfl, _⟩ := h
    rfl
  · have hu := hu_of hr
    have hr_l_any : Room 2 _ := hr.mono (by decide)
    have hr_l_draw : Room 1 _ := hr.mono (by decide)
    refine ⟨_, PSs.nox (pss_cons (ps_set (i := 1) sc_l_deep.nd rfl (Or.inl rfl) (pe_call G_l_any.ok hr_l_any rfl G_l_any.mg G_l_any.kp G_l_any.b .nil passL (pa_cons (pv 0) (pa_cons (pe_tup (pa_cons (pe_tup pa_nil) (pa_cons pe_int (pa_cons pe_non (pa_cons pe_str pa_nil))))) pa_nil))))
      (pss_cons (ps_for PassesOwn.never rfl (pi_range1 (by rfl) T.n_range (pa_cons pe_int pa_nil)) (pg_name (i := 2) sc_l_deep.nd rfl (Or.inl rfl)) (pss_one (ps_set (i := 1) sc_l_deep.nd rfl (Or.inl rfl) (pe_ifExp (pt_cmpR op_eq (pe_call G_l_draw.ok hr_l_draw rfl G_l_draw.mg G_l_draw.kp G_l_draw.b .nil passL (pa_cons (pv 0) (pa_cons pe_int pa_nil))) pe_int (nomark _)) (pe_tup (pa_cons (pv 1) pa_nil)) (pe_lst (pa_cons (pv 1) pa_nil))))))
      (pss_one (ps_ret (pv 1))))), ?_⟩
    obtain ⟨l, G, P0, rfl, j, hP, q⟩ := h
    walk_at "w"
    refine aTup.go j (by show 0 ≤ 100000; decide) fun t1 G1 H1 _ e1 j1 h1 => ?_
    walk_at "w"
    refine aTup.go j1 (by show 4 ≤ 100000; decide) fun t2 G2 H2 _ e2 j2 h2 => ?_
    replace h1 := e2 _ _ h1
    walk_at "w"
    refine ⟨l, t2, _, G2, P0, rfl, j2, hP, sqT h2, by simp, by simp, fun ix v P3 H3 hv j3 hP3 => ?_⟩
    have hk : Kd G2 v := by
      have hm := List.mem_of_getElem? hv
      simp only [List.mem_cons, List.not_mem_nil, or_false] at hm
      rcases hm with rfl | rfl | rfl | rfl
      · exact .tup h1
      · exact .int _
      · exact .non
      · exact .str _
    walk_at "w"
    refine aForR.go (n := 36) rfl (by decide) (fun i G' P' σ' => Pot P' l ∧ Ex G2 G' ∧ ∃ (v : V) (s2 : Option V), Kd G' v ∧ (i = 0 ∨ isI v = false) ∧ σ' = [some (.ref l), some v, s2]) j3 ⟨hP3, Ex.refl _, v, none, hk, .inl rfl, rfl⟩ ?_ ?_
    · rintro i G' P' H' σ' hi j' ⟨hP', e', v, s2, hk, _, rfl⟩
      walk_at "w"
      refine w_ifE ?_
      walk_at "w"
      refine ⟨l, _, G', P', rfl, j', hP', by decide, by decide, fun d P4 H4 _ _ j4 hP4 => ?_⟩
      walk_at "w"
      by_cases hd : d = 0
      · refine itT (congrArg V.int hd) ?_
        walk_at "w"
        refine aTup.go j4 (by show 1 ≤ 100000; decide) fun t3 G3 H5 _ e3 j5 h3 => ?_
        walk_at "w"
        exact ⟨_, _, j5, hP4, e'.trans e3, _, _, .tup h3, .inr rfl, rfl⟩
      · refine itF (fun h => hd (V.int.inj h)) ?_
        walk_at "w"
        refine aLst.go j4 (by show 1 ≤ 100000; decide) fun t3 G3 H5 _ e3 j5 h3 => ?_
        walk_at "w"
        exact ⟨_, _, j5, hP4, e'.trans e3, _, _, .lst h3, .inr rfl, rfl⟩
    rintro G' P' H' σ' j' ⟨hP', e', v, s2, hk, hor, rfl⟩
    walk_at "w"
    exact q v G' P' H' hk (hor.resolve_left (by decide)) ((e1.trans e2).trans e') j' hP'
inductive DueV (K : PySem.W.Frag) (G : Hp) : V → Str → Prop where
  | told {a : Addr} {ns : List Int} (h : Sq G a (ns.map V.int)) (hl : ns.length < 64) (hd : ∀ x ∈ ns, ∀ y ∈ ns, x - y ≤ 100000) : DueV K G (.ref a) "told"
  | odd {a : Addr} {xs : List V} (h : Sq G a xs) (hl : xs.length < 64) (hx : ∀ x ∈ xs, KdL K G x) (hb : ∃ x ∈ xs, isI x = false) : DueV K G (.ref a) "numbers"
  | far {a : Addr} {ns : List Int} (h : Sq G a (ns.map V.int)) (hl : ns.length < 64) (hb : ∃ x ∈ ns, ∃ y ∈ ns, 100000 < x - y) : DueV K G (.ref a) "numbers"
  | val {v : V} (h : Kd G v) (hv : ∀ a, v ≠ .ref a) : DueV K G v "numbers"
  | dic {a : Addr} {kvs : List (L2.Key × V)} (h : G a = some (.dK kvs)) : DueV K G (.ref a) "numbers"
theorem DueV.mono {G G' : Hp} {v : V} {z : Str} (e : Ex G G') (h : DueV K G v z) : DueV K G' v z := by
  cases h with
  | told h hl hd => exact .told (h.mono e) hl hd
  | odd h hl hx hb => exact .odd (h.mono e) hl (fun x m => (hx x m).mono e) hb
  | far h hl hb => exact .far (h.mono e) hl hb
  | val h hv => exact .val (h.mono e) hv
  | dic h => exact .dic (e _ _ h)
theorem sq_kd {G : Hp} {a : Addr} {xs : List V} (h : Sq G a xs) : KdL K G (.ref a) := .kd (h.elim .lst .tup)
theorem intsV {ns ms : List Int} (h : ns.map V.int = ms.map V.int) : ns = ms := by
  have h2 := congrArg (List.map fun v => match v with | V.int n => n | _ => (0 : Int)) h
  rw [List.map_map, List.map_map] at h2
  have e3 : ((fun v => match v with | V.int n => n | _ => (0 : Int)) ∘ V.int) = id := rfl
  rw [e3, List.map_id, List.map_id] at h2
  exact h2
theorem due_ok {G : Hp} {v : V} {z : Str} (h : DueV K G v z) : KdL K G v ∧ ItK K G v ∧ ((LoOk G v ∧ z = "told") ∨ (¬ LoOk G v ∧ z = "numbers")) := by
  cases h with
  | told h hl hd =>
    refine ⟨sq_kd h, fun a xs e h' => ?_, .inl ⟨⟨_, _, rfl, h, hd⟩, rfl⟩⟩
    cases e
    obtain rfl := sq_one h h'
    exact ⟨by rw [List.length_map]; exact hl, fun x hx => by obtain ⟨n, _, rfl⟩ := List.mem_map.mp hx; exact .kd (.int n)⟩
  | odd h hl hx hb =>
    refine ⟨sq_kd h, fun a xs e h' => ?_, .inr ⟨fun ⟨a, ns, e, h', _⟩ => ?_, rfl⟩⟩
    · cases e
      obtain rfl := sq_one h h'
      exact ⟨hl, hx⟩
    · cases e
      obtain rfl := sq_one h h'
      obtain ⟨x, m, hn⟩ := hb
      obtain ⟨n, _, rfl⟩ := List.mem_map.mp m
      cases hn
  | far h hl hb =>
    refine ⟨sq_kd h, fun a xs e h' => ?_, .inr ⟨fun ⟨a, ns, e, h', hd⟩ => ?_, rfl⟩⟩
    · cases e
      obtain rfl := sq_one h h'
      exact ⟨by rw [List.length_map]; exact hl, fun x hx => by obtain ⟨n, _, rfl⟩ := List.mem_map.mp hx; exact .kd (.int n)⟩
    · cases e
      obtain rfl := intsV (sq_one h h')
      obtain ⟨x, hx, y, hy, hxy⟩ := hb
      have := hd x hx y hy
      omega
  | val h hv => exact ⟨.kd h, fun a xs e _ => (hv a e).elim, .inr ⟨fun ⟨a, ns, e, _⟩ => hv a e, rfl⟩⟩
  | dic h =>
    have hno : ∀ {a : Addr} {xs : List V}, Sq G a xs → ∀ {kvs}, G a = some (.dK kvs) → False := fun hs _ hk => by rcases hs with hs | hs <;> rw [hk] at hs <;> cases hs
    exact ⟨.kd (.dic h), fun a xs e hs => by cases e; exact (hno hs h).elim, .inr ⟨fun ⟨a, ns, e, hs, _⟩ => by cases e; exact hno hs h, rfl⟩⟩
def DueT (K : PySem.W.Frag) (G : Hp) (x : V) : Prop := ∃ (t : Addr) (v : V) (z : Str), x = .ref t ∧ G t = some (.tup [.int 1, v, .str z]) ∧ DueV K G v z
theorem DueT.mono {G G' : Hp} {x : V} (e : Ex G G') (h : DueT K G x) : DueT K G' x := by
  obtain ⟨t, v, z, h1, h2, h3⟩ := h
  exact ⟨t, v, z, h1, e _ _ h2, h3.mono e⟩
def spLists (K : PySem.W.Frag) : Sp := fun vs H Q _ => ∃ (l : Addr) (v : V) (G P : Hp), vs = [.ref l, v] ∧ Join G P H ∧ Pot P l ∧ KdL K G v ∧ isI v = false ∧ ∀ t xs G' P' H', Ex G G' → Join G' P' H' → Pot P' l → G' t = some (.lst xs) → (∀ x ∈ xs, DueT K G' x) → Q (.ref t) H'
theorem sc_l_lists : FnScope ["_law_pot_here", "_law_odd", "_law_numbers", "_law_at", "_law_bent", "_law_base", "_law_some", "_law_turn"] ["_law_pot_here", "_law_odd"] (defScope s_l_lists) := ⟨rfl, rfl, rfl, by decide +kernel, rfl, by decide +kernel, by decide +kernel⟩
theorem ok_l_lists (T : Txt K mg) {fd_l_draw : FuncData} (G_l_draw : Dn P w K mg base (L2.CX P w) 1 "_law_draw" ["_law_pot_here", "_law_many"] spDraw fd_l_draw) {fd_l_any : FuncData} (G_l_any : Dn P w K mg base (L2.CX P w) 2 "_law_any" ["_law_pot_here", "_law_items"] (spAny K) fd_l_any) : ∃ fd, Dn P w K mg base (L2.CX P w) 10 "_law_lists" ["_law_pot_here", "_law_odd"] (spLists K) fd := by
  obtain ⟨fd, F⟩ := T.d_l_lists
  refine ⟨fd, F.ok sc_l_lists (fun vs H Q E h => ?_) (fun cdv A outer s H vs Q E hr h => ?_), T.g_l_lists, F.kp, F.bindsN fun _ _ _ _ _ _ us hl => match us, hl with | [_, _], _ => rfl, Lv.fun_lk F⟩
  · obtain ⟨_, _, _, _, rfl, _⟩ := h
    rfl
  · have hu := hu_of hr
    have hr_l_draw : Room 1 _ := hr.mono (by decide)
    have hr_l_any : Room 2 _ := hr.mono (by decide)
    refine ⟨_, PSs.nox (pss_cons (ps_setLc (i := 2) (own := [("_law_turn", 7)]) (g := gName 7) (tt := tYes) rfl sc_l_lists.nd rfl rfl (sw_true rfl rfl rfl (by decide +kernel)) (pi_range1 (by rfl) T.n_range (pa_cons (pe_call G_l_draw.ok hr_l_draw rfl G_l_draw.mg G_l_draw.kp G_l_draw.b .nil passL (pa_cons (pv 0) (pa_cons pe_int pa_nil))) pa_nil)) (blkOk_by (N := ["_law_pot_here", "_law_odd", "_law_numbers", "_law_at", "_law_bent", "_law_base", "_law_some", "_law_turn"]) (sc := defScope s_l_lists) (by decide +kernel)) (fun _ _ _ _ _ => (pg_name (i := 7) sc_l_lists.nd rfl (Or.inl rfl) (hf := Or.inr rfl))) (fun _ _ _ _ _ => pts_nil) (fun _ _ _ _ _ => (pe_op op_sub (pe_call G_l_draw.ok hr_l_draw rfl G_l_draw.mg G_l_draw.kp G_l_draw.b .nil passL (pa_cons (pv 0) (pa_cons pe_int pa_nil))) pe_int)))
      (pss_cons (ps_set (i := 3) sc_l_lists.nd rfl (Or.inl rfl) (pe_call G_l_draw.ok hr_l_draw rfl G_l_draw.mg G_l_draw.kp G_l_draw.b .nil passL (pa_cons (pv 0) (pa_cons (pe_op op_add (pe_callB call_len_seq (by rfl) T.n_len PySem.boot_len (pa_cons (pv 2) pa_nil)) pe_int) pa_nil))))
      (pss_cons (ps_set (i := 4) sc_l_lists.nd rfl (Or.inl rfl) (pe_op op_cat (pe_op op_cat (pe_slice sl_list (pv 2) po_none (po_some (pv 3))) (pe_lst (pa_cons (pv 1) pa_nil))) (pe_slice sl_list (pv 2) (po_some (pv 3)) po_none)))
      (pss_cons (ps_set (i := 5) sc_l_lists.nd rfl (Or.inl rfl) (pe_call G_l_any.ok hr_l_any rfl G_l_any.mg G_l_any.kp G_l_any.b .nil passL (pa_cons (pv 0) (pa_cons (pe_tup (pa_cons pe_int (pa_cons (pe_op op_pow pe_int pe_int) (pa_cons (pe_un un_neg pe_int) pa_nil)))) pa_nil))))
      (pss_cons (ps_set (i := 6) sc_l_lists.nd rfl (Or.inl rfl) (pe_lst (pa_cons (pe_tup (pa_cons pe_int (pa_cons (pv 2) (pa_cons pe_str pa_nil)))) (pa_cons (pe_tup (pa_cons pe_int (pa_cons (pe_callTy call_tuple_of (by rfl) T.n_tuple (by decide +kernel) (pa_cons (pv 2) pa_nil)) (pa_cons pe_str pa_nil)))) (pa_cons (pe_tup (pa_cons pe_int (pa_cons (pv 4) (pa_cons pe_str pa_nil)))) (pa_cons (pe_tup (pa_cons pe_int (pa_cons (pe_callTy call_tuple_of (by rfl) T.n_tuple (by decide +kernel) (pa_cons (pv 4) pa_nil)) (pa_cons pe_str pa_nil)))) pa_nil))))))
      (pss_cons (ps_set (i := 6) sc_l_lists.nd rfl (Or.inl rfl) (pe_op op_cat (pv 6) (pe_lst (pa_cons (pe_tup (pa_cons pe_int (pa_cons (pe_lst pa_nil) (pa_cons pe_str pa_nil)))) (pa_cons (pe_tup (pa_cons pe_int (pa_cons (pe_tup pa_nil) (pa_cons pe_str pa_nil)))) (pa_cons (pe_tup (pa_cons pe_int (pa_cons pe_dnewK (pa_cons pe_str pa_nil)))) (pa_cons (pe_tup (pa_cons pe_int (pa_cons pe_str (pa_cons pe_str pa_nil)))) (pa_cons (pe_tup (pa_cons pe_int (pa_cons pe_str (pa_cons pe_str pa_nil)))) (pa_cons (pe_tup (pa_cons pe_int (pa_cons pe_int (pa_cons pe_str pa_nil)))) pa_nil)))))))))
      (pss_cons (ps_set (i := 6) sc_l_lists.nd rfl (Or.inl rfl) (pe_op op_cat (pv 6) (pe_lst (pa_cons (pe_tup (pa_cons pe_int (pa_cons (pe_lst (pa_cons (pv 5) (pa_cons (pe_op op_add (pv 5) pe_int) pa_nil))) (pa_cons pe_str pa_nil)))) (pa_cons (pe_tup (pa_cons pe_int (pa_cons (pe_lst (pa_cons (pe_op op_add (pv 5) pe_int) (pa_cons (pv 5) pa_nil))) (pa_cons pe_str pa_nil)))) (pa_cons (pe_tup (pa_cons pe_int (pa_cons (pe_lst (pa_cons (pv 5) (pa_cons (pe_op op_add (pv 5) pe_int) pa_nil))) (pa_cons pe_str pa_nil)))) pa_nil))))))
      (pss_one (ps_ret (pe_op op_cat (pv 6) (pe_lst (pa_cons (pe_tup (pa_cons pe_int (pa_cons (pe_tup (pa_cons (pe_op op_add (pv 5) pe_int) (pa_cons (pe_op op_add (pv 5) pe_int) (pa_cons (pv 5) pa_nil)))) (pa_cons pe_str pa_nil)))) (pa_cons (pe_tup (pa_cons pe_int (pa_cons pe_non (pa_cons pe_str pa_nil)))) (pa_cons (pe_tup (pa_cons pe_int (pa_cons (pe_lst (pa_cons (pe_lst (pa_cons pe_int pa_nil)) pa_nil)) (pa_cons pe_str pa_nil)))) pa_nil)))))))))))))), ?_⟩
    obtain ⟨l, v, G, P0, rfl, j, hP, hv, hvi, q⟩ := h
    walk_at "w"
    refine ⟨l, 12, G, P0, rfl, j, hP, by decide, by decide, fun n P1 H1 n0 n1 j1 hP1 => ?_⟩
    walk_at "w"
    obtain ⟨nn, rfl⟩ : ∃ nn : Nat, n = (nn : Int) := ⟨n.toNat, by omega⟩
    refine aLcR.go (n := nn) (fun P' => Pot P' l) (fun i us G' => ∃ ns : List Int, us = ns.map V.int ∧ ns.length ≤ i ∧ i ≤ nn ∧ ∀ x ∈ ns, -1000 ≤ x ∧ x ≤ 1000) j1 hP1 rfl (by omega) (fun _ _ => ⟨[], rfl, Nat.zero_le _, Nat.zero_le _, fun x h => (nomatch h)⟩) (fun i us G2 D _ _ hd h => h) (fun i us G2 h => by obtain ⟨ns, rfl, h1, h2, _⟩ := h; rw [List.length_map]; omega) ?_ ?_
    · rintro i us G' P' H' R R0 hi e' ⟨ns, rfl, hn1, hn2, hb⟩ hP' j' kR kR0
      walk_at "w"
      refine ⟨rfl, ?_⟩
      walk_at "w"
      refine ⟨l, 2001, G', P', rfl, j', hP', by decide, by decide, fun d P4 H5 d0 d1 j5 hP4 => ?_⟩
      walk_at "w"
      refine kR _ G' P4 H5 (Ex.refl _) hP4 j5 ⟨ns ++ [d - 1000], by rw [List.map_append]; rfl, by rw [List.length_append, List.length_singleton]; omega, by omega, fun x hx => ?_⟩
      rcases List.mem_append.mp hx with h | h
      · exact hb x h
      · obtain rfl := List.mem_singleton.mp h
        omega
    rintro L1 us G2 P2 H2 _ e2 hL1 ⟨ns, rfl, hn1, hn2, hb⟩ hP2 j2
    replace hv := hv.mono e2
    clear j1 hP1 hP j
    walk_at "w"
    refine ⟨l, _, G2, P2, rfl, j2, hP2, by omega, Int.lt_of_le_of_lt (b := 100) (by rw [List.length_map]; omega) (by decide), fun d P3 H3 d0 d1 j3 hP3 => ?_⟩
    obtain ⟨m3, rfl⟩ : ∃ m : Nat, d = (m : Int) := ⟨d.toNat, by omega⟩
    walk_at "w"
    refine slL_take j3 hL1 fun L2 G4 H4 e4 j4 _ hL2 => ?_
    replace hL1 := e4 _ _ hL1; replace hv := hv.mono e4
    walk_at "w"
    refine aLst.go j4 (by show 1 ≤ 100000; decide) fun L3 G5 H5 _ e5 j5 hL3 => ?_
    replace hL1 := e5 _ _ hL1; replace hL2 := e5 _ _ hL2; replace hv := hv.mono e5
    walk_at "w"
    refine cat_out j5 hL2 hL3 (by rw [List.length_take, List.length_map]; show _ + 1 < _; omega) fun L4 G6 H6 e6 j6 _ hL4 => ?_
    replace hL1 := e6 _ _ hL1; replace hv := hv.mono e6
    walk_at "w"
    refine slL_drop j6 hL1 fun L5 G7 H7 e7 j7 _ hL5 => ?_
    replace hL1 := e7 _ _ hL1; replace hL4 := e7 _ _ hL4; replace hv := hv.mono e7
    walk_at "w"
    refine cat_out j7 hL4 hL5 (by rw [List.length_append, List.length_take, List.length_drop, List.length_map]; show _ + 1 + _ < _; omega) fun L6 G8 H8 e8 j8 _ hL6 => ?_
    replace hL1 := e8 _ _ hL1; replace hv := hv.mono e8
    have eA := ((e2.trans e4).trans (e5.trans e6)).trans (e7.trans e8)
    obtain ⟨bt, hbt⟩ : ∃ bt, (ns.map V.int).take m3 ++ [v] ++ (ns.map V.int).drop m3 = bt := ⟨_, rfl⟩
    rw [hbt] at hL6
    have hbtl : bt.length < 64 := by
      rw [← hbt, List.length_append, List.length_append, List.length_take, List.length_drop, List.length_map, List.length_singleton]
      omega
    have hbti : ∃ x ∈ bt, isI x = false := ⟨v, by rw [← hbt]; simp, hvi⟩
    have hbtk : ∀ x ∈ bt, KdL K G8 x := fun x hx => by
      rw [← hbt] at hx
      rcases List.mem_append.mp hx with h | h
      · rcases List.mem_append.mp h with h | h
        · obtain ⟨n, _, rfl⟩ := List.mem_map.mp (List.mem_of_mem_take h)
          exact .kd (.int n)
        · obtain rfl := List.mem_singleton.mp h
          exact hv
      · obtain ⟨n, _, rfl⟩ := List.mem_map.mp (List.mem_of_mem_drop h)
        exact .kd (.int n)
    have hnd : ∀ x ∈ ns, ∀ y ∈ ns, x - y ≤ 100000 := fun x hx y hy => by
      have := hb x hx
      have := hb y hy
      omega
    clear hbt e2 e4 e5 e6 e7 e8 j2 j3 j4 j5 j6 j7 hP2
    walk_at "w"
    refine w_rI ⟨by decide, by decide, by decide⟩ ?_
    walk_at "w"
    refine aTup.go j8 (by show 3 ≤ 100000; decide) fun tb G9 H9 _ e9 j9 htb => ?_
    walk_at "w"
    refine ⟨l, tb, _, G9, P3, rfl, j9, hP3, sqT htb, by show 0 < 3; decide, by show 3 ≤ 1000; decide, fun ix x P4 H10 hx j10 hP4 => ?_⟩
    obtain ⟨b, rfl⟩ : ∃ b : Int, x = .int b := by
      have hm := List.mem_of_getElem? hx
      simp only [List.mem_cons, List.not_mem_nil, or_false] at hm
      rcases hm with rfl | rfl | rfl <;> exact ⟨_, rfl⟩
    have s0 : DueV K G9 (.ref L1) "told" := .told (.inl (e9 _ _ hL1)) (by omega) hnd
    have s2 : DueV K G9 (.ref L6) "numbers" := .odd (.inl (e9 _ _ hL6)) hbtl (fun x m => (hbtk x m).mono e9) hbti
    replace hL1 := e9 _ _ hL1
    replace hL6 := e9 _ _ hL6
    replace eA := eA.trans e9
    replace hbtk := fun x m => (hbtk x m).mono e9
    clear htb hx e9 j8 j9 hP3 hv

    walk_at "w"
    refine aTup.go j10 (by show 3 ≤ 100000; decide) fun t1 Ga1 Ha1 _ ea1 ja1 ht1 => ?_
    replace hL1 := ea1 _ _ hL1
    replace hL6 := ea1 _ _ hL6
    replace s0 := s0.mono ea1
    replace s2 := s2.mono ea1
    replace eA := eA.trans ea1
    replace hbtk := fun x m => (hbtk x m).mono ea1
    have d1 : DueT K Ga1 (.ref t1) := ⟨t1, _, _, rfl, ht1, s0⟩
    clear ht1
    walk_at "w"
    refine tupOf_go ja1 hL1 fun u2 Ga2 Ha2 _ ea2 ja2 hu2 => ?_
    replace hL1 := ea2 _ _ hL1
    replace hL6 := ea2 _ _ hL6
    replace d1 := d1.mono ea2
    replace s0 := s0.mono ea2
    replace s2 := s2.mono ea2
    replace eA := eA.trans ea2
    replace hbtk := fun x m => (hbtk x m).mono ea2
    walk_at "w"
    refine aTup.go ja2 (by show 3 ≤ 100000; decide) fun t2 Ga3 Ha3 _ ea3 ja3 ht2 => ?_
    replace hL1 := ea3 _ _ hL1
    replace hL6 := ea3 _ _ hL6
    replace hu2 := ea3 _ _ hu2
    replace d1 := d1.mono ea3
    replace s0 := s0.mono ea3
    replace s2 := s2.mono ea3
    replace eA := eA.trans ea3
    replace hbtk := fun x m => (hbtk x m).mono ea3
    have d2 : DueT K Ga3 (.ref t2) := ⟨t2, _, _, rfl, ht2, .told (.inr hu2) (by omega) hnd⟩
    clear ht2
    walk_at "w"
    refine aTup.go ja3 (by show 3 ≤ 100000; decide) fun t3 Ga4 Ha4 _ ea4 ja4 ht3 => ?_
    replace hL1 := ea4 _ _ hL1
    replace hL6 := ea4 _ _ hL6
    replace d1 := d1.mono ea4
    replace d2 := d2.mono ea4
    replace s0 := s0.mono ea4
    replace s2 := s2.mono ea4
    replace eA := eA.trans ea4
    replace hbtk := fun x m => (hbtk x m).mono ea4
    have d3 : DueT K Ga4 (.ref t3) := ⟨t3, _, _, rfl, ht3, s2⟩
    clear ht3
    walk_at "w"
    refine tupOf_go ja4 hL6 fun u4 Ga5 Ha5 _ ea5 ja5 hu4 => ?_
    replace hL1 := ea5 _ _ hL1
    replace hL6 := ea5 _ _ hL6
    replace d1 := d1.mono ea5
    replace d2 := d2.mono ea5
    replace d3 := d3.mono ea5
    replace s0 := s0.mono ea5
    replace s2 := s2.mono ea5
    replace eA := eA.trans ea5
    replace hbtk := fun x m => (hbtk x m).mono ea5
    walk_at "w"
    refine aTup.go ja5 (by show 3 ≤ 100000; decide) fun t4 Ga6 Ha6 _ ea6 ja6 ht4 => ?_
    replace hL1 := ea6 _ _ hL1
    replace hL6 := ea6 _ _ hL6
    replace hu4 := ea6 _ _ hu4
    replace d1 := d1.mono ea6
    replace d2 := d2.mono ea6
    replace d3 := d3.mono ea6
    replace s0 := s0.mono ea6
    replace s2 := s2.mono ea6
    replace eA := eA.trans ea6
    replace hbtk := fun x m => (hbtk x m).mono ea6
    have d4 : DueT K Ga6 (.ref t4) := ⟨t4, _, _, rfl, ht4, .odd (.inr hu4) hbtl hbtk hbti⟩
    clear ht4
    clear s0 s2 hL1 hL6
    walk_at "w"
    refine aLst.go ja6 (by show 4 ≤ 100000; decide) fun M1 Ga7 Ha7 _ ea7 ja7 hM1 => ?_
    replace d1 := d1.mono ea7
    replace d2 := d2.mono ea7
    replace d3 := d3.mono ea7
    replace d4 := d4.mono ea7
    replace eA := eA.trans ea7
    replace hbtk := fun x m => (hbtk x m).mono ea7
    walk_at "w"
    refine aLst.go ja7 (by show 0 ≤ 100000; decide) fun u5 Ga8 Ha8 _ ea8 ja8 hu5 => ?_
    replace hM1 := ea8 _ _ hM1
    replace d1 := d1.mono ea8
    replace d2 := d2.mono ea8
    replace d3 := d3.mono ea8
    replace d4 := d4.mono ea8
    replace eA := eA.trans ea8
    replace hbtk := fun x m => (hbtk x m).mono ea8
    walk_at "w"
    refine aTup.go ja8 (by show 3 ≤ 100000; decide) fun t5 Ga9 Ha9 _ ea9 ja9 ht5 => ?_
    replace hM1 := ea9 _ _ hM1
    replace hu5 := ea9 _ _ hu5
    replace d1 := d1.mono ea9
    replace d2 := d2.mono ea9
    replace d3 := d3.mono ea9
    replace d4 := d4.mono ea9
    replace eA := eA.trans ea9
    replace hbtk := fun x m => (hbtk x m).mono ea9
    have d5 : DueT K Ga9 (.ref t5) := ⟨t5, _, _, rfl, ht5, .told (ns := []) (.inl hu5) (by decide) (fun x h => (nomatch h))⟩
    clear ht5
    walk_at "w"
    refine aTup.go ja9 (by show 0 ≤ 100000; decide) fun u6 Ga10 Ha10 _ ea10 ja10 hu6 => ?_
    replace hM1 := ea10 _ _ hM1
    replace d1 := d1.mono ea10
    replace d2 := d2.mono ea10
    replace d3 := d3.mono ea10
    replace d4 := d4.mono ea10
    replace d5 := d5.mono ea10
    replace eA := eA.trans ea10
    replace hbtk := fun x m => (hbtk x m).mono ea10
    walk_at "w"
    refine aTup.go ja10 (by show 3 ≤ 100000; decide) fun t6 Ga11 Ha11 _ ea11 ja11 ht6 => ?_
    replace hM1 := ea11 _ _ hM1
    replace hu6 := ea11 _ _ hu6
    replace d1 := d1.mono ea11
    replace d2 := d2.mono ea11
    replace d3 := d3.mono ea11
    replace d4 := d4.mono ea11
    replace d5 := d5.mono ea11
    replace eA := eA.trans ea11
    replace hbtk := fun x m => (hbtk x m).mono ea11
    have d6 : DueT K Ga11 (.ref t6) := ⟨t6, _, _, rfl, ht6, .told (ns := []) (.inr hu6) (by decide) (fun x h => (nomatch h))⟩
    clear ht6
    walk_at "w"
    refine aDNew.go ja11 fun u7 Ga12 Ha12 _ ea12 ja12 hu7 => ?_
    replace hM1 := ea12 _ _ hM1
    replace d1 := d1.mono ea12
    replace d2 := d2.mono ea12
    replace d3 := d3.mono ea12
    replace d4 := d4.mono ea12
    replace d5 := d5.mono ea12
    replace d6 := d6.mono ea12
    replace eA := eA.trans ea12
    replace hbtk := fun x m => (hbtk x m).mono ea12
    walk_at "w"
    refine aTup.go ja12 (by show 3 ≤ 100000; decide) fun t7 Ga13 Ha13 _ ea13 ja13 ht7 => ?_
    replace hM1 := ea13 _ _ hM1
    replace hu7 := ea13 _ _ hu7
    replace d1 := d1.mono ea13
    replace d2 := d2.mono ea13
    replace d3 := d3.mono ea13
    replace d4 := d4.mono ea13
    replace d5 := d5.mono ea13
    replace d6 := d6.mono ea13
    replace eA := eA.trans ea13
    replace hbtk := fun x m => (hbtk x m).mono ea13
    have d7 : DueT K Ga13 (.ref t7) := ⟨t7, _, _, rfl, ht7, .dic hu7⟩
    clear ht7
    walk_at "w"
    refine aTup.go ja13 (by show 3 ≤ 100000; decide) fun t8 Ga14 Ha14 _ ea14 ja14 ht8 => ?_
    replace hM1 := ea14 _ _ hM1
    replace d1 := d1.mono ea14
    replace d2 := d2.mono ea14
    replace d3 := d3.mono ea14
    replace d4 := d4.mono ea14
    replace d5 := d5.mono ea14
    replace d6 := d6.mono ea14
    replace d7 := d7.mono ea14
    replace eA := eA.trans ea14
    replace hbtk := fun x m => (hbtk x m).mono ea14
    have d8 : DueT K Ga14 (.ref t8) := ⟨t8, _, _, rfl, ht8, .val (.str _) (fun a h => (nomatch h))⟩
    clear ht8
    walk_at "w"
    refine aTup.go ja14 (by show 3 ≤ 100000; decide) fun t9 Ga15 Ha15 _ ea15 ja15 ht9 => ?_
    replace hM1 := ea15 _ _ hM1
    replace d1 := d1.mono ea15
    replace d2 := d2.mono ea15
    replace d3 := d3.mono ea15
    replace d4 := d4.mono ea15
    replace d5 := d5.mono ea15
    replace d6 := d6.mono ea15
    replace d7 := d7.mono ea15
    replace d8 := d8.mono ea15
    replace eA := eA.trans ea15
    replace hbtk := fun x m => (hbtk x m).mono ea15
    have d9 : DueT K Ga15 (.ref t9) := ⟨t9, _, _, rfl, ht9, .val (.str _) (fun a h => (nomatch h))⟩
    clear ht9
    walk_at "w"
    refine aTup.go ja15 (by show 3 ≤ 100000; decide) fun t10 Ga16 Ha16 _ ea16 ja16 ht10 => ?_
    replace hM1 := ea16 _ _ hM1
    replace d1 := d1.mono ea16
    replace d2 := d2.mono ea16
    replace d3 := d3.mono ea16
    replace d4 := d4.mono ea16
    replace d5 := d5.mono ea16
    replace d6 := d6.mono ea16
    replace d7 := d7.mono ea16
    replace d8 := d8.mono ea16
    replace d9 := d9.mono ea16
    replace eA := eA.trans ea16
    replace hbtk := fun x m => (hbtk x m).mono ea16
    have d10 : DueT K Ga16 (.ref t10) := ⟨t10, _, _, rfl, ht10, .val (.int _) (fun a h => (nomatch h))⟩
    clear ht10
    walk_at "w"
    refine aLst.go ja16 (by show 6 ≤ 100000; decide) fun M2 Ga17 Ha17 _ ea17 ja17 hM2 => ?_
    replace hM1 := ea17 _ _ hM1
    replace d1 := d1.mono ea17
    replace d2 := d2.mono ea17
    replace d3 := d3.mono ea17
    replace d4 := d4.mono ea17
    replace d5 := d5.mono ea17
    replace d6 := d6.mono ea17
    replace d7 := d7.mono ea17
    replace d8 := d8.mono ea17
    replace d9 := d9.mono ea17
    replace d10 := d10.mono ea17
    replace eA := eA.trans ea17
    replace hbtk := fun x m => (hbtk x m).mono ea17
    walk_at "w"
    refine cat_out ja17 hM1 hM2 (by show 4 + 6 < 100000; decide) fun M3 Ga18 Ha18 ea18 ja18 _ hM3 => ?_
    replace hM1 := ea18 _ _ hM1
    replace hM2 := ea18 _ _ hM2
    replace d1 := d1.mono ea18
    replace d2 := d2.mono ea18
    replace d3 := d3.mono ea18
    replace d4 := d4.mono ea18
    replace d5 := d5.mono ea18
    replace d6 := d6.mono ea18
    replace d7 := d7.mono ea18
    replace d8 := d8.mono ea18
    replace d9 := d9.mono ea18
    replace d10 := d10.mono ea18
    replace eA := eA.trans ea18
    replace hbtk := fun x m => (hbtk x m).mono ea18
    walk_at "w"
    refine aLst.go ja18 (by show 2 ≤ 100000; decide) fun u11 Ga19 Ha19 _ ea19 ja19 hu11 => ?_
    replace hM3 := ea19 _ _ hM3
    replace d1 := d1.mono ea19
    replace d2 := d2.mono ea19
    replace d3 := d3.mono ea19
    replace d4 := d4.mono ea19
    replace d5 := d5.mono ea19
    replace d6 := d6.mono ea19
    replace d7 := d7.mono ea19
    replace d8 := d8.mono ea19
    replace d9 := d9.mono ea19
    replace d10 := d10.mono ea19
    replace eA := eA.trans ea19
    replace hbtk := fun x m => (hbtk x m).mono ea19
    walk_at "w"
    refine aTup.go ja19 (by show 3 ≤ 100000; decide) fun t11 Ga20 Ha20 _ ea20 ja20 ht11 => ?_
    replace hM3 := ea20 _ _ hM3
    replace hu11 := ea20 _ _ hu11
    replace d1 := d1.mono ea20
    replace d2 := d2.mono ea20
    replace d3 := d3.mono ea20
    replace d4 := d4.mono ea20
    replace d5 := d5.mono ea20
    replace d6 := d6.mono ea20
    replace d7 := d7.mono ea20
    replace d8 := d8.mono ea20
    replace d9 := d9.mono ea20
    replace d10 := d10.mono ea20
    replace eA := eA.trans ea20
    replace hbtk := fun x m => (hbtk x m).mono ea20
    have d11 : DueT K Ga20 (.ref t11) := ⟨t11, _, _, rfl, ht11, .told (ns := [b, b + 100000]) (.inl hu11) (show 2 < 64 by decide) (fun x hx y hy => by simp only [List.mem_cons, List.not_mem_nil, or_false] at hx hy; omega)⟩
    clear ht11
    walk_at "w"
    refine aLst.go ja20 (by show 2 ≤ 100000; decide) fun u12 Ga21 Ha21 _ ea21 ja21 hu12 => ?_
    replace hM3 := ea21 _ _ hM3
    replace d1 := d1.mono ea21
    replace d2 := d2.mono ea21
    replace d3 := d3.mono ea21
    replace d4 := d4.mono ea21
    replace d5 := d5.mono ea21
    replace d6 := d6.mono ea21
    replace d7 := d7.mono ea21
    replace d8 := d8.mono ea21
    replace d9 := d9.mono ea21
    replace d10 := d10.mono ea21
    replace d11 := d11.mono ea21
    replace eA := eA.trans ea21
    replace hbtk := fun x m => (hbtk x m).mono ea21
    walk_at "w"
    refine aTup.go ja21 (by show 3 ≤ 100000; decide) fun t12 Ga22 Ha22 _ ea22 ja22 ht12 => ?_
    replace hM3 := ea22 _ _ hM3
    replace hu12 := ea22 _ _ hu12
    replace d1 := d1.mono ea22
    replace d2 := d2.mono ea22
    replace d3 := d3.mono ea22
    replace d4 := d4.mono ea22
    replace d5 := d5.mono ea22
    replace d6 := d6.mono ea22
    replace d7 := d7.mono ea22
    replace d8 := d8.mono ea22
    replace d9 := d9.mono ea22
    replace d10 := d10.mono ea22
    replace d11 := d11.mono ea22
    replace eA := eA.trans ea22
    replace hbtk := fun x m => (hbtk x m).mono ea22
    have d12 : DueT K Ga22 (.ref t12) := ⟨t12, _, _, rfl, ht12, .told (ns := [b + 100000, b]) (.inl hu12) (show 2 < 64 by decide) (fun x hx y hy => by simp only [List.mem_cons, List.not_mem_nil, or_false] at hx hy; omega)⟩
    clear ht12
    walk_at "w"
    refine aLst.go ja22 (by show 2 ≤ 100000; decide) fun u13 Ga23 Ha23 _ ea23 ja23 hu13 => ?_
    replace hM3 := ea23 _ _ hM3
    replace d1 := d1.mono ea23
    replace d2 := d2.mono ea23
    replace d3 := d3.mono ea23
    replace d4 := d4.mono ea23
    replace d5 := d5.mono ea23
    replace d6 := d6.mono ea23
    replace d7 := d7.mono ea23
    replace d8 := d8.mono ea23
    replace d9 := d9.mono ea23
    replace d10 := d10.mono ea23
    replace d11 := d11.mono ea23
    replace d12 := d12.mono ea23
    replace eA := eA.trans ea23
    replace hbtk := fun x m => (hbtk x m).mono ea23
    walk_at "w"
    refine aTup.go ja23 (by show 3 ≤ 100000; decide) fun t13 Ga24 Ha24 _ ea24 ja24 ht13 => ?_
    replace hM3 := ea24 _ _ hM3
    replace hu13 := ea24 _ _ hu13
    replace d1 := d1.mono ea24
    replace d2 := d2.mono ea24
    replace d3 := d3.mono ea24
    replace d4 := d4.mono ea24
    replace d5 := d5.mono ea24
    replace d6 := d6.mono ea24
    replace d7 := d7.mono ea24
    replace d8 := d8.mono ea24
    replace d9 := d9.mono ea24
    replace d10 := d10.mono ea24
    replace d11 := d11.mono ea24
    replace d12 := d12.mono ea24
    replace eA := eA.trans ea24
    replace hbtk := fun x m => (hbtk x m).mono ea24
    have d13 : DueT K Ga24 (.ref t13) := ⟨t13, _, _, rfl, ht13, .far (ns := [b, b + 100001]) (.inl hu13) (show 2 < 64 by decide) ⟨b + 100001, by simp, b, by simp, by omega⟩⟩
    clear ht13
    walk_at "w"
    refine aLst.go ja24 (by show 3 ≤ 100000; decide) fun M4 Ga25 Ha25 _ ea25 ja25 hM4 => ?_
    replace hM3 := ea25 _ _ hM3
    replace d1 := d1.mono ea25
    replace d2 := d2.mono ea25
    replace d3 := d3.mono ea25
    replace d4 := d4.mono ea25
    replace d5 := d5.mono ea25
    replace d6 := d6.mono ea25
    replace d7 := d7.mono ea25
    replace d8 := d8.mono ea25
    replace d9 := d9.mono ea25
    replace d10 := d10.mono ea25
    replace d11 := d11.mono ea25
    replace d12 := d12.mono ea25
    replace d13 := d13.mono ea25
    replace eA := eA.trans ea25
    replace hbtk := fun x m => (hbtk x m).mono ea25
    walk_at "w"
    refine cat_out ja25 hM3 hM4 (by show 10 + 3 < 100000; decide) fun M5 Ga26 Ha26 ea26 ja26 _ hM5 => ?_
    replace hM3 := ea26 _ _ hM3
    replace hM4 := ea26 _ _ hM4
    replace d1 := d1.mono ea26
    replace d2 := d2.mono ea26
    replace d3 := d3.mono ea26
    replace d4 := d4.mono ea26
    replace d5 := d5.mono ea26
    replace d6 := d6.mono ea26
    replace d7 := d7.mono ea26
    replace d8 := d8.mono ea26
    replace d9 := d9.mono ea26
    replace d10 := d10.mono ea26
    replace d11 := d11.mono ea26
    replace d12 := d12.mono ea26
    replace d13 := d13.mono ea26
    replace eA := eA.trans ea26
    replace hbtk := fun x m => (hbtk x m).mono ea26
    walk_at "w"
    refine aTup.go ja26 (by show 3 ≤ 100000; decide) fun u14 Ga27 Ha27 _ ea27 ja27 hu14 => ?_
    replace hM5 := ea27 _ _ hM5
    replace d1 := d1.mono ea27
    replace d2 := d2.mono ea27
    replace d3 := d3.mono ea27
    replace d4 := d4.mono ea27
    replace d5 := d5.mono ea27
    replace d6 := d6.mono ea27
    replace d7 := d7.mono ea27
    replace d8 := d8.mono ea27
    replace d9 := d9.mono ea27
    replace d10 := d10.mono ea27
    replace d11 := d11.mono ea27
    replace d12 := d12.mono ea27
    replace d13 := d13.mono ea27
    replace eA := eA.trans ea27
    replace hbtk := fun x m => (hbtk x m).mono ea27
    walk_at "w"
    refine aTup.go ja27 (by show 3 ≤ 100000; decide) fun t14 Ga28 Ha28 _ ea28 ja28 ht14 => ?_
    replace hM5 := ea28 _ _ hM5
    replace hu14 := ea28 _ _ hu14
    replace d1 := d1.mono ea28
    replace d2 := d2.mono ea28
    replace d3 := d3.mono ea28
    replace d4 := d4.mono ea28
    replace d5 := d5.mono ea28
    replace d6 := d6.mono ea28
    replace d7 := d7.mono ea28
    replace d8 := d8.mono ea28
    replace d9 := d9.mono ea28
    replace d10 := d10.mono ea28
    replace d11 := d11.mono ea28
    replace d12 := d12.mono ea28
    replace d13 := d13.mono ea28
    replace eA := eA.trans ea28
    replace hbtk := fun x m => (hbtk x m).mono ea28
    have d14 : DueT K Ga28 (.ref t14) := ⟨t14, _, _, rfl, ht14, .far (ns := [b + 100001, b + 7, b]) (.inr hu14) (show 3 < 64 by decide) ⟨b + 100001, by simp, b, by simp, by omega⟩⟩
    clear ht14
    walk_at "w"
    refine aTup.go ja28 (by show 3 ≤ 100000; decide) fun t15 Ga29 Ha29 _ ea29 ja29 ht15 => ?_
    replace hM5 := ea29 _ _ hM5
    replace d1 := d1.mono ea29
    replace d2 := d2.mono ea29
    replace d3 := d3.mono ea29
    replace d4 := d4.mono ea29
    replace d5 := d5.mono ea29
    replace d6 := d6.mono ea29
    replace d7 := d7.mono ea29
    replace d8 := d8.mono ea29
    replace d9 := d9.mono ea29
    replace d10 := d10.mono ea29
    replace d11 := d11.mono ea29
    replace d12 := d12.mono ea29
    replace d13 := d13.mono ea29
    replace d14 := d14.mono ea29
    replace eA := eA.trans ea29
    replace hbtk := fun x m => (hbtk x m).mono ea29
    have d15 : DueT K Ga29 (.ref t15) := ⟨t15, _, _, rfl, ht15, .val .non (fun a h => (nomatch h))⟩
    clear ht15
    walk_at "w"
    refine aLst.go ja29 (by show 1 ≤ 100000; decide) fun v16 Ga30 Ha30 _ ea30 ja30 hv16 => ?_
    replace hM5 := ea30 _ _ hM5
    replace d1 := d1.mono ea30
    replace d2 := d2.mono ea30
    replace d3 := d3.mono ea30
    replace d4 := d4.mono ea30
    replace d5 := d5.mono ea30
    replace d6 := d6.mono ea30
    replace d7 := d7.mono ea30
    replace d8 := d8.mono ea30
    replace d9 := d9.mono ea30
    replace d10 := d10.mono ea30
    replace d11 := d11.mono ea30
    replace d12 := d12.mono ea30
    replace d13 := d13.mono ea30
    replace d14 := d14.mono ea30
    replace d15 := d15.mono ea30
    replace eA := eA.trans ea30
    replace hbtk := fun x m => (hbtk x m).mono ea30
    walk_at "w"
    refine aLst.go ja30 (by show 1 ≤ 100000; decide) fun u16 Ga31 Ha31 _ ea31 ja31 hu16 => ?_
    replace hM5 := ea31 _ _ hM5
    replace hv16 := ea31 _ _ hv16
    replace d1 := d1.mono ea31
    replace d2 := d2.mono ea31
    replace d3 := d3.mono ea31
    replace d4 := d4.mono ea31
    replace d5 := d5.mono ea31
    replace d6 := d6.mono ea31
    replace d7 := d7.mono ea31
    replace d8 := d8.mono ea31
    replace d9 := d9.mono ea31
    replace d10 := d10.mono ea31
    replace d11 := d11.mono ea31
    replace d12 := d12.mono ea31
    replace d13 := d13.mono ea31
    replace d14 := d14.mono ea31
    replace d15 := d15.mono ea31
    replace eA := eA.trans ea31
    replace hbtk := fun x m => (hbtk x m).mono ea31
    walk_at "w"
    refine aTup.go ja31 (by show 3 ≤ 100000; decide) fun t16 Ga32 Ha32 _ ea32 ja32 ht16 => ?_
    replace hM5 := ea32 _ _ hM5
    replace hv16 := ea32 _ _ hv16
    replace hu16 := ea32 _ _ hu16
    replace d1 := d1.mono ea32
    replace d2 := d2.mono ea32
    replace d3 := d3.mono ea32
    replace d4 := d4.mono ea32
    replace d5 := d5.mono ea32
    replace d6 := d6.mono ea32
    replace d7 := d7.mono ea32
    replace d8 := d8.mono ea32
    replace d9 := d9.mono ea32
    replace d10 := d10.mono ea32
    replace d11 := d11.mono ea32
    replace d12 := d12.mono ea32
    replace d13 := d13.mono ea32
    replace d14 := d14.mono ea32
    replace d15 := d15.mono ea32
    replace eA := eA.trans ea32
    replace hbtk := fun x m => (hbtk x m).mono ea32
    have d16 : DueT K Ga32 (.ref t16) := ⟨t16, _, _, rfl, ht16, .odd (.inl hu16) (show 1 < 64 by decide) (fun x hx => by obtain rfl := List.mem_singleton.mp hx; exact .kd (.lst hv16)) ⟨_, List.mem_singleton.mpr rfl, rfl⟩⟩
    clear ht16
    walk_at "w"
    refine aLst.go ja32 (by show 3 ≤ 100000; decide) fun M6 Ga33 Ha33 _ ea33 ja33 hM6 => ?_
    replace hM5 := ea33 _ _ hM5
    replace d1 := d1.mono ea33
    replace d2 := d2.mono ea33
    replace d3 := d3.mono ea33
    replace d4 := d4.mono ea33
    replace d5 := d5.mono ea33
    replace d6 := d6.mono ea33
    replace d7 := d7.mono ea33
    replace d8 := d8.mono ea33
    replace d9 := d9.mono ea33
    replace d10 := d10.mono ea33
    replace d11 := d11.mono ea33
    replace d12 := d12.mono ea33
    replace d13 := d13.mono ea33
    replace d14 := d14.mono ea33
    replace d15 := d15.mono ea33
    replace d16 := d16.mono ea33
    replace eA := eA.trans ea33
    replace hbtk := fun x m => (hbtk x m).mono ea33
    walk_at "w"
    refine cat_out ja33 hM5 hM6 (by show 13 + 3 < 100000; decide) fun M7 Ga34 Ha34 ea34 ja34 _ hM7 => ?_
    replace hM5 := ea34 _ _ hM5
    replace hM6 := ea34 _ _ hM6
    replace d1 := d1.mono ea34
    replace d2 := d2.mono ea34
    replace d3 := d3.mono ea34
    replace d4 := d4.mono ea34
    replace d5 := d5.mono ea34
    replace d6 := d6.mono ea34
    replace d7 := d7.mono ea34
    replace d8 := d8.mono ea34
    replace d9 := d9.mono ea34
    replace d10 := d10.mono ea34
    replace d11 := d11.mono ea34
    replace d12 := d12.mono ea34
    replace d13 := d13.mono ea34
    replace d14 := d14.mono ea34
    replace d15 := d15.mono ea34
    replace d16 := d16.mono ea34
    replace eA := eA.trans ea34
    replace hbtk := fun x m => (hbtk x m).mono ea34
    walk_at "w"
    refine q M7 _ Ga34 P4 _ eA ja34 hP4 hM7 fun x hx => ?_
    simp only [List.cons_append, List.nil_append, List.mem_cons, List.not_mem_nil, or_false] at hx
    rcases hx with rfl | rfl | rfl | rfl | rfl | rfl | rfl | rfl | rfl | rfl | rfl | rfl | rfl | rfl | rfl | rfl
    · exact d1
    · exact d2
    · exact d3
    · exact d4
    · exact d5
    · exact d6
    · exact d7
    · exact d8
    · exact d9
    · exact d10
    · exact d11
    · exact d12
    · exact d13
    · exact d14
    · exact d15
    · exact d16
end X

namespace X
open PySem PySem.Spec PyProof.Rows L2 Lv
variable {P : Program} {w : World} {K : PySem.W.Frag} {mg : Str → Option Value} {base : Heap}
def DueP (K : PySem.W.Frag) (G : Hp) (x : V) : Prop := ∃ (t : Addr) (v u : V) (z : Str), x = .ref t ∧ G t = some (.tup [v, u, .str z]) ∧ KdL K G v ∧ KdL K G u ∧ ((EvOkV v u ∧ z = "told") ∨ (¬ EvOkV v u ∧ z = "number"))
theorem DueP.mono {G G' : Hp} {x : V} (e : Ex G G') (h : DueP K G x) : DueP K G' x := by
  obtain ⟨t, v, u, z, h1, h2, h3, h4, h5⟩ := h
  exact ⟨t, v, u, z, h1, e _ _ h2, h3.mono e, h4.mono e, h5⟩
theorem ev_yes {st r : Int} (h1 : 1 ≤ st) (h2 : st ≤ 4000) (h3 : 0 ≤ r) (h4 : r ≤ st - 1) : EvOkV (.int st) (.int r) := ⟨decide_eq_true ⟨h1, h2⟩, st, rfl, decide_eq_true ⟨h3, h4⟩⟩
theorem ev_no {st r : Int} (h : ¬ (1 ≤ st ∧ st ≤ 4000 ∧ 0 ≤ r ∧ r ≤ st - 1)) : ¬ EvOkV (.int st) (.int r) := fun ⟨h1, st', e, h2⟩ => by
  obtain rfl := V.int.inj e
  have h3 := of_decide_eq_true h1
  have h4 := of_decide_eq_true h2
  exact h ⟨h3.1, h3.2, h4.1, h4.2⟩
theorem good0 {G : Hp} {v u : V} (h : Good G 0 v u) : EvOkV v u := by
  rcases h with ⟨_, h⟩ | ⟨h, _⟩ | ⟨h, _⟩ | ⟨h, _⟩
  · exact h
  · exact absurd h (by decide)
  · exact absurd h (by decide)
  · exact absurd h (by decide)
theorem good1 {G : Hp} {v u : V} (h : Good G 1 v u) : LoOk G v := by
  rcases h with ⟨h, _⟩ | ⟨_, h⟩ | ⟨h, _⟩ | ⟨h, _⟩
  · exact absurd h (by decide)
  · exact h
  · exact absurd h (by decide)
  · exact absurd h (by decide)
theorem goodk {G : Hp} {k : Int} {v u : V} (hk : k = 2 ∨ k = 3 ∨ k = 4) : Good G k v u ↔ isI v = true := by
  constructor
  · rintro (⟨h, _⟩ | ⟨h, _⟩ | ⟨_, h⟩ | ⟨h, _⟩)
    · omega
    · omega
    · exact h
    · omega
  · intro h
    exact .inr (.inr (.inl ⟨hk, h⟩))
theorem good5 {G : Hp} {v u : V} : Good G 5 v u ↔ isI v = true ∧ isI u = true := by
  constructor
  · rintro (⟨h, _⟩ | ⟨h, _⟩ | ⟨h, _⟩ | ⟨_, h⟩)
    · exact absurd h (by decide)
    · exact absurd h (by decide)
    · exact absurd h (by decide)
    · exact h
  · intro h
    exact .inr (.inr (.inr ⟨rfl, h⟩))
theorem ev_noL {v u : V} (h : isI v = false) : ¬ EvOkV v u := fun ⟨h1, _⟩ => by rw [inB_I h] at h1; cases h1
theorem ev_noR {v u : V} (h : isI u = false) : ¬ EvOkV v u := fun ⟨_, st, _, h1⟩ => by rw [inB_I h] at h1; cases h1
def sp_law (K : PySem.W.Frag) : Sp := fun vs H Q _ => ∃ (a : Addr) (ns : List Int), vs = [.ref a] ∧ SqL K H a (ns.map V.int) ∧ ns.length ≤ 63 ∧ ∀ H', Q (.bl true) H'
theorem sc_law : FnScope ["_law_script", "_law_pot_here", "_law_turn", "_law_lot_here", "_law_six_here", "_law_odd", "_law_step", "_law_rest", "_law_some", "_law_number", "_law_kind", "_law_one", "_law_other", "_law_due", "_law_thing"] ["_law_script"] (defScope s_law) := ⟨rfl, rfl, rfl, by decide +kernel, rfl, by decide +kernel, by decide +kernel⟩
theorem ok_law (T : Txt K mg) {fd_l_pot : FuncData} (G_l_pot : Dn P w K mg base (L2.CX P w) 1 "_law_pot" ["_law_script"] (spPot K) fd_l_pot) {fd_l_lot_parts : FuncData} (G_l_lot_parts : Dn P w K mg base (L2.CX P w) 2 "_law_lot_parts" ["_law_pot_here", "_law_great"] (spLotLP K) fd_l_lot_parts) {fd_l_lot : FuncData} (G_l_lot : Dn P w K mg base (L2.CX P w) 7 "_law_lot" ["_law_parts"] (spLot K) fd_l_lot) {fd_l_six : FuncData} (G_l_six : Dn P w K mg base (L2.CX P w) 1 "_law_six" ["_law_lot_here"] (spTold K) fd_l_six) {fd_l_deep : FuncData} (G_l_deep : Dn P w K mg base (L2.CX P w) 3 "_law_deep" ["_law_pot_here"] (spDeep K) fd_l_deep) {fd_l_any : FuncData} (G_l_any : Dn P w K mg base (L2.CX P w) 2 "_law_any" ["_law_pot_here", "_law_items"] (spAny K) fd_l_any) {fd_l_draw : FuncData} (G_l_draw : Dn P w K mg base (L2.CX P w) 1 "_law_draw" ["_law_pot_here", "_law_many"] spDraw fd_l_draw) {fd_l_word : FuncData} (G_l_word : Dn P w K mg base (L2.CX P w) 11 "_law_word" ["_law_kind", "_law_lot_here", "_law_one", "_law_other"] (spWord K) fd_l_word) {fd_l_lists : FuncData} (G_l_lists : Dn P w K mg base (L2.CX P w) 10 "_law_lists" ["_law_pot_here", "_law_odd"] (spLists K) fd_l_lists) {fd_many_in : FuncData} (G_many_in : Dn P w K mg base (L2.CX P w) 4 "many_in" ["lot", "one", "other"] (spManX K) fd_many_in) : ∃ fd, Dn P w K mg base CX0 13 "law" ["_law_script"] (sp_law K) fd := by
  obtain ⟨fd, F⟩ := T.d_law
  refine ⟨fd, F.ok sc_law (fun vs H Q E h => ?_) (fun cdv A outer s H vs Q E hr h => ?_), T.g_law, F.kp, F.bindsN fun _ _ _ _ _ _ us hl => match us, hl with | [_], _ => rfl, Lv.fun_lk F⟩
  · obtain ⟨_, _, rfl, _⟩ := h
    rfl
  · have hu := hu_of hr
    have hr_l_pot : Room 1 _ := hr.mono (by decide)
    have hr_l_lot_parts : Room 2 _ := hr.mono (by decide)
    have hr_l_lot : Room 7 _ := hr.mono (by decide)
    have hr_l_six : Room 1 _ := hr.mono (by decide)
    have hr_l_deep : Room 3 _ := hr.mono (by decide)
    have hr_l_any : Room 2 _ := hr.mono (by decide)
    have hr_l_draw : Room 1 _ := hr.mono (by decide)
    have hr_l_word : Room 11 _ := hr.mono (by decide)
    have hr_l_lists : Room 10 _ := hr.mono (by decide)
    have hr_many_in : Room 4 _ := hr.mono (by decide)
    refine ⟨_, PSs.nox (pss_cons (ps_set (i := 1) sc_law.nd rfl (Or.inl rfl) (pe_call G_l_pot.ok hr_l_pot rfl G_l_pot.mg G_l_pot.kp G_l_pot.b .nil passL (pa_cons (pv 0) pa_nil)))
      (pss_cons (ps_for PassesOwn.never rfl (pi_range1 (by rfl) T.n_range (pa_cons pe_int pa_nil)) (pg_name (i := 2) sc_law.nd rfl (Or.inl rfl)) (pss_cons (ps_set (i := 3) sc_law.nd rfl (Or.inl rfl) (pe_call G_l_lot.ok hr_l_lot rfl G_l_lot.mg G_l_lot.kp G_l_lot.b .nil passL (pa_cons (pe_call G_l_lot_parts.ok hr_l_lot_parts rfl G_l_lot_parts.mg G_l_lot_parts.kp G_l_lot_parts.b .nil passL (pa_cons (pv 1) (pa_cons pe_bl pa_nil))) pa_nil)))
      (pss_cons (ps_set (i := 4) sc_law.nd rfl (Or.inl rfl) (pe_call G_l_six.ok hr_l_six rfl G_l_six.mg G_l_six.kp G_l_six.b .nil passL (pa_cons (pv 3) pa_nil)))
      (pss_cons (ps_set (i := 5) sc_law.nd rfl (Or.inl rfl) (pe_call G_l_any.ok hr_l_any rfl G_l_any.mg G_l_any.kp G_l_any.b .nil passL (pa_cons (pv 1) (pa_cons (pe_tup (pa_cons pe_non (pa_cons pe_bl (pa_cons pe_bl (pa_cons pe_str (pa_cons (pe_tup (pa_cons pe_str pa_nil)) (pa_cons (pe_lst (pa_cons pe_int pa_nil)) (pa_cons pe_dnewK (pa_cons (pe_call G_l_deep.ok hr_l_deep rfl G_l_deep.mg G_l_deep.kp G_l_deep.b .nil passL (pa_cons (pv 1) pa_nil)) (pa_cons (pe_tup (pa_cons pe_int pa_nil)) (pa_cons (pv 3) pa_nil))))))))))) pa_nil))))
      (pss_cons (ps_set (i := 6) sc_law.nd rfl (Or.inl rfl) (pe_op op_add pe_int (pe_call G_l_draw.ok hr_l_draw rfl G_l_draw.mg G_l_draw.kp G_l_draw.b .nil passL (pa_cons (pv 1) (pa_cons pe_int pa_nil)))))
      (pss_cons (ps_set (i := 7) sc_law.nd rfl (Or.inl rfl) (pe_call G_l_draw.ok hr_l_draw rfl G_l_draw.mg G_l_draw.kp G_l_draw.b .nil passL (pa_cons (pv 1) (pa_cons (pv 6) pa_nil))))
      (pss_cons (ps_set (i := 8) sc_law.nd rfl (Or.inl rfl) (pe_lst (pa_cons (pe_tup (pa_cons (pv 6) (pa_cons (pv 7) (pa_cons pe_str pa_nil)))) (pa_cons (pe_tup (pa_cons (pv 6) (pa_cons (pv 6) (pa_cons pe_str pa_nil)))) (pa_cons (pe_tup (pa_cons (pv 6) (pa_cons (pe_un un_neg pe_int) (pa_cons pe_str pa_nil)))) (pa_cons (pe_tup (pa_cons (pv 6) (pa_cons (pv 5) (pa_cons pe_str pa_nil)))) (pa_cons (pe_tup (pa_cons (pv 5) (pa_cons (pv 7) (pa_cons pe_str pa_nil)))) pa_nil)))))))
      (pss_cons (ps_set (i := 8) sc_law.nd rfl (Or.inl rfl) (pe_op op_cat (pv 8) (pe_lst (pa_cons (pe_tup (pa_cons pe_int (pa_cons pe_int (pa_cons pe_str pa_nil)))) (pa_cons (pe_tup (pa_cons pe_int (pa_cons pe_int (pa_cons pe_str pa_nil)))) (pa_cons (pe_tup (pa_cons pe_int (pa_cons pe_int (pa_cons pe_str pa_nil)))) (pa_cons (pe_tup (pa_cons pe_int (pa_cons pe_int (pa_cons pe_str pa_nil)))) (pa_cons (pe_tup (pa_cons pe_int (pa_cons pe_int (pa_cons pe_str pa_nil)))) (pa_cons (pe_tup (pa_cons (pv 5) (pa_cons (pv 5) (pa_cons pe_str pa_nil)))) pa_nil)))))))))
      (pss_cons (ps_set (i := 8) sc_law.nd rfl (Or.inl rfl) (pe_op op_cat (pv 8) (pe_lst (pa_cons (pe_tup (pa_cons (pe_un un_neg pe_int) (pa_cons pe_int (pa_cons pe_str pa_nil)))) (pa_cons (pe_tup (pa_cons (pe_op op_pow pe_int pe_int) (pa_cons pe_int (pa_cons pe_str pa_nil)))) (pa_cons (pe_tup (pa_cons (pv 6) (pa_cons (pe_op op_sub (pv 6) pe_int) (pa_cons pe_str pa_nil)))) (pa_cons (pe_tup (pa_cons (pv 6) (pa_cons pe_int (pa_cons pe_str pa_nil)))) (pa_cons (pe_tup (pa_cons pe_int (pa_cons pe_bl (pa_cons pe_str pa_nil)))) pa_nil))))))))
      (pss_cons (ps_for PassesOwn.never rfl (pi_list (pv 8)) (pg_tup rfl (pgs_cons (pg_name (i := 11) sc_law.nd rfl (Or.inl rfl)) (pgs_cons (pg_name (i := 12) sc_law.nd rfl (Or.inl rfl)) (pgs_cons (pg_name (i := 13) sc_law.nd rfl (Or.inl rfl)) pgs_nil)))) (pss_one (ps_if (pt_cmpR op_ne (pe_call G_l_word.ok hr_l_word rfl G_l_word.mg G_l_word.kp G_l_word.b .nil passL (pa_cons pe_int (pa_cons (pv 3) (pa_cons (pv 11) (pa_cons (pv 12) pa_nil))))) (pv 13) (nomark _)) (pss_one (ps_ret pe_bl)) pss_nil)))
      (pss_cons (ps_for PassesOwn.never rfl (pi_list (pe_call G_l_lists.ok hr_l_lists rfl G_l_lists.mg G_l_lists.kp G_l_lists.b .nil passL (pa_cons (pv 1) (pa_cons (pv 5) pa_nil)))) (pg_tup rfl (pgs_cons (pg_name (i := 10) sc_law.nd rfl (Or.inl rfl)) (pgs_cons (pg_name (i := 14) sc_law.nd rfl (Or.inl rfl)) (pgs_cons (pg_name (i := 13) sc_law.nd rfl (Or.inl rfl)) pgs_nil)))) (pss_one (ps_if (pt_cmpR op_ne (pe_call G_l_word.ok hr_l_word rfl G_l_word.mg G_l_word.kp G_l_word.b .nil passL (pa_cons (pv 10) (pa_cons (pv 3) (pa_cons (pv 14) (pa_cons pe_non pa_nil))))) (pv 13) (nomark _)) (pss_one (ps_ret pe_bl)) pss_nil)))
      (pss_cons (ps_set (i := 9) sc_law.nd rfl (Or.inl rfl) (pe_call G_l_any.ok hr_l_any rfl G_l_any.mg G_l_any.kp G_l_any.b .nil passL (pa_cons (pv 1) (pa_cons (pe_tup (pa_cons pe_int (pa_cons (pe_op op_pow pe_int pe_int) (pa_cons (pe_op op_sub pe_int (pe_op op_pow pe_int pe_int)) (pa_cons (pe_op op_sub pe_int (pe_call G_l_draw.ok hr_l_draw rfl G_l_draw.mg G_l_draw.kp G_l_draw.b .nil passL (pa_cons (pv 1) (pa_cons pe_int pa_nil)))) pa_nil))))) pa_nil))))
      (pss_cons (ps_for PassesOwn.never rfl (pi_tup (pe_tup (pa_cons pe_int (pa_cons pe_int (pa_cons pe_int pa_nil))))) (pg_name (i := 10) sc_law.nd rfl (Or.inl rfl)) (pss_one (ps_if (PW.pt (pw_or (pt_cmpR op_ne (pe_call G_l_word.ok hr_l_word rfl G_l_word.mg G_l_word.kp G_l_word.b .nil passL (pa_cons (pv 10) (pa_cons (pv 3) (pa_cons (pv 5) (pa_cons pe_non pa_nil))))) pe_str (nomark _)) (pw_or1 (pt_cmpR op_ne (pe_call G_l_word.ok hr_l_word rfl G_l_word.mg G_l_word.kp G_l_word.b .nil passL (pa_cons (pv 10) (pa_cons (pv 3) (pa_cons (pv 9) (pa_cons pe_non pa_nil))))) pe_str (nomark _))))) (pss_one (ps_ret pe_bl)) pss_nil)))
      (pss_cons (ps_for PassesOwn.never rfl (pi_tup (pe_tup (pa_cons (pe_tup (pa_cons (pv 5) (pa_cons (pv 5) (pa_cons pe_str pa_nil)))) (pa_cons (pe_tup (pa_cons (pv 5) (pa_cons (pv 9) (pa_cons pe_str pa_nil)))) (pa_cons (pe_tup (pa_cons (pv 9) (pa_cons (pv 5) (pa_cons pe_str pa_nil)))) (pa_cons (pe_tup (pa_cons (pv 9) (pa_cons pe_int (pa_cons pe_str pa_nil)))) pa_nil)))))) (pg_tup rfl (pgs_cons (pg_name (i := 11) sc_law.nd rfl (Or.inl rfl)) (pgs_cons (pg_name (i := 12) sc_law.nd rfl (Or.inl rfl)) (pgs_cons (pg_name (i := 13) sc_law.nd rfl (Or.inl rfl)) pgs_nil)))) (pss_one (ps_if (pt_cmpR op_ne (pe_call G_l_word.ok hr_l_word rfl G_l_word.mg G_l_word.kp G_l_word.b .nil passL (pa_cons pe_int (pa_cons (pv 3) (pa_cons (pv 11) (pa_cons (pv 12) pa_nil))))) (pv 13) (nomark _)) (pss_one (ps_ret pe_bl)) pss_nil)))
      (pss_one (ps_if (PW.pt (pw_or (pt_cmpR op_ne (pe_call G_many_in.ok hr_many_in rfl G_many_in.mg G_many_in.kp G_many_in.b .nil passL (pa_cons (pv 3) (pa_cons (pv 9) (pa_cons (pv 9) pa_nil)))) pe_int (nomark _)) (pw_or1 (pt_cmpR (op_neD hr.units) (pe_call G_l_six.ok hr_l_six rfl G_l_six.mg G_l_six.kp G_l_six.b .nil passL (pa_cons (pv 3) pa_nil)) (pv 4) (nomark _))))) (pss_one (ps_ret pe_bl)) pss_nil))))))))))))))))
      (pss_one (ps_ret pe_bl)))), ?_⟩
    obtain ⟨a, ns, rfl, hS, hl, k⟩ := h
    walk_at "w"
    refine ⟨a, ns, rfl, hS, hl, fun l G P0 H1 e0 j hP => ?_⟩
    clear hS
    walk_at "w"
    refine aForR.go (n := 2) rfl (by decide) (fun i G' P' σ' => Pot P' l ∧ ∃ (s2 s3 s4 s5 s6 s7 s8 s9 s10 s11 s12 s13 s14 : Option V), σ' = [some (.ref a), some (.ref l), s2, s3, s4, s5, s6, s7, s8, s9, s10, s11, s12, s13, s14]) j ⟨hP, _, _, _, _, _, _, _, _, _, _, _, _, _, rfl⟩ ?_ ?_
    rotate_left
    · rintro G P0 H2 σ' j ⟨hP, s2, s3, s4, s5, s6, s7, s8, s9, s10, s11, s12, s13, s14, rfl⟩
      walk_at "w"
      exact k _
    clear j hP e0
    rintro i G P0 H2 σ' hi j ⟨hP, s2, s3, s4, s5, s6, s7, s8, s9, s10, s11, s12, s13, s14, rfl⟩
    walk_at "w"
    refine ⟨l, false, G, P0, rfl, j, hP, fun T0 t0 G1 P1 H3 hT0 b1 b2 b3 _ b5 e1 j1 hP1 ht0 => ?_⟩
    have w0 := hT0.h1
    walk_at "w"
    refine ⟨t0, T0, G1, P1, rfl, j1, ht0, hT0, by omega, fun x L G2 H4 e2 j2 hL lL hLT hx => ?_⟩
    walk_at "w"
    refine ⟨x, L, G2, P1, rfl, j2, hx.at, fun u1 G3 H5 e3 j3 hu1 => ?_⟩
    replace hx := hx.mono e3
    clear hT0 ht0 lL hLT w0 b1 b2 b3 b5 e1 e2 e3 j j1 j2
    walk_at "w"
    refine aTup.go j3 (by show 1 ≤ 100000; decide) fun c1 G4 H6 _ e4 j4 hc1 => ?_
    replace hx := hx.mono e4; replace hu1 := hu1.mono e4
    walk_at "w"
    refine aLst.go j4 (by show 1 ≤ 100000; decide) fun c2 G5 H7 _ e5 j5 hc2 => ?_
    replace hc1 := e5 _ _ hc1; replace hx := hx.mono e5; replace hu1 := hu1.mono e5
    walk_at "w"
    refine aDNew.go j5 fun c3 G6 H8 _ e6 j6 hc3 => ?_
    replace hc1 := e6 _ _ hc1; replace hc2 := e6 _ _ hc2; replace hx := hx.mono e6; replace hu1 := hu1.mono e6
    walk_at "w"
    refine ⟨l, G6, P1, rfl, j6, hP1, fun dv G7 P2 H9 hdk hdi e7 j7 hP2 => ?_⟩
    replace hc1 := e7 _ _ hc1; replace hc2 := e7 _ _ hc2; replace hc3 := e7 _ _ hc3; replace hx := hx.mono e7; replace hu1 := hu1.mono e7
    walk_at "w"
    refine aTup.go j7 (by show 1 ≤ 100000; decide) fun c4 G8 H10 _ e8 j8 hc4 => ?_
    replace hc1 := e8 _ _ hc1; replace hc2 := e8 _ _ hc2; replace hc3 := e8 _ _ hc3; replace hx := hx.mono e8; replace hu1 := hu1.mono e8; replace hdk := hdk.mono e8
    walk_at "w"
    refine aTup.go j8 (by show 10 ≤ 100000; decide) fun c5 G9 H11 _ e9 j9 hc5 => ?_
    replace hc1 := e9 _ _ hc1; replace hc2 := e9 _ _ hc2; replace hc3 := e9 _ _ hc3; replace hc4 := e9 _ _ hc4; replace hx := hx.mono e9; replace hu1 := hu1.mono e9; replace hdk := hdk.mono e9
    walk_at "w"
    refine ⟨l, c5, _, G9, P2, rfl, j9, hP2, sqT hc5, by show 0 < 10; decide, by show 10 ≤ 1000; decide, fun ix od P3 H12 hod j10 hP3 => ?_⟩
    obtain ⟨hok, hoi⟩ : KdL K G9 od ∧ isI od = false := by
      have hm := List.mem_of_getElem? hod
      obtain ⟨dxx, ta1, ta2, ta3, ta4, ta5, ta6, hC, hxx, _⟩ := id hx
      simp only [List.mem_cons, List.not_mem_nil, or_false] at hm
      rcases hm with rfl | rfl | rfl | rfl | rfl | rfl | rfl | rfl | rfl | rfl
      · exact ⟨.kd .non, rfl⟩
      · exact ⟨.kd (.bl _), rfl⟩
      · exact ⟨.kd (.bl _), rfl⟩
      · exact ⟨.kd (.str _), rfl⟩
      · exact ⟨.kd (.tup hc1), rfl⟩
      · exact ⟨.kd (.lst hc2), rfl⟩
      · exact ⟨.kd (.dic hc3), rfl⟩
      · exact ⟨.kd hdk, hdi⟩
      · exact ⟨.kd (.tup hc4), rfl⟩
      · exact ⟨.lot hC hxx, rfl⟩
    clear hc1 hc2 hc3 hc4 hc5 hdk hdi hod e4 e5 e6 e7 e8 e9 j3 j4 j5 j6 j7 j8 j9 hP1 hP2
    walk_at "w"
    refine ⟨l, 4000, G9, P3, rfl, j10, hP3, by decide, by decide, fun d P4 H13 d0 d1 j11 hP4 => ?_⟩
    walk_at "w"
    obtain ⟨st, hst⟩ : ∃ st, 1 + d = st := ⟨_, rfl⟩
    rw [hst]
    have s1 : 1 ≤ st := by omega
    have s2 : st ≤ 4000 := by omega
    refine ⟨l, st, G9, P4, rfl, j11, hP4, by omega, Int.lt_of_le_of_lt s2 (by decide), fun r P5 H14 r1 r2 j12 hP5 => ?_⟩
    clear hst d0 d1 j10 j11 hP3 hP4
    walk_at "w"
    refine aTup.go j12 (by show 3 ≤ 100000; decide) fun t1 Ga1 Ha1 _ ea1 ja1 ht1 => ?_
    replace hok := hok.mono ea1
    replace hx := hx.mono ea1
    replace hu1 := hu1.mono ea1
    clear ea1
    have d1 : DueP K Ga1 (.ref t1) := ⟨t1, _, _, _, rfl, ht1, .kd (.int _), .kd (.int _), .inl ⟨ev_yes (by omega) (by omega) (by omega) (by omega), rfl⟩⟩
    clear ht1
    walk_at "w"
    refine aTup.go ja1 (by show 3 ≤ 100000; decide) fun t2 Ga2 Ha2 _ ea2 ja2 ht2 => ?_
    replace d1 := d1.mono ea2
    replace hok := hok.mono ea2
    replace hx := hx.mono ea2
    replace hu1 := hu1.mono ea2
    clear ea2
    have d2 : DueP K Ga2 (.ref t2) := ⟨t2, _, _, _, rfl, ht2, .kd (.int _), .kd (.int _), .inr ⟨ev_no (by omega), rfl⟩⟩
    clear ht2
    walk_at "w"
    refine aTup.go ja2 (by show 3 ≤ 100000; decide) fun t3 Ga3 Ha3 _ ea3 ja3 ht3 => ?_
    replace d1 := d1.mono ea3
    replace d2 := d2.mono ea3
    replace hok := hok.mono ea3
    replace hx := hx.mono ea3
    replace hu1 := hu1.mono ea3
    clear ea3
    have d3 : DueP K Ga3 (.ref t3) := ⟨t3, _, _, _, rfl, ht3, .kd (.int _), .kd (.int _), .inr ⟨ev_no (by omega), rfl⟩⟩
    clear ht3
    walk_at "w"
    refine aTup.go ja3 (by show 3 ≤ 100000; decide) fun t4 Ga4 Ha4 _ ea4 ja4 ht4 => ?_
    replace d1 := d1.mono ea4
    replace d2 := d2.mono ea4
    replace d3 := d3.mono ea4
    replace hok := hok.mono ea4
    replace hx := hx.mono ea4
    replace hu1 := hu1.mono ea4
    clear ea4
    have d4 : DueP K Ga4 (.ref t4) := ⟨t4, _, _, _, rfl, ht4, .kd (.int _), hok, .inr ⟨ev_noR hoi, rfl⟩⟩
    clear ht4
    walk_at "w"
    refine aTup.go ja4 (by show 3 ≤ 100000; decide) fun t5 Ga5 Ha5 _ ea5 ja5 ht5 => ?_
    replace d1 := d1.mono ea5
    replace d2 := d2.mono ea5
    replace d3 := d3.mono ea5
    replace d4 := d4.mono ea5
    replace hok := hok.mono ea5
    replace hx := hx.mono ea5
    replace hu1 := hu1.mono ea5
    clear ea5
    have d5 : DueP K Ga5 (.ref t5) := ⟨t5, _, _, _, rfl, ht5, hok, .kd (.int _), .inr ⟨ev_noL hoi, rfl⟩⟩
    clear ht5
    walk_at "w"
    refine aLst.go ja5 (by show 5 ≤ 100000; decide) fun A1 Ga6 Ha6 _ ea6 ja6 hA1 => ?_
    replace d1 := d1.mono ea6
    replace d2 := d2.mono ea6
    replace d3 := d3.mono ea6
    replace d4 := d4.mono ea6
    replace d5 := d5.mono ea6
    replace hok := hok.mono ea6
    replace hx := hx.mono ea6
    replace hu1 := hu1.mono ea6
    clear ea6
    walk_at "w"
    refine aTup.go ja6 (by show 3 ≤ 100000; decide) fun t6 Ga7 Ha7 _ ea7 ja7 ht6 => ?_
    replace hA1 := ea7 _ _ hA1
    replace d1 := d1.mono ea7
    replace d2 := d2.mono ea7
    replace d3 := d3.mono ea7
    replace d4 := d4.mono ea7
    replace d5 := d5.mono ea7
    replace hok := hok.mono ea7
    replace hx := hx.mono ea7
    replace hu1 := hu1.mono ea7
    clear ea7
    have d6 : DueP K Ga7 (.ref t6) := ⟨t6, _, _, _, rfl, ht6, .kd (.int _), .kd (.int _), .inr ⟨ev_no (by omega), rfl⟩⟩
    clear ht6
    walk_at "w"
    refine aTup.go ja7 (by show 3 ≤ 100000; decide) fun t7 Ga8 Ha8 _ ea8 ja8 ht7 => ?_
    replace hA1 := ea8 _ _ hA1
    replace d1 := d1.mono ea8
    replace d2 := d2.mono ea8
    replace d3 := d3.mono ea8
    replace d4 := d4.mono ea8
    replace d5 := d5.mono ea8
    replace d6 := d6.mono ea8
    replace hok := hok.mono ea8
    replace hx := hx.mono ea8
    replace hu1 := hu1.mono ea8
    clear ea8
    have d7 : DueP K Ga8 (.ref t7) := ⟨t7, _, _, _, rfl, ht7, .kd (.int _), .kd (.int _), .inr ⟨ev_no (by omega), rfl⟩⟩
    clear ht7
    walk_at "w"
    refine aTup.go ja8 (by show 3 ≤ 100000; decide) fun t8 Ga9 Ha9 _ ea9 ja9 ht8 => ?_
    replace hA1 := ea9 _ _ hA1
    replace d1 := d1.mono ea9
    replace d2 := d2.mono ea9
    replace d3 := d3.mono ea9
    replace d4 := d4.mono ea9
    replace d5 := d5.mono ea9
    replace d6 := d6.mono ea9
    replace d7 := d7.mono ea9
    replace hok := hok.mono ea9
    replace hx := hx.mono ea9
    replace hu1 := hu1.mono ea9
    clear ea9
    have d8 : DueP K Ga9 (.ref t8) := ⟨t8, _, _, _, rfl, ht8, .kd (.int _), .kd (.int _), .inl ⟨ev_yes (by omega) (by omega) (by omega) (by omega), rfl⟩⟩
    clear ht8
    walk_at "w"
    refine aTup.go ja9 (by show 3 ≤ 100000; decide) fun t9 Ga10 Ha10 _ ea10 ja10 ht9 => ?_
    replace hA1 := ea10 _ _ hA1
    replace d1 := d1.mono ea10
    replace d2 := d2.mono ea10
    replace d3 := d3.mono ea10
    replace d4 := d4.mono ea10
    replace d5 := d5.mono ea10
    replace d6 := d6.mono ea10
    replace d7 := d7.mono ea10
    replace d8 := d8.mono ea10
    replace hok := hok.mono ea10
    replace hx := hx.mono ea10
    replace hu1 := hu1.mono ea10
    clear ea10
    have d9 : DueP K Ga10 (.ref t9) := ⟨t9, _, _, _, rfl, ht9, .kd (.int _), .kd (.int _), .inl ⟨ev_yes (by omega) (by omega) (by omega) (by omega), rfl⟩⟩
    clear ht9
    walk_at "w"
    refine aTup.go ja10 (by show 3 ≤ 100000; decide) fun t10 Ga11 Ha11 _ ea11 ja11 ht10 => ?_
    replace hA1 := ea11 _ _ hA1
    replace d1 := d1.mono ea11
    replace d2 := d2.mono ea11
    replace d3 := d3.mono ea11
    replace d4 := d4.mono ea11
    replace d5 := d5.mono ea11
    replace d6 := d6.mono ea11
    replace d7 := d7.mono ea11
    replace d8 := d8.mono ea11
    replace d9 := d9.mono ea11
    replace hok := hok.mono ea11
    replace hx := hx.mono ea11
    replace hu1 := hu1.mono ea11
    clear ea11
    have d10 : DueP K Ga11 (.ref t10) := ⟨t10, _, _, _, rfl, ht10, .kd (.int _), .kd (.int _), .inr ⟨ev_no (by omega), rfl⟩⟩
    clear ht10
    walk_at "w"
    refine aTup.go ja11 (by show 3 ≤ 100000; decide) fun t11 Ga12 Ha12 _ ea12 ja12 ht11 => ?_
    replace hA1 := ea12 _ _ hA1
    replace d1 := d1.mono ea12
    replace d2 := d2.mono ea12
    replace d3 := d3.mono ea12
    replace d4 := d4.mono ea12
    replace d5 := d5.mono ea12
    replace d6 := d6.mono ea12
    replace d7 := d7.mono ea12
    replace d8 := d8.mono ea12
    replace d9 := d9.mono ea12
    replace d10 := d10.mono ea12
    replace hok := hok.mono ea12
    replace hx := hx.mono ea12
    replace hu1 := hu1.mono ea12
    clear ea12
    have d11 : DueP K Ga12 (.ref t11) := ⟨t11, _, _, _, rfl, ht11, hok, hok, .inr ⟨ev_noL hoi, rfl⟩⟩
    clear ht11
    walk_at "w"
    refine aLst.go ja12 (by show 6 ≤ 100000; decide) fun A2 Ga13 Ha13 _ ea13 ja13 hA2 => ?_
    replace hA1 := ea13 _ _ hA1
    replace d1 := d1.mono ea13
    replace d2 := d2.mono ea13
    replace d3 := d3.mono ea13
    replace d4 := d4.mono ea13
    replace d5 := d5.mono ea13
    replace d6 := d6.mono ea13
    replace d7 := d7.mono ea13
    replace d8 := d8.mono ea13
    replace d9 := d9.mono ea13
    replace d10 := d10.mono ea13
    replace d11 := d11.mono ea13
    replace hok := hok.mono ea13
    replace hx := hx.mono ea13
    replace hu1 := hu1.mono ea13
    clear ea13
    walk_at "w"
    refine cat_out ja13 hA1 hA2 (by show 5 + 6 < 100000; decide) fun A3 Ga14 Ha14 ea14 ja14 _ hA3 => ?_
    replace hA1 := ea14 _ _ hA1
    replace hA2 := ea14 _ _ hA2
    replace d1 := d1.mono ea14
    replace d2 := d2.mono ea14
    replace d3 := d3.mono ea14
    replace d4 := d4.mono ea14
    replace d5 := d5.mono ea14
    replace d6 := d6.mono ea14
    replace d7 := d7.mono ea14
    replace d8 := d8.mono ea14
    replace d9 := d9.mono ea14
    replace d10 := d10.mono ea14
    replace d11 := d11.mono ea14
    replace hok := hok.mono ea14
    replace hx := hx.mono ea14
    replace hu1 := hu1.mono ea14
    clear ea14
    walk_at "w"
    refine aTup.go ja14 (by show 3 ≤ 100000; decide) fun t12 Ga15 Ha15 _ ea15 ja15 ht12 => ?_
    replace hA3 := ea15 _ _ hA3
    replace d1 := d1.mono ea15
    replace d2 := d2.mono ea15
    replace d3 := d3.mono ea15
    replace d4 := d4.mono ea15
    replace d5 := d5.mono ea15
    replace d6 := d6.mono ea15
    replace d7 := d7.mono ea15
    replace d8 := d8.mono ea15
    replace d9 := d9.mono ea15
    replace d10 := d10.mono ea15
    replace d11 := d11.mono ea15
    replace hok := hok.mono ea15
    replace hx := hx.mono ea15
    replace hu1 := hu1.mono ea15
    clear ea15
    have d12 : DueP K Ga15 (.ref t12) := ⟨t12, _, _, _, rfl, ht12, .kd (.int _), .kd (.int _), .inr ⟨ev_no (by omega), rfl⟩⟩
    clear ht12
    walk_at "w"
    refine w_rI ⟨by decide, by decide, by decide⟩ ?_
    rw [show (10 : Int) ^ (30 : Int).toNat = 1000000000000000000000000000000 by decide]
    walk_at "w"
    refine aTup.go ja15 (by show 3 ≤ 100000; decide) fun t13 Ga16 Ha16 _ ea16 ja16 ht13 => ?_
    replace hA3 := ea16 _ _ hA3
    replace d1 := d1.mono ea16
    replace d2 := d2.mono ea16
    replace d3 := d3.mono ea16
    replace d4 := d4.mono ea16
    replace d5 := d5.mono ea16
    replace d6 := d6.mono ea16
    replace d7 := d7.mono ea16
    replace d8 := d8.mono ea16
    replace d9 := d9.mono ea16
    replace d10 := d10.mono ea16
    replace d11 := d11.mono ea16
    replace d12 := d12.mono ea16
    replace hok := hok.mono ea16
    replace hx := hx.mono ea16
    replace hu1 := hu1.mono ea16
    clear ea16
    have d13 : DueP K Ga16 (.ref t13) := ⟨t13, _, _, _, rfl, ht13, .kd (.int _), .kd (.int _), .inr ⟨ev_no (by omega), rfl⟩⟩
    clear ht13
    walk_at "w"
    refine aTup.go ja16 (by show 3 ≤ 100000; decide) fun t14 Ga17 Ha17 _ ea17 ja17 ht14 => ?_
    replace hA3 := ea17 _ _ hA3
    replace d1 := d1.mono ea17
    replace d2 := d2.mono ea17
    replace d3 := d3.mono ea17
    replace d4 := d4.mono ea17
    replace d5 := d5.mono ea17
    replace d6 := d6.mono ea17
    replace d7 := d7.mono ea17
    replace d8 := d8.mono ea17
    replace d9 := d9.mono ea17
    replace d10 := d10.mono ea17
    replace d11 := d11.mono ea17
    replace d12 := d12.mono ea17
    replace d13 := d13.mono ea17
    replace hok := hok.mono ea17
    replace hx := hx.mono ea17
    replace hu1 := hu1.mono ea17
    clear ea17
    have d14 : DueP K Ga17 (.ref t14) := ⟨t14, _, _, _, rfl, ht14, .kd (.int _), .kd (.int _), .inl ⟨ev_yes (by omega) (by omega) (by omega) (by omega), rfl⟩⟩
    clear ht14
    walk_at "w"
    refine aTup.go ja17 (by show 3 ≤ 100000; decide) fun t15 Ga18 Ha18 _ ea18 ja18 ht15 => ?_
    replace hA3 := ea18 _ _ hA3
    replace d1 := d1.mono ea18
    replace d2 := d2.mono ea18
    replace d3 := d3.mono ea18
    replace d4 := d4.mono ea18
    replace d5 := d5.mono ea18
    replace d6 := d6.mono ea18
    replace d7 := d7.mono ea18
    replace d8 := d8.mono ea18
    replace d9 := d9.mono ea18
    replace d10 := d10.mono ea18
    replace d11 := d11.mono ea18
    replace d12 := d12.mono ea18
    replace d13 := d13.mono ea18
    replace d14 := d14.mono ea18
    replace hok := hok.mono ea18
    replace hx := hx.mono ea18
    replace hu1 := hu1.mono ea18
    clear ea18
    have d15 : DueP K Ga18 (.ref t15) := ⟨t15, _, _, _, rfl, ht15, .kd (.int _), .kd (.int _), .inl ⟨ev_yes (by omega) (by omega) (by omega) (by omega), rfl⟩⟩
    clear ht15
    walk_at "w"
    refine aTup.go ja18 (by show 3 ≤ 100000; decide) fun t16 Ga19 Ha19 _ ea19 ja19 ht16 => ?_
    replace hA3 := ea19 _ _ hA3
    replace d1 := d1.mono ea19
    replace d2 := d2.mono ea19
    replace d3 := d3.mono ea19
    replace d4 := d4.mono ea19
    replace d5 := d5.mono ea19
    replace d6 := d6.mono ea19
    replace d7 := d7.mono ea19
    replace d8 := d8.mono ea19
    replace d9 := d9.mono ea19
    replace d10 := d10.mono ea19
    replace d11 := d11.mono ea19
    replace d12 := d12.mono ea19
    replace d13 := d13.mono ea19
    replace d14 := d14.mono ea19
    replace d15 := d15.mono ea19
    replace hok := hok.mono ea19
    replace hx := hx.mono ea19
    replace hu1 := hu1.mono ea19
    clear ea19
    have d16 : DueP K Ga19 (.ref t16) := ⟨t16, _, _, _, rfl, ht16, .kd (.int _), .kd (.bl _), .inr ⟨ev_noR rfl, rfl⟩⟩
    clear ht16
    walk_at "w"
    refine aLst.go ja19 (by show 5 ≤ 100000; decide) fun A4 Ga20 Ha20 _ ea20 ja20 hA4 => ?_
    replace hA3 := ea20 _ _ hA3
    replace d1 := d1.mono ea20
    replace d2 := d2.mono ea20
    replace d3 := d3.mono ea20
    replace d4 := d4.mono ea20
    replace d5 := d5.mono ea20
    replace d6 := d6.mono ea20
    replace d7 := d7.mono ea20
    replace d8 := d8.mono ea20
    replace d9 := d9.mono ea20
    replace d10 := d10.mono ea20
    replace d11 := d11.mono ea20
    replace d12 := d12.mono ea20
    replace d13 := d13.mono ea20
    replace d14 := d14.mono ea20
    replace d15 := d15.mono ea20
    replace d16 := d16.mono ea20
    replace hok := hok.mono ea20
    replace hx := hx.mono ea20
    replace hu1 := hu1.mono ea20
    clear ea20
    walk_at "w"
    refine cat_out ja20 hA3 hA4 (by show 11 + 5 < 100000; decide) fun A5 Ga21 Ha21 ea21 ja21 _ hA5 => ?_
    replace hA3 := ea21 _ _ hA3
    replace hA4 := ea21 _ _ hA4
    replace d1 := d1.mono ea21
    replace d2 := d2.mono ea21
    replace d3 := d3.mono ea21
    replace d4 := d4.mono ea21
    replace d5 := d5.mono ea21
    replace d6 := d6.mono ea21
    replace d7 := d7.mono ea21
    replace d8 := d8.mono ea21
    replace d9 := d9.mono ea21
    replace d10 := d10.mono ea21
    replace d11 := d11.mono ea21
    replace d12 := d12.mono ea21
    replace d13 := d13.mono ea21
    replace d14 := d14.mono ea21
    replace d15 := d15.mono ea21
    replace d16 := d16.mono ea21
    replace hok := hok.mono ea21
    replace hx := hx.mono ea21
    replace hu1 := hu1.mono ea21
    clear ea21
    obtain ⟨xs, hA5, hall⟩ : ∃ xs, Ga21 A5 = some (.lst xs) ∧ ∀ z ∈ xs, DueP K Ga21 z := ⟨_, hA5, fun z hz => by
      simp only [List.cons_append, List.nil_append, List.mem_cons, List.not_mem_nil, or_false] at hz
      rcases hz with rfl | rfl | rfl | rfl | rfl | rfl | rfl | rfl | rfl | rfl | rfl | rfl | rfl | rfl | rfl | rfl
      · exact d1
      · exact d2
      · exact d3
      · exact d4
      · exact d5
      · exact d6
      · exact d7
      · exact d8
      · exact d9
      · exact d10
      · exact d11
      · exact d12
      · exact d13
      · exact d14
      · exact d15
      · exact d16⟩
    clear d1 d2 d3 d4 d5 d6 d7 d8 d9 d10 d11 d12 d13 d14 d15 d16
    clear j12 ja1 ja2 ja3 ja4 ja5 ja6 ja7 ja8 ja9 ja10 ja11 ja12 ja13 ja14 ja15 ja16 ja17 ja18 ja19 ja20
    walk_at "w"
    refine aForL.go (fun i' G' P' σ' => P' = P5 ∧ Ex Ga21 G' ∧ ∃ (s9 s10 s11 s12 s13 s14 : Option V), σ' = [some (.ref a), some (.ref l), some (.int i), some (.ref x), some (.ref u1), some od, some (.int st), some (.int r), some (.ref A5), s9, s10, s11, s12, s13, s14]) ja21 hA5 ⟨rfl, Ex.refl _, _, _, _, _, _, _, rfl⟩ (fun i' G' P' σ' h => h.2.1 _ _ hA5) ?_ ?_
    · rintro i' z G' P' H' σ' hz j' ⟨rfl, e', s9, s10, s11, s12, s13, s14, rfl⟩
      obtain ⟨t, v, u, zz, rfl, ht, hv, hu, hor⟩ := (hall z (List.mem_of_getElem? hz)).mono e'
      walk_at "w"
      refine ⟨0, x, L, v, u, G', P', rfl, j', (hx.mono e').at, hL, hv, hu, fun h => absurd h (by decide), by decide, by decide, fun hg G2 H2 e2 j2 => ?_, fun hg G2 H2 e2 j2 => ?_⟩
      · obtain rfl : zz = "told" := by
          rcases hor with ⟨_, h⟩ | ⟨hn, _⟩
          · exact h
          · exact (hn (good0 hg)).elim
        walk_at "w"
        refine itNF rfl ?_
        walk_at "w"
        exact ⟨G2, P', j2, rfl, e'.trans e2, _, _, _, _, _, _, rfl⟩
      · obtain rfl : zz = "number" := by
          rcases hor with ⟨hy, _⟩ | ⟨_, h⟩
          · exact (hg (.inl ⟨rfl, hy⟩)).elim
          · exact h
        rw [if_neg (by decide)]
        walk_at "w"
        refine itNF rfl ?_
        walk_at "w"
        exact ⟨G2, P', j2, rfl, e'.trans e2, _, _, _, _, _, _, rfl⟩
    rintro G' P' H' σ' j' ⟨rfl, e', s9, s10, s11, s12, s13, s14, rfl⟩
    replace hx := hx.mono e'
    replace hu1 := hu1.mono e'
    replace hok := hok.mono e'
    clear hall hA5 e'
    walk_at "w"
    refine ⟨l, od, G', P', rfl, j', hP5, hok, hoi, fun tl xs2 G2 P2 H2 e2 j2 hP2 htl hall => ?_⟩
    replace hx := hx.mono e2
    replace hu1 := hu1.mono e2
    replace hok := hok.mono e2
    clear e2 j' hP5
    refine aForL.go (fun i' G' P' σ' => P' = P2 ∧ Ex G2 G' ∧ ∃ (s9 s10 s11 s12 s13 s14 : Option V), σ' = [some (.ref a), some (.ref l), some (.int i), some (.ref x), some (.ref u1), some od, some (.int st), some (.int r), some (.ref A5), s9, s10, s11, s12, s13, s14]) j2 htl ⟨rfl, Ex.refl _, _, _, _, _, _, _, rfl⟩ (fun i' G' P' σ' h => h.2.1 _ _ htl) ?_ ?_
    · rintro i' z G' P' H' σ' hz j' ⟨rfl, e', s9, s10, s11, s12, s13, s14, rfl⟩
      obtain ⟨t, v, zz, rfl, ht, hd⟩ := (hall z (List.mem_of_getElem? hz)).mono e'
      obtain ⟨hv, hit, hor⟩ := due_ok hd
      walk_at "w"
      refine ⟨1, x, L, v, .non, G', P', rfl, j', (hx.mono e').at, hL, hv, .kd .non, fun _ => hit, by decide, by decide, fun hg G2 H2 e2 j2 => ?_, fun hg G2 H2 e2 j2 => ?_⟩
      · obtain rfl : zz = "told" := by
          rcases hor with ⟨_, h⟩ | ⟨hn, _⟩
          · exact h
          · exact (hn (good1 hg)).elim
        walk_at "w"
        refine itNF rfl ?_
        walk_at "w"
        exact ⟨G2, P', j2, rfl, e'.trans e2, _, _, _, _, _, _, rfl⟩
      · obtain rfl : zz = "numbers" := by
          rcases hor with ⟨hy, _⟩ | ⟨_, h⟩
          · exact (hg (.inr (.inl ⟨rfl, hy⟩))).elim
          · exact h
        rw [if_pos rfl]
        walk_at "w"
        refine itNF rfl ?_
        walk_at "w"
        exact ⟨G2, P', j2, rfl, e'.trans e2, _, _, _, _, _, _, rfl⟩
    rintro G3 P' H3 σ' j3 ⟨rfl, e3, s9, s10, s11, s12, s13, s14, rfl⟩
    replace hx := hx.mono e3
    replace hu1 := hu1.mono e3
    replace hok := hok.mono e3
    clear hall htl e3 j2
    walk_at "w"
    refine w_rI ⟨by decide, by decide, by decide⟩ ?_
    walk_at "w"
    refine w_rI ⟨by decide, by decide, by decide⟩ ?_
    walk_at "w"
    refine ⟨l, 15, G3, P', rfl, j3, hP2, by decide, by decide, fun d P4 H4 _ _ j4 hP4 => ?_⟩
    walk_at "w"
    refine aTup.go j4 (by show 4 ≤ 100000; decide) fun tn G5 H5 _ e5 j5 htn => ?_
    walk_at "w"
    refine ⟨l, tn, _, G5, P4, rfl, j5, hP4, sqT htn, by show 0 < 4; decide, by show 4 ≤ 1000; decide, fun ix nv P6 H6 hnv j6 hP6 => ?_⟩
    obtain ⟨nb, rfl⟩ : ∃ b : Int, nv = .int b := by
      have hm := List.mem_of_getElem? hnv
      simp only [List.mem_cons, List.not_mem_nil, or_false] at hm
      rcases hm with rfl | rfl | rfl | rfl <;> exact ⟨_, rfl⟩
    replace hx := hx.mono e5
    replace hu1 := hu1.mono e5
    replace hok := hok.mono e5
    clear htn hnv e5 j3 j4 j5 hP2 hP4
    walk_at "w"
    refine aTup.go j6 (by show 3 ≤ 100000; decide) fun tk G7 H7 _ e7 j7 htk => ?_
    replace hx := hx.mono e7
    replace hu1 := hu1.mono e7
    replace hok := hok.mono e7
    clear e7 j6
    walk_at "w"
    refine aForT.go (fun i' G' P' σ' => P' = P6 ∧ Ex G7 G' ∧ ∃ (s10 s11 s12 s13 s14 : Option V), σ' = [some (.ref a), some (.ref l), some (.int i), some (.ref x), some (.ref u1), some od, some (.int st), some (.int r), some (.ref A5), some (.int nb), s10, s11, s12, s13, s14]) j7 htk ⟨rfl, Ex.refl _, _, _, _, _, _, rfl⟩ (fun i' G' P' σ' h => h.2.1 _ _ htk) ?_ ?_
    · rintro i' z G' P' H' σ' hz j' ⟨rfl, e', s10, s11, s12, s13, s14, rfl⟩
      obtain ⟨kk, rfl, hkk⟩ : ∃ kk : Int, z = .int kk ∧ (kk = 2 ∨ kk = 3 ∨ kk = 4) := by
        have hm := List.mem_of_getElem? hz
        simp only [List.mem_cons, List.not_mem_nil, or_false] at hm
        rcases hm with rfl | rfl | rfl
        · exact ⟨2, rfl, .inl rfl⟩
        · exact ⟨3, rfl, .inr (.inl rfl)⟩
        · exact ⟨4, rfl, .inr (.inr rfl)⟩
      walk_at "w"
      refine ⟨kk, x, L, od, .non, G', P', rfl, j', (hx.mono e').at, hL, hok.mono e', .kd .non, fun h => by omega, by omega, by omega, fun hg G2 H2 e2 j2 => ?_, fun hg G2 H2 e2 j2 => ?_⟩
      · have := (goodk hkk).mp hg
        rw [hoi] at this
        cases this
      rw [if_neg (by omega)]
      walk_at "w"
      refine itNF rfl ?_
      walk_at "w"
      refine ⟨kk, x, L, .int nb, .non, G2, P', rfl, j2, (hx.mono (e'.trans e2)).at, hL, .kd (.int _), .kd .non, fun h => by omega, by omega, by omega, fun hg G3 H3 e3 j3 => ?_, fun hg G3 H3 e3 j3 => ?_⟩
      · walk_at "w"
        refine itNF rfl ?_
        walk_at "w"
        exact ⟨G3, P', j3, rfl, (e'.trans e2).trans e3, _, _, _, _, _, rfl⟩
      · exact (hg ((goodk hkk).mpr rfl)).elim
    rintro G8 P8 H8 σ' j8 ⟨rfl, e8, s10, s11, s12, s13, s14, rfl⟩
    replace hx := hx.mono e8
    replace hu1 := hu1.mono e8
    replace hok := hok.mono e8
    clear htk e8 j7
    walk_at "w"
    refine aTup.go j8 (by show 3 ≤ 100000; decide) fun y1 G9 H9 _ e9 j9 hy1 => ?_
    walk_at "w"
    refine aTup.go j9 (by show 3 ≤ 100000; decide) fun y2 G10 H10 _ e10 j10 hy2 => ?_
    walk_at "w"
    refine aTup.go j10 (by show 3 ≤ 100000; decide) fun y3 G11 H11 _ e11 j11 hy3 => ?_
    walk_at "w"
    refine aTup.go j11 (by show 3 ≤ 100000; decide) fun y4 G12 H12 _ e12 j12 hy4 => ?_
    walk_at "w"
    refine aTup.go j12 (by show 4 ≤ 100000; decide) fun y5 G13 H13 _ e13 j13 hy5 => ?_
    have eY := (e9.trans e10).trans ((e11.trans e12).trans e13)
    replace hx := hx.mono eY
    replace hu1 := hu1.mono eY
    replace hok := hok.mono eY
    replace hy1 := ((e10.trans e11).trans (e12.trans e13)) _ _ hy1
    replace hy2 := (e11.trans (e12.trans e13)) _ _ hy2
    replace hy3 := (e12.trans e13) _ _ hy3
    replace hy4 := e13 _ _ hy4
    have hal : ∀ z ∈ [V.ref y1, V.ref y2, V.ref y3, V.ref y4], ∃ (t : Addr) (v u : V) (zz : Str), z = .ref t ∧ G13 t = some (.tup [v, u, .str zz]) ∧ KdL K G13 v ∧ KdL K G13 u ∧ ((isI v = true ∧ isI u = true ∧ zz = "told") ∨ (¬ (isI v = true ∧ isI u = true) ∧ zz = "number")) := fun z hz => by
      simp only [List.mem_cons, List.not_mem_nil, or_false] at hz
      have hno : ∀ {b : Bool}, ¬ (isI od = true ∧ b = true) := fun ⟨h, _⟩ => by rw [hoi] at h; cases h
      rcases hz with rfl | rfl | rfl | rfl
      · exact ⟨y1, _, _, _, rfl, hy1, hok, hok, .inr ⟨hno, rfl⟩⟩
      · exact ⟨y2, _, _, _, rfl, hy2, hok, .kd (.int _), .inr ⟨hno, rfl⟩⟩
      · exact ⟨y3, _, _, _, rfl, hy3, .kd (.int _), hok, .inr ⟨fun ⟨_, h⟩ => (by rw [hoi] at h; cases h), rfl⟩⟩
      · exact ⟨y4, _, _, _, rfl, hy4, .kd (.int _), .kd (.int _), .inl ⟨rfl, rfl, rfl⟩⟩
    clear hy1 hy2 hy3 hy4 e9 e10 e11 e12 e13 eY j8 j9 j10 j11 j12
    walk_at "w"
    refine aForT.go (fun i' G' P' σ' => P' = P8 ∧ Ex G13 G' ∧ ∃ (s10 s11 s12 s13 s14 : Option V), σ' = [some (.ref a), some (.ref l), some (.int i), some (.ref x), some (.ref u1), some od, some (.int st), some (.int r), some (.ref A5), some (.int nb), s10, s11, s12, s13, s14]) j13 hy5 ⟨rfl, Ex.refl _, _, _, _, _, _, rfl⟩ (fun i' G' P' σ' h => h.2.1 _ _ hy5) ?_ ?_
    · rintro i' z G' P' H' σ' hz j' ⟨rfl, e', s10, s11, s12, s13, s14, rfl⟩
      obtain ⟨t, v, u, zz, rfl, ht, hv, hu, hor⟩ := hal z (List.mem_of_getElem? hz)
      replace ht := e' _ _ ht
      walk_at "w"
      refine ⟨5, x, L, v, u, G', P', rfl, j', (hx.mono e').at, hL, hv.mono e', hu.mono e', fun h => absurd h (by decide), by decide, by decide, fun hg G2 H2 e2 j2 => ?_, fun hg G2 H2 e2 j2 => ?_⟩
      · obtain rfl : zz = "told" := by
          rcases hor with ⟨_, _, h⟩ | ⟨hn, _⟩
          · exact h
          · exact (hn (good5.mp hg)).elim
        walk_at "w"
        refine itNF rfl ?_
        walk_at "w"
        exact ⟨G2, P', j2, rfl, e'.trans e2, _, _, _, _, _, rfl⟩
      · obtain rfl : zz = "number" := by
          rcases hor with ⟨h1, h2, _⟩ | ⟨_, h⟩
          · exact (hg (good5.mpr ⟨h1, h2⟩)).elim
          · exact h
        rw [if_neg (by decide)]
        walk_at "w"
        refine itNF rfl ?_
        walk_at "w"
        exact ⟨G2, P', j2, rfl, e'.trans e2, _, _, _, _, _, rfl⟩
    rintro G14 P14 H14 σ' j14 ⟨rfl, e14, s10, s11, s12, s13, s14, rfl⟩
    replace hx := hx.mono e14
    replace hu1 := hu1.mono e14
    clear hal hy5 e14 j13 hok
    walk_at "w"
    refine ⟨x, L, .int nb, .int nb, G14, P14, rfl, j14, hx.at, hL, .kd (.int _), .kd (.int _), fun a' b' ea eb G15 H15 e15 j15 => ?_, fun h => (h ⟨rfl, rfl⟩).elim⟩
    obtain rfl := V.int.inj ea
    obtain rfl := V.int.inj eb
    rw [many_le (Int.le_refl _)]
    walk_at "w"
    refine itNF rfl ?_
    walk_at "w"
    refine ⟨x, L, G15, P14, rfl, j15, (hx.mono e15).at, fun u2 G16 H16 e16 j16 hu2 => ?_⟩
    walk_at "w"
    refine neD_LP j16 hu2 (hu1.mono (e15.trans e16)) ?_
    rw [decide_eq_true rfl]
    walk_at "w"
    exact ⟨G16, P14, j16, hP6, _, _, _, _, _, _, _, _, _, _, _, _, _, rfl⟩
end X

namespace X
open PySem PySem.Spec PyProof.Rows L2 Lv
theorem facts {P : Program} {w : World} {K : PySem.W.Frag} {h : Heap} {mg : Str → Option Value} {f : Addr} (X : K.In h) (G : h.Ns mainGlobals mg) (hfa : mg ("law" : Str) = some (.ref f)) (c : He.SaysX fa fn [] [] ex w h K) :
    ∃ fd : FuncData, (∀ (s : Shared) (v : Value), BindsTo s fd ⟨[v], []⟩ [("_law_script", v)]) ∧ ∀ base : Heap, K.In base → base.Ns mainGlobals mg → FnOk P w K mg base CX0 13 f fd ["_law_script"] (sp_law K) := by
  have T := txt_of X G c
  have e := hfa.symm.trans T.g_law
  cases e
  suffices H : ∀ base : Heap, ∃ fd, Dn P w K mg base CX0 13 "law" ["_law_script"] (sp_law K) fd by
    obtain ⟨fd, F⟩ := id T.d_law
    refine ⟨fd, fun s v => FunD.bindsA (ps := ["_law_script"]) F (fun _ _ _ _ _ _ us hl => match us, hl with | [_], _ => rfl) s [v] rfl, fun base _ _ => ?_⟩
    obtain ⟨fd', D⟩ := H base
    have q : fd' = fd := Lv.fd_same D.lk (Lv.fun_lk F)
    rw [← q]; exact D.ok
  intro base
  obtain ⟨fd_is_integer, G_is_integer⟩ := ok_is_integer (P := P) (w := w) (base := base) T
  obtain ⟨fd_is_within, G_is_within⟩ := ok_is_within (P := P) (w := w) (base := base) T G_is_integer
  obtain ⟨fd_l_pot, G_l_pot⟩ := ok_l_pot (P := P) (w := w) (base := base) T
  obtain ⟨fd_l_draw, G_l_draw⟩ := ok_l_draw (P := P) (w := w) (base := base) T
  obtain ⟨fd_l_any, G_l_any⟩ := ok_l_any (P := P) (w := w) (base := base) T G_l_draw
  obtain ⟨fd_is_rising, G_is_rising⟩ := ok_is_rising (P := P) (w := w) (base := base) T G_is_within
  obtain ⟨fd_keyed, G_keyed⟩ := ok_keyed (P := P) (w := w) (base := base) T
  obtain ⟨fdX_keyed, GX_keyed⟩ := okX_keyed (P := P) (w := w) (base := base) T
  obtain ⟨fd_is_round, G_is_round⟩ := ok_is_round (P := P) (w := w) (base := base) T G_keyed
  obtain ⟨fd_least_step, G_least_step⟩ := ok_least_step (P := P) (w := w) (base := base) T G_is_round
  obtain ⟨fd_least_high, G_least_high⟩ := ok_least_high (P := P) (w := w) (base := base) T G_keyed
  obtain ⟨fd_greatest_low, G_greatest_low⟩ := ok_greatest_low (P := P) (w := w) (base := base) T G_keyed
  obtain ⟨fd_is_ascending, G_is_ascending⟩ := ok_is_ascending (P := P) (w := w) (base := base) T G_is_within
  obtain ⟨fd_Lot_keep, G_Lot_keep⟩ := ok_Lot_keep (P := P) (w := w) (base := base) T G_least_step G_keyed G_least_high G_greatest_low
  obtain ⟨fd_Lot_init, G_Lot_init⟩ := ok_Lot_init (P := P) (w := w) (base := base) T G_is_integer G_is_within G_is_rising G_is_ascending G_Lot_keep
  obtain ⟨fd_check_integer, G_check_integer⟩ := ok_check_integer (P := P) (w := w) (base := base) T G_is_integer
  obtain ⟨fd_next_above_of, G_next_above_of⟩ := ok_next_above_of (P := P) (w := w) (base := base) T
  obtain ⟨fd_next_above, G_next_above⟩ := ok_next_above (P := P) (w := w) (base := base) T G_check_integer G_next_above_of
  obtain ⟨fd_many_with, G_many_with⟩ := ok_many_with (P := P) (w := w) (base := base) T
  obtain ⟨fd_many_in, G_many_in⟩ := ok_many_in (P := P) (w := w) (base := base) T G_check_integer G_many_with
  obtain ⟨fd_l_lot_parts, G_l_lot_parts⟩ := ok_l_lot_parts (P := P) (w := w) (base := base) T G_l_draw
  obtain ⟨fd_l_lot, G_l_lot⟩ := ok_l_lot (P := P) (w := w) (base := base) T G_Lot_init
  obtain ⟨fd_RawLot_init, G_RawLot_init⟩ := ok_RawLot_init (P := P) (w := w) (base := base) T G_Lot_keep
  obtain ⟨fd_mirrored_of, G_mirrored_of⟩ := ok_mirrored_of (P := P) (w := w) (base := base) T G_RawLot_init
  obtain ⟨fd_next_below_of, G_next_below_of⟩ := ok_next_below_of (P := P) (w := w) (base := base) T G_mirrored_of G_next_above_of
  obtain ⟨fd_next_below, G_next_below⟩ := ok_next_below (P := P) (w := w) (base := base) T G_check_integer G_next_below_of
  obtain ⟨fd_Lot_told, G_Lot_told⟩ := ok_Lot_told (P := P) (w := w) (base := base) T
  obtain ⟨fd_Lot_eq, G_Lot_eq⟩ := ok_Lot_eq (P := P) (w := w) (base := base) T G_Lot_told
  obtain ⟨fd_l_six, G_l_six⟩ := ok_l_six (P := P) (w := w) (base := base) T
  obtain ⟨fd_moved_rests, G_moved_rests⟩ := ok_moved_rests (P := P) (w := w) (base := base) T
  obtain ⟨fd_moved_of, G_moved_of⟩ := ok_moved_of (P := P) (w := w) (base := base) T G_moved_rests G_RawLot_init
  obtain ⟨fd_moved, G_moved⟩ := ok_moved (P := P) (w := w) (base := base) T G_check_integer G_moved_of
  obtain ⟨fd_is_listed, G_is_listed⟩ := ok_is_listed (P := P) (w := w) (base := base) T
  obtain ⟨fd_empty_lot, G_empty_lot⟩ := ok_empty_lot (P := P) (w := w) (base := base) T G_RawLot_init
  obtain ⟨fd_every, G_every⟩ := ok_every (P := P) (w := w) (base := base) T G_is_within G_RawLot_init
  obtain ⟨fd_lot_of, G_lot_of⟩ := ok_lot_of (P := P) (w := w) (base := base) T G_is_listed G_is_integer G_empty_lot GX_keyed G_RawLot_init
  obtain ⟨fdX_is_integer, GX_is_integer⟩ := okX_is_integer (P := P) (w := w) (base := base) T
  obtain ⟨fdX_is_within, GX_is_within⟩ := okX_is_within (P := P) (w := w) (base := base) T GX_is_integer
  obtain ⟨fdX_is_listed, GX_is_listed⟩ := okX_is_listed (P := P) (w := w) (base := base) T
  obtain ⟨fdX_check_integer, GX_check_integer⟩ := okX_check_integer (P := P) (w := w) (base := base) T GX_is_integer
  obtain ⟨fdX_every, GX_every⟩ := okX_every (P := P) (w := w) (base := base) T GX_is_within G_RawLot_init
  obtain ⟨fdX_moved, GX_moved⟩ := okX_moved (P := P) (w := w) (base := base) T GX_check_integer G_moved_of
  obtain ⟨fdX_next_above, GX_next_above⟩ := okX_next_above (P := P) (w := w) (base := base) T GX_check_integer G_next_above_of
  obtain ⟨fdX_next_below, GX_next_below⟩ := okX_next_below (P := P) (w := w) (base := base) T GX_check_integer G_next_below_of
  obtain ⟨fdX_many_in, GX_many_in⟩ := okX_many_in (P := P) (w := w) (base := base) T GX_check_integer G_many_with
  obtain ⟨fdX_lot_of, GX_lot_of⟩ := okX_lot_of (P := P) (w := w) (base := base) T GX_is_listed GX_is_integer G_empty_lot GX_keyed G_RawLot_init
  obtain ⟨fdX_l_call, GX_l_call⟩ := okX_l_call (P := P) (w := w) (base := base) T GX_every GX_lot_of GX_moved GX_next_above GX_next_below GX_many_in
  obtain ⟨fd_l_word, G_l_word⟩ := ok_l_word (P := P) (w := w) (base := base) T GX_l_call
  obtain ⟨fd_l_deep, G_l_deep⟩ := ok_l_deep (P := P) (w := w) (base := base) T G_l_any G_l_draw
  obtain ⟨fd_l_lists, G_l_lists⟩ := ok_l_lists (P := P) (w := w) (base := base) T G_l_draw G_l_any
  obtain ⟨fd_law, G_law⟩ := ok_law (P := P) (w := w) (base := base) T G_l_pot G_l_lot_parts G_l_lot G_l_six G_l_deep G_l_any G_l_draw G_l_word G_l_lists GX_many_in
  exact ⟨fd_law, G_law⟩
end X
open PySem PySem.W PySem.Calls PyProof.Rows
theorem PySem.Challenge.cw_neverleapt_k45_lots_refused_holds : PySem.Challenge.rw_neverleapt_k45_lots_refused.Holds := by
  refine X.c_law fun said => ?_
  refine HandSHeadRun.head_any (r := X.R) (q := X.vq) (H := X.hk) (ob := X.ob) (M := 20000) (loose := X.loose) (d := X.vd) (kwd := []) X.ob_eq
    X.c_e X.c_f X.run X.c_def X.c_p X.c_k X.c_w said X.c_ok X.c_b X.c_hw ?hc
  case hc =>
    refine L2.walk_ofE (l := PySem.Challenge.rw_neverleapt_k45_lots_refused) (n := 63) (k := 13) (x := "_law_script") (CX := L2.CX0) rfl (by decide) X.c_df ⟨rfl, by decide, by decide⟩ ?F (fun _ _ _ _ z => z)
    intro w mg fa h Y G hmg0
    obtain ⟨K, KX, c⟩ := Y
    have hmg : mg ("law" : PySem.Str) = some (.ref fa) := by
      rw [← X.c_nm]
      exact hmg0
    obtain ⟨fd, hb, hF⟩ := X.facts (P := (PySem.Challenge.rw_neverleapt_k45_lots_refused).prog) (w := w) KX G hmg c
    exact ⟨K, fd, X.sp_law K, KX, hb, fun H a ns hl _ hS => ⟨a, ns, rfl, hS, hl, fun _ => rfl⟩, hF⟩

