import PyProof.Rows.All
import Wide.All
import OpenK.AllK
import Wide.FinOn
import HandS.ForMost
import HandS.Conv
import KE.KRevSl
import HandS.DictComp
import PyProof.SeqIndex
import PyProof.LongRange
import HandS.SortInts
import HandS.Exc
import HandS.TryOnly
import HandS.ExcOwn
import HandS.WordsExc
import HandS.Wide
import HandS.WideBits
import HandS.IsInst
import HandS.Defaults
import HandS.Flow
import HandS.Head0
import HandS.Head1
import HandS.Head2
import HandS.HeadEnd
import HandS.HeadHook1
import HandS.HeadHook2
import HandS.HeadHook3
import HandS.HeadHook4
import HandS.Small
import KE.GoesEnum
import HandS.Evl
import HandS.TupAny
import KE.KExcSuper
import HandS.ExcInit
import HandS.ExcField
import HandS.TryMany
import HandS.TupSets
import HandS.Deep
import HandS.TupMul
import HandS.DictTup
import KE.KDictDisplayH
import HandS.TupLen
import HandS.SetKeys
import HandS.Style
import HandS.ExcIs
import HandS.Hot
import HandS.ExcCtx
import HandS.Strs
import HandS.SetFor
import KE.DatumOrd
import KE.KDictItemsList
import HandS.CallLocal
import HandS.Lambda
import HandS.Nested
import HandS.EndTab
import HandS.HeadWalk
import PySem.Challenge.RW_neverleapt_k84_whole_runs_by_number
set_option Elab.async false
set_option linter.all false
set_option maxRecDepth 100000
set_option maxHeartbeats 4000000
/-! Lv: own lemmas over the hand layer: two parts of a heap (the law's pot and all else), comprehensions of ints, divisors. -/
namespace Lv
open PySem L2
/-! ### heaps in two parts -/
/-- H' has all that H has -/
def Ex (H H' : Hp) : Prop := ∀ a o, H a = some o → H' a = some o
theorem Ex.refl (H : Hp) : Ex H H := fun _ _ h => h
theorem Ex.trans {H H1 H2 : Hp} (a : Ex H H1) (b : Ex H1 H2) : Ex H H2 := fun x o h => b x o (a x o h)
theorem Ex.new {H : Hp} {p : Addr} {o : HO} (h : H p = none) : Ex H (upd H p o) := fun a u e => by
  rw [upd_ne (ne_of_none e h)]
  exact e
theorem Ex.mut {H H' : Hp} {p : Addr} {o : HO} (e : Ex H H') (h : H p = none) : Ex H (upd H' p o) := fun a u ha => by
  rw [upd_ne (ne_of_none ha h)]
  exact e a u ha
theorem Ex.back {H H' : Hp} {p : Addr} (e : Ex H H') (h : H' p = none) : H p = none := by
  cases h1 : H p with
  | none => rfl
  | some o =>
    rw [e p o h1] at h
    cases h
theorem Ex.rd {H H' : Hp} {a : Addr} {u : HO} (e : Ex H H') (h : Rd H a u) : Rd H' a u := by
  rcases h with h | ⟨o, h⟩
  · exact Or.inl (e a _ h)
  · exact Or.inr ⟨o, e a _ h⟩
theorem Ex.l {K : PySem.W.Frag} {H H' : Hp} {a : Addr} {xs : List V} (e : Ex H H') (h : SqL K H a xs) : SqL K H' a xs := by
  rcases h with h | h
  · exact Or.inl (e.rd h)
  · exact Or.inr h
theorem Ex.t {K : PySem.W.Frag} {H H' : Hp} {a : Addr} {xs : List V} (e : Ex H H') (h : SqT K H a xs) : SqT K H' a xs := by
  rcases h with h | h
  · exact Or.inl (e.rd h)
  · exact Or.inr h
theorem sqL {K : PySem.W.Frag} {H : Hp} {a : Addr} {xs : List V} (h : H a = some (.lst xs)) : SqL K H a xs := Or.inl (Or.inl h)
theorem sqT {K : PySem.W.Frag} {H : Hp} {a : Addr} {xs : List V} (h : H a = some (.tup xs)) : SqT K H a xs := Or.inl (Or.inl h)
theorem szle {n : Nat} (h : n ≤ 100000) : n ≤ sizeLine := Nat.le_trans h (by decide)
theorem szlt {n : Nat} (h : n < 100000) : n < sizeLine := Nat.lt_of_lt_of_le h (by decide)
/-- tables of code objects that stand in the heap, each with the name that its code objects have -/
class TabA where
  T : List (Addr × Str)
/-- is an address a table's -/
def tabI [TabA] (b : Addr) : Bool := TabA.T.any fun q => q.1 == b
/-- may be written: neither a table nor a thing told by what is true of it -/
def plainO : HO → Bool
  | .tbl _ => false
  | .ext _ => false
  | _ => true
def MutOk (H : Hp) (b : Addr) : Prop := ∀ u, H b = some u → plainO u = true
theorem MutOk.new {H : Hp} {b : Addr} (h : H b = none) : MutOk H b := fun u e => by rw [h] at e; cases e
theorem MutOk.of {H : Hp} {b : Addr} {u : HO} (h : H b = some u) (hu : plainO u = true) : MutOk H b := fun v e => by rw [h] at e; rw [← Option.some.inj e]; exact hu
variable [TabA]
/-- H is made of G and P, apart from one another, and the tables -/
structure Join (G P H : Hp) : Prop where
  ap : ∀ b o, P b = some o → G b = none
  g : ∀ b o, G b = some o → H b = some o
  p : ∀ b o, P b = some o → H b = some o
  no : ∀ b, G b = none → P b = none → tabI b = false → H b = none
  tab : LamX.Tabs TabA.T H
  off : ∀ b, tabI b = true → G b = none ∧ P b = none
  pp : ∀ b o, P b = some o → plainO o = true
theorem tabI_mem {q : Addr × Str} (h : q ∈ TabA.T) : tabI q.1 = true := List.any_eq_true.mpr ⟨q, h, by simp⟩
theorem tabI_at {H : Hp} {b : Addr} (t : LamX.Tabs TabA.T H) (h : tabI b = true) : ∃ ps, H b = some (.tbl ps) := by
  obtain ⟨q, h1, h2⟩ := List.any_eq_true.mp h
  obtain ⟨ps, h3, _⟩ := t q h1
  rw [beq_iff_eq.mp h2] at h3
  exact ⟨ps, h3⟩
theorem Join.nt {G P H : Hp} (j : Join G P H) {b : Addr} {o : HO} (h : H b = some o) (ho : plainO o = true) : tabI b = false := by
  cases e : tabI b with
  | false => rfl
  | true =>
    obtain ⟨ps, q⟩ := tabI_at j.tab e
    rw [h] at q
    rw [Option.some.inj q] at ho; cases ho
theorem Join.mt {G P H : Hp} (j : Join G P H) {b : Addr} (m : MutOk H b) : tabI b = false := by
  cases e : tabI b with
  | false => rfl
  | true =>
    obtain ⟨ps, q⟩ := tabI_at j.tab e
    have := m _ q; cases this
theorem tabs_upd {H : Hp} {b : Addr} {o : HO} (t : LamX.Tabs TabA.T H) (m : MutOk H b) : LamX.Tabs TabA.T (upd H b o) := fun q hq => by
  obtain ⟨ps, h1, h2, h3⟩ := t q hq
  refine ⟨ps, ?_, h2, fun pos cv hc => ?_⟩
  · have n : q.1 ≠ b := fun z => by rw [z] at h1; have := m _ h1; cases this
    rw [upd_ne n]; exact h1
  · obtain ⟨c, e1, e2⟩ := h3 pos cv hc
    have n : c ≠ b := fun z => by rw [z] at e2; have := m _ e2; cases this
    exact ⟨c, e1, by rw [upd_ne n]; exact e2⟩
theorem Join.ng {G P H : Hp} (j : Join G P H) {b : Addr} (h : H b = none) : G b = none := by
  cases e : G b with
  | none => rfl
  | some o => rw [j.g b o e] at h; cases h
theorem Join.np {G P H : Hp} (j : Join G P H) {b : Addr} (h : H b = none) : P b = none := by
  cases e : P b with
  | none => rfl
  | some o => rw [j.p b o e] at h; cases h
theorem Join.gp {G P H : Hp} (j : Join G P H) {b : Addr} {o : HO} (h : G b = some o) : P b = none := by
  cases e : P b with
  | none => rfl
  | some u => rw [j.ap b u e] at h; cases h
theorem MutOk.g {G P H : Hp} {b : Addr} {u : HO} (j : Join G P H) (h : G b = some u) (hu : plainO u = true) : MutOk H b := .of (j.g _ _ h) hu
theorem MutOk.p {G P H : Hp} {b : Addr} {u : HO} (j : Join G P H) (h : P b = some u) : MutOk H b := .of (j.p _ _ h) (j.pp _ _ h)
theorem Join.setG {G P H : Hp} (j : Join G P H) {b : Addr} {o : HO} (h : P b = none) (m : MutOk H b := by first | exact MutOk.new (by assumption) | exact MutOk.g (by assumption) (by assumption) rfl) : Join (upd G b o) P (upd H b o) := by
  have nb := j.mt m
  refine ⟨fun c u e => ?_, fun c u e => ?_, fun c u e => ?_, fun c e1 e2 e3 => ?_, tabs_upd j.tab m, fun c e => ?_, j.pp⟩
  · have n : c ≠ b := fun z => by rw [z, h] at e; cases e
    rw [upd_ne n]; exact j.ap c u e
  · by_cases z : c = b
    · rw [z, upd_same] at e; rw [z, upd_same]; exact e
    · rw [upd_ne z] at e; rw [upd_ne z]; exact j.g c u e
  · have n : c ≠ b := fun z => by rw [z, h] at e; cases e
    rw [upd_ne n]; exact j.p c u e
  · have n : c ≠ b := fun z => by rw [z, upd_same] at e1; cases e1
    rw [upd_ne n] at e1; rw [upd_ne n]; exact j.no c e1 e2 e3
  · have n : c ≠ b := fun z => by rw [z, nb] at e; cases e
    rw [upd_ne n]; exact j.off c e
theorem Join.newG {G P H : Hp} (j : Join G P H) {b : Addr} {o : HO} (h : H b = none) : Join (upd G b o) P (upd H b o) := j.setG (j.np h) (.new h)
theorem Join.setP {G P H : Hp} (j : Join G P H) {b : Addr} {o : HO} (h : G b = none) (m : MutOk H b := by first | exact MutOk.new (by assumption) | exact MutOk.p (by assumption) (by assumption)) (po : plainO o = true := by rfl) : Join G (upd P b o) (upd H b o) := by
  have nb := j.mt m
  refine ⟨fun c u e => ?_, fun c u e => ?_, fun c u e => ?_, fun c e1 e2 e3 => ?_, tabs_upd j.tab m, fun c e => ?_, fun c u e => ?_⟩
  rotate_left 5
  · by_cases z : c = b
    · rw [z, upd_same] at e; rw [← Option.some.inj e]; exact po
    · rw [upd_ne z] at e; exact j.pp c u e
  rotate_right 5
  · by_cases z : c = b
    · rw [z]; exact h
    · rw [upd_ne z] at e; exact j.ap c u e
  · have n : c ≠ b := fun z => by rw [z, h] at e; cases e
    rw [upd_ne n]; exact j.g c u e
  · by_cases z : c = b
    · rw [z, upd_same] at e; rw [z, upd_same]; exact e
    · rw [upd_ne z] at e; rw [upd_ne z]; exact j.p c u e
  · have n : c ≠ b := fun z => by rw [z, upd_same] at e2; cases e2
    rw [upd_ne n] at e2; rw [upd_ne n]; exact j.no c e1 e2 e3
  · have n : c ≠ b := fun z => by rw [z, nb] at e; cases e
    rw [upd_ne n]; exact j.off c e
theorem Join.setGo {G P H : Hp} (j : Join G P H) {b : Addr} {o o0 : HO} (h : G b = some o0) (ho : plainO o0 = true := by rfl) : Join (upd G b o) P (upd H b o) := j.setG (j.gp h) (.g j h ho)
theorem Join.setPo {G P H : Hp} (j : Join G P H) {b : Addr} {o o0 : HO} (h : P b = some o0) (po : plainO o = true := by rfl) : Join G (upd P b o) (upd H b o) := j.setP (j.ap _ _ h) (.p j h) po
theorem Join.setPn {G P H : Hp} (j : Join G P H) {b : Addr} {o : HO} (h : H b = none) (po : plainO o = true := by rfl) : Join G (upd P b o) (upd H b o) := j.setP (j.ng h) (.new h) po
theorem Join.exG {G P H : Hp} (j : Join G P H) : Ex G H := j.g
theorem Join.exP {G P H : Hp} (j : Join G P H) : Ex P H := j.p
/-- the first part when H has grown -/
def grG (P H' : Hp) : Hp := fun b => if P b = none ∧ tabI b = false then H' b else none
theorem grG_some {P H' : Hp} {b : Addr} {o : HO} : grG P H' b = some o ↔ P b = none ∧ tabI b = false ∧ H' b = some o := by
  unfold grG
  by_cases z : P b = none ∧ tabI b = false
  · rw [if_pos z]; exact ⟨fun h => ⟨z.1, z.2, h⟩, fun h => h.2.2⟩
  · rw [if_neg z]; exact ⟨fun h => (nomatch h), fun h => absurd ⟨h.1, h.2.1⟩ z⟩
theorem grG_none {P H' : Hp} {b : Addr} (h1 : P b = none) (h2 : tabI b = false) (h : grG P H' b = none) : H' b = none := by
  unfold grG at h
  rwa [if_pos ⟨h1, h2⟩] at h
theorem grG_join {P H' : Hp} (hp : ∀ c u, P c = some u → H' c = some u) (t : LamX.Tabs TabA.T H') (hn : ∀ c, tabI c = true → P c = none) (pp : ∀ b o, P b = some o → plainO o = true) : Join (grG P H') P H' := by
  refine ⟨fun c u q => ?_, fun c u q => (grG_some.mp q).2.2, hp, fun c q1 q2 q3 => grG_none q2 q3 q1, t, fun c e => ⟨?_, hn c e⟩, pp⟩
  · cases h : grG P H' c with
    | none => rfl
    | some o => rw [(grG_some.mp h).1] at q; cases q
  · cases h : grG P H' c with
    | none => rfl
    | some o => rw [(grG_some.mp h).2.1] at e; cases e
/-- as a law begins: all but the tables is the first part -/
theorem Join.start {H : Hp} (t : LamX.Tabs TabA.T H) : Join (grG (fun _ => none) H) (fun _ => none) H := grG_join (fun _ _ q => nomatch q) t (fun _ _ => rfl) (fun _ _ q => nomatch q)
/-- what extends H extends the first part -/
theorem Join.grow {G P H H' : Hp} (j : Join G P H) (e : Ex H H') : Join (grG P H') P H' := grG_join (fun c u q => e c u (j.p c u q)) (j.tab.ext e) (fun c q => (j.off c q).2) j.pp
theorem Join.ngt {G P H : Hp} (j : Join G P H) {b : Addr} {o : HO} (h : G b = some o) : tabI b = false := by
  cases e : tabI b with
  | false => rfl
  | true => rw [(j.off b e).1] at h; cases h
theorem Join.growEx {G P H H' : Hp} (j : Join G P H) (e : Ex H H') : Ex G (grG P H') := fun c u q => grG_some.mpr ⟨j.gp q, j.ngt q, e c u (j.g c u q)⟩
theorem Join.growNew {G P H H' : Hp} (j : Join G P H) {b : Addr} {o : HO} (h : H b = none) (q : H' b = some o) : grG P H' b = some o := grG_some.mpr ⟨j.np h, j.mt (.new h), q⟩
theorem Join.npt {G P H : Hp} (j : Join G P H) {b : Addr} {o : HO} (h : P b = some o) : tabI b = false := by
  cases e : tabI b with
  | false => rfl
  | true => rw [(j.off b e).2] at h; cases h
/-- all but the tables stay -/
theorem Join.growN {G P H H' : Hp} (j : Join G P H) (e : ∀ b o, H b = some o → tabI b = false → H' b = some o) (t : LamX.Tabs TabA.T H') : Join (grG P H') P H' := grG_join (fun c u q => e c u (j.p c u q) (j.npt q)) t (fun c q => (j.off c q).2) j.pp
theorem Join.growNEx {G P H H' : Hp} (j : Join G P H) (e : ∀ b o, H b = some o → tabI b = false → H' b = some o) : Ex G (grG P H') := fun c u q => grG_some.mpr ⟨j.gp q, j.ngt q, e c u (j.g c u q) (j.ngt q)⟩
/-- what is new later was new earlier -/
structure Dom (H H' : Hp) : Prop where
  back : ∀ {b}, H' b = none → H b = none
theorem Dom.trans {H H1 H2 : Hp} (a : Dom H H1) (b : Dom H1 H2) : Dom H H2 := ⟨fun h => a.back (b.back h)⟩
/-! ### the items of a list of ints -/
theorem int_at {ns : List Int} {i : Nat} {y : V} (h : (ns.map V.int)[i]? = some y) : ∃ z, ns[i]? = some z ∧ y = V.int z := by
  rw [List.getElem?_map] at h
  cases e : ns[i]? with
  | none => rw [e] at h; cases h
  | some z => rw [e] at h; exact ⟨z, rfl, (Option.some.inj h).symm⟩
theorem take_more {α : Type} : ∀ {l : List α} {i : Nat} {x : α}, l[i]? = some x → l.take (i + 1) = l.take i ++ [x]
  | [], i, x, h => by simp at h
  | a :: l, 0, x, h => by
    have e : a = x := Option.some.inj h
    subst e
    rfl
  | a :: l, i + 1, x, h => by
    have ih := take_more (l := l) (i := i) (x := x) h
    show a :: l.take (i + 1) = a :: l.take i ++ [x]
    rw [ih]
    rfl
/-- [g z for z in ns if f z], nothing touched: the rest of the reading behind the walked list -/
theorem lc_ints {K : PySem.W.Frag} {a : Addr} {ns : List Int} {j : Nat} {tt : TT} {te : TE} {vs : List Nat} {σ : St} {H : Hp} {Qd : Hp → Prop} {D : Addr} (f : Int → Bool) (g : Int → Int) (hD : H D = none)
    (hS : SqL K H a (ns.map V.int)) (hn : ns.length ≤ 1000) (hw : ∀ x, wipe ((wipe σ vs).set j (some x)) vs = wipe σ vs)
    (ht : ∀ (z : Int) (H' : Hp) (R : Bool → Hp → Prop), z ∈ ns → R (f z) H' → tt ((wipe σ vs).set j (some (.int z))) H' R)
    (he : ∀ (z : Int) (H' : Hp) (R : VK), z ∈ ns → f z = true → R (.int (g z)) H' → te ((wipe σ vs).set j (some (.int z))) H' R)
    (hq : Qd (upd H D (.lst (((ns.filter f).map g).map V.int)))) :
    ∃ W : Nat → Nat → Hp → Prop, (∃ m, W 0 m (upd H D (.lst []))) ∧ ∀ i m H, W i m H →
      ((Itl K a).stop i H ∧ Qd H) ∨ ((Itl K a).go i H ∧ ∃ Nx : Hp → Prop, (∀ H', Nx H' → ∃ m', m' < m ∧ W (i + 1) m' H') ∧ ∀ x H', (Itl K a).yld i H x H' → gName j x (wipe σ vs) H' fun σ2 H2 => wipe σ2 vs = wipe σ vs ∧ tt σ2 H2 fun b H3 =>
        if b = true then te σ2 H3 fun y H4 => ∃ acc, H4 D = some (.lst acc) ∧ acc.length < sizeLine ∧ Nx (upd H4 D (.lst (acc ++ [y]))) else Nx H3) := by
  have hl : ∀ i, ((((ns.take i).filter f).map g).map V.int).length ≤ 1000 := fun i => by
    rw [List.length_map, List.length_map]
    have h1 := List.length_filter_le f (ns.take i)
    rw [List.length_take] at h1
    omega
  refine lc_list (K := K) (a := a) (xs := ns.map V.int) (Qd := Qd) (fun i H' => H' = upd H D (.lst ((((ns.take i).filter f).map g).map V.int))) rfl (fun i H' _ e => ?_) (fun i y H' hi e => ?_) (fun H' e => ?_)
  · rw [e]; exact (Ex.new hD).l hS
  · obtain ⟨z, hz, rfl⟩ := int_at hi
    have hm : z ∈ ns := List.mem_of_getElem? hz
    have tm := take_more hz
    subst e
    refine ⟨hw _, ht z _ _ hm ?_⟩
    cases hf : f z with
    | true =>
      refine (if_pos rfl).mpr ?_
      refine he z _ _ hm hf ⟨_, upd_same, Nat.lt_of_le_of_lt (hl i) (by decide), ?_⟩
      rw [upd_upd, tm, List.filter_append, List.map_append, List.map_append, List.filter_cons, if_pos hf]
      rfl
    | false =>
      refine (if_neg (by decide)).mpr ?_
      rw [tm, List.filter_append, List.map_append, List.map_append, List.filter_cons, if_neg (by rw [hf]; decide)]
      show _ = upd H D (.lst (_ ++ []))
      rw [List.append_nil]
  · rw [e]
    have e2 : ns.take (ns.map V.int).length = ns := by rw [List.length_map]; exact List.take_length
    rw [e2]; exact hq
/-! ### a def as the top leaves it -/
structure Dn (P : Program) (w : World) (K : PySem.W.Frag) (mg : Str → Option Value) (base : Heap) (CX : CXT) (k : Nat) (x : Str) (ps : List Str) (sp : Sp) (fd : FuncData) : Prop where
  ok : FnOk P w K mg base CX k (He.ga K x) fd ps sp
  mg : mg x = some (.ref (He.ga K x))
  kp : PySem.W.keepIn K (.ref (He.ga K x)) = true
  b : Binds K fd ps []
  lk : ∃ oc od osl, K.lookup (He.ga K x) = some ⟨oc, od, .func fd, osl⟩
/-- a method as the top leaves it -/
structure Dm (P : Program) (w : World) (K : PySem.W.Frag) (mg : Str → Option Value) (base : Heap) (CX : CXT) (k : Nat) (C m : Str) (ps : List Str) (sp : Sp) (fd : FuncData) : Prop where
  ok : FnOk P w K mg base CX k (He.ma K (He.ga K C) m) fd ps sp
  b : Binds K fd ps []
  lk : ∃ oc od osl, K.lookup (He.ma K (He.ga K C) m) = some ⟨oc, od, .func fd, osl⟩
theorem fun_lk {K : PySem.W.Frag} {x qual : Str} {params : Arguments} {body : List Stmt} {scope : Scope} {dvs : List V} {kws : List (Str × V)} {f : Addr} {fd : FuncData} (F : FunD K x qual params body scope dvs kws f fd) : ∃ oc od osl, K.lookup f = some ⟨oc, od, .func fd, osl⟩ := by
  obtain ⟨oc, od, _, _, _, _, _, _, _, osl, _, lk, _⟩ := F.ex
  exact ⟨oc, od, osl, lk⟩
theorem fd_same {K : PySem.W.Frag} {f : Addr} {fd fd' : FuncData} (h : ∃ oc od osl, K.lookup f = some ⟨oc, od, .func fd, osl⟩) (h' : ∃ oc od osl, K.lookup f = some ⟨oc, od, .func fd', osl⟩) : fd = fd' := by
  obtain ⟨_, _, _, e⟩ := h
  obtain ⟨_, _, _, e'⟩ := h'
  rw [e] at e'
  injection e' with e'
  injection e' with _ _ e' _
  injection e'
/-! ### the pot -/
/-- a pot at l: great numbers, small ones (one at least), the turn, one number more -/
def Pot (P : Hp) (l : Addr) : Prop := ∃ (g s : Addr) (gs ss : List Int) (t c : Int), P l = some (.lst [.ref g, .ref s, .int t, .int c]) ∧ P g = some (.lst (gs.map V.int)) ∧ P s = some (.lst (ss.map V.int)) ∧ g ≠ s ∧ 0 < ss.length ∧ ss.length ≤ 1000 ∧ gs.length ≤ 1000
def spPot (K : PySem.W.Frag) : Sp := fun vs H Q _ => ∃ (a : Addr) (ns : List Int), vs = [.ref a] ∧ (SqL K H a (ns.map V.int) ∧ LamX.Tabs TabA.T H) ∧ ns.length ≤ 63 ∧ ∀ l G P H', Ex (grG (fun _ => none) H) G → Join G P H' → Pot P l → Q (.ref l) H'
/-- what the end asks of a law -/
def spLaw (K : PySem.W.Frag) : Sp := fun vs H Q _ => ∃ (a : Addr) (ns : List Int), vs = [.ref a] ∧ (SqL K H a (ns.map V.int) ∧ LamX.Tabs TabA.T H) ∧ ns.length ≤ 63 ∧ ∀ H', Q (.bl true) H'
def spDraw : Sp := fun vs H Q _ => ∃ (l : Addr) (n : Int) (G P : Hp), vs = [.ref l, .int n] ∧ Join G P H ∧ Pot P l ∧ 0 < n ∧ n < 2 ^ 200 ∧ ∀ (r : Int) (P' H' : Hp), 0 ≤ r → r < n → Join G P' H' → Pot P' l → Q (.int r) H'
/-- one of some things, at a tuple -/
def spAny (K : PySem.W.Frag) : Sp := fun vs H Q _ => ∃ (l t : Addr) (xs : List V) (G P : Hp), vs = [.ref l, .ref t] ∧ Join G P H ∧ Pot P l ∧ SqT K G t xs ∧ 0 < xs.length ∧ xs.length ≤ 1000 ∧ ∀ (i : Nat) (x : V) (P' H' : Hp), xs[i]? = some x → Join G P' H' → Pot P' l → Q x H'
end Lv

namespace Lv
open PySem L2
variable [TabA]
/-! ### tests -/
theorem itT {c A B : Prop} [Decidable c] (h : c) (a : A) : if decide c = true then A else B := by
  rw [if_pos (decide_eq_true h)]; exact a
theorem itF {c A B : Prop} [Decidable c] (h : ¬ c) (a : B) : if decide c = true then A else B := by
  rw [if_neg (by rw [decide_eq_false h]; decide)]; exact a
theorem itBT {b : Bool} {A B : Prop} (h : b = true) (a : A) : if b = true then A else B := by
  rw [if_pos h]; exact a
theorem itBF {b : Bool} {A B : Prop} (h : b = false) (a : B) : if b = true then A else B := by
  rw [if_neg (by rw [h]; decide)]; exact a
theorem itNT {c A B : Prop} [Decidable c] (h : ¬ c) (a : A) : if (!decide c) = true then A else B := by
  rw [if_pos (by rw [decide_eq_false h]; rfl)]; exact a
theorem itNF {c A B : Prop} [Decidable c] (h : c) (a : B) : if (!decide c) = true then A else B := by
  rw [if_neg (by rw [decide_eq_true h]; decide)]; exact a
theorem qT {Q : VK} {H : Hp} {b : Bool} (h : b = true) (k : Q (.bl true) H) : Q (.bl b) H := by rw [h]; exact k
/-! ### numbers -/
theorem abs_if (a : Int) : (if a < 0 then -a else a) = (a.natAbs : Int) := by split <;> omega
theorem emod_cast (m n : Nat) : ((m : Int) % (n : Int)) = ((m % n : Nat) : Int) := rfl
theorem gcd_turn (m n : Nat) : Nat.gcd n (m % n) = Nat.gcd m n := by
  rw [Nat.gcd_comm n, ← Nat.gcd_rec n m, Nat.gcd_comm]
/-- Euclid's product halves -/
theorem euclid_half {m n : Nat} (h : n < m) (h0 : 0 < n) : 2 * (n * (m % n)) < m * n := by
  have h1 : m % n < n := Nat.mod_lt _ h0
  have h2 : n + m % n ≤ m := by
    have e := Nat.div_add_mod m n
    have q : 1 ≤ m / n := Nat.div_pos (Nat.le_of_lt h) h0
    have q2 : n * 1 ≤ n * (m / n) := Nat.mul_le_mul_left n q
    omega
  have h3 : 2 * (m % n) < m := by omega
  have h4 : n * (2 * (m % n)) < n * m := Nat.mul_lt_mul_of_pos_left h3 h0
  have e1 : n * (2 * (m % n)) = 2 * (n * (m % n)) := by rw [Nat.mul_left_comm]
  have e2 : n * m = m * n := Nat.mul_comm _ _
  omega
end Lv

namespace Lv
open PySem L2
variable [TabA]
theorem ixN_nat {n j : Nat} (h : j < n) : ixN n (j : Int) = some j := by
  unfold ixN
  rw [if_pos (by omega), if_pos (by omega)]; simp
theorem seq_nat {n j : Nat} (h : j < n) : seqIndex? (j : Int) n = some j := (ixN_seq (ixN_nat h)).1
theorem atI_int {α : Type} {xs : List α} {i : Int} {v : α} (h0 : 0 ≤ i) (h : xs[i.toNat]? = some v) : atI xs i = some v := by
  have e : (i.toNat : Int) = i := by omega
  rw [← e]; exact atI_nat h
theorem nat1000 {i : Int} (h0 : 0 ≤ i) (h : i < 2 ^ 200) : i.natAbs < 2 ^ 1000 := by
  have h1 : i.natAbs < 2 ^ 200 := by
    have e : ((2 : Int) ^ 200) = ((2 ^ 200 : Nat) : Int) := by norm_cast
    omega
  exact Nat.lt_of_lt_of_le h1 (Nat.pow_le_pow_right (by decide) (by decide))
theorem mulW {i j : Int} (hi : i.natAbs < 2 ^ 1000) (hj : j.natAbs < 2 ^ 1000) : CMulW i j := wide_mul hi hj (by decide) (by decide) (by decide)
theorem mulSm {i j : Int} (a : 0 ≤ i) (b : i < 18446744073709551616) (c : 0 ≤ j) (d : j < 18446744073709551616) : CMulW i j := mulW (nat1000 a (Int.lt_of_lt_of_le b (by decide))) (nat1000 c (Int.lt_of_lt_of_le d (by decide)))
theorem divW {i j : Int} (h : 0 < j) (hj : j.natAbs < 2 ^ 1000) : CDivW i j := wide_div h hj (by decide) (by decide)
end Lv

namespace Lv
open PySem L2
variable [TabA]
/-- [e for x in t], t a tuple, each element's value f x, the heap may grow: the rest of the reading behind the walked tuple -/
theorem lc_mapT {K : PySem.W.Frag} {a : Addr} {xs : List V} {j : Nat} {te : TE} {vs : List Nat} {σ : L2.St} {G P H : Hp} {Qd : Hp → Prop} {D : Addr} (f : V → V) (hD : H D = none) (J : Join G P H)
    (hS : SqT K G a xs) (hn : xs.length ≤ 10000) (hw : ∀ x, wipe ((wipe σ vs).set j (some x)) vs = wipe σ vs)
    (he : ∀ (x : V) (G' H' : Hp) (R : VK), x ∈ xs → Ex G G' → Join G' P H' → (∀ H2, Ex H' H2 → R (f x) H2) → te ((wipe σ vs).set j (some x)) H' R)
    (hq : ∀ G' H', Ex G G' → Join G' P H' → G' D = some (.lst (xs.map f)) → Qd H') :
    ∃ W : Nat → Nat → Hp → Prop, (∃ m, W 0 m (upd H D (.lst []))) ∧ ∀ i m H, W i m H →
      ((Itt K a).stop i H ∧ Qd H) ∨ ((Itt K a).go i H ∧ ∃ Nx : Hp → Prop, (∀ H', Nx H' → ∃ m', m' < m ∧ W (i + 1) m' H') ∧ ∀ x H', (Itt K a).yld i H x H' → gName j x (wipe σ vs) H' fun σ2 H2 => wipe σ2 vs = wipe σ vs ∧ tYes σ2 H2 fun b H3 =>
        if b = true then te σ2 H3 fun y H4 => ∃ acc, H4 D = some (.lst acc) ∧ acc.length < sizeLine ∧ Nx (upd H4 D (.lst (acc ++ [y]))) else Nx H3) := by
  have gD : G D = none := J.ng hD
  have pD : P D = none := J.np hD
  refine lc_tup (K := K) (a := a) (xs := xs) (Qd := Qd) (fun i H' => ∃ G', Ex G G' ∧ Join G' P H' ∧ G' D = some (.lst ((xs.take i).map f))) ⟨_, Ex.new gD, J.newG hD, upd_same⟩ (fun i H' _ ⟨G', e, J', _⟩ => J'.exG.t (e.t hS)) (fun i y H' hi ⟨G', e, J', hd⟩ => ?_) (fun H' ⟨G', e, J', hd⟩ => ?_)
  · have hm : y ∈ xs := List.mem_of_getElem? hi
    refine ⟨hw _, iteT (A := te ((wipe σ vs).set j (some y)) H' _) (B := True) ?_⟩
    refine he y G' H' _ hm e J' fun H2 e2 => ⟨(xs.take i).map f, e2 D _ (J'.g D _ hd), ?_, ?_⟩
    · refine szlt ?_
      have h1 : i < xs.length := (List.getElem?_eq_some_iff.mp hi).1
      rw [List.length_map, List.length_take]; omega
    · refine ⟨upd (grG P H2) D (.lst ((xs.take i).map f ++ [f y])), ?_, (J'.grow e2).setGo (J'.growEx e2 _ _ hd), ?_⟩
      · exact fun b o q => by
          rw [upd_ne (ne_of_none q gD)]
          exact J'.growEx e2 b o (e b o q)
      · rw [upd_same, take_more hi, List.map_append]; rfl
  · refine hq G' H' e J' ?_
    rw [hd, List.take_length]
end Lv

/-! enumerate over a tuple: a rule of our own -/
namespace Lv
open PySem PySem.Spec PyProof.Rows L2
variable [TabA]
set_option maxHeartbeats 4000000 in
theorem meets_enum1 {v : Value} {o : Obj} {H : Heap → Prop} (B : Begins v o H) :
    Meets (Builtin.«enumerate.__new__» ⟨[.type "enumerate", v], []⟩) (fun _ R s => H s.heap ∧
      R (.ok (.ret (.ref (s.heap.push o).objs.size))) { s with heap := (s.heap.push o).push { cls := .type "enumerate", data := .fields #[.none, .bool false, .ref s.heap.objs.size, rawInt 0, .none, .none] } }) :=
  .of_wp fun prog w A R s h => by
    obtain ⟨hp, g, d, tk, os⟩ := s; obtain ⟨h1, h⟩ := h
    have hsub := sub_enumerate
    have q1 : ∀ {A' : Around} {E : Value → Shared → Prop} {Q : Value → Shared → Prop}, Q (.ref hp.objs.size) ⟨hp.push o, g, d, tk, os⟩ → wpAny (model prog w) A' (pyIter v) Q E ⟨hp, g, d, tk, os⟩ :=
      fun q => B.iter prog w _ _ ⟨hp, g, d, tk, os⟩ _ h1 q
    wp_walk using q1
    refine wpAny_stack_any fun st => wpAny_pure ?_
    split
    · rename_i c _ _ _ _ _
      cases (c == Value.type "enumerate")
      · wp_walk using q1
        exact ⟨_, rfl, h⟩
      · wp_walk using q1
        exact ⟨_, rfl, h⟩
    · wp_walk using q1
      exact ⟨_, rfl, h⟩
theorem call_enum1 {prog : Program} {w : World} {A : Around} {E : Value → Shared → Prop} {s : Shared} {v : Value} {o : Obj} {H : Heap → Prop} {Q : Value → Shared → Prop} (B : Begins v o H) (h1 : H s.heap)
    (h : ∀ h', IsEnum h' (s.heap.objs.size + 1) s.heap.objs.size 0 .none → h'.get? s.heap.objs.size = some o → h'.objs.size = s.heap.objs.size + 2 →
      (∀ b o, s.heap.get? b = some o → h'.get? b = some o) → Q (.ref (s.heap.objs.size + 1)) { s with heap := h' }) :
    wpAny (model prog w) A (call (.type "enumerate") [v]) Q E s := by
  refine callType_new F.called_enumerate (by decide) (F.typeCall_enumerate_1 _) (F.newCall_enumerate_1 _) (fun obj => F.args_object_init_2 obj _) F.entry_enumerate_new
    (meets_enum1 B) ⟨h1, ?_⟩
  have hz : (s.heap.push o).objs.size = s.heap.objs.size + 1 := Heap.size_push ..
  show _ ∧ _
  rw [hz]
  have he : IsEnum ((s.heap.push o).push { cls := .type "enumerate", data := .fields #[.none, .bool false, .ref s.heap.objs.size, rawInt 0, .none, .none] }) (s.heap.objs.size + 1) s.heap.objs.size 0 .none := by
    have := Heap.get?_push_size (s.heap.push o) (o := { cls := .type "enumerate", data := .fields #[.none, .bool false, .ref s.heap.objs.size, rawInt 0, .none, .none] }) rfl
    rw [hz] at this; exact this
  refine ⟨⟨_, he, rfl⟩, h _ he (Heap.get?_push_of_some _ (Heap.get?_push_size _ B.free)) (by rw [Heap.size_push, hz]) fun b o x => Heap.get?_push_of_some _ (Heap.get?_push_of_some _ x)⟩
/-- the tuple at a, each item in a new pair -/
def Itet (K : PySem.W.Frag) (a : Addr) : It :=
  ⟨fun i H => ∃ (xs : List V) (x : V), SqT K H a xs ∧ xs[i]? = some x, fun i H v H' => ∃ T x, v = .ref T ∧ H T = none ∧ H' = upd H T (.tup [.int (i : Nat), x]) ∧ ∀ xs, SqT K H a xs → xs[i]? = some x, fun i H => ∃ xs : List V, SqT K H a xs ∧ xs.length = i⟩
theorem turn_enumT {P : Program} {w : World} {K : PySem.W.Frag} {elts : List Expr} {kk : Nat} {tpos : Pos} (a e it : Addr) (hat : a ≠ it) :
    Turn P w K (.Tuple elts kk tpos) (Itet K a) [e, it] e (fun i h => (∃ old, IsEnum h e it ((i : Nat) : Int) old) ∧ h.IsTupleIter it a i ∧ e ≠ it ∧ a ≠ e) where
  mem := by simp
  obj := fun i h st b hb => by
    obtain ⟨⟨old, he⟩, ⟨o, ho, hc, hd⟩, _⟩ := st
    have e' : b = e ∨ b = it := by simpa using hb
    rcases e' with z | z
    · rw [z]; exact ⟨_, he, fun v q => nomatch q⟩
    · rw [z]; exact ⟨o, ho, fun v q => by rw [hd] at q; cases q⟩
  keep := fun i h h' st k => let ⟨⟨old, he⟩, hi, hne⟩ := st; ⟨⟨old, k e (by simp) _ he⟩, hi.at fun o q => k it (by simp) o q, hne⟩
  item := by
    intro X hP hw hK hc i pins s σ H E I hf st hg
    subst hP hw hK
    obtain ⟨⟨old, he⟩, hit, hne, hae⟩ := st
    obtain ⟨xs, x, hq, hx⟩ := hg
    obtain ⟨its, rv, p, hz⟩ := I.tuple hq
    obtain ⟨u, hu, ru⟩ := rv.get hx
    have hel : e < s.heap.objs.size := Heap.lt_size he
    have hil : it < s.heap.objs.size := by obtain ⟨_, q, _⟩ := hit; exact Heap.lt_size q
    have hlt : i < its.toArray.size := by
      have := (List.getElem?_eq_some_iff.mp hu).1
      simpa using this
    refine wpAny_pyNext_enum_itemD (fp := [it, a]) (Draws.tuple (A := X.A.in1) (I.ok.hd hc) it a hat its.toArray) he ⟨hit, show s.heap.IsTuple a its.toArray from p⟩ hlt hne (by simp [hne, Ne.symm hae]) fun x' h' tk hx' ho hst' hT hsz hk => ?_
    have ex : x' = u := by
      have h1 : its.toArray[i]? = some u := by simpa using hu
      rw [h1] at hx'
      exact (Option.some.inj hx').symm
    subst ex
    refine ⟨_, rfl, wpAny_letOwnedTupleGo_enum (s := { s with heap := h', toks := tk + 1 }) ho fun h'' he' sb => ?_⟩
    have hT2 : h''.get? s.heap.objs.size = some { cls := .type "tuple", data := .seq #[.int i tk, x'] } := (sb.2 _ (Nat.ne_of_gt hel)).trans hT
    have new : ObjOk X.prog X.w (upd H s.heap.objs.size (.tup [.int (i : Nat), x])) h'' s.heap.objs.size (.tup [.int (i : Nat), x]) :=
      ⟨by show 2 ≤ sizeLine; decide, [.int i tk, x'], .cons ⟨_, rfl⟩ (.cons ru .nil), ⟨_, hT2, rfl, _, rfl⟩⟩
    have I1 : Inv X pins σ (upd H s.heap.objs.size (.tup [.int (i : Nat), x])) { s with heap := h'', toks := tk + 1 } :=
      I.turnedNew (ch := [e, it]) (fun b ob hb q => (sb.2 b (fun z => hb (by simp [z]))).trans (hk b ob (fun z => hb (by simp [z])) (fun z => hb (by simp [z])) q)) hf (Nat.le_refl _) new
    refine ⟨.ref s.heap.objs.size, _, I1, rfl, ⟨_, x, rfl, I.hok.fresh (Nat.le_refl _), rfl, fun ys hy => by rw [I.tuple_inj hy hq]; exact hx⟩, ⟨⟨x', ?_⟩, hst'.1.at fun o q => (sb.2 it (Ne.symm hne)).trans q, hne, hae⟩, fun b hb => ?_⟩
    · have e1 : ((i + 1 : Nat) : Int) = (i : Int) + 1 := by omega
      rw [e1]; exact he'
    · have hb' : b < s.heap.objs.size := by
        have e' : b = e ∨ b = it := by simpa using hb
        rcases e' with z | z
        · rw [z]; exact hel
        · rw [z]; exact hil
      rw [upd_ne (Nat.ne_of_lt hb')]
      exact (hf b hb).1
  done := by
    intro X hP hw hK hc i pins s σ H E I hf st hg
    subst hP hw hK
    obtain ⟨⟨old, he⟩, hit, hne, hae⟩ := st
    obtain ⟨xs, hq, hx⟩ := hg
    obtain ⟨its, rv, p, hz⟩ := I.tuple hq
    obtain ⟨f0, f1, f2, f3, f4, f5⟩ := hf it (by simp)
    have hl := rv.length
    have hpt : s.heap.IsTuple a its.toArray := p
    have hn : its.toArray.size = i := by
      rw [← hx, hl]; simp
    refine wpAny_pyNext_enum_endD (fp := [it, a]) (n := its.toArray.size) (Draws.tuple (A := X.A.in1) (I.ok.hd hc) it a hat its.toArray) he ⟨by rw [hn]; exact hit, hpt⟩ fun h' eb => ⟨rfl, I.turned (t' := s.toks) (fun b o hb q => eb b o hb q) f0 f1 f3 f4 f5⟩
  self := fun A i s Q E st h => let ⟨⟨_, he⟩, _⟩ := st; wpAny_pyIter_enum he h
def iEnumT (K : PySem.W.Frag) (ta : TA) : TI := fun σ H R => ta σ H fun vs H1 => ∃ a xs, vs = [.ref a] ∧ SqT K H1 a xs ∧ R (Itet K a) H1
theorem pi_enumT {X : Cx} {e : Expr} {ta : TA} {p pos tpos : Pos} {elts : List Expr} {kk : Nat} (hg : Gl X "enumerate") (hm : X.mg "enumerate" = none) (ha : PA X [e] ta) (hs : starEach [e] X.env = [(false, eval e X.env)] := by rfl) :
    PI X (.Tuple elts kk tpos) (.Call (.Name "enumerate" p) [e] [] pos) (iEnumT X.K ta) := by
  refine ⟨fun pins s σ H R I h => ?_⟩
  refine Call_ (ld_blt I hg hm boot_enumerate (PyProof.Rows.callWith_type1 (thn (ha.run pos pins s σ H _ I h) fun us s1 ⟨vs, H1, I1, r1, q1⟩ => ?_) hs rfl))
  obtain ⟨a, xs, ex, hq, q⟩ := q1
  subst ex
  cases r1 with
  | cons r rr =>
    cases rr
    cases r
    obtain ⟨its, rv, p', hz⟩ := I1.tuple hq
    have hpt : s1.heap.IsTuple a its.toArray := p'
    have hal : a < s1.heap.objs.size := p'.lt
    refine call_enum1 (begins_tuple a its.toArray) hpt fun h' he hit hsz hk => wpAny_pyIter_enum he ?_
    have I2 : Inv X pins σ H1 { s1 with heap := h' } := I1.kept (t' := s1.toks) hk
    refine ⟨s1.heap.objs.size + 1, [s1.heap.objs.size + 1, s1.heap.objs.size], _, _, H1, rfl, I2, turn_enumT a (s1.heap.objs.size + 1) s1.heap.objs.size (Nat.ne_of_lt hal), ⟨⟨.none, he⟩, ⟨_, hit, rfl, rfl⟩, Nat.succ_ne_self _, Nat.ne_of_lt (Nat.lt_succ_of_lt hal)⟩, fun b hb => ?_, q⟩
    have e' : b = s1.heap.objs.size + 1 ∨ b = s1.heap.objs.size := by simpa using hb
    have hle : s1.heap.objs.size ≤ b := by
      rcases e' with z | z
      · rw [z]; exact Nat.le_add_right _ _
      · rw [z]; exact Nat.le_refl _
    exact I1.fpOk hle (I1.hok.fresh hle)
theorem for_enumT {K : PySem.W.Frag} {a : Addr} {xs : List V} {g : TG} {tb : TS} {D : Ends} {σ : L2.St} {H : Hp} (Pv : Nat → L2.St → Hp → Prop) (h0 : Pv 0 σ H) (hl : ∀ i σ H, i ≤ xs.length → Pv i σ H → SqT K H a xs)
    (hs : ∀ (i : Nat) x σ H T, xs[i]? = some x → Pv i σ H → H T = none → g (.ref T) σ (upd H T (.tup [.int i, x])) fun σ2 H2 => tb { D with nx := Pv (i + 1), ct := Pv (i + 1), bk := D.nx } σ2 H2) (hd : ∀ σ H, Pv xs.length σ H → D.nx σ H) :
    ∃ W : Nat → Nat → L2.St → Hp → Prop, (∃ m, W 0 m σ H) ∧ ∀ i m σ H, W i m σ H →
      ((Itet K a).stop i H ∧ D.nx σ H) ∨ ((Itet K a).go i H ∧ ∃ N : L2.St → Hp → Prop, (∀ σ' H', N σ' H' → ∃ m', m' < m ∧ W (i + 1) m' σ' H') ∧ ∀ x H', (Itet K a).yld i H x H' → g x σ H' fun σ2 H2 => tb { D with nx := N, ct := N, bk := D.nx } σ2 H2) := by
  refine ⟨fun i m σ H => m = xs.length - i ∧ i ≤ xs.length ∧ Pv i σ H, ⟨xs.length, by simp, Nat.zero_le _, h0⟩, ?_⟩
  rintro i m σ H ⟨rfl, hi, p⟩
  have q := hl i σ H hi p
  by_cases hlt : i < xs.length
  · refine .inr ⟨⟨xs, xs[i], q, by simp [hlt]⟩, Pv (i + 1), fun σ' H' p' => ⟨xs.length - (i + 1), by omega, rfl, hlt, p'⟩, fun x H' y => ?_⟩
    obtain ⟨T, z, e1, e2, e3, y⟩ := y
    subst e1 e3
    exact hs i z σ H T (y xs q) p e2
  · have e : i = xs.length := by omega
    subst e
    exact .inl ⟨⟨xs, q, rfl⟩, hd σ H p⟩
end Lv

/-! machines over a heap -/
namespace Lv
open PySem L2
variable [TabA]
/-- an event: before, after, tries, points -/
structure Ev where
  b : Int
  a : Int
  w : Int
  x : Int
deriving DecidableEq
def evV (e : Ev) : List V := [.int e.b, .int e.a, .int e.w, .int e.x]
def EvOk (n : Int) (e : Ev) : Prop := 0 ≤ e.b ∧ e.b < n ∧ 0 ≤ e.a ∧ e.a < n ∧ 1 ≤ e.w ∧ e.w ≤ 40 ∧ -400 ≤ e.x ∧ e.x ≤ 400
def EvL (G : Hp) (vs : List V) (es : List Ev) : Prop := vs.length = es.length ∧ ∀ (i : Nat) (e : Ev), es[i]? = some e → ∃ t : Addr, vs[i]? = some (.ref t) ∧ G t = some (.tup (evV e))
theorem EvL.mono {G G' : Hp} {vs : List V} {es : List Ev} (e : Ex G G') (h : EvL G vs es) : EvL G' vs es := ⟨h.1, fun i z hz => by
  obtain ⟨t, h1, h2⟩ := h.2 i z hz
  exact ⟨t, h1, e _ _ h2⟩⟩
theorem EvL.get {G : Hp} {vs : List V} {es : List Ev} (h : EvL G vs es) {i : Nat} {v : V} (hv : vs[i]? = some v) : ∃ (e : Ev) (t : Addr), es[i]? = some e ∧ v = .ref t ∧ G t = some (.tup (evV e)) := by
  have hi : i < es.length := by rw [← h.1]; exact (List.getElem?_eq_some_iff.mp hv).1
  obtain ⟨t, h1, h2⟩ := h.2 i es[i] (List.getElem?_eq_getElem hi)
  rw [hv] at h1
  exact ⟨es[i], t, List.getElem?_eq_getElem hi, Option.some.inj h1, h2⟩
def EvsAt (G : Hp) (t : Addr) (es : List Ev) : Prop := ∃ vs : List V, G t = some (.tup vs) ∧ EvL G vs es
theorem EvsAt.mono {G G' : Hp} {t : Addr} {es : List Ev} (e : Ex G G') (h : EvsAt G t es) : EvsAt G' t es := by
  obtain ⟨vs, h1, h2⟩ := h
  exact ⟨vs, e _ _ h1, h2.mono e⟩
/-- the numbers, from k on, of the events that lead from s -/
def outs (k : Nat) : List Ev → Nat → List Int
  | [], _ => []
  | e :: r, s => if e.b = (s : Int) then (k : Int) :: outs (k + 1) r s else outs (k + 1) r s
theorem outs_app (s : Nat) (e : Ev) : ∀ (l : List Ev) (k : Nat), outs k (l ++ [e]) s = outs k l s ++ (if e.b = (s : Int) then [((k + l.length : Nat) : Int)] else [])
  | [], k => by
    show (if e.b = (s : Int) then (k : Int) :: outs (k + 1) [] s else outs (k + 1) [] s) = _
    split
    · rfl
    · rfl
  | a :: r, k => by
    have ih := outs_app s e r (k + 1)
    have e2 : k + 1 + r.length = k + (a :: r).length := by simp; omega
    rw [e2] at ih
    show (if a.b = (s : Int) then (k : Int) :: outs (k + 1) (r ++ [e]) s else outs (k + 1) (r ++ [e]) s) = (if a.b = (s : Int) then (k : Int) :: outs (k + 1) r s else outs (k + 1) r s) ++ _
    rw [ih]
    split
    · rfl
    · rfl
theorem outs_len (s : Nat) : ∀ (l : List Ev) (k : Nat), (outs k l s).length ≤ l.length
  | [], _ => Nat.le_refl _
  | a :: r, k => by
    have ih := outs_len s r (k + 1)
    show (if a.b = (s : Int) then (k : Int) :: outs (k + 1) r s else outs (k + 1) r s).length ≤ r.length + 1
    split
    · simp; omega
    · omega
def mfl (n : Int) (t ko : Addr) : List (Str × V) := [("standings", .int n), ("events", .ref t), ("kept_out", .ref ko)]
theorem nse : ¬ (("standings" : Str) = "events") := by decide +kernel
theorem nsk : ¬ (("standings" : Str) = "kept_out") := by decide +kernel
theorem nek : ¬ (("events" : Str) = "kept_out") := by decide +kernel
theorem mf1 (n : Int) : putF "standings" (.int n) [] = ([("standings", V.int n)] : List (Str × V)) := rfl
theorem mf2 (n : Int) (t : Addr) : putF "events" (.ref t) ([("standings", V.int n)] : List (Str × V)) = ([("standings", V.int n), ("events", V.ref t)] : List (Str × V)) := by
  show (if ("standings" : Str) = "events" then _ else _) = _
  rw [if_neg nse]; rfl
theorem mf3 (n : Int) (t ko : Addr) : putF "kept_out" (.ref ko) ([("standings", V.int n), ("events", V.ref t)] : List (Str × V)) = mfl n t ko := by
  show (if ("standings" : Str) = "kept_out" then _ else (("standings" : Str), V.int n) :: (if ("events" : Str) = "kept_out" then _ else _)) = _
  rw [if_neg nsk, if_neg nek]; rfl
theorem ml1 (n : Int) (t ko : Addr) : (mfl n t ko).lookup ("standings" : Str) = some (.int n) := by simp [mfl, List.lookup]
theorem ml2 (n : Int) (t ko : Addr) : (mfl n t ko).lookup ("events" : Str) = some (.ref t) := by
  have h : (("events" : Str) == "standings") = false := by decide +kernel
  simp [mfl, List.lookup, h]
theorem ml3 (n : Int) (t ko : Addr) : (mfl n t ko).lookup ("kept_out" : Str) = some (.ref ko) := by
  have h : (("kept_out" : Str) == "standings") = false := by decide +kernel
  have h2 : (("kept_out" : Str) == "events") = false := by decide +kernel
  simp [mfl, List.lookup, h, h2]
/-- a machine of the class at C: n standings, the events es -/
def MachAt (C : Addr) (G : Hp) (m : Addr) (n : Int) (es : List Ev) : Prop := ∃ (dx t ko : Addr) (ks : List V), G m = some (.ins C dx (mfl n t ko)) ∧ EvsAt G t es ∧ G ko = some (.lst ks) ∧ (ks.length : Int) = n ∧
  ∀ i : Nat, i < ks.length → ∃ k : Addr, ks[i]? = some (.ref k) ∧ G k = some (.lst ((outs 0 es i).map V.int))
theorem MachAt.mono {C : Addr} {G G' : Hp} {m : Addr} {n : Int} {es : List Ev} (e : Ex G G') (h : MachAt C G m n es) : MachAt C G' m n es := by
  obtain ⟨dx, t, ko, ks, h1, h2, h3, h4, h5⟩ := h
  refine ⟨dx, t, ko, ks, e _ _ h1, h2.mono e, e _ _ h3, h4, fun i hi => ?_⟩
  obtain ⟨k, q1, q2⟩ := h5 i hi
  exact ⟨k, q1, e _ _ q2⟩
/-- all that stood but x stands -/
def But (x : Addr) (G G' : Hp) : Prop := ∀ b o, G b = some o → b ≠ x → G' b = some o
/-- Machine.keep and its __init__: a fresh instance at x becomes a machine -/
def spKeep (C : Addr) : Sp := fun vs H Q _ => ∃ (x t : Addr) (n : Int) (dx : Addr) (es : List Ev) (G P : Hp), vs = [.ref x, .int n, .ref t] ∧ Join G P H ∧ G x = some (.ins C dx []) ∧ EvsAt G t es ∧ 1 ≤ n ∧ n ≤ 10000 ∧ es.length ≤ 10000 ∧
  (∀ e ∈ es, 0 ≤ e.b ∧ e.b < n) ∧ ∀ G' H', Join G' P H' → But x G G' → MachAt C G' x n es → Q .non H'
def spMInit (C : Addr) : Sp := fun vs H Q _ => ∃ (x t : Addr) (n : Int) (dx : Addr) (es : List Ev) (G P : Hp), vs = [.ref x, .int n, .ref t] ∧ Join G P H ∧ G x = some (.ins C dx []) ∧ EvsAt G t es ∧ 1 ≤ n ∧ n ≤ 12 ∧ es.length ≤ 30 ∧
  (∀ e ∈ es, EvOk n e) ∧ ∀ G' H', Join G' P H' → But x G G' → MachAt C G' x n es → Q .non H'
end Lv

namespace Lv
open PySem L2
variable [TabA]
theorem low_facts {a b : Int} (hb : 0 < b) : 1 ≤ b / (Int.gcd a b : Nat) ∧ Int.gcd (a / (Int.gcd a b : Nat)) (b / (Int.gcd a b : Nat)) = 1 ∧ (a / (Int.gcd a b : Nat)).natAbs ≤ a.natAbs ∧ (b / (Int.gcd a b : Nat)).natAbs ≤ b.natAbs := by
  have g0 : 0 < Int.gcd a b := Int.gcd_pos_of_ne_zero_right a (by omega)
  have h1 : ((Int.gcd a b : Nat) : Int) ∣ a := Int.gcd_dvd_left ..
  have h2 : ((Int.gcd a b : Nat) : Int) ∣ b := Int.gcd_dvd_right ..
  refine ⟨?_, Int.gcd_ediv_gcd_ediv_gcd_of_ne_zero_right (by omega), ?_, ?_⟩
  · obtain ⟨c, hc⟩ := h2
    have : b / (Int.gcd a b : Nat) = c := by
      rw [hc]
      rw [← hc]
      exact Int.ediv_eq_of_eq_mul_right (by omega) hc
    rw [this]
    by_cases h : 1 ≤ c
    · exact h
    · exfalso
      have : ((Int.gcd a b : Nat) : Int) * c ≤ 0 := Int.mul_nonpos_of_nonneg_of_nonpos (by omega) (by omega)
      omega
  · rw [Int.natAbs_ediv_of_dvd h1]
    exact Nat.div_le_self _ _
  · rw [Int.natAbs_ediv_of_dvd h2]
    exact Nat.div_le_self _ _
theorem blT {p : Prop} [Decidable p] (h : p) : V.bl (decide p) = V.bl true := by rw [decide_eq_true h]
theorem blF {p : Prop} [Decidable p] (h : ¬ p) : V.bl (decide p) = V.bl false := by rw [decide_eq_false h]
end Lv

namespace Lv
open PySem L2
variable [TabA]
theorem EvL.upd {G : Hp} {vs : List V} {es : List Ev} {L : Addr} {xs : List V} {o : HO} (h : EvL G vs es) (hL : G L = some (.lst xs)) : EvL (L2.upd G L o) vs es := ⟨h.1, fun i e he => by
  obtain ⟨t, h1, h2⟩ := h.2 i e he
  exact ⟨t, h1, by rw [upd_ne (ne_of h2 hL (by intro z; cases z))]; exact h2⟩⟩
theorem EvL.add {G : Hp} {vs : List V} {es : List Ev} {t : Addr} {e : Ev} (h : EvL G vs es) (ht : G t = some (.tup (evV e))) : EvL G (vs ++ [.ref t]) (es ++ [e]) := ⟨by simp [h.1], fun i e' he => by
  by_cases hi : i < es.length
  · rw [List.getElem?_append_left hi] at he
    obtain ⟨t', h1, h2⟩ := h.2 i e' he
    exact ⟨t', by rw [List.getElem?_append_left (by rw [h.1]; exact hi)]; exact h1, h2⟩
  · have hl := (List.getElem?_eq_some_iff.mp he).1
    simp at hl
    have ei : i = es.length := by omega
    subst ei
    simp at he
    subst he
    exact ⟨t, by rw [← h.1]; simp, ht⟩⟩
theorem EvL.nil {G : Hp} : EvL G [] [] := ⟨rfl, fun i e he => by simp at he⟩
/-- events as the law draws them -/
def EvSm (n : Int) (e : Ev) : Prop := 0 ≤ e.b ∧ e.b < n ∧ 0 ≤ e.a ∧ e.a < n ∧ 1 ≤ e.w ∧ e.w ≤ 3 ∧ -4 ≤ e.x ∧ e.x ≤ 4
theorem EvSm.ok {n : Int} {e : Ev} (h : EvSm n e) : EvOk n e := by
  obtain ⟨h1, h2, h3, h4, h5, h6, h7, h8⟩ := h
  exact ⟨h1, h2, h3, h4, h5, by omega, by omega, by omega⟩
/-- (standings, events) at p -/
def PartsAt (G : Hp) (p : Addr) (n : Int) (es : List Ev) : Prop := ∃ t, G p = some (.tup [.int n, .ref t]) ∧ EvsAt G t es
theorem PartsAt.mono {G G' : Hp} {p : Addr} {n : Int} {es : List Ev} (e : Ex G G') (h : PartsAt G p n es) : PartsAt G' p n es := by
  obtain ⟨t, h1, h2⟩ := h
  exact ⟨t, e _ _ h1, h2.mono e⟩
def spParts : Sp := fun vs H Q _ => ∃ (l : Addr) (a b : Int) (G P : Hp), vs = [.ref l, .int a, .int b] ∧ Join G P H ∧ Pot P l ∧ 1 ≤ a ∧ a ≤ 1000 ∧ 1 ≤ b ∧ b ≤ 1000 ∧
  ∀ (p : Addr) (n : Int) (es : List Ev) (G' P' H' : Hp), Ex G G' → Join G' P' H' → Pot P' l → PartsAt G' p n es → 1 ≤ n → n ≤ a → 1 ≤ es.length → (es.length : Int) ≤ b → (∀ e ∈ es, EvSm n e) → Q (.ref p) H'
end Lv
namespace Lv
open PySem L2
variable [TabA]
theorem Join.exH {G P H G' H' : Hp} (j : Join G P H) (e : Ex G G') (j' : Join G' P H') : Dom H H' := ⟨fun {b} h => by
  have ht := j'.mt (.new h)
  cases hg : G b with
  | some u => rw [j'.g _ _ (e _ _ hg)] at h; cases h
  | none =>
    cases hp : P b with
    | some u => rw [j'.p _ _ hp] at h; cases h
    | none => exact j.no _ hg hp ht⟩
end Lv

namespace Lv
open PySem L2
variable [TabA]
/-! ### lists of tuples -/
def TupL {α : Type} (f : α → List V) (G : Hp) (vs : List V) (as : List α) : Prop := vs.length = as.length ∧ ∀ (i : Nat) (a : α), as[i]? = some a → ∃ t : Addr, vs[i]? = some (.ref t) ∧ G t = some (.tup (f a))
section
variable {α : Type} {f : α → List V} {G G' : Hp} {vs : List V} {as : List α}
theorem TupL.mono (e : Ex G G') (h : TupL f G vs as) : TupL f G' vs as := ⟨h.1, fun i a ha => by
  obtain ⟨t, h1, h2⟩ := h.2 i a ha
  exact ⟨t, h1, e _ _ h2⟩⟩
theorem TupL.get (h : TupL f G vs as) {i : Nat} {v : V} (hv : vs[i]? = some v) : ∃ (a : α) (t : Addr), as[i]? = some a ∧ v = .ref t ∧ G t = some (.tup (f a)) := by
  have hi : i < as.length := by rw [← h.1]; exact (List.getElem?_eq_some_iff.mp hv).1
  obtain ⟨t, h1, h2⟩ := h.2 i as[i] (List.getElem?_eq_getElem hi)
  rw [hv] at h1
  exact ⟨as[i], t, List.getElem?_eq_getElem hi, Option.some.inj h1, h2⟩
theorem TupL.upd {L : Addr} {xs : List V} {o : HO} (h : TupL f G vs as) (hL : G L = some (.lst xs)) : TupL f (L2.upd G L o) vs as := ⟨h.1, fun i a ha => by
  obtain ⟨t, h1, h2⟩ := h.2 i a ha
  exact ⟨t, h1, by rw [upd_ne (ne_of h2 hL (by intro z; cases z))]; exact h2⟩⟩
theorem TupL.add {t : Addr} {a : α} (h : TupL f G vs as) (ht : G t = some (.tup (f a))) : TupL f G (vs ++ [.ref t]) (as ++ [a]) := ⟨by simp [h.1], fun i a' ha => by
  by_cases hi : i < as.length
  · rw [List.getElem?_append_left hi] at ha
    obtain ⟨t', h1, h2⟩ := h.2 i a' ha
    exact ⟨t', by rw [List.getElem?_append_left (by rw [h.1]; exact hi)]; exact h1, h2⟩
  · have hl := (List.getElem?_eq_some_iff.mp ha).1
    simp at hl
    have ei : i = as.length := by omega
    subst ei
    simp at ha
    subst ha
    exact ⟨t, by rw [← h.1]; simp, ht⟩⟩
theorem TupL.nil : TupL f G [] [] := ⟨rfl, fun i e he => by simp at he⟩
end
/-- a tuple of ints, a list of such, as data -/
def iV (l : List Int) : List V := l.map V.int
def dT (l : List Int) : PyData := .tuple (l.map PyData.int)
def dL (ls : List (List Int)) : PyData := .list (ls.map dT)
theorem dp_ints {K : PySem.W.Frag} {H : Hp} : ∀ l : List Int, DpAll K H (iV l) (l.map PyData.int)
  | [] => .nil
  | a :: r => .cons (.int a) (dp_ints r)
theorem dp_tup {K : PySem.W.Frag} {H : Hp} {t : Addr} {l : List Int} (h : H t = some (.tup (iV l))) : Dp K H (.ref t) (dT l) := .tup (sqT h) (dp_ints l)
theorem dp_all {K : PySem.W.Frag} {H : Hp} : ∀ (ls : List (List Int)) (vs : List V), TupL iV H vs ls → DpAll K H vs (ls.map dT)
  | [], [], _ => .nil
  | [], v :: vs, h => by have := h.1; simp at this
  | l :: r, [], h => by have := h.1; simp at this
  | l :: r, v :: vs, h => by
    obtain ⟨t, h1, h2⟩ := h.2 0 l rfl
    have e : v = .ref t := Option.some.inj h1
    subst e
    exact .cons (dp_tup h2) (dp_all r vs ⟨by have := h.1; simp at this; exact this, fun i a ha => h.2 (i + 1) a ha⟩)
theorem dp_lst {K : PySem.W.Frag} {H : Hp} {p : Addr} {vs : List V} {ls : List (List Int)} (hp : H p = some (.lst vs)) (h : TupL iV H vs ls) : Dp K H (.ref p) (dL ls) := .lst (sqL hp) (dp_all ls vs h)
theorem lay_ints : ∀ l : List Int, PyData.canLayAll0 (l.map PyData.int) = true
  | [] => rfl
  | a :: r => by
    have ih := lay_ints r
    simp [PyData.canLayAll0, PyData.canLay0, ih]
theorem lay_tups : ∀ ls : List (List Int), PyData.canLayAll0 (ls.map dT) = true
  | [] => rfl
  | l :: r => by
    have ih := lay_tups r
    simp [PyData.canLayAll0, dT, PyData.canLay0, ih, lay_ints l]
theorem dep_ints : ∀ l : List Int, PyData.depthAll (l.map PyData.int) ≤ 1
  | [] => by simp [PyData.depthAll]
  | a :: r => by
    have ih := dep_ints r
    simp [PyData.depthAll, PyData.depth]
    omega
theorem dep_tups : ∀ ls : List (List Int), PyData.depthAll (ls.map dT) ≤ 2
  | [] => by simp [PyData.depthAll]
  | l :: r => by
    have ih := dep_tups r
    have h := dep_ints l
    simp [PyData.depthAll, PyData.depth, dT]
    omega
theorem shaped_dL (ls : List (List Int)) : SeqAt.shaped (dL ls) = true := by
  have h1 := lay_tups ls
  have h2 := dep_tups ls
  unfold SeqAt.shaped dL
  rw [PyData.canLay0, h1, PyData.depth]
  simp
  omega
theorem shaped_dT (l : List Int) : SeqAt.shaped (dT l) = true := by
  have h1 := lay_ints l
  have h2 := dep_ints l
  unfold SeqAt.shaped dT
  rw [PyData.canLay0, h1, PyData.depth]
  simp
  omega
theorem eqv_ints : ∀ l m : List Int, PyData.eqvAll (l.map PyData.int) (m.map PyData.int) = decide (l = m)
  | [], [] => by simp [PyData.eqvAll]
  | [], b :: m => by simp [PyData.eqvAll]
  | a :: l, [] => by simp [PyData.eqvAll]
  | a :: l, b :: m => by
    have ih := eqv_ints l m
    simp only [List.map_cons, PyData.eqvAll, PyData.eqv, ih]
    by_cases h : a = b
    · subst h; simp
    · simp [h]
theorem eqv_dT (l m : List Int) : PyData.eqv (dT l) (dT m) = decide (l = m) := by
  unfold dT; rw [PyData.eqv]; exact eqv_ints l m
theorem eqv_tups : ∀ l m : List (List Int), PyData.eqvAll (l.map dT) (m.map dT) = decide (l = m)
  | [], [] => by simp [PyData.eqvAll]
  | [], b :: m => by simp [PyData.eqvAll]
  | a :: l, [] => by simp [PyData.eqvAll]
  | a :: l, b :: m => by
    have ih := eqv_tups l m
    simp only [List.map_cons, PyData.eqvAll, eqv_dT, ih]
    by_cases h : a = b
    · subst h; simp
    · simp [h]
theorem eqv_dL (l m : List (List Int)) : PyData.eqv (dL l) (dL m) = decide (l = m) := by
  unfold dL; rw [PyData.eqv]; exact eqv_tups l m
/-! ### runs -/
def leads (es : List Ev) : Int → List Nat → Option Int
  | s, [] => some s
  | s, i :: r => match es[i]? with
    | some e => if e.b = s then leads es e.a r else none
    | none => none
theorem leads_app (es : List Ev) : ∀ (l m : List Nat) (s : Int), leads es s (l ++ m) = (leads es s l).bind fun y => leads es y m
  | [], m, s => rfl
  | i :: r, m, s => by
    show (match es[i]? with | some e => if e.b = s then leads es e.a (r ++ m) else none | none => none) = (match es[i]? with | some e => if e.b = s then leads es e.a r else none | none => none).bind _
    cases es[i]? with
    | none => rfl
    | some e =>
      show (if e.b = s then leads es e.a (r ++ m) else none) = (if e.b = s then leads es e.a r else none).bind _
      by_cases h : e.b = s
      · rw [if_pos h, if_pos h]; exact leads_app es r m e.a
      · rw [if_neg h, if_neg h]; rfl
theorem leads_at {es : List Ev} {rs : List Nat} {s z : Int} (h : leads es s rs = some z) {i k : Nat} (hk : rs[i]? = some k) : ∃ y e, leads es s (rs.take i) = some y ∧ es[k]? = some e ∧ e.b = y ∧ leads es s (rs.take (i + 1)) = some e.a := by
  have hi : i < rs.length := (List.getElem?_eq_some_iff.mp hk).1
  have e1 : rs = rs.take i ++ (k :: rs.drop (i + 1)) := by
    have h1 := List.take_append_drop i rs
    have h2 : rs.drop i = k :: rs.drop (i + 1) := by
      rw [List.drop_eq_getElem_cons hi]
      rw [List.getElem?_eq_getElem hi] at hk
      rw [Option.some.inj hk]
    rw [h2] at h1
    exact h1.symm
  have h2 : leads es s (rs.take i ++ (k :: rs.drop (i + 1))) = some z := by rw [← e1]; exact h
  rw [leads_app] at h2
  cases hy : leads es s (rs.take i) with
  | none => rw [hy] at h2; cases h2
  | some y =>
    rw [hy] at h2
    have h3 : (match es[k]? with | some e => if e.b = y then leads es e.a (rs.drop (i + 1)) else none | none => none) = some z := h2
    cases he : es[k]? with
    | none => rw [he] at h3; cases h3
    | some e =>
      rw [he] at h3
      have h4 : (if e.b = y then leads es e.a (rs.drop (i + 1)) else none) = some z := h3
      by_cases hb : e.b = y
      · refine ⟨y, e, rfl, rfl, hb, ?_⟩
        rw [take_more hk, leads_app, hy]
        show (match es[k]? with | some e => if e.b = y then leads es e.a [] else none | none => none) = some e.a
        rw [he]
        show (if e.b = y then some e.a else none) = some e.a
        rw [if_pos hb]
      · rw [if_neg hb] at h4; cases h4
/-- a run: its numbers -/
def IsRun (es : List Ev) (rs : List Nat) : Prop := ∃ z, leads es 0 rs = some z
def rV (rs : List Nat) : List V := rs.map fun (i : Nat) => V.int (i : Int)
theorem rV_at {rs : List Nat} {i : Nat} {y : V} (h : (rV rs)[i]? = some y) : ∃ k, rs[i]? = some k ∧ y = V.int (k : Int) := by
  unfold rV at h
  rw [List.getElem?_map] at h
  cases e : rs[i]? with
  | none => rw [e] at h; cases h
  | some z => rw [e] at h; exact ⟨z, rfl, (Option.some.inj h).symm⟩
/-- the sums of tries, of points -/
def sumW (es : List Ev) (rs : List Nat) : Int := (rs.map fun k => ((es[k]?).map Ev.w).getD 0).sum
def sumX (es : List Ev) (rs : List Nat) : Int := (rs.map fun k => ((es[k]?).map Ev.x).getD 0).sum
theorem sumW_more {es : List Ev} {rs : List Nat} {i k : Nat} {e : Ev} (hk : rs[i]? = some k) (he : es[k]? = some e) : sumW es (rs.take (i + 1)) = sumW es (rs.take i) + e.w := by
  unfold sumW
  rw [take_more hk, List.map_append, List.sum_append]
  simp [he]
theorem sumX_more {es : List Ev} {rs : List Nat} {i k : Nat} {e : Ev} (hk : rs[i]? = some k) (he : es[k]? = some e) : sumX es (rs.take (i + 1)) = sumX es (rs.take i) + e.x := by
  unfold sumX
  rw [take_more hk, List.map_append, List.sum_append]
  simp [he]
def boardsOf (es : List Ev) (rs : List Nat) : List (List Int) := (List.range rs.length).map fun i => [sumW es (rs.take (i + 1)), sumX es (rs.take (i + 1))]
def boardsTo (es : List Ev) (rs : List Nat) (n : Nat) : List (List Int) := (List.range n).map fun i => [sumW es (rs.take (i + 1)), sumX es (rs.take (i + 1))]
theorem boardsTo_more (es : List Ev) (rs : List Nat) (n : Nat) : boardsTo es rs (n + 1) = boardsTo es rs n ++ [[sumW es (rs.take (n + 1)), sumX es (rs.take (n + 1))]] := by
  unfold boardsTo
  rw [List.range_succ, List.map_append]; rfl
theorem leads_map {f : Ev → Ev} (hf : ∀ e, (f e).b = e.b ∧ (f e).a = e.a) (es : List Ev) : ∀ (rs : List Nat) (s : Int), leads (es.map f) s rs = leads es s rs
  | [], s => rfl
  | i :: r, s => by
    show (match (es.map f)[i]? with | some e => if e.b = s then leads (es.map f) e.a r else none | none => none) = (match es[i]? with | some e => if e.b = s then leads es e.a r else none | none => none)
    rw [List.getElem?_map]
    cases es[i]? with
    | none => rfl
    | some e =>
      show (if (f e).b = s then leads (es.map f) (f e).a r else none) = (if e.b = s then leads es e.a r else none)
      rw [(hf e).1, (hf e).2, leads_map hf es r]
end Lv

/-! comprehensions, by an invariant over what is made so far -/
namespace Lv
open PySem L2
variable [TabA]
theorem lcG_list {K : PySem.W.Frag} {a : Addr} {xs : List V} {g : TG} {tt : TT} {te : TE} {vs : List Nat} {σ : L2.St} {G P H : Hp} {Qd : Hp → Prop} {D : Addr} (Pp : Hp → Prop) (I : Nat → List V → Hp → Prop) (hD : H D = none) (J : Join G P H) (hP : Pp P)
    (hS : SqL K G a xs) (h0 : I 0 [] (upd G D (.lst []))) (hI : ∀ i ws G2 us ts, G2 D = some (.lst us) → I i ws G2 → I i ws (upd G2 D (.lst ts))) (hz : ∀ i ws G2, I i ws G2 → ws.length ≤ 1000000)
    (hs : ∀ (i : Nat) (x : V) (ws : List V) (G' P' H' : Hp) (R : VK) (R0 : Hp → Prop), xs[i]? = some x → Ex G G' → I i ws G' → Pp P' → Join G' P' H' →
      (∀ v G2 P2 H2, Ex G' G2 → Pp P2 → Join G2 P2 H2 → I (i + 1) (ws ++ [v]) G2 → R v H2) → (∀ G2 P2 H2, Ex G' G2 → Pp P2 → Join G2 P2 H2 → I (i + 1) ws G2 → R0 H2) →
      g x (wipe σ vs) H' fun σ2 H2 => wipe σ2 vs = wipe σ vs ∧ tt σ2 H2 fun b H3 => if b = true then te σ2 H3 R else R0 H3)
    (hq : ∀ ws G' P' H', Ex G G' → G' D = some (.lst ws) → I xs.length ws G' → Pp P' → Join G' P' H' → Qd H') :
    ∃ W : Nat → Nat → Hp → Prop, (∃ m, W 0 m (upd H D (.lst []))) ∧ ∀ i m H, W i m H →
      ((Itl K a).stop i H ∧ Qd H) ∨ ((Itl K a).go i H ∧ ∃ Nx : Hp → Prop, (∀ H', Nx H' → ∃ m', m' < m ∧ W (i + 1) m' H') ∧ ∀ x H', (Itl K a).yld i H x H' → g x (wipe σ vs) H' fun σ2 H2 => wipe σ2 vs = wipe σ vs ∧ tt σ2 H2 fun b H3 =>
        if b = true then te σ2 H3 fun y H4 => ∃ acc, H4 D = some (.lst acc) ∧ acc.length < sizeLine ∧ Nx (upd H4 D (.lst (acc ++ [y]))) else Nx H3) := by
  have gD : G D = none := J.ng hD
  refine lc_list (K := K) (a := a) (xs := xs) (Qd := Qd) (fun i H' => ∃ (ws : List V) (G' P' : Hp), Ex G G' ∧ G' D = some (.lst ws) ∧ I i ws G' ∧ Pp P' ∧ Join G' P' H') ⟨[], _, P, Ex.new gD, upd_same, h0, hP, J.newG hD⟩ (fun i H' _ ⟨ws, G', P', e, _, _, _, j⟩ => (e.trans j.exG).l hS) (fun i x H' hi ⟨ws, G', P', e, hd, hi2, hp, j⟩ => ?_) (fun H' ⟨ws, G', P', e, hd, hi2, hp, j⟩ => hq ws G' P' H' e hd hi2 hp j)
  refine hs i x ws G' P' H' _ _ hi e hi2 hp j (fun v G2 P2 H2 e2 hp2 j2 hi3 => ⟨ws, j2.g _ _ (e2 _ _ hd), Nat.lt_of_le_of_lt (hz _ _ _ hi2) (by decide), ws ++ [v], _, P2, ?_, upd_same, hI _ _ _ _ _ (e2 _ _ hd) hi3, hp2, j2.setGo (e2 _ _ hd)⟩) (fun G2 P2 H2 e2 hp2 j2 hi3 => ⟨ws, G2, P2, e.trans e2, e2 _ _ hd, hi3, hp2, j2⟩)
  exact (e.trans e2).mut gD
theorem lcG_tup {K : PySem.W.Frag} {a : Addr} {xs : List V} {g : TG} {tt : TT} {te : TE} {vs : List Nat} {σ : L2.St} {G P H : Hp} {Qd : Hp → Prop} {D : Addr} (Pp : Hp → Prop) (I : Nat → List V → Hp → Prop) (hD : H D = none) (J : Join G P H) (hP : Pp P)
    (hS : SqT K G a xs) (h0 : I 0 [] (upd G D (.lst []))) (hI : ∀ i ws G2 us ts, G2 D = some (.lst us) → I i ws G2 → I i ws (upd G2 D (.lst ts))) (hz : ∀ i ws G2, I i ws G2 → ws.length ≤ 1000000)
    (hs : ∀ (i : Nat) (x : V) (ws : List V) (G' P' H' : Hp) (R : VK) (R0 : Hp → Prop), xs[i]? = some x → Ex G G' → I i ws G' → Pp P' → Join G' P' H' →
      (∀ v G2 P2 H2, Ex G' G2 → Pp P2 → Join G2 P2 H2 → I (i + 1) (ws ++ [v]) G2 → R v H2) → (∀ G2 P2 H2, Ex G' G2 → Pp P2 → Join G2 P2 H2 → I (i + 1) ws G2 → R0 H2) →
      g x (wipe σ vs) H' fun σ2 H2 => wipe σ2 vs = wipe σ vs ∧ tt σ2 H2 fun b H3 => if b = true then te σ2 H3 R else R0 H3)
    (hq : ∀ ws G' P' H', Ex G G' → G' D = some (.lst ws) → I xs.length ws G' → Pp P' → Join G' P' H' → Qd H') :
    ∃ W : Nat → Nat → Hp → Prop, (∃ m, W 0 m (upd H D (.lst []))) ∧ ∀ i m H, W i m H →
      ((Itt K a).stop i H ∧ Qd H) ∨ ((Itt K a).go i H ∧ ∃ Nx : Hp → Prop, (∀ H', Nx H' → ∃ m', m' < m ∧ W (i + 1) m' H') ∧ ∀ x H', (Itt K a).yld i H x H' → g x (wipe σ vs) H' fun σ2 H2 => wipe σ2 vs = wipe σ vs ∧ tt σ2 H2 fun b H3 =>
        if b = true then te σ2 H3 fun y H4 => ∃ acc, H4 D = some (.lst acc) ∧ acc.length < sizeLine ∧ Nx (upd H4 D (.lst (acc ++ [y]))) else Nx H3) := by
  have gD : G D = none := J.ng hD
  refine lc_tup (K := K) (a := a) (xs := xs) (Qd := Qd) (fun i H' => ∃ (ws : List V) (G' P' : Hp), Ex G G' ∧ G' D = some (.lst ws) ∧ I i ws G' ∧ Pp P' ∧ Join G' P' H') ⟨[], _, P, Ex.new gD, upd_same, h0, hP, J.newG hD⟩ (fun i H' _ ⟨ws, G', P', e, _, _, _, j⟩ => (e.trans j.exG).t hS) (fun i x H' hi ⟨ws, G', P', e, hd, hi2, hp, j⟩ => ?_) (fun H' ⟨ws, G', P', e, hd, hi2, hp, j⟩ => hq ws G' P' H' e hd hi2 hp j)
  refine hs i x ws G' P' H' _ _ hi e hi2 hp j (fun v G2 P2 H2 e2 hp2 j2 hi3 => ⟨ws, j2.g _ _ (e2 _ _ hd), Nat.lt_of_le_of_lt (hz _ _ _ hi2) (by decide), ws ++ [v], _, P2, ?_, upd_same, hI _ _ _ _ _ (e2 _ _ hd) hi3, hp2, j2.setGo (e2 _ _ hd)⟩) (fun G2 P2 H2 e2 hp2 j2 hi3 => ⟨ws, G2, P2, e.trans e2, e2 _ _ hd, hi3, hp2, j2⟩)
  exact (e.trans e2).mut gD
theorem lcG_range {lo : Int} {n : Nat} {g : TG} {tt : TT} {te : TE} {vs : List Nat} {σ : L2.St} {G P H : Hp} {Qd : Hp → Prop} {D : Addr} (Pp : Hp → Prop) (I : Nat → List V → Hp → Prop) (hD : H D = none) (J : Join G P H) (hP : Pp P)
    (h0 : I 0 [] (upd G D (.lst []))) (hI : ∀ i ws G2 us ts, G2 D = some (.lst us) → I i ws G2 → I i ws (upd G2 D (.lst ts))) (hz : ∀ i ws G2, I i ws G2 → ws.length ≤ 1000000)
    (hs : ∀ (i : Nat) (ws : List V) (G' P' H' : Hp) (R : VK) (R0 : Hp → Prop), i < n → Ex G G' → I i ws G' → Pp P' → Join G' P' H' →
      (∀ v G2 P2 H2, Ex G' G2 → Pp P2 → Join G2 P2 H2 → I (i + 1) (ws ++ [v]) G2 → R v H2) → (∀ G2 P2 H2, Ex G' G2 → Pp P2 → Join G2 P2 H2 → I (i + 1) ws G2 → R0 H2) →
      g (.int (lo + i)) (wipe σ vs) H' fun σ2 H2 => wipe σ2 vs = wipe σ vs ∧ tt σ2 H2 fun b H3 => if b = true then te σ2 H3 R else R0 H3)
    (hq : ∀ ws G' P' H', Ex G G' → G' D = some (.lst ws) → I n ws G' → Pp P' → Join G' P' H' → Qd H') :
    ∃ W : Nat → Nat → Hp → Prop, (∃ m, W 0 m (upd H D (.lst []))) ∧ ∀ i m H, W i m H →
      ((Itr lo n).stop i H ∧ Qd H) ∨ ((Itr lo n).go i H ∧ ∃ Nx : Hp → Prop, (∀ H', Nx H' → ∃ m', m' < m ∧ W (i + 1) m' H') ∧ ∀ x H', (Itr lo n).yld i H x H' → g x (wipe σ vs) H' fun σ2 H2 => wipe σ2 vs = wipe σ vs ∧ tt σ2 H2 fun b H3 =>
        if b = true then te σ2 H3 fun y H4 => ∃ acc, H4 D = some (.lst acc) ∧ acc.length < sizeLine ∧ Nx (upd H4 D (.lst (acc ++ [y]))) else Nx H3) := by
  have gD : G D = none := J.ng hD
  refine lc_range (lo := lo) (n := n) (Qd := Qd) (fun i H' => ∃ (ws : List V) (G' P' : Hp), Ex G G' ∧ G' D = some (.lst ws) ∧ I i ws G' ∧ Pp P' ∧ Join G' P' H') ⟨[], _, P, Ex.new gD, upd_same, h0, hP, J.newG hD⟩ (fun i H' hi ⟨ws, G', P', e, hd, hi2, hp, j⟩ => ?_) (fun H' ⟨ws, G', P', e, hd, hi2, hp, j⟩ => hq ws G' P' H' e hd hi2 hp j)
  refine hs i ws G' P' H' _ _ hi e hi2 hp j (fun v G2 P2 H2 e2 hp2 j2 hi3 => ⟨ws, j2.g _ _ (e2 _ _ hd), Nat.lt_of_le_of_lt (hz _ _ _ hi2) (by decide), ws ++ [v], _, P2, ?_, upd_same, hI _ _ _ _ _ (e2 _ _ hd) hi3, hp2, j2.setGo (e2 _ _ hd)⟩) (fun G2 P2 H2 e2 hp2 j2 hi3 => ⟨ws, G2, P2, e.trans e2, e2 _ _ hd, hi3, hp2, j2⟩)
  exact (e.trans e2).mut gD
end Lv

/-! rules whose reading names a fixed written part (within a comprehension's block) -/
namespace Lv
open PySem PySem.Spec PyProof.Rows L2
variable [TabA]
section
variable {X : Cx} {K : PySem.W.Frag}
theorem ix_tupK (h : X.K = K) : IxR X (rIxT K) := h ▸ ix_tup
theorem ix_listK (h : X.K = K) : IxR X (rIxL K) := h ▸ ix_list
theorem sl_listK (h : X.K = K) : SlR X (rSlL K) := h ▸ sl_list
theorem sl_tupAK (h : X.K = K) : SlR X (rSlA K) := h ▸ sl_tupA
theorem op_inK (h : X.K = K) : OpR X (compareOp .In) (rIn K false) := h ▸ op_in_seq
theorem op_notInK (h : X.K = K) : OpR X (compareOp .NotIn) (rIn K true) := h ▸ op_notIn_seq
theorem op_catAK (h : X.K = K) : OpR X (binaryOp .Add) (rCatA K) := h ▸ op_catA
theorem op_eqDK (h : X.K = K) (hu : X.A.units + 64 < cLine) : OpR X (compareOp .Eq) (rEqD K) := h ▸ op_eqD hu
theorem op_neDK (h : X.K = K) (hu : X.A.units + 64 < cLine) : OpR X (compareOp .NotEq) (rNeD K) := h ▸ op_neD hu
def rLenS (K : PySem.W.Frag) : List V → Hp → VK → Prop := fun xs H Q => ∃ p ys, xs = [.ref p] ∧ (SqL K H p ys ∨ SqT K H p ys) ∧ Q (.int ys.length) H
theorem call_lenK (h : X.K = K) : CallR X (.builtin "len") (rLenS K) := h ▸ call_len_seq
theorem cr_sumK (h : X.K = K) (hc : X.calm = true) : CallR X (.builtin "sum") (rSum K) := h ▸ cr_sum hc
theorem cr_maxK (h : X.K = K) (hc : X.calm = true) : CallR X (.builtin "max") (rMax K) := h ▸ cr_max hc
theorem cr_minK (h : X.K = K) (hc : X.calm = true) : CallR X (.builtin "min") (rMin K) := h ▸ cr_min hc
theorem call_isiK (h : X.K = K) : CallR X (.builtin "isinstance") (rIsi K) := h ▸ call_isi
theorem pe_fldK {e : Expr} {f : Str} {pos : Pos} {ta : TE} (h : X.K = K) (he : PE X e ta) (hb : attributeBase e f X.env (eval e X.env) = eval e X.env) : PE X (.Attribute e f pos) (tFld K ta f) := h ▸ pe_fld he hb
theorem pi_listK {tg e : Expr} {tl : TE} (h : X.K = K) (he : PE X e tl) : PI X tg e (iList K tl) := h ▸ pi_list he
theorem pi_tupK {tg e : Expr} {tl : TE} (h : X.K = K) (he : PE X e tl) : PI X tg e (iTup K tl) := h ▸ pi_tup he
def rTupOf (K : PySem.W.Frag) : List V → Hp → VK → Prop := fun xs H Q => ∃ p ys, xs = [.ref p] ∧ ((SqL K H p ys ∧ ∀ l, H l = none → Q (.ref l) (upd H l (.tup ys))) ∨ (SqT K H p ys ∧ Q (.ref p) H))
theorem call_tupleK (h : X.K = K) : CallR X (.type "tuple") (rTupOf K) := h ▸ call_tuple_of
end
/-- t[:m], by what it leaves -/
theorem slA_take {K : PySem.W.Frag} {G P H : Hp} {r : Addr} {xs : List V} {m : Nat} {Q : VK} (j : Join G P H) (hr : G r = some (.tup xs)) (q : ∀ t G' H', Ex G G' → Join G' P H' → G' t = some (.tup (xs.take m)) → Q (.ref t) H') : rSlA K (.ref r) none (some (m : Int)) H Q := by
  refine ⟨r, xs, rfl, sqT (j.g _ _ hr), fun h => ?_, fun _ p hp => ?_⟩
  · have h2 := h.2
    rw [HT.sIx_nat] at h2
    refine q r G H (Ex.refl _) j ?_
    rw [List.take_of_length_le (by omega)]; exact hr
  · refine q p _ _ (Ex.new (j.ng hp)) (j.newG hp) ?_
    have e : cutV xs none (some (m : Int)) = xs.take m := by
      unfold cutV
      rw [HT.sIx_nat, HT.sIx_none, List.drop_zero, Nat.sub_zero]
      by_cases hm : m ≤ xs.length
      · rw [Nat.min_eq_left hm]
      · rw [Nat.min_eq_right (by omega), List.take_length, List.take_of_length_le (by omega)]
    rw [e]; exact upd_same
/-- t + u, by what it leaves -/
theorem catA_out {K : PySem.W.Frag} {G P H : Hp} {a b : Addr} {xs ys : List V} {Q : VK} (j : Join G P H) (ha : G a = some (.tup xs)) (hb : G b = some (.tup ys)) (hz : xs.length + ys.length < 100000) (q : ∀ t G' H', Ex G G' → Join G' P H' → G' t = some (.tup (xs ++ ys)) → Q (.ref t) H') : rCatA K (.ref a) (.ref b) H Q := by
  refine ⟨a, b, xs, ys, rfl, rfl, sqT (j.g _ _ ha), sqT (j.g _ _ hb), Nat.le_of_lt (szlt hz), fun e => ?_, fun _ e => ?_, fun _ _ p hp => ?_⟩
  · subst e
    exact q b G H (Ex.refl _) j hb
  · subst e
    refine q a G H (Ex.refl _) j ?_
    rw [List.append_nil]; exact ha
  · exact q p _ _ (Ex.new (j.ng hp)) (j.newG hp) upd_same
/-- xs + ys of lists, by what it leaves -/
theorem cat_out {G P H : Hp} {a b : Addr} {xs ys : List V} {Q : VK} (j : Join G P H) (ha : G a = some (.lst xs)) (hb : G b = some (.lst ys)) (hz : xs.length + ys.length < 100000) (q : ∀ t G' H', Ex G G' → Join G' P H' → H t = none → G' t = some (.lst (xs ++ ys)) → Q (.ref t) H') : rCat (.ref a) (.ref b) H Q :=
  ⟨a, b, xs, ys, rfl, rfl, j.g _ _ ha, j.g _ _ hb, Nat.le_of_lt (szlt hz), fun p hp => q p _ _ (Ex.new (j.ng hp)) (j.newG hp) hp upd_same⟩
/-! ### lists of things that stand for others -/
def RelL {α : Type} (R : Hp → V → α → Prop) (G : Hp) (vs : List V) (as : List α) : Prop := vs.length = as.length ∧ ∀ (i : Nat) (a : α), as[i]? = some a → ∃ v, vs[i]? = some v ∧ R G v a
section
variable {α : Type} {R : Hp → V → α → Prop} {G G' : Hp} {vs ws : List V} {as bs : List α}
theorem RelL.mono (hR : ∀ v a, R G v a → R G' v a) (h : RelL R G vs as) : RelL R G' vs as := ⟨h.1, fun i a ha => by
  obtain ⟨v, h1, h2⟩ := h.2 i a ha
  exact ⟨v, h1, hR _ _ h2⟩⟩
theorem RelL.get (h : RelL R G vs as) {i : Nat} {v : V} (hv : vs[i]? = some v) : ∃ a, as[i]? = some a ∧ R G v a := by
  have hi : i < as.length := by rw [← h.1]; exact (List.getElem?_eq_some_iff.mp hv).1
  obtain ⟨v', h1, h2⟩ := h.2 i as[i] (List.getElem?_eq_getElem hi)
  rw [hv] at h1
  rw [← Option.some.inj h1] at h2
  exact ⟨as[i], List.getElem?_eq_getElem hi, h2⟩
theorem RelL.nil : RelL R G [] [] := ⟨rfl, fun i e he => by simp at he⟩
theorem RelL.app (h : RelL R G vs as) (h' : RelL R G ws bs) : RelL R G (vs ++ ws) (as ++ bs) := ⟨by simp [h.1, h'.1], fun i a ha => by
  by_cases hi : i < as.length
  · rw [List.getElem?_append_left hi] at ha
    obtain ⟨v, h1, h2⟩ := h.2 i a ha
    exact ⟨v, by rw [List.getElem?_append_left (by rw [h.1]; exact hi)]; exact h1, h2⟩
  · rw [List.getElem?_append_right (by omega)] at ha
    obtain ⟨v, h1, h2⟩ := h'.2 _ a ha
    exact ⟨v, by rw [List.getElem?_append_right (by rw [h.1]; omega), h.1]; exact h1, h2⟩⟩
theorem RelL.one {v : V} {a : α} (h : R G v a) : RelL R G [v] [a] := ⟨rfl, fun i b hb => by
  cases i with
  | zero => exact ⟨v, rfl, by rw [← Option.some.inj hb]; exact h⟩
  | succ n => simp at hb⟩
theorem RelL.add {v : V} {a : α} (h : RelL R G vs as) (h' : R G v a) : RelL R G (vs ++ [v]) (as ++ [a]) := h.app (.one h')
theorem RelL.take (h : RelL R G vs as) (m : Nat) : RelL R G (vs.take m) (as.take m) := ⟨by simp [h.1], fun i a ha => by
  have h1 : i < m := by
    have := (List.getElem?_eq_some_iff.mp ha).1
    rw [List.length_take] at this; omega
  rw [List.getElem?_take, if_pos h1] at ha
  obtain ⟨v, h2, h3⟩ := h.2 i a ha
  exact ⟨v, by rw [List.getElem?_take, if_pos h1]; exact h2, h3⟩⟩
end
/-- a run and the standing to which it leads -/
def RunAt (G : Hp) (v : V) (p : List Nat × Int) : Prop := ∃ t r : Addr, v = .ref t ∧ G t = some (.tup [.ref r, .int p.2]) ∧ G r = some (.tup (rV p.1))
theorem RunAt.mono {G G' : Hp} (e : Ex G G') : ∀ v p, RunAt G v p → RunAt G' v p := fun _ _ ⟨t, r, h1, h2, h3⟩ => ⟨t, r, h1, e _ _ h2, e _ _ h3⟩
theorem RunAt.upd {G : Hp} {L : Addr} {xs : List V} {o : HO} (hL : G L = some (.lst xs)) : ∀ v p, RunAt G v p → RunAt (L2.upd G L o) v p := fun _ _ ⟨t, r, h1, h2, h3⟩ => ⟨t, r, h1, by rw [upd_ne (ne_of h2 hL (by intro z; cases z))]; exact h2, by rw [upd_ne (ne_of h3 hL (by intro z; cases z))]; exact h3⟩
def stepR (es : List Ev) (p : List Nat × Int) : List (List Nat × Int) := (outs 0 es p.2.toNat).map fun v => (p.1 ++ [v.toNat], ((es[v.toNat]?).map Ev.a).getD 0)
def runsL (es : List Ev) : Nat → List (List Nat × Int)
  | 0 => [([], 0)]
  | n + 1 => (runsL es n).flatMap (stepR es)
theorem stepR_len (es : List Ev) (p : List Nat × Int) : (stepR es p).length ≤ es.length := by
  unfold stepR
  rw [List.length_map]
  exact outs_len _ _ _
theorem flat_len {α β : Type} {f : α → List β} {k : Nat} (hk : ∀ a, (f a).length ≤ k) : ∀ l : List α, (l.flatMap f).length ≤ k * l.length
  | [] => by simp
  | a :: r => by
    have ih := flat_len hk r
    have h := hk a
    rw [List.flatMap_cons, List.length_append, List.length_cons, Nat.mul_succ]
    omega
theorem runsL_len (es : List Ev) : ∀ n, (runsL es n).length ≤ es.length ^ n
  | 0 => by simp [runsL]
  | n + 1 => by
    have ih := runsL_len es n
    have h := flat_len (stepR_len es) (runsL es n)
    show ((runsL es n).flatMap (stepR es)).length ≤ _
    rw [Nat.pow_succ, Nat.mul_comm]
    exact Nat.le_trans h (Nat.mul_le_mul_left _ ih)
theorem flat_more {α β : Type} {f : α → List β} {l : List α} {i : Nat} {a : α} (h : l[i]? = some a) : (l.take (i + 1)).flatMap f = (l.take i).flatMap f ++ f a := by
  rw [take_more h, List.flatMap_append]; simp
/-- x if c else y, c a flag that is kept -/
theorem tIf_c {i : Nat} {x y : V} {σ : L2.St} {H : Hp} {Q : VK} {b : Bool} (hv : σ[i]? = some (some (.bl b))) (h : Q (if b then x else y) H) : tIf (tB (tVar i)) (tC x) (tC y) σ H Q := by
  refine ⟨_, hv, b, rfl, ?_⟩
  cases b
  · exact iteF h
  · exact iteT h
/-- runs of at most k events -/
def RunV (es : List Ev) (k : Nat) (G : Hp) (v : V) : Prop := ∃ (r : Addr) (rs : List Nat), v = .ref r ∧ G r = some (.tup (rV rs)) ∧ rs.length ≤ k ∧ IsRun es rs
def RunsV (es : List Ev) (k : Nat) (G : Hp) (us : List V) : Prop := ∀ v ∈ us, RunV es k G v
theorem RunsV.mono {es : List Ev} {k : Nat} {G G' : Hp} {us : List V} (e : Ex G G') (h : RunsV es k G us) : RunsV es k G' us := fun v hv => by
  obtain ⟨r, rs, h1, h2, h3⟩ := h v hv
  exact ⟨r, rs, h1, e _ _ h2, h3⟩
theorem RunsV.upd {es : List Ev} {k : Nat} {G : Hp} {us xs : List V} {L : Addr} {o : HO} (hL : G L = some (.lst xs)) (h : RunsV es k G us) : RunsV es k (L2.upd G L o) us := fun v hv => by
  obtain ⟨r, rs, h1, h2, h3⟩ := h v hv
  exact ⟨r, rs, h1, by rw [upd_ne (ne_of h2 hL (by intro z; cases z))]; exact h2, h3⟩
theorem RunsV.nil {es : List Ev} {k : Nat} {G : Hp} : RunsV es k G [] := fun v hv => by cases hv
theorem RunsV.app {es : List Ev} {k : Nat} {G : Hp} {us ws : List V} (h : RunsV es k G us) (h' : RunsV es k G ws) : RunsV es k G (us ++ ws) := fun v hv => (List.mem_append.mp hv).elim (h v) (h' v)
theorem RunsV.add {es : List Ev} {k : Nat} {G : Hp} {us : List V} {v : V} (h : RunsV es k G us) (h' : RunV es k G v) : RunsV es k G (us ++ [v]) := h.app fun x hx => by rw [List.mem_singleton.mp hx]; exact h'
theorem RunsV.take {es : List Ev} {k : Nat} {G : Hp} {us : List V} (m : Nat) (h : RunsV es k G us) : RunsV es k G (us.take m) := fun v hv => h v (List.mem_of_mem_take hv)
/-- xs[:m] of a list, by what it leaves -/
theorem slL_take {K : PySem.W.Frag} {G P H : Hp} {r : Addr} {xs : List V} {m : Nat} {Q : VK} (j : Join G P H) (hr : G r = some (.lst xs)) (q : ∀ t G' H', Ex G G' → Join G' P H' → H t = none → G' t = some (.lst (xs.take m)) → Q (.ref t) H') : rSlL K (.ref r) none (some (m : Int)) H Q := by
  refine ⟨r, xs, rfl, sqL (j.g _ _ hr), fun p hp => q p _ _ (Ex.new (j.ng hp)) (j.newG hp) hp ?_⟩
  rw [upd_same]
  congr 2
  unfold cutV
  rw [HT.sIx_nat, HT.sIx_none, List.drop_zero, Nat.sub_zero]
  by_cases hm : m ≤ xs.length
  · rw [Nat.min_eq_left hm]
  · rw [Nat.min_eq_right (by omega), List.take_length, List.take_of_length_le (by omega)]
theorem TupL.monoJ {α : Type} {f : α → List V} {G P H : Hp} {vs : List V} {as : List α} (j : Join G P H) (h : TupL f G vs as) : TupL f H vs as := h.mono j.exG
end Lv

/-! == and != by an own __eq__ -/
namespace Lv
open PySem PySem.Spec PyProof.Rows PySem.SeqAt L2
variable [TabA]
section
variable {prog : Program} {w : World} {A : Around} {E : Value → Shared → Prop} {s : Shared} {K : PySem.W.Frag} {x C f : Addr} {ox : Obj} {od : Option Obj} {b tb : Value}
theorem ifBound_B {M : Model} {args : List Value} {name : Str} {id : String} {Q : Option Value → Shared → Prop} (sl : Slot "object" name id) (X : K.In s.heap) (I : PySem.W.InstAt s.heap x ox C od) (hs : PySem.W.findIn K (.ref C) name = some (some (.builtin id)))
    (h : wpAny M A (call (.builtin id) (.ref x :: args)) (fun v => Q (some v)) E s) : wpAny M A (callSpecialIfBound? (.ref x) name args) Q E s := by
  simp only [callSpecialIfBound?, bindSpecialIfBound?]
  refine wpAny_holding (wpAny_bind (wpAny_bind (wpAny_bind (I.type.here ((PySem.W.looks_findIn X hs).here ?_)))))
  refine wpAny_bind (wpAny_askSetting (wpAny_ite ?_))
  have fin : wpAny M A (call (.builtin id) ([.ref x] ++ args) >>= fun v => pure (some v)) Q E s := wpAny_bind (wpAny_mono h (fun v s' h' => wpAny_pure h') fun _ _ h' => h')
  split
  · exact wpAny_bind (wpAny_of_eq (sl.bind _) (wpAny_pure (by exact fin)))
  · exact wpAny_tryCatch (wpAny_bind (wpAny_of_eq (sl.bind _) (wpAny_pure (by exact fin))))
theorem objNe_entry (hu : A.units < cLine) (X : K.In s.heap) (I : PySem.W.InstAt s.heap x ox C od) (hs : PySem.W.findIn K (.ref C) "__eq__" = some (some (.ref f))) (hf : PySem.W.isFn K (.ref f) = true) {Q : Fin → Shared → Prop}
    (hcall : wpAny (model prog w) A (call (.ref f) [.ref x, b]) (fun v s' => ∃ c, v = .bool c ∧ Q (.done (.ret (.bool (!c)))) s') E s) :
    wpAny (model prog w) A (Builtin.«object.__ne__» ⟨[.ref x, b], []⟩) Q E s := by
  unfold Builtin.«object.__ne__»
  repeat (first
    | with_reducible refine wpAny_cRoomFor hu ?_
    | (refine wpAny_bind (m := callSpecialIfBound? (.ref x) (Str.ofString "__eq__") [b])
        (PySem.W.ifBound_K X I hs hf (wpAny_mono hcall (fun r s' hr => by
          obtain ⟨c, rfl, hq⟩ := hr
          repeat (first | exact hq | exact wpAny_pure hq | exact wpAny_truthy_bool hq | (refine wpAny_bind (m := truthy (.bool _)) (wpAny_truthy_bool ?_)) | wp_step)) fun _ _ e => e)))
    | wp_step)
theorem ne_own {Q : Value → Shared → Prop} (hu : A.units + 1 < cLine) (X : K.In s.heap) (I : PySem.W.InstAt s.heap x ox C od) (hb : PySem.W.Looks (model prog w) s.heap (typeOf b) tb) (hn : PySem.W.notFirst K C tb = true)
    (hm : PySem.W.mroIn K C (.type "object") = some true) (hne : PySem.W.findIn K (.ref C) "__ne__" = some (some (.builtin "object.__ne__"))) (hs : PySem.W.findIn K (.ref C) "__eq__" = some (some (.ref f))) (hf : PySem.W.isFn K (.ref f) = true)
    (h : wpAny (model prog w) A.in1 (call (.ref f) [.ref x, b]) (fun v s' => ∃ c, v = .bool c ∧ Q (.bool (!c)) s') E s) : wpAny (model prog w) A (richCompare .NotEq (.ref x) b) Q E s := by
  have one : wpAny (model prog w) A (tryCompare (.ref x) "__ne__" b) (fun r s' => ∃ v, r = some v ∧ Q v s') E s := by
    unfold tryCompare
    refine wpAny_bind (ifBound_B F.cmp_object.ne X I hne ?_)
    refine wpAny_call (codeAny_call_builtin F.cmp_object.ne.plain F.cmpEntry_ne (PySem.W.check_slot F.cmpKind_ne F.cmpSplit_ne (I.type.andThen (PySem.W.looks_mroIn X hm)) (F.cmpArgs_ne _ _) (objNe_entry (A := A.in1) (Nat.lt_of_le_of_lt (by first | exact Nat.le_refl _ | (simp [Around.in1, Around.units])) hu) X I hs hf (wpAny_mono h (fun v s' hv => ?_) fun _ _ e => e))))
    obtain ⟨c, rfl, hq⟩ := hv
    exact ⟨c, rfl, wpAny_pure ⟨_, rfl, hq⟩⟩
  unfold richCompare
  simp only [oneThing_ref]
  refine wpAny_holding (wpAny_bind (wpAny_cRoomFor (Nat.lt_of_succ_lt hu) ?_))
  rw [cmpInfo_NotEq]
  dsimp only
  refine wpAny_bind (I.type.here (wpAny_bind (hb.here ?_)))
  split
  · rename_i q
    have e : PySem.W.subIn K tb (.ref C) = some false := by
      rcases Bool.or_eq_true_iff.mp hn with e | e
      · rw [beq_iff_eq.mp e] at q; simp at q
      · exact beq_iff_eq.mp e
    refine wpAny_bind ((PySem.W.looks_subIn X e).here ?_)
    simp only [Bool.false_eq_true, if_false]
    refine wpAny_bind (wpAny_mono one (fun r s' z => ?_) fun _ _ e => e)
    obtain ⟨v, rfl, hq⟩ := z
    exact wpAny_pure hq
  · refine wpAny_bind (wpAny_pure ?_)
    simp only [Bool.false_eq_true, if_false]
    refine wpAny_bind (wpAny_mono one (fun r s' z => ?_) fun _ _ e => e)
    obtain ⟨v, rfl, hq⟩ := z
    exact wpAny_pure hq
end
/-- x == y, x != y by the own __eq__ of the class at C -/
def rEqOwn (K : PySem.W.Frag) (C : Addr) (sp : Sp) (E : XK) : R2 := fun x y H Q => ∃ a dx fs t, x = .ref a ∧ H a = some (.ins C dx fs) ∧ TyX K H y t ∧ PySem.W.notFirst K C t = true ∧ sp [x, y] H (fun v H' => ∃ c, v = .bl c ∧ Q (.bl c) H') E
def rNeOwn (K : PySem.W.Frag) (C : Addr) (sp : Sp) (E : XK) : R2 := fun x y H Q => ∃ a dx fs t, x = .ref a ∧ H a = some (.ins C dx fs) ∧ TyX K H y t ∧ PySem.W.notFirst K C t = true ∧ sp [x, y] H (fun v H' => ∃ c, v = .bl c ∧ Q (.bl (!c)) H') E
section
variable {X : Cx} {CX : CXT} {C f : Addr} {fd : FuncData} {ps : List Str} {sp : Sp} {n : Nat} {E : XK}
theorem callOwn (F : FnOk X.prog X.w X.K X.mg X.base CX n f fd ps sp) (hb : Binds X.K fd ps []) (hx : Passes CX X E) {A : Around} (hr : Room n A) (hfr : A.frames = X.A.frames) {pins : List (Addr × Obj)} {s : Shared} {σ : L2.St} {H : Hp} {x y : V} {u v : Value} {R : VK} {Q : Value → Shared → Prop}
    (I : Inv X pins σ H s) (rx : RelV x u) (ry : RelV y v) (h : sp [x, y] H R E) (hq : ∀ z w H' s', Inv X pins σ H' s' → RelV z w → R z H' → Q w s') : wpAny (model X.prog X.w) A (call (.ref f) [u, v]) Q X.xe s := by
  have e0 : Env0 X.prog X.w X.K X.mg X.base A X.stack s H := by
    have e := I.env0
    exact ⟨by rw [hfr]; exact e.frames, e.mod, e.bs, e.bsz, e.funs, e.frf, e.hok, e.bare⟩
  have hl := F.len _ _ _ _ h
  have r2 : Vals [x, y] [u, v] := .cons rx (.cons ry .nil)
  refine wpAny_call (codeAny_mono (F.run A X.stack s H ⟨[u, v], []⟩ [u, v] [x, y] _ E hr e0 (by
    have := hb s [u, v] I.kIn (by simpa using hl)
    simpa using this) r2 h) fun r s' hq2 => ?_)
  cases r with
  | error e => exact hx pins σ H s e s' I hq2
  | ok fl =>
    cases fl with
    | ret w =>
      obtain ⟨z, H', I', rz, ez⟩ := I.after hq2
      exact hq z w H' s' I' rz ez
    | next => exact False.elim hq2
    | brk => exact False.elim hq2
    | cont => exact False.elim hq2
theorem op_eqOwn (F : FnOk X.prog X.w X.K X.mg X.base CX n f fd ps sp) (hs : PySem.W.findIn X.K (.ref C) "__eq__" = some (some (.ref f))) (hf : PySem.W.isFn X.K (.ref f) = true) (hb : Binds X.K fd ps []) (hx : Passes CX X E) (hr : Room n X.A) : OpR X (compareOp .Eq) (rEqOwn X.K C sp E) := by
  intro pins s σ H x y v u Q I rx ry h
  obtain ⟨a, dx, fs, t, rfl, ha, ty, hn, h⟩ := h
  cases (show v = Value.ref a from rx)
  obtain ⟨mA, J, _⟩ := ins_get I.hok ha
  obtain ⟨od, J, _⟩ := J.look
  obtain ⟨m, hF⟩ := I.fr
  obtain ⟨P, Z, p, _⟩ := kit_of I ry ty
  show wpAny (model X.prog X.w) X.A (richCompare .Eq (.ref a) u) (EP X pins σ Q) X.xe s
  refine PySem.W.cmp_K (op := .Eq) hr.units0 hF I.ok.mod.kin J (Z.ty _ _ I.kIn p) hn hs hf ?_
  refine callOwn F hb hx hr rfl I rx ry h fun z w H' s' I' rz hz => ?_
  obtain ⟨c, rfl, q⟩ := hz
  cases (show w = Value.bool c from rz)
  exact ⟨.bl c, H', I', rfl, q⟩
theorem op_neOwn (F : FnOk X.prog X.w X.K X.mg X.base CX n f fd ps sp) (hs : PySem.W.findIn X.K (.ref C) "__eq__" = some (some (.ref f))) (hne : PySem.W.findIn X.K (.ref C) "__ne__" = some (some (.builtin "object.__ne__"))) (hm : PySem.W.mroIn X.K C (.type "object") = some true) (hf : PySem.W.isFn X.K (.ref f) = true) (hb : Binds X.K fd ps []) (hx : Passes CX X E) (hr : Room (n + 1) X.A) : OpR X (compareOp .NotEq) (rNeOwn X.K C sp E) := by
  intro pins s σ H x y v u Q I rx ry h
  obtain ⟨a, dx, fs, t, rfl, ha, ty, hn, h⟩ := h
  cases (show v = Value.ref a from rx)
  obtain ⟨mA, J, _⟩ := ins_get I.hok ha
  obtain ⟨od, J, _⟩ := J.look
  obtain ⟨P, Z, p, _⟩ := kit_of I ry ty
  show wpAny (model X.prog X.w) X.A (richCompare .NotEq (.ref a) u) (EP X pins σ Q) X.xe s
  refine ne_own hr.in1.units0 I.kIn J (Z.ty _ _ I.kIn p) hn hm hne hs hf ?_
  refine callOwn F hb hx hr.in1 rfl I rx ry h fun z w H' s' I' rz hz => ?_
  obtain ⟨c, rfl, q⟩ := hz
  cases (show w = Value.bool c from rz)
  exact ⟨c, rfl, .bl (!c), H', I', rfl, q⟩
end
end Lv

/-! own classes with an own __eq__; machines by their class -/
namespace Lv
open PySem PySem.Spec PyProof.Rows L2
variable [TabA]
structure OwnC (K : PySem.W.Frag) (C M : Addr) : Prop where
  ha : PySem.W.findIn K (.ref C) "__class__" = some (some (.builtin "object.__class__"))
  hn : PySem.W.specialIn K (.builtin "object.__class__") "__get__" = some (some (.builtin "getset_descriptor.__get__"))
  htk : PySem.W.takesIn K (.builtin "object.__class__") = some true
  hm : PySem.W.mroIn K C (.type "object") = some true
  kit : PySem.W.kitOne K (.ref C) (.ref M) = some true
def ownB (K : PySem.W.Frag) (c m : Str) : Bool :=
  He.eqO (PySem.W.findIn K (.ref (He.ga K c)) "__class__") (some (some (.builtin "object.__class__"))) && (He.eqO (PySem.W.specialIn K (.builtin "object.__class__") "__get__") (some (some (.builtin "getset_descriptor.__get__"))) &&
    (decide (PySem.W.takesIn K (.builtin "object.__class__") = some true) && (decide (PySem.W.mroIn K (He.ga K c) (.type "object") = some true) && decide (PySem.W.kitOne K (.ref (He.ga K c)) (.ref (He.ga K m)) = some true))))
omit [TabA] in
theorem ownB_ok {K : PySem.W.Frag} {c m : Str} (h : ownB K c m = true) : OwnC K (He.ga K c) (He.ga K m) := by
  obtain ⟨h1, h⟩ := He.ba h
  obtain ⟨h2, h⟩ := He.ba h
  obtain ⟨h3, h⟩ := He.ba h
  obtain ⟨h4, h5⟩ := He.ba h
  exact ⟨He.eqO_ok h1, He.eqO_ok h2, of_decide_eq_true h3, of_decide_eq_true h4, of_decide_eq_true h5⟩
structure OwnE (K : PySem.W.Frag) (C M f : Addr) : Prop where
  eq : PySem.W.findIn K (.ref C) "__eq__" = some (some (.ref f))
  ne : PySem.W.findIn K (.ref C) "__ne__" = some (some (.builtin "object.__ne__"))
  hm : PySem.W.mroIn K C (.type "object") = some true
  fn : PySem.W.isFn K (.ref f) = true
  first : PySem.W.notFirst K C (.ref M) = true
def eqB (K : PySem.W.Frag) (c m : Str) : Bool :=
  He.eqO (PySem.W.findIn K (.ref (He.ga K c)) "__eq__") (some (some (.ref (He.ma K (He.ga K m) "__eq__")))) && (He.eqO (PySem.W.findIn K (.ref (He.ga K c)) "__ne__") (some (some (.builtin "object.__ne__"))) &&
    (decide (PySem.W.mroIn K (He.ga K c) (.type "object") = some true) && (PySem.W.isFn K (.ref (He.ma K (He.ga K m) "__eq__")) && PySem.W.notFirst K (He.ga K c) (.ref (He.ga K m)))))
omit [TabA] in
theorem eqB_ok {K : PySem.W.Frag} {c m : Str} (h : eqB K c m = true) : OwnE K (He.ga K c) (He.ga K m) (He.ma K (He.ga K m) "__eq__") := by
  obtain ⟨h1, h⟩ := He.ba h
  obtain ⟨h2, h⟩ := He.ba h
  obtain ⟨h3, h⟩ := He.ba h
  obtain ⟨h4, h5⟩ := He.ba h
  exact ⟨He.eqO_ok h1, He.eqO_ok h2, of_decide_eq_true h3, h4, h5⟩
def maB (K : PySem.W.Frag) (c m x : Str) : Bool := decide (He.ma K (He.ga K c) x = He.ma K (He.ga K m) x)
theorem meth_cast {K : PySem.W.Frag} {c m x : Str} (h : Meth K (He.ga K c) x (He.ma K (He.ga K c) x)) (e : maB K c m x = true) : Meth K (He.ga K c) x (He.ma K (He.ga K m) x) := by
  rw [← of_decide_eq_true e]; exact h
theorem first_self {K : PySem.W.Frag} {C : Addr} : PySem.W.notFirst K C (.ref C) = true := by simp [PySem.W.notFirst]
/-- x == y, x != y by the own __eq__ at f -/
def rEqO (K : PySem.W.Frag) (M f : Addr) (sp : Sp) (E : XK) : R2 := fun x y H Q => ∃ C a dx fs t, x = .ref a ∧ H a = some (.ins C dx fs) ∧ OwnE K C M f ∧ TyX K H y t ∧ PySem.W.notFirst K C t = true ∧ sp [x, y] H (fun v H' => ∃ c, v = .bl c ∧ Q (.bl c) H') E
def rNeO (K : PySem.W.Frag) (M f : Addr) (sp : Sp) (E : XK) : R2 := fun x y H Q => ∃ C a dx fs t, x = .ref a ∧ H a = some (.ins C dx fs) ∧ OwnE K C M f ∧ TyX K H y t ∧ PySem.W.notFirst K C t = true ∧ sp [x, y] H (fun v H' => ∃ c, v = .bl c ∧ Q (.bl (!c)) H') E
section
variable {X : Cx} {CX : CXT} {M f : Addr} {fd : FuncData} {ps : List Str} {sp : Sp} {n : Nat} {E : XK}
theorem op_eqO (F : FnOk X.prog X.w X.K X.mg X.base CX n f fd ps sp) (hb : Binds X.K fd ps []) (hx : Passes CX X E) (hr : Room (n + 1) X.A) : OpR X (compareOp .Eq) (rEqO X.K M f sp E) := by
  intro pins s σ H x y v u Q I rx ry h
  obtain ⟨C, a, dx, fs, t, e, ha, ho, ty, hn, h⟩ := h
  exact op_eqOwn F ho.eq ho.fn hb hx (hr.mono (Nat.le_succ _)) pins s σ H x y v u Q I rx ry ⟨a, dx, fs, t, e, ha, ty, hn, h⟩
theorem op_neO (F : FnOk X.prog X.w X.K X.mg X.base CX n f fd ps sp) (hb : Binds X.K fd ps []) (hx : Passes CX X E) (hr : Room (n + 1) X.A) : OpR X (compareOp .NotEq) (rNeO X.K M f sp E) := by
  intro pins s σ H x y v u Q I rx ry h
  obtain ⟨C, a, dx, fs, t, e, ha, ho, ty, hn, h⟩ := h
  exact op_neOwn F ho.eq ho.ne ho.hm ho.fn hb hx hr pins s σ H x y v u Q I rx ry ⟨a, dx, fs, t, e, ha, ty, hn, h⟩
end
/-- a class of machines -/
structure MC (K : PySem.W.Frag) (C : Addr) : Prop where
  c : Cls K C
  ns : NoAttr K C "standings"
  ne : NoAttr K C "events"
  nk : NoAttr K C "kept_out"
  o : OwnC K C (He.ga K "Machine")
  q : OwnE K C (He.ga K "Machine") (He.ma K (He.ga K "Machine") "__eq__")
theorem MC.ty {K : PySem.W.Frag} {C : Addr} (h : MC K C) {H : Hp} {a dx : Addr} {fs : List (Str × V)} (e : H a = some (.ins C dx fs)) : TyX K H (.ref a) (.ref C) := .base (.ins e h.c h.o.ha h.o.hn h.o.htk h.o.hm)
def MachK (K : PySem.W.Frag) (G : Hp) (m : Addr) (n : Int) (es : List Ev) : Prop := ∃ C, MC K C ∧ MachAt C G m n es
theorem MachK.mono {K : PySem.W.Frag} {G G' : Hp} {m : Addr} {n : Int} {es : List Ev} (e : Ex G G') (h : MachK K G m n es) : MachK K G' m n es := by
  obtain ⟨C, h1, h2⟩ := h
  exact ⟨C, h1, h2.mono e⟩
/-- Machine.keep, of any class of machines -/
def spKeepM (K : PySem.W.Frag) : Sp := fun vs H Q E => ∃ C, MC K C ∧ spKeep C vs H Q E
/-- == of machines, and of a machine and a thing that is none -/
def spMEq (K : PySem.W.Frag) : Sp := fun vs H Q _ => ∃ (a b : Addr) (n n' : Int) (es es' : List Ev), vs = [.ref a, .ref b] ∧ MachK K H a n es ∧ MachK K H b n' es' ∧ Q (.bl (decide (n = n' ∧ es = es'))) H
theorem MachK.eqR {K : PySem.W.Frag} {H : Hp} {a b C : Addr} {n n' : Int} {es es' : List Ev} {Q : VK} {E : XK} (ha : MachK K H a n es) (hb : MachAt (He.ga K "Machine") H b n' es') (hC : MC K (He.ga K "Machine")) (q : Q (.bl (decide (n = n' ∧ es = es'))) H) : rEqO K (He.ga K "Machine") (He.ma K (He.ga K "Machine") "__eq__") (spMEq K) E (.ref a) (.ref b) H Q := by
  obtain ⟨Ca, h1, dx, t, ko, ks, h2, h3⟩ := id ha
  obtain ⟨dy, t', ko', ks', h4, h5⟩ := id hb
  exact ⟨Ca, a, dx, _, _, rfl, h2, h1.q, hC.ty h4, h1.q.first, a, b, n, n', es, es', rfl, ha, ⟨_, hC, hb⟩, _, rfl, q⟩
theorem MachK.neR {K : PySem.W.Frag} {H : Hp} {a b : Addr} {n n' : Int} {es es' : List Ev} {Q : VK} {E : XK} (ha : MachK K H a n es) (hb : MachAt (He.ga K "Machine") H b n' es') (hC : MC K (He.ga K "Machine")) (q : Q (.bl (!decide (n = n' ∧ es = es'))) H) : rNeO K (He.ga K "Machine") (He.ma K (He.ga K "Machine") "__eq__") (spMEq K) E (.ref a) (.ref b) H Q := by
  obtain ⟨Ca, h1, dx, t, ko, ks, h2, h3⟩ := id ha
  obtain ⟨dy, t', ko', ks', h4, h5⟩ := id hb
  exact ⟨Ca, a, dx, _, _, rfl, h2, h1.q, hC.ty h4, h1.q.first, a, b, n, n', es, es', rfl, ha, ⟨_, hC, hb⟩, _, rfl, q⟩
/-- both of one class -/
theorem MachAt.neR {K : PySem.W.Frag} {H : Hp} {a b C : Addr} {n n' : Int} {es es' : List Ev} {Q : VK} {E : XK} (hC : MC K C) (ha : MachAt C H a n es) (hb : MachAt C H b n' es') (q : Q (.bl (!decide (n = n' ∧ es = es'))) H) : rNeO K (He.ga K "Machine") (He.ma K (He.ga K "Machine") "__eq__") (spMEq K) E (.ref a) (.ref b) H Q := by
  obtain ⟨dx, t, ko, ks, h2, h3⟩ := id ha
  obtain ⟨dy, t', ko', ks', h4, h5⟩ := id hb
  exact ⟨C, a, dx, _, _, rfl, h2, hC.q, hC.ty h4, first_self, a, b, n, n', es, es', rfl, ⟨_, hC, ha⟩, ⟨_, hC, hb⟩, _, rfl, q⟩
/-- the events as data -/
def evI (e : Ev) : List Int := [e.b, e.a, e.w, e.x]
theorem evI_inj {l m : List Ev} (h : l.map evI = m.map evI) : l = m := by
  induction l generalizing m with
  | nil => cases m with
    | nil => rfl
    | cons b m => simp at h
  | cons a l ih => cases m with
    | nil => simp at h
    | cons b m =>
      rw [List.map_cons, List.map_cons] at h
      obtain ⟨h1, h2⟩ := List.cons.inj h
      rw [ih h2]
      congr 1
      cases a; cases b
      simp [evI] at h1
      obtain ⟨q1, q2, q3, q4⟩ := h1
      subst q1; subst q2; subst q3; subst q4; rfl
theorem EvL.tupL {G : Hp} {vs : List V} {es : List Ev} (h : EvL G vs es) : TupL iV G vs (es.map evI) := ⟨by simp [h.1], fun i a ha => by
  rw [List.getElem?_map] at ha
  obtain ⟨e, he, rfl⟩ := Option.map_eq_some_iff.mp ha
  exact h.2 i e he⟩
def dU (ls : List (List Int)) : PyData := .tuple (ls.map dT)
theorem dp_tt {K : PySem.W.Frag} {H : Hp} {p : Addr} {vs : List V} {ls : List (List Int)} (hp : H p = some (.tup vs)) (h : TupL iV H vs ls) : Dp K H (.ref p) (dU ls) := .tup (sqT hp) (dp_all ls vs h)
theorem shaped_dU (ls : List (List Int)) : SeqAt.shaped (dU ls) = true := by
  have h1 := lay_tups ls
  have h2 := dep_tups ls
  unfold SeqAt.shaped dU
  rw [PyData.canLay0, h1, PyData.depth]
  simp
  omega
theorem eqv_dU (l m : List (List Int)) : PyData.eqv (dU l) (dU m) = decide (l = m) := by
  unfold dU; rw [PyData.eqv]; exact eqv_tups l m
/-- (standings, events) as data -/
def dP (n : Int) (ls : List (List Int)) : PyData := .tuple [.int n, dU ls]
theorem dp_parts {K : PySem.W.Frag} {H : Hp} {p : Addr} {n : Int} {es : List Ev} (h : PartsAt H p n es) : Dp K H (.ref p) (dP n (es.map evI)) := by
  obtain ⟨t, h1, vs, h2, h3⟩ := h
  exact .tup (sqT h1) (.cons (.int n) (.cons (dp_tt h2 h3.tupL) .nil))
theorem shaped_dP (n : Int) (ls : List (List Int)) : SeqAt.shaped (dP n ls) = true := by
  have h1 := lay_tups ls
  have h2 := dep_tups ls
  unfold SeqAt.shaped dP dU
  simp [PyData.canLay0, PyData.canLayAll0, PyData.depth, PyData.depthAll, h1]
  omega
theorem eqv_dP (n n' : Int) (l m : List (List Int)) : PyData.eqv (dP n l) (dP n' m) = decide (n = n' ∧ l = m) := by
  unfold dP
  simp [PyData.eqv, PyData.eqvAll, eqv_dU]
  by_cases h : n = n' <;> simp [h]
end Lv

namespace Lv
open PySem PySem.Spec PyProof.Rows L2
variable [TabA]
/-- events of small numbers, between n standings -/
def EvB (n : Int) (es : List Ev) : Prop := 1 ≤ n ∧ n ≤ 10000 ∧ es.length ≤ 10000 ∧ ∀ e ∈ es, 0 ≤ e.b ∧ e.b < n ∧ 0 ≤ e.a ∧ e.a < n ∧ 1 ≤ e.w ∧ e.w ≤ 1000000000000 ∧ -1000000000000 ≤ e.x ∧ e.x ≤ 1000000000000
end Lv

/-! the walk: readings by their head, one step each -/
namespace Lv
open PySem PySem.Spec PyProof.Rows L2
variable [TabA]
section
variable {K : PySem.W.Frag} {σ : L2.St} {H : Hp} {Q : VK} {R : Bool → Hp → Prop} {nx bk ct : L2.St → Hp → Prop} {rt : VK} {D : Ends} {v x y : V} {te ta tb : TE} {tt uu : TT} {t u : TS} {as : TA} {g : TG} {gs : TGs} {i j : Nat}
theorem w_seq (h : t ⟨u ⟨nx, rt, bk, ct⟩, rt, bk, ct⟩ σ H) : tSeq t u ⟨nx, rt, bk, ct⟩ σ H := h
theorem w_next (h : nx σ H) : tNext ⟨nx, rt, bk, ct⟩ σ H := h
theorem w_brk (h : bk σ H) : tBreak ⟨nx, rt, bk, ct⟩ σ H := h
theorem w_cont (h : ct σ H) : tCont ⟨nx, rt, bk, ct⟩ σ H := h
theorem w_drop (h : te σ H fun _ H1 => nx σ H1) : tDrop te ⟨nx, rt, bk, ct⟩ σ H := h
theorem w_ret (h : te σ H rt) : tRet te ⟨nx, rt, bk, ct⟩ σ H := h
theorem w_retN (h : rt .non H) : tRetN ⟨nx, rt, bk, ct⟩ σ H := h
theorem w_ifS (h : tt σ H fun b H1 => if b = true then t D σ H1 else u D σ H1) : tIfS tt t u D σ H := h
theorem w_asg (h : te σ H fun x H1 => g x σ H1 nx) : tAsg te g ⟨nx, rt, bk, ct⟩ σ H := h
theorem w_name {N : L2.St → Hp → Prop} (h : N (σ.set i (some v)) H) : gName i v σ H N := h
theorem w_gnil {N : L2.St → Hp → Prop} {vs : List V} (e : vs = []) (h : N σ H) : gNil vs σ H N := ⟨e, h⟩
theorem w_gcons {N : L2.St → Hp → Prop} {vs r : List V} (e : vs = v :: r) (h : g v σ H fun σ' H' => gs r σ' H' N) : gCons g gs vs σ H N := ⟨v, r, e, h⟩
theorem w_gtup {N : L2.St → Hp → Prop} {n : Nat} {a : Addr} {xs : List V} (e : H a = some (.tup xs)) (l : xs.length = n) (h : gs xs σ H N) : gTup K n gs (.ref a) σ H N := ⟨a, xs, rfl, sqT e, l, h⟩
theorem w_var (e : σ[i]? = some (some v)) (h : Q v H) : tVar i σ H Q := ⟨v, e, h⟩
theorem w_c (h : Q v H) : tC v σ H Q := h
theorem w_op {r : R2} (h : ta σ H fun x H1 => tb σ H1 fun y H2 => r x y H2 Q) : tOp r ta tb σ H Q := h
theorem w_un {r : V → Hp → VK → Prop} (h : ta σ H fun x H1 => r x H1 Q) : tUn r ta σ H Q := h
theorem w_rI0 {f : Int → Int → V} {a b : Int} (h : Q (f a b) H) : rI0 f (.int a) (.int b) H Q := ⟨a, b, rfl, rfl, h⟩
theorem w_rI {C : Int → Int → Prop} {f : Int → Int → V} {a b : Int} (c : C a b) (h : Q (f a b) H) : rI C f (.int a) (.int b) H Q := ⟨a, b, rfl, rfl, c, h⟩
theorem w_rU {f : Int → V} {a : Int} (h : Q (f a) H) : rU f (.int a) H Q := ⟨a, rfl, h⟩
theorem w_eq (e : scal x y = true) (h : Q (.bl (decide (x = y))) H) : rEq x y H Q := ⟨e, h⟩
theorem w_ne (e : scal x y = true) (h : Q (.bl (!decide (x = y))) H) : rNe x y H Q := ⟨e, h⟩
theorem w_tB (h : te σ H fun x H1 => ∃ c, x = .bl c ∧ R c H1) : tB te σ H R := h
theorem w_test (h : te σ H fun x H1 => ∃ c, x = .bl c ∧ R c H1) : tTest te σ H R := h
theorem w_bl {b : Bool} {S : Bool → Prop} (h : S b) : ∃ c, V.bl b = V.bl c ∧ S c := ⟨b, rfl, h⟩
theorem w_and (h : tt σ H fun c H1 => if c = true then uu σ H1 R else R false H1) : tAnd tt uu σ H R := h
theorem w_or (h : tt σ H fun c H1 => if c = true then R true H1 else uu σ H1 R) : tOr tt uu σ H R := h
theorem w_not (h : tt σ H fun c H1 => R (!c) H1) : tNot tt σ H R := h
theorem w_andV (h : ta σ H fun x H1 => ∃ c, x = .bl c ∧ if c = true then tb σ H1 Q else Q (.bl false) H1) : tAndV ta tb σ H Q := h
theorem w_orV (h : ta σ H fun x H1 => ∃ c, x = .bl c ∧ if c = true then Q (.bl true) H1 else tb σ H1 Q) : tOrV ta tb σ H Q := h
theorem w_notV (h : ta σ H fun x H1 => ∃ c, x = .bl c ∧ Q (.bl (!c)) H1) : tNotV ta σ H Q := h
theorem w_ifE (h : tt σ H fun c H1 => if c = true then ta σ H1 Q else tb σ H1 Q) : tIf tt ta tb σ H Q := h
theorem w_yes (h : R true H) : tYes σ H R := h
theorem w_ifT {A B : Prop} (h : A) : if true = true then A else B := (if_pos rfl).mpr h
theorem w_ifF {A B : Prop} (h : B) : if false = true then A else B := (if_neg (by decide)).mpr h
theorem w_ifNT {A B : Prop} (h : B) : if (!true) = true then A else B := (if_neg (by decide)).mpr h
theorem w_ifNF {A B : Prop} (h : A) : if (!false) = true then A else B := (if_pos rfl).mpr h
theorem w_nil {S : List V → Hp → Prop} (h : S [] H) : tNil σ H S := h
theorem w_cons {S : List V → Hp → Prop} (h : ta σ H fun x H1 => as σ H1 fun xs H2 => S (x :: xs) H2) : tCons ta as σ H S := h
theorem w_call {sp : Sp} {dvs : List V} {E : XK} (h : as σ H fun vs H1 => sp (vs ++ dvs) H1 Q E) : tCall sp dvs E as σ H Q := h
theorem w_cb {r : List V → Hp → VK → Prop} (h : as σ H fun vs H1 => r vs H1 Q) : tCB r as σ H Q := h
theorem w_ixT {a : Addr} {xs : List V} {k : Int} (e : H a = some (.tup xs)) (l : atI xs k = some v) (h : Q v H) : rIxT K (.ref a) (.int k) H Q := ⟨a, xs, k, v, rfl, rfl, sqT e, l, h⟩
theorem w_ixL {a : Addr} {xs : List V} {k : Int} (e : H a = some (.lst xs)) (l : atI xs k = some v) (h : Q v H) : rIxL K (.ref a) (.int k) H Q := ⟨a, xs, k, v, rfl, rfl, sqL e, l, h⟩
theorem w_aug {ti : TIp} (e : σ[i]? = some (some x)) (h : te σ H fun y H1 => ti x y H1 fun z H2 => nx (σ.set i (some z)) H2) : tAug i te ti ⟨nx, rt, bk, ct⟩ σ H := ⟨x, e, h⟩
theorem w_rAdd {a b : Int} (h : Q (.int (a + b)) H) : rAdd (.int a) (.int b) H Q := ⟨a, b, rfl, rfl, h⟩
theorem w_rSub {a b : Int} (h : Q (.int (a - b)) H) : rSub (.int a) (.int b) H Q := ⟨a, b, rfl, rfl, h⟩
/-- x.f -/
def aFld (K : PySem.W.Frag) (f : Str) : V → Hp → VK → Prop := fun x H Q => ∃ a C dx fs v, x = .ref a ∧ H a = some (.ins C dx fs) ∧ Cls K C ∧ NoAttr K C f ∧ fs.lookup f = some v ∧ Q v H
theorem w_fld {f : Str} (h : te σ H fun x H1 => aFld K f x H1 Q) : tFld K te f σ H Q := h
/-- a new tuple, a new list -/
def aTup : List V → Hp → VK → Prop := fun xs H Q => xs.length ≤ sizeLine ∧ ∀ p, H p = none → Q (.ref p) (upd H p (.tup xs))
def aLst : List V → Hp → VK → Prop := fun xs H Q => xs.length ≤ sizeLine ∧ ∀ p, H p = none → Q (.ref p) (upd H p (.lst xs))
theorem w_tup (h : as σ H fun xs H1 => aTup xs H1 Q) : tTup as σ H Q := h
theorem w_lst (h : as σ H fun xs H1 => aLst xs H1 Q) : tLst as σ H Q := h
theorem aTup.go {G P : Hp} {xs : List V} (J : Join G P H) (l : xs.length ≤ 100000) (q : ∀ p G' H', H p = none → Ex G G' → Join G' P H' → G' p = some (.tup xs) → Q (.ref p) H') : aTup xs H Q :=
  ⟨szle l, fun p hp => q p _ _ hp (Ex.new (J.ng hp)) (J.newG hp) upd_same⟩
theorem aLst.go {G P : Hp} {xs : List V} (J : Join G P H) (l : xs.length ≤ 100000) (q : ∀ p G' H', H p = none → Ex G G' → Join G' P H' → G' p = some (.lst xs) → Q (.ref p) H') : aLst xs H Q :=
  ⟨szle l, fun p hp => q p _ _ hp (Ex.new (J.ng hp)) (J.newG hp) upd_same⟩
/-- comprehensions over lists, tuples, ranges -/
def aLcL (K : PySem.W.Frag) (g : TG) (tt : TT) (te : TE) (vs : List Nat) (σ : L2.St) : V → Hp → VK → Prop := fun x H Q => tLc (fun _ H R => ∃ a, x = .ref a ∧ (∃ xs, SqL K H a xs) ∧ R (Itl K a) H) g tt te vs σ H Q
def aLcT (K : PySem.W.Frag) (g : TG) (tt : TT) (te : TE) (vs : List Nat) (σ : L2.St) : V → Hp → VK → Prop := fun x H Q => tLc (fun _ H R => ∃ a, x = .ref a ∧ (∃ xs, SqT K H a xs) ∧ R (Itt K a) H) g tt te vs σ H Q
def aLcR (g : TG) (tt : TT) (te : TE) (vs : List Nat) (σ : L2.St) : List V → Hp → VK → Prop := fun xs H Q => tLc (fun _ H R => ∃ j : Int, xs = [.int j] ∧ -(2 ^ 62) ≤ j ∧ j < 2 ^ 62 ∧ R (Itr 0 j.toNat) H) g tt te vs σ H Q
theorem w_lcL {ts : List Nat} (h : ta σ H fun x H1 => aLcL K g tt te ts σ x H1 Q) : tLc (iList K ta) g tt te ts σ H Q := h
theorem w_lcT {ts : List Nat} (h : ta σ H fun x H1 => aLcT K g tt te ts σ x H1 Q) : tLc (iTup K ta) g tt te ts σ H Q := h
theorem w_lcR {ts : List Nat} (h : as σ H fun xs H1 => aLcR g tt te ts σ xs H1 Q) : tLc (iRng1 as) g tt te ts σ H Q := h
theorem aLcL.go {a : Addr} {xs : List V} {ts : List Nat} {G P : Hp} (Pp : Hp → Prop) (I : Nat → List V → Hp → Prop) (J : Join G P H) (hP : Pp P)
    (hS : G a = some (.lst xs)) (h0 : ∀ G', Ex G G' → I 0 [] G') (hI : ∀ i ws G2 D us ts, G2 D = some (.lst us) → I i ws G2 → I i ws (upd G2 D (.lst ts))) (hz : ∀ i ws G2, I i ws G2 → ws.length ≤ 1000000)
    (hs : ∀ (i : Nat) (x : V) (ws : List V) (G' P' H' : Hp) (R : VK) (R0 : Hp → Prop), xs[i]? = some x → Ex G G' → I i ws G' → Pp P' → Join G' P' H' →
      (∀ v G2 P2 H2, Ex G' G2 → Pp P2 → Join G2 P2 H2 → I (i + 1) (ws ++ [v]) G2 → R v H2) → (∀ G2 P2 H2, Ex G' G2 → Pp P2 → Join G2 P2 H2 → I (i + 1) ws G2 → R0 H2) →
      g x (wipe σ ts) H' fun σ2 H2 => wipe σ2 ts = wipe σ ts ∧ tt σ2 H2 fun b H3 => if b = true then te σ2 H3 R else R0 H3)
    (hq : ∀ p ws G' P' H', H p = none → Ex G G' → G' p = some (.lst ws) → I xs.length ws G' → Pp P' → Join G' P' H' → Q (.ref p) H') : aLcL K g tt te ts σ (.ref a) H Q :=
  ⟨a, rfl, ⟨_, sqL (J.g _ _ hS)⟩, fun D hD => lcG_list (xs := xs) Pp I hD J hP (sqL hS) (h0 _ (Ex.new (J.ng hD))) (fun i ws G2 us ts' h1 h2 => hI i ws G2 D us ts' h1 h2) hz hs fun ws G' P' H' e hd hi hp j => hq D ws G' P' H' hD e hd hi hp j⟩
theorem aLcT.go {a : Addr} {xs : List V} {ts : List Nat} {G P : Hp} (Pp : Hp → Prop) (I : Nat → List V → Hp → Prop) (J : Join G P H) (hP : Pp P)
    (hS : G a = some (.tup xs)) (h0 : ∀ G', Ex G G' → I 0 [] G') (hI : ∀ i ws G2 D us ts, G2 D = some (.lst us) → I i ws G2 → I i ws (upd G2 D (.lst ts))) (hz : ∀ i ws G2, I i ws G2 → ws.length ≤ 1000000)
    (hs : ∀ (i : Nat) (x : V) (ws : List V) (G' P' H' : Hp) (R : VK) (R0 : Hp → Prop), xs[i]? = some x → Ex G G' → I i ws G' → Pp P' → Join G' P' H' →
      (∀ v G2 P2 H2, Ex G' G2 → Pp P2 → Join G2 P2 H2 → I (i + 1) (ws ++ [v]) G2 → R v H2) → (∀ G2 P2 H2, Ex G' G2 → Pp P2 → Join G2 P2 H2 → I (i + 1) ws G2 → R0 H2) →
      g x (wipe σ ts) H' fun σ2 H2 => wipe σ2 ts = wipe σ ts ∧ tt σ2 H2 fun b H3 => if b = true then te σ2 H3 R else R0 H3)
    (hq : ∀ p ws G' P' H', H p = none → Ex G G' → G' p = some (.lst ws) → I xs.length ws G' → Pp P' → Join G' P' H' → Q (.ref p) H') : aLcT K g tt te ts σ (.ref a) H Q :=
  ⟨a, rfl, ⟨_, sqT (J.g _ _ hS)⟩, fun D hD => lcG_tup (xs := xs) Pp I hD J hP (sqT hS) (h0 _ (Ex.new (J.ng hD))) (fun i ws G2 us ts' h1 h2 => hI i ws G2 D us ts' h1 h2) hz hs fun ws G' P' H' e hd hi hp j => hq D ws G' P' H' hD e hd hi hp j⟩
theorem aLcR.go {n : Nat} {ts : List Nat} {G P : Hp} (Pp : Hp → Prop) (I : Nat → List V → Hp → Prop) (J : Join G P H) (hP : Pp P) {m : Int} (hn : m = n) (hm : n ≤ 1000000)
    (h0 : ∀ G', Ex G G' → I 0 [] G') (hI : ∀ i ws G2 D us ts, G2 D = some (.lst us) → I i ws G2 → I i ws (upd G2 D (.lst ts))) (hz : ∀ i ws G2, I i ws G2 → ws.length ≤ 1000000)
    (hs : ∀ (i : Nat) (ws : List V) (G' P' H' : Hp) (R : VK) (R0 : Hp → Prop), i < n → Ex G G' → I i ws G' → Pp P' → Join G' P' H' →
      (∀ v G2 P2 H2, Ex G' G2 → Pp P2 → Join G2 P2 H2 → I (i + 1) (ws ++ [v]) G2 → R v H2) → (∀ G2 P2 H2, Ex G' G2 → Pp P2 → Join G2 P2 H2 → I (i + 1) ws G2 → R0 H2) →
      g (.int (i : Int)) (wipe σ ts) H' fun σ2 H2 => wipe σ2 ts = wipe σ ts ∧ tt σ2 H2 fun b H3 => if b = true then te σ2 H3 R else R0 H3)
    (hq : ∀ p ws G' P' H', H p = none → Ex G G' → G' p = some (.lst ws) → I n ws G' → Pp P' → Join G' P' H' → Q (.ref p) H') : aLcR g tt te ts σ [.int m] H Q := by
  subst hn
  refine ⟨(n : Int), rfl, by omega, by omega, fun D hD => lcG_range (lo := 0) (n := (n : Int).toNat) Pp I hD J hP (h0 _ (Ex.new (J.ng hD))) (fun i ws G2 us ts' h1 h2 => hI i ws G2 D us ts' h1 h2) hz ?_ fun ws G' P' H' e hd hi hp j => hq D ws G' P' H' hD e hd (by rw [Int.toNat_natCast] at hi; exact hi) hp j⟩
  intro i ws G' P' H' R R0 hi
  rw [Int.zero_add]
  rw [Int.toNat_natCast] at hi
  exact hs i ws G' P' H' R R0 hi
/-- tests of a comprehension within: both ends -/
theorem wipe_go {σ2 : L2.St} {ts : List Nat} {A : Prop} (e : wipe σ2 ts = wipe σ ts) (h : A) : wipe σ2 ts = wipe σ ts ∧ A := ⟨e, h⟩
/-- a method's call -/
def aMeth (C : Addr) (m : Str) (sp : Sp) (dvs : List V) (E : XK) (as : TA) (σ : L2.St) : V → Hp → VK → Prop := fun x H Q => ∃ a dx fs, x = .ref a ∧ H a = some (.ins C dx fs) ∧ fs.lookup m = none ∧ as σ H fun vs H1 => sp (x :: (vs ++ dvs)) H1 Q E
theorem w_meth {C : Addr} {m : Str} {sp : Sp} {dvs : List V} {E : XK} (h : ta σ H fun x H1 => aMeth C m sp dvs E as σ x H1 Q) : tMeth C m sp dvs E ta as σ H Q := h
theorem aMeth.go {C a dx : Addr} {m : Str} {sp : Sp} {dvs : List V} {E : XK} {fs : List (Str × V)} {G P : Hp} (J : Join G P H) (e : G a = some (.ins C dx fs)) (l : fs.lookup m = none) (h : as σ H fun vs H1 => sp (.ref a :: (vs ++ dvs)) H1 Q E) : aMeth C m sp dvs E as σ (.ref a) H Q := ⟨a, dx, fs, rfl, J.g _ _ e, l, h⟩
/-- fields of machines -/
theorem aFld.ns {G P : Hp} {m : Addr} {n : Int} {es : List Ev} (J : Join G P H) (h : MachK K G m n es) (q : Q (.int n) H) : aFld K "standings" (.ref m) H Q := by
  obtain ⟨C, hC, dx, t, ko, ks, h1, h2⟩ := h
  exact ⟨m, C, dx, _, _, rfl, J.g _ _ h1, hC.c, hC.ns, ml1 _ _ _, q⟩
theorem aFld.ne {G P : Hp} {m : Addr} {n : Int} {es : List Ev} (J : Join G P H) (h : MachK K G m n es) (q : ∀ t vs, G t = some (.tup vs) → EvL G vs es → Q (.ref t) H) : aFld K "events" (.ref m) H Q := by
  obtain ⟨C, hC, dx, t, ko, ks, h1, ⟨vs, h2, h3⟩, h4⟩ := h
  exact ⟨m, C, dx, _, _, rfl, J.g _ _ h1, hC.c, hC.ne, ml2 _ _ _, q t vs h2 h3⟩
theorem aFld.nk {G P : Hp} {m : Addr} {n : Int} {es : List Ev} (J : Join G P H) (h : MachK K G m n es) (q : ∀ ko ks, G ko = some (.lst ks) → (ks.length : Int) = n → (∀ i : Nat, i < ks.length → ∃ k : Addr, ks[i]? = some (.ref k) ∧ G k = some (.lst ((outs 0 es i).map V.int))) → Q (.ref ko) H) : aFld K "kept_out" (.ref m) H Q := by
  obtain ⟨C, hC, dx, t, ko, ks, h1, h2, h3, h4, h5⟩ := h
  exact ⟨m, C, dx, _, _, rfl, J.g _ _ h1, hC.c, hC.nk, ml3 _ _ _, q ko ks h3 h4 h5⟩
/-- a list's end grows -/
theorem w_append {l : Addr} {xs : List V} (e : H l = some (.lst xs)) (z : xs.length < 100000) (h : Q .non (upd H l (.lst (xs ++ [y])))) : rAppend (.ref l) [y] H Q := ⟨l, xs, y, rfl, rfl, e, szlt z, h⟩
/-- a thing made: its dict and itself are new -/
def aMake (C : Addr) (sp : Sp) (dvs : List V) (E : XK) : List V → Hp → VK → Prop := fun vs H Q => tMake C sp dvs E (fun _ H S => S vs H) [] H Q
theorem w_make {C : Addr} {sp : Sp} {dvs : List V} {E : XK} (h : as σ H fun vs H1 => aMake C sp dvs E vs H1 Q) : tMake C sp dvs E as σ H Q := h
theorem aMake.go {C : Addr} {sp : Sp} {dvs vs : List V} {E : XK} {G P : Hp} (J : Join G P H) (q : ∀ m dx G' H', H m = none → Ex G G' → Join G' P H' → G' m = some (.ins C dx []) → sp (.ref m :: (vs ++ dvs)) H' (fun v H2 => v = .non ∧ Q (.ref m) H2) E) : aMake C sp dvs E vs H Q := by
  intro m dx hm hdx hne
  have j3 := (J.newG (o := .own m) hdx).newG (o := .ins C dx []) (b := m) (Eq.trans (upd_ne (Ne.symm hne)) hm)
  have e3 : Ex G _ := (Ex.new (o := .own m) (J.ng hdx)).trans (Ex.new (o := .ins C dx []) (p := m) (Eq.trans (upd_ne (Ne.symm hne)) (J.ng hm)))
  exact q m dx _ _ hm e3 j3 upd_same
theorem But.ex {x : Addr} {G G1 G2 : Hp} (b : But x G1 G2) (e : Ex G G1) (n : G x = none) : Ex G G2 := fun a o h => b a o (e a o h) (ne_of_none h n)
theorem big15 {a : Int} (h1 : -1000000000000000 ≤ a) (h2 : a ≤ 1000000000000000) : a.natAbs < 2 ^ 1000 := Nat.lt_of_lt_of_le (show a.natAbs < 1152921504606846976 by omega) (Nat.le_trans (show 1152921504606846976 ≤ 2 ^ 60 by decide) (Nat.pow_le_pow_right (by decide) (by decide)))
theorem big199 {a : Int} (h1 : -1000000000000000000000 ≤ a) (h2 : a ≤ 1000000000000000000000) : a.natAbs < 2 ^ 199 := Nat.lt_of_lt_of_le (show a.natAbs < 1180591620717411303424 by omega) (Nat.le_trans (show 1180591620717411303424 ≤ 2 ^ 70 by decide) (Nat.pow_le_pow_right (by decide) (by decide)))
theorem big199' {a : Int} (h1 : -1000000000000000000000 ≤ a) (h2 : a ≤ 1000000000000000000000) : a.natAbs < 2 ^ 1000 := Nat.lt_of_lt_of_le (big199 h1 h2) (Nat.pow_le_pow_right (by decide) (by decide))
theorem mul15 {a b : Int} (h1 : -1000000000000000 ≤ a) (h2 : a ≤ 1000000000000000) (h3 : -1000000000000000 ≤ b) (h4 : b ≤ 1000000000000000) : CMulW a b := mulW (big15 h1 h2) (big15 h3 h4)
theorem tupOf_go {p : Addr} {ws : List V} {G P : Hp} (J : Join G P H) (h : G p = some (.lst ws)) (q : ∀ t G' H', H t = none → Ex G G' → Join G' P H' → G' t = some (.tup ws) → Q (.ref t) H') : rTupOf K [.ref p] H Q :=
  ⟨p, ws, rfl, .inl ⟨sqL (J.g _ _ h), fun l hl => q l _ _ hl (Ex.new (J.ng hl)) (J.newG hl) upd_same⟩⟩
theorem isi_mach {G P : Hp} {m : Addr} {n : Int} {es : List Ev} (J : Join G P H) (h : MachK K G m n es) (q : Q (.bl true) H) : rIsi K [.ref m, .ref (He.ga K "Machine")] H Q := by
  obtain ⟨C, hC, dx, t, ko, ks, h1, _⟩ := h
  exact ⟨_, _, _, _, true, rfl, .own _, hC.ty (J.g _ _ h1), hC.o.kit, q⟩
theorem isi_lst {a : Addr} {xs : List V} {G P : Hp} (J : Join G P H) (h : G a = some (.lst xs)) (q : Q (.bl true) H) : rIsi K [.ref a, .ty "list"] H Q := ⟨_, _, _, _, true, rfl, .ty _, .base (.lst (J.g _ _ h)), kit_ty (by decide +kernel), q⟩
theorem isi_tup {a : Addr} {xs : List V} {G P : Hp} (J : Join G P H) (h : G a = some (.tup xs)) (q : Q (.bl true) H) : rIsi K [.ref a, .ty "tuple"] H Q := ⟨_, _, _, _, true, rfl, .ty _, .base (.tup (J.g _ _ h)), kit_ty (by decide +kernel), q⟩
section
variable {a b : Addr} {G P : Hp} {vs ws : List V} {ls ms : List (List Int)} {l m : List Int}
theorem neD_U (J : Join G P H) (ha : G a = some (.tup vs)) (hv : TupL iV G vs ls) (hb : G b = some (.tup ws)) (hw : TupL iV G ws ms) (q : Q (.bl (!decide (ls = ms))) H) : rNeD K (.ref a) (.ref b) H Q :=
  ⟨_, _, dp_tt (J.g _ _ ha) (hv.monoJ J), dp_tt (J.g _ _ hb) (hw.monoJ J), shaped_dU _, shaped_dU _, by rw [eqv_dU]; exact q⟩
theorem neD_L (J : Join G P H) (ha : G a = some (.lst vs)) (hv : TupL iV G vs ls) (hb : G b = some (.lst ws)) (hw : TupL iV G ws ms) (q : Q (.bl (!decide (ls = ms))) H) : rNeD K (.ref a) (.ref b) H Q :=
  ⟨_, _, dp_lst (J.g _ _ ha) (hv.monoJ J), dp_lst (J.g _ _ hb) (hw.monoJ J), shaped_dL _, shaped_dL _, by rw [eqv_dL]; exact q⟩
theorem neD_T (J : Join G P H) (ha : G a = some (.tup (iV l))) (hb : G b = some (.tup (iV m))) (q : Q (.bl (!decide (l = m))) H) : rNeD K (.ref a) (.ref b) H Q :=
  ⟨_, _, dp_tup (J.g _ _ ha), dp_tup (J.g _ _ hb), shaped_dT _, shaped_dT _, by rw [eqv_dT]; exact q⟩
theorem eqD_U (J : Join G P H) (ha : G a = some (.tup vs)) (hv : TupL iV G vs ls) (hb : G b = some (.tup ws)) (hw : TupL iV G ws ms) (q : Q (.bl (decide (ls = ms))) H) : rEqD K (.ref a) (.ref b) H Q :=
  ⟨_, _, dp_tt (J.g _ _ ha) (hv.monoJ J), dp_tt (J.g _ _ hb) (hw.monoJ J), shaped_dU _, shaped_dU _, by rw [eqv_dU]; exact q⟩
theorem eqD_L (J : Join G P H) (ha : G a = some (.lst vs)) (hv : TupL iV G vs ls) (hb : G b = some (.lst ws)) (hw : TupL iV G ws ms) (q : Q (.bl (decide (ls = ms))) H) : rEqD K (.ref a) (.ref b) H Q :=
  ⟨_, _, dp_lst (J.g _ _ ha) (hv.monoJ J), dp_lst (J.g _ _ hb) (hw.monoJ J), shaped_dL _, shaped_dL _, by rw [eqv_dL]; exact q⟩
theorem eqD_T (J : Join G P H) (ha : G a = some (.tup (iV l))) (hb : G b = some (.tup (iV m))) (q : Q (.bl (decide (l = m))) H) : rEqD K (.ref a) (.ref b) H Q :=
  ⟨_, _, dp_tup (J.g _ _ ha), dp_tup (J.g _ _ hb), shaped_dT _, shaped_dT _, by rw [eqv_dT]; exact q⟩
theorem neD_P {n n' : Int} {es es' : List Ev} (J : Join G P H) (ha : PartsAt G a n es) (hb : PartsAt G b n' es') (q : Q (.bl (!decide (n = n' ∧ es = es'))) H) : rNeD K (.ref a) (.ref b) H Q := by
  refine ⟨_, _, dp_parts (ha.mono J.exG), dp_parts (hb.mono J.exG), shaped_dP _ _, shaped_dP _ _, ?_⟩
  rw [eqv_dP]
  have e : decide (n = n' ∧ es.map evI = es'.map evI) = decide (n = n' ∧ es = es') := decide_eq_decide.mpr ⟨fun h => ⟨h.1, evI_inj h.2⟩, fun h => ⟨h.1, by rw [h.2]⟩⟩
  rw [e]; exact q
end
/-! builtins' calls by a name -/
def rLstOf (K : PySem.W.Frag) : List V → Hp → VK → Prop := fun xs H Q => ∃ p ys, xs = [.ref p] ∧ (SqL K H p ys ∨ SqT K H p ys) ∧ ∀ l, H l = none → Q (.ref l) (upd H l (.lst ys))
def rAbs : List V → Hp → VK → Prop := fun xs H Q => ∃ i, xs = [.int i] ∧ Q (.int (if i < 0 then -i else i)) H
def rInt1 : List V → Hp → VK → Prop := fun xs H Q => (∃ i, xs = [.int i] ∧ Q (.int i) H) ∨ ∃ k, xs = [.bl k] ∧ Q (.int (if k then 1 else 0)) H
def rLenV (K : PySem.W.Frag) : List V → Hp → VK → Prop := fun xs H Q => ∃ x n, xs = [x] ∧ LenV K x H n ∧ Q (.int n) H
theorem w_tof (h : as σ H fun vs H1 => rTupOf K vs H1 Q) : tCB (fun xs H Q => ∃ p ys, xs = [.ref p] ∧ ((SqL K H p ys ∧ ∀ l, H l = none → Q (.ref l) (upd H l (.tup ys))) ∨ (SqT K H p ys ∧ Q (.ref p) H))) as σ H Q := h
theorem w_lof (h : as σ H fun vs H1 => rLstOf K vs H1 Q) : tCB (fun xs H Q => ∃ p ys, xs = [.ref p] ∧ (SqL K H p ys ∨ SqT K H p ys) ∧ ∀ l, H l = none → Q (.ref l) (upd H l (.lst ys))) as σ H Q := h
theorem w_abs (h : as σ H fun vs H1 => rAbs vs H1 Q) : tCB (fun xs H Q => ∃ i, xs = [.int i] ∧ Q (.int (if i < 0 then -i else i)) H) as σ H Q := h
theorem w_int1 (h : as σ H fun vs H1 => rInt1 vs H1 Q) : tCB (fun xs H Q => (∃ i, xs = [.int i] ∧ Q (.int i) H) ∨ ∃ k, xs = [.bl k] ∧ Q (.int (if k then 1 else 0)) H) as σ H Q := h
theorem w_lenv (h : as σ H fun vs H1 => rLenV K vs H1 Q) : tCB (fun xs H Q => ∃ x n, xs = [x] ∧ LenV K x H n ∧ Q (.int n) H) as σ H Q := h
def rLenW (K : PySem.W.Frag) : List V → Hp → VK → Prop := fun xs H Q => ∃ p ys, xs = [.ref p] ∧ (SqL K H p ys ∨ SqT K H p ys) ∧ Q (.int ys.length) H
theorem w_lens (h : as σ H fun vs H1 => rLenW K vs H1 Q) : tCB (fun xs H Q => ∃ p ys, xs = [.ref p] ∧ (SqL K H p ys ∨ SqT K H p ys) ∧ Q (.int ys.length) H) as σ H Q := h
theorem w_slenT {a : Addr} {xs : List V} (e : H a = some (.tup xs)) (h : Q (.int xs.length) H) : rLenW K [.ref a] H Q := ⟨_, _, rfl, .inr (sqT e), h⟩
theorem w_slenL {a : Addr} {xs : List V} (e : H a = some (.lst xs)) (h : Q (.int xs.length) H) : rLenW K [.ref a] H Q := ⟨_, _, rfl, .inl (sqL e), h⟩
theorem w_klenT {a : Addr} {xs : List V} (e : H a = some (.tup xs)) (h : Q (.int xs.length) H) : Lv.rLenS K [.ref a] H Q := ⟨_, _, rfl, .inr (sqT e), h⟩
theorem w_klenL {a : Addr} {xs : List V} (e : H a = some (.lst xs)) (h : Q (.int xs.length) H) : Lv.rLenS K [.ref a] H Q := ⟨_, _, rfl, .inl (sqL e), h⟩
theorem w_rabs {a : Int} (h : Q (.int (a.natAbs : Nat)) H) : rAbs [.int a] H Q := ⟨a, rfl, by rw [abs_if]; exact h⟩
theorem w_rint {a : Int} (h : Q (.int a) H) : rInt1 [.int a] H Q := .inl ⟨a, rfl, h⟩
theorem w_rintb {b : Bool} (h : Q (.int (if b then 1 else 0)) H) : rInt1 [.bl b] H Q := .inr ⟨b, rfl, h⟩
theorem w_rlenT {a : Addr} {xs : List V} (e : H a = some (.tup xs)) (h : Q (.int xs.length) H) : rLenV K [.ref a] H Q := ⟨_, _, rfl, .inr ⟨xs, sqT e, rfl⟩, h⟩
theorem w_rlenL {a : Addr} {xs : List V} (e : H a = some (.lst xs)) (h : Q (.int xs.length) H) : rLenV K [.ref a] H Q := ⟨_, _, rfl, .inl ⟨xs, sqL e, rfl⟩, h⟩
theorem lstOf_go {p : Addr} {ws : List V} {G P : Hp} (J : Join G P H) (h : G p = some (.lst ws) ∨ G p = some (.tup ws)) (q : ∀ t G' H', H t = none → Ex G G' → Join G' P H' → G' t = some (.lst ws) → Q (.ref t) H') : rLstOf K [.ref p] H Q :=
  ⟨p, ws, rfl, h.imp (fun h => sqL (J.g _ _ h)) (fun h => sqT (J.g _ _ h)), fun l hl => q l _ _ hl (Ex.new (J.ng hl)) (J.newG hl) upd_same⟩
/-- a list's method -/
def aBM (K : PySem.W.Frag) (T : String) (r : V → List V → Hp → VK → Prop) (as : TA) (σ : L2.St) : V → Hp → VK → Prop := fun x H Q => tyV K T x H ∧ as σ H fun xs H2 => r x xs H2 Q
theorem w_bm {T : String} {r : V → List V → Hp → VK → Prop} (h : ta σ H fun x H1 => aBM K T r as σ x H1 Q) : tBM K T r ta as σ H Q := h
theorem w_bm0 {T : String} {r : V → List V → Hp → VK → Prop} (h : ta σ H fun x H1 => aBM K T r tNil σ x H1 Q) : tBM0 K T r ta σ H Q := h
theorem w_bml {r : V → List V → Hp → VK → Prop} {a : Addr} {xs : List V} (e : H a = some (.lst xs)) (h : as σ H fun vs H2 => r (.ref a) vs H2 Q) : aBM K "list" r as σ (.ref a) H Q := ⟨.inl ⟨rfl, xs, sqL e⟩, h⟩
/-! loops over ranges, lists, tuples -/
def aForR (g : TG) (tb : TS) (D : Ends) (σ : L2.St) : List V → Hp → Prop := fun vs H => tFor (fun _ H R => ∃ j : Int, vs = [.int j] ∧ -(2 ^ 62) ≤ j ∧ j < 2 ^ 62 ∧ R (Itr 0 j.toNat) H) g tb D σ H
def aForL (K : PySem.W.Frag) (g : TG) (tb : TS) (D : Ends) (σ : L2.St) : V → Hp → Prop := fun x H => tFor (fun _ H R => ∃ a, x = .ref a ∧ (∃ xs, SqL K H a xs) ∧ R (Itl K a) H) g tb D σ H
def aForT (K : PySem.W.Frag) (g : TG) (tb : TS) (D : Ends) (σ : L2.St) : V → Hp → Prop := fun x H => tFor (fun _ H R => ∃ a, x = .ref a ∧ (∃ xs, SqT K H a xs) ∧ R (Itt K a) H) g tb D σ H
theorem w_forR {tb : TS} (h : as σ H fun vs H1 => aForR g tb D σ vs H1) : tFor (iRng1 as) g tb D σ H := h
theorem w_forL {tb : TS} (h : ta σ H fun x H1 => aForL K g tb D σ x H1) : tFor (iList K ta) g tb D σ H := h
theorem w_forT {tb : TS} (h : ta σ H fun x H1 => aForT K g tb D σ x H1) : tFor (iTup K ta) g tb D σ H := h
theorem aForR.go {tb : TS} {G P : Hp} {m : Int} {n : Nat} (hn : m = n) (hm : n ≤ 1000000) (I : Nat → Hp → Hp → L2.St → Prop) (J : Join G P H) (h0 : I 0 G P σ)
    (hs : ∀ (i : Nat) (G' P' H' : Hp) (σ' : L2.St), i < n → Join G' P' H' → I i G' P' σ' → g (.int (i : Int)) σ' H' fun σ2 H2 => tb ⟨fun σ3 H3 => ∃ G3 P3, Join G3 P3 H3 ∧ I (i + 1) G3 P3 σ3, rt, nx, fun σ3 H3 => ∃ G3 P3, Join G3 P3 H3 ∧ I (i + 1) G3 P3 σ3⟩ σ2 H2)
    (hq : ∀ (G' P' H' : Hp) (σ' : L2.St), Join G' P' H' → I n G' P' σ' → nx σ' H') : aForR g tb ⟨nx, rt, bk, ct⟩ σ [.int m] H := by
  subst hn
  refine ⟨(n : Int), rfl, by omega, by omega, for_range (lo := 0) (n := (n : Int).toNat) (fun i σ' H' => ∃ G3 P3, Join G3 P3 H' ∧ I i G3 P3 σ') ⟨G, P, J, h0⟩ ?_ ?_⟩
  · rintro i σ' H' hi ⟨G', P', J', hI⟩
    rw [Int.zero_add]
    rw [Int.toNat_natCast] at hi
    exact hs i G' P' H' σ' hi J' hI
  · rintro σ' H' ⟨G', P', J', hI⟩
    rw [Int.toNat_natCast] at hI
    exact hq G' P' H' σ' J' hI
theorem aForL.go {tb : TS} {G P : Hp} {a : Addr} {xs : List V} (I : Nat → Hp → Hp → L2.St → Prop) (J : Join G P H) (hS : G a = some (.lst xs)) (h0 : I 0 G P σ) (hk : ∀ i G' P' σ', I i G' P' σ' → G' a = some (.lst xs))
    (hs : ∀ (i : Nat) (x : V) (G' P' H' : Hp) (σ' : L2.St), xs[i]? = some x → Join G' P' H' → I i G' P' σ' → g x σ' H' fun σ2 H2 => tb ⟨fun σ3 H3 => ∃ G3 P3, Join G3 P3 H3 ∧ I (i + 1) G3 P3 σ3, rt, nx, fun σ3 H3 => ∃ G3 P3, Join G3 P3 H3 ∧ I (i + 1) G3 P3 σ3⟩ σ2 H2)
    (hq : ∀ (G' P' H' : Hp) (σ' : L2.St), Join G' P' H' → I xs.length G' P' σ' → nx σ' H') : aForL K g tb ⟨nx, rt, bk, ct⟩ σ (.ref a) H := by
  refine ⟨a, rfl, ⟨_, sqL (J.g _ _ hS)⟩, for_list (xs := xs) (fun i σ' H' => ∃ G3 P3, Join G3 P3 H' ∧ I i G3 P3 σ') ⟨G, P, J, h0⟩ ?_ ?_ ?_⟩
  · rintro i σ' H' _ ⟨G', P', J', hI⟩
    exact sqL (J'.g _ _ (hk _ _ _ _ hI))
  · rintro i x σ' H' hi ⟨G', P', J', hI⟩
    exact hs i x G' P' H' σ' hi J' hI
  · rintro σ' H' ⟨G', P', J', hI⟩
    exact hq G' P' H' σ' J' hI
theorem aForT.go {tb : TS} {G P : Hp} {a : Addr} {xs : List V} (I : Nat → Hp → Hp → L2.St → Prop) (J : Join G P H) (hS : G a = some (.tup xs)) (h0 : I 0 G P σ) (hk : ∀ i G' P' σ', I i G' P' σ' → G' a = some (.tup xs))
    (hs : ∀ (i : Nat) (x : V) (G' P' H' : Hp) (σ' : L2.St), xs[i]? = some x → Join G' P' H' → I i G' P' σ' → g x σ' H' fun σ2 H2 => tb ⟨fun σ3 H3 => ∃ G3 P3, Join G3 P3 H3 ∧ I (i + 1) G3 P3 σ3, rt, nx, fun σ3 H3 => ∃ G3 P3, Join G3 P3 H3 ∧ I (i + 1) G3 P3 σ3⟩ σ2 H2)
    (hq : ∀ (G' P' H' : Hp) (σ' : L2.St), Join G' P' H' → I xs.length G' P' σ' → nx σ' H') : aForT K g tb ⟨nx, rt, bk, ct⟩ σ (.ref a) H := by
  refine ⟨a, rfl, ⟨_, sqT (J.g _ _ hS)⟩, for_tup (xs := xs) (fun i σ' H' => ∃ G3 P3, Join G3 P3 H' ∧ I i G3 P3 σ') ⟨G, P, J, h0⟩ ?_ ?_ ?_⟩
  · rintro i σ' H' _ ⟨G', P', J', hI⟩
    exact sqT (J'.g _ _ (hk _ _ _ _ hI))
  · rintro i x σ' H' hi ⟨G', P', J', hI⟩
    exact hs i x G' P' H' σ' hi J' hI
  · rintro σ' H' ⟨G', P', J', hI⟩
    exact hq G' P' H' σ' J' hI
/-- a list's end grows: the heap's first part, apart from that list -/
theorem append.go {l : Addr} {xs : List V} {G P : Hp} (J : Join G P H) (e : G l = some (.lst xs)) (z : xs.length < 100000) (q : ∀ G' H', But l G G' → Join G' P H' → G' l = some (.lst (xs ++ [y])) → Q .non H') : rAppend (.ref l) [y] H Q :=
  w_append (J.g _ _ e) z (q _ _ (fun b o h n => by rw [upd_ne n]; exact h) (J.setGo e) upd_same)
theorem But.trans {x : Addr} {G G1 G2 : Hp} (b1 : But x G G1) (b2 : But x G1 G2) : But x G G2 := fun a o h n => b2 a o (b1 a o h n) n
theorem But.ofEx {x : Addr} {G G1 : Hp} (e : Ex G G1) : But x G G1 := fun a o h _ => e a o h
theorem Ex.but {x : Addr} {G G1 G2 : Hp} (e : Ex G G1) (b : But x G1 G2) (n : G x = none) : Ex G G2 := b.ex e n
theorem w_sl {r : V → Option Int → Option Int → Hp → VK → Prop} {tl th : TO} (h : te σ H fun x H1 => tl σ H1 fun l H2 => th σ H2 fun u H3 => r x l u H3 Q) : tSl r te tl th σ H Q := h
theorem w_npart {S : Option Int → Hp → Prop} (h : S none H) : tNoPart σ H S := h
theorem w_part {S : Option Int → Hp → Prop} (h : te σ H fun x H1 => ∃ i, x = .int i ∧ S (some i) H1) : tPart te σ H S := h
theorem w_pint {k : Int} {S : Int → Prop} (h : S k) : ∃ i, V.int k = V.int i ∧ S i := ⟨k, rfl, h⟩
theorem slL_drop {r : Addr} {xs : List V} {m : Nat} {G P : Hp} (j : Join G P H) (hr : G r = some (.lst xs)) (q : ∀ t G' H', Ex G G' → Join G' P H' → H t = none → G' t = some (.lst (xs.drop m)) → Q (.ref t) H') : rSlL K (.ref r) (some (m : Int)) none H Q := by
  refine ⟨r, xs, rfl, sqL (j.g _ _ hr), fun p hp => q p _ _ (Ex.new (j.ng hp)) (j.newG hp) hp ?_⟩
  rw [upd_same]
  congr 2
  unfold cutV
  rw [HT.sIx_nat, HT.sIx_none]
  by_cases hm : m ≤ xs.length
  · rw [Nat.min_eq_left hm, List.take_of_length_le (by rw [List.length_drop]; omega)]
  · rw [Nat.min_eq_right (by omega), List.drop_length, List.drop_of_length_le (by omega)]; simp
theorem slA_drop {r : Addr} {xs : List V} {m : Nat} {G P : Hp} (j : Join G P H) (hr : G r = some (.tup xs)) (q : ∀ t G' H', Ex G G' → Join G' P H' → G' t = some (.tup (xs.drop m)) → Q (.ref t) H') : rSlA K (.ref r) (some (m : Int)) none H Q := by
  refine ⟨r, xs, rfl, sqT (j.g _ _ hr), fun h => ?_, fun _ p hp => q p _ _ (Ex.new (j.ng hp)) (j.newG hp) ?_⟩
  · have h1 := h.1
    rw [HT.sIx_nat] at h1
    refine q r G H (Ex.refl _) j ?_
    by_cases hm : m = 0
    · subst hm; exact hr
    · have : xs = [] := List.eq_nil_of_length_eq_zero (by omega)
      subst this; simpa using hr
  · rw [upd_same]
    congr 2
    unfold cutV
    rw [HT.sIx_nat, HT.sIx_none]
    by_cases hm : m ≤ xs.length
    · rw [Nat.min_eq_left hm, List.take_of_length_le (by rw [List.length_drop]; omega)]
    · rw [Nat.min_eq_right (by omega), List.drop_length, List.drop_of_length_le (by omega)]; simp
/-- lists of ints as data -/
def dI (l : List Int) : PyData := .list (l.map PyData.int)
theorem shaped_dI (l : List Int) : SeqAt.shaped (dI l) = true := by
  have h1 := lay_ints l
  have h2 := dep_ints l
  unfold SeqAt.shaped dI
  rw [PyData.canLay0, h1, PyData.depth]
  simp
  omega
theorem eqv_dI (l m : List Int) : PyData.eqv (dI l) (dI m) = decide (l = m) := by
  unfold dI; rw [PyData.eqv]; exact eqv_ints l m
theorem neD_I {a b : Addr} {l m : List Int} {G P : Hp} (J : Join G P H) (ha : G a = some (.lst (l.map V.int))) (hb : G b = some (.lst (m.map V.int))) (q : Q (.bl (!decide (l = m))) H) : rNeD K (.ref a) (.ref b) H Q :=
  ⟨_, _, .lst (sqL (J.g _ _ ha)) (dp_ints l), .lst (sqL (J.g _ _ hb)) (dp_ints m), shaped_dI _, shaped_dI _, by rw [show PyData.eqv (.list (l.map PyData.int)) (.list (m.map PyData.int)) = decide (l = m) from eqv_dI l m]; exact q⟩
theorem eqD_I {a b : Addr} {l m : List Int} {G P : Hp} (J : Join G P H) (ha : G a = some (.lst (l.map V.int))) (hb : G b = some (.lst (m.map V.int))) (q : Q (.bl (decide (l = m))) H) : rEqD K (.ref a) (.ref b) H Q :=
  ⟨_, _, .lst (sqL (J.g _ _ ha)) (dp_ints l), .lst (sqL (J.g _ _ hb)) (dp_ints m), shaped_dI _, shaped_dI _, by rw [show PyData.eqv (.list (l.map PyData.int)) (.list (m.map PyData.int)) = decide (l = m) from eqv_dI l m]; exact q⟩
end
end Lv

/-! range(i, j) of numbers of any size -/
namespace Lv
open PySem PySem.Spec PyProof.Rows L2
variable [TabA]
theorem turn_long {P : Program} {w : World} {K : PySem.W.Frag} {tg : Expr} (it : Addr) (lo : Int) (n : Nat) : Turn P w K tg (Itr lo n) [it] it (fun i h => IsLongIter h it (lo + (i : Nat) * 1) ((n : Int) - (i : Nat)) 1) where
  mem := by simp
  obj := fun i h st b hb => by
    have e : b = it := by simpa using hb
    subst e
    exact ⟨_, st, fun v z => by
      have z' : Data.fields _ = Data.cell v := z
      cases z'⟩
  keep := fun i h h' st k => k it (by simp) _ st
  item := by
    intro X hP hw hK hc i pins s σ H E I hf st hg
    subst hP hw hK
    obtain ⟨f0, f1, f2, f3, f4, f5⟩ := hf it (by simp)
    have W := Walks.longrange (prog := X.prog) (w := X.w) (I.ok.hd hc) it lo 1 n
    refine W.item i s _ _ hg st fun v h' tk hv st' kk => ?_
    obtain ⟨t, rfl⟩ := hv
    have I1 : Inv X pins σ H { s with heap := h', toks := tk } := I.turned (fun b o hb e => kk b o (by simpa using hb) e) f0 f1 f3 f4 f5
    refine ⟨_, rfl, go_of (s := { s with heap := h', toks := tk }) (n := "longrange_iterator") st' rfl rfl (by decide) ⟨.int (lo + i), H, I1, ⟨t, ?_⟩, ⟨rfl, rfl⟩, st', fun b hb => (hf b hb).1⟩⟩
    rw [Int.mul_one]
  done := by
    intro X hP hw hK hc i pins s σ H E I hf st hg
    subst hP hw hK
    obtain ⟨f0, f1, f2, f3, f4, f5⟩ := hf it (by simp)
    exact wpAny_pyNext_long_end (I.ok.hd hc) st (by have : n ≤ i := hg; omega) fun h' eb => ⟨rfl, I.turned (t' := s.toks) (fun b o hb e => eb b o hb e) f0 f1 f3 f4 f5⟩
  self := fun _ _ _ _ _ st h => wpAny_pyIter_longiter st h
section
variable {X : Cx} {tg : Expr}
theorem range_itW {pins : List (Addr × Obj)} {σ : L2.St} {H : Hp} {s : Shared} {R : It → Hp → Prop} {E : Value → Shared → Prop} {lo hi : Int} {t u v : Tok} {tk : Nat} (I : Inv X pins σ H s)
    (q : R (Itr lo (hi - lo).toNat) H) : wpAny (model X.prog X.w) X.A (pyIter (.ref s.heap.objs.size)) (PIE X pins σ tg R) E { s with heap := s.heap.push { cls := .type "range", data := .fields #[.int lo t, .int hi u, .int 1 v] }, toks := tk } := by
  have I1 : Inv X pins σ H { s with heap := s.heap.push { cls := .type "range", data := .fields #[.int lo t, .int hi u, .int 1 v] }, toks := tk } := I.kept fun b o e => Heap.get?_push_of_some _ e
  have e1 : lo + ((0 : Nat) : Int) * 1 = lo := by simp
  have e2 : (((hi - lo).toNat : Nat) : Int) - ((0 : Nat) : Int) = Builtin.Range.rangeSize lo hi 1 := by rw [rangeSize_one]; split <;> omega
  cases hsm : Builtin.Range.small lo hi 1 with
  | true =>
    refine wpAny_pyIter_range (IsRange.new ..) hsm ?_
    refine ⟨(s.heap.push { cls := .type "range", data := .fields #[.int lo t, .int hi u, .int 1 v] }).objs.size, [(s.heap.push { cls := .type "range", data := .fields #[.int lo t, .int hi u, .int 1 v] }).objs.size], _, _, H, rfl,
      I1.kept (t' := tk) fun b o e => Heap.get?_push_of_some _ e, turn_range _ lo (hi - lo).toNat, ?_, fun b hb => ?_, q⟩
    · show IsRangeIter _ _ (lo + ((0 : Nat) : Int) * 1) ((((hi - lo).toNat : Nat) : Int) - ((0 : Nat) : Int)) 1
      rw [e1, e2]
      exact Heap.get?_push_size _ rfl
    · have e : b = (s.heap.push { cls := .type "range", data := .fields #[.int lo t, .int hi u, .int 1 v] }).objs.size := by simpa using hb
      subst e
      exact I1.fpOk (Nat.le_refl _) (I1.hok.fresh (Nat.le_refl _))
  | false =>
    refine wpAny_pyIter_longrange (IsRange.new ..) hsm ?_
    refine ⟨(s.heap.push { cls := .type "range", data := .fields #[.int lo t, .int hi u, .int 1 v] }).objs.size, [(s.heap.push { cls := .type "range", data := .fields #[.int lo t, .int hi u, .int 1 v] }).objs.size], _, _, H, rfl,
      I1.kept (t' := tk) fun b o e => Heap.get?_push_of_some _ e, turn_long _ lo (hi - lo).toNat, ?_, fun b hb => ?_, q⟩
    · show IsLongIter _ _ (lo + ((0 : Nat) : Int) * 1) ((((hi - lo).toNat : Nat) : Int) - ((0 : Nat) : Int)) 1
      rw [e1, e2]
      exact Heap.get?_push_size _ rfl
    · have e : b = (s.heap.push { cls := .type "range", data := .fields #[.int lo t, .int hi u, .int 1 v] }).objs.size := by simpa using hb
      subst e
      exact I1.fpOk (Nat.le_refl _) (I1.hok.fresh (Nat.le_refl _))
def iRngW (ta : TA) : TI := fun σ H R => ta σ H fun vs H1 => ∃ i j : Int, vs = [.int i, .int j] ∧ R (Itr i (j - i).toNat) H1
theorem pi_rangeW {a b : Expr} {ta : TA} {p pos : Pos} (hg : Gl X "range") (hm : X.mg "range" = none) (ha : PA X [a, b] ta) (hs : starEach [a, b] X.env = [(false, eval a X.env), (false, eval b X.env)] := by rfl) (hs2 : starEach [b] X.env = [(false, eval b X.env)] := by rfl) :
    PI X tg (.Call (.Name "range" p) [a, b] [] pos) (iRngW ta) := by
  refine ⟨fun pins s σ H R I h => ?_⟩
  refine Call_ (ld_blt I hg hm boot_range (PyProof.Rows.callWith_type1 (thn (ha.run pos pins s σ H _ I h) fun us s1 ⟨vs, H1, I1, r1, q1⟩ => ?_) (by rw [hs, hs2]) (by rw [hs2]; rfl)))
  obtain ⟨i, j, e, q⟩ := q1
  subst e
  cases r1 with
  | cons r rr =>
    cases rr with
    | cons r' rr =>
      cases rr
      obtain ⟨t, rfl⟩ := r
      obtain ⟨t', rfl⟩ := r'
      exact call_range_2 (range_itW I1 q)
end
end Lv

/-! is True, comprehensions over enumerate and range(i, j), in for ints -/
namespace Lv
open PySem PySem.Spec PyProof.Rows L2
variable [TabA]
def rIsB (neg : Bool) : R2 := fun x y H Q => ∃ a b, x = .bl a ∧ y = .bl b ∧ Q (.bl (if neg then !decide (a = b) else decide (a = b))) H
theorem bl_beq (a b : Bool) : (Value.bool a == Value.bool b) = decide (a = b) := by cases a <;> cases b <;> rfl
section
variable {X : Cx} {K : PySem.W.Frag} {o e : Expr} {es : List Expr} {to : TE} {t : TA} {name : Str} {apos cpos : Pos} {T id : String} {r : V → List V → Hp → VK → Prop}
theorem mt_indexK (h : X.K = K) : MtR X "list.index" (rIndex K) := h ▸ mt_index
theorem pe_bmK (h : X.K = K) (pa : PlainAttrs T) (slot : Slot T name id) (hty : typeOf (.builtin id) = pure (.type "method_descriptor")) (hm : MtR X id r) (ho : PE X o to) (ha : PA X (e :: es) t)
    (hbase : attributeBase o name X.env (eval o X.env) = eval o X.env := by rfl)
    (hfew : ((backTo cpos (starEach (e :: es) X.env)).all (fun x => !x.1) && (backToKw cpos (keywordEach [] X.env)).all (fun x => x.1.isSome)
      && decide ((e :: es).length + ([] : List Keyword).length + (if ([] : List Keyword).isEmpty then 0 else 1) < 30)) = true := by rfl)
    (hline : (apos.endLine == cpos.line) = true := by rfl) (hs : starEach (e :: es) X.env = (false, eval e X.env) :: starEach es X.env := by rfl) (hplain : (backTo cpos (starEach es X.env)).any (·.1) = false := by rfl) :
    PE X (.Call (.Attribute o name apos) (e :: es) [] cpos) (tBM K T r to t) := h ▸ pe_bm pa slot hty hm ho ha hbase hfew hline hs hplain
end
section
variable {X : Cx}
theorem op_isB : OpR X (compareOp .Is) (rIsB false) := by
  intro pins s σ H x y v u Q I rx ry h
  obtain ⟨a, b, rfl, rfl, q⟩ := h
  cases (show v = Value.bool a from rx)
  cases (show u = Value.bool b from ry)
  exact wpAny_is_plain rfl (fin_bl I q (bl_beq a b).symm)
theorem op_isNotB : OpR X (compareOp .IsNot) (rIsB true) := by
  intro pins s σ H x y v u Q I rx ry h
  obtain ⟨a, b, rfl, rfl, q⟩ := h
  cases (show v = Value.bool a from rx)
  cases (show u = Value.bool b from ry)
  exact wpAny_isNot_plain rfl (fin_bl I q (congrArg not (bl_beq a b).symm))
end
section
variable {K : PySem.W.Frag} {σ : L2.St} {H : Hp} {Q : VK} {nx bk ct : L2.St → Hp → Prop} {rt : VK} {D : Ends} {v x y : V} {te ta tb : TE} {tt uu : TT} {t u : TS} {as : TA} {g : TG} {i j : Nat}
theorem w_isB {a b : Bool} (h : Q (.bl (decide (a = b))) H) : rIsB false (.bl a) (.bl b) H Q := ⟨a, b, rfl, rfl, h⟩
theorem w_isNB {a b : Bool} (h : Q (.bl (!decide (a = b))) H) : rIsB true (.bl a) (.bl b) H Q := ⟨a, b, rfl, rfl, h⟩
theorem lc_enumT {a : Addr} {xs : List V} {vs : List Nat} {H1 : Hp} {D : Addr} {Qd : Hp → Prop} (Pv : Nat → Hp → Prop) (h0 : Pv 0 (upd H1 D (.lst []))) (hl : ∀ i H, i ≤ xs.length → Pv i H → SqT K H a xs)
    (hs : ∀ (i : Nat) x H T, xs[i]? = some x → Pv i H → H T = none → g (.ref T) (wipe σ vs) (upd H T (.tup [.int i, x])) fun σ2 H2 => wipe σ2 vs = wipe σ vs ∧ tt σ2 H2 fun b H3 =>
      if b = true then te σ2 H3 fun y H4 => ∃ acc, H4 D = some (.lst acc) ∧ acc.length < sizeLine ∧ Pv (i + 1) (upd H4 D (.lst (acc ++ [y]))) else Pv (i + 1) H3) (hd : ∀ H, Pv xs.length H → Qd H) :
    ∃ W : Nat → Nat → Hp → Prop, (∃ m, W 0 m (upd H1 D (.lst []))) ∧ ∀ i m H, W i m H →
      ((Itet K a).stop i H ∧ Qd H) ∨ ((Itet K a).go i H ∧ ∃ Nx : Hp → Prop, (∀ H', Nx H' → ∃ m', m' < m ∧ W (i + 1) m' H') ∧ ∀ x H', (Itet K a).yld i H x H' → g x (wipe σ vs) H' fun σ2 H2 => wipe σ2 vs = wipe σ vs ∧ tt σ2 H2 fun b H3 =>
        if b = true then te σ2 H3 fun y H4 => ∃ acc, H4 D = some (.lst acc) ∧ acc.length < sizeLine ∧ Nx (upd H4 D (.lst (acc ++ [y]))) else Nx H3) := by
  refine ⟨fun i m H => m = xs.length - i ∧ i ≤ xs.length ∧ Pv i H, ⟨xs.length, by simp, Nat.zero_le _, h0⟩, ?_⟩
  rintro i m H ⟨rfl, hi, p⟩
  have q := hl i H hi p
  by_cases hlt : i < xs.length
  · refine .inr ⟨⟨xs, xs[i], q, by simp [hlt]⟩, Pv (i + 1), fun H' p' => ⟨xs.length - (i + 1), by omega, rfl, hlt, p'⟩, fun x H' y => ?_⟩
    obtain ⟨T, z, e1, e2, e3, y⟩ := y
    subst e1 e3
    exact hs i z H T (y xs q) p e2
  · have e : i = xs.length := by omega
    subst e
    exact .inl ⟨⟨xs, q, rfl⟩, hd H p⟩
/-- [.. for .. in enumerate(t)] -/
def aLcE (K : PySem.W.Frag) (g : TG) (tt : TT) (te : TE) (vs : List Nat) (σ : L2.St) : List V → Hp → VK → Prop := fun us H Q => tLc (fun _ H R => ∃ a xs, us = [.ref a] ∧ SqT K H a xs ∧ R (Itet K a) H) g tt te vs σ H Q
theorem w_lcE {ts : List Nat} (h : as σ H fun xs H1 => aLcE K g tt te ts σ xs H1 Q) : tLc (iEnumT K as) g tt te ts σ H Q := h
theorem aLcE.go {a : Addr} {xs : List V} {ts : List Nat} {G P : Hp} (Pp : Hp → Prop) (I : Nat → List V → Hp → Prop) (J : Join G P H) (hP : Pp P)
    (hS : G a = some (.tup xs)) (h0 : ∀ G', Ex G G' → I 0 [] G') (hI : ∀ i ws G2 D us ts, G2 D = some (.lst us) → I i ws G2 → I i ws (upd G2 D (.lst ts))) (hz : ∀ i ws G2, I i ws G2 → ws.length ≤ 1000000)
    (hm : ∀ i ws G2 G3, Ex G2 G3 → I i ws G2 → I i ws G3)
    (hs : ∀ (i : Nat) (x : V) (T : Addr) (ws : List V) (G' P' H' : Hp) (R : VK) (R0 : Hp → Prop), xs[i]? = some x → Ex G G' → I i ws G' → Pp P' → Join G' P' H' → G' T = some (.tup [.int i, x]) →
      (∀ v G2 P2 H2, Ex G' G2 → Pp P2 → Join G2 P2 H2 → I (i + 1) (ws ++ [v]) G2 → R v H2) → (∀ G2 P2 H2, Ex G' G2 → Pp P2 → Join G2 P2 H2 → I (i + 1) ws G2 → R0 H2) →
      g (.ref T) (wipe σ ts) H' fun σ2 H2 => wipe σ2 ts = wipe σ ts ∧ tt σ2 H2 fun b H3 => if b = true then te σ2 H3 R else R0 H3)
    (hq : ∀ p ws G' P' H', H p = none → Ex G G' → G' p = some (.lst ws) → I xs.length ws G' → Pp P' → Join G' P' H' → Q (.ref p) H') : aLcE K g tt te ts σ [.ref a] H Q := by
  refine ⟨a, xs, rfl, sqT (J.g _ _ hS), fun D hD => ?_⟩
  have gD : G D = none := J.ng hD
  refine lc_enumT (K := K) (a := a) (xs := xs) (fun i H' => ∃ (ws : List V) (G' P' : Hp), Ex G G' ∧ G' D = some (.lst ws) ∧ I i ws G' ∧ Pp P' ∧ Join G' P' H') ⟨[], _, P, Ex.new gD, upd_same, h0 _ (Ex.new gD), hP, J.newG hD⟩ (fun i H' _ ⟨ws, G', P', e, _, _, _, j⟩ => (e.trans j.exG).t (sqT hS)) (fun i x H' T hi ⟨ws, G', P', e, hd, hi2, hp, j⟩ hT => ?_) (fun H' ⟨ws, G', P', e, hd, hi2, hp, j⟩ => hq D ws G' P' H' hD e hd hi2 hp j)
  have eT := Ex.new (o := .tup [.int (i : Int), x]) (j.ng hT)
  refine hs i x T ws _ P' _ _ _ hi (e.trans eT) (hm _ _ _ _ eT hi2) hp (j.newG hT) upd_same (fun v G2 P2 H2 e2 hp2 j2 hi3 => ⟨ws, j2.g _ _ (e2 _ _ (eT _ _ hd)), Nat.lt_of_le_of_lt (hz _ _ _ hi2) (by decide), ws ++ [v], _, P2, ?_, upd_same, hI _ _ _ _ _ _ (e2 _ _ (eT _ _ hd)) hi3, hp2, j2.setGo (e2 _ _ (eT _ _ hd))⟩) (fun G2 P2 H2 e2 hp2 j2 hi3 => ⟨ws, G2, P2, (e.trans eT).trans e2, e2 _ _ (eT _ _ hd), hi3, hp2, j2⟩)
  exact ((e.trans eT).trans e2).mut gD
/-- range(i, j) -/
def aLcR2 (g : TG) (tt : TT) (te : TE) (vs : List Nat) (σ : L2.St) : List V → Hp → VK → Prop := fun xs H Q => tLc (fun _ H R => ∃ i j : Int, xs = [.int i, .int j] ∧ R (Itr i (j - i).toNat) H) g tt te vs σ H Q
theorem w_lcR2 {ts : List Nat} (h : as σ H fun xs H1 => aLcR2 g tt te ts σ xs H1 Q) : tLc (iRngW as) g tt te ts σ H Q := h
theorem aLcR2.go {lo hi : Int} {n : Nat} {ts : List Nat} {G P : Hp} (Pp : Hp → Prop) (I : Nat → List V → Hp → Prop) (J : Join G P H) (hP : Pp P) (hn : (hi - lo).toNat = n) (hb : -1000000 ≤ hi - lo ∧ hi - lo ≤ 1000000)
    (h0 : ∀ G', Ex G G' → I 0 [] G') (hI : ∀ i ws G2 D us ts, G2 D = some (.lst us) → I i ws G2 → I i ws (upd G2 D (.lst ts))) (hz : ∀ i ws G2, I i ws G2 → ws.length ≤ 1000000)
    (hs : ∀ (i : Nat) (ws : List V) (G' P' H' : Hp) (R : VK) (R0 : Hp → Prop), i < n → Ex G G' → I i ws G' → Pp P' → Join G' P' H' →
      (∀ v G2 P2 H2, Ex G' G2 → Pp P2 → Join G2 P2 H2 → I (i + 1) (ws ++ [v]) G2 → R v H2) → (∀ G2 P2 H2, Ex G' G2 → Pp P2 → Join G2 P2 H2 → I (i + 1) ws G2 → R0 H2) →
      g (.int (lo + i)) (wipe σ ts) H' fun σ2 H2 => wipe σ2 ts = wipe σ ts ∧ tt σ2 H2 fun b H3 => if b = true then te σ2 H3 R else R0 H3)
    (hq : ∀ p ws G' P' H', H p = none → Ex G G' → G' p = some (.lst ws) → I n ws G' → Pp P' → Join G' P' H' → Q (.ref p) H') : aLcR2 g tt te ts σ [.int lo, .int hi] H Q := by
  subst hn
  exact ⟨lo, hi, rfl, fun D hD => lcG_range (lo := lo) (n := (hi - lo).toNat) Pp I hD J hP (h0 _ (Ex.new (J.ng hD))) (fun i ws G2 us ts' h1 h2 => hI i ws G2 D us ts' h1 h2) hz hs fun ws G' P' H' e hd hi hp j => hq D ws G' P' H' hD e hd hi hp j⟩
def aForR2 (g : TG) (tb : TS) (D : Ends) (σ : L2.St) : List V → Hp → Prop := fun vs H => tFor (fun _ H R => ∃ i j : Int, vs = [.int i, .int j] ∧ R (Itr i (j - i).toNat) H) g tb D σ H
theorem w_forR2 {tb : TS} (h : as σ H fun vs H1 => aForR2 g tb D σ vs H1) : tFor (iRngW as) g tb D σ H := h
theorem aForR2.go {tb : TS} {G P : Hp} {lo hi : Int} {n : Nat} (hn : (hi - lo).toNat = n) (hb : -1000000 ≤ hi - lo ∧ hi - lo ≤ 1000000) (I : Nat → Hp → Hp → L2.St → Prop) (J : Join G P H) (h0 : I 0 G P σ)
    (hs : ∀ (i : Nat) (G' P' H' : Hp) (σ' : L2.St), i < n → Join G' P' H' → I i G' P' σ' → g (.int (lo + i)) σ' H' fun σ2 H2 => tb ⟨fun σ3 H3 => ∃ G3 P3, Join G3 P3 H3 ∧ I (i + 1) G3 P3 σ3, rt, nx, fun σ3 H3 => ∃ G3 P3, Join G3 P3 H3 ∧ I (i + 1) G3 P3 σ3⟩ σ2 H2)
    (hq : ∀ (G' P' H' : Hp) (σ' : L2.St), Join G' P' H' → I n G' P' σ' → nx σ' H') : aForR2 g tb ⟨nx, rt, bk, ct⟩ σ [.int lo, .int hi] H := by
  subst hn
  refine ⟨lo, hi, rfl, for_range (lo := lo) (n := (hi - lo).toNat) (fun i σ' H' => ∃ G3 P3, Join G3 P3 H' ∧ I i G3 P3 σ') ⟨G, P, J, h0⟩ ?_ ?_⟩
  · rintro i σ' H' hi ⟨G', P', J', hI⟩
    exact hs i G' P' H' σ' hi J' hI
  · rintro σ' H' ⟨G', P', J', hI⟩
    exact hq G' P' H' σ' J' hI
/-- a, b = x, y -/
def aPar (i j : Nat) (N : L2.St → Hp → Prop) (σ : L2.St) : List V → Hp → Prop := fun vs H => ∃ v w, vs = [v, w] ∧ N ((σ.set i (some v)).set j (some w)) H
theorem w_par (h : as σ H fun vs H1 => aPar i j nx σ vs H1) : tPar i j as ⟨nx, rt, bk, ct⟩ σ H := h
theorem w_apar {N : L2.St → Hp → Prop} (h : N ((σ.set i (some x)).set j (some y)) H) : aPar i j N σ [x, y] H := ⟨x, y, rfl, h⟩
theorem w_chain {r r' : R2} {tc : TE} (h : ta σ H fun x H1 => tb σ H1 fun y H2 => r x y H2 fun z H3 => ∃ k, z = .bl k ∧ (if k = true then tc σ H3 fun w' H4 => r' y w' H4 Q else Q (.bl false) H3)) : tChain r r' ta tb tc σ H Q := h
theorem atI_end1 {ws : List V} {n : Nat} {v : V} (hl : ws.length = n + 1) (h : ws[n]? = some v) : atI ws (-1) = some v := by
  have h1 : ws = ws.take n ++ [v] := by
    have h2 := take_more h
    rw [show n + 1 = ws.length by omega, List.take_length] at h2
    exact h2
  rw [h1]; exact atI_last _ _
theorem atI_end2 {ws : List V} {n : Nat} {v : V} (hl : ws.length = n + 2) (h : ws[n]? = some v) : atI ws (-2) = some v := by
  unfold atI ixN
  rw [hl, if_neg (by decide), if_pos (by omega)]
  show ws[((-2 : Int) + ((n + 2 : Nat) : Int)).toNat]? = some v
  rw [show ((-2 : Int) + ((n + 2 : Nat) : Int)).toNat = n by omega]; exact h
/-! in -/
theorem inV_ints (x : Int) : ∀ ns : List Int, inV (.int x) (ns.map V.int) = decide (x ∈ ns)
  | [] => by simp [inV]
  | a :: r => by
    have ih := inV_ints x r
    unfold inV at *
    rw [List.map_cons, List.any_cons, ih]
    show ((a == x) || _) = _
    by_cases h : a = x
    · subst h; simp
    · have h2 : (a == x) = false := by simp [h]
      rw [h2, Bool.false_or]
      exact decide_eq_decide.mpr ⟨fun h => List.mem_cons_of_mem _ h, fun q => (List.mem_cons.mp q).resolve_left fun z => h z.symm⟩
theorem all_flat (ns : List Int) : (ns.map V.int).all flatV = true := List.all_eq_true.mpr fun v hv => by
  obtain ⟨a, _, rfl⟩ := List.mem_map.mp hv
  rfl
theorem in_go {neg : Bool} {k : Int} {p : Addr} {ns : List Int} {G P : Hp} (J : Join G P H) (h : G p = some (.lst (ns.map V.int)) ∨ G p = some (.tup (ns.map V.int))) (q : Q (.bl (if neg then !decide (k ∈ ns) else decide (k ∈ ns))) H) : rIn K neg (.int k) (.ref p) H Q :=
  ⟨p, ns.map V.int, rfl, h.imp (fun h => sqL (J.g _ _ h)) (fun h => sqT (J.g _ _ h)), rfl, all_flat ns, by rw [inV_ints]; exact q⟩
theorem in_goH {neg : Bool} {k : Int} {p : Addr} {ns : List Int} {H : Hp} (h : H p = some (.lst (ns.map V.int)) ∨ H p = some (.tup (ns.map V.int))) (q : Q (.bl (if neg then !decide (k ∈ ns) else decide (k ∈ ns))) H) : rIn K neg (.int k) (.ref p) H Q :=
  ⟨p, ns.map V.int, rfl, h.imp (fun h => sqL h) (fun h => sqT h), rfl, all_flat ns, by rw [inV_ints]; exact q⟩
/-! list(range(..)), list.index -/
def aLstRg (a b : Int) : Hp → VK → Prop := fun H Q => RgOk a b ∧ ∀ q, H q = none → Q (.ref q) (upd H q (.lst (rgV a b)))
theorem w_lstRg {tr : L2.St → Hp → (Int → Int → Hp → Prop) → Prop} (h : tr σ H fun a b H1 => aLstRg a b H1 Q) : tLstRg tr σ H Q := h
theorem w_rg1 {S : Int → Int → Hp → Prop} (h : ta σ H fun x H1 => ∃ n, x = .int n ∧ S 0 n H1) : tRg1 ta σ H S := h
theorem aLstRg.go {n : Nat} {m : Int} {G P : Hp} (J : Join G P H) (hn : m = n) (hm : n ≤ 100000) (q : ∀ p G' H', H p = none → Ex G G' → Join G' P H' → G' p = some (.lst (rV (List.range n))) → Q (.ref p) H') : aLstRg 0 m H Q := by
  subst hn
  refine ⟨RgOk.of_le (by omega) (by omega) (by omega) (by omega), fun p hp => q p _ _ hp (Ex.new (J.ng hp)) (J.newG hp) ?_⟩
  rw [upd_same]
  congr 2
  unfold rgV rV
  rw [Int.sub_zero, Int.toNat_natCast]
  refine List.map_congr_left fun i _ => ?_
  rw [Int.zero_add]
theorem idx_first : ∀ (ks : List Nat) (k : Nat), k ∈ ks → ks[ks.idxOf k]? = some k ∧ ∀ m : Nat, m < ks.idxOf k → ks[m]? ≠ some k
  | a :: r, k, h => by
    by_cases e : a = k
    · subst e
      rw [List.idxOf_cons_self]
      exact ⟨rfl, fun m hm => absurd hm (Nat.not_lt_zero _)⟩
    · have hr : k ∈ r := (List.mem_cons.mp h).resolve_left fun q => e q.symm
      obtain ⟨h1, h2⟩ := idx_first r k hr
      have e2 : (a :: r).idxOf k = r.idxOf k + 1 := by rw [List.idxOf_cons, show (a == k) = false by simp [e]]; rfl
      rw [e2]
      refine ⟨h1, fun m hm => ?_⟩
      cases m with
      | zero => exact fun q => e (Option.some.inj q)
      | succ m => exact h2 m (by omega)
theorem index_go {a : Addr} {ks : List Nat} {k : Nat} {G P : Hp} (J : Join G P H) (h : G a = some (.lst (rV ks))) (hk : k ∈ ks) (q : Q (.int ((ks.idxOf k : Nat) : Int)) H) : rIndex K (.ref a) [.int (k : Int)] H Q := by
  obtain ⟨h1, h2⟩ := idx_first ks k hk
  refine ⟨a, rV ks, .int k, ks.idxOf k, .int k, rfl, rfl, sqL (J.g _ _ h), rfl, ?_, ?_, ?_, fun m z hm hz => ?_, q⟩
  · have := all_flat (ks.map fun (i : Nat) => (i : Int))
    rw [List.map_map] at this; exact this
  · rw [rV, List.getElem?_map, h1]; rfl
  · show ((k : Int) == (k : Int)) = true
    simp
  · obtain ⟨y, hy, rfl⟩ := rV_at hz
    show ((y : Int) == (k : Int)) = false
    have : y ≠ k := fun e => h2 m hm (by rw [hy, e])
    simp; omega
end
section
variable {α : Type} {f : α → List V} {G G' : Hp} {vs ws : List V} {as bs : List α}
theorem TupL.app (h : TupL f G vs as) (h' : TupL f G ws bs) : TupL f G (vs ++ ws) (as ++ bs) := ⟨by simp [h.1, h'.1], fun i a ha => by
  by_cases hi : i < as.length
  · rw [List.getElem?_append_left hi] at ha
    obtain ⟨v, h1, h2⟩ := h.2 i a ha
    exact ⟨v, by rw [List.getElem?_append_left (by rw [h.1]; exact hi)]; exact h1, h2⟩
  · rw [List.getElem?_append_right (by omega)] at ha
    obtain ⟨v, h1, h2⟩ := h'.2 _ a ha
    exact ⟨v, by rw [List.getElem?_append_right (by rw [h.1]; omega), h.1]; exact h1, h2⟩⟩
theorem TupL.one {t : Addr} {a : α} (h : G t = some (.tup (f a))) : TupL f G [.ref t] [a] := TupL.add .nil h
theorem TupL.take (h : TupL f G vs as) (m : Nat) : TupL f G (vs.take m) (as.take m) := ⟨by simp [h.1], fun i a ha => by
  have h1 : i < m := by
    have := (List.getElem?_eq_some_iff.mp ha).1
    rw [List.length_take] at this; omega
  rw [List.getElem?_take, if_pos h1] at ha
  obtain ⟨v, h2, h3⟩ := h.2 i a ha
  exact ⟨v, by rw [List.getElem?_take, if_pos h1]; exact h2, h3⟩⟩
theorem TupL.drop (h : TupL f G vs as) (m : Nat) : TupL f G (vs.drop m) (as.drop m) := ⟨by simp [h.1], fun i a ha => by
  rw [List.getElem?_drop] at ha
  obtain ⟨v, h2, h3⟩ := h.2 _ a ha
  exact ⟨v, by rw [List.getElem?_drop]; exact h2, h3⟩⟩
end
end Lv

/-! exceptions of own classes; values of any kind -/
namespace Lv
open PySem PySem.Spec PyProof.Rows L2
variable [TabA]
theorem pmk_exc0 {X : Cx} {x : Str} {p pos : Pos} (c : (He.Fa.exc x).ok X.K = true) (gC : X.mg x = some (.ref (He.ga X.K x))) (hg : Gl X x) (hdb : (x == ("__debug__" : Str)) = false := by decide) :
    PMk X (.Call (.Name x p) [] [] pos) (fun _ H Q => Q (.ref (He.ga X.K x)) none H) := by
  obtain ⟨q, kC, s1, t1⟩ := He.exc_ok c
  intro pins s σ H Q I h
  refine wpAny_Call_Name_kw (ld_glob I hg gC ?_ hdb)
  refine PySem.W.callWith_K0 I.kIn kC ?_
  show wpAny _ _ (call (.ref (He.ga X.K x)) []) _ _ _
  obtain ⟨bm, N, nm, qn, bs, hdct, sn, sub, ab, col, dd, k0, k1, k2, k3, k5, mN, hC, hN, hni, T⟩ := exc_obj I.kIn q
  refine wpAny_call_exc_subT PySem.F.excBase_ValueError T hC hN hni (fun h' e hm => ?_) (by show 0 ≤ sizeLine; exact Nat.zero_le _)
  exact mk_of I hm (raises_own s1 t1) h (I.hok.gone hm.new)
/-- a value of a kind that the laws draw -/
inductive Kd (G : Hp) : V → Prop where
  | int (n : Int) : Kd G (.int n)
  | bl (b : Bool) : Kd G (.bl b)
  | non : Kd G .non
  | str (z : Str) : Kd G (.str z)
  | lst {a : Addr} {xs : List V} (h : G a = some (.lst xs)) : Kd G (.ref a)
  | tup {a : Addr} {xs : List V} (h : G a = some (.tup xs)) : Kd G (.ref a)
  | dic {a : Addr} {kvs : List (L2.Key × V)} (h : G a = some (.dK kvs)) : Kd G (.ref a)
theorem Kd.mono {G G' : Hp} (e : Ex G G') {v : V} (h : Kd G v) : Kd G' v := by
  cases h with
  | int n => exact .int n
  | bl b => exact .bl b
  | non => exact .non
  | str z => exact .str z
  | lst h => exact .lst (e _ _ h)
  | tup h => exact .tup (e _ _ h)
  | dic h => exact .dic (e _ _ h)
def isI : V → Bool
  | .int _ => true
  | _ => false
def isB : V → Bool
  | .bl _ => true
  | _ => false
section
variable {K : PySem.W.Frag} {G H : Hp} {v : V} {Q : VK}
theorem isi_I (J : Ex G H) (h : Kd G v) (q : Q (.bl (isI v || isB v)) H) : rIsi K [v, .ty "int"] H Q := by
  cases h with
  | int n => exact ⟨_, _, _, _, true, rfl, .ty _, .base (.int n), kit_ty (by decide +kernel), q⟩
  | bl b => exact ⟨_, _, _, _, true, rfl, .ty _, .base (.bl b), kit_ty (by decide +kernel), q⟩
  | non => exact ⟨_, _, _, _, false, rfl, .ty _, .base .non, kit_ty (by decide +kernel), q⟩
  | str z => exact ⟨_, _, _, _, false, rfl, .ty _, .base (.str z), kit_ty (by decide +kernel), q⟩
  | lst h => exact ⟨_, _, _, _, false, rfl, .ty _, .base (.lst (J _ _ h)), kit_ty (by decide +kernel), q⟩
  | tup h => exact ⟨_, _, _, _, false, rfl, .ty _, .base (.tup (J _ _ h)), kit_ty (by decide +kernel), q⟩
  | dic h => exact ⟨_, _, _, _, false, rfl, .ty _, .base (.dK (J _ _ h)), kit_ty (by decide +kernel), q⟩
theorem isi_B (J : Ex G H) (h : Kd G v) (q : Q (.bl (isB v)) H) : rIsi K [v, .ty "bool"] H Q := by
  cases h with
  | int n => exact ⟨_, _, _, _, false, rfl, .ty _, .base (.int n), kit_ty (by decide +kernel), q⟩
  | bl b => exact ⟨_, _, _, _, true, rfl, .ty _, .base (.bl b), kit_ty (by decide +kernel), q⟩
  | non => exact ⟨_, _, _, _, false, rfl, .ty _, .base .non, kit_ty (by decide +kernel), q⟩
  | str z => exact ⟨_, _, _, _, false, rfl, .ty _, .base (.str z), kit_ty (by decide +kernel), q⟩
  | lst h => exact ⟨_, _, _, _, false, rfl, .ty _, .base (.lst (J _ _ h)), kit_ty (by decide +kernel), q⟩
  | tup h => exact ⟨_, _, _, _, false, rfl, .ty _, .base (.tup (J _ _ h)), kit_ty (by decide +kernel), q⟩
  | dic h => exact ⟨_, _, _, _, false, rfl, .ty _, .base (.dK (J _ _ h)), kit_ty (by decide +kernel), q⟩
/-- a tuple or not -/
theorem isi_T (J : Ex G H) (h : Kd G v) (q1 : ∀ a xs, v = .ref a → G a = some (.tup xs) → Q (.bl true) H) (q2 : (∀ a xs, v = .ref a → G a ≠ some (.tup xs)) → Q (.bl false) H) : rIsi K [v, .ty "tuple"] H Q := by
  cases h with
  | int n => exact ⟨_, _, _, _, false, rfl, .ty _, .base (.int n), kit_ty (by decide +kernel), q2 fun a xs h => nomatch h⟩
  | bl b => exact ⟨_, _, _, _, false, rfl, .ty _, .base (.bl b), kit_ty (by decide +kernel), q2 fun a xs h => nomatch h⟩
  | non => exact ⟨_, _, _, _, false, rfl, .ty _, .base .non, kit_ty (by decide +kernel), q2 fun a xs h => nomatch h⟩
  | str z => exact ⟨_, _, _, _, false, rfl, .ty _, .base (.str z), kit_ty (by decide +kernel), q2 fun a xs h => nomatch h⟩
  | lst h => exact ⟨_, _, _, _, false, rfl, .ty _, .base (.lst (J _ _ h)), kit_ty (by decide +kernel), q2 fun a xs e q => by injection e with e; subst e; rw [h] at q; cases q⟩
  | tup h => exact ⟨_, _, _, _, true, rfl, .ty _, .base (.tup (J _ _ h)), kit_ty (by decide +kernel), q1 _ _ rfl h⟩
  | dic h => exact ⟨_, _, _, _, false, rfl, .ty _, .base (.dK (J _ _ h)), kit_ty (by decide +kernel), q2 fun a xs e q => by injection e with e; subst e; rw [h] at q; cases q⟩
end
section
variable {K : PySem.W.Frag} {σ : L2.St} {H : Hp} {Q : VK} {as : TA} {sp : Sp} {E : L2.St → XK}
theorem w_callS (h : as σ H fun vs H1 => sp vs H1 Q (E σ)) : tCallS sp E as σ H Q := h
/-- what is raised is caught -/
theorem only_go {c cls : Value} {ts : Addr → Value → Option Addr → TS} {Wout : WX} {D : Ends} {d : Option Addr} (h : PySem.W.exmOne K cls c = some true) (q : ∀ a, H a = none → ts a cls d D σ H) : wOnly K c ts Wout D cls d σ H := ⟨true, h, fun _ => q, fun h => nomatch h⟩
end
end Lv

/-! t[::-1] of a tuple; {}; tuple(range(..)) -/
namespace Lv
open PySem PySem.Spec PyProof.Rows HT
variable [TabA]
variable {prog : Program} {w : World} {A : Around} {E : Value → Shared → Prop} {s : Shared}
theorem adjust_rev (n : Nat) : Builtin.Slice.sliceAdjust none none (-1) (n : Int) = ((n : Int) - 1, -1) := rfl
theorem places_rev (n : Nat) : Builtin.Slice.slicePlaces ((n : Int) - 1) (-1) (-1) = n := by
  unfold Builtin.Slice.slicePlaces
  have h1 : ¬ ((-1 : Int) > 0) := by omega
  simp only [h1, if_false]
  by_cases h : (n : Int) - 1 > -1
  · rw [if_pos h]
    have : ((n : Int) - 1 - -1 - 1) / (- -1) = (n : Int) - 1 := by
      rw [show (- -1 : Int) = 1 by decide, Int.ediv_one]; omega
    rw [this]; omega
  · rw [if_neg h]; omega
theorem pick_rev (xs : Array Value) : ((List.range xs.size).filterMap fun (m : Nat) => xs[(((xs.size : Int) - 1) + (m : Int) * (-1)).toNat]?).toArray = xs.toList.reverse.toArray := by
  congr 1
  have e : (List.range xs.size).filterMap (fun (m : Nat) => xs[(((xs.size : Int) - 1) + (m : Int) * (-1)).toNat]?) = ((List.range xs.size).map fun k => xs.size - 1 - k).filterMap fun i => xs[i]? := by
    rw [List.filterMap_map]
    congr 1
    funext m
    show xs[_]? = xs[xs.size - 1 - m]?
    congr 1
    omega
  rw [e, PySem.W.krv_range, List.filterMap_reverse, PySem.W.krv_all]
theorem sliceApplied_rev {sl : Addr} {vl vu vs : Value} {n : Nat} {Q : Int × Int × Nat → Shared → Prop} (hs : s.heap.IsSliceOf sl vl vu vs) (pl : IsPart vl none) (pu : IsPart vu none) (ps : IsPart vs (some (-1)))
    (h : Q ((n : Int) - 1, -1, n) s) : wpAny (model prog w) A (Builtin.Slice.sliceApplied (.ref sl) (pure (n : Int))) Q E s := by
  obtain ⟨os, hos, hcs, hds⟩ := id hs
  unfold Builtin.Slice.sliceApplied Builtin.Slice.sliceFields
  refine wpAny_bind (wpAny_bind (wpAny_field hos hds (x := vl) rfl (wpAny_bind (wpAny_field hos hds (x := vu) rfl (wpAny_bind (wpAny_field hos hds (x := vs) rfl (wpAny_pure ?_)))))))
  refine wpAny_bind (slicePart_ ps ?_)
  show wpAny _ _ (if ((-1 : Int) == 0) = true then _ else _) _ _ s
  rw [if_neg (by decide)]
  refine wpAny_bind (slicePart_ pl (wpAny_bind (slicePart_ pu (wpAny_bind (wpAny_pure ?_)))))
  show wpAny _ _ (match Builtin.Slice.sliceAdjust none none (-1) (n : Int) with | (lo, hi) => pure (lo, (-1 : Int), Builtin.Slice.slicePlaces lo hi (-1))) _ _ s
  rw [adjust_rev n]
  show wpAny _ _ (pure ((n : Int) - 1, (-1 : Int), Builtin.Slice.slicePlaces ((n : Int) - 1) (-1) (-1))) _ _ s
  rw [places_rev]
  exact wpAny_pure h
theorem getItem_tuple_rev {t sl : Addr} {items : Array Value} {vl vu vs : Value} {Q : Value → Shared → Prop} (ht : IsTup s.heap t items) (hs : s.heap.IsSliceOf sl vl vu vs) (pl : IsPart vl none) (pu : IsPart vu none) (ps : IsPart vs (some (-1)))
    (h : Q (.ref s.heap.objs.size) { s with heap := s.heap.push { cls := .type "tuple", data := .seq items.toList.reverse.toArray } })
    (hsz : items.size ≤ sizeLine) : wpAny (model prog w) A (getItem (.ref t) (.ref sl)) Q E s := by
  have htake : sizeOk (.seq items.toList.reverse.toArray) := by
    show items.toList.reverse.toArray.size ≤ sizeLine
    rw [List.size_toArray, List.length_reverse, Array.length_toList]
    omega
  obtain ⟨os, hos, hcs, hds⟩ := id hs
  have hTs : s.TypeIs (.ref sl) "slice" := ⟨os, hos, hcs⟩
  unfold getItem
  try with_reducible refine wpAny_holding ?_
  first | refine wpAny_bind (wpAny_pure ?_) | skip
  refine wpAny_bind (wpAny_sequenceKey ht.typeIs (by decide) ?_)
  refine wpAny_bind (wpAny_callSpecial?_slot (name := Str.ofString "__getitem__") ht.typeIs PyProof.Rows.slot_tuple_getitem
    (wpAny_call_entry PyProof.Rows.slot_tuple_getitem ht.typeIs entry_tuple_getitem ?_ (args_tuple_getitem _ _)))
  show wpAny _ _ (Builtin.Tuple.tupleItemsOf (.ref t) >>= _) _ _ s
  refine wpAny_bind (tupleItemsOf_ ht ?_)
  refine wpAny_bind (wpAny_typeOf hTs ?_)
  rw [if_pos (by decide)]
  refine wpAny_bind (sliceApplied_rev hs pl pu ps ?_)
  have hno : ¬ ((((items.size : Int) - 1) == 0 && (-1 : Int) == 1 && items.size == items.size) = true) := by
    intro q
    rw [Bool.and_eq_true, Bool.and_eq_true] at q
    exact absurd q.1.2 (by decide)
  show wpAny _ _ (if (((items.size : Int) - 1) == 0 && (-1 : Int) == 1 && items.size == items.size) = true then _ else _) _ _ s
  rw [if_neg hno, pick_rev]
  first
    | exact wpAny_bind (m := Builtin.Tuple.tupleExact _) (wpAny_newObj_type (wpAny_pure ⟨_, rfl, wpAny_pure h⟩) htake)
    | exact wpAny_bind (m := Builtin.Tuple.tupleExact _) (wpAny_newObj_type (wpAny_bind (wpAny_pure (wpAny_pure ⟨_, rfl, wpAny_pure h⟩))) htake)
    | exact wpAny_bind (wpAny_bind (m := Builtin.Tuple.tupleExact _) (wpAny_newObj_type (wpAny_pure (wpAny_pure ⟨_, rfl, wpAny_pure h⟩)) htake))
    | exact wpAny_bind (wpAny_bind (m := Builtin.Tuple.tupleExact _) (wpAny_newObj_type (wpAny_pure ⟨_, rfl, wpAny_pure h⟩) htake))
end Lv

namespace Lv
open PySem PySem.Spec PyProof.Rows L2
variable [TabA]
/-- t[::-1] of a tuple -/
def tRevT (K : PySem.W.Frag) (te : TE) : TE := fun σ H Q => te σ H fun x H1 => ∃ a xs, x = .ref a ∧ SqT K H1 a xs ∧ ∀ p, H1 p = none → Q (.ref p) (upd H1 p (.tup xs.reverse))
theorem pe_revT {X : Cx} {e : Expr} {te : TE} {k : Nat} {p1 p2 p3 pos : Pos} (he : PE X e te) : PE X (.Subscript e (.Slice none none (some (.UnaryOp .USub (.Constant (.int 1) k p1) p2)) p3) pos) (tRevT X.K te) := by
  refine ⟨fun pins s σ H Q I h => ?_⟩
  refine Subscript_ (thn (he.run pins s σ H _ I h) fun v s1 ⟨x, H1, I1, r1, q1⟩ => ?_)
  obtain ⟨a, xs, ex, hx, q⟩ := q1
  subst ex
  cases r1
  have hst : PO X (some (.UnaryOp .USub (.Constant (.int 1) k p1) p2)) (tPart (tUn (rU fun i => .int (-i)) (tC (.int 1)))) := po_some (pe_un un_neg pe_int)
  refine wpAny_Slice (thn (po_none.run pins s1 σ H1 (fun o H2 => o = none ∧ H2 = H1) I1 ⟨rfl, rfl⟩) fun vl s2 ⟨l, H2, I2, pl, el, e2⟩ => ?_)
  subst el e2
  refine thn (po_none.run pins s2 σ H2 (fun o H3 => o = none ∧ H3 = H2) I2 ⟨rfl, rfl⟩) fun vu s3 ⟨u, H3, I3, pu, eu, e3⟩ => ?_
  subst eu e3
  refine thn (hst.run pins s3 σ H3 (fun o H4 => o = some (-1) ∧ H4 = H3) I3 ⟨1, rfl, -1, rfl, rfl, rfl⟩) fun vs s4 ⟨o, H4, I4, ps, eo, e4⟩ => ?_
  subst eo e4
  have I5 : Inv X pins σ H4 { s4 with heap := s4.heap.push { cls := .type "slice", data := .fields #[vl, vu, vs] } } := I4.kept (t' := s4.toks) fun b ob q => Heap.get?_push_of_some _ q
  obtain ⟨its, r, ht, hz⟩ := I5.tuple hx
  have hlen := r.length
  show wpAny (model X.prog X.w) X.A (subscriptTail e (.Slice none none (some (.UnaryOp .USub (.Constant (.int 1) k p1) p2)) p3) (.ref a) (.ref s4.heap.objs.size)) (EP X pins σ Q) X.xe { s4 with heap := s4.heap.push { cls := .type "slice", data := .fields #[vl, vu, vs] } }
  refine tail_any (ops := [.ref a, .ref s4.heap.objs.size]) ht.typeIs (PyProof.Rows.slot_tuple_getitem.lookup) ?_ (by with_unfolding_all rfl)
  refine getItem_tuple_rev ht (Heap.IsSliceOf.new _ vl vu vs) pl pu ps ?_ (by rw [List.size_toArray]; omega)
  refine ⟨.ref _, _, I5.laid (t' := s4.toks) (o := .tup xs.reverse) (fun b ob q => Heap.get?_push_of_some _ q) (Nat.le_refl _) ?_, rfl, q _ (I5.hok.fresh (Nat.le_refl _))⟩
  exact ⟨by rw [List.length_reverse]; exact hz, _, r.reverse, IsTup.new _ _⟩
end Lv

namespace Lv
open PySem PySem.Spec PyProof.Rows L2
variable [TabA]
section
variable {K : PySem.W.Frag} {σ : L2.St} {H : Hp} {Q : VK} {te : TE}
def aRevT (K : PySem.W.Frag) : V → Hp → VK → Prop := fun x H Q => ∃ a xs, x = .ref a ∧ SqT K H a xs ∧ ∀ p, H p = none → Q (.ref p) (upd H p (.tup xs.reverse))
theorem w_revT (h : te σ H fun x H1 => aRevT K x H1 Q) : tRevT K te σ H Q := h
theorem aRevT.go {G P : Hp} {a : Addr} {xs : List V} (J : Join G P H) (h : G a = some (.tup xs)) (q : ∀ p G' H', H p = none → Ex G G' → Join G' P H' → G' p = some (.tup xs.reverse) → Q (.ref p) H') : aRevT K (.ref a) H Q :=
  ⟨a, xs, rfl, sqT (J.g _ _ h), fun p hp => q p _ _ hp (Ex.new (J.ng hp)) (J.newG hp) upd_same⟩
def aDNew : Hp → VK → Prop := fun H Q => ∀ p, H p = none → Q (.ref p) (upd H p (.dK []))
theorem w_dnew (h : aDNew H Q) : tDNewK σ H Q := h
theorem aDNew.go {G P : Hp} (J : Join G P H) (q : ∀ p G' H', H p = none → Ex G G' → Join G' P H' → G' p = some (.dK []) → Q (.ref p) H') : aDNew H Q := fun p hp => q p _ _ hp (Ex.new (J.ng hp)) (J.newG hp) upd_same
def aTupRg (a b : Int) : Hp → VK → Prop := fun H Q => RgOk a b ∧ ∀ q, H q = none → Q (.ref q) (upd H q (.tup (rgV a b)))
theorem w_tupRg {tr : L2.St → Hp → (Int → Int → Hp → Prop) → Prop} (h : tr σ H fun a b H1 => aTupRg a b H1 Q) : tTupRg tr σ H Q := h
theorem aTupRg.go {n : Nat} {m : Int} {G P : Hp} (J : Join G P H) (hn : m = n) (hm : n ≤ 100000) (q : ∀ p G' H', H p = none → Ex G G' → Join G' P H' → G' p = some (.tup (rV (List.range n))) → Q (.ref p) H') : aTupRg 0 m H Q := by
  subst hn
  refine ⟨RgOk.of_le (by omega) (by omega) (by omega) (by omega), fun p hp => q p _ _ hp (Ex.new (J.ng hp)) (J.newG hp) ?_⟩
  rw [upd_same]
  congr 2
  unfold rgV rV
  rw [Int.sub_zero, Int.toNat_natCast]
  refine List.map_congr_left fun i _ => ?_
  rw [Int.zero_add]
end
end Lv

/-! dicts of ints as sets; while -/
namespace Lv
open PySem PySem.Spec PyProof.Rows L2
variable [TabA]
def keyP (ns : List Int) : List (L2.Key × V) := ns.map fun n => ((Sum.inl n : L2.Key), V.bl true)
theorem keyP_any (ns : List Int) (k : Int) : ((keyP ns).any fun kv => decide (kv.1 = (Sum.inl k : L2.Key))) = decide (k ∈ ns) := by
  induction ns with
  | nil => simp [keyP]
  | cons a r ih =>
    unfold keyP at *
    rw [List.map_cons, List.any_cons, ih]
    by_cases h : a = k
    · subst h; simp
    · have h2 : ¬ ((Sum.inl a : L2.Key) = Sum.inl k) := fun q => h (Sum.inl.inj q)
      have h3 : ¬ k = a := fun q => h q.symm
      simp [h, h3]
theorem keyP_val (ns : List Int) (k : Int) : (valV (keyP ns) (.inl k)).isSome = decide (k ∈ ns) := by rw [← valV_any, keyP_any]
theorem keyP_put {ns : List Int} {k : Int} (h : k ∉ ns) : putK (keyP ns) (.inl k) (.bl true) = keyP (ns ++ [k]) := by
  unfold putK
  rw [keyP_any, if_neg (by simp [h])]
  simp [keyP]
section
variable {K : PySem.W.Frag} {σ : L2.St} {H : Hp} {Q : VK} {R : Bool → Hp → Prop} {nx bk ct : L2.St → Hp → Prop} {rt : VK} {D : Ends} {ta td ty : TE} {tt : TT} {as : TA} {g : TG} {tk tv : TE}
/-- y in d -/
def rDIn (neg : Bool) : V → V → Hp → VK → Prop := fun y x H Q => ∃ a o, x = .ref a ∧ DGet H a y o ∧ Q (.bl (if neg then !o.isSome else o.isSome)) H
theorem w_din (h : ty σ H fun y H1 => td σ H1 fun x H2 => rDIn false y x H2 Q) : tDIn ty td σ H Q := h
theorem w_dnotin (h : ty σ H fun y H1 => td σ H1 fun x H2 => rDIn true y x H2 Q) : tDNotIn ty td σ H Q := h
theorem din_go {neg : Bool} {G P : Hp} {d : Addr} {ns : List Int} {k : Int} (J : Join G P H) (h : G d = some (.dK (keyP ns))) (q : Q (.bl (if neg then !decide (k ∈ ns) else decide (k ∈ ns))) H) : rDIn neg (.int k) (.ref d) H Q :=
  ⟨d, _, rfl, DGet.k (k := .inl k) (J.g _ _ h), by rw [keyP_val]; exact q⟩
/-- {n: True for n in t} -/
def aDcT (K : PySem.W.Frag) (g : TG) (tt : TT) (tk tv : TE) (vs : List Nat) (σ : L2.St) : V → Hp → VK → Prop := fun x H Q => tDc (fun _ H R => ∃ a, x = .ref a ∧ (∃ xs, SqT K H a xs) ∧ R (Itt K a) H) g tt tk tv vs σ H Q
theorem w_dcT {ts : List Nat} (h : ta σ H fun x H1 => aDcT K g tt tk tv ts σ x H1 Q) : tDc (iTup K ta) g tt tk tv ts σ H Q := h
/-- the numbers of a tuple, each once, to a dict -/
theorem aDcT.go {j : Nat} {a : Addr} {ns : List Int} {ts : List Nat} {G P : Hp} (J : Join G P H) (hS : G a = some (.tup (ns.map V.int))) (hn : ns.Nodup) (hl : ns.length ≤ 100000) (hw : ∀ x, wipe ((wipe σ ts).set j (some x)) ts = wipe σ ts)
    (hk : ∀ (n : Int) (H' : Hp) (S : VK), S (.int n) H' → tk ((wipe σ ts).set j (some (.int n))) H' S) (hv : ∀ (x : V) (H' : Hp) (S : VK), S (.bl true) H' → tv ((wipe σ ts).set j (some x)) H' S)
    (hq : ∀ p G' H', H p = none → Ex G G' → Join G' P H' → G' p = some (.dK (keyP ns)) → Q (.ref p) H') : aDcT K (gName j) tYes tk tv ts σ (.ref a) H Q := by
  refine ⟨a, rfl, ⟨_, sqT (J.g _ _ hS)⟩, fun D hD => ?_⟩
  have gD : G D = none := J.ng hD
  refine dc_tup (K := K) (a := a) (xs := ns.map V.int) (fun i H' => ∃ G', Ex G G' ∧ Join G' P H' ∧ G' D = some (.dK (keyP (ns.take i)))) ⟨_, Ex.new gD, J.newG hD, upd_same⟩ (fun i H' _ ⟨G', e, j', _⟩ => sqT (j'.g _ _ (e _ _ hS))) (fun i x H' hi ⟨G', e, j', hd⟩ => ?_) (fun H' ⟨G', e, j', hd⟩ => ?_)
  · obtain ⟨n, hi2, rfl⟩ := int_at hi
    have hil := (List.getElem?_eq_some_iff.mp hi2).1
    refine ⟨hw _, iteT (B := True) (hk n H' _ (hv _ H' _ ⟨keyP (ns.take i), .inl n, rfl, j'.g _ _ hd, ?_, _, ?_, j'.setGo hd, ?_⟩))⟩
    · refine szlt ?_
      unfold keyP
      rw [List.length_map, List.length_take]; omega
    · exact e.mut gD
    · rw [upd_same, keyP_put, take_more hi2]
      intro hm
      obtain ⟨c, hc⟩ := List.getElem?_of_mem hm
      have hc1 := (List.getElem?_eq_some_iff.mp hc).1
      rw [List.length_take] at hc1
      rw [List.getElem?_take, if_pos (by omega)] at hc
      obtain ⟨b1, b2⟩ := List.getElem?_eq_some_iff.mp hc
      obtain ⟨b3, b4⟩ := List.getElem?_eq_some_iff.mp hi2
      have := (List.getElem_inj hn).mp (b2.trans b4.symm)
      omega
  · rw [List.length_map, List.take_length] at hd
    exact hq D G' H' hD e j' hd
/-- while: a turn -/
def turnW (I : Nat → Hp → Hp → L2.St → Prop) (m : Nat) (tb : TS) (nx : L2.St → Hp → Prop) (rt : VK) : L2.St → Hp → Prop := fun σ H => ∃ N : L2.St → Hp → Prop, (∀ σ' H', N σ' H' → ∃ m', m' < m ∧ ∃ G P, Join G P H' ∧ I m' G P σ') ∧ tb ⟨N, rt, nx, N⟩ σ H
theorem w_turn {I : Nat → Hp → Hp → L2.St → Prop} {m : Nat} {tb : TS} (h : tb ⟨fun σ3 H3 => ∃ m' G3 P3, m' < m ∧ Join G3 P3 H3 ∧ I m' G3 P3 σ3, rt, nx, fun σ3 H3 => ∃ m' G3 P3, m' < m ∧ Join G3 P3 H3 ∧ I m' G3 P3 σ3⟩ σ H) : turnW I m tb nx rt σ H :=
  ⟨_, fun _ _ ⟨m', G3, P3, h1, h2, h3⟩ => ⟨m', h1, G3, P3, h2, h3⟩, h⟩
theorem while_go {c : TT} {tb : TS} {G P : Hp} (I : Nat → Hp → Hp → L2.St → Prop) (J : Join G P H) (m0 : Nat) (h0 : I m0 G P σ)
    (hs : ∀ (m : Nat) (G' P' H' : Hp) (σ' : L2.St), Join G' P' H' → I m G' P' σ' → c σ' H' fun b H1 => if b = true then turnW I m tb nx rt σ' H1 else nx σ' H1) : tWhile c tb ⟨nx, rt, bk, ct⟩ σ H := by
  refine ⟨fun m σ H => ∃ G' P', Join G' P' H ∧ I m G' P' σ, ⟨m0, G, P, J, h0⟩, ?_⟩
  rintro m σ' H' ⟨G', P', J', hI⟩
  exact hs m G' P' H' σ' J' hI
theorem w_ip {f : Int → Int → Int} {a b : Int} (h : Q (.int (f a b)) H) : ipI f (.int a) (.int b) H Q := ⟨a, b, rfl, rfl, h⟩
/-- len of a dict -/
def rLenD : List V → Hp → VK → Prop := fun xs H Q => ∃ a kvs, xs = [.ref a] ∧ H a = some (.dK kvs) ∧ Q (.int kvs.length) H
theorem rLenD.go {G P : Hp} {d : Addr} {ns : List Int} (J : Join G P H) (h : G d = some (.dK (keyP ns))) (q : Q (.int ns.length) H) : rLenD [.ref d] H Q :=
  ⟨d, _, rfl, J.g _ _ h, by rw [keyP, List.length_map]; exact q⟩
theorem w_lend (h : as σ H fun vs H1 => rLenD vs H1 Q) : tCB (fun xs H Q => ∃ a kvs, xs = [.ref a] ∧ H a = some (.dK kvs) ∧ Q (.int kvs.length) H) as σ H Q := h
def rMin2 : List V → Hp → VK → Prop := fun xs H Q => ∃ i j, xs = [.int i, .int j] ∧ Q (.int (if j < i then j else i)) H
def rMax2 : List V → Hp → VK → Prop := fun xs H Q => ∃ i j, xs = [.int i, .int j] ∧ Q (.int (if i < j then j else i)) H
theorem w_rmin {a b : Int} (h : Q (.int (min a b)) H) : rMin2 [.int a, .int b] H Q := ⟨a, b, rfl, by rw [show (if b < a then b else a) = min a b by omega]; exact h⟩
theorem w_rmax {a b : Int} (h : Q (.int (max a b)) H) : rMax2 [.int a, .int b] H Q := ⟨a, b, rfl, by rw [show (if a < b then b else a) = max a b by omega]; exact h⟩
theorem w_min2 (h : as σ H fun vs H1 => rMin2 vs H1 Q) : tCB (fun xs H Q => ∃ i j, xs = [.int i, .int j] ∧ Q (.int (if j < i then j else i)) H) as σ H Q := h
theorem w_max2 (h : as σ H fun vs H1 => rMax2 vs H1 Q) : tCB (fun xs H Q => ∃ i j, xs = [.int i, .int j] ∧ Q (.int (if i < j then j else i)) H) as σ H Q := h
end
end Lv

/-! fields by names in a row -/
namespace Lv
open PySem PySem.Spec PyProof.Rows L2
variable [TabA]
theorem putF_zip : ∀ (ks : List Str) (vs : List V) {f : Str} {y : V}, ks.Nodup → ks[vs.length]? = some f → putF f y (ks.zip vs) = ks.zip (vs ++ [y])
  | [], vs, f, y, _, h => by simp at h
  | k :: ks, [], f, y, _, h => by
    have h' : k = f := by simpa using h
    subst h'; simp [putF]
  | k :: ks, v :: vs, f, y, hN, h => by
    have h' : ks[vs.length]? = some f := by simpa using h
    have hk : ¬ k = f := fun e => (List.nodup_cons.mp hN).1 (e ▸ List.mem_of_getElem? h')
    show (if k = f then (k, y) :: ks.zip vs else (k, v) :: putF f y (ks.zip vs)) = _
    rw [if_neg hk, putF_zip ks vs (List.nodup_cons.mp hN).2 h']; rfl
theorem lookup_zip : ∀ (ks : List Str) (vs : List V) {f : Str} {i : Nat} {v : V}, ks.Nodup → ks[i]? = some f → vs[i]? = some v → (ks.zip vs).lookup f = some v
  | [], vs, f, i, v, _, h, _ => by simp at h
  | k :: ks, [], f, i, v, _, _, h => by simp at h
  | k :: ks, w :: vs, f, 0, v, _, h, h2 => by
    have h' : k = f := by simpa using h
    have h2' : w = v := by simpa using h2
    subst h' h2'; simp
  | k :: ks, w :: vs, f, i + 1, v, hN, h, h2 => by
    have h' : ks[i]? = some f := by simpa using h
    have h2' : vs[i]? = some v := by simpa using h2
    have hk : (f == k) = false := by
      cases e : f == k with
      | false => rfl
      | true => exact absurd (List.mem_of_getElem? h') (by rw [eq_of_beq e]; exact (List.nodup_cons.mp hN).1)
    rw [List.zip_cons_cons, List.lookup_cons, hk]
    exact lookup_zip ks vs (List.nodup_cons.mp hN).2 h' h2'
theorem lookup_none : ∀ (ks : List Str) (vs : List V) {f : Str}, f ∉ ks → (ks.zip vs).lookup f = none
  | [], _, _, _ => rfl
  | k :: ks, [], _, _ => rfl
  | k :: ks, w :: vs, f, h => by
    have hk : (f == k) = false := by
      cases e : f == k with
      | false => rfl
      | true => exact absurd (by rw [eq_of_beq e]; exact List.mem_cons_self ..) h
    rw [List.zip_cons_cons, List.lookup_cons, hk]
    exact lookup_none ks vs fun q => h (List.mem_cons_of_mem _ q)
section
variable {K : PySem.W.Frag} {σ : L2.St} {H : Hp} {Q : VK} {nx bk ct : L2.St → Hp → Prop} {rt : VK} {ta tv : TE}
/-- x.f = y -/
def aSFld (K : PySem.W.Frag) (f : Str) (y : V) (N : L2.St → Hp → Prop) (σ : L2.St) : V → Hp → Prop := fun x H2 => ∃ a C dx fs, x = .ref a ∧ H2 a = some (.ins C dx fs) ∧ Cls K C ∧ NoAttr K C f ∧ fs.length < 1000 ∧ N σ (upd H2 a (.ins C dx (putF f y fs)))
theorem w_isN {A : Prop} (h : A) : V.non = V.non ∧ A := ⟨rfl, h⟩
theorem w_sfld {f : Str} (h : tv σ H fun y H1 => ta σ H1 fun x H2 => aSFld K f y nx σ x H2) : sFld K ta tv f ⟨nx, rt, bk, ct⟩ σ H := h
theorem aSFld.go {G P : Hp} {x C dx : Addr} {ks : List Str} {vs : List V} {f : Str} {y : V} {N : L2.St → Hp → Prop} (J : Join G P H) (e : G x = some (.ins C dx (ks.zip vs))) (hc : Cls K C) (hn : NoAttr K C f) (hN : ks.Nodup) (hi : ks[vs.length]? = some f) (hl : ks.length ≤ 900)
    (q : ∀ G' H', But x G G' → Join G' P H' → G' x = some (.ins C dx (ks.zip (vs ++ [y]))) → N σ H') : aSFld K f y N σ (.ref x) H := by
  refine ⟨x, C, dx, _, rfl, J.g _ _ e, hc, hn, by rw [List.length_zip]; omega, ?_⟩
  rw [putF_zip ks vs hN hi]
  exact q _ _ (fun b o h nb => by rw [upd_ne nb]; exact h) (J.setGo e) upd_same
theorem aFld.go {G P : Hp} {x C dx : Addr} {ks : List Str} {vs : List V} {f : Str} {v : V} {i : Nat} (J : Join G P H) (e : G x = some (.ins C dx (ks.zip vs))) (hc : Cls K C) (hn : NoAttr K C f) (hN : ks.Nodup) (hi : ks[i]? = some f) (hv : vs[i]? = some v) (q : Q v H) : aFld K f (.ref x) H Q :=
  ⟨x, C, dx, _, _, rfl, J.g _ _ e, hc, hn, lookup_zip ks vs hN hi hv, q⟩
theorem sortI_go {a : Addr} {ns : List Int} {G P : Hp} (J : Join G P H) (h : G a = some (.lst (ns.map V.int))) (q : ∀ (ns' : List Int) p G' H', ns'.Perm ns → ns'.Pairwise (· ≤ ·) → H p = none → Ex G G' → Join G' P H' → G' p = some (.lst (ns'.map V.int)) → Q (.ref p) H') : rSortedI K [.ref a] H Q :=
  ⟨a, ns, rfl, sqL (J.g _ _ h), fun ns' p h1 h2 hp => q ns' p _ _ h1 h2 hp (Ex.new (J.ng hp)) (J.newG hp) upd_same⟩
end
theorem cr_sortedIK {X : Cx} {K : PySem.W.Frag} (h : X.K = K) : CallR X (.builtin "sorted") (rSortedI K) := h ▸ cr_sortedI
end Lv

/-! comprehensions of ints and flags -/
namespace Lv
open PySem PySem.Spec PyProof.Rows L2
variable [TabA]
/-- lo, lo + 1, .. -/
def rgI (lo : Int) (n : Nat) : List Int := (List.range n).map fun (i : Nat) => lo + i
theorem rgI_len (lo : Int) (n : Nat) : (rgI lo n).length = n := by simp [rgI]
theorem rgI_at {lo : Int} {n i : Nat} (h : i < n) : (rgI lo n)[i]? = some (lo + i) := by
  unfold rgI; rw [List.getElem?_map, List.getElem?_range h]; rfl
theorem rgI_mem {lo : Int} {n : Nat} {x : Int} : x ∈ rgI lo n ↔ lo ≤ x ∧ x < lo + n := by
  unfold rgI
  rw [List.mem_map]
  exact ⟨fun ⟨i, h1, h2⟩ => by have := List.mem_range.mp h1; omega, fun h => ⟨(x - lo).toNat, List.mem_range.mpr (by omega), by omega⟩⟩
theorem rgI_asc (lo : Int) (n : Nat) : (rgI lo n).Pairwise (· < ·) := by
  unfold rgI
  exact List.pairwise_map.mpr (List.pairwise_lt_range.imp fun {a b} h => by omega)
section
variable {K : PySem.W.Frag} {σ : L2.St} {H : Hp} {Q : VK} {te : TE} {tt : TT} {g : TG} {ts : List Nat} {G P : Hp} {a : Addr} {xs : List Int}
/-- what a turn has to show: f k the test, v k the value -/
def Turn (g : TG) (tt : TT) (te : TE) (ts : List Nat) (σ : L2.St) (G P : Hp) (xs : List Int) (f : Int → Bool) (v : Int → V) : Prop :=
  ∀ (k : Int) (G' H' : Hp) (R : VK) (R0 : Hp → Prop), k ∈ xs → Ex G G' → Join G' P H' → (f k = true → ∀ G2 H2, Ex G' G2 → Join G2 P H2 → R (v k) H2) → (f k = false → ∀ G2 H2, Ex G' G2 → Join G2 P H2 → R0 H2) →
      g (.int k) (wipe σ ts) H' fun σ2 H2 => wipe σ2 ts = wipe σ ts ∧ tt σ2 H2 fun b H3 => if b = true then te σ2 H3 R else R0 H3
theorem take_fil {f : Int → Bool} {v : Int → V} {i : Nat} {k : Int} (h : xs[i]? = some k) : ((xs.take (i + 1)).filter f).map v = ((xs.take i).filter f).map v ++ (if f k then [v k] else []) := by
  rw [take_more h, List.filter_append, List.map_append]
  congr 1
  cases e : f k with
  | true => rw [List.filter_cons_of_pos e]; rfl
  | false => rw [List.filter_cons_of_neg (by simp [e])]; rfl
theorem fil_len {f : Int → Bool} {v : Int → V} {i : Nat} (hl : xs.length ≤ 1000000) : (((xs.take i).filter f).map v).length ≤ 1000000 := by
  rw [List.length_map]
  have := List.length_filter_le f (xs.take i)
  rw [List.length_take] at this
  omega
theorem aLcT.fil (f : Int → Bool) (v : Int → V) (J : Join G P H) (hS : G a = some (.tup (xs.map V.int))) (hl : xs.length ≤ 1000000) (hs : Turn g tt te ts σ G P xs f v)
    (hq : ∀ p G' H', H p = none → Ex G G' → Join G' P H' → G' p = some (.lst ((xs.filter f).map v)) → Q (.ref p) H') : aLcT K g tt te ts σ (.ref a) H Q := by
  refine aLcT.go (fun P' => P' = P) (fun i us G' => us = (((xs.take i).filter f).map v)) J rfl hS (fun _ _ => rfl) (fun _ _ _ _ _ _ _ h => h) (fun i us G2 h => by rw [h]; exact fil_len hl) ?_ ?_
  · intro i x us G' P' H' R R0 hx e' hI hP j' kR kR0
    subst hP
    obtain ⟨k, hk, rfl⟩ := int_at hx
    refine hs k G' H' R R0 (List.mem_of_getElem? hk) e' j' (fun h G2 H2 e2 j2 => kR _ G2 _ H2 e2 rfl j2 ?_) (fun h G2 H2 e2 j2 => kR0 G2 _ H2 e2 rfl j2 ?_)
    · rw [take_fil hk, h, if_pos rfl, hI]
    · rw [take_fil hk, h, if_neg (by decide), hI, List.append_nil]
  · intro p us G' P' H' hp e' hd hI hP j'
    subst hP
    rw [List.length_map, List.take_length] at hI
    subst hI
    exact hq p G' H' hp e' j' hd
theorem aLcL.fil (f : Int → Bool) (v : Int → V) (J : Join G P H) (hS : G a = some (.lst (xs.map V.int))) (hl : xs.length ≤ 1000000) (hs : Turn g tt te ts σ G P xs f v)
    (hq : ∀ p G' H', H p = none → Ex G G' → Join G' P H' → G' p = some (.lst ((xs.filter f).map v)) → Q (.ref p) H') : aLcL K g tt te ts σ (.ref a) H Q := by
  refine aLcL.go (fun P' => P' = P) (fun i us G' => us = (((xs.take i).filter f).map v)) J rfl hS (fun _ _ => rfl) (fun _ _ _ _ _ _ _ h => h) (fun i us G2 h => by rw [h]; exact fil_len hl) ?_ ?_
  · intro i x us G' P' H' R R0 hx e' hI hP j' kR kR0
    subst hP
    obtain ⟨k, hk, rfl⟩ := int_at hx
    refine hs k G' H' R R0 (List.mem_of_getElem? hk) e' j' (fun h G2 H2 e2 j2 => kR _ G2 _ H2 e2 rfl j2 ?_) (fun h G2 H2 e2 j2 => kR0 G2 _ H2 e2 rfl j2 ?_)
    · rw [take_fil hk, h, if_pos rfl, hI]
    · rw [take_fil hk, h, if_neg (by decide), hI, List.append_nil]
  · intro p us G' P' H' hp e' hd hI hP j'
    subst hP
    rw [List.length_map, List.take_length] at hI
    subst hI
    exact hq p G' H' hp e' j' hd
theorem aLcR2.fil {lo hi : Int} {n : Nat} (f : Int → Bool) (v : Int → V) (J : Join G P H) (hn : (hi - lo).toNat = n) (hb : -1000000 ≤ hi - lo ∧ hi - lo ≤ 1000000) (hs : Turn g tt te ts σ G P (rgI lo n) f v)
    (hq : ∀ p G' H', H p = none → Ex G G' → Join G' P H' → G' p = some (.lst (((rgI lo n).filter f).map v)) → Q (.ref p) H') : aLcR2 g tt te ts σ [.int lo, .int hi] H Q := by
  have hl : (rgI lo n).length ≤ 1000000 := by rw [rgI_len]; omega
  refine aLcR2.go (n := n) (fun P' => P' = P) (fun i us G' => us = ((((rgI lo n).take i).filter f).map v)) J rfl hn hb (fun _ _ => rfl) (fun _ _ _ _ _ _ _ h => h) (fun i us G2 h => by rw [h]; exact fil_len hl) ?_ ?_
  · intro i us G' P' H' R R0 hi e' hI hP j' kR kR0
    subst hP
    have hk := rgI_at (lo := lo) hi
    refine hs _ G' H' R R0 (List.mem_of_getElem? hk) e' j' (fun h G2 H2 e2 j2 => kR _ G2 _ H2 e2 rfl j2 ?_) (fun h G2 H2 e2 j2 => kR0 G2 _ H2 e2 rfl j2 ?_)
    · rw [take_fil hk, h, if_pos rfl, hI]
    · rw [take_fil hk, h, if_neg (by decide), hI, List.append_nil]
  · intro p us G' P' H' hp e' hd hI hP j'
    subst hP
    rw [show (rgI lo n).take n = rgI lo n by rw [List.take_of_length_le (by rw [rgI_len]; exact Nat.le_refl _)]] at hI
    subst hI
    exact hq p G' H' hp e' j' hd
theorem aLcR.fil {m : Int} {n : Nat} (f : Int → Bool) (v : Int → V) (J : Join G P H) (hn : m = n) (hb : n ≤ 1000000) (hs : Turn g tt te ts σ G P (rgI 0 n) f v)
    (hq : ∀ p G' H', H p = none → Ex G G' → Join G' P H' → G' p = some (.lst (((rgI 0 n).filter f).map v)) → Q (.ref p) H') : aLcR g tt te ts σ [.int m] H Q := by
  have hl : (rgI 0 n).length ≤ 1000000 := by rw [rgI_len]; omega
  refine aLcR.go (n := n) (fun P' => P' = P) (fun i us G' => us = ((((rgI 0 n).take i).filter f).map v)) J rfl hn hb (fun _ _ => rfl) (fun _ _ _ _ _ _ _ h => h) (fun i us G2 h => by rw [h]; exact fil_len hl) ?_ ?_
  · intro i us G' P' H' R R0 hi e' hI hP j' kR kR0
    subst hP
    have hk := rgI_at (lo := 0) hi
    rw [Int.zero_add] at hk
    refine hs _ G' H' R R0 (List.mem_of_getElem? hk) e' j' (fun h G2 H2 e2 j2 => kR _ G2 _ H2 e2 rfl j2 ?_) (fun h G2 H2 e2 j2 => kR0 G2 _ H2 e2 rfl j2 ?_)
    · rw [take_fil hk, h, if_pos rfl, hI]
    · rw [take_fil hk, h, if_neg (by decide), hI, List.append_nil]
  · intro p us G' P' H' hp e' hd hI hP j'
    subst hP
    rw [show (rgI 0 n).take n = rgI 0 n by rw [List.take_of_length_le (by rw [rgI_len]; exact Nat.le_refl _)]] at hI
    subst hI
    exact hq p G' H' hp e' j' hd
theorem fil_all : xs.filter (fun _ => true) = xs := List.filter_eq_self.mpr fun _ _ => rfl
theorem mapI {l : List Int} (h : Int → Int) : l.map (fun k => V.int (h k)) = (l.map h).map V.int := by rw [List.map_map]; rfl
theorem mapB {l : List Int} (h : Int → Bool) : l.map (fun k => V.bl (h k)) = (l.map h).map V.bl := by rw [List.map_map]; rfl
theorem all_go {f : Int → Bool} (J : Join G P H) (h : G a = some (.lst (xs.map fun k => V.bl (f k)))) (q : Q (.bl (xs.all f)) H) : rAll K [.ref a] H Q :=
  ⟨a, xs.map f, rfl, sqL (J.g _ _ (by rw [← mapB]; exact h)), by rw [List.all_map]; exact q⟩
theorem any_go {f : Int → Bool} (J : Join G P H) (h : G a = some (.lst (xs.map fun k => V.bl (f k)))) (q : Q (.bl (xs.any f)) H) : rAny K [.ref a] H Q :=
  ⟨a, xs.map f, rfl, sqL (J.g _ _ (by rw [← mapB]; exact h)), by rw [List.any_map]; exact q⟩
end
end Lv

/-! flags added, lists by a step -/
namespace Lv
open PySem PySem.Spec PyProof.Rows PySem.SeqAt L2
variable [TabA]
def rAddB : R2 := fun x y H Q => ∃ i k, x = .bl i ∧ y = .bl k ∧ Q (.int (b2i i + b2i k)) H
theorem Vals_at {xs : List V} {us : List Value} (r : Vals xs us) : ∀ i : Nat, (∃ x u, xs[i]? = some x ∧ us[i]? = some u ∧ RelV x u) ∨ (xs[i]? = none ∧ us[i]? = none) := by
  induction r with
  | nil => exact fun i => .inr ⟨rfl, rfl⟩
  | cons h _ ih =>
    intro i
    cases i with
    | zero => exact .inl ⟨_, _, rfl, rfl, h⟩
    | succ i => exact ih i
theorem Vals_pick {xs : List V} {us : List Value} (r : Vals xs us) : ∀ is : List Nat, Vals (is.filterMap (xs[·]?)) (is.filterMap (us[·]?))
  | [] => .nil
  | i :: is => by
    rcases Vals_at r i with ⟨x, u, h1, h2, h3⟩ | ⟨h1, h2⟩
    · rw [List.filterMap_cons_some h1, List.filterMap_cons_some h2]
      exact .cons h3 (Vals_pick r is)
    · rw [List.filterMap_cons_none h1, List.filterMap_cons_none h2]
      exact Vals_pick r is
section
variable {X : Cx}
theorem op_addBB : OpR X (binaryOp .Add) rAddB := by
  intro pins s σ H x y v u Q I rx ry h
  obtain ⟨i, k, rfl, rfl, q⟩ := h
  cases (show v = Value.bool i from rx)
  cases (show u = Value.bool k from ry)
  exact add_bool ⟨.int (b2i i + b2i k), H, I.tok _, ⟨_, rfl⟩, q⟩
/-- xs[::k] -/
def rStepL (K : PySem.W.Frag) : V → Option Int → Hp → VK → Prop := fun x o H Q => ∃ a xs k, x = .ref a ∧ o = some k ∧ 1 ≤ k ∧ SqL K H a xs ∧ ∀ p zs, H p = none → zs.length ≤ xs.length → (∀ z ∈ zs, z ∈ xs) → Q (.ref p) (upd H p (.lst zs))
def tStepL (K : PySem.W.Frag) (te : TE) (th : TO) : TE := fun σ H Q => te σ H fun x H1 => th σ H1 fun o H2 => rStepL K x o H2 Q
theorem pe_stepL {e f : Expr} {te : TE} {th : TO} {p3 pos : Pos} (he : PE X e te) (hf : PO X (some f) th) (hsub : ∀ (v w : Value), subscripted (.Slice none none (some f) p3) false v w = operate [v, w] (getItem v w) := by intro v w; with_unfolding_all rfl) : PE X (.Subscript e (.Slice none none (some f) p3) pos) (tStepL X.K te th) := by
  refine ⟨fun pins s σ H Q I h => ?_⟩
  refine Subscript_ (thn (he.run pins s σ H _ I h) fun v s1 ⟨x, H1, I1, r1, q1⟩ => ?_)
  refine wpAny_Slice (thn (po_none.run pins s1 σ H1 (fun o H2 => o = none ∧ H2 = H1) I1 ⟨rfl, rfl⟩) fun vl s2 ⟨l, H2, I2, pl, el, e2⟩ => ?_)
  subst el e2
  refine thn (po_none.run pins s2 σ H2 (fun o H3 => o = none ∧ H3 = H2) I2 ⟨rfl, rfl⟩) fun vu s3 ⟨u, H3, I3, pu, eu, e3⟩ => ?_
  subst eu e3
  refine thn (hf.run pins s3 σ H3 _ I3 q1) fun vs s4 ⟨o, H4, I4, ps, q2⟩ => ?_
  obtain ⟨a, xs, k, ex, eo, hk, hx, q⟩ := q2
  subst ex eo
  cases r1
  have I5 : Inv X pins σ H4 { s4 with heap := s4.heap.push { cls := .type "slice", data := .fields #[vl, vu, vs] } } := I4.kept (t' := s4.toks) fun b ob q => Heap.get?_push_of_some _ q
  obtain ⟨its, r, ht, hz⟩ := I5.list hx
  have hlen := r.length
  show wpAny (model X.prog X.w) X.A (subscriptTail e (.Slice none none (some f) p3) (.ref a) (.ref s4.heap.objs.size)) (EP X pins σ Q) X.xe { s4 with heap := s4.heap.push { cls := .type "slice", data := .fields #[vl, vu, vs] } }
  refine tail_any (ops := [.ref a, .ref s4.heap.objs.size]) ht.isList.typeIs (PySem.slot_list_getitem.lookup) ?_ (hsub _ _)
  refine wpAny_getItem_list_slice ht.isList (Heap.IsSliceOf.new _ vl vu vs) pl pu ps (by intro h; injection h with h; omega) ?_ (by rw [List.size_toArray]; omega)
  obtain ⟨is, e1⟩ : ∃ is : List Nat, slicePick its.toArray none none (some k) = (is.filterMap (its[·]?)).toArray := by
    refine ⟨sliceRange (sliceBounds none none (some k) its.toArray.size).1 (sliceBounds none none (some k) its.toArray.size).2.1 (sliceBounds none none (some k) its.toArray.size).2.2, ?_⟩
    unfold slicePick
    simp only [List.getElem?_toArray]
  have hle := slicePick_size_le its.toArray none none (some k)
  rw [e1] at hle ⊢
  have r2 := Vals_pick r is
  have hl2 := r2.length
  simp only [List.size_toArray] at hle
  refine ⟨.ref _, _, I5.laid (t' := s4.toks) (o := .lst (is.filterMap (xs[·]?))) (fun b ob q => Heap.get?_push_of_some _ q) (Nat.le_refl _) ?_, rfl, q _ (is.filterMap (xs[·]?)) (I5.hok.fresh (Nat.le_refl _)) (by omega) fun z hz => ?_⟩
  · exact ⟨by omega, _, 0, r2, Heap.get?_push_size _ rfl⟩
  · obtain ⟨i, _, hi⟩ := List.mem_filterMap.mp hz
    exact List.mem_of_getElem? hi
end
section
variable {K : PySem.W.Frag} {σ : L2.St} {H : Hp} {Q : VK} {te : TE} {th : TO}
theorem w_addB {a b : Bool} (h : Q (.int (b2i a + b2i b)) H) : rAddB (.bl a) (.bl b) H Q := ⟨a, b, rfl, rfl, h⟩
theorem w_stepL (h : te σ H fun x H1 => th σ H1 fun o H2 => rStepL K x o H2 Q) : tStepL K te th σ H Q := h
theorem stepL_go {G P : Hp} {a : Addr} {xs : List V} {k : Int} (J : Join G P H) (h : G a = some (.lst xs)) (hk : 1 ≤ k) (q : ∀ p zs G' H', H p = none → zs.length ≤ xs.length → (∀ z ∈ zs, z ∈ xs) → Ex G G' → Join G' P H' → G' p = some (.lst zs) → Q (.ref p) H') : rStepL K (.ref a) (some k) H Q :=
  ⟨a, xs, k, rfl, rfl, hk, sqL (J.g _ _ h), fun p zs hp hl hm => q p zs _ _ hp hl hm (Ex.new (J.ng hp)) (J.newG hp) upd_same⟩
end
end Lv

/-! list(range(i, j)) of numbers of any size -/
namespace Lv
open PySem PySem.Spec PyProof.Rows L2
variable [TabA]
section
variable {prog : Program} {w : World} {A : Around} {E : Value → Shared → Prop} {s : Shared}
theorem ext_long {R : Result → Shared → Prop} {r : Addr} {a b c : Int} {t u v : Tok} {n : Nat} (nh : A.handled = none) (rg : IsRange s.heap r a b c t u v) (big : Builtin.Range.small a b c = false)
    (sz : Builtin.Range.rangeSize a b c = n) (le : n ≤ 2 ^ 24) (L : Addr) (res : Value) (c0 : Nat) (atL : s.heap.get? L = some { cls := .type "list", data := .seq #[] c0 })
    (out : ∀ h' tk xs c', (∀ b o, b ≠ L → s.heap.get? b = some o → h'.get? b = some o) → h'.get? L = some { cls := .type "list", dict := none, data := .seq xs c', slots := #[] } →
      ItemsOf (fun i v => ∃ t, v = .int (a + i * c) t) xs n → R (.ok (.ret res)) { s with heap := h', toks := tk }) :
    wpAny (model prog w) A.in1 (Builtin.List.listExtendWith (.ref L) (.ref r) res)
      (fun fin s' => match fin with | .done f => R (.ok f) s' | .again c' => c'.quiet = true ∧ codeAny (model prog w) A c' R s') (fun e s' => R (.error e) s') s := by
  have nLr : L ≠ r := fun e => by rw [e, rg] at atL; simp at atL
  have nLI : L ≠ s.heap.objs.size := Nat.ne_of_lt (Heap.lt_size atL)
  have W := (Walks.longrange (prog := prog) (w := w) (A := A.in1) nh s.heap.objs.size a c n).toS
  have loop : ∀ (h : Heap) (c1 tk : Nat), IsLongIter h s.heap.objs.size (a + ((0 : Nat) : Int) * c) ((n : Int) - ((0 : Nat) : Int)) c → (∀ b o, b ≠ L → s.heap.get? b = some o → h.get? b = some o) → h.get? L = some { cls := .type "list", data := .seq #[] c1 } →
      codeAny (model prog w) A (.builtin "list.extend.loop" ⟨[.ref L, .ref s.heap.objs.size, res], []⟩) R { s with heap := h, toks := tk } := fun h c1 tk it keep one => by
    refine codeAny_extend_loopS W (by rw [sizeLine_eq]; omega) L (fun m => nLI (List.mem_singleton.mp m)) res n 0 _ #[] c1 rfl (Nat.zero_le _) it one (ItemsOf.nil _) fun s' xs c' mv gL its => ?_
    rw [Moved.eq_with mv]
    refine out s'.heap s'.toks xs c' (fun b o nb e => mv.heap b o (fun m => ?_) (keep b o nb e)) gL its
    rcases List.mem_cons.mp m with q | q
    · exact nb q
    · rw [List.mem_singleton.mp q] at e; exact absurd (Heap.lt_size e) (Nat.lt_irrefl _)
  unfold Builtin.List.listExtendWith
  have d1 : Builtin.List.listSameRef (.ref L) (.ref r) = false := by simp [Builtin.List.listSameRef, nLr]
  have d2 : ((Value.type "range" == Value.type "list") || (Value.type "range" == Value.type "tuple")) = false := by decide
  refine wpAny_bind (wpAny_typeOf (T := "range") ⟨_, rg, rfl⟩ ?_)
  simp only [d1, d2, Bool.or_false, Bool.false_or, Bool.false_eq_true, if_false]
  first
    | refine wpAny_bind (wpAny_pyIter_longrange rg big ?_)
    | (simp only [show (Value.type "range" == Value.type "list") = false by decide, show (Value.type "range" == Value.type "tuple") = false by decide, Bool.or_false, Bool.false_eq_true, if_false]
       refine wpAny_bind (wpAny_pyIter_longrange rg big ?_))
  have ext : ∀ z o, s.heap.get? z = some o → (s.heap.push { cls := .type "longrange_iterator", data := .fields #[rawInt a, rawInt (Builtin.Range.rangeSize a b c), rawInt c] }).get? z = some o := fun z o e => Heap.get?_push_of_some _ e
  have it1 : IsLongIter (s.heap.push { cls := .type "longrange_iterator", data := .fields #[rawInt a, rawInt (Builtin.Range.rangeSize a b c), rawInt c] }) s.heap.objs.size (a + ((0 : Nat) : Int) * c) ((n : Int) - ((0 : Nat) : Int)) c := by
    unfold IsLongIter
    rw [sz]; simpa using Heap.get?_push_size _ rfl
  generalize (s.heap.push { cls := .type "longrange_iterator", data := .fields #[rawInt a, rawInt (Builtin.Range.rangeSize a b c), rawInt c] }) = h1 at ext it1
  have L1 := ext _ _ atL
  refine wpAny_bind (wpAny_holding (wpAny_hint_range (n := n) (ext _ _ rg) sz le ?_))
  refine wpAny_ite_split (fun _ => wpAny_bind (wpAny_rule (wpAny_bind ?_))) (fun _ => wpAny_pure ⟨plainId_quiet F.plain_extend_loop _, loop h1 c0 _ it1 (fun b o _ e => ext b o e) L1⟩)
  show wpAny _ _ (updateSeq L (·.push .none) >>= fun _ => updateSeq L (·.pop)) _ _ _
  have L2' := Heap.get?_update_self (Obj.mapSeq (·.push Value.none)) L1 rfl
  have L3 := Heap.get?_update_self (Obj.mapSeq (·.pop)) L2' rfl
  refine wpAny_bind (wpAny_updateSeq L1 rfl (wpAny_updateSeq (hz := by seq_fits) L2' rfl (wpAny_pure ⟨plainId_quiet F.plain_extend_loop _, loop _ _ _ (Eq.trans (Heap.get?_update_other _ _ nLI) (Eq.trans (Heap.get?_update_other _ _ nLI) it1)) (fun b o nb e => ?_) L3⟩)))
  exact Eq.trans (Heap.get?_update_other _ _ (Ne.symm nb)) (Eq.trans (Heap.get?_update_other _ _ (Ne.symm nb)) (ext b o e))
theorem init_long {R : Result → Shared → Prop} {r : Addr} {a b c : Int} {t u v : Tok} {n : Nat} (nh : A.handled = none) (rg : IsRange s.heap r a b c t u v) (big : Builtin.Range.small a b c = false)
    (sz : Builtin.Range.rangeSize a b c = n) (le : n ≤ 2 ^ 24) (L : Addr) (atL : s.heap.get? L = some { cls := .type "list", data := .seq #[] })
    (out : ∀ h' tk xs c', (∀ b o, b ≠ L → s.heap.get? b = some o → h'.get? b = some o) → h'.get? L = some { cls := .type "list", dict := none, data := .seq xs c', slots := #[] } →
      ItemsOf (fun i v => ∃ t, v = .int (a + i * c) t) xs n → R (.ok (.ret .none)) { s with heap := h', toks := tk }) :
    wpAny (model prog w) A.in1 (Builtin.«list.__init__» ⟨[.ref L, .ref r], []⟩)
      (fun fin s' => match fin with | .done f => R (.ok f) s' | .again c' => c'.quiet = true ∧ codeAny (model prog w) A c' R s') (fun e s' => R (.error e) s') s := by
  have nLr : L ≠ r := fun e => by rw [e, rg] at atL; simp at atL
  show wpAny _ _ (do let old ← Builtin.List.listItems (.ref L); Builtin.List.listUpdate (.ref L) (fun _ => #[]); letGo old.toList.reverse; Builtin.List.listExtendWith (.ref L) (.ref r) .none) _ _ s
  refine wpAny_bind (m := Builtin.List.listItems (.ref L)) ?_
  unfold Builtin.List.listItems
  refine wpAny_bind (wpAny_seqItems atL rfl ?_); refine wpAny_pure ?_
  show wpAny _ _ (updateSeq L (fun _ => #[]) >>= fun _ => letGo (#[] : Array Value).toList.reverse >>= fun _ => Builtin.List.listExtendWith (.ref L) (.ref r) .none) _ _ s
  have keep : ∀ b o, b ≠ L → s.heap.get? b = some o → (s.heap.update L (Obj.mapSeq (fun _ => (#[] : Array Value)))).get? b = some o := fun b o nb e => Eq.trans (Heap.get?_update_other _ _ (Ne.symm nb)) e
  have L2' := Heap.get?_update_self (Obj.mapSeq (fun _ => (#[] : Array Value))) atL rfl
  refine wpAny_bind (wpAny_updateSeq atL rfl (wpAny_bind (wpAny_letGo ?_)))
  exact ext_long nh (keep r _ (Ne.symm nLr) rg) big sz le L .none _ L2' fun h' tk xs c' k' g its => out h' tk xs c' (fun b o nb e => k' b o nb (keep b o nb e)) g its
theorem list_long {Q : Value → Shared → Prop} {r : Addr} {a b c : Int} {t u v : Tok} {n : Nat} (nh : A.handled = none) (rg : IsRange s.heap r a b c t u v) (big : Builtin.Range.small a b c = false)
    (sz : Builtin.Range.rangeSize a b c = n) (le : n ≤ 2 ^ 24)
    (out : ∀ h' tk xs c', (∀ b o, s.heap.get? b = some o → h'.get? b = some o) →
      h'.get? s.heap.objs.size = some { cls := .type "list", dict := none, data := .seq xs c', slots := #[] } → ItemsOf (fun i v => ∃ t, v = .int (a + i * c) t) xs n → Q (.ref s.heap.objs.size) { s with heap := h', toks := tk }) :
    wpAny (model prog w) A (call (.type "list") [.ref r]) Q E s := by
  have new : (s.heap.push { cls := .type "list", data := .seq #[] }).get? s.heap.objs.size = some { cls := .type "list", data := .seq #[] } := Heap.get?_push_size _ rfl
  refine callType_codes (Q₁ := fun obj s1 => obj = .ref s.heap.objs.size ∧ s1 = { s with heap := s.heap.push { cls := .type "list", data := .seq #[] } }) F.called_list (F.typeCall_list_1 _) F.entry_list_init (code_list_new _ ⟨rfl, rfl⟩) fun obj s1 h1 => ?_
  obtain ⟨rfl, rfl⟩ := h1
  exact ⟨⟨_, new, rfl⟩, F.args_list_init_2 _ _, init_long (A := A.in1) nh (Heap.get?_push_of_some _ rg) big sz le _ new fun h' tk xs c' k' g its => ⟨rfl, out h' tk xs c' (fun b o e => k' b o (Nat.ne_of_lt (Heap.lt_size e)) (Heap.get?_push_of_some _ e)) g its⟩⟩
end
section
variable {X : Cx} {e : Expr} {te : L2.St → Hp → (Int → Int → Hp → Prop) → Prop}
def tLstRgW (te : L2.St → Hp → (Int → Int → Hp → Prop) → Prop) : TE := fun σ H Q => te σ H fun a b H1 => (b - a).toNat ≤ 2 ^ 24 ∧ ∀ q, H1 q = none → Q (.ref q) (upd H1 q (.lst (rgV a b)))
theorem pe_listRgW {p pos : Pos} (hc : X.calm = true) (hg : Gl X "list") (hm : X.mg "list" = none) (he : PRg X e te) (na : starEach [e] X.env = (false, eval e X.env) :: starEach [] X.env := by rfl) : PE X (.Call (.Name "list" p) [e] [] pos) (tLstRgW te) := by
  refine ⟨fun pins s σ H Q I h => ?_⟩
  refine Call_ (ld_blt I hg hm boot_list (PyProof.Rows.callWith_type1 (args_cons (thn (he pins s σ H _ I h) fun x s1 ⟨r, a, b, t, u, v, H1, ex, hr, I1, b5, q⟩ => args_nil ?_) na) na))
  subst ex
  have fin : ∀ h' tk acc c', (∀ b o, s1.heap.get? b = some o → h'.get? b = some o) → h'.get? s1.heap.objs.size = some { cls := .type "list", dict := none, data := .seq acc c', slots := #[] } → ItemsOf (fun i v => ∃ t, v = .int (a + i * 1) t) acc (b - a).toNat →
      EP X pins σ Q (.ref s1.heap.objs.size) { s1 with heap := h', toks := tk } := fun h' tk acc c' hk e' hi => by
    refine ⟨.ref s1.heap.objs.size, upd H1 s1.heap.objs.size (.lst (rgV a b)), I1.laid hk (Nat.le_refl _) (show ObjOk X.prog X.w _ _ _ (.lst (rgV a b)) from ⟨?_, acc.toList, c', vals_rg hi, ?_⟩), rfl, q _ (I1.hok.fresh (Nat.le_refl _))⟩
    · rw [rgV_length, sizeLine_eq]; omega
    · rw [Array.toArray_toList]; exact e'
  cases hsm : Builtin.Range.small a b 1 with
  | true => exact call_list_range (n := (b - a).toNat) (I1.ok.hd hc) hr hsm (rangeSize_nat a b) b5 fin
  | false => exact list_long (n := (b - a).toNat) (I1.ok.hd hc) hr hsm (rangeSize_nat a b) b5 fin
end
section
variable {K : PySem.W.Frag} {σ : L2.St} {H : Hp} {Q : VK} {ta tb : TE}
def aLstRgW (a b : Int) : Hp → VK → Prop := fun H Q => (b - a).toNat ≤ 2 ^ 24 ∧ ∀ q, H q = none → Q (.ref q) (upd H q (.lst (rgV a b)))
theorem w_lstRgW {tr : L2.St → Hp → (Int → Int → Hp → Prop) → Prop} (h : tr σ H fun a b H1 => aLstRgW a b H1 Q) : tLstRgW tr σ H Q := h
theorem w_rg2 {S : Int → Int → Hp → Prop} (h : ta σ H fun x H1 => tb σ H1 fun y H2 => ∃ i j : Int, x = .int i ∧ y = .int j ∧ S i j H2) : tRg2 ta tb σ H S := h
theorem w_rg2' {S : Int → Int → Hp → Prop} {a b : Int} (h : S a b H) : ∃ i j : Int, V.int a = .int i ∧ V.int b = .int j ∧ S i j H := ⟨a, b, rfl, rfl, h⟩
theorem aLstRgW.go {lo hi : Int} {n : Nat} {G P : Hp} (J : Join G P H) (hn : (hi - lo).toNat = n) (hm : n ≤ 100000) (q : ∀ p G' H', H p = none → Ex G G' → Join G' P H' → G' p = some (.lst ((rgI lo n).map V.int)) → Q (.ref p) H') : aLstRgW lo hi H Q := by
  subst hn
  refine ⟨by omega, fun p hp => q p _ _ hp (Ex.new (J.ng hp)) (J.newG hp) ?_⟩
  rw [upd_same]
  congr 2
  unfold rgV rgI
  rw [List.map_map]
  rfl
end
end Lv

/-! walks of dicts that are locked; d.get(k, x) -/
namespace Lv
open PySem PySem.Spec PyProof.Rows L2
variable [TabA]
theorem for_keys {d : Addr} {o : Obj} {kvs : List (L2.Key × V)} {g : TG} {tb : TS} {D : Ends} {σ : L2.St} {H : Hp} (Pv : Nat → L2.St → Hp → Prop) (h0 : Pv 0 σ H) (hl : ∀ i σ H, i ≤ kvs.length → Pv i σ H → H d = some (.frz o (.dK kvs)))
    (hs : ∀ (i : Nat) (k : L2.Key) (v : V) σ H, kvs[i]? = some (k, v) → Pv i σ H → g (kV k) σ H fun σ2 H2 => tb { D with nx := Pv (i + 1), ct := Pv (i + 1), bk := D.nx } σ2 H2) (hd : ∀ σ H, Pv kvs.length σ H → D.nx σ H) :
    ∃ W : Nat → Nat → L2.St → Hp → Prop, (∃ m, W 0 m σ H) ∧ ∀ i m σ H, W i m σ H →
      ((Itk d o kvs).stop i H ∧ D.nx σ H) ∨ ((Itk d o kvs).go i H ∧ ∃ N : L2.St → Hp → Prop, (∀ σ' H', N σ' H' → ∃ m', m' < m ∧ W (i + 1) m' σ' H') ∧ ∀ x H', (Itk d o kvs).yld i H x H' → g x σ H' fun σ2 H2 => tb { D with nx := N, ct := N, bk := D.nx } σ2 H2) := by
  refine ⟨fun i m σ H => m = kvs.length - i ∧ i ≤ kvs.length ∧ Pv i σ H, ⟨kvs.length, by simp, Nat.zero_le _, h0⟩, ?_⟩
  rintro i m σ H ⟨rfl, hi, p⟩
  have q := hl i σ H hi p
  by_cases c : i < kvs.length
  · refine .inr ⟨⟨q, c⟩, Pv (i + 1), fun σ' H' p' => ⟨kvs.length - (i + 1), by omega, rfl, c, p'⟩, fun x H' y => ?_⟩
    obtain ⟨e, k, v, hk, rfl⟩ := y
    subst e
    exact hs i k v σ _ hk p
  · have e : i = kvs.length := by omega
    subst e
    exact .inl ⟨⟨q, Nat.le_refl _⟩, hd σ H p⟩
theorem lc_keys {d : Addr} {o : Obj} {kvs : List (L2.Key × V)} {g : TG} {tt : TT} {te : TE} {vs : List Nat} {σ : L2.St} {H1 : Hp} {D : Addr} {Qd : Hp → Prop} (Pv : Nat → Hp → Prop) (h0 : Pv 0 (upd H1 D (.lst []))) (hl : ∀ i H, i ≤ kvs.length → Pv i H → H d = some (.frz o (.dK kvs)))
    (hs : ∀ (i : Nat) (k : L2.Key) (v : V) H, kvs[i]? = some (k, v) → Pv i H → g (kV k) (wipe σ vs) H fun σ2 H2 => wipe σ2 vs = wipe σ vs ∧ tt σ2 H2 fun b H3 =>
      if b = true then te σ2 H3 fun y H4 => ∃ acc, H4 D = some (.lst acc) ∧ acc.length < sizeLine ∧ Pv (i + 1) (upd H4 D (.lst (acc ++ [y]))) else Pv (i + 1) H3) (hd : ∀ H, Pv kvs.length H → Qd H) :
    ∃ W : Nat → Nat → Hp → Prop, (∃ m, W 0 m (upd H1 D (.lst []))) ∧ ∀ i m H, W i m H →
      ((Itk d o kvs).stop i H ∧ Qd H) ∨ ((Itk d o kvs).go i H ∧ ∃ Nx : Hp → Prop, (∀ H', Nx H' → ∃ m', m' < m ∧ W (i + 1) m' H') ∧ ∀ x H', (Itk d o kvs).yld i H x H' → g x (wipe σ vs) H' fun σ2 H2 => wipe σ2 vs = wipe σ vs ∧ tt σ2 H2 fun b H3 =>
        if b = true then te σ2 H3 fun y H4 => ∃ acc, H4 D = some (.lst acc) ∧ acc.length < sizeLine ∧ Nx (upd H4 D (.lst (acc ++ [y]))) else Nx H3) := by
  refine ⟨fun i m H => m = kvs.length - i ∧ i ≤ kvs.length ∧ Pv i H, ⟨kvs.length, by simp, Nat.zero_le _, h0⟩, ?_⟩
  rintro i m H ⟨rfl, hi, p⟩
  have q := hl i H hi p
  by_cases c : i < kvs.length
  · refine .inr ⟨⟨q, c⟩, Pv (i + 1), fun H' p' => ⟨kvs.length - (i + 1), by omega, rfl, c, p'⟩, fun x H' y => ?_⟩
    obtain ⟨e, k, v, hk, rfl⟩ := y
    subst e
    exact hs i k v _ hk p
  · have e : i = kvs.length := by omega
    subst e
    exact .inl ⟨⟨q, Nat.le_refl _⟩, hd H p⟩
theorem keyP_at {ns : List Int} {i : Nat} {k : L2.Key} {v : V} (h : (keyP ns)[i]? = some (k, v)) : ∃ n, ns[i]? = some n ∧ k = .inl n := by
  unfold keyP at h
  rw [List.getElem?_map] at h
  cases e : ns[i]? with
  | none => rw [e] at h; cases h
  | some n => rw [e] at h; injection h with h; injection h with h1 h2; exact ⟨n, rfl, h1.symm⟩
section
variable {σ : L2.St} {G P H : Hp} {Q : VK} {nx bk ct : L2.St → Hp → Prop} {rt : VK} {td ty tx : TE} {tt : TT} {te : TE} {g : TG} {tb : TS} {d : Addr} {ns : List Int} {ts : List Nat}
theorem forK_go (J : Join G P H) (h : G d = some (.dK (keyP ns))) (htd : ∀ (H' : Hp) (Q : VK), Q (.ref d) H' → td σ H' Q) (I : Nat → Hp → Hp → L2.St → Prop) (h0 : ∀ od, I 0 (upd G d (.frz od (.dK (keyP ns)))) P σ)
    (hs : ∀ (od : Obj) (rt' : VK) (bk' : L2.St → Hp → Prop) (i : Nat) (n : Int) (G' P' H' : Hp) (σ' : L2.St), ns[i]? = some n → G' d = some (.frz od (.dK (keyP ns))) → Join G' P' H' → I i G' P' σ' →
      g (.int n) σ' H' fun σ2 H2 => tb ⟨fun σ3 H3 => ∃ G3 P3, Join G3 P3 H3 ∧ G3 d = some (.frz od (.dK (keyP ns))) ∧ I (i + 1) G3 P3 σ3, rt', bk', fun σ3 H3 => ∃ G3 P3, Join G3 P3 H3 ∧ G3 d = some (.frz od (.dK (keyP ns))) ∧ I (i + 1) G3 P3 σ3⟩ σ2 H2)
    (hq : ∀ (od : Obj) (G' P' H' : Hp) (σ' : L2.St), G' d = some (.frz od (.dK (keyP ns))) → Join G' P' H' → I ns.length G' P' σ' → nx σ' (upd H' d (.dK (keyP ns)))) : tLock (tFor (iKeys td) g tb) ⟨nx, rt, bk, ct⟩ σ H := by
  refine ⟨d, .dK (keyP ns), J.g _ _ h, trivial, fun od => htd _ _ ⟨d, od, rfl, .inl ⟨keyP ns, upd_same, ?_⟩⟩⟩
  refine for_keys (fun i σ' H' => ∃ G3 P3, Join G3 P3 H' ∧ G3 d = some (.frz od (.dK (keyP ns))) ∧ I i G3 P3 σ') ⟨_, P, J.setGo h, upd_same, h0 od⟩ (fun i σ' H' _ ⟨G', P', j', hd, _⟩ => j'.g _ _ hd) (fun i k v σ' H' hk ⟨G', P', j', hd, hI⟩ => ?_) (fun σ' H' ⟨G', P', j', hd, hI⟩ => ?_)
  · obtain ⟨n, hn, rfl⟩ := keyP_at hk
    exact hs od _ _ i n G' P' H' σ' hn hd j' hI
  · rw [keyP, List.length_map] at hI
    exact ⟨j'.g _ _ hd, hq od G' P' H' σ' hd j' hI⟩
/-- [.. for n in d], d locked -/
theorem lcK_go {f : Int → Bool} {v : Int → V} (J : Join G P H) (h : G d = some (.dK (keyP ns))) (hl : ns.length ≤ 1000000) (htd : ∀ (H' : Hp) (Q : VK), Q (.ref d) H' → td σ H' Q)
    (hs : ∀ (k : Int) (G' H' : Hp) (R : VK) (R0 : Hp → Prop), k ∈ ns → But d G G' → Join G' P H' → (f k = true → R (v k) H') → (f k = false → R0 H') →
      g (.int k) (wipe σ ts) H' fun σ2 H2 => wipe σ2 ts = wipe σ ts ∧ tt σ2 H2 fun b H3 => if b = true then te σ2 H3 R else R0 H3)
    (hq : ∀ p G' H', H p = none → Ex G G' → Join G' P H' → G' p = some (.lst ((ns.filter f).map v)) → Q (.ref p) H') : tLockE (tLc (iKeys td) g tt te ts) σ H Q := by
  refine ⟨d, .dK (keyP ns), J.g _ _ h, trivial, fun od => htd _ _ ⟨d, od, rfl, .inl ⟨keyP ns, upd_same, fun D hD => ?_⟩⟩⟩
  have nD : D ≠ d := fun e => by rw [e, upd_same] at hD; cases hD
  have hD0 : H D = none := by rw [upd_ne nD] at hD; exact hD
  have gD : G D = none := J.ng hD0
  have jl : Join (upd G d (.frz od (.dK (keyP ns)))) P (upd H d (.frz od (.dK (keyP ns)))) := J.setGo h
  refine lc_keys (fun i H' => ∃ G', But d G G' ∧ G' d = some (.frz od (.dK (keyP ns))) ∧ G' D = some (.lst (((ns.take i).filter f).map v)) ∧ Join G' P H') ⟨_, fun b o e nb => ?_, Eq.trans (upd_ne (Ne.symm nD)) upd_same, upd_same, jl.newG hD⟩ (fun i H' _ ⟨G', _, hd, _, j'⟩ => j'.g _ _ hd) (fun i k x H' hk ⟨G', b', hd, hDl, j'⟩ => ?_) (fun H' ⟨G', b', hd, hDl, j'⟩ => ?_)
  · rw [upd_ne (ne_of_none e gD), upd_ne nb]; exact e
  · obtain ⟨n, hn, rfl⟩ := keyP_at hk
    refine hs n G' H' _ _ (List.mem_of_getElem? hn) b' j' (fun c => ⟨_, j'.g _ _ hDl, Nat.lt_of_le_of_lt (fil_len hl) (by decide), _, fun b o e nb => ?_, Eq.trans (upd_ne (Ne.symm nD)) hd, ?_, j'.setGo hDl⟩) (fun c => ⟨G', b', hd, ?_, j'⟩)
    · rw [upd_ne (ne_of_none e gD)]; exact b' b o e nb
    · rw [upd_same, take_fil hn, c, if_pos rfl]
    · rw [hDl, take_fil hn, c, if_neg (by decide), List.append_nil]
  · rw [keyP, List.length_map, List.take_length] at hDl
    refine ⟨j'.g _ _ hd, hq D (upd G' d (.dK (keyP ns))) _ hD0 (fun b o e => ?_) (j'.setGo hd) (Eq.trans (upd_ne nD) hDl)⟩
    by_cases c : b = d
    · subst c; rw [upd_same, ← h]; exact e
    · rw [upd_ne c]; exact b' b o e c
/-- d.get(k, x) -/
def aDGet2 (ty tx : TE) (σ : L2.St) : V → Hp → VK → Prop := fun x H1 Q => ∃ a, x = .ref a ∧ IsD H1 a ∧ ty σ H1 fun y H2 => tx σ H2 fun z H3 => ∃ o, DGet H3 a y o ∧ Q (o.getD z) H3
theorem w_dget2 (h : td σ H fun x H1 => aDGet2 ty tx σ x H1 Q) : tDGet2 td ty tx σ H Q := h
def rDGet2 (a : Addr) (y z : V) : Hp → VK → Prop := fun H Q => ∃ o, DGet H a y o ∧ Q (o.getD z) H
theorem dget2_go {kvs : List (L2.Key × V)} (J : Join G P H) (h : G d = some (.dK kvs)) (q : ty σ H fun y H2 => tx σ H2 fun z H3 => rDGet2 d y z H3 Q) : aDGet2 ty tx σ (.ref d) H Q :=
  ⟨d, rfl, .inl ⟨kvs, .inl (J.g _ _ h)⟩, q⟩
theorem rdget2_go {kvs : List (L2.Key × V)} {k : Int} {z : V} (J : Join G P H) (h : G d = some (.dK kvs)) (q : Q ((valV kvs (.inl k)).getD z) H) : rDGet2 d (.int k) z H Q :=
  ⟨_, DGet.k (k := .inl k) (J.g _ _ h), q⟩
def aDPut (v y : V) (nx : L2.St → Hp → Prop) (σ : L2.St) : V → Hp → Prop := fun x H3 => ∃ a H4, x = .ref a ∧ DPut H3 a y v H4 ∧ nx σ H4
theorem w_dput {tv : TE} (h : tv σ H fun v H1 => td σ H1 fun x H2 => ty σ H2 fun y H3 => aDPut v y nx σ x H3) : sDPut td ty tv ⟨nx, rt, bk, ct⟩ σ H := h
theorem dput_go {kvs : List (L2.Key × V)} {k : Int} {v : V} (J : Join G P H) (h : G d = some (.dK kvs)) (hl : kvs.length < 100000) (q : ∀ G' H', But d G G' → Join G' P H' → G' d = some (.dK (putK kvs (.inl k) v)) → nx σ H') : aDPut v (.int k) nx σ (.ref d) H :=
  ⟨d, _, rfl, DPut.k (k := .inl k) (J.g _ _ h) (szlt hl), q _ _ (fun b o e nb => by rw [upd_ne nb]; exact e) (J.setGo h) upd_same⟩
end
end Lv

/-! lists unpacked -/
namespace Lv
open PySem PySem.Spec PyProof.Rows L2
variable [TabA]
theorem w_glst {K : PySem.W.Frag} {σ : L2.St} {H : Hp} {N : L2.St → Hp → Prop} {gs : TGs} {n : Nat} {a : Addr} {xs : List V} (e : H a = some (.lst xs)) (l : xs.length = n) (h : gs xs σ H N) : gLst K n gs (.ref a) σ H N := ⟨a, xs, rfl, sqL e, l, h⟩
end Lv

/-! things of other kinds than a class's own -/
namespace Lv
open PySem PySem.Spec PyProof.Rows L2
variable [TabA]
def kindN : List String := ["int", "bool", "NoneType", "str", "list", "tuple", "dict"]
/-- what a class with an own == has to do with the kinds -/
def otB (K : PySem.W.Frag) (c : Str) : Bool := kindN.all fun t => PySem.W.notFirst K (He.ga K c) (.type t) && (decide (PySem.W.kitOne K (.type t) (.ref (He.ga K c)) = some false) && decide (PySem.W.kitOne K (.ref (He.ga K c)) (.type t) = some false))
theorem otB_ok {K : PySem.W.Frag} {c : Str} (h : otB K c = true) {t : String} (ht : t ∈ kindN) : PySem.W.notFirst K (He.ga K c) (.type t) = true ∧ PySem.W.kitOne K (.type t) (.ref (He.ga K c)) = some false ∧ PySem.W.kitOne K (.ref (He.ga K c)) (.type t) = some false := by
  have := List.all_eq_true.mp h t ht
  rw [Bool.and_eq_true, Bool.and_eq_true, decide_eq_true_iff, decide_eq_true_iff] at this
  exact this
section
variable {K : PySem.W.Frag} {G H : Hp} {v : V} {Q : VK}
theorem kd_ty (J : Ex G H) (h : Kd G v) : ∃ t ∈ kindN, TyX K H v (.type t) := by
  cases h with
  | int n => exact ⟨_, by decide, .base (.int n)⟩
  | bl b => exact ⟨_, by decide, .base (.bl b)⟩
  | non => exact ⟨_, by decide, .base .non⟩
  | str z => exact ⟨_, by decide, .base (.str z)⟩
  | lst h => exact ⟨_, by decide, .base (.lst (J _ _ h))⟩
  | tup h => exact ⟨_, by decide, .base (.tup (J _ _ h))⟩
  | dic h => exact ⟨_, by decide, .base (.dK (J _ _ h))⟩
theorem isi_kd {c : Str} (o : otB K c = true) (J : Ex G H) (h : Kd G v) (q : Q (.bl false) H) : rIsi K [v, .ref (He.ga K c)] H Q := by
  obtain ⟨t, ht, ty⟩ := kd_ty (K := K) J h
  exact ⟨_, _, _, _, false, rfl, .own _, ty, (otB_ok o ht).2.1, q⟩
end
end Lv

namespace Lv
open PySem PySem.Spec PyProof.Rows L2
variable [TabA]

/-! ### the hook with the interpreter's own statics -/
def asV (n : Nat) (g : Addr → Option Obj) : List Addr := He.asD g n ++ [cStatics]
def obsV (n : Nat) (fa : List He.Fa) (fn : List He.DefD) (ex : PySem.W.Frag → Bool) (g : Addr → Option Obj) : He.AlX := (He.obsT fa fn [] (He.frT g (asV n g)), ex (He.frT g (asV n g)))
theorem saysV_of {n : Nat} {fa : List He.Fa} {fn : List He.DefD} {ex : PySem.W.Frag → Bool} {w : World} {h : Heap} (e : obsV n fa fn ex h.get? = He.valX fn [] w) : He.SaysX fa fn [] [] ex w h (He.frT h.get? (asV n h.get?)) :=
  ⟨congrArg (fun z : He.AlX => z.1) e, congrArg (fun z : He.AlX => z.2) e, fun p hp => absurd hp (by simp), fun p hp => absurd hp (by simp), fun p hp => absurd hp (by simp)⟩
def hookV (n : Nat) (fa : List He.Fa) (fn : List He.DefD) (ex : PySem.W.Frag → Bool) : PySem.W.Hook where
  α := He.AlX
  obs := fun s => obsV n fa fn ex s.heap.get?
  val := fun w => He.valX fn [] w
  says := fun w h => ∃ K : PySem.W.Frag, K.In h ∧ He.SaysX fa fn [] [] ex w h K
  of := fun _ _ e => ⟨_, He.frT_in, saysV_of e⟩
  keeps := fun _ _ _ ⟨K, hK, c⟩ k => ⟨K, PySem.W.Frag.In.keeps hK k, ⟨c.t, c.more, c.hd, c.out, fun p hp => k _ _ (c.empty p hp)⟩⟩
theorem obsV_eq {n : Nat} {fa : List He.Fa} {fn : List He.DefD} {ex : PySem.W.Frag → Bool} {g : Addr → Option Obj} {s : Shared} (h : ∀ a, g a = s.heap.get? a) : obsV n fa fn ex g = (hookV n fa fn ex).obs s := by
  have e : g = s.heap.get? := funext h
  rw [e] <;> rfl

/-! ### an exception class of one field whose __init__ says super().__init__(x) and self.x = x -/
def xiBd (f : Str) : FuncBody → Bool
  | .stmts [.Expr (.Call (.Attribute (.Call (.Name a _) [] [] _) b p3) [.Name c _] [] p5) _, .Assign [.Attribute (.Name d _) e _] (.Name g _) _] =>
    decide (p3.endLine = p5.line) && (decide (a = "super") && (decide (b = "__init__") && (decide (c = f) && (decide (d = "self") && (decide (e = f) && decide (g = f))))))
  | _ => false
theorem xiBd_ok {f : Str} {b : FuncBody} (h : xiBd f b = true) : ∃ p1 p2 p3 p4 p5 p6 p7 p8 p9 p10 : Pos, p3.endLine = p5.line ∧
    b = .stmts [.Expr (.Call (.Attribute (.Call (.Name "super" p1) [] [] p2) "__init__" p3) [.Name f p4] [] p5) p6, .Assign [.Attribute (.Name "self" p7) f p8] (.Name f p9) p10] := by
  unfold xiBd at h
  split at h
  · simp only [Bool.and_eq_true, decide_eq_true_eq] at h
    obtain ⟨hp, rfl, rfl, rfl, rfl, rfl, rfl⟩ := h
    exact ⟨_, _, _, _, _, _, _, _, _, _, hp, rfl⟩
  · cases h
def xiPr (f : Str) : Arguments → Bool
  | ⟨[], [a, b], none, [], [], none, []⟩ => decide (a.arg = "self") && decide (b.arg = f)
  | _ => false
theorem xiPr_ok {f : Str} {b : Arguments} (h : xiPr f b = true) : ∃ a1 a2 : Arg, b = ⟨[], [a1, a2], none, [], [], none, []⟩ ∧ a1.arg = "self" ∧ a2.arg = f := by
  unfold xiPr at h
  split at h
  · simp only [Bool.and_eq_true, decide_eq_true_eq] at h
    exact ⟨_, _, rfl, h.1, h.2⟩
  · cases h
def xiSc (f : Str) (sc : Scope) : Bool := decide (sc.kind = .function) && (!sc.isGenerator && (!sc.isCoroutine && (decide (sc.names.lookup ("super" : Str) = some .globalImplicit) && (decide (sc.names.lookup ("__class__" : Str) = some .free) &&
  (decide (sc.names.lookup ("self" : Str) = some .local) && (decide (sc.names.lookup f = some .local) && sc.names.all fun x => decide (x.2 ≠ .cell)))))))
def xiCell (K : PySem.W.Frag) (C a : Addr) : Bool := match K.lookup a with
  | some ⟨_, _, .cell (some (.ref v)), _⟩ => decide (v = C)
  | _ => false
theorem xiCell_ok {K : PySem.W.Frag} {C a : Addr} (h : xiCell K C a = true) : ∃ cl cd sl, K.lookup a = some ⟨cl, cd, .cell (some (.ref C)), sl⟩ := by
  unfold xiCell at h
  split at h
  · rename_i e
    exact ⟨_, _, _, by rw [e, of_decide_eq_true h]⟩
  · cases h
def xiFile (K : PySem.W.Frag) (file : Str) : Value → Bool
  | .ref c => (match K.lookup c with
    | some ⟨_, _, .fields vs, _⟩ => (match (vs[2]? : Option Value) with
      | some (.str g _) => decide (g = file)
      | _ => false)
    | _ => false)
  | _ => false
theorem xiFile_ok {K : PySem.W.Frag} {file : Str} {v : Value} (h : xiFile K file v = true) : ∃ (c : Addr) (cl : Value) (cd : Option Addr) (vs : Array Value) (sl : Array (Option Value)) (t : Tok), v = .ref c ∧ K.lookup c = some ⟨cl, cd, .fields vs, sl⟩ ∧ vs[2]? = some (.str file t) := by
  unfold xiFile at h
  split at h
  · split at h
    · rename_i e
      split at h
      · rename_i e2
        rw [of_decide_eq_true h] at e2
        exact ⟨_, _, _, _, _, _, rfl, e, e2⟩
      · cases h
    · cases h
  · cases h
def xiFn (K : PySem.W.Frag) (file f : Str) (C : Addr) (fd : FuncData) : Bool :=
  decide (fd.defaults = .none) && (decide (fd.kwdefaults = .none) && (xiBd f fd.body && (xiPr f fd.params && (xiSc f fd.scope && (decide (fd.globals = mainGlobals) && (decide (fd.builtins = builtinsNs) && (PySem.W.codeIn K fd.code fd.qualname && (xiFile K file fd.code && (match fd.closure with
    | [(c, a)] => decide (c = "__class__") && xiCell K C a
    | _ => false)))))))))
def xiCl (K : PySem.W.Frag) (C : Addr) : Bool := match K.lookup C with
  | some ⟨.type t, _, .cls cd, sl⟩ => decide (t = "type") && (match cd.mro, sl.toList with
    | .ref C' :: bm, [_, _, _, _, some (.builtin n), _] => decide (C' = C) && (decide (n = "ValueError.__new__") && (!cd.hasDel && (cd.hasDict && PySem.HandSPX.refsVE bm)))
    | _, _ => false)
  | _ => false
theorem xiCl_ok {K : PySem.W.Frag} {C : Addr} (h : xiCl K C = true) : ∃ nm q N bs bm sn sub ab col dd k0 k1 k2 k3 k5, K.lookup C = some (excClassObj nm q C N bs bm true sn sub ab col dd k0 k1 k2 k3 k5 "ValueError.__new__") ∧ PySem.HandSPX.refsVE bm = true := by
  unfold xiCl at h
  split at h
  · rename_i t dd cd sl ho
    obtain ⟨h1, h⟩ := Bool.and_eq_true_iff.mp h
    split at h
    · rename_i C' bm k0 k1 k2 k3 n k5 hm hs
      simp only [Bool.and_eq_true, decide_eq_true_eq, Bool.not_eq_true'] at h h1
      obtain ⟨rfl, rfl, hdel, hd, ht⟩ := h
      subst h1
      obtain ⟨nm, bs, mro, ns, qn, hdi, sn, sub, ab, col, del⟩ := cd
      dsimp only at hm hdel hd
      subst hm hdel hd
      have hsl : sl = #[k0, k1, k2, k3, some (.builtin "ValueError.__new__"), k5] := by
        obtain ⟨l⟩ := sl
        simp only at hs
        rw [hs]
      subst hsl
      exact ⟨nm, qn, ns, bs, bm, sn, sub, ab, col, dd, k0, k1, k2, k3, k5, ho, ht⟩
    · cases h
  · cases h
def xiB (K : PySem.W.Frag) (file x f : Str) : Bool :=
  xiCl K (He.ga K x) && (decide (PySem.W.findIn K (.ref (He.ga K x)) "__setattr__" = some (some (.builtin "object.__setattr__"))) && (decide (PySem.W.subIn K (.ref (He.ga K x)) (.type "BaseException") = some true) &&
  (decide (PySem.W.typeIn K (.ref (He.ga K x)) = some (.type "type")) && (PySem.W.keepIn K (.ref (He.ga K x)) && (decide (PySem.W.findIn K (.ref (He.ga K x)) "__init__" = some (some (.ref (He.ma K (He.ga K x) "__init__")))) &&
  (decide (PySem.W.typeIn K (.ref (He.ma K (He.ga K x) "__init__")) = some (.type "function")) && (decide (PySem.W.findIn K (.ref (He.ga K x)) f = some none) && (xfB K (He.ga K x) &&
  (decide (PySem.W.subIn K (.ref (He.ga K x)) (.type "ValueError") = some true) && (decide (PySem.W.ks_superIn K (He.ga K x) (He.ga K x) "__init__" = some (some (.builtin "ValueError.__init__"))) &&
  (decide (PySem.W.mroIn K (He.ga K x) (.ref (He.ga K x)) = some true) && (decide (PySem.W.nsIn K mainGlobals "super" = some none) && (decide (PySem.W.nsIn K cStatics "thirdparty.any" = some none) &&
  (match K.lookup (He.ma K (He.ga K x) "__init__") with
    | some ⟨_, _, .func fd, _⟩ => xiFn K file f (He.ga K x) fd
    | _ => false))))))))))))))
/-- what the program's file must say -/
structure XpOk (P : Program) (file : Str) : Prop where
  file : P.main.file = file
  top : (P.main.scope.names.lookup ("super" : Str)).isSome = false
structure XiC (K : PySem.W.Frag) (file : Str) (C : Addr) (f : Str) : Prop where
  oex : OexC K C
  fI : ∃ fi : Addr, PySem.W.findIn K (.ref C) "__init__" = some (some (.ref fi)) ∧ PySem.W.typeIn K (.ref fi) = some (.type "function") ∧ ∃ oc od fd osl, K.lookup fi = some ⟨oc, od, .func fd, osl⟩ ∧ xiFn K file f C fd = true
  noat : PySem.W.findIn K (.ref C) f = some none
  xf : XfC K C
  ve : PySem.W.subIn K (.ref C) (.type "ValueError") = some true
  sup : PySem.W.ks_superIn K C C "__init__" = some (some (.builtin "ValueError.__init__"))
  mro : PySem.W.mroIn K C (.ref C) = some true
  nosup : PySem.W.nsIn K mainGlobals "super" = some none
  noany : PySem.W.nsIn K cStatics "thirdparty.any" = some none
theorem xi_ok {K : PySem.W.Frag} {file x f : Str} (h : xiB K file x f = true) : XiC K file (He.ga K x) f := by
  unfold xiB at h
  simp only [Bool.and_eq_true, decide_eq_true_eq] at h
  obtain ⟨h1, h2, h3, h4, h5, h6, h7, h8, h9, h10, h11, h12, h13, h14, h15⟩ := h
  refine ⟨⟨xiCl_ok h1, h2, h3, h4, h5⟩, ⟨_, h6, h7, ?_⟩, h8, xfB_ok h9, h10, h11, h12, h13, h14⟩
  split at h15
  · rename_i e
    exact ⟨_, _, _, _, e, h15⟩
  · cases h15

section
variable {prog : Program} {w : World} {A : Around} {E : Value → Shared → Prop} {h : Heap} {g : Array GenState} {d : Drawn} {t : Nat} {os : OsState}
variable {nm q : Str} {C N : Addr} {bs bm : List Value} {hdct : Bool} {sn : List Str} {sub : List Value} {ab : Bool} {col : Option Bool} {dd : Option Addr} {k0 k1 k2 k3 k5 : Option Value}
theorem call_bwV {u e t0 : Addr} {rest : List Value} {Q : Value → Shared → Prop}
    (hC : h.get? C = some (excClassObj nm q C N bs bm hdct sn sub ab col dd k0 k1 k2 k3 k5 "ValueError.__new__")) (he : h.get? e = some (PySem.HandSPX.excO C t0)) (hu : h.get? u = some (PySem.W.kxs_mw "ValueError.__init__" e)) (hrest : rest.length ≤ sizeLine)
    (hq : ∀ h' t1, (∀ b o, b ≠ e → h.get? b = some o → h'.get? b = some o) → h'.get? e = some (PySem.HandSPX.excO C t1) → Q .none ⟨h', g, d, t, os⟩) :
    wpAny (model prog w) A (call (.ref u) rest) Q E ⟨h, g, d, t, os⟩ := by
  refine wpAny_call (codeAny_of_tree ?_)
  show wpAny _ A.in1 (callAny (.ref u) ⟨rest, []⟩) _ _ _
  simp only [callAny]
  refine wpAny_bind (wpAny_load hu ?_)
  simp only [PySem.W.kxs_mw, show (Value.type "method-wrapper" == Value.type "method" || Value.type "method-wrapper" == Value.type "builtin_function_or_method" || Value.type "method-wrapper" == Value.type "method-wrapper") = true by decide, if_true]
  refine PySem.W.KFB.if_so (by decide) ?_
  refine wpAny_bind (PySem.W.check_bound_init F.excBase_ValueError.toExcCallFacts hC he rfl ?_)
  refine wpAny_bind (wpAny_pure (wpAny_pure ?_))
  refine ⟨plainId_quiet F.excBase_ValueError.init.plain _, codeAny_builtin F.excBase_ValueError.initEntry ?_⟩
  rw [Around.under_plainId F.excBase_ValueError.init.plain _]
  wp_walk
  refine hq _ h.objs.size (fun b o hb ho => ?_) ?_
  · rw [Heap.get?_update_other _ _ (Ne.symm hb)]
    exact Heap.get?_push_of_some _ ho
  · rw [Heap.get?_update_self _ (Heap.get?_push_of_some _ he) rfl]
    rfl
end

theorem eval_methodCall1 {o e : Expr} {name : Str} {apos pos : Pos} {env : Env} (h : apos.endLine = pos.line) (hs : starEach [e] env = [(false, eval e env)]) : eval (.Call (.Attribute o name apos) [e] [] pos) env = (do
      let ov ← attributeBase o name env (eval o env)
      standAt apos.atName
      let (f, first) ← holding [ov] (getMethod ov name (do return (← importBound o env).getD true))
      callWith pos f first (backTo pos (starEach [e] env)) []) := by
  have hb : (apos.endLine == pos.line) = true := by simp [h]
  show (do
    let ov ← attributeBase o name env (eval o env)
    standAt apos.atName
    methodCall o name apos pos env ov 1 (backTo pos (starEach [e] env)) []) = _
  have hm : methodCallForm 1 (backTo pos (starEach [e] env)) [] = true := by
    rw [hs]
    rfl
  simp only [methodCall, methodCallPos, hm, hb, Bool.or_true, if_true, calleeOf, pure_bind]
/-- __init__ of such a class -/
def spXi (C : Addr) (f : Str) : Sp := fun vs H Q _ => ∃ (a : Addr) (y : V), vs = [.ref a, y] ∧ H a = some (exo a C none) ∧ ∀ dx, H dx = none → dx ≠ a → Q .non (upd (upd H dx (exd dx [(f, y)])) a (exo a C (some dx)))
theorem fn_xi {P : Program} {w : World} {K : PySem.W.Frag} {mg : Str → Option Value} {base : Heap} {CX : CXT} {file f : Str} {C fi : Addr} {oc : Value} {od : Option Addr} {fd : FuncData} {osl : Array (Option Value)} (D : XiC K file C f) (Pk : XpOk P file)
    (lk : K.lookup fi = some ⟨oc, od, .func fd, osl⟩) (hfn : xiFn K file f C fd = true) (hf1 : f ≠ "self") (hdb : (f == ("__debug__" : Str)) = false) : FnOk P w K mg base CX 1 fi fd ["self", f] (spXi C f) := by
  obtain ⟨nm, qn, pr, bd, sc, gl, cl, dV, kV, doc, pm, an, cdv, ct, bl⟩ := fd
  have hfn' := hfn
  simp only [xiFn, Bool.and_eq_true, decide_eq_true_eq] at hfn'
  obtain ⟨_, _, hbd, hpr, hsc, e1, e2, hcd, hfile, hcl⟩ := hfn'
  obtain ⟨p1, p2, p3, p4, p5, p6, p7, p8, p9, p10, hpos, rfl⟩ := xiBd_ok hbd
  obtain ⟨a1, a2, rfl, ha1, ha2⟩ := xiPr_ok hpr
  simp only [xiSc, Bool.and_eq_true, decide_eq_true_eq, Bool.not_eq_true'] at hsc
  obtain ⟨hk, hgen, hco, hks, hkc, hkself, hkf, hcells⟩ := hsc
  subst e1 e2
  obtain ⟨cda, ccl, cdd, cvs, ccs, ctk, rfl, lcd, hvs⟩ := xiFile_ok hfile
  obtain ⟨cc, rfl, lcc⟩ : ∃ cc, cl = [(("__class__" : Str), cc)] ∧ ∃ cl' cd' sl', K.lookup cc = some ⟨cl', cd', .cell (some (.ref C)), sl'⟩ := by
    split at hcl
    · simp only [Bool.and_eq_true, decide_eq_true_eq] at hcl
      obtain ⟨rfl, hc⟩ := hcl
      exact ⟨_, rfl, xiCell_ok hc⟩
    · cases hcl
  obtain ⟨ccl', ccd', csl', lcc⟩ := lcc
  obtain ⟨nmC, qC, NC, bsC, bmC, snC, subC, abC, colC, ddC, k0, k1, k2, k3, k5, lC, hbm⟩ := D.oex.cls
  refine ⟨fun vs H Q E q => ?_, fun A outer s H args us vs Q E hr e0 hb r hsp => ?_⟩
  · obtain ⟨a, y, rfl, _⟩ := q
    rfl
  obtain ⟨a, y, rfl, ea, hq⟩ := hsp
  obtain ⟨u0, us1, rfl, ra, rs⟩ : ∃ u0 us1, us = u0 :: us1 ∧ RelV (.ref a) u0 ∧ Vals [y] us1 := by
    cases r with
    | cons h1 h2 => exact ⟨_, _, rfl, h1, h2⟩
  obtain ⟨u, rfl, ry⟩ : ∃ u, us1 = [u] ∧ RelV y u := by
    cases rs with
    | cons h1 h2 =>
      cases h2
      exact ⟨_, rfl, h1⟩
  obtain rfl : u0 = Value.ref a := ra
  have KX : K.In s.heap := e0.mod.kin.keeps fun b o e => (e0.bs b o e).1
  have lim : s.heap.NoLimit := e0.mod.nolimit.keeps fun b o e => (e0.bs b o e).1
  obtain ⟨t1, hea⟩ := exo_at e0.hok ea
  have hroom : A.depth < recursionLimit := by have := hr.dp; omega
  obtain ⟨hp, gs, dr, tk, oss⟩ := s
  refine ks_codeAny_call_defAt hroom (KX _ _ lk) rfl lim (PySem.W.codeRec_of KX hcd) rfl hb (fun x hx => ?_) (fun x hx => ?_) (fun h1 hns hk1 => ?_) hco hgen hk
  · have z := List.all_eq_true.mp hcells x hx
    simpa using z
  · simp only [List.zip_cons_cons, List.zip_nil_right, List.mem_cons, List.not_mem_nil, or_false] at hx
    rcases hx with rfl | rfl
    · exact hkself
    · exact hkf
  have nL : ∀ {b : Addr} {o : Obj}, hp.get? b = some o → b ≠ hp.objs.size := fun {b o} z => Nat.ne_of_lt (Heap.lt_size z)
  have hLa : hp.objs.size ≠ a := (nL hea).symm
  have X1 : K.In h1 := KX.keeps hk1
  have hea1 := hk1 _ _ hea
  have hC1 := X1 _ _ lC
  have m1 : (fun x : Str => (((["self", f] : List Str).zip [Value.ref a, u]).reverse.lookup x)) "self" = some (.ref a) := by
    simp only [List.zip_cons_cons, List.zip_nil_right, List.reverse_cons, List.reverse_nil, List.nil_append, List.singleton_append]
    rw [List.lookup_cons, List.lookup_cons]
    have z : (("self" : Str) == f) = false := by simpa using (Ne.symm hf1)
    rw [z]
    rfl
  have m2 : (fun x : Str => (((["self", f] : List Str).zip [Value.ref a, u]).reverse.lookup x)) f = some u := by
    simp only [List.zip_cons_cons, List.zip_nil_right, List.reverse_cons, List.reverse_nil, List.nil_append, List.singleton_append]
    rw [List.lookup_cons]
    simp
  refine PySem.ks_wpAt_execs_cons (PySem.ks_wpAt_Expr_any (PySem.ks_wpAt_MethodCall ?_ (eval_methodCall1 hpos rfl)) ?hi)
  case hi =>
    show (sc.kind == .module && _) = false
    rw [hk]
    rfl
  refine PySem.ks_wpAt_super_base hks hkc (by decide) rfl (X1 _ _ lk) rfl rfl rfl (X1 _ _ lcd) rfl hvs (by rw [Pk.file]; simp) Pk.top ?_
  obtain ⟨mb, hmb, hmb2⟩ := e0.mod.blt
  have bk : ∀ b o, base.get? b = some o → h1.get? b = some o := fun b o e => hk1 _ _ (e0.bs b o e).1
  refine PySem.W.ks_loadName_global hk hks (PySem.Calls.loadGlobal_builtin (e0.mod.glob.keeps bk) (PySem.W.mg_none_of e0.mod.kin e0.mod.glob D.nosup) (hmb.keeps bk) ((hmb2 _ (by decide)).trans (by decide +kernel : bootBuiltins "super" = some (.type "super"))) ⟨rfl, ?_⟩)
  refine wpAny_loadName_free hk hkc rfl ⟨_, X1 _ _ lcc, rfl⟩ ?_
  rw [ha1]
  refine wpAny_loadName_local hk hkself hns m1 ?_
  refine PySem.ks_wpAny_isType_cls hC1 rfl ⟨rfl, ?_⟩
  refine PySem.ks_wpAny_call_super hC1 rfl hea1 rfl (fun c z => by cases z) (PySem.W.looks_mroIn X1 D.mro) (fun h2 e2 k2 => ?_)
  have X2 : K.In h2 := X1.keeps k2
  have hea2 := k2 _ _ hea1
  have hC2 := k2 _ _ hC1
  have hac : a ≠ C := fun z => by
    rw [z] at hea1
    rw [hC1] at hea1
    cases hea1
  have hclC : PySem.W.clsIn K C = some { name := nmC, bases := bsC, mro := .ref C :: bmC, ns := NC, qualname := qC, hasDict := true, slotNames := snC, subclasses := subC, abstract := abC, collection := colC, hasDel := false } := by
    unfold PySem.W.clsIn
    rw [lC]
  have hsup := D.sup
  unfold PySem.W.ks_superIn at hsup
  rw [hclC] at hsup
  have I2 : PySem.W.InstAt h2 a { cls := .ref C, dict := none, data := .fields #[.ref t1, .none, .none, .none, .bool false, .none] } C none := ⟨hea2, rfl, rfl, trivial⟩
  refine PySem.W.kxs_getMethod PySem.W.kxs_ValueError e2 (PySem.W.looks_opaque X2 D.noany) (l₀ := .ref C :: bmC) (fun A Q E s k q => wpAny_bind ((PySem.W.looks_clsIn X2 hclC) A _ E s k (wpAny_pure q))) rfl X2 hsup
    (I2.type.andThen (PySem.W.looks_subIn X2 D.ve)) hac (by decide) ?_
  have hu : (h2.push (PySem.W.kxs_mw "ValueError.__init__" a)).get? h2.objs.size = some (PySem.W.kxs_mw "ValueError.__init__" a) := Heap.get?_push_at rfl rfl
  have k3 : ∀ b o, h2.get? b = some o → (h2.push (PySem.W.kxs_mw "ValueError.__init__" a)).get? b = some o := fun b o e => Heap.get?_push_of_some _ e
  refine PySem.W.kxs_callWith (i := "ValueError.__init__") (x := a) rfl (PySem.Calls.evalArgs_plain ?_)
  refine PySem.Calls.spliced_cons (wpAny_Name (wpAny_loadName_local hk hkf ((hns.keeps k2).keeps k3) m2 ?_) hdb)
  refine PySem.Calls.spliced_nil ⟨hu, ?_⟩
  refine call_bwV (k3 _ _ hC2) (k3 _ _ hea2) hu (by rw [sizeLine_eq]; show 1 ≤ _; decide) (fun h4 t4 k4 e4 => ?_)
  have kk : ∀ b o, b ≠ a → hp.get? b = some o → h4.get? b = some o := fun b o n e => k4 b o n (k3 _ _ (k2 _ _ (hk1 _ _ e)))
  have X4 : K.In h4 := fun b o e => kk b o (fun z => by
    rw [z] at e
    have y := (e0.bs _ _ (e0.mod.kin _ _ e)).2
    rw [ea] at y
    cases y) (KX _ _ e)
  have hns4 := (((hns.keeps k2).keeps k3)).at (h' := h4) (fun o e => k4 _ o hLa e)
  refine wpAt_of_wpAny (wpAny_execs_cons (plainObj_wpAny_Assign_Attribute (wpAny_Name (wpAny_loadName_local hk hkf hns4 m2 ?_) hdb)))
  refine wpAny_Name (wpAny_loadName_local hk hkself hns4 m1 ?_) (by decide)
  refine PySem.W.set_plain X4 (ox := { cls := .ref C, dict := none, data := .fields #[.ref t4, .none, .none, .none, .bool false, .none] }) (od := none) ⟨e4, rfl, rfl, trivial⟩ D.oex.sa ?_
  refine PySem.HandSPX.exc_osa X4 e4 hclC (show PySem.HandSPX.refsVE (.ref C :: bmC) = true from hbm) rfl D.noat (fun h5 tk' dx k5 dn dne hx hn => ?_)
  have kf : ∀ b o, b ≠ a → hp.get? b = some o → h5.get? b = some o := fun b o n e => k5 b o n (kk b o n e)
  have hsz : hp.objs.size ≤ dx := Nat.le_of_lt (Nat.lt_of_lt_of_le hns4.lt dn)
  have hnd : H dx = none := e0.hok.fresh hsz
  have nd : ∀ {b : Addr} {o : Obj}, hp.get? b = some o → b ≠ dx := fun {b o} z => Nat.ne_of_lt (Nat.lt_of_lt_of_le (Heap.lt_size z) hsz)
  have na : ∀ {b : Addr}, H b = none → b ≠ a := fun {b} n z => by
    rw [z, ea] at n
    cases n
  refine wpAny_execs_nil ?_
  refine ⟨.non, _, rfl, e0.bare, ?_, ?_, rfl, hq dx hnd dne⟩
  · exact {
      keep := fun b o q n _ _ => kf b o (na n) q
      slot := fun b o q n _ _ => ⟨o.slots, kf b o (na n) q⟩
      free := fun b o q n _ => by rw [upd_ne (na n), upd_ne (nd q)]; exact n
      there := fun b o q _ => by
        by_cases hb : b = a
        · exact ⟨_, by rw [hb]; exact hx⟩
        · exact ⟨o, kf b o hb q⟩
      tups := fun b xs q => by rw [upd_ne (at_ne ea q exo_tup), upd_ne (ne_of_none q hnd)]; exact q
      frzs := fun b o v q => by rw [upd_ne (at_ne ea q exo_frz), upd_ne (ne_of_none q hnd)]; exact q
      tbls := fun b ps q => ⟨#[], by rw [upd_ne (at_ne ea q exo_tbl), upd_ne (ne_of_none q hnd), q]; simp⟩ }
  · intro b o q
    by_cases hb : b = a
    · subst hb
      rw [upd_same] at q
      cases q
      exact exo_ok hx
    · rw [upd_ne hb] at q
      by_cases hd : b = dx
      · subst hd
        rw [upd_same] at q
        cases q
        exact exd_ok hn (relO_put (fs := []) ry fun g => True.intro)
      · rw [upd_ne hd] at q
        exact (e0.hok b o q).stay (fun c v hc z => kf c v (by
            rcases hc with hc | hc
            · rw [hc]
              exact hb
            · exact at_ne ea hc exo_own) z)
          (fun c hc => by rw [upd_ne (at_ne ea hc exo_own), upd_ne (ne_of_none hc hnd)]; exact hc) (fun c xs hc => by rw [upd_ne (at_ne ea hc exo_tup), upd_ne (ne_of_none hc hnd)]; exact hc)
theorem pe_imp {X : Cx} {e : Expr} {te : TE} (h : PE X e te) : PE X e (fun σ H Q' => ∃ Q, te σ H Q ∧ ∀ v H1, Q v H1 → Q' v H1) :=
  ⟨fun pins s σ H Q' I ⟨Q, ht, hi⟩ => wpAny_mono (h.run pins s σ H Q I ht) (fun _ _ ⟨v, H1, I1, r, q⟩ => ⟨v, H1, I1, r, hi _ _ q⟩) fun _ _ z => z⟩
/-- C(e): the exception stands with its dict of one field -/
def tMkX (C : Addr) (f : Str) (te : TE) : L2.St → Hp → XK → Prop := fun σ H Q => te σ H fun y H1 => ∀ d, H1 d = none → Q (.ref C) (some d) (upd H1 d (.xd [(f, y)]))
def BindsXi (f : Str) : Prop := ∀ (nm qn : Str) (bd : FuncBody) (sc : Scope) (gl : Addr) (cl : List (Str × Addr)) (doc pm : Value) (an : Option Addr) (cdv ct : Value) (bl : Addr) (n1 n2 : Option Expr) (q1 q2 : Pos) (u0 u1 : Value),
  bindArgs ⟨nm, qn, ⟨[], [⟨"self", n1, q1⟩, ⟨f, n2, q2⟩], none, [], [], none, []⟩, bd, sc, gl, cl, .none, .none, doc, pm, an, cdv, ct, bl⟩ ⟨[u0, u1], []⟩ = pure ((["self", f] : List Str).zip [u0, u1])
theorem bx_part : BindsXi "part" := fun _ _ _ _ _ _ _ _ _ _ _ _ _ _ _ _ _ _ => rfl
theorem bx_most : BindsXi "most" := fun _ _ _ _ _ _ _ _ _ _ _ _ _ _ _ _ _ _ => rfl
theorem bx_line : BindsXi "line" := fun _ _ _ _ _ _ _ _ _ _ _ _ _ _ _ _ _ _ => rfl
theorem bx_name : BindsXi "name" := fun _ _ _ _ _ _ _ _ _ _ _ _ _ _ _ _ _ _ => rfl
theorem pmk_xi {X : Cx} {x f file : Str} {e : Expr} {te : TE} {p pos : Pos} (D : XiC X.K file (He.ga X.K x) f) (Pk : XpOk X.prog file) (bx : BindsXi f) (hr : Room 2 X.A) (hg : Gl X x) (hm : X.mg x = some (.ref (He.ga X.K x))) (ha : PE X e te)
    (hf1 : f ≠ "self" := by decide) (hdf : (f == ("__debug__" : Str)) = false := by decide) (hdb : (x == ("__debug__" : Str)) = false := by decide) (he : starEach [e] X.env = (false, eval e X.env) :: starEach [] X.env := by rfl) :
    PMk X (.Call (.Name x p) [e] [] pos) (tMkX (He.ga X.K x) f te) := by
  obtain ⟨fi, hi, ht, oc, od, fd, osl, lk, hfn⟩ := D.fI
  have hpr : fd.defaults = .none ∧ fd.kwdefaults = .none ∧ xiPr f fd.params = true := by
    simp only [xiFn, Bool.and_eq_true, decide_eq_true_eq] at hfn
    exact ⟨hfn.1, hfn.2.1, hfn.2.2.2.1⟩
  have hb : Binds X.K fd ["self", f] [] := Binds.all fun us hl => by
    obtain ⟨d1, d2, hpr⟩ := hpr
    obtain ⟨a1, a2, e1, e2, e3⟩ := xiPr_ok hpr
    obtain ⟨u0, u1, rfl⟩ : ∃ u0 u1, us = [u0, u1] := by
      match us, hl with
      | [u0, u1], _ => exact ⟨u0, u1, rfl⟩
    obtain ⟨_, n1, q1⟩ := a1
    obtain ⟨_, n2, q2⟩ := a2
    dsimp only at e2 e3
    subst e2 e3
    obtain ⟨nm, qn, pr, bd, sc, gl, cl, dV, kV, doc, pm, an, cdv, ct, bl⟩ := fd
    dsimp only at e1 d1 d2
    subst e1 d1 d2
    exact bx _ _ _ _ _ _ _ _ _ _ _ _ _ _ _ _ _ _
  have F1 := fn_xi (w := X.w) (mg := X.mg) (base := X.base) (CX := fun _ _ _ _ _ _ => False) D Pk lk hfn hf1 hdf
  intro pins s σ H Q I h
  refine pmk_oex (sp := spXi (He.ga X.K x) f) (dvs := []) (ds := []) D.oex hi ht F1 hr hb .nil (fun _ _ _ _ _ _ _ z => z.elim) hg hm (pa_cons (pe_imp ha) pa_nil he) hdb he rfl pins s σ H Q I ⟨_, h, fun y H1 q => ?_⟩
  refine ⟨by show 1 ≤ 1000; decide, fun a na => ⟨a, y, rfl, upd_same, fun dx nx ne => ⟨rfl, dx, [(f, y)], upd_same, ?_, ?_, ?_⟩⟩⟩
  · rw [upd_ne ne, upd_same]
  · rw [← nx, upd_ne ne]
  · have nx' : H1 dx = none := by rw [← nx, upd_ne ne]
    have z : upd (del (upd (upd (upd H1 a (exo a (He.ga X.K x) none)) dx (exd dx [(f, y)])) a (exo a (He.ga X.K x) (some dx))) a) dx (.xd [(f, y)]) = upd H1 dx (.xd [(f, y)]) := by
      funext b
      by_cases hb : b = dx
      · rw [hb, upd_same, upd_same]
      · rw [upd_ne hb, upd_ne hb]
        by_cases ha : b = a
        · rw [ha, del_same, na]
        · rw [del_ne ha, upd_ne ha, upd_ne hb, upd_ne ha]
    rw [z]
    exact q dx nx'
theorem as_go {K : PySem.W.Frag} {H : Hp} {σ : L2.St} {i : Nat} {c cls : Value} {ts : Addr → Value → Option Addr → TS} {Wout : WX} {D : Ends} {d : Option Addr} (h : PySem.W.exmOne K cls c = some true)
    (q : ∀ a, H a = none → ts a cls d { nx := fun σ' H' => D.nx (σ'.set i none) H', rt := D.rt, bk := fun σ' H' => D.bk (σ'.set i none) H', ct := fun σ' H' => D.ct (σ'.set i none) H' } (σ.set i (some (.ref a))) H) :
    wAs K c i ts Wout D cls d σ H := ⟨true, h, fun _ => q, fun h => nomatch h⟩
theorem xf_go {a C dd : Addr} {f : Str} {te : TE} {σ : L2.St} {H : Hp} {Q : VK} {y : V} (ea : H dd = some (.xd [(f, y)])) (h : te σ H fun x H1 => x = .ref a ∧ H1 = H) (q : Q y H) (hm : ∀ (Q Q' : VK), (∀ v H1, Q v H1 → Q' v H1) → te σ H Q → te σ H Q') :
    tXf a (.ref C) (some dd) C f te σ H Q := hm _ _ (fun v H1 ⟨hv, hH⟩ => ⟨hv, rfl, dd, [(f, y)], y, rfl, by rw [hH]; exact ea, by simp [List.lookup], by rw [hH]; exact q⟩) h
theorem w_mkx {C : Addr} {f : Str} {te : TE} {σ : L2.St} {H : Hp} {Q : XK} (h : te σ H fun y H1 => ∀ d, H1 d = none → Q (.ref C) (some d) (upd H1 d (.xd [(f, y)]))) : tMkX C f te σ H Q := h
end Lv

/-! sorted(xs), sorted(d): fewer than 64 tuples of ints of any length, in the order of tuples -/
namespace Lv
open PySem PySem.Spec PyProof.Rows L2
variable [TabA]
def lexLt : List Int → List Int → Bool
  | [], m => !m.isEmpty
  | _ :: _, [] => false
  | p :: ns, q :: ms => if p = q then lexLt ns ms else decide (p < q)
theorem lexLt_irr : ∀ a : List Int, lexLt a a = false
  | [] => rfl
  | p :: ns => by unfold lexLt; rw [if_pos rfl]; exact lexLt_irr ns
theorem lexLt_tri : ∀ a b : List Int, lexLt a b = false → lexLt b a = false → a = b
  | [], [], _, _ => rfl
  | [], _ :: _, h, _ => by cases h
  | _ :: _, [], _, h => by cases h
  | p :: ns, q :: ms, h1, h2 => by
    unfold lexLt at h1 h2
    by_cases e : p = q
    · subst e
      rw [if_pos rfl] at h1 h2
      rw [lexLt_tri ns ms h1 h2]
    · rw [if_neg e] at h1
      rw [if_neg (Ne.symm e)] at h2
      have := of_decide_eq_false h1
      have := of_decide_eq_false h2
      omega
theorem lexLt_trans : ∀ a b c : List Int, lexLt a b = true → lexLt b c = true → lexLt a c = true
  | [], [], _, h, _ => by cases h
  | [], _ :: _, [], _, h => by cases h
  | [], _ :: _, _ :: _, _, _ => rfl
  | _ :: _, [], _, h, _ => by cases h
  | _ :: _, _ :: _, [], _, h => by cases h
  | p :: ns, q :: ms, r :: ls, h1, h2 => by
    unfold lexLt at h1 h2 ⊢
    by_cases e1 : p = q
    · subst e1
      rw [if_pos rfl] at h1
      by_cases e2 : p = r
      · subst e2
        rw [if_pos rfl] at h2 ⊢
        exact lexLt_trans ns ms ls h1 h2
      · rw [if_neg e2] at h2 ⊢; exact h2
    · rw [if_neg e1] at h1
      have l1 := of_decide_eq_true h1
      by_cases e2 : q = r
      · subst e2
        rw [if_neg e1]; exact h1
      · rw [if_neg e2] at h2
        have l2 := of_decide_eq_true h2
        rw [if_neg (by omega)]
        exact decide_eq_true (by omega)
theorem lexLt_neg {a b c : List Int} (h1 : lexLt b a = false) (h2 : lexLt c b = false) : lexLt c a = false := by
  cases e : lexLt c a with
  | false => rfl
  | true =>
    cases e2 : lexLt a b with
    | true =>
      have := lexLt_trans _ _ _ e e2
      rw [h2] at this; cases this
    | false =>
      have := lexLt_tri a b e2 h1
      subst this
      rw [h2] at e; cases e
def lexRk (L : List (List Int)) (a : List Int) : Int := ((L.filter fun b => lexLt b a).length : Nat)
theorem filter_lt {α : Type} {f g : α → Bool} (h : ∀ x, f x = true → g x = true) : ∀ {l : List α} {y : α}, y ∈ l → f y = false → g y = true → (l.filter f).length < (l.filter g).length
  | [], _, hy, _, _ => nomatch hy
  | x :: l, y, hy, h1, h2 => by
    have mono : ∀ l : List α, (l.filter f).length ≤ (l.filter g).length := by
      intro l
      induction l with
      | nil => exact Nat.le_refl _
      | cons x l ih =>
        rw [List.filter_cons, List.filter_cons]
        cases e : f x with
        | true => rw [if_pos rfl, if_pos (h x e)]; simp only [List.length_cons]; omega
        | false =>
          rw [if_neg (by decide)]
          split
          · simp only [List.length_cons]; omega
          · exact ih
    rw [List.filter_cons, List.filter_cons]
    rcases List.mem_cons.mp hy with rfl | hy
    · rw [if_neg (by rw [h1]; decide), if_pos h2]
      have := mono l
      simp only [List.length_cons]; omega
    · have ih := filter_lt h hy h1 h2
      cases e : f x with
      | true => rw [if_pos rfl, if_pos (h x e)]; simp only [List.length_cons]; omega
      | false =>
        rw [if_neg (by decide)]
        split
        · simp only [List.length_cons]; omega
        · exact ih
theorem lexRk_lt {L : List (List Int)} {a b : List Int} (ha : a ∈ L) (h : lexLt a b = true) : lexRk L a < lexRk L b := by
  have := filter_lt (f := fun c => lexLt c a) (g := fun c => lexLt c b) (fun x hx => lexLt_trans x a b hx h) ha (lexLt_irr a) h
  unfold lexRk
  omega
theorem lexRk_eq {L : List (List Int)} {a b : List Int} (ha : a ∈ L) (hb : b ∈ L) : decide (lexRk L a < lexRk L b) = lexLt a b := by
  cases e : lexLt a b with
  | true => exact decide_eq_true (lexRk_lt ha e)
  | false =>
    refine decide_eq_false ?_
    cases e2 : lexLt b a with
    | true => have := lexRk_lt hb e2; omega
    | false => rw [lexLt_tri a b e e2]; omega
section
variable {prog : Program} {w : World} {A : Around} {E : Value → Shared → Prop} {s : Shared}
theorem lex_any {Q : Bool → Shared → Prop} {b : Bool} {xs ys : List Value} {ns ms : List Int} (i : Nat) (hx : IntsAre xs ns) (hy : IntsAre ys ms) (h : Q (lexLt ns ms) s) : PySem.W.KatLex prog w A b (decide (xs.length < ys.length)) Q (xs.zip ys) i s := by
  induction hx generalizing ys ms i with
  | nil =>
    cases hy with
    | nil => exact PySem.W.kat_nil h
    | cons q u hy => exact PySem.W.kat_nil (by simpa [lexLt] using h)
  | @cons p t xs ns hx ih =>
    cases hy with
    | nil => exact PySem.W.kat_nil (by simpa [lexLt] using h)
    | @cons q u ys ms hy =>
      have e0 : decide ((Value.int p t :: xs).length < (Value.int q u :: ys).length) = decide (xs.length < ys.length) := by
        simp only [List.length_cons]
        exact decide_eq_decide.mpr ⟨fun h => by omega, fun h => by omega⟩
      rw [e0]
      show PySem.W.KatLex prog w A b (decide (xs.length < ys.length)) Q ((Value.int p t, Value.int q u) :: xs.zip ys) i s
      refine PySem.W.kat_cons (wpAny_eqBool_int ?_)
      by_cases e : p = q
      · subst e
        rw [beq_self_eq_true]
        unfold lexLt at h
        rw [if_pos rfl] at h
        exact PySem.W.kat_yes (ih (i + 1) hy h)
      · rw [show (p == q) = false from beq_eq_false_iff_ne.mpr e]
        unfold lexLt at h
        rw [if_neg e] at h
        exact PySem.W.kat_no (TS.oneLt_ints _ h)
/-- what is sorted -/
def LexOk (h : Heap) (vs : List Value) : Prop := ∀ v, v ∈ vs → ∃ ns, TS.TupInts h v ns ∧ ns ≠ []
theorem lex_firsts {h : Heap} : ∀ vs : List Value, LexOk h vs → ∃ fs, PySem.W.KatTups h vs fs ∧ fs.length = vs.length ∧ ∀ f, f ∈ fs → ∃ n t, f = Value.int n t
  | [], _ => ⟨[], PySem.W.KatTups.nil, rfl, fun f hf => by simp at hf⟩
  | v :: vs, x => by
    obtain ⟨fs, k, hl, hi⟩ := lex_firsts vs fun u hu => x u (List.mem_cons_of_mem _ hu)
    obtain ⟨ns, ⟨a, xs, rfl, ⟨o, ho, hc, n, hdt⟩, i⟩, hn⟩ := x v (List.mem_cons_self ..)
    obtain ⟨y, ys, e⟩ : ∃ y ys, xs.toList = y :: ys := by
      cases q : xs.toList with
      | nil =>
        rw [q] at i
        have l := i.length
        rw [List.length_nil] at l
        exact absurd (List.eq_nil_of_length_eq_zero (by omega)) hn
      | cons y ys => exact ⟨y, ys, rfl⟩
    obtain ⟨m, t, hy⟩ := i.all y (by rw [e]; exact List.mem_cons_self ..)
    refine ⟨y :: fs, PySem.W.KatTups.cons ho hc hdt ?_ k, by simp [hl], ?_⟩
    · have z := congrArg (fun l : List Value => l[0]?) e
      simpa using z
    · intro f hf
      rcases List.mem_cons.mp hf with rfl | hf
      · exact ⟨m, t, hy⟩
      · exact hi f hf
theorem kind_lex {vs : List Value} (h2 : 2 ≤ vs.length) (x : LexOk s.heap vs) (r : Value → Int) (hr : ∀ v ∈ vs, ∀ u ∈ vs, ∀ ns ms, TS.TupInts s.heap v ns → TS.TupInts s.heap u ms → decide (r v < r u) = lexLt ns ms) (Q : SortKind → Shared → Prop)
    (h : ∀ κ, TS.Cmp prog w A s κ (pairsOf vs) r → Q κ s) : wpAny (model prog w) A (keyKind' vs.toArray) Q E s := by
  obtain ⟨fs, k, hl, hi⟩ := lex_firsts vs x
  refine PySem.W.kat_kind (T := Value.type "int") k (by omega) (fun f hf => ?_) rfl (h _ ?_)
  · obtain ⟨n, t, rfl⟩ := hi f hf
    exact PySem.W.Looks.of_pure rfl
  · intro p q hp hq Q' E' hQ
    rw [pairsOf_toList] at hp hq
    obtain ⟨ns, tp, np⟩ := x _ (mem_zip_self hp).2
    obtain ⟨ms, tq, nq⟩ := x _ (mem_zip_self hq).2
    have z := hr _ (mem_zip_self hp).2 _ (mem_zip_self hq).2 ns ms tp tq
    rw [z] at hQ
    obtain ⟨a, xs, e1, ⟨o, ho, hc, n, hdt⟩, i⟩ := tp
    obtain ⟨a', ys, e2, ⟨o', ho', hc', n', hdt'⟩, i'⟩ := tq
    rw [e1, e2]
    refine PySem.W.kat_lt ho hdt ho' hdt' ?_
    have l1 : xs.size = xs.toList.length := (Array.length_toList ..).symm
    have l2 : ys.size = ys.toList.length := (Array.length_toList ..).symm
    rw [l1, l2]
    exact lex_any 0 i i' hQ
def ltI (h : Heap) (v u : Value) : Bool := lexLt (TS.intsOf h v) (TS.intsOf h u)
theorem swo_ltI (h : Heap) : SrtO.Swo (ltI h) := by
  refine ⟨fun x y hxy => ?_, fun x y z h1 h2 => ?_⟩
  · unfold ltI at hxy ⊢
    cases e : lexLt (TS.intsOf h y) (TS.intsOf h x) with
    | false => rfl
    | true =>
      have := lexLt_trans _ _ _ hxy e
      rw [lexLt_irr] at this; cases this
  · unfold ltI at h1 h2 ⊢
    revert h1 h2
    generalize TS.intsOf h x = a
    generalize TS.intsOf h y = b
    generalize TS.intsOf h z = c
    intro h1 h2
    first
      | exact lexLt_neg h1 h2
      | exact lexLt_neg h2 h1
theorem lex_sortable {a : Addr} {vs : List Value} (h0 : 0 < vs.length) (x : LexOk s.heap vs) (ha : ∀ o, s.heap.get? a = some o → o.cls ≠ .type "tuple") : SrtO.SortableO prog w A s a vs (ltI s.heap) := by
  intro h' keep
  have keep2 : ∀ b o, s.heap.get? b = some o → o.cls = .type "tuple" → h'.get? b = some o := fun b o e c => keep b o (fun z => by subst z; exact ha o e c) e
  have x' : LexOk h' vs := fun v hv => let ⟨ns, t, hn⟩ := x v hv; ⟨ns, t.keeps keep2, hn⟩
  obtain ⟨fs, k, hl, hi⟩ := lex_firsts vs x'
  refine ⟨PyProof.Rows.tuples' true, fun Q E hq => ?_, fun p q hm hm' => ?_⟩
  · refine PySem.W.kat_kind (T := Value.type "int") k (by omega) (fun f hf => ?_) rfl ?_
    · obtain ⟨n, t, rfl⟩ := hi f hf
      exact PySem.W.Looks.of_pure rfl
    · have e : (Value.type "int" != Value.type "tuple") = true := by first | decide +kernel | rfl | decide
      rw [e]
      exact hq
  · obtain ⟨ns, tp, np⟩ := x p.1 hm
    obtain ⟨ms, tq, nq⟩ := x q.1 hm'
    have tp' := tp.keeps keep2
    have tq' := tq.keeps keep2
    have e0 : SrtO.lt2 (ltI s.heap) p q = lexLt ns ms := by
      show ltI s.heap p.1 q.1 = _
      unfold ltI
      rw [tp.ints, tq.ints]
    rw [e0]
    obtain ⟨a, xs, e1, ⟨o, ho, hc, n, hdt⟩, i⟩ := tp'
    obtain ⟨a', ys, e2, ⟨o', ho', hc', n', hdt'⟩, i'⟩ := tq'
    rw [e1, e2]
    refine PySem.W.kat_lt ho hdt ho' hdt' ?_
    have l1 : xs.size = xs.toList.length := (Array.length_toList ..).symm
    have l2 : ys.size = ys.toList.length := (Array.length_toList ..).symm
    rw [l1, l2]
    exact lex_any 0 i i' ⟨rfl, rfl⟩
/-- list.sort -/
theorem sort_lex {a : Addr} {vs : List Value} {n : Nat} {P : PySem.Fin → Shared → Prop} (ho : s.heap.get? a = some (seqObj "list" vs.toArray n)) (hz : vs.length ≤ sizeLine) (x : LexOk s.heap vs)
    (h : ∀ out : Array Value, out.toList.Perm vs → out.toList.Pairwise (fun u v => lexLt (TS.intsOf s.heap v) (TS.intsOf s.heap u) = false) → P (.done (.ret .none)) { s with heap := sortedHeap s.heap a vs out }) :
    wpAny (model prog w) A (Builtin.«list.sort» ⟨[.ref a], []⟩) P E s := by
  refine SrtO.list_sort_ord (swo_ltI s.heap) ho hz (fun h2 => lex_sortable (by omega) x fun o e => ?_) fun out h1 h2 => h out.toArray h2.perm h1
  rw [ho] at e
  have e' : seqObj "list" vs.toArray n = o := Option.some.inj e
  rw [← e']
  intro c
  exact absurd (Value.type.inj c) (by decide)
end
section
variable {X : Cx}
/-- tuples, sorted by their ints -/
def lexP (K : PySem.W.Frag) (H : Hp) (x y : V) : Prop := ∀ n m, TupI K H x n → TupI K H y m → lexLt m n = false
theorem lex_vals {pins : List (Addr × Obj)} {σ : L2.St} {H : Hp} {s : Shared} (I : Inv X pins σ H s) {xs : List V} {us : List Value} (rv : Vals xs us) (hx : ∀ x ∈ xs, ∃ ns, TupI X.K H x ns ∧ ns ≠ []) :
    xs = us.map bkV ∧ (∀ u ∈ us, ∃ a, u = Value.ref a) ∧ LexOk s.heap us := by
  obtain ⟨e1, e2⟩ := bkV_refs rv fun x m => by
    obtain ⟨ns, ⟨t, e, _⟩, _⟩ := hx x m
    exact ⟨t, e⟩
  refine ⟨e1, e2, fun v hv => ?_⟩
  obtain ⟨t, rfl⟩ := e2 v hv
  have hm : V.ref t ∈ xs := by
    rw [e1]
    exact List.mem_map.mpr ⟨_, hv, rfl⟩
  obtain ⟨ns, ⟨t', e, ht⟩, hn⟩ := hx _ hm
  cases e
  exact ⟨ns, tupI_raw I ht, hn⟩
theorem lexP_of {pins : List (Addr × Obj)} {σ : L2.St} {H : Hp} {s : Shared} (I : Inv X pins σ H s) {us : List Value} (h : us.Pairwise (fun u v => lexLt (TS.intsOf s.heap v) (TS.intsOf s.heap u) = false)) : (us.map bkV).Pairwise (lexP X.K H) := by
  rw [List.pairwise_map]
  refine List.Pairwise.imp (fun {u v} huv n m hn hm => ?_) h
  obtain ⟨t, et, ht⟩ := hn
  obtain ⟨t', et', ht'⟩ := hm
  have eu := bkV_ref et
  have ev := bkV_ref et'
  have i1 : TS.intsOf s.heap u = n := by
    rw [eu]
    exact (tupI_raw I ht).ints
  have i2 : TS.intsOf s.heap v = m := by
    rw [ev]
    exact (tupI_raw I ht').ints
  rw [← i1, ← i2]
  exact huv
/-- sorted(xs) of a list -/
def rSortLL (K : PySem.W.Frag) : List V → Hp → VK → Prop := fun vs H Q => ∃ (a : Addr) (xs : List V), vs = [V.ref a] ∧ SqL K H a xs ∧ (∀ x ∈ xs, ∃ ns, TupI K H x ns ∧ ns ≠ []) ∧
  ∀ (ys : List V) (p : Addr), ys.Perm xs → ys.Pairwise (lexP K H) → H p = none → Q (.ref p) (upd H p (.lst ys))
theorem cr_sortLL : CallR X (.builtin "sorted") (rSortLL X.K) := by
  intro pins s σ H vs us Q I r h
  obtain ⟨a, xs, rfl, hs, hx, q⟩ := h
  obtain ⟨its, rv, hl, hz⟩ := I.list hs
  rw [Vals.ref1 r]
  obtain ⟨e1, e2, x⟩ := lex_vals I rv hx
  have hzi : its.length ≤ sizeLine := by rw [← rv.length]; exact hz
  refine Calls.call_function_entry kind_sorted plain_sorted entry_sorted (args_sorted1 _) ?_
  unfold Builtin.«sorted»
  refine wpAny_bind (m := checkCount "sorted" 1 1 _) (wpAny_pure ?_)
  refine wpAny_bind (collect_list hl.isList ?_ (by simpa using hzi))
  refine wpAny_bind (wpAny_newList ?_ (by simpa using hzi))
  have hsz : ((s.heap.push (seqObj "list" #[] 0)).update s.heap.objs.size (Obj.mapSeq (· ++ its.toArray))).objs.size = s.heap.objs.size + 1 := by
    rw [Heap.size_update, size_push']
  have hoL : (((s.heap.push (seqObj "list" #[] 0)).update s.heap.objs.size (Obj.mapSeq (· ++ its.toArray))).push (seqObj "list" its.toArray 0)).get? (s.heap.objs.size + 1) = some (seqObj "list" its.toArray 0) := by
    rw [← hsz]; exact Heap.get?_push_size _ rfl
  have keep : ∀ b o, s.heap.get? b = some o → o.cls = .type "tuple" → (((s.heap.push (seqObj "list" #[] 0)).update s.heap.objs.size (Obj.mapSeq (· ++ its.toArray))).push (seqObj "list" its.toArray 0)).get? b = some o := fun b o q _ => by
    have hlt : b < s.heap.objs.size := Heap.lt_size q
    rw [Heap.get?_push_ne _ _ _ (by rw [hsz]; exact Nat.ne_of_lt (Nat.lt_succ_of_lt hlt)), Heap.get?_update_ne _ _ _ _ (Nat.ne_of_lt hlt), Heap.get?_push_ne _ _ _ (Nat.ne_of_lt hlt)]
    exact q
  show wpAny _ _ _ _ _ { s with heap := ((s.heap.push (seqObj "list" #[] 0)).update s.heap.objs.size (Obj.mapSeq (· ++ its.toArray))).push (seqObj "list" its.toArray 0) }
  rw [hsz]
  have ik : ∀ u ∈ its, TS.intsOf (((s.heap.push (seqObj "list" #[] 0)).update s.heap.objs.size (Obj.mapSeq (· ++ its.toArray))).push (seqObj "list" its.toArray 0)) u = TS.intsOf s.heap u := fun u hu => by
    obtain ⟨ns, t, _⟩ := x u hu
    rw [t.ints, (t.keeps keep).ints]
  refine wpAny_bind (wpAny_holding (wpAny_call_entry slot_list_sort ⟨_, hoL, rfl⟩ entry_list_sort (sort_lex hoL hzi (fun v hv => let ⟨ns, t, hn⟩ := x v hv; ⟨ns, t.keeps keep, hn⟩) fun out a1 a2 => ⟨_, rfl, ?_⟩) (args_list_sort _)))
  refine wpAny_pure ⟨_, rfl, ?_⟩
  obtain ⟨ep, he'⟩ := PyProof.Rows.sortedAll_at s.heap its out
  have h3 : ∀ u ∈ out.toList, ∃ a, u = Value.ref a := fun u hu => e2 u (a1.mem_iff.mp hu)
  have hp : (out.toList.map bkV).Perm xs := by
    rw [e1]
    exact a1.map bkV
  have hlen : (out.toList.map bkV).length ≤ sizeLine := by
    rw [hp.length_eq]
    exact hz
  refine ⟨.ref _, upd H (s.heap.objs.size + 1) (.lst (out.toList.map bkV)), I.laid (t' := s.toks) (fun _ _ => PyProof.Rows.sortedAll_old) (Nat.le_succ _) ⟨hlen, out.toList, ep, bkV_vals h3, he'⟩, rfl, q _ _ hp ?_ (I.hok.fresh (Nat.le_succ _))⟩
  refine lexP_of I (List.Pairwise.imp_of_mem (fun {u v} hu hv huv => ?_) a2)
  rw [ik u (a1.mem_iff.mp hu), ik v (a1.mem_iff.mp hv)] at huv
  exact huv
/-- sorted(d) of a dict with tuple keys -/
def rSortLD (K : PySem.W.Frag) : List V → Hp → VK → Prop := fun vs H Q => ∃ (d : Addr) (kvs : List (List L2.Key × V)), vs = [V.ref d] ∧ Rd H d (.dT kvs) ∧ (∀ kv ∈ kvs, ∃ ns : List Int, kv.1 = ns.map Sum.inl ∧ ns ≠ []) ∧
  ∀ (bs : List Addr) (ys : List V) (p : Addr), IsKeys H kvs bs → ys.Perm (bs.map V.ref) → ys.Pairwise (lexP K H) → H p = none → Q (.ref p) (upd H p (.lst ys))
theorem isKeys_tup {K : PySem.W.Frag} {H : Hp} {kvs : List (List L2.Key × V)} {bs : List Addr} (h : IsKeys H kvs bs) (hk : ∀ kv ∈ kvs, ∃ ns : List Int, kv.1 = ns.map Sum.inl ∧ ns ≠ []) : ∀ x ∈ bs.map V.ref, ∃ ns, TupI K H x ns ∧ ns ≠ [] := by
  unfold IsKeys at h
  induction h with
  | nil => intro x hx; exact nomatch hx
  | @cons p b ps bs hb t ih =>
    intro x hx
    rcases List.mem_cons.mp hx with rfl | hx
    · obtain ⟨ns, e, hn⟩ := hk p List.mem_cons_self
      refine ⟨ns, ⟨b, rfl, sqT ?_⟩, hn⟩
      rw [hb, e, List.map_map]
      rfl
    · exact ih (fun kv hkv => hk kv (List.mem_cons_of_mem _ hkv)) x hx
theorem cr_sortLD (hc : X.calm = true) : CallR X (.builtin "sorted") (rSortLD X.K) := by
  intro pins s σ H vs us Q I r h
  obtain ⟨d, kvs, rfl, hd, hk, q⟩ := h
  rw [Vals.ref1 r]
  obtain ⟨z, hs, ks, pr, o, es, ep, ho, hx, hdt, he, hn⟩ := (show ObjOk X.prog X.w H s.heap d (.dT kvs) from hd.ok I.hok)
  have l1 : es.size = ks.length := size_of_entries he
  have l2 : kvs.length = ks.length := Paired.length pr
  refine Calls.call_function_entry kind_sorted plain_sorted entry_sorted (args_sorted1 _) ?_
  unfold Builtin.«sorted»
  refine wpAny_bind (m := checkCount "sorted" 1 1 _) (wpAny_pure ?_)
  refine wpAny_bind (PySem.W.kdu_collect (A := X.A.in1) (kdl_raw hs hx hdt) (I.ok.hd hc) ho (by omega) fun h' tk acc hkp it => ?_)
  have ea : acc.toList = ks.map fun x => Value.ref x.2.1 := by
    have hl : acc.toList.length = ks.length := by rw [Array.length_toList, it.1]; exact l1
    apply List.ext_getElem?
    intro j
    rw [List.getElem?_map]
    cases hj : acc.toList[j]? with
    | none =>
      have h1 := List.getElem?_eq_none_iff.mp hj
      rw [List.getElem?_eq_none (by omega)]
      all_goals rfl
    | some v =>
      obtain ⟨en, hen, hv⟩ := it.2 j v (by rw [← Array.getElem?_toList]; exact hj)
      have qe := entry_at he j
      rw [hen] at qe
      cases hb : ks[j]? with
      | none =>
        rw [hb] at qe
        exact nomatch (show some en = none from qe)
      | some b =>
        rw [hb] at qe
        have e2 : en = entryOfKey (tupleKind (mixKind X.prog X.w)) b := Option.some.inj qe
        rw [hv, e2]
        rfl
  have I1 : Inv X pins σ H { s with heap := h', toks := tk } := I.kept hkp
  have hbs : IsKeys H kvs (ks.map fun x => x.2.1) := isKeys_of pr
  have hxs := isKeys_tup (K := X.K) hbs hk
  have rv : Vals ((ks.map fun x => x.2.1).map V.ref) acc.toList := by
    rw [ea]
    have z := vals_refs (ks.map fun x => x.2.1)
    rw [List.map_map] at z
    rw [List.map_map] at z ⊢
    exact z
  obtain ⟨e1, e2, x⟩ := lex_vals I1 rv hxs
  have hal : acc.toList.length ≤ sizeLine := by rw [ea, List.length_map]; omega
  refine wpAny_bind (wpAny_newList ?_ hal)
  have hoL : (h'.push (seqObj "list" acc.toList.toArray 0)).get? h'.objs.size = some (seqObj "list" acc.toList.toArray 0) := Heap.get?_push_size _ rfl
  have keep : ∀ b o, h'.get? b = some o → o.cls = .type "tuple" → (h'.push (seqObj "list" acc.toList.toArray 0)).get? b = some o := fun b o e _ => Heap.get?_push_of_some _ e
  have ik : ∀ u ∈ acc.toList, TS.intsOf (h'.push (seqObj "list" acc.toList.toArray 0)) u = TS.intsOf h' u := fun u hu => by
    obtain ⟨ns, t, _⟩ := x u hu
    rw [(show TS.TupInts h' u ns from t).ints, (TS.TupInts.keeps (h := h') t keep).ints]
  show wpAny _ _ _ _ _ { s with heap := h'.push (seqObj "list" acc.toList.toArray 0), toks := tk }
  refine wpAny_bind (wpAny_holding (wpAny_call_entry PyProof.Rows.slot_list_sort ⟨_, hoL, rfl⟩ PyProof.Rows.entry_list_sort
    (sort_lex (s := { s with heap := h'.push (seqObj "list" acc.toList.toArray 0), toks := tk }) hoL hal (fun v hv => let ⟨ns, t, hn⟩ := x v hv; ⟨ns, TS.TupInts.keeps (h := h') t keep, hn⟩) fun out a1 a2 => ⟨_, rfl, ?_⟩) (PyProof.Rows.args_list_sort _)))
  obtain ⟨e', he'⟩ := PyProof.Rows.sortedHeap_at (vs := acc.toList) (out := out) hoL
  have h3 : ∀ u ∈ out.toList, ∃ a, u = Value.ref a := fun u hu => e2 u (a1.mem_iff.mp hu)
  have hp : (out.toList.map bkV).Perm ((ks.map fun x => x.2.1).map V.ref) := by
    rw [e1]
    exact a1.map bkV
  have hlen : (out.toList.map bkV).length ≤ sizeLine := by
    rw [hp.length_eq, List.length_map, List.length_map]
    rw [ea, List.length_map] at hal
    exact hal
  refine wpAny_pure ⟨_, rfl, .ref h'.objs.size, upd H h'.objs.size (.lst (out.toList.map bkV)), I1.laid (t' := tk) (fun b u e => ?_) (Nat.le_refl _)
    (show ObjOk X.prog X.w _ _ _ (.lst (out.toList.map bkV)) from ⟨hlen, out.toList, e', bkV_vals h3, by rw [Array.toArray_toList]; exact he'⟩), rfl, q _ _ _ hbs hp ?_ (I1.hok.fresh (Nat.le_refl _))⟩
  · have hb : b < h'.objs.size := Heap.lt_size e
    rw [PyProof.Rows.sortedHeap_old (Nat.ne_of_lt hb) (by rw [size_push']; exact Nat.lt_succ_of_lt hb)]
    exact Heap.get?_push_of_some _ e
  · refine lexP_of I1 (List.Pairwise.imp_of_mem (fun {u v} hu hv huv => ?_) a2)
    have z1 := ik u (a1.mem_iff.mp hu)
    have z2 := ik v (a1.mem_iff.mp hv)
    have huv' : lexLt (TS.intsOf (h'.push (seqObj "list" acc.toList.toArray 0)) v) (TS.intsOf (h'.push (seqObj "list" acc.toList.toArray 0)) u) = false := huv
    rw [z1, z2] at huv'
    exact huv'
end
end Lv

/-! things that change stand in the heap's second part; dicts, their walks, comprehensions of dicts -/
namespace Lv
open PySem PySem.Spec PyProof.Rows L2
variable [TabA]
theorem room65 {k : Nat} {A : Around} (r : Room k A) : A.units + 65 < cLine := by have := r.un; omega
/-- the second part given back: what the function made goes to the first -/
theorem Join.back {G P P' H : Hp} (j : Join G P' H) (e : Ex P P') : ∃ G', Join G' P H ∧ Ex G G' ∧ ∀ c o, P' c = some o → P c = none → G' c = some o := by
  have hn : ∀ c, tabI c = true → P c = none := fun c h => by
    cases q : P c with
    | none => rfl
    | some o => have := (j.off c h).2; rw [e c o q] at this; cases this
  refine ⟨grG P H, grG_join (fun c u q => j.p c u (e c u q)) j.tab hn (fun c u q => j.pp c u (e c u q)), fun c u q => grG_some.mpr ⟨?_, j.ngt q, j.g c u q⟩, fun c o q n => grG_some.mpr ⟨n, ?_, j.p c o q⟩⟩
  · cases h : P c with
    | none => rfl
    | some o =>
      have := j.ap c o (e c o h)
      rw [this] at q; cases q
  · cases h : tabI c with
    | false => rfl
    | true => rw [(j.off c h).2] at q; cases q
/-- a new thing of the first part goes to the second -/
theorem Join.toP {G0 G P H : Hp} {p : Addr} {o : HO} (j : Join G P H) (e : Ex G0 G) (n : G0 p = none) (h : G p = some o) (po : plainO o = true := by rfl) : ∃ G', Join G' (upd P p o) H ∧ Ex G0 G' ∧ ∀ c u, c ≠ p → G c = some u → G' c = some u := by
  have np : P p = none := j.gp h
  refine ⟨fun c => if c = p then none else G c, ⟨fun c u q => ?_, fun c u q => ?_, fun c u q => ?_, fun c q1 q2 q4 => ?_, j.tab, fun c q => ?_, fun c u q => by
    by_cases z : c = p
    · rw [z, upd_same] at q; rw [← Option.some.inj q]; exact po
    · rw [upd_ne z] at q; exact j.pp c u q⟩, fun c u q => ?_, fun c u nc q => ?_⟩
  · show (if c = p then none else G c) = none
    by_cases z : c = p
    · rw [if_pos z]
    · rw [if_neg z]; rw [upd_ne z] at q; exact j.ap c u q
  · have q2 : (if c = p then none else G c) = some u := q
    by_cases z : c = p
    · rw [if_pos z] at q2; cases q2
    · rw [if_neg z] at q2; exact j.g c u q2
  · by_cases z : c = p
    · rw [z, upd_same] at q; rw [z, j.g p o h]; exact q
    · rw [upd_ne z] at q; exact j.p c u q
  · have z : c ≠ p := fun z => by rw [z, upd_same] at q2; cases q2
    have q3 : (if c = p then none else G c) = none := q1
    rw [if_neg z] at q3
    rw [upd_ne z] at q2
    exact j.no c q3 q2 q4
  · have z : c ≠ p := fun z => by rw [z] at q; rw [(j.off p q).1] at h; cases h
    refine ⟨?_, by rw [upd_ne z]; exact (j.off c q).2⟩
    show (if c = p then none else G c) = none
    rw [if_neg z]; exact (j.off c q).1
  · show (if c = p then none else G c) = some u
    have z : c ≠ p := fun z => by rw [z, n] at q; cases q
    rw [if_neg z]; exact e c u q
  · show (if c = p then none else G c) = some u
    rw [if_neg nc]; exact q
theorem Join.gn {G P H : Hp} (j : Join G P H) {b : Addr} {o : HO} (h : P b = some o) : G b = none := j.ap b o h
theorem Ex.rdP {H H' : Hp} {a : Addr} {u : HO} (e : Ex H H') (h : Rd H a u) : Rd H' a u := Ex.rd e h
section
variable {K : PySem.W.Frag} {σ : L2.St} {G P H : Hp} {Q : VK} {nx bk ct : L2.St → Hp → Prop} {rt : VK} {D : Ends} {tt : TT} {td ty tx te tk tv : TE} {g : TG} {tb : TS} {as : TA} {d : Addr} {ts : List Nat} {j : Nat}
theorem aTup.goP {xs : List V} (J : Join G P H) (l : xs.length ≤ 100000) (q : ∀ p P' H', H p = none → Ex P P' → Join G P' H' → P' p = some (.tup xs) → Q (.ref p) H') : aTup xs H Q :=
  ⟨szle l, fun p hp => q p _ _ hp (Ex.new (J.np hp)) (J.setPn hp) upd_same⟩
theorem aLst.goP {xs : List V} (J : Join G P H) (l : xs.length ≤ 100000) (q : ∀ p P' H', H p = none → Ex P P' → Join G P' H' → P' p = some (.lst xs) → Q (.ref p) H') : aLst xs H Q :=
  ⟨szle l, fun p hp => q p _ _ hp (Ex.new (J.np hp)) (J.setPn hp) upd_same⟩
theorem aDNew.goP (J : Join G P H) (q : ∀ p P' H', H p = none → Ex P P' → Join G P' H' → P' p = some (.dK []) → Q (.ref p) H') : aDNew H Q := fun p hp => q p _ _ hp (Ex.new (J.np hp)) (J.setPn hp) upd_same
def aDNewT : Hp → VK → Prop := fun H Q => ∀ p, H p = none → Q (.ref p) (upd H p (.dT []))
theorem w_dnewT (h : aDNewT H Q) : tDNewT σ H Q := h
theorem aDNewT.goP (J : Join G P H) (q : ∀ p P' H', H p = none → Ex P P' → Join G P' H' → P' p = some (.dT []) → Q (.ref p) H') : aDNewT H Q := fun p hp => q p _ _ hp (Ex.new (J.np hp)) (J.setPn hp) upd_same
/-- {k: v} -/
theorem aDisp1.goP {k : L2.Key} {v : V} (J : Join G P H) (hk : ∀ H' S, S (kV k) H' → tk σ H' S) (hv : ∀ H' S, S v H' → tv σ H' S) (q : ∀ p P' H', H p = none → Ex P P' → Join G P' H' → P' p = some (.dK [(k, v)]) → Q (.ref p) H') : tDisp [(tk, tv)] σ H Q := by
  intro p hp
  refine hk _ _ (hv _ _ ⟨upd_same, [(k, v)], rfl, Nat.le_of_ble_eq_true rfl, ?_⟩)
  have e : upd (upd H p (.dK [])) p (.dK (mergeK [] [(k, v)])) = upd H p (.dK [(k, v)]) := by
    funext c
    by_cases z : c = p
    · rw [z, upd_same, upd_same]; rfl
    · rw [upd_ne z, upd_ne z, upd_ne z]
  rw [e]
  exact q p _ _ hp (Ex.new (J.np hp)) (J.setPn hp) upd_same
/-- lists that change -/
theorem appendP {l : Addr} {xs : List V} {y : V} (J : Join G P H) (e : P l = some (.lst xs)) (z : xs.length < 100000) (q : ∀ H', Join G (upd P l (.lst (xs ++ [y]))) H' → Q .non H') : rAppend (.ref l) [y] H Q :=
  w_append (J.p _ _ e) z (q _ (J.setPo e))
theorem popP {l : Addr} {xs : List V} {y : V} (J : Join G P H) (e : P l = some (.lst (xs ++ [y]))) (q : ∀ H', Join G (upd P l (.lst xs)) H' → Q y H') : rPop (.ref l) [] H Q := by
  refine ⟨l, xs ++ [y], y, rfl, rfl, J.p _ _ e, ?_, ?_⟩
  · rw [List.length_append, List.length_singleton, Nat.add_sub_cancel, List.getElem?_append_right (Nat.le_refl _), Nat.sub_self]; rfl
  · rw [List.dropLast_concat]
    exact q _ (J.setPo e)
/-! dicts -/
theorem din_rd {neg : Bool} {ns : List Int} {k : Int} (h : Rd H d (.dK (keyP ns))) (q : Q (.bl (if neg then !decide (k ∈ ns) else decide (k ∈ ns))) H) : rDIn neg (.int k) (.ref d) H Q :=
  ⟨d, _, rfl, .inl ⟨keyP ns, .inl k, h, rfl, rfl⟩, by rw [keyP_val]; exact q⟩
theorem dnot_rd {ns : List Int} {k : Int} (h : Rd H d (.dK (keyP ns))) (q : Q (.bl (!decide (k ∈ ns))) H) : rDIn true (.int k) (.ref d) H Q := din_rd h (by rw [if_pos rfl]; exact q)
theorem dyes_rd {ns : List Int} {k : Int} (h : Rd H d (.dK (keyP ns))) (q : Q (.bl (decide (k ∈ ns))) H) : rDIn false (.int k) (.ref d) H Q := din_rd h (by rw [if_neg (by decide)]; exact q)
theorem din_kv {neg : Bool} {kvs : List (L2.Key × V)} {k : L2.Key} {v : V} (hv : v = kV k) (h : Rd H d (.dK kvs)) (q : Q (.bl (if neg then !(valV kvs k).isSome else (valV kvs k).isSome)) H) : rDIn neg v (.ref d) H Q :=
  ⟨d, _, rfl, .inl ⟨kvs, k, h, hv, rfl⟩, q⟩
theorem din_t {neg : Bool} {kvs : List (List L2.Key × V)} {b : Addr} {ks : List Int} (h : Rd H d (.dT kvs)) (hb : H b = some (.tup (ks.map V.int))) (q : Q (.bl (if neg then !(valV kvs (ks.map Sum.inl)).isSome else (valV kvs (ks.map Sum.inl)).isSome)) H) : rDIn neg (.ref b) (.ref d) H Q :=
  ⟨d, _, rfl, .inr ⟨kvs, ks.map Sum.inl, b, h, rfl, by rw [hb, List.map_map]; rfl, rfl⟩, q⟩
/-- d[k] -/
def aDGet : V → V → Hp → VK → Prop := fun x y H Q => ∃ a v, x = .ref a ∧ DGet H a y (some v) ∧ Q v H
theorem w_dgetI (h : td σ H fun x H1 => ty σ H1 fun y H2 => aDGet x y H2 Q) : tDGet td ty σ H Q := h
theorem dget_kv {kvs : List (L2.Key × V)} {k : L2.Key} {v y : V} (hy : y = kV k) (h : Rd H d (.dK kvs)) (hv : valV kvs k = some v) (q : Q v H) : aDGet (.ref d) y H Q := ⟨d, v, rfl, .inl ⟨kvs, k, h, hy, hv.symm⟩, q⟩
theorem dget_t {kvs : List (List L2.Key × V)} {b : Addr} {ks : List Int} {v : V} (h : Rd H d (.dT kvs)) (hb : H b = some (.tup (ks.map V.int))) (hv : valV kvs (ks.map Sum.inl) = some v) (q : Q v H) : aDGet (.ref d) (.ref b) H Q :=
  ⟨d, v, rfl, .inr ⟨kvs, ks.map Sum.inl, b, h, rfl, by rw [hb, List.map_map]; rfl, hv.symm⟩, q⟩
theorem dputP {kvs : List (L2.Key × V)} {k : L2.Key} {v y : V} (J : Join G P H) (hy : y = kV k) (h : P d = some (.dK kvs)) (hl : kvs.length < 100000) (q : ∀ H', Join G (upd P d (.dK (putK kvs k v))) H' → nx σ H') : aDPut v y nx σ (.ref d) H := by
  subst hy
  exact ⟨d, _, rfl, DPut.k (J.p _ _ h) (szlt hl), q _ (J.setPo h)⟩
theorem dputTP {kvs : List (List L2.Key × V)} {b : Addr} {ks : List Int} {v : V} (J : Join G P H) (hb : H b = some (.tup (ks.map V.int))) (h : P d = some (.dT kvs)) (hl : kvs.length < 100000) (q : ∀ H', Join G (upd P d (.dT (putK kvs (ks.map Sum.inl) v))) H' → nx σ H') : aDPut v (.ref b) nx σ (.ref d) H :=
  ⟨d, _, rfl, DPut.t (k := ks.map Sum.inl) (J.p _ _ h) (by rw [hb, List.map_map]; rfl) (szlt hl), q _ (J.setPo h)⟩
theorem lenP {kvs : List (L2.Key × V)} (h : H d = some (.dK kvs)) (q : Q (.int kvs.length) H) : rLenD [.ref d] H Q := ⟨d, kvs, rfl, h, q⟩
/-- for k in d: d stands in the second part, locked -/
theorem forKP.go {kvs : List (L2.Key × V)} (J : Join G P H) (h : P d = some (.dK kvs)) (htd : ∀ (H' : Hp) (Q : VK), Q (.ref d) H' → td σ H' Q) (I : Nat → Hp → Hp → L2.St → Prop) (h0 : ∀ od, I 0 G (upd P d (.frz od (.dK kvs))) σ)
    (hs : ∀ (od : Obj) (rt' : VK) (bk' : L2.St → Hp → Prop) (i : Nat) (k : L2.Key) (v : V) (G' P' H' : Hp) (σ' : L2.St), kvs[i]? = some (k, v) → P' d = some (.frz od (.dK kvs)) → Join G' P' H' → I i G' P' σ' →
      g (kV k) σ' H' fun σ2 H2 => tb ⟨fun σ3 H3 => ∃ G3 P3, Join G3 P3 H3 ∧ P3 d = some (.frz od (.dK kvs)) ∧ I (i + 1) G3 P3 σ3, rt', bk', fun σ3 H3 => ∃ G3 P3, Join G3 P3 H3 ∧ P3 d = some (.frz od (.dK kvs)) ∧ I (i + 1) G3 P3 σ3⟩ σ2 H2)
    (hq : ∀ (od : Obj) (G' P' H' : Hp) (σ' : L2.St), P' d = some (.frz od (.dK kvs)) → I kvs.length G' P' σ' → Join G' (upd P' d (.dK kvs)) H' → nx σ' H') : tLock (tFor (iKeys td) g tb) ⟨nx, rt, bk, ct⟩ σ H := by
  refine ⟨d, .dK kvs, J.p _ _ h, trivial, fun od => htd _ _ ⟨d, od, rfl, .inl ⟨kvs, upd_same, ?_⟩⟩⟩
  refine for_keys (fun i σ' H' => ∃ G3 P3, Join G3 P3 H' ∧ P3 d = some (.frz od (.dK kvs)) ∧ I i G3 P3 σ') ⟨G, _, J.setPo h, upd_same, h0 od⟩ (fun i σ' H' _ ⟨G', P', j', hd, _⟩ => j'.p _ _ hd) (fun i k v σ' H' hk ⟨G', P', j', hd, hI⟩ => hs od _ _ i k v G' P' H' σ' hk hd j' hI) (fun σ' H' ⟨G', P', j', hd, hI⟩ => ⟨j'.p _ _ hd, hq od G' P' _ σ' hd hI (j'.setPo hd)⟩)
/-- [.. for k in d ..]: d stands in the second part, locked -/
theorem lcKP.go {kvs : List (L2.Key × V)} (I : Nat → List V → Hp → Prop) (J : Join G P H) (h : P d = some (.dK kvs)) (htd : ∀ (H' : Hp) (Q : VK), Q (.ref d) H' → td σ H' Q) (hl : kvs.length ≤ 1000000)
    (h0 : I 0 [] G) (hm : ∀ i us G1 G2, Ex G1 G2 → I i us G1 → I i us G2) (hz : ∀ i us G2, I i us G2 → us.length ≤ i)
    (hs : ∀ (od : Obj) (i : Nat) (k : L2.Key) (v : V) (us : List V) (G' P' H' : Hp) (R : VK) (R0 : Hp → Prop), kvs[i]? = some (k, v) → Ex G G' → (∀ c o, c ≠ d → P c = some o → P' c = some o) → P' d = some (.frz od (.dK kvs)) → Join G' P' H' → I i us G' →
      (∀ y G2 H2, Ex G' G2 → Join G2 P' H2 → I (i + 1) (us ++ [y]) G2 → R y H2) → (∀ G2 H2, Ex G' G2 → Join G2 P' H2 → I (i + 1) us G2 → R0 H2) →
      g (kV k) (wipe σ ts) H' fun σ2 H2 => wipe σ2 ts = wipe σ ts ∧ tt σ2 H2 fun b H3 => if b = true then te σ2 H3 R else R0 H3)
    (hq : ∀ p us G' H', H p = none → Ex G G' → Join G' P H' → G' p = some (.lst us) → I kvs.length us G' → Q (.ref p) H') : tLockE (tLc (iKeys td) g tt te ts) σ H Q := by
  refine ⟨d, .dK kvs, J.p _ _ h, trivial, fun od => htd _ _ ⟨d, od, rfl, .inl ⟨kvs, upd_same, fun L hL => ?_⟩⟩⟩
  have nL : L ≠ d := fun e => by rw [e, upd_same] at hL; cases hL
  have hL0 : H L = none := by rw [upd_ne nL] at hL; exact hL
  have gL : G L = none := J.ng hL0
  have pL : P L = none := J.np hL0
  have j1 : Join G (upd P d (.frz od (.dK kvs))) (upd H d (.frz od (.dK kvs))) := J.setPo h
  refine lc_keys (fun i H' => ∃ G' P' us, Ex G G' ∧ (∀ c o, c ≠ d → P c = some o → P' c = some o) ∧ P' d = some (.frz od (.dK kvs)) ∧ P' L = some (.lst us) ∧ I i us G' ∧ Join G' P' H') ⟨G, upd (upd P d (.frz od (.dK kvs))) L (.lst []), [], Ex.refl _, fun c o nc hc => ?_, Eq.trans (upd_ne (Ne.symm nL)) upd_same, upd_same, h0, j1.setP gL⟩ (fun i H' _ ⟨G', P', us, _, _, hd, _, _, j'⟩ => j'.p _ _ hd) (fun i k x H' hk ⟨G', P', us, e', hP, hd, hLs, hI, j'⟩ => ?_) (fun H' ⟨G', P', us, e', hP, hd, hLs, hI, j'⟩ => ?_)
  · rw [upd_ne (ne_of_none hc pL), upd_ne nc]; exact hc
  · have hul := hz _ _ _ hI
    have hil := (List.getElem?_eq_some_iff.mp hk).1
    refine hs od i k x us G' P' H' _ _ hk e' hP hd j' hI (fun y G2 H2 e2 j2 hI2 => ⟨us, j2.p _ _ hLs, Nat.lt_of_le_of_lt (show us.length ≤ 1000000 by omega) (by decide), G2, upd P' L (.lst (us ++ [y])), us ++ [y], e'.trans e2, fun c o nc hc => ?_, Eq.trans (upd_ne (Ne.symm nL)) hd, upd_same, hI2, j2.setPo hLs⟩) (fun G2 H2 e2 j2 hI2 => ⟨G2, P', us, e'.trans e2, hP, hd, hLs, hI2, j2⟩)
    rw [upd_ne (ne_of_none hc pL)]; exact hP c o nc hc
  · have j3 : Join G' (upd P' d (.dK kvs)) (upd H' d (.dK kvs)) := j'.setPo hd
    obtain ⟨G2, j4, e4, k4⟩ := j3.back (P := P) fun c o hc => by
      by_cases z : c = d
      · subst z; rw [upd_same, ← h]; exact hc
      · rw [upd_ne z]; exact hP c o z hc
    exact ⟨j'.p _ _ hd, hq L us G2 _ hL0 (e'.trans e4) j4 (k4 L _ (Eq.trans (upd_ne nL) hLs) pL) (hm _ _ _ _ e4 hI)⟩
/-- {n: .. for n in range(m)} -/
def aDcR (g : TG) (tt : TT) (tk tv : TE) (vs : List Nat) (σ : L2.St) : List V → Hp → VK → Prop := fun xs H Q => tDc (fun _ H R => ∃ j : Int, xs = [.int j] ∧ -(2 ^ 62) ≤ j ∧ j < 2 ^ 62 ∧ R (Itr 0 j.toNat) H) g tt tk tv vs σ H Q
theorem w_dcR (h : as σ H fun xs H1 => aDcR g tt tk tv ts σ xs H1 Q) : tDc (iRng1 as) g tt tk tv ts σ H Q := h
theorem putK_keyv {κ : Type} [DecidableEq κ] {kvs : List (κ × V)} {k : κ} {v : V} (h : ∀ x ∈ kvs, x.1 ≠ k) : putK kvs k v = kvs ++ [(k, v)] := by
  refine putK_new v ?_
  cases e : valV kvs k with
  | none => rfl
  | some y =>
    unfold valV at e
    cases e2 : kvs.find? fun kv => decide (kv.1 = k) with
    | none => rw [e2] at e; cases e
    | some z =>
      have h1 := List.find?_some e2
      exact absurd (of_decide_eq_true h1) (h z (List.mem_of_find?_eq_some e2))
theorem dc_range {lo : Int} {n : Nat} {vs : List Nat} {H1 : Hp} {D : Addr} {Qd : Hp → Prop} (Pv : Nat → Hp → Prop) (h0 : Pv 0 (upd H1 D (.dK [])))
    (hs : ∀ i H, i < n → Pv i H → g (.int (lo + (i : Int))) (wipe σ vs) H fun σ2 H2 => wipe σ2 vs = wipe σ vs ∧ tt σ2 H2 fun b H3 =>
      if b = true then tk σ2 H3 fun y H4 => tv σ2 H4 fun z H5 => ∃ kvs k, y = kV k ∧ H5 D = some (.dK kvs) ∧ kvs.length < sizeLine ∧ Pv (i + 1) (upd H5 D (.dK (putK kvs k z))) else Pv (i + 1) H3) (hd : ∀ H, Pv n H → Qd H) :
    ∃ W : Nat → Nat → Hp → Prop, (∃ m, W 0 m (upd H1 D (.dK []))) ∧ ∀ i m H, W i m H →
      ((Itr lo n).stop i H ∧ Qd H) ∨ ((Itr lo n).go i H ∧ ∃ Nx : Hp → Prop, (∀ H', Nx H' → ∃ m', m' < m ∧ W (i + 1) m' H') ∧ ∀ x H', (Itr lo n).yld i H x H' → g x (wipe σ vs) H' fun σ2 H2 => wipe σ2 vs = wipe σ vs ∧ tt σ2 H2 fun b H3 =>
        if b = true then tk σ2 H3 fun y H4 => tv σ2 H4 fun z H5 => ∃ kvs k, y = kV k ∧ H5 D = some (.dK kvs) ∧ kvs.length < sizeLine ∧ Nx (upd H5 D (.dK (putK kvs k z))) else Nx H3) := by
  refine ⟨fun i m H => m = n - i ∧ i ≤ n ∧ Pv i H, ⟨n, by simp, Nat.zero_le _, h0⟩, ?_⟩
  rintro i m H ⟨rfl, hi, p⟩
  by_cases hlt : i < n
  · refine .inr ⟨hlt, Pv (i + 1), fun H' p' => ⟨n - (i + 1), by omega, rfl, hlt, p'⟩, fun x H' y => ?_⟩
    obtain ⟨e, y⟩ := y
    subst e y
    exact hs i _ hlt p
  · have e : i = n := by omega
    subst e
    exact .inl ⟨Nat.le_refl _, hd H p⟩
theorem aDcR.go {n : Nat} {m : Int} (J : Join G P H) (hn : m = n) (hl : n ≤ 100000) (hw : ∀ x, wipe ((wipe σ ts).set j (some x)) ts = wipe σ ts)
    (hk : ∀ (n : Int) (H' : Hp) (S : VK), S (.int n) H' → tk ((wipe σ ts).set j (some (.int n))) H' S) (hv : ∀ (x : V) (H' : Hp) (S : VK), S (.bl true) H' → tv ((wipe σ ts).set j (some x)) H' S)
    (hq : ∀ p P' H', H p = none → Ex P P' → Join G P' H' → P' p = some (.dK (keyP (rgI 0 n))) → Q (.ref p) H') : aDcR (gName j) tYes tk tv ts σ [.int m] H Q := by
  subst hn
  refine ⟨(n : Int), rfl, by omega, by omega, fun D hD => ?_⟩
  have pD : P D = none := J.np hD
  have gD : G D = none := J.ng hD
  refine dc_range (n := (n : Int).toNat) (fun i H' => ∃ P', Ex P P' ∧ Join G P' H' ∧ P' D = some (.dK (keyP (rgI 0 i)))) ⟨_, Ex.new pD, J.setP gD, upd_same⟩ (fun i H' hi ⟨P', e, j', hd⟩ => ?_) (fun H' ⟨P', e, j', hd⟩ => ?_)
  · rw [Int.toNat_natCast] at hi
    refine ⟨hw _, iteT (B := True) (hk _ H' _ (hv _ H' _ ⟨keyP (rgI 0 i), .inl _, rfl, j'.p _ _ hd, ?_, _, ?_, j'.setPo hd, ?_⟩))⟩
    · refine szlt ?_
      unfold keyP
      rw [List.length_map, rgI_len]; omega
    · exact e.mut pD
    · rw [upd_same, keyP_put]
      · congr 3
        unfold rgI
        rw [List.range_succ, List.map_append]; rfl
      · intro hm
        have := rgI_mem.mp hm
        omega
  · rw [Int.toNat_natCast] at hd
    exact hq D P' H' hD e j' hd
/-- {n: .. for n in d}: d stands in the second part, locked; the new dict, too -/
theorem dc_keys {o : Obj} {kvs0 : List (L2.Key × V)} {vs : List Nat} {H1 : Hp} {D : Addr} {Qd : Hp → Prop} (Pv : Nat → Hp → Prop) (h0 : Pv 0 (upd H1 D (.dK []))) (hl : ∀ i H, i ≤ kvs0.length → Pv i H → H d = some (.frz o (.dK kvs0)))
    (hs : ∀ (i : Nat) (k0 : L2.Key) (v0 : V) H, kvs0[i]? = some (k0, v0) → Pv i H → g (kV k0) (wipe σ vs) H fun σ2 H2 => wipe σ2 vs = wipe σ vs ∧ tt σ2 H2 fun b H3 =>
      if b = true then tk σ2 H3 fun y H4 => tv σ2 H4 fun z H5 => ∃ kvs k, y = kV k ∧ H5 D = some (.dK kvs) ∧ kvs.length < sizeLine ∧ Pv (i + 1) (upd H5 D (.dK (putK kvs k z))) else Pv (i + 1) H3) (hd : ∀ H, Pv kvs0.length H → Qd H) :
    ∃ W : Nat → Nat → Hp → Prop, (∃ m, W 0 m (upd H1 D (.dK []))) ∧ ∀ i m H, W i m H →
      ((Itk d o kvs0).stop i H ∧ Qd H) ∨ ((Itk d o kvs0).go i H ∧ ∃ Nx : Hp → Prop, (∀ H', Nx H' → ∃ m', m' < m ∧ W (i + 1) m' H') ∧ ∀ x H', (Itk d o kvs0).yld i H x H' → g x (wipe σ vs) H' fun σ2 H2 => wipe σ2 vs = wipe σ vs ∧ tt σ2 H2 fun b H3 =>
        if b = true then tk σ2 H3 fun y H4 => tv σ2 H4 fun z H5 => ∃ kvs k, y = kV k ∧ H5 D = some (.dK kvs) ∧ kvs.length < sizeLine ∧ Nx (upd H5 D (.dK (putK kvs k z))) else Nx H3) := by
  refine ⟨fun i m H => m = kvs0.length - i ∧ i ≤ kvs0.length ∧ Pv i H, ⟨kvs0.length, by simp, Nat.zero_le _, h0⟩, ?_⟩
  rintro i m H ⟨rfl, hi, p⟩
  have q := hl i H hi p
  by_cases c : i < kvs0.length
  · refine .inr ⟨⟨q, c⟩, Pv (i + 1), fun H' p' => ⟨kvs0.length - (i + 1), by omega, rfl, c, p'⟩, fun x H' y => ?_⟩
    obtain ⟨e, k, v, hk, rfl⟩ := y
    subst e
    exact hs i k v _ hk p
  · have e : i = kvs0.length := by omega
    subst e
    exact .inl ⟨⟨q, Nat.le_refl _⟩, hd H p⟩
def kvZ (ns : List Int) (vs : List V) : List (L2.Key × V) := (ns.zip vs).map fun z => (Sum.inl z.1, z.2)
theorem zip_more {α β : Type} : ∀ {ns : List α} {vs : List β} {n : α} {v : β}, ns[vs.length]? = some n → ns.zip (vs ++ [v]) = ns.zip vs ++ [(n, v)]
  | [], vs, _, _, h => by simp at h
  | a :: ns, [], n, v, h => by
    have e : a = n := by simpa using h
    subst e; simp
  | a :: ns, b :: vs, n, v, h => by
    have h2 : ns[vs.length]? = some n := by simpa using h
    have ih := zip_more (v := v) h2
    rw [List.cons_append, List.zip_cons_cons, ih, List.zip_cons_cons]; rfl
theorem kvZ_ne {ns : List Int} {vs : List V} {n : Int} (hn : ns.Nodup) (h : ns[vs.length]? = some n) : ∀ x ∈ kvZ ns vs, x.1 ≠ (Sum.inl n : L2.Key) := fun x hx e => by
  unfold kvZ at hx
  obtain ⟨z, hz, rfl⟩ := List.mem_map.mp hx
  injection e with e
  obtain ⟨a, ha⟩ := List.getElem?_of_mem hz
  obtain ⟨h1, h2⟩ := List.getElem?_zip_eq_some.mp ha
  have hlt := (List.getElem?_eq_some_iff.mp h2).1
  obtain ⟨b1, b2⟩ := List.getElem?_eq_some_iff.mp h1
  obtain ⟨b3, b4⟩ := List.getElem?_eq_some_iff.mp h
  have := (List.getElem_inj hn).mp (b2.trans (e.trans b4.symm))
  omega
theorem valV_kvZ : ∀ {ns : List Int} {vs : List V} {i : Nat} {n : Int} {v : V}, ns.Nodup → ns[i]? = some n → vs[i]? = some v → valV (kvZ ns vs) (.inl n) = some v
  | [], _, _, _, _, _, h, _ => by simp at h
  | _ :: _, [], _, _, _, _, _, h => by simp at h
  | a :: ns, b :: vs, 0, n, v, _, h1, h2 => by
    have e1 : a = n := by simpa using h1
    have e2 : b = v := by simpa using h2
    subst e1 e2
    exact valV_pos (p := ((Sum.inl a : L2.Key), b)) (r := kvZ ns vs) rfl
  | a :: ns, b :: vs, i + 1, n, v, hn, h1, h2 => by
    have h1' : ns[i]? = some n := by simpa using h1
    have h2' : vs[i]? = some v := by simpa using h2
    have ne : a ≠ n := fun e => by
      subst e
      exact (List.nodup_cons.mp hn).1 (List.mem_of_getElem? h1')
    rw [show kvZ (a :: ns) (b :: vs) = ((Sum.inl a : L2.Key), b) :: kvZ ns vs from rfl, valV_neg (fun e => ne (Sum.inl.inj e))]
    exact valV_kvZ (List.nodup_cons.mp hn).2 h1' h2'
theorem dcKP.go {ns : List Int} (Pv : Int → V → Hp → Prop) (J : Join G P H) (h : P d = some (.dK (keyP ns))) (htd : ∀ (H' : Hp) (Q : VK), Q (.ref d) H' → td σ H' Q) (hn : ns.Nodup) (hl : ns.length ≤ 100000)
    (hm : ∀ n v G1 G2, Ex G1 G2 → Pv n v G1 → Pv n v G2) (hw : ∀ x, wipe ((wipe σ ts).set j (some x)) ts = wipe σ ts) (hk : ∀ (n : Int) (H' : Hp) (S : VK), S (.int n) H' → tk ((wipe σ ts).set j (some (.int n))) H' S)
    (hv : ∀ (od : Obj) (n : Int) (G' P' H' : Hp) (S : VK), n ∈ ns → Ex G G' → (∀ c o, c ≠ d → P c = some o → P' c = some o) → P' d = some (.frz od (.dK (keyP ns))) → Join G' P' H' → (∀ v G2 H2, Ex G' G2 → Join G2 P' H2 → Pv n v G2 → S v H2) → tv ((wipe σ ts).set j (some (.int n))) H' S)
    (hq : ∀ p vs G' H', H p = none → vs.length = ns.length → (∀ (i : Nat) n v, ns[i]? = some n → vs[i]? = some v → Pv n v G') → Ex G G' → Join G' (upd P p (.dK (kvZ ns vs))) H' → Q (.ref p) H') : tLockE (tDc (iKeys td) (gName j) tYes tk tv ts) σ H Q := by
  refine ⟨d, .dK (keyP ns), J.p _ _ h, trivial, fun od => htd _ _ ⟨d, od, rfl, .inl ⟨keyP ns, upd_same, fun L hL => ?_⟩⟩⟩
  have nL : L ≠ d := fun e => by rw [e, upd_same] at hL; cases hL
  have hL0 : H L = none := by rw [upd_ne nL] at hL; exact hL
  have gL : G L = none := J.ng hL0
  have pL : P L = none := J.np hL0
  have j1 : Join G (upd P d (.frz od (.dK (keyP ns)))) (upd H d (.frz od (.dK (keyP ns)))) := J.setPo h
  have lk : (keyP ns).length = ns.length := by unfold keyP; rw [List.length_map]
  have dP : ∀ o : HO, upd (upd P d (.frz od (.dK (keyP ns)))) L o d = some (.frz od (.dK (keyP ns))) := fun o => Eq.trans (upd_ne (Ne.symm nL)) upd_same
  have again : ∀ o u : HO, upd (upd (upd P d (.frz od (.dK (keyP ns)))) L o) L u = upd (upd P d (.frz od (.dK (keyP ns)))) L u := fun o u => by
    funext c
    by_cases z : c = L
    · rw [z, upd_same, upd_same]
    · rw [upd_ne z, upd_ne z, upd_ne z]
  refine dc_keys (fun i H' => ∃ G' vs, Ex G G' ∧ vs.length = i ∧ (∀ (i : Nat) n v, ns[i]? = some n → vs[i]? = some v → Pv n v G') ∧ Join G' (upd (upd P d (.frz od (.dK (keyP ns)))) L (.dK (kvZ ns vs))) H')
    ⟨G, [], Ex.refl _, rfl, fun i n v _ h2 => by simp at h2, ?_⟩ (fun i H' _ ⟨G', vs, _, _, _, j'⟩ => j'.p _ _ (dP _)) (fun i k x H' hk0 ⟨G', vs, e', hvl, hI, j'⟩ => ?_) (fun H' ⟨G', vs, e', hvl, hI, j'⟩ => ?_)
  · have e : kvZ ns [] = [] := by unfold kvZ; simp
    rw [e]; exact j1.setP gL
  · obtain ⟨n, hni, rfl⟩ := keyP_at hk0
    have hil := (List.getElem?_eq_some_iff.mp hni).1
    refine ⟨hw _, iteT (B := True) (hk n H' _ (hv od n G' _ H' _ (List.mem_of_getElem? hni) e' (fun c o nc hc => by rw [upd_ne (ne_of_none hc pL), upd_ne nc]; exact hc) (dP _) j' fun v G2 H2 e2 j2 hp => ⟨kvZ ns vs, .inl n, rfl, j2.p _ _ upd_same, ?_, G2, vs ++ [v], e'.trans e2, by rw [List.length_append, hvl]; rfl, fun a m u h1 h2 => ?_, ?_⟩))⟩
    · refine szlt ?_
      unfold kvZ
      rw [List.length_map, List.length_zip]; omega
    · by_cases c : a < vs.length
      · rw [List.getElem?_append_left c] at h2
        exact hm _ _ _ _ e2 (hI a m u h1 h2)
      · rw [List.getElem?_append_right (by omega)] at h2
        have e0 : a - vs.length = 0 := by
          cases e : a - vs.length with
          | zero => rfl
          | succ z => rw [e] at h2; simp at h2
        rw [e0] at h2
        have ea : a = i := by omega
        subst ea
        rw [hni] at h1
        cases h1
        cases h2
        exact hp
    · have e : putK (kvZ ns vs) (.inl n) v = kvZ ns (vs ++ [v]) := by
        rw [putK_keyv (kvZ_ne hn (by rw [hvl]; exact hni))]
        unfold kvZ
        rw [zip_more (by rw [hvl]; exact hni), List.map_append]; rfl
      rw [e, ← again (.dK (kvZ ns vs))]
      exact j2.setPo upd_same
  · have j3 := j'.setPo (o := .dK (keyP ns)) (dP _)
    refine ⟨j'.p _ _ (dP _), hq L vs G' _ hL0 (by rw [hvl, lk]) hI e' ?_⟩
    have e : upd (upd (upd P d (.frz od (.dK (keyP ns)))) L (.dK (kvZ ns vs))) d (.dK (keyP ns)) = upd P L (.dK (kvZ ns vs)) := by
      funext c
      by_cases z : c = L
      · rw [z, upd_ne nL, upd_same, upd_same]
      · by_cases z2 : c = d
        · rw [z2, upd_same, upd_ne (Ne.symm nL), h]
        · rw [upd_ne z2, upd_ne z, upd_ne z2, upd_ne z]
    rw [e] at j3
    exact j3
/-- sorted(d) of a dict with int keys -/
def rSortDI : List V → Hp → VK → Prop := fun xs H Q => ∃ (a : Addr) (kvs : List (L2.Key × V)) (ks : List Int), xs = [.ref a] ∧ Rd H a (.dK kvs) ∧ kvs.map (·.1) = ks.map Sum.inl ∧ ks.length < 64 ∧
    ∀ (ys : List Int) (p : Addr), ys.Perm ks → ys.Pairwise (· ≤ ·) → H p = none → Q (.ref p) (upd H p (.lst (ys.map V.int)))
theorem cr_sortDI {X : Cx} (hc : X.calm = true) : CallR X (.builtin "sorted") rSortDI := call_sortedDI hc
theorem keyP_keys (ns : List Int) : (keyP ns).map (·.1) = ns.map Sum.inl := by unfold keyP; rw [List.map_map]; rfl
theorem kvZ_keys {ns : List Int} {vs : List V} (h : vs.length = ns.length) : (kvZ ns vs).map (·.1) = ns.map Sum.inl := by
  unfold kvZ
  rw [List.map_map]
  have e : ((fun x : L2.Key × V => x.1) ∘ fun z : Int × V => ((Sum.inl z.1 : L2.Key), z.2)) = (fun n : Int => (Sum.inl n : L2.Key)) ∘ Prod.fst := rfl
  rw [e, ← List.map_map, List.map_fst_zip (by omega)]
theorem sortDI_go {kvs : List (L2.Key × V)} {ns : List Int} (J : Join G P H) (h : Rd H d (.dK kvs)) (hk : kvs.map (·.1) = ns.map Sum.inl) (hl : ns.length < 64) (q : ∀ (ns' : List Int) p G' H', ns'.Perm ns → ns'.Pairwise (· ≤ ·) → H p = none → Ex G G' → Join G' P H' → G' p = some (.lst (ns'.map V.int)) → Q (.ref p) H') : rSortDI [.ref d] H Q :=
  ⟨d, kvs, ns, rfl, h, hk, hl, fun ys p h1 h2 hp => q ys p _ _ h1 h2 hp (Ex.new (J.ng hp)) (J.newG hp) upd_same⟩
/-- no tuple stands in the second part -/
def NT (P : Hp) : Prop := ∀ b xs, P b ≠ some (.tup xs)
theorem NT.gt {b : Addr} {xs : List V} (n : NT P) (J : Join G P H) (h : H b = some (.tup xs)) : G b = some (.tup xs) := by
  cases e : G b with
  | some o => rw [J.g b o e] at h; exact h
  | none =>
    cases e2 : P b with
    | none => rw [J.no b e e2 (J.nt h rfl)] at h; cases h
    | some o => rw [J.p b o e2] at h; cases h; exact absurd e2 (n b xs)
theorem NT.upd {b : Addr} {o : HO} (n : NT P) (h : ∀ xs, o ≠ .tup xs) : NT (upd P b o) := fun c xs e => by
  by_cases z : c = b
  · rw [z, upd_same] at e; exact h xs (Option.some.inj e)
  · rw [upd_ne z] at e; exact n c xs e
theorem tupL_zip {α : Type} {f : α → List V} {G : Hp} {zs : List (V × α)} (h : ∀ z ∈ zs, ∃ t : Addr, z.1 = .ref t ∧ G t = some (.tup (f z.2))) : TupL f G (zs.map (·.1)) (zs.map (·.2)) := by
  refine ⟨by simp, fun i a ha => ?_⟩
  rw [List.getElem?_map] at ha
  cases e : zs[i]? with
  | none => rw [e] at ha; cases ha
  | some z =>
    rw [e] at ha
    have ea : z.2 = a := Option.some.inj ha
    subst ea
    obtain ⟨t, h1, h2⟩ := h z (List.mem_of_getElem? e)
    exact ⟨t, by rw [List.getElem?_map, e, ← h1]; rfl, h2⟩
theorem tupL_mem {α : Type} {f : α → List V} {G : Hp} {xs : List V} {as : List α} (h : TupL f G xs as) : ∀ z ∈ xs.zip as, ∃ t : Addr, z.1 = .ref t ∧ G t = some (.tup (f z.2)) := fun z hz => by
  obtain ⟨i, hi⟩ := List.getElem?_of_mem hz
  obtain ⟨h1, h2⟩ := List.getElem?_zip_eq_some.mp hi
  obtain ⟨t, h3, h4⟩ := h.2 i z.2 h2
  rw [h1] at h3
  exact ⟨t, Option.some.inj h3, h4⟩
theorem lex_perm {G H : Hp} {xs ys : List V} {nss : List (List Int)} (e : Ex G H) (ht : TupL iV G xs nss) (hp : ys.Perm xs) (hs : ys.Pairwise (lexP K H)) : ∃ nss', nss'.Perm nss ∧ nss'.Pairwise (fun a b => lexLt b a = false) ∧ TupL iV G ys nss' := by
  obtain ⟨zs, h1, h2⟩ := perm_lift (f := fun z : V × List Int => z.1) hp (xs.zip nss) (List.map_fst_zip (by rw [ht.1]; exact Nat.le_refl _))
  have hz : ∀ z ∈ zs, ∃ t : Addr, z.1 = .ref t ∧ G t = some (.tup (iV z.2)) := fun z hz => tupL_mem ht z (h1.mem_iff.mp hz)
  refine ⟨zs.map (·.2), ?_, ?_, ?_⟩
  · have := h1.map (fun z : V × List Int => z.2)
    rw [show (xs.zip nss).map (fun z : V × List Int => z.2) = nss from List.map_snd_zip (by rw [ht.1]; exact Nat.le_refl _)] at this
    exact this
  · rw [List.pairwise_map]
    have h3 : zs.Pairwise (fun a b => lexP K H a.1 b.1) := by rw [← List.pairwise_map (f := fun z : V × List Int => z.1), h2]; exact hs
    refine List.Pairwise.imp_of_mem (fun {a b} ha hb h => ?_) h3
    obtain ⟨t, e1, h4⟩ := hz a ha
    obtain ⟨u, e2, h5⟩ := hz b hb
    exact h a.2 b.2 ⟨t, e1, sqT (e _ _ h4)⟩ ⟨u, e2, sqT (e _ _ h5)⟩
  · have := tupL_zip hz
    rw [h2] at this
    exact this
theorem sortLL_go {a : Addr} {xs : List V} {nss : List (List Int)} (J : Join G P H) (h : H a = some (.lst xs)) (ht : TupL iV G xs nss) (hl : nss.length ≤ 100000) (hne : ∀ ns ∈ nss, ns ≠ [])
    (q : ∀ (nss' : List (List Int)) ys p G' H', nss'.Perm nss → nss'.Pairwise (fun a b => lexLt b a = false) → H p = none → Ex G G' → Join G' P H' → G' p = some (.lst ys) → TupL iV G' ys nss' → Q (.ref p) H') : rSortLL K [.ref a] H Q := by
  refine ⟨a, xs, rfl, sqL h, fun x hx => ?_, fun ys p h1 h2 hp => ?_⟩
  · obtain ⟨i, hi⟩ := List.getElem?_of_mem hx
    obtain ⟨ns, t, h1, h2, h3⟩ := ht.get hi
    exact ⟨ns, ⟨t, h2, sqT (J.g _ _ h3)⟩, hne ns (List.mem_of_getElem? h1)⟩
  · obtain ⟨nss', k1, k2, k3⟩ := lex_perm J.exG ht h1 h2
    have e : Ex G (upd G p (.lst ys)) := Ex.new (J.ng hp)
    exact q nss' ys p _ _ k1 k2 hp e (J.newG hp) upd_same (k3.mono e)
theorem isKeys_zip {H : Hp} {kvs : List (List L2.Key × V)} {bs : List Addr} (h : IsKeys H kvs bs) : ∀ {nss : List (List Int)}, kvs.map (·.1) = nss.map (·.map Sum.inl) → bs.length = nss.length ∧ ∀ z ∈ (bs.map V.ref).zip nss, ∃ t : Addr, z.1 = .ref t ∧ H t = some (.tup (iV z.2)) := by
  unfold IsKeys at h
  induction h with
  | nil =>
    intro nss hk
    cases nss with
    | nil => exact ⟨rfl, fun z hz => by simp at hz⟩
    | cons _ _ => cases hk
  | @cons p b ps bs hb t ih =>
    intro nss hk
    cases nss with
    | nil => cases hk
    | cons ns nss =>
      rw [List.map_cons, List.map_cons] at hk
      injection hk with k1 k2
      obtain ⟨l, r⟩ := ih k2
      refine ⟨by rw [List.length_cons, List.length_cons, l], fun z hz => ?_⟩
      rw [List.map_cons, List.zip_cons_cons] at hz
      rcases List.mem_cons.mp hz with rfl | hz
      · refine ⟨b, rfl, ?_⟩
        show H b = some (.tup (iV ns))
        rw [hb, k1, List.map_map]; rfl
      · exact r z hz
theorem sortLD_go {kvs : List (List L2.Key × V)} {nss : List (List Int)} (J : Join G P H) (n : NT P) (h : Rd H d (.dT kvs)) (hk : kvs.map (·.1) = nss.map (·.map Sum.inl)) (hl : nss.length ≤ 100000) (hne : ∀ ns ∈ nss, ns ≠ [])
    (q : ∀ (nss' : List (List Int)) ys p G' H', nss'.Perm nss → nss'.Pairwise (fun a b => lexLt b a = false) → H p = none → Ex G G' → Join G' P H' → G' p = some (.lst ys) → TupL iV G' ys nss' → Q (.ref p) H') : rSortLD K [.ref d] H Q := by
  have lk : kvs.length = nss.length := by have := congrArg List.length hk; simpa using this
  refine ⟨d, kvs, rfl, h, fun kv hkv => ?_, fun bs ys p hb h1 h2 hp => ?_⟩
  · have hm : kv.1 ∈ nss.map (·.map Sum.inl) := by rw [← hk]; exact List.mem_map.mpr ⟨kv, hkv, rfl⟩
    obtain ⟨ns, hns, e⟩ := List.mem_map.mp hm
    exact ⟨ns, e.symm, hne ns hns⟩
  · obtain ⟨l1, hz⟩ := isKeys_zip hb hk
    have ht : TupL iV G (bs.map V.ref) nss := by
      have := tupL_zip (f := iV) (G := G) (zs := (bs.map V.ref).zip nss) fun z hz1 => by
        obtain ⟨t, e1, e2⟩ := hz z hz1
        exact ⟨t, e1, n.gt J e2⟩
      rw [List.map_fst_zip (by rw [List.length_map, l1]; exact Nat.le_refl _), List.map_snd_zip (by rw [List.length_map, l1]; exact Nat.le_refl _)] at this
      exact this
    obtain ⟨nss', k1, k2, k3⟩ := lex_perm J.exG ht h1 h2
    have e : Ex G (upd G p (.lst ys)) := Ex.new (J.ng hp)
    exact q nss' ys p _ _ k1 k2 hp e (J.newG hp) upd_same (k3.mono e)
theorem lex_unique : ∀ {l m : List (List Int)}, l.Pairwise (fun a b => lexLt a b = true) → m.Pairwise (fun a b => lexLt a b = true) → (∀ x, x ∈ l ↔ x ∈ m) → l = m
  | [], [], _, _, _ => rfl
  | [], b :: m, _, _, h => nomatch (h b).mpr List.mem_cons_self
  | a :: l, [], _, _, h => nomatch (h a).mp List.mem_cons_self
  | a :: l, b :: m, h1, h2, h => by
    obtain ⟨a1, a2⟩ := List.pairwise_cons.mp h1
    obtain ⟨b1, b2⟩ := List.pairwise_cons.mp h2
    have e : a = b := by
      rcases List.mem_cons.mp ((h a).mp List.mem_cons_self) with e | hm
      · exact e
      · rcases List.mem_cons.mp ((h b).mpr List.mem_cons_self) with e | hl
        · exact e.symm
        · have x := lexLt_trans a b a (a1 b hl) (b1 a hm)
          rw [lexLt_irr] at x; cases x
    subst e
    have na : a ∉ l := fun hm => by have := a1 a hm; rw [lexLt_irr] at this; cases this
    have nb : a ∉ m := fun hm => by have := b1 a hm; rw [lexLt_irr] at this; cases this
    rw [lex_unique a2 b2 fun x => ⟨fun hx => by
      rcases List.mem_cons.mp ((h x).mp (List.mem_cons_of_mem _ hx)) with e | hm
      · subst e; exact absurd hx na
      · exact hm, fun hx => by
      rcases List.mem_cons.mp ((h x).mpr (List.mem_cons_of_mem _ hx)) with e | hm
      · subst e; exact absurd hx nb
      · exact hm⟩]
theorem lex_strict {l : List (List Int)} (h : l.Pairwise (fun a b => lexLt b a = false)) (hn : l.Nodup) : l.Pairwise (fun a b => lexLt a b = true) := by
  refine (h.and hn).imp fun {a b} hab => ?_
  cases e : lexLt a b with
  | true => rfl
  | false => exact absurd (lexLt_tri a b e hab.1) hab.2
theorem aDNewT.goP2 (J : Join G P H) (nt : NT P) (q : ∀ p P' H', H p = none → Ex P P' → Join G P' H' → P' p = some (.dT []) → NT P' → Q (.ref p) H') : aDNewT H Q := fun p hp => q p _ _ hp (Ex.new (J.np hp)) (J.setPn hp) upd_same (nt.upd fun _ e => nomatch e)
theorem aDNew.goP2 (J : Join G P H) (nt : NT P) (q : ∀ p P' H', H p = none → Ex P P' → Join G P' H' → P' p = some (.dK []) → NT P' → Q (.ref p) H') : aDNew H Q := fun p hp => q p _ _ hp (Ex.new (J.np hp)) (J.setPn hp) upd_same (nt.upd fun _ e => nomatch e)
theorem aLst.goP2 {xs : List V} (J : Join G P H) (nt : NT P) (l : xs.length ≤ 100000) (q : ∀ p P' H', H p = none → Ex P P' → Join G P' H' → P' p = some (.lst xs) → NT P' → Q (.ref p) H') : aLst xs H Q :=
  ⟨szle l, fun p hp => q p _ _ hp (Ex.new (J.np hp)) (J.setPn hp) upd_same (nt.upd fun _ e => nomatch e)⟩
/-- k in xs, ints -/
theorem inH_yes {k : Int} {p : Addr} {ns : List Int} (h : H p = some (.lst (ns.map V.int)) ∨ H p = some (.tup (ns.map V.int))) (q : Q (.bl (decide (k ∈ ns))) H) : rIn K false (.int k) (.ref p) H Q := in_goH h (by rw [if_neg (by decide)]; exact q)
theorem inH_no {k : Int} {p : Addr} {ns : List Int} (h : H p = some (.lst (ns.map V.int)) ∨ H p = some (.tup (ns.map V.int))) (q : Q (.bl (!decide (k ∈ ns))) H) : rIn K true (.int k) (.ref p) H Q := in_goH h (by rw [if_pos rfl]; exact q)
theorem any_dT {ks : List Int} : ∀ nss : List (List Int), ((nss.map dT).any fun z => PyData.eqv z (dT ks)) = decide (ks ∈ nss)
  | [] => rfl
  | n :: nss => by
    rw [List.map_cons, List.any_cons, any_dT nss, eqv_dT]
    by_cases c : n = ks
    · subst c; simp
    · have c2 : ¬ ks = n := fun e => c e.symm
      simp [c, c2]
/-- t not in xs, tuples of ints -/
theorem notInD_go {tk a : Addr} {xs : List V} {nss : List (List Int)} {ks : List Int} (h : H a = some (.lst xs)) (ht : TupL iV H xs nss) (hk : H tk = some (.tup (ks.map V.int))) (q : Q (.bl (!decide (ks ∈ nss))) H) : rNotInD K (.ref tk) (.ref a) H Q :=
  ⟨dT ks, nss.map dT, dp_tup hk, dp_lst h ht, shaped_dT _, shaped_dL _, by rw [any_dT]; exact q⟩
theorem TupL.keep {α : Type} {f : α → List V} {G2 : Hp} {p : Addr} {xs ys : List V} {as : List α} (h : TupL f G ys as) (hp : G p = some (.lst xs)) (k : ∀ c u, c ≠ p → G c = some u → G2 c = some u) : TupL f G2 ys as := ⟨h.1, fun i a ha => by
  obtain ⟨t, h1, h2⟩ := h.2 i a ha
  exact ⟨t, h1, k t _ (fun e => by rw [e, hp] at h2; cases h2) h2⟩⟩
theorem clearP {l : Addr} {xs : List V} (J : Join G P H) (e : P l = some (.lst xs)) (q : ∀ H', Join G (upd P l (.lst [])) H' → Q .non H') : rClear (.ref l) [] H Q := ⟨l, xs, rfl, rfl, J.p _ _ e, q _ (J.setPo e)⟩
/-- the pot's part of a heap's second part -/
theorem Pot.norm {l : Addr} (J : Join G P H) (h : Pot P l) : ∃ G' P', Join G' P' H ∧ Ex G G' ∧ Pot P' l ∧ NT P' := by
  obtain ⟨g, s, gs, ss, t, c, h1, h2, h3, h4⟩ := h
  have e0 : Ex (fun b => if b = l ∨ b = g ∨ b = s then P b else none) P := fun b o q => by
    have q2 : (if b = l ∨ b = g ∨ b = s then P b else none) = some o := q
    by_cases z : b = l ∨ b = g ∨ b = s
    · rw [if_pos z] at q2; exact q2
    · rw [if_neg z] at q2; cases q2
  obtain ⟨G', j', e', _⟩ := J.back e0
  refine ⟨G', _, j', e', ⟨g, s, gs, ss, t, c, ?_, ?_, ?_, h4⟩, fun b xs q => ?_⟩
  · show (if l = l ∨ l = g ∨ l = s then P l else none) = _
    rw [if_pos (.inl rfl)]; exact h1
  · show (if g = l ∨ g = g ∨ g = s then P g else none) = _
    rw [if_pos (.inr (.inl rfl))]; exact h2
  · show (if s = l ∨ s = g ∨ s = s then P s else none) = _
    rw [if_pos (.inr (.inr rfl))]; exact h3
  · have q1 := e0 _ _ q
    have q2 : (if b = l ∨ b = g ∨ b = s then P b else none) = some (.tup xs) := q
    by_cases z : b = l ∨ b = g ∨ b = s
    · rcases z with z | z | z
      · rw [z, h1] at q1; cases q1
      · rw [z, h2] at q1; cases q1
      · rw [z, h3] at q1; cases q1
    · rw [if_neg z] at q2; cases q2
end
end Lv

/-! for .. in enumerate(t) -/
namespace Lv
open PySem PySem.Spec PyProof.Rows L2
variable [TabA]
section
variable {K : PySem.W.Frag} {σ : L2.St} {G P H : Hp} {nx bk ct : L2.St → Hp → Prop} {rt : VK} {D : Ends} {g : TG} {tb : TS} {as : TA}
def aForE (K : PySem.W.Frag) (g : TG) (tb : TS) (D : Ends) (σ : L2.St) : List V → Hp → Prop := fun us H => tFor (fun _ H R => ∃ a xs, us = [.ref a] ∧ SqT K H a xs ∧ R (Itet K a) H) g tb D σ H
theorem w_forE (h : as σ H fun xs H1 => aForE K g tb D σ xs H1) : tFor (iEnumT K as) g tb D σ H := h
theorem aForE.go {a : Addr} {xs : List V} (I : Nat → Hp → Hp → L2.St → Prop) (J : Join G P H) (hS : G a = some (.tup xs)) (h0 : I 0 G P σ) (hk : ∀ i G' P' σ', I i G' P' σ' → G' a = some (.tup xs))
    (hs : ∀ (i : Nat) (x : V) (T : Addr) (G0 G' P' H' : Hp) (σ' : L2.St), xs[i]? = some x → Join G' P' H' → G' T = some (.tup [.int i, x]) → Ex G0 G' → I i G0 P' σ' → g (.ref T) σ' H' fun σ2 H2 => tb ⟨fun σ3 H3 => ∃ G3 P3, Join G3 P3 H3 ∧ I (i + 1) G3 P3 σ3, rt, nx, fun σ3 H3 => ∃ G3 P3, Join G3 P3 H3 ∧ I (i + 1) G3 P3 σ3⟩ σ2 H2)
    (hq : ∀ (G' P' H' : Hp) (σ' : L2.St), Join G' P' H' → I xs.length G' P' σ' → nx σ' H') : aForE K g tb ⟨nx, rt, bk, ct⟩ σ [.ref a] H := by
  refine ⟨a, xs, rfl, sqT (J.g _ _ hS), for_enumT (K := K) (a := a) (xs := xs) (fun i σ' H' => ∃ G3 P3, Join G3 P3 H' ∧ I i G3 P3 σ') ⟨G, P, J, h0⟩ ?_ ?_ ?_⟩
  · rintro i σ' H' _ ⟨G', P', J', hI⟩
    exact sqT (J'.g _ _ (hk _ _ _ _ hI))
  · rintro i x σ' H' T hi ⟨G', P', J', hI⟩ hT
    exact hs i x T G' _ P' _ σ' hi (J'.newG hT) upd_same (Ex.new (J'.ng hT)) hI
  · rintro σ' H' ⟨G', P', J', hI⟩
    exact hq G' P' H' σ' J' hI
/-- {k: v}, v new -/
theorem aDisp1.goG {k : L2.Key} {tk tv : TE} {Q : VK} (Pv : V → Hp → Prop) (J : Join G P H) (hk : ∀ H' S, S (kV k) H' → tk σ H' S) (hv : ∀ P' H' S, Join G P' H' → (∀ v G2 H2, Ex G G2 → Join G2 P' H2 → Pv v G2 → S v H2) → tv σ H' S)
    (q : ∀ p v P' G' H', H p = none → Ex P P' → Ex G G' → Join G' P' H' → P' p = some (.dK [(k, v)]) → Pv v G' → Q (.ref p) H') : tDisp [(tk, tv)] σ H Q := by
  intro p hp
  have j1 : Join G (upd P p (.dK [])) (upd H p (.dK [])) := J.setPn hp
  refine hk _ _ (hv _ _ _ j1 fun v G2 H2 e2 j2 pv => ⟨j2.p _ _ upd_same, [(k, v)], rfl, Nat.le_of_ble_eq_true rfl, ?_⟩)
  exact q p v _ G2 _ hp ((Ex.new (J.np hp)).mut (J.np hp)) e2 (j2.setPo (o := .dK (mergeK [] [(k, v)])) upd_same) upd_same pv
end
end Lv

/-! C(..) of an own class, within try -/
namespace Lv
open PySem PySem.Spec PyProof.Rows L2
variable [TabA]
section
variable {X : Cx} {CX : CXT} {k : Nat} {f C : Addr} {fd : FuncData} {ps : List Str} {sp : Sp} {E : L2.St → XK} {x : Str} {p pos : Pos} {e : Expr} {es : List Expr} {t : TA}
theorem run_makeS {dvs : List V} {ds : List Value} {pins : List (Addr × Obj)} {σ : L2.St} {H : Hp} {s : Shared} {Q : VK} {us : List Value} {vs : List V} (M : Mk X.K C f) (F : FnOk X.prog X.w X.K X.mg X.base CX k f fd ps sp) (hr : Room (k + 1) X.A) (hb : Binds X.K fd ps ds) (hd : Vals dvs ds)
    (hx : PassesAt CX X σ (E σ)) (I : Inv X pins σ H s) (r : Vals vs us)
    (h : ∀ x dx, H x = none → H dx = none → dx ≠ x → sp (.ref x :: (vs ++ dvs)) (upd (upd H dx (.own x)) x (.ins C dx [])) (fun v H2 => v = .non ∧ Q (.ref x) H2) (E σ)) :
    wpAny (model X.prog X.w) X.A (call (.ref C) us) (EP X pins σ Q) X.xe s := by
  have hq := h (s.heap.objs.size + 1) s.heap.objs.size (I.hok.fresh (Nat.le_succ _)) (I.hok.fresh (Nat.le_refl _)) (Nat.ne_of_lt (Nat.lt_succ_self _))
  have I2 := Inv.made (C := C) I
  have r2 : Vals (V.ref (s.heap.objs.size + 1) :: (vs ++ dvs)) (Value.ref (s.heap.objs.size + 1) :: (us ++ ds)) := .cons rfl (r.append hd)
  have hl : (Value.ref (s.heap.objs.size + 1) :: us ++ ds).length = ps.length := by
    have e := r2.length
    rw [F.len _ _ _ _ hq] at e
    exact e.symm
  refine wpAny_call (make_map (f := f) I.kIn M.makes M.init (beq_iff_eq.mp M.fn) (codeAny_mono (F.run _ X.stack _ _ ⟨Value.ref (s.heap.objs.size + 1) :: us, []⟩ (Value.ref (s.heap.objs.size + 1) :: (us ++ ds)) _ _ (E σ) (hr.make C us [])
    (I2.env0.make C us []) (hb _ (Value.ref (s.heap.objs.size + 1) :: us) I2.kIn hl) r2 hq) fun r s' hq' => ?_))
  cases r with
  | error e => exact hx pins _ _ e s' I2 hq'
  | ok fl =>
    cases fl with
    | ret u =>
      obtain ⟨v, H', I3, rv, ev, q3⟩ := I2.after hq'
      subst ev
      exact ⟨rv, ⟨V.ref (s.heap.objs.size + 1), H', I3, rfl, q3⟩⟩
    | next => exact False.elim hq'
    | brk => exact False.elim hq'
    | cont => exact False.elim hq'
def tMakeS (C : Addr) (sp : Sp) (E : L2.St → XK) (t : TA) : TE := fun σ H Q => tMake C sp [] (E σ) t σ H Q
theorem pe_makeS (M : Mk X.K C f) (F : FnOk X.prog X.w X.K X.mg X.base CX k f fd ps sp) (hr : Room (k + 1) X.A) (hg : Gl X x) (hm : X.mg x = some (.ref C)) (hb : Binds X.K fd ps []) (hx : ∀ σ, PassesAt CX X σ (E σ))
    (ha : PA X (e :: es) t) (hdb : (x == ("__debug__" : Str)) = false := by decide) (he : starEach (e :: es) X.env = (false, eval e X.env) :: starEach es X.env := by rfl) (hpl : (backTo pos (starEach es X.env)).any (·.1) = false := by rfl) :
    PE X (.Call (.Name x p) (e :: es) [] pos) (tMakeS C sp E t) := by
  refine ⟨fun pins s σ H Q I h => ?_⟩
  refine wpAny_Call_Name_kw (ld_glob I hg hm ?_ hdb)
  refine PySem.W.callWith_K (h₀ := X.base) I.ok.mod.kin M.kp (thn (ha.run pos pins s σ H _ I h) fun us s1 ⟨vs, H1, I1, r, q⟩ => ⟨I1.kIn, ?_⟩) he hpl
  exact run_makeS M F hr hb .nil (hx σ) I1 r q
theorem w_makeS {σ : L2.St} {H : Hp} {Q : VK} (h : t σ H fun vs H1 => aMake C sp [] (E σ) vs H1 Q) : tMakeS C sp E t σ H Q := h
end
end Lv

/-! a value that is a list or a tuple; dicts whose keys are tuples of ints -/
namespace Lv
open PySem PySem.Spec PyProof.Rows L2
variable [TabA]
section
variable {X : Cx} {tg : Expr}
/-- a walk over a list or a tuple -/
def iSeq (K : PySem.W.Frag) (tl : TE) : TI := fun σ H R => tl σ H fun x H1 => ∃ a, x = .ref a ∧ (((∃ xs, SqL K H1 a xs) ∧ R (Itl K a) H1) ∨ ((∃ xs, SqT K H1 a xs) ∧ R (Itt K a) H1))
theorem pi_seq {l : Expr} {tl : TE} (hl : PE X l tl) : PI X tg l (iSeq X.K tl) := by
  refine ⟨fun pins s σ H R I h => ?_⟩
  refine thn (hl.run pins s σ H _ I h) fun v s1 ⟨x, H1, I1, r1, q1⟩ => ?_
  obtain ⟨a, e, q1⟩ := q1
  subst e
  cases r1
  rcases q1 with ⟨⟨xs, hq⟩, q⟩ | ⟨⟨xs, hq⟩, q⟩
  · obtain ⟨its, rv, p, hz⟩ := I1.list hq
    refine wpAny_pyIter_list p.isList ?_
    refine ⟨s1.heap.objs.size, [s1.heap.objs.size], _, _, H1, rfl, I1.kept (t' := s1.toks) fun b o e => Heap.get?_push_of_some _ e, turn_list a _, ⟨_, Heap.get?_push_size _ rfl, rfl, rfl⟩, fun b hb => ?_, q⟩
    have e : b = s1.heap.objs.size := by simpa using hb
    subst e
    exact I1.fpOk (Nat.le_refl _) (I1.hok.fresh (Nat.le_refl _))
  · obtain ⟨its, rv, p, hz⟩ := I1.tuple hq
    refine wpAny_pyIter_tuple (show s1.heap.IsTuple a its.toArray from p) ?_
    refine ⟨s1.heap.objs.size, [s1.heap.objs.size], _, _, H1, rfl, I1.kept (t' := s1.toks) fun b o e => Heap.get?_push_of_some _ e, turn_tuple a _, ⟨_, Heap.get?_push_size _ rfl, rfl, rfl⟩, fun b hb => ?_, q⟩
    have e : b = s1.heap.objs.size := by simpa using hb
    subst e
    exact I1.fpOk (Nat.le_refl _) (I1.hok.fresh (Nat.le_refl _))
theorem pi_seqK {K : PySem.W.Frag} {e : Expr} {tl : TE} (h : X.K = K) (he : PE X e tl) : PI X tg e (iSeq K tl) := h ▸ pi_seq he
/-- enumerate of a list or a tuple -/
def iEnumS (K : PySem.W.Frag) (ta : TA) : TI := fun σ H R => ta σ H fun vs H1 => ∃ a xs, vs = [.ref a] ∧ ((SqL K H1 a xs ∧ R (Ite K a) H1) ∨ (SqT K H1 a xs ∧ R (Itet K a) H1))
theorem pi_enumS {e : Expr} {ta : TA} {p pos tpos : Pos} {elts : List Expr} {kk : Nat} (hg : Gl X "enumerate") (hm : X.mg "enumerate" = none) (ha : PA X [e] ta) (hs : starEach [e] X.env = [(false, eval e X.env)] := by rfl) :
    PI X (.Tuple elts kk tpos) (.Call (.Name "enumerate" p) [e] [] pos) (iEnumS X.K ta) := by
  refine ⟨fun pins s σ H R I h => ?_⟩
  refine Call_ (ld_blt I hg hm boot_enumerate (PyProof.Rows.callWith_type1 (thn (ha.run pos pins s σ H _ I h) fun us s1 ⟨vs, H1, I1, r1, q1⟩ => ?_) hs rfl))
  obtain ⟨a, xs, ex, q1⟩ := q1
  subst ex
  cases r1 with
  | cons r rr =>
    cases rr
    cases r
    rcases q1 with ⟨hq, q⟩ | ⟨hq, q⟩
    · obtain ⟨its, rv, p', hz⟩ := I1.list hq
      refine call_enumerate_list p'.isList fun h' he hit hsz hk => wpAny_pyIter_enum he ?_
      have I2 : Inv X pins σ H1 { s1 with heap := h' } := I1.kept (t' := s1.toks) hk
      refine ⟨s1.heap.objs.size + 1, [s1.heap.objs.size + 1, s1.heap.objs.size], _, _, H1, rfl, I2, turn_enum a (s1.heap.objs.size + 1) s1.heap.objs.size, ⟨⟨.none, he⟩, hit, Nat.succ_ne_self _⟩, fun b hb => ?_, q⟩
      have e' : b = s1.heap.objs.size + 1 ∨ b = s1.heap.objs.size := by simpa using hb
      have hle : s1.heap.objs.size ≤ b := by
        rcases e' with z | z
        · rw [z]; exact Nat.le_add_right _ _
        · rw [z]; exact Nat.le_refl _
      exact I1.fpOk hle (I1.hok.fresh hle)
    · obtain ⟨its, rv, p', hz⟩ := I1.tuple hq
      have hpt : s1.heap.IsTuple a its.toArray := p'
      have hal : a < s1.heap.objs.size := p'.lt
      refine call_enum1 (begins_tuple a its.toArray) hpt fun h' he hit hsz hk => wpAny_pyIter_enum he ?_
      have I2 : Inv X pins σ H1 { s1 with heap := h' } := I1.kept (t' := s1.toks) hk
      refine ⟨s1.heap.objs.size + 1, [s1.heap.objs.size + 1, s1.heap.objs.size], _, _, H1, rfl, I2, turn_enumT a (s1.heap.objs.size + 1) s1.heap.objs.size (Nat.ne_of_lt hal), ⟨⟨.none, he⟩, ⟨_, hit, rfl, rfl⟩, Nat.succ_ne_self _, Nat.ne_of_lt (Nat.lt_succ_of_lt hal)⟩, fun b hb => ?_, q⟩
      have e' : b = s1.heap.objs.size + 1 ∨ b = s1.heap.objs.size := by simpa using hb
      have hle : s1.heap.objs.size ≤ b := by
        rcases e' with z | z
        · rw [z]; exact Nat.le_add_right _ _
        · rw [z]; exact Nat.le_refl _
      exact I1.fpOk hle (I1.hok.fresh hle)
end
section
variable {K : PySem.W.Frag} {σ : L2.St} {G P H : Hp} {Q : VK} {nx bk ct : L2.St → Hp → Prop} {rt : VK} {D : Ends} {tt : TT} {td te ta : TE} {g : TG} {tb : TS} {as : TA} {ts : List Nat} {a : Addr} {xs : List V}
/-- a list or a tuple stands there -/
def Sq (G : Hp) (a : Addr) (xs : List V) : Prop := G a = some (.lst xs) ∨ G a = some (.tup xs)
theorem Sq.mono {G G' : Hp} (e : Ex G G') (h : Sq G a xs) : Sq G' a xs := h.imp (e _ _) (e _ _)
def aForS (K : PySem.W.Frag) (g : TG) (tb : TS) (D : Ends) (σ : L2.St) : V → Hp → Prop := fun x H => tFor (fun _ H R => ∃ a, x = .ref a ∧ (((∃ xs, SqL K H a xs) ∧ R (Itl K a) H) ∨ ((∃ xs, SqT K H a xs) ∧ R (Itt K a) H))) g tb D σ H
theorem w_forS (h : ta σ H fun x H1 => aForS K g tb D σ x H1) : tFor (iSeq K ta) g tb D σ H := h
theorem aForS.go (I : Nat → Hp → Hp → L2.St → Prop) {Gb : Hp} (J : Join G P H) (eb : Ex Gb G) (hS : Sq Gb a xs) (h0 : I 0 G P σ) (hk : ∀ i G' P' σ', I i G' P' σ' → Ex Gb G')
    (hs : ∀ (i : Nat) (x : V) (G' P' H' : Hp) (σ' : L2.St), xs[i]? = some x → Join G' P' H' → I i G' P' σ' → g x σ' H' fun σ2 H2 => tb ⟨fun σ3 H3 => ∃ G3 P3, Join G3 P3 H3 ∧ I (i + 1) G3 P3 σ3, rt, nx, fun σ3 H3 => ∃ G3 P3, Join G3 P3 H3 ∧ I (i + 1) G3 P3 σ3⟩ σ2 H2)
    (hq : ∀ (G' P' H' : Hp) (σ' : L2.St), Join G' P' H' → I xs.length G' P' σ' → nx σ' H') : aForS K g tb ⟨nx, rt, bk, ct⟩ σ (.ref a) H := by
  rcases hS with h | h
  · obtain ⟨b, e, h1, h2⟩ := (aForL.go (K := K) (bk := bk) (ct := ct) I J (eb _ _ h) h0 (fun i G' P' σ' hI => hk i G' P' σ' hI _ _ h) hs hq : aForL K g tb ⟨nx, rt, bk, ct⟩ σ (.ref a) H)
    exact ⟨b, e, .inl ⟨h1, h2⟩⟩
  · obtain ⟨b, e, h1, h2⟩ := (aForT.go (K := K) (bk := bk) (ct := ct) I J (eb _ _ h) h0 (fun i G' P' σ' hI => hk i G' P' σ' hI _ _ h) hs hq : aForT K g tb ⟨nx, rt, bk, ct⟩ σ (.ref a) H)
    exact ⟨b, e, .inr ⟨h1, h2⟩⟩
def aLcS (K : PySem.W.Frag) (g : TG) (tt : TT) (te : TE) (vs : List Nat) (σ : L2.St) : V → Hp → VK → Prop := fun x H Q => tLc (fun _ H R => ∃ a, x = .ref a ∧ (((∃ xs, SqL K H a xs) ∧ R (Itl K a) H) ∨ ((∃ xs, SqT K H a xs) ∧ R (Itt K a) H))) g tt te vs σ H Q
theorem w_lcS (h : ta σ H fun x H1 => aLcS K g tt te ts σ x H1 Q) : tLc (iSeq K ta) g tt te ts σ H Q := h
theorem aLcS.ofL (h : aLcL K g tt te ts σ (.ref a) H Q) : aLcS K g tt te ts σ (.ref a) H Q := by
  obtain ⟨b, e, h1, h2⟩ := h
  exact ⟨b, e, .inl ⟨h1, h2⟩⟩
theorem aLcS.ofT (h : aLcT K g tt te ts σ (.ref a) H Q) : aLcS K g tt te ts σ (.ref a) H Q := by
  obtain ⟨b, e, h1, h2⟩ := h
  exact ⟨b, e, .inr ⟨h1, h2⟩⟩
theorem aLcS.go (Pp : Hp → Prop) (I : Nat → List V → Hp → Prop) (J : Join G P H) (hP : Pp P)
    (hS : Sq G a xs) (h0 : ∀ G', Ex G G' → I 0 [] G') (hI : ∀ i ws G2 D us ts, G2 D = some (.lst us) → I i ws G2 → I i ws (upd G2 D (.lst ts))) (hz : ∀ i ws G2, I i ws G2 → ws.length ≤ 1000000)
    (hs : ∀ (i : Nat) (x : V) (ws : List V) (G' P' H' : Hp) (R : VK) (R0 : Hp → Prop), xs[i]? = some x → Ex G G' → I i ws G' → Pp P' → Join G' P' H' →
      (∀ v G2 P2 H2, Ex G' G2 → Pp P2 → Join G2 P2 H2 → I (i + 1) (ws ++ [v]) G2 → R v H2) → (∀ G2 P2 H2, Ex G' G2 → Pp P2 → Join G2 P2 H2 → I (i + 1) ws G2 → R0 H2) →
      g x (wipe σ ts) H' fun σ2 H2 => wipe σ2 ts = wipe σ ts ∧ tt σ2 H2 fun b H3 => if b = true then te σ2 H3 R else R0 H3)
    (hq : ∀ p ws G' P' H', H p = none → Ex G G' → G' p = some (.lst ws) → I xs.length ws G' → Pp P' → Join G' P' H' → Q (.ref p) H') : aLcS K g tt te ts σ (.ref a) H Q := by
  rcases hS with h | h
  · exact aLcS.ofL (aLcL.go Pp I J hP h h0 hI hz hs hq)
  · exact aLcS.ofT (aLcT.go Pp I J hP h h0 hI hz hs hq)
theorem for_enumL {D : Ends} (Pv : Nat → L2.St → Hp → Prop) (h0 : Pv 0 σ H) (hl : ∀ i σ H, i ≤ xs.length → Pv i σ H → SqL K H a xs)
    (hs : ∀ (i : Nat) x σ H T, xs[i]? = some x → Pv i σ H → H T = none → g (.ref T) σ (upd H T (.tup [.int i, x])) fun σ2 H2 => tb { D with nx := Pv (i + 1), ct := Pv (i + 1), bk := D.nx } σ2 H2) (hd : ∀ σ H, Pv xs.length σ H → D.nx σ H) :
    ∃ W : Nat → Nat → L2.St → Hp → Prop, (∃ m, W 0 m σ H) ∧ ∀ i m σ H, W i m σ H →
      ((Ite K a).stop i H ∧ D.nx σ H) ∨ ((Ite K a).go i H ∧ ∃ N : L2.St → Hp → Prop, (∀ σ' H', N σ' H' → ∃ m', m' < m ∧ W (i + 1) m' σ' H') ∧ ∀ x H', (Ite K a).yld i H x H' → g x σ H' fun σ2 H2 => tb { D with nx := N, ct := N, bk := D.nx } σ2 H2) := by
  refine ⟨fun i m σ H => m = xs.length - i ∧ i ≤ xs.length ∧ Pv i σ H, ⟨xs.length, by simp, Nat.zero_le _, h0⟩, ?_⟩
  rintro i m σ H ⟨rfl, hi, p⟩
  have q := hl i σ H hi p
  by_cases hlt : i < xs.length
  · refine .inr ⟨⟨xs, xs[i], q, by simp [hlt]⟩, Pv (i + 1), fun σ' H' p' => ⟨xs.length - (i + 1), by omega, rfl, hlt, p'⟩, fun x H' y => ?_⟩
    obtain ⟨T, z, e1, e2, e3, y⟩ := y
    subst e1 e3
    exact hs i z σ H T (y xs q) p e2
  · have e : i = xs.length := by omega
    subst e
    exact .inl ⟨⟨xs, q, Nat.le_refl _⟩, hd σ H p⟩
def aForES (K : PySem.W.Frag) (g : TG) (tb : TS) (D : Ends) (σ : L2.St) : List V → Hp → Prop := fun us H => tFor (fun _ H R => ∃ a xs, us = [.ref a] ∧ ((SqL K H a xs ∧ R (Ite K a) H) ∨ (SqT K H a xs ∧ R (Itet K a) H))) g tb D σ H
theorem w_forES (h : as σ H fun xs H1 => aForES K g tb D σ xs H1) : tFor (iEnumS K as) g tb D σ H := h
theorem aForES.go (I : Nat → Hp → Hp → L2.St → Prop) {Gb : Hp} (J : Join G P H) (eb : Ex Gb G) (hS : Sq Gb a xs) (h0 : I 0 G P σ) (hk : ∀ i G' P' σ', I i G' P' σ' → Ex Gb G')
    (hs : ∀ (i : Nat) (x : V) (T : Addr) (G0 G' P' H' : Hp) (σ' : L2.St), xs[i]? = some x → Join G' P' H' → G' T = some (.tup [.int i, x]) → Ex G0 G' → I i G0 P' σ' → g (.ref T) σ' H' fun σ2 H2 => tb ⟨fun σ3 H3 => ∃ G3 P3, Join G3 P3 H3 ∧ I (i + 1) G3 P3 σ3, rt, nx, fun σ3 H3 => ∃ G3 P3, Join G3 P3 H3 ∧ I (i + 1) G3 P3 σ3⟩ σ2 H2)
    (hq : ∀ (G' P' H' : Hp) (σ' : L2.St), Join G' P' H' → I xs.length G' P' σ' → nx σ' H') : aForES K g tb ⟨nx, rt, bk, ct⟩ σ [.ref a] H := by
  have hS' := hS
  rcases hS with h | h
  · refine ⟨a, xs, rfl, .inl ⟨sqL (J.g _ _ (eb _ _ h)), for_enumL (K := K) (a := a) (xs := xs) (fun i σ' H' => ∃ G3 P3, Join G3 P3 H' ∧ I i G3 P3 σ') ⟨G, P, J, h0⟩ ?_ ?_ ?_⟩⟩
    · rintro i σ' H' _ ⟨G', P', J', hI⟩
      exact sqL (J'.g _ _ (hk _ _ _ _ hI _ _ h))
    · rintro i x σ' H' T hi ⟨G', P', J', hI⟩ hT
      exact hs i x T G' _ P' _ σ' hi (J'.newG hT) upd_same (Ex.new (J'.ng hT)) hI
    · rintro σ' H' ⟨G', P', J', hI⟩
      exact hq G' P' H' σ' J' hI
  · refine ⟨a, xs, rfl, .inr ⟨sqT (J.g _ _ (eb _ _ h)), for_enumT (K := K) (a := a) (xs := xs) (fun i σ' H' => ∃ G3 P3, Join G3 P3 H' ∧ I i G3 P3 σ') ⟨G, P, J, h0⟩ ?_ ?_ ?_⟩⟩
    · rintro i σ' H' _ ⟨G', P', J', hI⟩
      exact sqT (J'.g _ _ (hk _ _ _ _ hI _ _ h))
    · rintro i x σ' H' T hi ⟨G', P', J', hI⟩ hT
      exact hs i x T G' _ P' _ σ' hi (J'.newG hT) upd_same (Ex.new (J'.ng hT)) hI
    · rintro σ' H' ⟨G', P', J', hI⟩
      exact hq G' P' H' σ' J' hI
/-- len, isinstance, list, tuple of such -/
theorem lenS_go (J : Join G P H) (h : Sq G a xs) (q : Q (.int xs.length) H) : rLenW K [.ref a] H Q :=
  ⟨_, _, rfl, h.imp (fun h => sqL (J.g _ _ h)) (fun h => sqT (J.g _ _ h)), q⟩
theorem lenV_go (J : Join G P H) (h : Sq G a xs) (q : Q (.int xs.length) H) : rLenV K [.ref a] H Q := by
  rcases h with h | h
  · exact w_rlenL (J.g _ _ h) q
  · exact w_rlenT (J.g _ _ h) q
end
/-! dicts whose keys are tuples of ints -/
def tK (kvs : List (List Int × V)) : List (List L2.Key × V) := kvs.map fun z => (z.1.map Sum.inl, z.2)
theorem inl_inj : ∀ {a b : List Int}, a.map (Sum.inl : Int → L2.Key) = b.map Sum.inl ↔ a = b
  | [], [] => by simp
  | [], b :: c => by simp
  | a :: c, [] => by simp
  | a :: c, b :: d => by
    rw [List.map_cons, List.map_cons, List.cons.injEq, List.cons.injEq, inl_inj]
    constructor
    · rintro ⟨h, k⟩; exact ⟨Sum.inl.inj h, k⟩
    · rintro ⟨h, k⟩; exact ⟨congrArg _ h, k⟩
theorem tK_len (kvs : List (List Int × V)) : (tK kvs).length = kvs.length := by simp [tK]
theorem tK_val (kvs : List (List Int × V)) (k : List Int) : valV (tK kvs) (k.map Sum.inl) = valV kvs k := by
  induction kvs with
  | nil => rfl
  | cons p r ih =>
    by_cases c : p.1 = k
    · rw [valV_pos c]
      show valV ((p.1.map Sum.inl, p.2) :: tK r) _ = _
      rw [valV_pos (inl_inj.mpr c)]
    · rw [valV_neg c]
      show valV ((p.1.map Sum.inl, p.2) :: tK r) _ = _
      rw [valV_neg (fun h => c (inl_inj.mp h)), ih]
theorem tK_put (kvs : List (List Int × V)) (k : List Int) (v : V) : putK (tK kvs) (k.map Sum.inl) v = tK (putK kvs k v) := by
  cases h : valV kvs k with
  | none =>
    rw [putK_new v h, putK_new v (by rw [tK_val]; exact h)]
    simp [tK]
  | some y =>
    have h2 : valV (tK kvs) (k.map Sum.inl) = some y := by rw [tK_val]; exact h
    unfold putK
    have a1 : (kvs.any fun kv => decide (kv.1 = k)) = true := by rw [valV_any, h]; rfl
    have a2 : ((tK kvs).any fun kv => decide (kv.1 = k.map Sum.inl)) = true := by rw [valV_any, h2]; rfl
    rw [if_pos a1, if_pos a2]
    unfold tK
    rw [List.map_map, List.map_map]
    refine List.map_congr_left fun z _ => ?_
    show (if z.1.map Sum.inl = k.map (Sum.inl : Int → L2.Key) then (z.1.map (Sum.inl : Int → L2.Key), v) else (z.1.map Sum.inl, z.2)) = ((if z.1 = k then (z.1, v) else z).1.map Sum.inl, (if z.1 = k then (z.1, v) else z).2)
    by_cases c : z.1 = k
    · rw [if_pos c, if_pos (inl_inj.mpr c)]
    · rw [if_neg c, if_neg (fun h => c (inl_inj.mp h))]
theorem tK_at {kvs : List (List Int × V)} {i : Nat} {k : List L2.Key} {v : V} (h : (tK kvs)[i]? = some (k, v)) : ∃ n, kvs[i]? = some (n, v) ∧ k = n.map Sum.inl := by
  unfold tK at h
  rw [List.getElem?_map] at h
  cases e : kvs[i]? with
  | none => rw [e] at h; cases h
  | some z => rw [e] at h; injection h with h; injection h with h1 h2; exact ⟨z.1, by rw [← h2], h1.symm⟩
theorem tup_kV (k : List Int) : (k.map (Sum.inl : Int → L2.Key)).map kV = k.map V.int := by rw [List.map_map]; rfl
/-- the keys, each a tuple that stands -/
theorem for_keysT {d : Addr} {o : Obj} {kvs : List (List L2.Key × V)} {g : TG} {tb : TS} {D : Ends} {σ : L2.St} {H : Hp} (Pv : Nat → L2.St → Hp → Prop) (h0 : Pv 0 σ H) (hl : ∀ i σ H, i ≤ kvs.length → Pv i σ H → H d = some (.frz o (.dT kvs)))
    (hs : ∀ (i : Nat) (k : List L2.Key) (v : V) (q : Addr) σ H, kvs[i]? = some (k, v) → H q = some (.tup (k.map kV)) → Pv i σ H → g (.ref q) σ H fun σ2 H2 => tb { D with nx := Pv (i + 1), ct := Pv (i + 1), bk := D.nx } σ2 H2) (hd : ∀ σ H, Pv kvs.length σ H → D.nx σ H) :
    ∃ W : Nat → Nat → L2.St → Hp → Prop, (∃ m, W 0 m σ H) ∧ ∀ i m σ H, W i m σ H →
      ((Itkt d o kvs).stop i H ∧ D.nx σ H) ∨ ((Itkt d o kvs).go i H ∧ ∃ N : L2.St → Hp → Prop, (∀ σ' H', N σ' H' → ∃ m', m' < m ∧ W (i + 1) m' σ' H') ∧ ∀ x H', (Itkt d o kvs).yld i H x H' → g x σ H' fun σ2 H2 => tb { D with nx := N, ct := N, bk := D.nx } σ2 H2) := by
  refine ⟨fun i m σ H => m = kvs.length - i ∧ i ≤ kvs.length ∧ Pv i σ H, ⟨kvs.length, by simp, Nat.zero_le _, h0⟩, ?_⟩
  rintro i m σ H ⟨rfl, hi, p⟩
  have q := hl i σ H hi p
  by_cases c : i < kvs.length
  · refine .inr ⟨⟨q, c⟩, Pv (i + 1), fun σ' H' p' => ⟨kvs.length - (i + 1), by omega, rfl, c, p'⟩, fun x H' y => ?_⟩
    obtain ⟨e, k, v, b, hk, rfl, hb⟩ := y
    subst e
    exact hs i k v b σ _ hk hb p
  · have e : i = kvs.length := by omega
    subst e
    exact .inl ⟨⟨q, Nat.le_refl _⟩, hd σ H p⟩
theorem lc_keysT {d : Addr} {o : Obj} {kvs : List (List L2.Key × V)} {g : TG} {tt : TT} {te : TE} {vs : List Nat} {σ : L2.St} {H1 : Hp} {D : Addr} {Qd : Hp → Prop} (Pv : Nat → Hp → Prop) (h0 : Pv 0 (upd H1 D (.lst []))) (hl : ∀ i H, i ≤ kvs.length → Pv i H → H d = some (.frz o (.dT kvs)))
    (hs : ∀ (i : Nat) (k : List L2.Key) (v : V) (q : Addr) H, kvs[i]? = some (k, v) → H q = some (.tup (k.map kV)) → Pv i H → g (.ref q) (wipe σ vs) H fun σ2 H2 => wipe σ2 vs = wipe σ vs ∧ tt σ2 H2 fun b H3 =>
      if b = true then te σ2 H3 fun y H4 => ∃ acc, H4 D = some (.lst acc) ∧ acc.length < sizeLine ∧ Pv (i + 1) (upd H4 D (.lst (acc ++ [y]))) else Pv (i + 1) H3) (hd : ∀ H, Pv kvs.length H → Qd H) :
    ∃ W : Nat → Nat → Hp → Prop, (∃ m, W 0 m (upd H1 D (.lst []))) ∧ ∀ i m H, W i m H →
      ((Itkt d o kvs).stop i H ∧ Qd H) ∨ ((Itkt d o kvs).go i H ∧ ∃ Nx : Hp → Prop, (∀ H', Nx H' → ∃ m', m' < m ∧ W (i + 1) m' H') ∧ ∀ x H', (Itkt d o kvs).yld i H x H' → g x (wipe σ vs) H' fun σ2 H2 => wipe σ2 vs = wipe σ vs ∧ tt σ2 H2 fun b H3 =>
        if b = true then te σ2 H3 fun y H4 => ∃ acc, H4 D = some (.lst acc) ∧ acc.length < sizeLine ∧ Nx (upd H4 D (.lst (acc ++ [y]))) else Nx H3) := by
  refine ⟨fun i m H => m = kvs.length - i ∧ i ≤ kvs.length ∧ Pv i H, ⟨kvs.length, by simp, Nat.zero_le _, h0⟩, ?_⟩
  rintro i m H ⟨rfl, hi, p⟩
  have q := hl i H hi p
  by_cases c : i < kvs.length
  · refine .inr ⟨⟨q, c⟩, Pv (i + 1), fun H' p' => ⟨kvs.length - (i + 1), by omega, rfl, c, p'⟩, fun x H' y => ?_⟩
    obtain ⟨e, k, v, b, hk, rfl, hb⟩ := y
    subst e
    exact hs i k v b _ hk hb p
  · have e : i = kvs.length := by omega
    subst e
    exact .inl ⟨⟨q, Nat.le_refl _⟩, hd H p⟩
/-- the pairs of a locked dict with tuple keys, each a new tuple -/
def Itit (d : Addr) (o : Obj) (kvs : List (List L2.Key × V)) : It :=
  ⟨fun i H => H d = some (.frz o (.dT kvs)) ∧ i < kvs.length, fun i H x H' => ∃ T k v q, kvs[i]? = some (k, v) ∧ H q = some (.tup (k.map kV)) ∧ x = .ref T ∧ H T = none ∧ H' = upd H T (.tup [.ref q, v]), fun i H => H d = some (.frz o (.dT kvs)) ∧ kvs.length ≤ i⟩
theorem frzT2 {X : Cx} {pins : List (Addr × Obj)} {σ : L2.St} {H : Hp} {s : Shared} {d : Addr} {o : Obj} {kvs : List (List L2.Key × V)} (I : Inv X pins σ H s) (h : H d = some (.frz o (.dT kvs))) :
    (d == sysModules) = false ∧ s.heap.get? d = some o ∧ o.ExactDict ∧ ∃ (es : Array DictEntry) (ep : Nat), o.data = .dict es ep ∧ es.size = kvs.length ∧
      ∀ (i : Nat) (k : List L2.Key) (v : V), kvs[i]? = some (k, v) → ∃ (en : DictEntry) (q : Addr), es[i]? = some en ∧ en.key = .ref q ∧ H q = some (.tup (k.map kV)) ∧ RelV v en.val := by
  obtain ⟨hd, z, hs, xs, pr, o', es, ep, ho, hx, hdt, he, _⟩ := I.hok d _ h
  rw [hd] at ho
  cases ho
  refine ⟨hs, hd, hx, es, ep, hdt, ?_, fun i k v e => ?_⟩
  · have l1 : es.size = xs.length := size_of_entries he
    have l2 : kvs.length = xs.length := Paired.length pr
    omega
  · obtain ⟨b, hb, e1, e2, e3⟩ := paired_get pr e
    have q := entry_at he i
    rw [hb] at q
    exact ⟨_, b.2.1, q, rfl, e2, e3⟩
theorem turn_itemsT {P : Program} {w : World} {K : PySem.W.Frag} {d : Addr} {o : Obj} {es : Array DictEntry} {ep : Nat} {kvs : List (List L2.Key × V)} {elts : List Expr} {kk : Nat} {tpos : Pos} (it : Addr) (hod : o.data = .dict es ep) :
    L2.Turn P w K (.Tuple elts kk tpos) (Itit d o kvs) [it] it (fun i h => ∃ ok ov, IsItemIter h it d i kvs.length ep ok ov) where
  mem := by simp
  obj := fun i h st b hb => by
    have e : b = it := by simpa using hb
    subst e
    obtain ⟨ok, ov, e⟩ := st
    exact ⟨_, e, fun v z => nomatch z⟩
  keep := fun i h h' st k => let ⟨ok, ov, e⟩ := st; ⟨ok, ov, k it (by simp) _ e⟩
  item := by
    intro X hP hw hK hc i pins s σ H E I hf st hg
    subst hP hw hK
    obtain ⟨hd, hi⟩ := hg
    obtain ⟨hs, hgd, hx, es', ep', hdt, hsz, ent⟩ := frzT2 I hd
    obtain ⟨rfl, rfl⟩ := dict_ep hod hdt
    obtain ⟨⟨k, v⟩, hkv⟩ : ∃ p, kvs[i]? = some p := ⟨kvs[i], List.getElem?_eq_getElem hi⟩
    obtain ⟨en, q, hen, hkey, hq, rv⟩ := ent i k v hkv
    obtain ⟨ok, ov, he⟩ := st
    rw [← hsz] at he
    have hi2 : i < es'.size := by omega
    have hes : es'[i] = en := by
      rw [Array.getElem?_eq_getElem hi2] at hen
      exact Option.some.inj hen
    have hlt : it < s.heap.objs.size := Heap.lt_size he
    refine DT.nextI he ⟨_, hgd, hx, hdt⟩ hi2 fun h' ho hT hz hk => ?_
    refine ⟨_, rfl, wpAny_letOwnedTupleGo_items (s := { s with heap := h' }) ho fun h'' he' sb => ?_⟩
    have hT2 : h''.get? s.heap.objs.size = some { cls := .type "tuple", data := .seq #[en.key, en.val] } := by
      rw [← hes]; exact (sb.2 _ (Nat.ne_of_gt hlt)).trans hT
    have new : ObjOk X.prog X.w (upd H s.heap.objs.size (.tup [.ref q, v])) h'' s.heap.objs.size (.tup [.ref q, v]) :=
      ⟨by show 2 ≤ sizeLine; decide, [en.key, en.val], .cons hkey (.cons rv .nil), ⟨_, hT2, rfl, _, rfl⟩⟩
    have I1 : Inv X pins σ (upd H s.heap.objs.size (.tup [.ref q, v])) { s with heap := h'' } :=
      I.turnedNew (t' := s.toks) (ch := [it]) (fun b ob hb e => (sb.2 b (by simpa using hb)).trans (hk b ob (by simpa using hb) e)) hf (Nat.le_refl _) new
    refine ⟨.ref s.heap.objs.size, _, I1, rfl, ⟨_, k, v, q, hkv, hq, rfl, I.hok.fresh (Nat.le_refl _), rfl⟩, ⟨es'[i].key, es'[i].val, ?_⟩, fun b hb => ?_⟩
    · rw [← hsz]; exact he'
    · have e : b = it := by simpa using hb
      rw [e, upd_ne (Nat.ne_of_lt hlt)]
      exact (hf it (by simp)).1
  done := by
    intro X hP hw hK hc i pins s σ H E I hf st hg
    subst hP hw hK
    obtain ⟨hd, hi⟩ := hg
    obtain ⟨f0, f1, f2, f3, f4, f5⟩ := hf it (by simp)
    obtain ⟨hs, hgd, hx, es', ep', hdt, hsz, ent⟩ := frzT2 I hd
    obtain ⟨rfl, rfl⟩ := dict_ep hod hdt
    obtain ⟨ok, ov, he⟩ := st
    rw [← hsz] at he
    exact DT.endI (I.ok.hd hc) he ⟨_, hgd, hx, hdt⟩ (by omega) fun h' eb => ⟨rfl, I.turned (t' := s.toks) (fun b ob hb e => eb b ob hb e) f0 f1 f3 f4 f5⟩
  self := fun A i s Q E st h => let ⟨_, _, e⟩ := st; PySem.W.kcp_self e h
def iItemsT (td : TE) : TI := fun σ H R => td σ H fun x H1 => ∃ d o kvs, x = .ref d ∧ H1 d = some (.frz o (.dT kvs)) ∧ R (Itit d o kvs) H1
theorem pi_itemsT {X : Cx} {e : Expr} {td : TE} {apos cpos : Pos} {elts : List Expr} {kk : Nat} {tpos : Pos} (he : PE X e td) (hbase : attributeBase e "items" X.env (eval e X.env) = eval e X.env := by rfl) (hline : (apos.endLine == cpos.line) = true := by rfl) :
    PI X (.Tuple elts kk tpos) (.Call (.Attribute e "items" apos) [] [] cpos) (iItemsT td) := by
  refine ⟨fun pins s σ H R I h => ?_⟩
  refine wpAny_Call_method (T := "dict") (id := "dict.items") hbase rfl hline F.plainAttrs_dict F.slot_dict_items F.type_dict_items (thn (he.run pins s σ H _ I h) fun u s1 ⟨x, H1, I1, rx, d, o, kvs, ex, hd, q⟩ => ?_)
  subst ex
  obtain rfl : u = Value.ref d := rx
  obtain ⟨hs, hgd, hx, es, ep, hdt, hsz, ent⟩ := frzT2 I1 hd
  have raw : DT.Raw s1.heap d es ep := ⟨_, hgd, hx, hdt⟩
  refine ⟨raw.typeIs, fun b e => by cases e; exact ⟨_, hgd, hx.2.1⟩, ?_⟩
  have I2 : Inv X pins σ H1 { s1 with heap := s1.heap.push { cls := .type "dict_items", data := .fields #[.ref d] } } := I1.kept (t' := s1.toks) fun b ob q => Heap.get?_push_of_some _ q
  have fin : wpAny (model X.prog X.w) X.A (pyIter (.ref s1.heap.objs.size)) (PIE X pins σ (.Tuple elts kk tpos) R) X.xe { s1 with heap := s1.heap.push { cls := .type "dict_items", data := .fields #[.ref d] } } := by
    refine DT.iterI (d := d) ⟨_, Heap.get?_push_size _ rfl, rfl, rfl⟩ (raw.push _) (pi_one (tk := s1.toks) I2 _ (turn_itemsT _ hdt) ⟨.none, .none, ?_⟩ q)
    rw [← hsz]
    exact Heap.get?_push_size _ rfl
  show wpAny _ _ (callWith cpos (.builtin "dict.items") [.ref d] [] []) _ X.xe s1
  exact method_meetsIn F.slot_dict_items F.entry_dict_items rfl (PySem.evalArgs_none ⟨rfl, raw.typeIs, F.args_dict_items_1 _, _, DT.meetsItems hs, ⟨raw, fin⟩⟩)
/-- {k: v}, k a tuple -/
def tDisp1T (tk tv : TE) : TE := fun σ H Q => ∀ p, H p = none → tk σ (upd H p (.dT [])) fun x H1 => tv σ H1 fun v H2 => H2 p = some (.dT []) ∧ ∃ (b : Addr) (ks : List L2.Key), x = .ref b ∧ H2 b = some (.tup (ks.map kV)) ∧ Q (.ref p) (upd H2 p (.dT [(ks, v)]))
theorem pe_disp1T {X : Cx} {k v : Expr} {pos : Pos} {tk tv : TE} (hu : X.A.units + 1 < cLine) (hk : PE X k tk) (hv : PE X v tv) : PE X (.Dict [some k] [v] pos) (tDisp1T tk tv) := by
  refine ⟨fun pins s σ H Q I q => ?_⟩
  have hn := I.hok.fresh (Nat.le_refl s.heap.objs.size)
  have I1 := I.laid (a := s.heap.objs.size) (o := .dT []) (h' := s.heap.push { cls := .type "dict", data := .dict #[] }) (t' := s.toks) (fun _ _ q => Heap.get?_push_of_some _ q) (Nat.le_refl _) (dt_empty s.heap I.big)
  rw [arm_eval_Dict, zip_pairTrees [some k] [v] X.env pos rfl rfl, dictDisplay_pairs _ (fun h => by have := congrArg List.length h; rw [pairTrees_length _ _ _ _ rfl rfl] at this; cases this) (by rw [pairTrees_length _ _ _ _ rfl rfl]; show 1 < 17; decide)]
  refine wpAny_bind (wpAny_standAt (wpAny_bind (wpAny_subDictH (knd := tupleKind (mixKind X.prog X.w)) (Q := fun d s' => wpAny (model X.prog X.w) X.A (pure (Value.ref d)) _ X.xe s') (show X.A.units < cLine by omega) (by rw [pairTrees_length _ _ _ _ rfl rfl]; show 1 ≤ 15; decide) ?_)))
  refine pairTrees_cons_walk (thn (hk.run pins _ σ _ _ I1 (q _ hn)) fun u s1 ⟨x, H1, I2, rx, q1⟩ => thn (hv.run pins s1 σ H1 _ I2 q1) fun r s2 ⟨y, H2, I3, ry, q2⟩ => pairTrees_nil_walk ?_)
  obtain ⟨e, b, ks, ex, hb, q3⟩ := q2
  subst ex
  obtain rfl : u = Value.ref b := rx
  obtain ⟨z, hd, xs, rel, dd⟩ := dt_of I3.hok e
  cases rel
  refine ⟨[(ks, b, r)], ⟨rfl, rfl, key_of I3.hok hb, True.intro⟩, dd, fun h' tk' dd' hs => wpAny_pure ⟨.ref s.heap.objs.size, _, ?_, rfl, q3⟩⟩
  have hl : [(ks, y)].length ≤ sizeLine := by rw [sizeLine_eq]; show 1 ≤ 16777216; decide
  have nb : b ≠ s.heap.objs.size := ne_of hb e (fun z => nomatch z)
  obtain ⟨o, es, ep, hq, h2, h3, h4, _, h5⟩ := dd'
  refine d_write I3 (by rw [e]; exact True.intro) hs ⟨o, hq⟩ ⟨hl, hd, [(ks, b, r)], .cons ⟨rfl, (upd_ne nb).trans hb, ry⟩ .nil, o, es, ep, hq, h2, h3, h4, h5⟩
section
variable {K : PySem.W.Frag} {σ : L2.St} {G P H : Hp} {Q : VK} {nx bk ct : L2.St → Hp → Prop} {rt : VK} {D : Ends} {tt : TT} {td te ta tk tv : TE} {g : TG} {tb : TS} {as : TA} {ts : List Nat} {d : Addr}
theorem aDisp1T.goP {ks : List Int} {v : V} (J : Join G P H) (nt : NT P) (hk : ∀ P' H' S, Join G P' H' → NT P' → (∀ b G2 H2, Ex G G2 → Join G2 P' H2 → G2 b = some (.tup (ks.map V.int)) → S (.ref b) H2) → tk σ H' S) (hv : ∀ H' S, S v H' → tv σ H' S)
    (q : ∀ p P' G' H', H p = none → Ex P P' → Ex G G' → Join G' P' H' → NT P' → P' p = some (.dT (tK [(ks, v)])) → Q (.ref p) H') : tDisp1T tk tv σ H Q := by
  intro p hp
  have j1 : Join G (upd P p (.dT [])) (upd H p (.dT [])) := J.setPn hp
  have n1 : NT (upd P p (.dT [])) := nt.upd fun _ e => nomatch e
  refine hk _ _ _ j1 n1 fun b G2 H2 e2 j2 hb => hv _ _ ⟨j2.p _ _ upd_same, b, ks.map Sum.inl, rfl, by rw [tup_kV]; exact j2.g _ _ hb, ?_⟩
  exact q p _ G2 _ hp ((Ex.new (J.np hp)).mut (J.np hp)) e2 (j2.setPo (o := .dT (tK [(ks, v)])) upd_same) (n1.upd fun _ e => nomatch e) upd_same
/-- d[t] = v, t a tuple -/
theorem dputT_go {kvs : List (List Int × V)} {b : Addr} {ks : List Int} {v : V} (J : Join G P H) (nt : NT P) (hb : H b = some (.tup (ks.map V.int))) (h : P d = some (.dT (tK kvs))) (hl : kvs.length < 100000) (q : ∀ P' H', Join G P' H' → NT P' → P' = upd P d (.dT (tK (putK kvs ks v))) → nx σ H') : aDPut v (.ref b) nx σ (.ref d) H :=
  dputTP J hb h (by rw [tK_len]; exact hl) fun H' j' => q (upd P d (.dT (tK (putK kvs ks v)))) _ (by rw [tK_put] at j'; exact j') (nt.upd fun _ e => nomatch e) rfl
/-- t in d, t not in d -/
theorem dinT_go {kvs : List (List Int × V)} {b : Addr} {ks : List Int} (h : Rd H d (.dT (tK kvs))) (hb : H b = some (.tup (ks.map V.int))) (q : Q (.bl (valV kvs ks).isSome) H) : rDIn false (.ref b) (.ref d) H Q :=
  din_t h hb (by rw [if_neg (by decide), tK_val]; exact q)
theorem dnotT_go {kvs : List (List Int × V)} {b : Addr} {ks : List Int} (h : Rd H d (.dT (tK kvs))) (hb : H b = some (.tup (ks.map V.int))) (q : Q (.bl (!(valV kvs ks).isSome)) H) : rDIn true (.ref b) (.ref d) H Q :=
  din_t h hb (by rw [if_pos rfl, tK_val]; exact q)
theorem dgetT_go {kvs : List (List Int × V)} {b : Addr} {ks : List Int} {v : V} (h : Rd H d (.dT (tK kvs))) (hb : H b = some (.tup (ks.map V.int))) (hv : valV kvs ks = some v) (q : Q v H) : aDGet (.ref d) (.ref b) H Q :=
  dget_t h hb (by rw [tK_val]; exact hv) q
/-- d.get(t, x) -/
theorem dget2T_go {kvs : List (List Int × V)} {ty tx : TE} (h : Rd H d (.dT (tK kvs))) (q : ty σ H fun y H2 => tx σ H2 fun z H3 => rDGet2 d y z H3 Q) : aDGet2 ty tx σ (.ref d) H Q :=
  ⟨d, rfl, .inr ⟨_, h⟩, q⟩
theorem rdget2T_go {kvs : List (List Int × V)} {b : Addr} {ks : List Int} {z : V} (h : Rd H d (.dT (tK kvs))) (hb : H b = some (.tup (ks.map V.int))) (q : Q ((valV kvs ks).getD z) H) : rDGet2 d (.ref b) z H Q :=
  ⟨(valV kvs ks), .inr ⟨_, ks.map Sum.inl, b, h, rfl, by rw [hb, tup_kV], by rw [tK_val]⟩, q⟩
/-- len(d) -/
theorem lenT_go {kvs : List (List Int × V)} (h : H d = some (.dT (tK kvs))) (q : Q (.int kvs.length) H) : L2.rLenT [.ref d] H Q :=
  ⟨d, _, rfl, h, by rw [tK_len]; exact q⟩
/-- for t in d: d stands in the second part, locked -/
theorem forKT.go {kvs : List (List Int × V)} (J : Join G P H) (h : P d = some (.dT (tK kvs))) (htd : ∀ (H' : Hp) (Q : VK), Q (.ref d) H' → td σ H' Q) (I : Nat → Hp → Hp → L2.St → Prop) (h0 : ∀ od, I 0 G (upd P d (.frz od (.dT (tK kvs)))) σ)
    (hs : ∀ (od : Obj) (rt' : VK) (bk' : L2.St → Hp → Prop) (i : Nat) (k : List Int) (v : V) (b : Addr) (G' P' H' : Hp) (σ' : L2.St), kvs[i]? = some (k, v) → H' b = some (.tup (k.map V.int)) → P' d = some (.frz od (.dT (tK kvs))) → Join G' P' H' → I i G' P' σ' →
      g (.ref b) σ' H' fun σ2 H2 => tb ⟨fun σ3 H3 => ∃ G3 P3, Join G3 P3 H3 ∧ P3 d = some (.frz od (.dT (tK kvs))) ∧ I (i + 1) G3 P3 σ3, rt', bk', fun σ3 H3 => ∃ G3 P3, Join G3 P3 H3 ∧ P3 d = some (.frz od (.dT (tK kvs))) ∧ I (i + 1) G3 P3 σ3⟩ σ2 H2)
    (hq : ∀ (od : Obj) (G' P' H' : Hp) (σ' : L2.St), P' d = some (.frz od (.dT (tK kvs))) → I kvs.length G' P' σ' → Join G' (upd P' d (.dT (tK kvs))) H' → nx σ' H') : tLock (tFor (iKeys td) g tb) ⟨nx, rt, bk, ct⟩ σ H := by
  refine ⟨d, .dT (tK kvs), J.p _ _ h, trivial, fun od => htd _ _ ⟨d, od, rfl, .inr ⟨tK kvs, upd_same, ?_⟩⟩⟩
  refine for_keysT (fun i σ' H' => ∃ G3 P3, Join G3 P3 H' ∧ P3 d = some (.frz od (.dT (tK kvs))) ∧ I i G3 P3 σ') ⟨G, _, J.setPo h, upd_same, h0 od⟩ (fun i σ' H' _ ⟨G', P', j', hd, _⟩ => j'.p _ _ hd) (fun i k v b σ' H' hk hb ⟨G', P', j', hd, hI⟩ => ?_) (fun σ' H' ⟨G', P', j', hd, hI⟩ => ⟨j'.p _ _ hd, hq od G' P' _ σ' hd (by rw [tK_len] at hI; exact hI) (j'.setPo hd)⟩)
  obtain ⟨n, hn, rfl⟩ := tK_at hk
  exact hs od _ _ i n v b G' P' H' σ' hn (by rw [hb, tup_kV]) hd j' hI
/-- for t, v in d.items() -/
def aItems (td : TE) (g : TG) (tb : TS) (D : Ends) (σ : L2.St) : Hp → Prop := fun H => tLock (tFor (iItemsT td) g tb) D σ H
theorem forIT.go {kvs : List (List Int × V)} (J : Join G P H) (h : P d = some (.dT (tK kvs))) (htd : ∀ (H' : Hp) (Q : VK), Q (.ref d) H' → td σ H' Q) (I : Nat → Hp → Hp → L2.St → Prop) (h0 : ∀ od, I 0 G (upd P d (.frz od (.dT (tK kvs)))) σ)
    (hs : ∀ (od : Obj) (rt' : VK) (bk' : L2.St → Hp → Prop) (i : Nat) (k : List Int) (v : V) (b T : Addr) (G0 G' P' H' : Hp) (σ' : L2.St), kvs[i]? = some (k, v) → H' b = some (.tup (k.map V.int)) → P' d = some (.frz od (.dT (tK kvs))) → Join G' P' H' → G' T = some (.tup [.ref b, v]) → Ex G0 G' → I i G0 P' σ' →
      g (.ref T) σ' H' fun σ2 H2 => tb ⟨fun σ3 H3 => ∃ G3 P3, Join G3 P3 H3 ∧ P3 d = some (.frz od (.dT (tK kvs))) ∧ I (i + 1) G3 P3 σ3, rt', bk', fun σ3 H3 => ∃ G3 P3, Join G3 P3 H3 ∧ P3 d = some (.frz od (.dT (tK kvs))) ∧ I (i + 1) G3 P3 σ3⟩ σ2 H2)
    (hq : ∀ (od : Obj) (G' P' H' : Hp) (σ' : L2.St), P' d = some (.frz od (.dT (tK kvs))) → I kvs.length G' P' σ' → Join G' (upd P' d (.dT (tK kvs))) H' → nx σ' H') : tLock (tFor (iItemsT td) g tb) ⟨nx, rt, bk, ct⟩ σ H := by
  refine ⟨d, .dT (tK kvs), J.p _ _ h, trivial, fun od => htd _ _ ⟨d, od, tK kvs, rfl, upd_same, ?_⟩⟩
  refine ⟨fun i m σ' H' => m = kvs.length - i ∧ i ≤ kvs.length ∧ ∃ G3 P3, Join G3 P3 H' ∧ P3 d = some (.frz od (.dT (tK kvs))) ∧ I i G3 P3 σ', ⟨kvs.length, by simp, Nat.zero_le _, G, _, J.setPo h, upd_same, h0 od⟩, ?_⟩
  rintro i m σ' H' ⟨rfl, hi, G', P', j', hd, hI⟩
  by_cases c : i < kvs.length
  · refine .inr ⟨⟨j'.p _ _ hd, by rw [tK_len]; exact c⟩, fun σ3 H3 => ∃ G3 P3, Join G3 P3 H3 ∧ P3 d = some (.frz od (.dT (tK kvs))) ∧ I (i + 1) G3 P3 σ3, fun σ3 H3 p' => ⟨kvs.length - (i + 1), by omega, rfl, c, p'⟩, fun x H2 y => ?_⟩
    obtain ⟨T, k, v, b, hk, hb, rfl, hT, rfl⟩ := y
    obtain ⟨n, hn, rfl⟩ := tK_at hk
    have nb : b ≠ T := ne_of_none hb hT
    exact hs od _ _ i n v b T G' _ P' _ σ' hn (by rw [upd_ne nb, hb, tup_kV]) hd (j'.newG hT) upd_same (Ex.new (j'.ng hT)) hI
  · have e : i = kvs.length := by omega
    subst e
    exact .inl ⟨⟨j'.p _ _ hd, by rw [tK_len]; exact Nat.le_refl _⟩, j'.p _ _ hd, hq od G' P' _ σ' hd hI (j'.setPo hd)⟩
/-- [.. for t in d ..]: d stands in the second part, locked -/
theorem lcKT.go {kvs : List (List Int × V)} (I : Nat → List V → Hp → Prop) (J : Join G P H) (h : P d = some (.dT (tK kvs))) (htd : ∀ (H' : Hp) (Q : VK), Q (.ref d) H' → td σ H' Q) (hl : kvs.length ≤ 1000000)
    (h0 : I 0 [] G) (hm : ∀ i us G1 G2, Ex G1 G2 → I i us G1 → I i us G2) (hz : ∀ i us G2, I i us G2 → us.length ≤ i)
    (hs : ∀ (od : Obj) (i : Nat) (k : List Int) (v : V) (b : Addr) (us : List V) (G' P' H' : Hp) (R : VK) (R0 : Hp → Prop), kvs[i]? = some (k, v) → H' b = some (.tup (k.map V.int)) → Ex G G' → (∀ c o, c ≠ d → P c = some o → P' c = some o) → P' d = some (.frz od (.dT (tK kvs))) → Join G' P' H' → I i us G' →
      (∀ y G2 H2, Ex G' G2 → Join G2 P' H2 → I (i + 1) (us ++ [y]) G2 → R y H2) → (∀ G2 H2, Ex G' G2 → Join G2 P' H2 → I (i + 1) us G2 → R0 H2) →
      g (.ref b) (wipe σ ts) H' fun σ2 H2 => wipe σ2 ts = wipe σ ts ∧ tt σ2 H2 fun b H3 => if b = true then te σ2 H3 R else R0 H3)
    (hq : ∀ p us G' H', H p = none → Ex G G' → Join G' P H' → G' p = some (.lst us) → I kvs.length us G' → Q (.ref p) H') : tLockE (tLc (iKeys td) g tt te ts) σ H Q := by
  refine ⟨d, .dT (tK kvs), J.p _ _ h, trivial, fun od => htd _ _ ⟨d, od, rfl, .inr ⟨tK kvs, upd_same, fun L hL => ?_⟩⟩⟩
  have nL : L ≠ d := fun e => by rw [e, upd_same] at hL; cases hL
  have hL0 : H L = none := by rw [upd_ne nL] at hL; exact hL
  have gL : G L = none := J.ng hL0
  have pL : P L = none := J.np hL0
  have j1 : Join G (upd P d (.frz od (.dT (tK kvs)))) (upd H d (.frz od (.dT (tK kvs)))) := J.setPo h
  refine lc_keysT (fun i H' => ∃ G' P' us, Ex G G' ∧ (∀ c o, c ≠ d → P c = some o → P' c = some o) ∧ P' d = some (.frz od (.dT (tK kvs))) ∧ P' L = some (.lst us) ∧ I i us G' ∧ Join G' P' H') ⟨G, upd (upd P d (.frz od (.dT (tK kvs)))) L (.lst []), [], Ex.refl _, fun c o nc hc => ?_, Eq.trans (upd_ne (Ne.symm nL)) upd_same, upd_same, h0, j1.setP gL⟩ (fun i H' _ ⟨G', P', us, _, _, hd, _, _, j'⟩ => j'.p _ _ hd) (fun i k x b H' hk hb ⟨G', P', us, e', hP, hd, hLs, hI, j'⟩ => ?_) (fun H' ⟨G', P', us, e', hP, hd, hLs, hI, j'⟩ => ?_)
  · rw [upd_ne (ne_of_none hc pL), upd_ne nc]; exact hc
  · obtain ⟨n, hn, rfl⟩ := tK_at hk
    have hul := hz _ _ _ hI
    have hil := (List.getElem?_eq_some_iff.mp hn).1
    refine hs od i n x b us G' P' H' _ _ hn (by rw [hb, tup_kV]) e' hP hd j' hI (fun y G2 H2 e2 j2 hI2 => ⟨us, j2.p _ _ hLs, Nat.lt_of_le_of_lt (show us.length ≤ 1000000 by omega) (by decide), G2, upd P' L (.lst (us ++ [y])), us ++ [y], e'.trans e2, fun c o nc hc => ?_, Eq.trans (upd_ne (Ne.symm nL)) hd, upd_same, hI2, j2.setPo hLs⟩) (fun G2 H2 e2 j2 hI2 => ⟨G2, P', us, e'.trans e2, hP, hd, hLs, hI2, j2⟩)
    rw [upd_ne (ne_of_none hc pL)]; exact hP c o nc hc
  · rw [tK_len] at hI
    have j3 : Join G' (upd P' d (.dT (tK kvs))) (upd H' d (.dT (tK kvs))) := j'.setPo hd
    obtain ⟨G2, j4, e4, k4⟩ := j3.back (P := P) fun c o hc => by
      by_cases z : c = d
      · subst z; rw [upd_same, ← h]; exact hc
      · rw [upd_ne z]; exact hP c o z hc
    exact ⟨j'.p _ _ hd, hq L us G2 _ hL0 (e'.trans e4) j4 (k4 L _ (Eq.trans (upd_ne nL) hLs) pL) (hm _ _ _ _ e4 hI)⟩
/-- list(d) -/
def rListT : List V → Hp → VK → Prop := fun xs H Q => ∃ d kvs, xs = [V.ref d] ∧ Rd H d (.dT kvs) ∧ ∀ p bs, H p = none → IsKeys H kvs bs → Q (.ref p) (upd H p (.lst (bs.map V.ref)))
theorem cr_listT {X : Cx} (hc : X.calm = true) : CallR X (.type "list") rListT := call_list_dT hc
theorem listT_go {kvs : List (List Int × V)} (J : Join G P H) (n : NT P) (h : Rd H d (.dT (tK kvs)))
    (q : ∀ ys p G' H', H p = none → Ex G G' → Join G' P H' → G' p = some (.lst ys) → TupL iV G' ys (kvs.map (·.1)) → Q (.ref p) H') : rListT [.ref d] H Q := by
  refine ⟨d, _, rfl, h, fun p bs hp hb => ?_⟩
  obtain ⟨l1, hz⟩ := isKeys_zip hb (nss := kvs.map (·.1)) (by unfold tK; rw [List.map_map, List.map_map]; rfl)
  have ht : TupL iV G (bs.map V.ref) (kvs.map (·.1)) := by
    have := tupL_zip (f := iV) (G := G) (zs := (bs.map V.ref).zip (kvs.map (·.1))) fun z hz1 => by
      obtain ⟨t, e1, e2⟩ := hz z hz1
      exact ⟨t, e1, n.gt J e2⟩
    rw [List.map_fst_zip (by rw [List.length_map, l1]; exact Nat.le_refl _), List.map_snd_zip (by rw [List.length_map V.ref, l1]; exact Nat.le_refl _)] at this
    exact this
  have e : Ex G (upd G p (.lst (bs.map V.ref))) := Ex.new (J.ng hp)
  exact q _ p _ _ hp e (J.newG hp) upd_same (ht.mono e)
end
end Lv

/-! items and slices of a value that is a list or a tuple; ranges that may be below 0 -/
namespace Lv
open PySem PySem.Spec PyProof.Rows L2
variable [TabA]
section
variable {X : Cx}
def rIxS (K : PySem.W.Frag) : R2 := fun x y H Q => rIxL K x y H Q ∨ rIxT K x y H Q
theorem ix_seq : IxR X (rIxS X.K) := fun value slice pins s σ H x y v u Q I rx ry h hs => h.elim (fun h => ix_list value slice pins s σ H x y v u Q I rx ry h hs) (fun h => ix_tup value slice pins s σ H x y v u Q I rx ry h hs)
theorem call_listK {K : PySem.W.Frag} (h : X.K = K) : CallR X (.type "list") (fun xs H Q => ∃ p ys, xs = [V.ref p] ∧ (SqL K H p ys ∨ SqT K H p ys) ∧ ∀ l, H l = none → Q (.ref l) (upd H l (.lst ys))) := h ▸ call_list_of
theorem ix_seqK {K : PySem.W.Frag} (h : X.K = K) : IxR X (rIxS K) := h ▸ ix_seq
def rSlS (K : PySem.W.Frag) : V → Option Int → Option Int → Hp → VK → Prop := fun x lo hi H Q => rSlL K x lo hi H Q ∨ rSlA K x lo hi H Q
theorem sl_seq : SlR X (rSlS X.K) := SlR.or sl_list sl_tupA
theorem sl_seqK {K : PySem.W.Frag} (h : X.K = K) : SlR X (rSlS K) := h ▸ sl_seq
end
section
variable {K : PySem.W.Frag} {σ : L2.St} {G P H : Hp} {Q : VK} {nx bk ct : L2.St → Hp → Prop} {rt : VK} {tt : TT} {te : TE} {g : TG} {tb : TS} {ts : List Nat} {a : Addr} {xs : List V}
theorem ixS_go {k : Int} {v : V} (J : Join G P H) (h : Sq G a xs) (l : atI xs k = some v) (q : Q v H) : rIxS K (.ref a) (.int k) H Q :=
  h.elim (fun h => .inl (w_ixL (J.g _ _ h) l q)) (fun h => .inr (w_ixT (J.g _ _ h) l q))
theorem slS_go {lo hi : Option Int} (J : Join G P H) (h : Sq G a xs) (q : ∀ t G' H', Ex G G' → Join G' P H' → Sq G' t (cutV xs lo hi) → Q (.ref t) H') : rSlS K (.ref a) lo hi H Q := by
  rcases h with h | h
  · exact .inl ⟨a, xs, rfl, sqL (J.g _ _ h), fun p hp => q p _ _ (Ex.new (J.ng hp)) (J.newG hp) (.inl upd_same)⟩
  · refine .inr ⟨a, xs, rfl, sqT (J.g _ _ h), fun hw => ?_, fun _ p hp => q p _ _ (Ex.new (J.ng hp)) (J.newG hp) (.inr upd_same)⟩
    refine q a G H (Ex.refl _) J (.inr ?_)
    unfold cutV
    rw [hw.1, hw.2, List.drop_zero, Nat.sub_zero, List.take_length]; exact h
theorem cut_mid {i j : Nat} (h : i ≤ j) (hj : j ≤ xs.length) : cutV xs (some (i : Int)) (some (j : Int)) = (xs.drop i).take (j - i) := by
  unfold cutV
  rw [HT.sIx_nat, HT.sIx_nat, Nat.min_eq_left (show i ≤ xs.length by omega), Nat.min_eq_left hj]
/-- ranges of any bound -/
theorem aLcR.goN {n : Nat} (Pp : Hp → Prop) (I : Nat → List V → Hp → Prop) (J : Join G P H) (hP : Pp P) {m : Int} (hn : m.toNat = n) (hm : -1000000 ≤ m ∧ m ≤ 1000000)
    (h0 : ∀ G', Ex G G' → I 0 [] G') (hI : ∀ i ws G2 D us ts, G2 D = some (.lst us) → I i ws G2 → I i ws (upd G2 D (.lst ts))) (hz : ∀ i ws G2, I i ws G2 → ws.length ≤ 1000000)
    (hs : ∀ (i : Nat) (ws : List V) (G' P' H' : Hp) (R : VK) (R0 : Hp → Prop), i < n → Ex G G' → I i ws G' → Pp P' → Join G' P' H' →
      (∀ v G2 P2 H2, Ex G' G2 → Pp P2 → Join G2 P2 H2 → I (i + 1) (ws ++ [v]) G2 → R v H2) → (∀ G2 P2 H2, Ex G' G2 → Pp P2 → Join G2 P2 H2 → I (i + 1) ws G2 → R0 H2) →
      g (.int (i : Int)) (wipe σ ts) H' fun σ2 H2 => wipe σ2 ts = wipe σ ts ∧ tt σ2 H2 fun b H3 => if b = true then te σ2 H3 R else R0 H3)
    (hq : ∀ p ws G' P' H', H p = none → Ex G G' → G' p = some (.lst ws) → I n ws G' → Pp P' → Join G' P' H' → Q (.ref p) H') : aLcR g tt te ts σ [.int m] H Q := by
  obtain ⟨j, e, _, _, q⟩ := (aLcR.go (m := (n : Int)) Pp I J hP rfl (by omega) h0 hI hz hs hq : aLcR g tt te ts σ [.int (n : Int)] H Q)
  injection e with e _
  injection e with e
  refine ⟨m, rfl, by omega, by omega, ?_⟩
  rw [← e, Int.toNat_natCast] at q
  rw [hn]; exact q
theorem aForR.goN {m : Int} {n : Nat} (hn : m.toNat = n) (hm : -1000000 ≤ m ∧ m ≤ 1000000) (I : Nat → Hp → Hp → L2.St → Prop) (J : Join G P H) (h0 : I 0 G P σ)
    (hs : ∀ (i : Nat) (G' P' H' : Hp) (σ' : L2.St), i < n → Join G' P' H' → I i G' P' σ' → g (.int (i : Int)) σ' H' fun σ2 H2 => tb ⟨fun σ3 H3 => ∃ G3 P3, Join G3 P3 H3 ∧ I (i + 1) G3 P3 σ3, rt, nx, fun σ3 H3 => ∃ G3 P3, Join G3 P3 H3 ∧ I (i + 1) G3 P3 σ3⟩ σ2 H2)
    (hq : ∀ (G' P' H' : Hp) (σ' : L2.St), Join G' P' H' → I n G' P' σ' → nx σ' H') : aForR g tb ⟨nx, rt, bk, ct⟩ σ [.int m] H := by
  obtain ⟨j, e, _, _, q⟩ := (aForR.go (m := (n : Int)) (bk := bk) (ct := ct) rfl (by omega) I J h0 hs hq : aForR g tb ⟨nx, rt, bk, ct⟩ σ [.int (n : Int)] H)
  injection e with e _
  injection e with e
  refine ⟨m, rfl, by omega, by omega, ?_⟩
  rw [← e, Int.toNat_natCast] at q
  rw [hn]; exact q
end
end Lv

/-! comprehensions of dicts whose keys may be tuples, of one clause and of two -/
namespace Lv
open PySem PySem.Spec PyProof.Rows L2
variable [TabA]
/-- a new dict's state -/
def Emp (o : HO) : Prop := o = .dK [] ∨ o = .dT []
theorem emp_ok {P : Program} {w : World} {H : Hp} {o : HO} (e : Emp o) (h : Heap) (hb : sysModules < h.objs.size) : ObjOk P w H (h.push { cls := .type "dict", data := .dict #[] }) h.objs.size o := by
  rcases e with rfl | rfl
  · exact dk_empty h hb
  · exact dt_empty h hb
/-- one pair more, keys of either kind -/
theorem put_any {X : Cx} {pins : List (Addr × Obj)} {σ : L2.St} {H H' : Hp} {s : Shared} {E : Value → Shared → Prop} {D : Addr} {y v : V} {u r : Value} {Q : Unit → Shared → Prop} (hu : X.A.units + 1 < cLine) (I : L2.Inv X pins σ H s) (g : DPut H D y v H')
    (ry : L2.RelV y u) (rv : L2.RelV v r) (h : ∀ s', L2.Inv X pins σ H' s' → Q () s') : wpAny (model X.prog X.w) X.A (dictSet D u r) Q E s := by
  rcases g with ⟨kvs, k, e, ey, l, eH⟩ | ⟨kvs, k, b, e, ey, eb, l, eH⟩
  · subst ey eH
    exact d_dictSet I e l ry rv h
  · subst ey eH
    cases (show u = Value.ref b from ry)
    obtain ⟨z, hd, xs, rel, dd⟩ := dt_of I.hok e
    have hz : xs.length ≤ sizeLine := by rw [← Paired.length rel]; exact z
    have hl : (putK kvs k v).length ≤ sizeLine := by have := length_putK kvs k v; omega
    refine wpAny_dictSet_heap (knd := tupleKind (mixKind X.prog X.w)) (hsz := hz) (show X.A.units < cLine by omega) (key_of I.hok eb) dd fun h' dd' hs => h _ ?_
    obtain ⟨o, es, ep, hq, h2, h3, h4, _, h5⟩ := dd'
    refine d_write I (by rw [e]; exact True.intro) hs ⟨o, hq⟩ ⟨hl, hd, _, (rel.put k eb rv).keeps fun c ys ec => ?_, o, es, ep, hq, h2, h3, h4, h5⟩
    rw [upd_ne (ne_of ec e (fun z => nomatch z))]
    exact ec
section
variable {X : Cx}
/-- where a block's loop stands -/
structure Blk (X : Cx) (own : List (Str × Nat)) (scope : Scope) (σ : L2.St) (tg : Expr) (J : It) (fp : List Addr) (it : Addr) (tn : Nat → Heap → Prop) (s3 : Shared) (H3 : Hp) (ce : Env) (C : Addr) (cl : List (Str × Addr)) (s4 : Shared) : Prop where
  ceq : ce = compEnvC scope cl C X.env
  T : L2.Turn X.prog X.w X.K tg J fp it tn
  i4 : L2.Inv (X.blk s3 H3 scope ce fp) [] (wipe σ (own.map (·.2))) H3 s4
  st : tn 0 s4.heap
  nf : ∀ b ∈ fp, H3 b = none
  stat : ∀ {σ' : L2.St} {H' : Hp} {s' : Shared}, L2.Inv (X.blk s3 H3 scope ce fp) [] σ' H' s' → (∀ b ∈ fp, H' b = none) → ∀ b ∈ fp, FpOk (X.blk s3 H3 scope ce fp) [] H' b
  i3 : ∃ pins, L2.Inv X pins σ H3 s3 ∧ ∀ b ∈ fp, FpOk X pins H3 b
/-- the frame of a dict's comprehension: what is left is the loop -/
theorem dc_frame {pins : List (Addr × Obj)} {s : Shared} {σ : L2.St} {H : Hp} {Q : VK} {kx vx tg iter : Expr} {ifs : List Expr} {rest : List Comprehension} {scope : Scope} {own : List (Str × Nat)} {pos pos' : Pos} {wi : TI} {o0 : HO} {use : Option (Value → Sem Unit)} {Qf : Value → Shared → Prop} {R : It → Addr → Hp → Prop}
    (hc : X.calm = true) (hN : X.N.Nodup) (em : Emp o0) (I : L2.Inv X pins σ H s) (hi : PI X tg iter wi) (ok : BlkOk X.N X.env.scope scope own) (hs : ∀ x, foldedSetIterable iter X.env x = pure x)
    (h : wi σ H fun J H1 => ∀ D, H1 D = none → R J D (upd H1 D o0))
    (hloop : ∀ (J : It) (D : Addr) (fp : List Addr) (it : Addr) (tn : Nat → Heap → Prop) (s3 : Shared) (H3 : Hp) (ce : Env) (C : Addr) (cl : List (Str × Addr)) (s4 : Shared), R J D H3 → Blk X own scope σ tg J fp it tn s3 H3 ce C cl s4 →
      (∀ H5 s6, L2.Inv (X.blk s3 H3 scope ce fp) [] (wipe σ (own.map (·.2))) H5 s6 → Q (.ref D) H5 → compPost (model X.prog X.w) X.A X.xe use Qf (.ref D) C (.ok .next) s6) →
      codeAny (model X.prog X.w) X.A (.compLoop (.DictComp kx vx (⟨tg, iter, ifs, 0⟩ :: rest) scope pos) 0 (.ref it) (.ref D) ce) (compPost (model X.prog X.w) X.A X.xe use Qf (.ref D) C) s4)
    (hRR : ∀ D C s' m H', L2.Inv X pins σ H' s' → Q (.ref D) H' → s'.heap.Ns C m → FpOk X pins H' C → compPost (model X.prog X.w) X.A X.xe use Qf (.ref D) C (.ok .next) s') :
    wpAny (model X.prog X.w) X.A (comprehension (.DictComp kx vx (⟨tg, iter, ifs, 0⟩ :: rest) scope pos) scope X.env pos' newDict false (eval iter X.env) use) Qf X.xe s := by
  have hfree : ∀ y ∈ scope.names, y.2 = .free → ∃ c, X.env.cells.lookup y.1 = some c := fun y hy e => (ok.free y hy e).elim (fun k => I.ok.has _ (.inl k)) (fun k => I.ok.has _ (.inr k))
  refine wpAny_comprehension_free (use := use) rfl hs (closure_ok hfree) ok.kind (fun y hy e => by rw [ok.uniq y hy, e]) (thn (hi.run pins s σ H _ I h) fun xv s1 hx => thn hx fun itv s2 ⟨it, fp, tn, J, H2, e, I2, T, st2, f2, q⟩ => ?_)
  subst e
  refine wpAny_newObj_type (newEnv_comp ?_)
  generalize hD : s2.heap.objs.size = D
  have q := q D (I2.hok.fresh (Nat.le_of_eq hD))
  generalize hs3 : ({ s2 with heap := s2.heap.push { cls := .type "dict", data := .dict #[] } } : Shared) = s3
  have h3 : s3.heap = s2.heap.push { cls := .type "dict", data := .dict #[] } := by rw [← hs3]
  have I3 : L2.Inv X pins σ (upd H2 D o0) s3 := by
    rw [← hs3]
    refine I2.laid (t' := s2.toks) (fun b o e => Heap.get?_push_of_some _ e) (Nat.le_of_eq hD) ?_
    rw [← hD]
    exact emp_ok em s2.heap I2.big
  have f3 : ∀ b ∈ fp, FpOk X pins (upd H2 D o0) b ∧ b < s3.heap.objs.size := fun b hb => by
    obtain ⟨ob, eb, _⟩ := T.obj _ _ st2 b hb
    have hlt := Heap.lt_size eb
    exact ⟨⟨by rw [upd_ne (by rw [← hD]; exact Nat.ne_of_lt hlt)]; exact (f2 b hb).1, (f2 b hb).2⟩, by rw [h3, Heap.size_push]; exact Nat.lt_succ_of_lt hlt⟩
  have st3 : tn 0 s3.heap := T.keep _ _ _ st2 fun b _ o e => by rw [h3]; exact Heap.get?_push_of_some _ e
  have I4 := block_start I3 ok hN f3
  show codeAny _ _ (.compStart (.DictComp kx vx (⟨tg, iter, ifs, 0⟩ :: rest) scope pos) 0 (.ref it) (.ref D) (compEnvC scope (cellsFrom (s3.heap.objs.size + 1) scope.names (cloFrom X.env.cells scope.names [])) s3.heap.objs.size X.env)) (compPost (model X.prog X.w) X.A X.xe use Qf (.ref D) s3.heap.objs.size) { s3 with heap := pushCells (s3.heap.push { cls := .type "dict", data := .dict #[] }) scope.names }
  generalize hcl : cellsFrom (s3.heap.objs.size + 1) scope.names (cloFrom X.env.cells scope.names []) = cl at I4 ⊢
  generalize hce : compEnvC scope cl s3.heap.objs.size X.env = ce at I4 ⊢
  have cL : ce.locals = s3.heap.objs.size := by subst hce; rfl
  generalize hs4 : ({ s3 with heap := pushCells (s3.heap.push { cls := .type "dict", data := .dict #[] }) scope.names } : Shared) = s4 at I4 ⊢
  have st4 : tn 0 s4.heap := T.keep _ _ _ st3 fun b _ o e => by rw [← hs4]; exact pushCells_keeps _ _ _ _ (Heap.get?_push_of_some _ e)
  have loop := hloop J D fp it tn s3 (upd H2 D o0) ce s3.heap.objs.size cl s4 q ⟨hce.symm, T, I4, st4, fun b hb => (f3 b hb).1.1, fun {σ' H' s'} I' hn b hb =>
    ⟨hn b hb, (I'.ok.exf b hb).1, I'.ok.exfs b hb, .inl hb, fun x c e => (I'.ok.exf b hb).2 x c e, fun p hp => absurd (show p ∈ ([] : List (Addr × Obj)) ++ [] from hp) (by simp)⟩, pins, I3, fun b hb => (f3 b hb).1⟩ fun H5 s6 I6 qq => by
      have I7 : L2.Inv X pins σ H5 s6 := I3.call' (ch := fp) I6.os I6.base I6.hok I6.bare fun b hb => ⟨(f3 b hb).1.2.2.2.1, (f3 b hb).1.2.1, (f3 b hb).1.2.2.2.2.1, (f3 b hb).1.2.2.2.2.2⟩
      have nC : H5 s3.heap.objs.size = none := by
        have z : H5 ce.locals = none := I6.free
        rw [cL] at z; exact z
      obtain ⟨m, hn, _⟩ := I6.loc
      have hn : s6.heap.Ns ce.locals m := hn
      rw [cL] at hn
      exact hRR D s3.heap.objs.size s6 m H5 I7 qq hn (I3.fpOk (Nat.le_refl _) nC)
  exact codeAny_compStart_dict loop (T.self X.A 0 _ _ _ st4 loop)
/-- {k: v for target in iter if ..}: D the new dict, o0 its first state -/
def tDcG (o0 : HO) (wi : TI) (g : TG) (tt : TT) (tk tv : TE) (vs : List Nat) : TE := fun σ H Q => wi σ H fun J H1 => ∀ D, H1 D = none → ∃ W : Nat → Nat → Hp → Prop, (∃ m, W 0 m (upd H1 D o0)) ∧ ∀ i m H, W i m H →
  (J.stop i H ∧ Q (.ref D) H) ∨ (J.go i H ∧ ∃ Nx : Hp → Prop, (∀ H', Nx H' → ∃ m', m' < m ∧ W (i + 1) m' H') ∧ ∀ x H', J.yld i H x H' → g x (wipe σ vs) H' fun σ2 H2 => wipe σ2 vs = wipe σ vs ∧ tt σ2 H2 fun b H3 =>
    if b = true then tk σ2 H3 fun y H4 => tv σ2 H4 fun z H5 => ∃ H6, DPut H5 D y z H6 ∧ Nx H6 else Nx H3)
theorem pe_dcG {kx vx tg iter : Expr} {ifs : List Expr} {scope : Scope} {own : List (Str × Nat)} {pos : Pos} {wi : TI} {g : TG} {tt : TT} {tk tv : TE} {o0 : HO} (em : Emp o0) (hu : X.A.units + 1 < cLine) (hc : X.calm = true) (hN : X.N.Nodup) (hi : PI X tg iter wi) (ok : BlkOk X.N X.env.scope scope own)
    (hg : ∀ (s : Shared) (H : Hp) (C : Addr) (cl : List (Str × Addr)) (fp : List Addr), PG (X.blk s H scope (compEnvC scope cl C X.env) fp) tg g) (ht : ∀ (s : Shared) (H : Hp) (C : Addr) (cl : List (Str × Addr)) (fp : List Addr), PTs (X.blk s H scope (compEnvC scope cl C X.env) fp) ifs tt)
    (hk : ∀ (s : Shared) (H : Hp) (C : Addr) (cl : List (Str × Addr)) (fp : List Addr), PE (X.blk s H scope (compEnvC scope cl C X.env) fp) kx tk)
    (he : ∀ (s : Shared) (H : Hp) (C : Addr) (cl : List (Str × Addr)) (fp : List Addr), PE (X.blk s H scope (compEnvC scope cl C X.env) fp) vx tv) (hs : ∀ x, foldedSetIterable iter X.env x = pure x := by intro _; rfl) :
    PE X (.DictComp kx vx [⟨tg, iter, ifs, 0⟩] scope pos) (tDcG o0 wi g tt tk tv (own.map (·.2))) := by
  refine ⟨fun pins s σ H Q I h => ?_⟩
  rw [arm_eval_DictComp]
  refine dc_frame (Q := Q) (R := fun J D H3 => ∃ W : Nat → Nat → Hp → Prop, (∃ m, W 0 m H3) ∧ ∀ i m H, W i m H →
    (J.stop i H ∧ Q (.ref D) H) ∨ (J.go i H ∧ ∃ Nx : Hp → Prop, (∀ H', Nx H' → ∃ m', m' < m ∧ W (i + 1) m' H') ∧ ∀ x H', J.yld i H x H' → g x (wipe σ (own.map fun p : Str × Nat => p.2)) H' fun σ2 H2 => wipe σ2 (own.map fun p : Str × Nat => p.2) = wipe σ (own.map fun p : Str × Nat => p.2) ∧ tt σ2 H2 fun b H3 =>
      if b = true then tk σ2 H3 fun y H4 => tv σ2 H4 fun z H5 => ∃ H6, DPut H5 D y z H6 ∧ Nx H6 else Nx H3)) hc hN em I hi ok hs h ?_ fun D C s' m H' I' q hn f => ⟨m, hn, fun h'' sb => ?_⟩
  · rintro J D fp it tn s3 H3 ce C cl s4 ⟨W, ⟨m0, w0⟩, turn⟩ ⟨rfl, T, I4, st4, nfp, stat, _⟩ hexit
    refine compLoop_anyD (fun n s' => ∃ i H', L2.Inv (X.blk s3 H3 scope (compEnvC scope cl C X.env) fp) [] (wipe σ (own.map (·.2))) H' s' ∧ tn i s'.heap ∧ (∀ b ∈ fp, H' b = none) ∧ W i n H') ?_ m0 ⟨0, H3, I4, st4, nfp, w0⟩
    rintro n s5 ⟨i, H5, I5, st5, n5, w5⟩
    rcases turn i n H5 w5 with ⟨stop, qq⟩ | ⟨go, Nx, hNx, step⟩
    · refine thnF (T.done (X.blk s3 H3 scope (compEnvC scope cl C X.env) fp) rfl rfl rfl hc i [] s5 _ H5 (fun _ _ => False) I5 (stat I5 n5) st5 stop) fun r s6 ⟨hr, I6⟩ => ?_
      subst hr
      exact hexit H5 s6 I6 qq
    · refine thnF (T.item (X.blk s3 H3 scope (compEnvC scope cl C X.env) fp) rfl rfl rfl hc i [] s5 _ H5 (fun _ _ => False) I5 (stat I5 n5) st5 go) fun r s6 ⟨u, hr, h6⟩ => ?_
      subst hr
      refine thnF h6 fun _ s7 ⟨x, H7, I7, r7, y7, st7, n7⟩ => ?_
      have I7' := I7.pinned (stat I7 n7) (T.obj _ _ st7)
      refine thnF ((hg _ _ _ _ _).run _ s7 _ H7 x u _ I7' r7 (step x H7 y7)) fun _ s8 ⟨σ8, H8, I8, hw8, q8⟩ => ?_
      refine thnF ((ht _ _ _ _ _).run _ s8 σ8 H8 _ I8 q8) fun b s9 ⟨H9, I9, q9⟩ => ?_
      have fin : ∀ {s' : Shared} {H' : Hp}, L2.Inv (X.blk s3 H3 scope (compEnvC scope cl C X.env) fp) ([] ++ pinsAt fp s7.heap) σ8 H' s' → Nx H' → ∃ m, m < n ∧ ∃ i H', L2.Inv (X.blk s3 H3 scope (compEnvC scope cl C X.env) fp) [] (wipe σ (own.map (·.2))) H' s' ∧ tn i s'.heap ∧ (∀ b ∈ fp, H' b = none) ∧ W i m H' := fun {s' H'} I' nx => by
        obtain ⟨m', hm, w'⟩ := hNx H' nx
        have pin' : ∀ b ∈ fp, ∀ o, s7.heap.get? b = some o → s'.heap.get? b = some o ∧ H' b = none := fun b hb o e =>
          let z := I'.pin (b, o) (List.mem_append_right _ (List.mem_append_right _ (mem_pinsAt hb e)))
          ⟨z.1, z.2.1⟩
        refine ⟨m', hm, i + 1, H', (I'.unpinned (pins := [])).weak (by rw [← hw8, wipe_length]) (fun j v e => by rw [← hw8] at e; exact (wipe_some e).1), T.keep _ _ _ st7 fun b hb o e => (pin' b hb o e).1, fun b hb => ?_, w'⟩
        obtain ⟨o, e, _⟩ := T.obj _ _ st7 b hb
        exact (pin' b hb o e).2
      cases b with
      | false =>
        simp only [Bool.false_eq_true, if_false] at q9 ⊢
        exact fin I9 q9
      | true =>
        simp only [if_true] at q9 ⊢
        refine thnF ((hk _ _ _ _ _).run _ s9 σ8 H9 _ I9 q9) fun z s10 ⟨yk, H10, I10, r10, q10⟩ => ?_
        refine thnF ((he _ _ _ _ _).run _ s10 σ8 H10 _ I10 q10) fun z2 s11 ⟨yv, H11, I11, r11, H12, dp, nx⟩ => ?_
        exact put_any (X := X.blk s3 H3 scope (compEnvC scope cl C X.env) fp) hu I11 dp r10 r11 fun s12 I12 => fin I12 nx
  · obtain ⟨f0, f1, f2, f3, f4, f5⟩ := f
    exact ⟨.ref D, H', I'.turned (t' := s'.toks) (fun b o hb e => (sb.2 b hb).trans e) f0 f1 f3 f4 f5, rfl, q⟩
end
/-! two clauses -/
section
variable {prog : Program} {w : World} {A : Around} {R : Result → Shared → Prop} {s : Shared} {kx vx t0 i0 t1 i1 : Expr} {f0 f1 : List Expr} {scope : Scope} {pos : Pos} {it : Value} {D : Addr} {env : Env}
/-- both clauses, as a term -/
abbrev dc2 (kx vx t0 i0 t1 i1 : Expr) (f0 f1 : List Expr) (scope : Scope) (pos : Pos) : Expr := .DictComp kx vx [⟨t0, i0, f0, 0⟩, ⟨t1, i1, f1, 0⟩] scope pos
theorem turnD_out : compTurn (dc2 kx vx t0 i0 t1 i1 f0 f1 scope pos) 0 it (.ref D) env = (do
      standAt i0.pos
      match ← pyNext it with
      | none => pure (.done .next)
      | some v =>
        letOwnedTupleGo t0 it v
        assign t0 env v
        let mut ok := true
        for c in f0 do
          if ok then ok ← isTrue c env (eval c env)
        if ok then
          let x ← eval i1 env
          standAt i1.pos
          let x ← foldedSetIterable i1 env x
          let _ ← runOwn (.compStart (dc2 kx vx t0 i0 t1 i1 f0 f1 scope pos) 1 (← holding [x] (pyIter x)) (.ref D) env) env
        again (.compLoop (dc2 kx vx t0 i0 t1 i1 f0 f1 scope pos) 0 it (.ref D) env)) := by rfl
theorem turnD_in : compTurn (dc2 kx vx t0 i0 t1 i1 f0 f1 scope pos) 1 it (.ref D) env = (do
      standAt i1.pos
      match ← pyNext it with
      | none => pure (.done .next)
      | some v =>
        letOwnedTupleGo t1 it v
        assign t1 env v
        let mut ok := true
        for c in f1 do
          if ok then ok ← isTrue c env (eval c env)
        if ok then
          (do
            let kv ← eval kx env
            let vv ← holding [kv] (eval vx env)
            standAt { kx.pos with endLine := vx.pos.endLine, endCol := vx.pos.endCol }
            holding [kv, vv] (dictSet D kv vv))
        again (.compLoop (dc2 kx vx t0 i0 t1 i1 f0 f1 scope pos) 1 it (.ref D) env)) := by rfl
/-- what stands where an error is noted -/
abbrev Nt (prog : Program) (w : World) (A : Around) (env : Env) (R : Result → Shared → Prop) : Value → Shared → Prop := notedBy (model prog w) A env fun e s' => R (.error e) s'
/-- a turn's head: the item, its store, the tests -/
def Head (prog : Program) (w : World) (A : Around) (env : Env) (R : Result → Shared → Prop) (tg : Expr) (fs : List Expr) (it : Value) (B : Shared → Prop) (Z : Shared → Prop) (s : Shared) : Prop :=
  wpAny (model prog w) A (pyNext it) (fun r s₁ => match r with
    | none => R (.ok .next) s₁
    | some v => wpAny (model prog w) A (letOwnedTupleGo tg it v) (fun _ s₁' => wpAny (model prog w) A (assign tg env v) (fun _ s₂ =>
        wpAny (model prog w) A (forIn fs true fun c r => if r = true then do let ok ← isTrue c env (eval c env); pure (ForInStep.yield ok) else pure (ForInStep.yield r)) (fun ok s₃ => if ok = true then B s₃ else Z s₃) (Nt prog w A env R) s₂) (Nt prog w A env R) s₁') (Nt prog w A env R) s₁) (Nt prog w A env R) s
theorem loopD_out (hs : ∀ x, foldedSetIterable i1 env x = pure x) (I : Nat → Shared → Prop)
    (turn : ∀ n s, I n s → Head prog w A env R t0 f0 it (fun s₃ => wpAny (model prog w) A (eval i1 env) (fun x s₄ => wpAny (model prog w) A (pyIter x) (fun it1 s₅ =>
      codeAny (model prog w) A (.compStart (dc2 kx vx t0 i0 t1 i1 f0 f1 scope pos) 1 it1 (.ref D) env) (fun r s' => match r with
        | .ok _ => ∃ m, m < n ∧ I m s'
        | .error _ => False) s₅) (Nt prog w A env R) s₄) (Nt prog w A env R) s₃) (fun s₃ => ∃ m, m < n ∧ I m s₃) s)
    (n : Nat) (h : I n s) : codeAny (model prog w) A (.compLoop (dc2 kx vx t0 i0 t1 i1 f0 f1 scope pos) 0 it (.ref D) env) R s := by
  refine codeAny_loop rfl I (fun n s hI => ?_) n h
  show wpAny _ A ((compTurn (dc2 kx vx t0 i0 t1 i1 f0 f1 scope pos) 0 it (.ref D) env).onRaise (fun x => do noteFrame x env; theTreesLotGoes x)) _ _ s
  refine wpAny_noted ?_
  rw [turnD_out]
  have tn := turn n s hI
  unfold Head at tn
  refine wpAny_bind (wpAny_standAt (wpAny_bind (wpAny_mono tn (fun r s₁ h₁ => ?_) fun _ _ h' => h')))
  cases r with
  | none => exact wpAny_pure h₁
  | some v =>
    refine wpAny_bind (wpAny_mono h₁ (fun _ s₁' h₁' => wpAny_bind (wpAny_mono h₁' (fun _ s₂ h₂ => wpAny_bind (wpAny_mono h₂ (fun ok s₃ h₃ => ?_) fun _ _ h' => h')) fun _ _ h' => h')) fun _ _ h' => h')
    cases ok with
    | false => exact wpAny_pure ⟨rfl, h₃⟩
    | true =>
      refine wpAny_bind (wpAny_mono h₃ (fun x s₄ h₄ => ?_) fun _ _ h' => h')
      refine wpAny_bind (wpAny_standAt (wpAny_bind (wpAny_of_eq (hs x) (wpAny_bind (wpAny_holding (wpAny_mono h₄ (fun it1 s₅ h₅ => ?_) fun _ _ h' => h'))))))
      refine wpAny_bind (wpAny_runOwn ?_)
      rw [Around.mark_none]
      refine codeAny_mono h₅ fun r s' hr => ?_
      cases r with
      | ok f =>
        first
          | exact wpAny_pure ⟨rfl, hr⟩
          | exact wpAny_bind (wpAny_pure (wpAny_pure ⟨rfl, hr⟩))
      | error e => exact hr.elim
theorem loopD_in (I : Nat → Shared → Prop)
    (turn : ∀ n s, I n s → Head prog w A env R t1 f1 it (fun s₃ => wpAny (model prog w) A (eval kx env) (fun kv s₄ => wpAny (model prog w) A (eval vx env) (fun vv s₅ =>
      wpAny (model prog w) A (dictSet D kv vv) (fun _ s₆ => ∃ m, m < n ∧ I m s₆) (Nt prog w A env R) s₅) (Nt prog w A env R) s₄) (Nt prog w A env R) s₃) (fun s₃ => ∃ m, m < n ∧ I m s₃) s)
    (n : Nat) (h : I n s) : codeAny (model prog w) A (.compLoop (dc2 kx vx t0 i0 t1 i1 f0 f1 scope pos) 1 it (.ref D) env) R s := by
  refine codeAny_loop rfl I (fun n s hI => ?_) n h
  show wpAny _ A ((compTurn (dc2 kx vx t0 i0 t1 i1 f0 f1 scope pos) 1 it (.ref D) env).onRaise (fun x => do noteFrame x env; theTreesLotGoes x)) _ _ s
  refine wpAny_noted ?_
  rw [turnD_in]
  have tn := turn n s hI
  unfold Head at tn
  refine wpAny_bind (wpAny_standAt (wpAny_bind (wpAny_mono tn (fun r s₁ h₁ => ?_) fun _ _ h' => h')))
  cases r with
  | none => exact wpAny_pure h₁
  | some v =>
    refine wpAny_bind (wpAny_mono h₁ (fun _ s₁' h₁' => wpAny_bind (wpAny_mono h₁' (fun _ s₂ h₂ => wpAny_bind (wpAny_mono h₂ (fun ok s₃ h₃ => ?_) fun _ _ h' => h')) fun _ _ h' => h')) fun _ _ h' => h')
    cases ok with
    | false => exact wpAny_pure ⟨rfl, h₃⟩
    | true =>
      exact wpAny_bind (wpAny_bind (wpAny_mono h₃ (fun kv s₄ h₄ => wpAny_bind (wpAny_holding (wpAny_mono h₄ (fun vv s₅ h₅ => wpAny_bind (wpAny_standAt (wpAny_holding (wpAny_mono h₅ (fun _ s₆ h₆ => wpAny_pure ⟨rfl, h₆⟩) fun _ _ h' => h')))) fun _ _ h' => h'))) fun _ _ h' => h'))
/-- the second clause begins -/
theorem startD (h0 : codeAny (model prog w) A (.compLoop (dc2 kx vx t0 i0 t1 i1 f0 f1 scope pos) 1 it (.ref D) env) R s)
    (h : wpAny (model prog w) A (pyIter it) (fun it' s' => codeAny (model prog w) A (.compLoop (dc2 kx vx t0 i0 t1 i1 f0 f1 scope pos) 1 it' (.ref D) env) R s') (Nt prog w A env R) s) :
    codeAny (model prog w) A (.compStart (dc2 kx vx t0 i0 t1 i1 f0 f1 scope pos) 1 it (.ref D) env) R s := by
  refine codeAny_of_tree ?_
  show wpAny _ _ ((compStart (dc2 kx vx t0 i0 t1 i1 f0 f1 scope pos) 1 it (.ref D) env).onRaise (fun x => do noteFrame x env; standAt theWindowsPlace)) _ _ s
  refine wpAny_notedAt ?_
  unfold compStart
  show wpAny _ _ (ask >>= _) _ _ s
  refine wpAny_bind (wpAny_askSetting (wpAny_ite ?_))
  split
  · first
      | exact wpAny_bind (wpAny_pure (wpAny_pure (And.intro rfl h0)))
      | exact wpAny_pure (And.intro rfl h0)
  · first
      | exact wpAny_bind (wpAny_rule (wpAny_bind (wpAny_standAt (wpAny_bind (wpAny_mono h (fun it' s' h' => wpAny_pure (And.intro rfl h')) fun _ _ x => x)))))
      | (refine wpAny_bind (wpAny_rule ?_); show wpAny _ _ (standAt i1.pos >>= _) _ _ s; exact wpAny_bind (wpAny_standAt (wpAny_bind (wpAny_mono h (fun it' s' h' => wpAny_pure (And.intro rfl h')) fun _ _ x => x))))
end
section
variable {X : Cx}
/-- what the two clauses' loops show, D the new dict -/
def Two (J : It) (D : Addr) (H1 : Hp) (Qd : Hp → Prop) (g : TG) (tt : TT) (wi1 : TI) (g1 : TG) (tt1 : TT) (tk tv : TE) (vs vs1 : List Nat) (σ : L2.St) : Prop := ∃ W : Nat → Nat → Hp → Prop, (∃ m, W 0 m H1) ∧ ∀ i m H, W i m H →
  (J.stop i H ∧ Qd H) ∨ (J.go i H ∧ ∃ Nx : Hp → Prop, (∀ H', Nx H' → ∃ m', m' < m ∧ W (i + 1) m' H') ∧ ∀ x H', J.yld i H x H' → g x (wipe σ vs) H' fun σ2 H2 => wipe σ2 vs = wipe σ vs ∧ tt σ2 H2 fun b H3 =>
    if b = true then wi1 σ2 H3 fun J1 H4 => ∃ W1 : Nat → Nat → Hp → Prop, (∃ m, W1 0 m H4) ∧ ∀ j k H, W1 j k H →
      (J1.stop j H ∧ Nx H) ∨ (J1.go j H ∧ ∃ Nx1 : Hp → Prop, (∀ H', Nx1 H' → ∃ k', k' < k ∧ W1 (j + 1) k' H') ∧ ∀ x H', J1.yld j H x H' → g1 x (wipe σ2 vs1) H' fun σ3 H5 => wipe σ3 vs1 = wipe σ2 vs1 ∧ tt1 σ3 H5 fun b H6 =>
        if b = true then tk σ3 H6 fun y H7 => tv σ3 H7 fun z H8 => ∃ H9, DPut H8 D y z H9 ∧ Nx1 H9 else Nx1 H6)
    else Nx H3)
def tDc2G (o0 : HO) (wi : TI) (g : TG) (tt : TT) (wi1 : TI) (g1 : TG) (tt1 : TT) (tk tv : TE) (vs vs1 : List Nat) : TE := fun σ H Q => wi σ H fun J H1 => ∀ D, H1 D = none → Two J D (upd H1 D o0) (Q (.ref D)) g tt wi1 g1 tt1 tk tv vs vs1 σ
theorem pe_dc2G {kx vx tg iter tg1 iter1 : Expr} {ifs ifs1 : List Expr} {scope : Scope} {own : List (Str × Nat)} {vs1 : List Nat} {pos : Pos} {wi wi1 : TI} {g g1 : TG} {tt tt1 : TT} {tk tv : TE} {o0 : HO} (em : Emp o0) (hu : X.A.units + 1 < cLine) (hc : X.calm = true) (hN : X.N.Nodup) (hi : PI X tg iter wi) (ok : BlkOk X.N X.env.scope scope own) (hv : ∀ i ∈ vs1, i ∈ own.map (·.2))
    (hg : ∀ (s : Shared) (H : Hp) (C : Addr) (cl : List (Str × Addr)) (fp : List Addr), PG (X.blk s H scope (compEnvC scope cl C X.env) fp) tg g) (ht : ∀ (s : Shared) (H : Hp) (C : Addr) (cl : List (Str × Addr)) (fp : List Addr), PTs (X.blk s H scope (compEnvC scope cl C X.env) fp) ifs tt)
    (hi1 : ∀ (s : Shared) (H : Hp) (C : Addr) (cl : List (Str × Addr)) (fp : List Addr), PI (X.blk s H scope (compEnvC scope cl C X.env) fp) tg1 iter1 wi1)
    (hg1 : ∀ (s : Shared) (H : Hp) (C : Addr) (cl : List (Str × Addr)) (fp : List Addr), PG (X.blk s H scope (compEnvC scope cl C X.env) fp) tg1 g1) (ht1 : ∀ (s : Shared) (H : Hp) (C : Addr) (cl : List (Str × Addr)) (fp : List Addr), PTs (X.blk s H scope (compEnvC scope cl C X.env) fp) ifs1 tt1)
    (hk : ∀ (s : Shared) (H : Hp) (C : Addr) (cl : List (Str × Addr)) (fp : List Addr), PE (X.blk s H scope (compEnvC scope cl C X.env) fp) kx tk)
    (he : ∀ (s : Shared) (H : Hp) (C : Addr) (cl : List (Str × Addr)) (fp : List Addr), PE (X.blk s H scope (compEnvC scope cl C X.env) fp) vx tv) (hs : ∀ x, foldedSetIterable iter X.env x = pure x := by intro _; rfl) (hs1 : ∀ env x, foldedSetIterable iter1 env x = pure x := by intro _ _; rfl) :
    PE X (.DictComp kx vx [⟨tg, iter, ifs, 0⟩, ⟨tg1, iter1, ifs1, 0⟩] scope pos) (tDc2G o0 wi g tt wi1 g1 tt1 tk tv (own.map (·.2)) vs1) := by
  refine ⟨fun pins s σ H Q I h => ?_⟩
  rw [arm_eval_DictComp]
  refine dc_frame (Q := Q) (R := fun J D H3 => Two J D H3 (Q (.ref D)) g tt wi1 g1 tt1 tk tv (own.map fun p : Str × Nat => p.2) vs1 σ) hc hN em I hi ok hs h ?_ fun D C s' m H' I' q hn f => ⟨m, hn, fun h'' sb => ?_⟩
  · rintro J D fp it tn s3 H3 ce C cl s4 ⟨W, ⟨m0, w0⟩, turn⟩ ⟨hce, T, I4, st4, nfp, stat⟩ hexit
    have pg := hg s3 H3 C cl fp
    have pt := ht s3 H3 C cl fp
    have pi1 := hi1 s3 H3 C cl fp
    have pg1 := hg1 s3 H3 C cl fp
    have pt1 := ht1 s3 H3 C cl fp
    have pk := hk s3 H3 C cl fp
    have pv := he s3 H3 C cl fp
    rw [← hce] at pg pt pi1 pg1 pt1 pk pv
    refine loopD_out (hs1 ce) (fun n s' => ∃ i H', L2.Inv (X.blk s3 H3 scope ce fp) [] (wipe σ (own.map (·.2))) H' s' ∧ tn i s'.heap ∧ (∀ b ∈ fp, H' b = none) ∧ W i n H') ?_ m0 ⟨0, H3, I4, st4, nfp, w0⟩
    rintro n s5 ⟨i, H5, I5, st5, n5, w5⟩
    unfold Head
    rcases turn i n H5 w5 with ⟨stop, qq⟩ | ⟨go, Nx, hNx, step⟩
    · refine thnF (T.done (X.blk s3 H3 scope ce fp) rfl rfl rfl hc i [] s5 _ H5 (fun _ _ => False) I5 (stat I5 n5) st5 stop) fun r s6 ⟨hr, I6⟩ => ?_
      subst hr
      exact hexit H5 s6 I6 qq
    · refine thnF (T.item (X.blk s3 H3 scope ce fp) rfl rfl rfl hc i [] s5 _ H5 (fun _ _ => False) I5 (stat I5 n5) st5 go) fun r s6 ⟨u, hr, h6⟩ => ?_
      subst hr
      refine thnF h6 fun _ s7 ⟨x, H7, I7, r7, y7, st7, n7⟩ => ?_
      have I7' := I7.pinned (stat I7 n7) (T.obj _ _ st7)
      refine thnF (pg.run _ s7 _ H7 x u _ I7' r7 (step x H7 y7)) fun _ s8 ⟨σ8, H8, I8, hw8, q8⟩ => ?_
      refine thnF (pt.run _ s8 σ8 H8 _ I8 q8) fun b s9 ⟨H9, I9, q9⟩ => ?_
      have fin : ∀ {σ9 : L2.St} {s' : Shared} {H' : Hp}, L2.Inv (X.blk s3 H3 scope ce fp) ([] ++ pinsAt fp s7.heap) σ9 H' s' → (wipe σ (own.map (·.2))).length = σ9.length → (∀ (j : Nat) v, (wipe σ (own.map (·.2)))[j]? = some (some v) → σ9[j]? = some (some v)) → Nx H' →
          ∃ m, m < n ∧ ∃ i H', L2.Inv (X.blk s3 H3 scope ce fp) [] (wipe σ (own.map (·.2))) H' s' ∧ tn i s'.heap ∧ (∀ b ∈ fp, H' b = none) ∧ W i m H' := fun {σ9 s' H'} I' hl hk' nx => by
        obtain ⟨m', hm, w'⟩ := hNx H' nx
        have pin' : ∀ b ∈ fp, ∀ o, s7.heap.get? b = some o → s'.heap.get? b = some o ∧ H' b = none := fun b hb o e =>
          let z := I'.pin (b, o) (List.mem_append_right _ (List.mem_append_right _ (mem_pinsAt hb e)))
          ⟨z.1, z.2.1⟩
        refine ⟨m', hm, i + 1, H', (I'.unpinned (pins := [])).weak hl hk', T.keep _ _ _ st7 fun b hb o e => (pin' b hb o e).1, fun b hb => ?_, w'⟩
        obtain ⟨o, e, _⟩ := T.obj _ _ st7 b hb
        exact (pin' b hb o e).2
      have hl8 : (wipe σ (own.map (·.2))).length = σ8.length := by
        have := congrArg List.length hw8
        rw [wipe_length] at this
        exact this.symm
      have hk8 : ∀ (j : Nat) v, (wipe σ (own.map (·.2)))[j]? = some (some v) → σ8[j]? = some (some v) := fun j v e => by
        have e2 : (wipe σ8 (own.map fun p : Str × Nat => p.2))[j]? = some (some v) := by rw [hw8]; exact e
        exact (wipe_some e2).1
      have hk9 : ∀ (j : Nat) v, (wipe σ (own.map (·.2)))[j]? = some (some v) → (wipe σ8 vs1)[j]? = some (some v) := fun j v e => by
        have e2 : (wipe σ8 (own.map fun p : Str × Nat => p.2))[j]? = some (some v) := by rw [hw8]; exact e
        obtain ⟨e1, e3⟩ := wipe_some e2
        rw [wipe_out fun z => e3 (hv j z)]
        exact e1
      cases b with
      | false =>
        simp only [Bool.false_eq_true, if_false] at q9 ⊢
        exact fin I9 hl8 hk8 q9
      | true =>
        simp only [if_true] at q9 ⊢
        refine thnF (pi1.run _ s9 σ8 H9 _ I9 q9) fun xv s10 hx => thnF hx fun itv s11 ⟨it1, fp1, tn1, J1, H11, e1, I11, T1, st11, f11, W1, ⟨m1, w1⟩, turn1⟩ => ?_
        subst e1
        have stat1 : ∀ {H' : Hp}, (∀ b ∈ fp1, H' b = none) → ∀ b ∈ fp1, FpOk (X.blk s3 H3 scope ce fp) ([] ++ pinsAt fp s7.heap) H' b := fun hn b hb => ⟨hn b hb, (f11 b hb).2⟩
        have loop1 : codeAny (model X.prog X.w) X.A (.compLoop (dc2 kx vx tg iter tg1 iter1 ifs ifs1 scope pos) 1 (.ref it1) (.ref D) ce)
            (fun r s' => match r with
              | .ok _ => ∃ m, m < n ∧ ∃ i H', L2.Inv (X.blk s3 H3 scope ce fp) [] (wipe σ (own.map (·.2))) H' s' ∧ tn i s'.heap ∧ (∀ b ∈ fp, H' b = none) ∧ W i m H'
              | .error _ => False) s11 := by
          refine loopD_in (fun k s' => ∃ j H', L2.Inv (X.blk s3 H3 scope ce fp) ([] ++ pinsAt fp s7.heap) (wipe σ8 vs1) H' s' ∧ tn1 j s'.heap ∧ (∀ b ∈ fp1, H' b = none) ∧ W1 j k H') ?_ m1 ⟨0, H11, I11.weak (wipe_length _ _) (fun j v e => (wipe_some e).1), st11, fun b hb => (f11 b hb).1, w1⟩
          rintro k s12 ⟨j, H12, I12, st12, n12, w12⟩
          unfold Head
          rcases turn1 j k H12 w12 with ⟨stop1, nx1⟩ | ⟨go1, Nx1, hNx1, step1⟩
          · refine thnF (T1.done (X.blk s3 H3 scope ce fp) rfl rfl rfl hc j _ s12 (wipe σ8 vs1) H12 (fun _ _ => False) I12 (stat1 n12) st12 stop1) fun r s13 ⟨hr, I13⟩ => ?_
            subst hr
            exact fin I13 (hl8.trans (wipe_length σ8 vs1).symm) hk9 nx1
          · refine thnF (T1.item (X.blk s3 H3 scope ce fp) rfl rfl rfl hc j _ s12 (wipe σ8 vs1) H12 (fun _ _ => False) I12 (stat1 n12) st12 go1) fun r s13 ⟨u1, hr, h13⟩ => ?_
            subst hr
            refine thnF h13 fun _ s14 ⟨x1, H14, I14, r14, y14, st14, n14⟩ => ?_
            have I14' := I14.pinned (stat1 n14) (T1.obj _ _ st14)
            refine thnF (pg1.run _ s14 (wipe σ8 vs1) H14 x1 u1 _ I14' r14 (step1 x1 H14 y14)) fun _ s15 ⟨σ15, H15, I15, hw15, q15⟩ => ?_
            refine thnF (pt1.run _ s15 σ15 H15 _ I15 q15) fun b1 s16 ⟨H16, I16, q16⟩ => ?_
            have fin1 : ∀ {s' : Shared} {H' : Hp}, L2.Inv (X.blk s3 H3 scope ce fp) (([] ++ pinsAt fp s7.heap) ++ pinsAt fp1 s14.heap) σ15 H' s' → Nx1 H' → ∃ m, m < k ∧ ∃ j H', L2.Inv (X.blk s3 H3 scope ce fp) ([] ++ pinsAt fp s7.heap) (wipe σ8 vs1) H' s' ∧ tn1 j s'.heap ∧ (∀ b ∈ fp1, H' b = none) ∧ W1 j m H' := fun {s' H'} I' nx => by
              obtain ⟨m', hm, w'⟩ := hNx1 H' nx
              have pin' : ∀ b ∈ fp1, ∀ o, s14.heap.get? b = some o → s'.heap.get? b = some o ∧ H' b = none := fun b hb o e =>
                let z := I'.pin (b, o) (List.mem_append_right _ (List.mem_append_right _ (mem_pinsAt hb e)))
                ⟨z.1, z.2.1⟩
              refine ⟨m', hm, j + 1, H', I'.unpinned.weak (by rw [← hw15, wipe_length]) (fun j v e => by rw [← hw15] at e; exact (wipe_some e).1), T1.keep _ _ _ st14 fun b hb o e => (pin' b hb o e).1, fun b hb => ?_, w'⟩
              obtain ⟨o, e, _⟩ := T1.obj _ _ st14 b hb
              exact (pin' b hb o e).2
            cases b1 with
            | false =>
              simp only [Bool.false_eq_true, if_false] at q16 ⊢
              exact fin1 I16 q16
            | true =>
              simp only [if_true] at q16 ⊢
              refine thnF (pk.run _ s16 σ15 H16 _ I16 q16) fun z s17 ⟨yk, H17, I17, r17, q17⟩ => ?_
              refine thnF (pv.run _ s17 σ15 H17 _ I17 q17) fun z2 s18 ⟨yv, H18, I18, r18, H19, dp, nx⟩ => ?_
              exact put_any (X := X.blk s3 H3 scope ce fp) hu I18 dp r17 r18 fun s19 I19 => fin1 I19 nx
        exact startD loop1 (T1.self X.A 0 _ _ _ st11 loop1)
  · obtain ⟨f0, f1, f2, f3, f4, f5⟩ := f
    exact ⟨.ref D, H', I'.turned (t' := s'.toks) (fun b o hb e => (sb.2 b hb).trans e) f0 f1 f3 f4 f5, rfl, q⟩
end
end Lv

/-! division by any number but 0; {n: t for t in ts for n in t} -/
namespace Lv
open PySem PySem.Spec PyProof.Rows L2
variable [TabA]
def CDivZ (_ j : Int) : Prop := j ≠ 0 ∧ j.natAbs.log2 < 9000
theorem op_fdivZ {X : Cx} : OpR X (binaryOp .FloorDiv) (rI CDivZ fun i j => .int (Int.fdiv i j)) := opI fun _ _ _ _ _ _ _ hc q => floordiv_int hc.1 q (.inl (PyProof.noPylong_of_log2 hc.2))
theorem divZ {i j : Int} (h : j ≠ 0) (hb : j.natAbs < 2 ^ 8000) : CDivZ i j := ⟨h, Nat.lt_of_lt_of_le (PySem.Flt.log2_lt_of (by decide) hb) (by decide)⟩
/-- the pairs that stand there then -/
def prs (nss : List (List Int)) (xs : List V) : List (L2.Key × V) := (nss.zip xs).flatMap fun z => z.1.map fun n => ((Sum.inl n : L2.Key), z.2)
theorem prs_more {nss : List (List Int)} {xs : List V} {i : Nat} {ns : List Int} {x : V} (h1 : nss[i]? = some ns) (h2 : xs[i]? = some x) : prs (nss.take (i + 1)) (xs.take (i + 1)) = prs (nss.take i) (xs.take i) ++ ns.map fun n => ((Sum.inl n : L2.Key), x) := by
  unfold prs
  rw [take_more h1, take_more h2, List.zip_append (by
    have a := (List.getElem?_eq_some_iff.mp h1).1
    have b := (List.getElem?_eq_some_iff.mp h2).1
    rw [List.length_take, List.length_take]; omega), List.flatMap_append]
  simp
theorem prs_keys : ∀ {nss : List (List Int)} {xs : List V}, nss.length = xs.length → (prs nss xs).map (·.1) = nss.flatten.map (fun n : Int => (Sum.inl n : L2.Key))
  | [], [], _ => rfl
  | [], _ :: _, h => by cases h
  | _ :: _, [], h => by cases h
  | ns :: nss, x :: xs, h => by
    have ih := prs_keys (nss := nss) (xs := xs) (by simpa using h)
    show ((ns.map fun n => ((Sum.inl n : L2.Key), x)) ++ prs nss xs).map (·.1) = _
    rw [List.map_append, ih, List.flatten_cons, List.map_append, List.map_map]; rfl
theorem prs_val : ∀ {nss : List (List Int)} {xs : List V} {i : Nat} {ns : List Int} {x : V} {n : Int}, nss.flatten.Nodup → nss[i]? = some ns → xs[i]? = some x → n ∈ ns → valV (prs nss xs) (.inl n) = some x
  | [], xs, i, ns, x, n, _, h1, _, _ => by simp at h1
  | m :: nss, [], i, ns, x, n, _, _, h2, _ => by simp at h2
  | m :: nss, y :: xs, i, ns, x, n, hn, h1, h2, hm => by
    have hv : ∀ (l : List Int) (r : List (L2.Key × V)), valV (l.map (fun n => ((Sum.inl n : L2.Key), y)) ++ r) (.inl n) = if n ∈ l then some y else valV r (.inl n) := fun l r => by
      induction l with
      | nil => simp
      | cons a l ih =>
        rw [List.map_cons, List.cons_append]
        by_cases c : a = n
        · subst c
          rw [valV_pos rfl, if_pos List.mem_cons_self]
        · rw [valV_neg (fun h => c (Sum.inl.inj h)), ih]
          by_cases c2 : n ∈ l
          · rw [if_pos c2, if_pos (List.mem_cons_of_mem _ c2)]
          · rw [if_neg c2, if_neg fun h => (List.mem_cons.mp h).elim (fun h => c h.symm) c2]
    show valV (m.map (fun n => ((Sum.inl n : L2.Key), y)) ++ prs nss xs) (.inl n) = some x
    rw [hv]
    rw [List.flatten_cons, List.nodup_append] at hn
    cases i with
    | zero =>
      have e1 : m = ns := by simpa using h1
      have e2 : y = x := by simpa using h2
      subst e1 e2
      rw [if_pos hm]
    | succ i =>
      have h1' : nss[i]? = some ns := by simpa using h1
      have h2' : xs[i]? = some x := by simpa using h2
      rw [if_neg fun h => hn.2.2 n h n (List.mem_flatten.mpr ⟨ns, List.mem_of_getElem? h1', hm⟩) rfl]
      exact prs_val hn.2.1 h1' h2' hm
theorem prs_no {nss : List (List Int)} {xs : List V} {n : Int} (hl : nss.length = xs.length) (h : n ∉ nss.flatten) : valV (prs nss xs) (.inl n) = none := by
  cases e : valV (prs nss xs) (.inl n) with
  | none => rfl
  | some y =>
    have := valV_in e
    rw [prs_keys hl] at this
    obtain ⟨m, hm, em⟩ := List.mem_map.mp this
    injection em with em
    subst em
    exact absurd hm h
section
variable {K : PySem.W.Frag} {σ : L2.St} {G P H : Hp} {Q : VK} {tt tt1 : TT} {ta ti tk tv : TE} {g g1 : TG} {wi1 : TI} {vs vs1 : List Nat} {o0 : HO} {a : Addr} {xs : List V} {nss : List (List Int)}
def aDc2L (o0 : HO) (K : PySem.W.Frag) (g : TG) (tt : TT) (wi1 : TI) (g1 : TG) (tt1 : TT) (tk tv : TE) (vs vs1 : List Nat) (σ : L2.St) : V → Hp → VK → Prop := fun x H Q => tDc2G o0 (fun _ H R => ∃ a, x = .ref a ∧ (∃ xs, SqL K H a xs) ∧ R (Itl K a) H) g tt wi1 g1 tt1 tk tv vs vs1 σ H Q
theorem w_dc2L (h : ta σ H fun x H1 => aDc2L o0 K g tt wi1 g1 tt1 tk tv vs vs1 σ x H1 Q) : tDc2G o0 (iList K ta) g tt wi1 g1 tt1 tk tv vs vs1 σ H Q := h
theorem nodup_mid {l m : List Int} {n : Int} (h : (l ++ n :: m).Nodup) : n ∉ l := fun hm => (List.nodup_append.mp h).2.2 n hm n List.mem_cons_self rfl
theorem flat_split {nss : List (List Int)} {i j : Nat} {ns : List Int} {n : Int} (h1 : nss[i]? = some ns) (h2 : ns[j]? = some n) : nss.flatten = ((nss.take i).flatten ++ ns.take j) ++ n :: (ns.drop (j + 1) ++ (nss.drop (i + 1)).flatten) := by
  have e1 : nss = nss.take i ++ ns :: nss.drop (i + 1) := by
    conv => lhs; rw [← List.take_append_drop i nss]
    rw [List.drop_eq_getElem_cons (List.getElem?_eq_some_iff.mp h1).1, (List.getElem?_eq_some_iff.mp h1).2]
  have e2 : ns = ns.take j ++ n :: ns.drop (j + 1) := by
    conv => lhs; rw [← List.take_append_drop j ns]
    rw [List.drop_eq_getElem_cons (List.getElem?_eq_some_iff.mp h2).1, (List.getElem?_eq_some_iff.mp h2).2]
  conv => lhs; rw [e1]
  rw [List.flatten_append, List.flatten_cons]
  conv => lhs; rw [e2]
  simp
theorem aDc2L.go {S : V → L2.St} {S2 : V → Int → L2.St} (J : Join G P H) (hS : G a = some (.lst xs)) (hT : TupL iV G xs nss) (hnd : nss.flatten.Nodup) (hl : nss.flatten.length ≤ 100000)
    (hg : ∀ (x : V) (H' : Hp) (N : L2.St → Hp → Prop), N (S x) H' → g x (wipe σ vs) H' N) (hw : ∀ x, wipe (S x) vs = wipe σ vs) (hti : ∀ (x : V) (H' : Hp) (R : VK), R x H' → ti (S x) H' R)
    (hg1 : ∀ (x : V) (n : Int) (H' : Hp) (N : L2.St → Hp → Prop), N (S2 x n) H' → g1 (.int n) (wipe (S x) vs1) H' N) (hw1 : ∀ x n, wipe (S2 x n) vs1 = wipe (S x) vs1)
    (hk : ∀ (x : V) (n : Int) (H' : Hp) (R : VK), R (.int n) H' → tk (S2 x n) H' R) (hv : ∀ (x : V) (n : Int) (H' : Hp) (R : VK), R x H' → tv (S2 x n) H' R)
    (hq : ∀ d G' H', H d = none → Ex G G' → Join G' P H' → G' d = some (.dK (prs nss xs)) → Q (.ref d) H') : aDc2L (.dK []) K g tYes (iTup K ti) g1 tYes tk tv vs vs1 σ (.ref a) H Q := by
  refine ⟨a, rfl, ⟨_, sqL (J.g _ _ hS)⟩, fun D hD => ?_⟩
  have hlx := hT.1
  have oth : ∀ {c : Addr} {o u : HO}, H c = some o → upd H D u c = some o := fun {c o u} h => by rw [upd_ne (ne_of_none h hD)]; exact h
  refine ⟨fun i m H' => m = xs.length - i ∧ i ≤ xs.length ∧ H' = upd H D (.dK (prs (nss.take i) (xs.take i))), ⟨xs.length, by simp, Nat.zero_le _, by simp [prs]⟩, ?_⟩
  rintro i m H' ⟨rfl, hi, rfl⟩
  by_cases hlt : i < xs.length
  · refine .inr ⟨⟨xs, xs[i], sqL (oth (J.g _ _ hS)), by simp [hlt]⟩, fun H2 => i + 1 ≤ xs.length ∧ H2 = upd H D (.dK (prs (nss.take (i + 1)) (xs.take (i + 1)))), fun H2 p => ⟨xs.length - (i + 1), by omega, rfl, p⟩, fun x H2 y => ?_⟩
    obtain ⟨rfl, y⟩ := y
    have hx := y xs (sqL (oth (J.g _ _ hS)))
    obtain ⟨ns, t, hns, rfl, ht⟩ := hT.get hx
    refine hg _ _ _ ⟨hw _, w_yes (w_ifT (hti _ _ _ ⟨t, rfl, ⟨_, sqT (oth (J.g _ _ ht))⟩, ?_⟩))⟩
    refine ⟨fun j k H3 => k = ns.length - j ∧ j ≤ ns.length ∧ H3 = upd H D (.dK (prs (nss.take i) (xs.take i) ++ (ns.take j).map fun n => ((Sum.inl n : L2.Key), .ref t))), ⟨ns.length, by simp, Nat.zero_le _, by simp⟩, ?_⟩
    rintro j k H3 ⟨rfl, hj, rfl⟩
    by_cases hjl : j < ns.length
    · have hnj : ns[j]? = some ns[j] := List.getElem?_eq_getElem hjl
      refine .inr ⟨⟨iV ns, .int ns[j], sqT (oth (J.g _ _ ht)), by show (ns.map V.int)[j]? = _; rw [List.getElem?_map, hnj]; rfl⟩, fun H4 => j + 1 ≤ ns.length ∧ H4 = upd H D (.dK (prs (nss.take i) (xs.take i) ++ (ns.take (j + 1)).map fun n => ((Sum.inl n : L2.Key), .ref t))), fun H4 p => ⟨ns.length - (j + 1), by omega, rfl, p⟩, fun z H4 yz => ?_⟩
      obtain ⟨rfl, yz⟩ := yz
      have hz := yz (iV ns) (sqT (oth (J.g _ _ ht)))
      have hz2 : (ns.map V.int)[j]? = some z := hz
      rw [List.getElem?_map, hnj] at hz2
      cases hz2
      have fs := flat_split hns hnj
      have hkeys : (prs (nss.take i) (xs.take i) ++ (ns.take j).map fun n => ((Sum.inl n : L2.Key), V.ref t)).map (·.1) = ((nss.take i).flatten ++ ns.take j).map fun n : Int => (Sum.inl n : L2.Key) := by
        rw [List.map_append, prs_keys (by rw [List.length_take, List.length_take]; omega), List.map_append, List.map_map]; rfl
      have hlen : (prs (nss.take i) (xs.take i) ++ (ns.take j).map fun n => ((Sum.inl n : L2.Key), V.ref t)).length < 100001 := by
        have h1 := congrArg List.length hkeys
        rw [List.length_map, List.length_map] at h1
        rw [h1]
        have h2 := congrArg List.length fs
        rw [List.length_append] at h2
        simp at h2 ⊢
        simp at hl
        omega
      refine hg1 _ _ _ _ ⟨hw1 _ _, w_yes (w_ifT (hk _ _ _ _ (hv _ _ _ _ ⟨_, DPut.k (k := .inl ns[j]) upd_same (Nat.lt_of_lt_of_le hlen (by rw [sizeLine_eq]; decide)), hjl, ?_⟩)))⟩
      have nk : ∀ x ∈ (prs (nss.take i) (xs.take i) ++ (ns.take j).map fun n => ((Sum.inl n : L2.Key), V.ref t)), x.1 ≠ .inl ns[j] := fun x hx e => by
        have hm : x.1 ∈ ((nss.take i).flatten ++ ns.take j).map fun n : Int => (Sum.inl n : L2.Key) := by rw [← hkeys]; exact List.mem_map_of_mem hx
        obtain ⟨n, hn, en⟩ := List.mem_map.mp hm
        rw [e] at en
        injection en with en
        subst en
        rw [fs] at hnd
        exact nodup_mid hnd hn
      rw [putK_keyv nk, take_more hnj, List.map_append, ← List.append_assoc]
      funext c
      by_cases hc : c = D
      · rw [hc, upd_same, upd_same]; rfl
      · rw [upd_ne hc, upd_ne hc, upd_ne hc]
    · have ej : j = ns.length := by omega
      subst ej
      refine .inl ⟨⟨iV ns, sqT (oth (J.g _ _ ht)), by simp [iV]⟩, hlt, ?_⟩
      rw [List.take_length, prs_more hns hx]
  · have ei : i = xs.length := by omega
    subst ei
    refine .inl ⟨⟨xs, sqL (oth (J.g _ _ hS)), Nat.le_refl _⟩, ?_⟩
    rw [List.take_length, show nss.take xs.length = nss by rw [hlx, List.take_length]]
    exact hq D (upd G D _) _ hD (Ex.new (J.ng hD)) (J.newG hD) upd_same
end
end Lv

/-! {k: v}, k read from the heap, v new; dicts of pairs -/
namespace Lv
open PySem PySem.Spec PyProof.Rows L2
variable [TabA]
section
variable {K : PySem.W.Frag} {σ : L2.St} {G P H : Hp}
theorem aDisp1.goGK {k : L2.Key} {tk tv : TE} {Q : VK} (Pv : V → Hp → Prop) (J : Join G P H) (hk : ∀ P' H' S, Join G P' H' → S (kV k) H' → tk σ H' S) (hv : ∀ P' H' S, Join G P' H' → (∀ v G2 H2, Ex G G2 → Join G2 P' H2 → Pv v G2 → S v H2) → tv σ H' S)
    (q : ∀ p v P' G' H', H p = none → Ex P P' → Ex G G' → Join G' P' H' → P' p = some (.dK [(k, v)]) → Pv v G' → Q (.ref p) H') : tDisp [(tk, tv)] σ H Q := by
  intro p hp
  have j1 : Join G (upd P p (.dK [])) (upd H p (.dK [])) := J.setPn hp
  refine hk _ _ _ j1 (hv _ _ _ j1 fun v G2 H2 e2 j2 pv => ⟨j2.p _ _ upd_same, [(k, v)], rfl, Nat.le_of_ble_eq_true rfl, ?_⟩)
  exact q p v _ G2 _ hp ((Ex.new (J.np hp)).mut (J.np hp)) e2 (j2.setPo (o := .dK (mergeK [] [(k, v)])) upd_same) upd_same pv
end
theorem kvZ_more {ns : List Int} {vs : List V} {n : Int} {v : V} (h : vs.length = ns.length) : kvZ (ns ++ [n]) (vs ++ [v]) = kvZ ns vs ++ [((Sum.inl n : L2.Key), v)] := by
  unfold kvZ
  rw [List.zip_append h.symm, List.map_append]; rfl
theorem kvZ_put {ns : List Int} {vs : List V} {n : Int} {v : V} (h : vs.length = ns.length) (hn : n ∉ ns) : putK (kvZ ns vs) (.inl n) v = kvZ (ns ++ [n]) (vs ++ [v]) := by
  rw [kvZ_more h, putK_keyv]
  intro x hx e
  have hm : x.1 ∈ (kvZ ns vs).map (·.1) := List.mem_map_of_mem hx
  rw [kvZ_keys h] at hm
  obtain ⟨m, hm, em⟩ := List.mem_map.mp hm
  rw [e] at em
  injection em with em
  subst em
  exact hn hm
theorem kvZ_len {ns : List Int} {vs : List V} (h : vs.length = ns.length) : (kvZ ns vs).length = ns.length := by
  unfold kvZ
  rw [List.length_map, List.length_zip]; omega
theorem kvZ_some {ns : List Int} {vs : List V} {n : Int} (hn : ns.Nodup) (h : vs.length = ns.length) : (valV (kvZ ns vs) (.inl n)).isSome = decide (n ∈ ns) := by
  by_cases c : n ∈ ns
  · rw [decide_eq_true c]
    obtain ⟨i, hi⟩ := List.getElem?_of_mem c
    have il := (List.getElem?_eq_some_iff.mp hi).1
    rw [valV_kvZ hn hi (List.getElem?_eq_getElem (by omega : i < vs.length))]; rfl
  · rw [decide_eq_false c]
    cases e : valV (kvZ ns vs) (.inl n) with
    | none => rfl
    | some y =>
      have := valV_in e
      rw [kvZ_keys h] at this
      obtain ⟨m, hm, em⟩ := List.mem_map.mp this
      injection em with em
      subst em
      exact absurd hm c
end Lv

/-! d.setdefault(k, x) -/
namespace Lv
open PySem PySem.Spec PyProof.Rows L2
variable [TabA]
section
variable {σ : L2.St} {G P H : Hp} {Q : VK} {td ty tx : TE} {d : Addr}
def rDSetd (a : Addr) (y z : V) : Hp → VK → Prop := fun H3 Q => ∃ (kvs : List (L2.Key × V)) (k : L2.Key), H3 a = some (.dK kvs) ∧ y = kV k ∧ kvs.length < sizeLine ∧
  (∀ v, valV kvs k = some v → Q v H3) ∧ (valV kvs k = none → Q z (upd H3 a (.dK (putK kvs k z))))
def aDSetd (ty tx : TE) (σ : L2.St) : V → Hp → VK → Prop := fun x H1 Q => ∃ a, x = .ref a ∧ IsD H1 a ∧ ty σ H1 fun y H2 => tx σ H2 fun z H3 => rDSetd a y z H3 Q
theorem w_dsetd (h : td σ H fun x H1 => aDSetd ty tx σ x H1 Q) : tDSetd td ty tx σ H Q := h
theorem dsetdP {kvs : List (L2.Key × V)} (J : Join G P H) (h : P d = some (.dK kvs)) (q : ty σ H fun y H2 => tx σ H2 fun z H3 => rDSetd d y z H3 Q) : aDSetd ty tx σ (.ref d) H Q :=
  ⟨d, rfl, .inl ⟨kvs, .inl (J.p _ _ h)⟩, q⟩
theorem rdsetdP {kvs : List (L2.Key × V)} {k : L2.Key} {y z : V} (hy : y = kV k) (J : Join G P H) (h : P d = some (.dK kvs)) (hl : kvs.length < 100000) (q1 : ∀ v, valV kvs k = some v → Q v H) (q2 : valV kvs k = none → ∀ H', Join G (upd P d (.dK (putK kvs k z))) H' → Q z H') : rDSetd d y z H Q :=
  ⟨kvs, k, J.p _ _ h, hy, szlt hl, q1, fun hn => q2 hn _ (J.setPo h)⟩
end
end Lv

/-! x = {..} by a comprehension, on one line, x a local -/
namespace Lv
open PySem PySem.Spec PyProof.Rows L2
variable [TabA]
section
variable {X : Cx}
theorem sw_trueD {kx vx : Expr} {gs : List Comprehension} {scope : Scope} {pos py : Pos} {y : Str} {l : Nat} {env : Env} (hk : env.scope.kind = .function) (hy : env.scope.names.lookup y = some .local) (hl : (py.line == pos.line) = true)
    (ha : (scope.names.any fun (n, k) => n == y && (k == .local || k == .cell)) = false) : swapsWith (.DictComp kx vx gs scope pos) (some (.Name y py)) l env = pure true := by
  have ky : env.kindOf y = some .local := hy
  have hb : env.blockKind = .function := by unfold Env.blockKind; rw [hk]; rfl
  unfold swapsWith
  simp only [hb, ky, ha, Expr.pos, hl]
  rfl
theorem ps_setDc {i : Nat} {y : Str} {py : Pos} {kx vx tg iter : Expr} {ifs : List Expr} {scope : Scope} {own : List (Str × Nat)} {pos spos : Pos} {wi : TI} {g : TG} {tt : TT} {tk tv : TE} (hc : X.calm = true) (hN : X.N.Nodup) (hy : X.N[i]? = some y) (hyl : X.env.scope.names.lookup y = some .local)
    (hsw : swapsWith (.DictComp kx vx [⟨tg, iter, ifs, 0⟩] scope pos) (some (.Name y py)) spos.line X.env = pure true) (hi : PI X tg iter wi) (ok : BlkOk X.N X.env.scope scope own)
    (hg : ∀ (s : Shared) (H : Hp) (C : Addr) (cl : List (Str × Addr)) (fp : List Addr), PG (X.blk s H scope (compEnvC scope cl C X.env) fp) tg g) (ht : ∀ (s : Shared) (H : Hp) (C : Addr) (cl : List (Str × Addr)) (fp : List Addr), PTs (X.blk s H scope (compEnvC scope cl C X.env) fp) ifs tt)
    (hk : ∀ (s : Shared) (H : Hp) (C : Addr) (cl : List (Str × Addr)) (fp : List Addr), PE (X.blk s H scope (compEnvC scope cl C X.env) fp) kx tk)
    (he : ∀ (s : Shared) (H : Hp) (C : Addr) (cl : List (Str × Addr)) (fp : List Addr), PE (X.blk s H scope (compEnvC scope cl C X.env) fp) vx tv) (hs : ∀ x, foldedSetIterable iter X.env x = pure x := by intro _; rfl) :
    PS X (.Assign [.Name y py] (.DictComp kx vx [⟨tg, iter, ifs, 0⟩] scope pos) spos) (tAsg (tDc wi g tt tk tv (own.map (·.2))) (gName i)) := by
  refine ⟨fun pins s σ H D I h => ?_⟩
  rw [exec_Assign_Name_used _ _ _ _ hsw]
  refine wpAny_bind (wpAny_standAt (wpAny_bind ?_))
  show wpAny _ X.A (do let _ ← comprehension (.DictComp kx vx [⟨tg, iter, ifs, 0⟩] scope pos) scope X.env (firstIterPos [⟨tg, iter, ifs, 0⟩] pos) newDict false (eval iter X.env) (some (assign (.Name y py) X.env))) _ _ s
  have h : tDc wi g tt tk tv (own.map (·.2)) σ H (fun x H1 => gName i x σ H1 D.nx) := h
  refine wpAny_bind (thn (dc_core (Qf := fun _ s' => SP X pins D .next s') hc hN I hi ok hg ht hk he hs h fun L C s' m H' I' q hn f => ?_) fun _ s' hq => wpAny_pure (wpAny_pure hq))
  show wpAny _ _ (assign (.Name y py) X.env (.ref L)) _ _ _
  refine wpAny_assign_Name (store_ok2 (v := V.ref L) I' hN hy (.inl hyl) rfl (fun s2 I2 ⟨a, sb, ha⟩ => ?_) (.inr hyl))
  obtain ⟨f0, f1, f2, f3, f4, f5⟩ := f
  have haC : C ≠ a := by
    rcases ha with z | z
    · rw [z]; exact f1
    · exact fun e => f4 y a z e.symm
  refine ⟨m, hn.sameBut sb haC, fun h3 sb3 => ?_⟩
  exact ⟨_, H', I2.turned (t' := s2.toks) (fun b o hb e => (sb3.2 b hb).trans e) f0 f1 f3 f4 f5, q⟩
end
end Lv

/-! {n: c for n in t}, a dict that changes later -/
namespace Lv
open PySem PySem.Spec PyProof.Rows L2
variable [TabA]
section
variable {K : PySem.W.Frag} {σ : L2.St} {H : Hp} {Q : VK} {tk tv : TE}
theorem aDcT.goC {j : Nat} {a : Addr} {ns : List Int} {ts : List Nat} {G P : Hp} {c : V} (J : Join G P H) (hS : G a = some (.tup (ns.map V.int))) (hn : ns.Nodup) (hl : ns.length ≤ 100000) (hw : ∀ x, wipe ((wipe σ ts).set j (some x)) ts = wipe σ ts)
    (hk : ∀ (n : Int) (H' : Hp) (S : VK), S (.int n) H' → tk ((wipe σ ts).set j (some (.int n))) H' S) (hv : ∀ (x : V) (H' : Hp) (S : VK), S c H' → tv ((wipe σ ts).set j (some x)) H' S)
    (hq : ∀ p P' H', H p = none → Ex P P' → Join G P' H' → P' p = some (.dK (kvZ ns (ns.map fun _ => c))) → Q (.ref p) H') : aDcT K (gName j) tYes tk tv ts σ (.ref a) H Q := by
  refine ⟨a, rfl, ⟨_, sqT (J.g _ _ hS)⟩, fun D hD => ?_⟩
  have pD : P D = none := J.np hD
  have gD : G D = none := J.ng hD
  refine dc_tup (K := K) (a := a) (xs := ns.map V.int) (fun i H' => ∃ P', Ex P P' ∧ Join G P' H' ∧ P' D = some (.dK (kvZ (ns.take i) ((ns.take i).map fun _ => c)))) ⟨_, Ex.new pD, J.setP gD, upd_same⟩ (fun i H' _ ⟨P', e, j', _⟩ => sqT (j'.g _ _ hS)) (fun i x H' hi ⟨P', e, j', hd⟩ => ?_) (fun H' ⟨P', e, j', hd⟩ => ?_)
  · obtain ⟨n, hi2, rfl⟩ := int_at hi
    have hil := (List.getElem?_eq_some_iff.mp hi2).1
    have hlen : ((ns.take i).map fun _ => c).length = (ns.take i).length := by rw [List.length_map]
    refine ⟨hw _, iteT (B := True) (hk n H' _ (hv _ H' _ ⟨_, .inl n, rfl, j'.p _ _ hd, ?_, _, ?_, j'.setPo hd, ?_⟩))⟩
    · refine szlt ?_
      rw [kvZ_len hlen, List.length_take]; omega
    · exact e.mut pD
    · rw [upd_same, kvZ_put hlen, take_more hi2, List.map_append]; rfl
      intro hm
      obtain ⟨b, hc⟩ := List.getElem?_of_mem hm
      have hc1 := (List.getElem?_eq_some_iff.mp hc).1
      rw [List.length_take] at hc1
      rw [List.getElem?_take, if_pos (by omega)] at hc
      obtain ⟨b1, b2⟩ := List.getElem?_eq_some_iff.mp hc
      obtain ⟨b3, b4⟩ := List.getElem?_eq_some_iff.mp hi2
      have := (List.getElem_inj hn).mp (b2.trans b4.symm)
      omega
  · rw [List.length_map, List.take_length] at hd
    exact hq D P' H' hD e j' hd
end
end Lv

/-! xs[::-1] -/
namespace Lv
open PySem PySem.Spec PyProof.Rows L2
variable [TabA]
section
variable {K : PySem.W.Frag} {σ : L2.St} {G P H : Hp} {Q : VK} {te : TE}
def aRevL (K : PySem.W.Frag) : V → Hp → VK → Prop := fun x H1 Q => ∃ a xs, x = .ref a ∧ SqL K H1 a xs ∧ ∀ p, H1 p = none → Q (.ref p) (upd H1 p (.lst xs.reverse))
theorem w_revL (h : te σ H fun x H1 => aRevL K x H1 Q) : tRevL K te σ H Q := h
theorem aRevL.go {a : Addr} {xs : List V} (J : Join G P H) (h : H a = some (.lst xs)) (q : ∀ p G' H', H p = none → Ex G G' → Join G' P H' → G' p = some (.lst xs.reverse) → Q (.ref p) H') : aRevL K (.ref a) H Q :=
  ⟨a, xs, rfl, sqL h, fun p hp => q p _ _ hp (Ex.new (J.ng hp)) (J.newG hp) upd_same⟩
end
end Lv

/-! isinstance(e, C) of an error that is caught: its class is told where the suite is entered -/
namespace Lv
open PySem PySem.Spec PyProof.Rows L2
variable [TabA]
/-- what an own error class must say, and which of some classes it is -/
def excB (K : PySem.W.Frag) (c : Str) (cs : List Str) : Bool :=
  decide (PySem.W.findIn K (.ref (He.ga K c)) "__getattribute__" = some (some (.builtin "BaseException.__getattribute__"))) &&
  (decide (PySem.W.findIn K (.ref (He.ga K c)) "__getattr__" = some none) &&
  (decide (PySem.W.subIn K (.ref (He.ga K c)) (.type "BaseException") = some true) &&
  (decide (PySem.W.hasDictIn K (He.ga K c) = true) &&
  (decide (PySem.W.findIn K (.ref (He.ga K c)) "__class__" = some (some (.builtin "object.__class__"))) &&
  (decide (PySem.W.specialIn K (.builtin "object.__class__") "__get__" = some (some (.builtin "getset_descriptor.__get__"))) &&
  (decide (PySem.W.takesIn K (.builtin "object.__class__") = some true) &&
  (decide (PySem.W.mroIn K (He.ga K c) (.type "object") = some true) &&
  (decide (PySem.W.kitOne K (.ref (He.ga K c)) (.type "ValueError") = some true) &&
  cs.all fun y => decide (PySem.W.kitOne K (.ref (He.ga K c)) (.ref (He.ga K y)) = some (decide (c = y)))))))))))
theorem excB_ok {K : PySem.W.Frag} {c : Str} {cs : List Str} (h : excB K c cs = true) : ExcC K (He.ga K c) ∧ PySem.W.kitOne K (.ref (He.ga K c)) (.type "ValueError") = some true ∧ ∀ y ∈ cs, PySem.W.kitOne K (.ref (He.ga K c)) (.ref (He.ga K y)) = some (decide (c = y)) := by
  unfold excB at h
  simp only [Bool.and_eq_true, decide_eq_true_eq, List.all_eq_true] at h
  obtain ⟨h1, h2, h3, h4, h5, h6, h7, h8, h9, h10⟩ := h
  exact ⟨⟨h1, h2, h3, h4, h5, h6, h7, h8⟩, h9, h10⟩
/-- isinstance(e, c), e the error that the suite holds, of the class cls -/
def rIsG (K : PySem.W.Frag) (cls : Value) (d : Option Addr) (a : Addr) : List V → Hp → VK → Prop := fun xs H Q => ∃ D, cls = .ref D ∧ d = none ∧ ExcC K D ∧ rIsE K D a xs H Q
theorem call_isG {X : Cx} {a : Addr} {oe : Obj} {cls : Value} {d : Option Addr} {pn : List (Addr × Obj)} (hz : Zc cls d oe) (hf : ∃ vs, oe.data = .fields vs) : CallR (X.suite a ((a, oe) :: pn)) (.builtin "isinstance") (rIsG X.K cls d a) := by
  intro pins s σ H xs us Q I r h
  obtain ⟨D, rfl, rfl, C, h⟩ := h
  exact call_isE C hz hf pins s σ H xs us Q I r h
theorem call_isGK {X : Cx} {K : PySem.W.Frag} {a : Addr} {oe : Obj} {cls : Value} {d : Option Addr} {pn : List (Addr × Obj)} (h : X.K = K) (hz : Zc cls d oe) (hf : ∃ vs, oe.data = .fields vs) : CallR (X.suite a ((a, oe) :: pn)) (.builtin "isinstance") (rIsG K cls d a) := h ▸ call_isG hz hf
section
variable {K : PySem.W.Frag} {H : Hp} {σ : L2.St} {Q : VK} {a : Addr}
theorem w_isG {cls : Value} {d : Option Addr} {as : TA} (h : as σ H fun vs H1 => rIsG K cls d a vs H1 Q) : tCB (rIsG K cls d a) as σ H Q := h
theorem isG_own {c y : Str} {cs : List Str} (hB : excB K c cs = true) (hy : y ∈ cs) (q : Q (.bl (decide (c = y))) H) : rIsG K (.ref (He.ga K c)) none a [.ref a, .ref (He.ga K y)] H Q :=
  ⟨_, rfl, rfl, (excB_ok hB).1, _, .ref (He.ga K y), _, rfl, fun u r => r, (excB_ok hB).2.2 y hy, q⟩
theorem isG_val {c : Str} {cs : List Str} (hB : excB K c cs = true) (q : Q (.bl true) H) : rIsG K (.ref (He.ga K c)) none a [.ref a, .ty "ValueError"] H Q :=
  ⟨_, rfl, rfl, (excB_ok hB).1, _, .type "ValueError", _, rfl, fun u r => r, (excB_ok hB).2.1, q⟩
end
end Lv

/-! a comprehension over a list within an except suite, and what raises so that it can stand there -/
namespace Lv
open PySem PySem.Spec PyProof.Rows L2
variable [TabA]
section
variable {prog : Program} {w : World} {A : Around} {E : Value → Shared → Prop} {s : Shared}
/-- the end of a list's iterator while an error is handled -/
theorem next_hot {it l x1 : Addr} {i : Nat} {items : Array Value} {Q : Option Value → Shared → Prop}
    (hot : HotX.HotAt A x1 s.heap) (hne : x1 ≠ it) (hit : s.heap.IsListIter it l i)
    (hl : s.heap.IsList l items) (hx : items[i]? = none)
    (hQ : ∀ h', Heap.ExtBut it s.heap h' → Q none { s with heap := h' }) :
    wpAny (model prog w) A (pyNext (.ref it)) Q E s := by
  obtain ⟨oi, hoi, hci, hdi⟩ := id hit
  obtain ⟨ol, hol, _, _, hdl⟩ := hl
  obtain ⟨hh, o1, vs1, h1, d1, c1⟩ := hot
  unfold pyNext
  refine wpAny_bind (wpAny_attempt (wpAny_callSpecial?_slot
    (name := Str.ofString "__next__") hit.typeIs slot_listiter_next
    (wpAny_call_entry slot_listiter_next hit.typeIs
      entry_listiter_next ?_ (args_listiter_next _))))
  change wpAny _ _ (field (.ref it) 0 >>= _) _ _ _
  refine wpAny_bind (wpAny_field hoi hdi (x := .ref l) rfl ?_)
  change wpAny _ _ (if (Value.ref l == Value.none) = true then _ else _) _ _ _
  rw [if_neg (by exact Bool.false_ne_true)]
  change wpAny _ _ (field (.ref it) 1 >>= _) _ _ _
  refine wpAny_bind (wpAny_field hoi hdi (x := .int i 0) rfl ?_)
  change wpAny _ _ (seqItems? (.ref l) >>= _) _ _ _
  refine wpAny_bind (wpAny_seqItems hol hdl ?_)
  simp only [hx, Int.toNat_natCast]
  refine wpAny_bind (wpAny_rule (wpAny_bind
    (wpAny_setField hoi hdi (by simp) ?_)))
  change wpAny _ _ (newExc (.type "StopIteration") [] >>= _) _ _ _
  refine wpAny_bind ?_
  simp only [newTuple, newExc]
  refine wpAny_bind (wpAny_newObj_type ?_ (by size_fits))
  refine wpAny_bind (m := firstArgMember _ _)
    (wpAny_of_eq (a := Value.none) (by first | rfl | (simp only [firstArgMember]; rfl)) ?_)
  refine wpAny_newObj_type ?_ (by size_fits)
  refine HotX.raiseNew_hot
    ⟨hh, o1, vs1, Heap.get?_push_of_some _ (Heap.get?_push_of_some _
      ((Heap.get?_update_other _ _ (Ne.symm hne)).trans h1)), d1, c1⟩
    (Nat.ne_of_lt (Heap.lt_size (Heap.get?_push_of_some _
      ((Heap.get?_update_other _ _ (Ne.symm hne)).trans h1))))
    (Heap.get?_push_size _ rfl) rfl
    (by first | (simp; done) | (simp; omega)) ?_
  refine wpAny_bind (wpAny_isInstance (T := "StopIteration") (b := true)
    ⟨_, Heap.get?_update_self _ (Heap.get?_push_size _ rfl) rfl, rfl⟩
    isSubtype_stop ?_)
  refine wpAny_pure (hQ _ fun b o nb e => ?_)
  have e2 := (Heap.get?_update_other s.heap (Obj.mapFields fun x => x.setIfInBounds 0 Value.none) (Ne.symm nb)).trans e
  have e3 := Heap.get?_push_of_some { cls := Value.type "tuple", data := Data.seq #[] } e2
  refine (Heap.get?_update_other _ _ (Nat.ne_of_gt (Heap.lt_size e3))).trans ?_
  exact Heap.get?_push_of_some _ e3
end
/-- the error that is handled, pinned, its context None -/
structure HotCx (X : Cx) (x1 : Addr) (o1 : Obj) : Prop where
  han : X.A.handled = some (.ref x1)
  pin : (x1, o1) ∈ X.pn
  ctx : ∃ vs, o1.data = .fields vs ∧ vs[2]? = some .none
theorem HotCx.out {X : Cx} {x1 : Addr} {o1 : Obj} {pins : List (Addr × Obj)} {σ : L2.St} {H : Hp} {s : Shared} (h : HotCx X x1 o1) (I : Inv X pins σ H s) : x1 ∉ frs X.stack := by
  obtain ⟨_, _, h3, h4, _⟩ := I.pin (x1, o1) (List.mem_append_left _ h.pin)
  rcases I.ok.stk with e | ⟨e, e2⟩
  · rw [e]; exact h4
  · rw [e]
    unfold frs
    rw [List.filterMap_cons, e2]
    intro z
    rcases List.mem_cons.mp z with z | z
    · exact h3 z
    · exact h4 z
section
variable {X : Cx} {x1 : Addr} {o1 : Obj}
theorem pe_lcH {elt tg iter : Expr} {ifs : List Expr} {scope : Scope} {own : List (Str × Nat)} {pos : Pos} {tl : TE} {g : TG} {tt : TT} {te : TE}
    (hot : HotCx X x1 o1) (hN : X.N.Nodup) (hi : PE X iter tl) (ok : BlkOk X.N X.env.scope scope own)
    (hg : ∀ (s : Shared) (H : Hp) (C : Addr) (cl : List (Str × Addr)) (fp : List Addr), PG (X.blk s H scope (compEnvC scope cl C X.env) fp) tg g)
    (ht : ∀ (s : Shared) (H : Hp) (C : Addr) (cl : List (Str × Addr)) (fp : List Addr), PTs (X.blk s H scope (compEnvC scope cl C X.env) fp) ifs tt)
    (he : ∀ (s : Shared) (H : Hp) (C : Addr) (cl : List (Str × Addr)) (fp : List Addr), PE (X.blk s H scope (compEnvC scope cl C X.env) fp) elt te)
    (hs : ∀ x, foldedSetIterable iter X.env x = pure x := by intro _; rfl) :
    PE X (.ListComp elt [⟨tg, iter, ifs, 0⟩] scope pos) (tLc (iList X.K tl) g tt te (own.map (·.2))) := by
  refine ⟨fun pins s σ H Q I h => ?_⟩
  rw [eval_ListComp]
  have fre : ∀ y ∈ scope.names, y.2 = .free → ∃ c, X.env.cells.lookup y.1 = some c :=
    fun y hy e => (ok.free y hy e).elim (fun k => I.ok.has _ (.inl k)) fun k => I.ok.has _ (.inr k)
  refine wpAny_comprehension_free (use := none) rfl hs (closure_ok fre) ok.kind
    (fun y hy e => by rw [ok.uniq y hy, e]) (thn (hi.run pins s σ H _ I h) fun v s1 hv => ?_)
  obtain ⟨x, H1, I1, r1, a, rfl, ⟨xs, hq⟩, q⟩ := hv
  cases r1
  obtain ⟨its, rv, lsp, _⟩ := I1.list hq
  refine wpAny_pyIter_list lsp.isList ?_
  have I2 := I1.kept (t' := s1.toks) fun b o e =>
    Heap.get?_push_of_some { cls := .type "list_iterator", data := .fields #[.ref a, .int 0 0] } e
  have st2 : (s1.heap.push { cls := .type "list_iterator", data := .fields #[.ref a, .int 0 0] }).IsListIter s1.heap.objs.size a 0 :=
    ⟨_, Heap.get?_push_size _ rfl, rfl, rfl⟩
  have ft2 : FpOk X pins H1 s1.heap.objs.size := I1.fpOk (Nat.le_refl _) (I1.hok.fresh (Nat.le_refl _))
  generalize s1.heap.objs.size = it at st2 ft2 ⊢
  generalize hs2 : ({ s1 with heap := s1.heap.push { cls := .type "list_iterator", data := .fields #[.ref a, .int 0 0] } } : Shared) = s2 at I2 ⊢
  have st2 : s2.heap.IsListIter it a 0 := hs2 ▸ st2
  clear hs2
  refine wpAny_newObj_type (newEnv_comp ?_) (Nat.zero_le _)
  obtain ⟨L, hL⟩ : ∃ L, s2.heap.objs.size = L := ⟨_, rfl⟩
  have nL : H1 L = none := I2.hok.fresh (Nat.le_of_eq hL)
  rw [hL]
  obtain ⟨W, ⟨m0, w0⟩, turn⟩ := q L nL
  have I3 : Inv X pins σ (upd H1 L (.lst [])) { s2 with heap := s2.heap.push { cls := .type "list", data := .seq ([] : List Value).toArray } } :=
    I2.laid (t' := s2.toks) (fun b o e => Heap.get?_push_of_some _ e) (Nat.le_of_eq hL)
      ⟨Nat.zero_le _, [], 0, .nil, hL ▸ Heap.get?_push_size _ rfl⟩
  obtain ⟨oi, hoi, _⟩ := id st2
  have hlt := Heap.lt_size hoi
  have st3 : (s2.heap.push { cls := .type "list", data := .seq ([] : List Value).toArray }).IsListIter it a 0 :=
    st2.at fun o e => Heap.get?_push_of_some _ e
  have ft3 : ∀ b ∈ [it], FpOk X pins (upd H1 L (.lst [])) b ∧ b < (s2.heap.push { cls := .type "list", data := .seq ([] : List Value).toArray }).objs.size := fun b hb => by
    obtain rfl := List.mem_singleton.mp hb
    refine ⟨⟨?_, ft2.2⟩, by rw [Heap.size_push]; exact Nat.lt_succ_of_lt hlt⟩
    rw [upd_ne (Nat.ne_of_lt (hL ▸ hlt))]
    exact ft2.1
  generalize hs3 : ({ s2 with heap := s2.heap.push { cls := .type "list", data := .seq ([] : List Value).toArray } } : Shared) = s3 at I3 ⊢
  replace st3 : s3.heap.IsListIter it a 0 := hs3 ▸ st3
  replace ft3 : ∀ b ∈ [it], FpOk X pins (upd H1 L (.lst [])) b ∧ b < s3.heap.objs.size := hs3 ▸ ft3
  clear hs3 hoi hlt st2 ft2 I2 I1 hL
  have I4 := block_start I3 ok hN ft3
  have pG := hg s3 (upd H1 L (.lst [])) s3.heap.objs.size (cellsFrom (s3.heap.objs.size + 1) scope.names (cloFrom X.env.cells scope.names [])) [it]
  have pT := ht s3 (upd H1 L (.lst [])) s3.heap.objs.size (cellsFrom (s3.heap.objs.size + 1) scope.names (cloFrom X.env.cells scope.names [])) [it]
  have pE := he s3 (upd H1 L (.lst [])) s3.heap.objs.size (cellsFrom (s3.heap.objs.size + 1) scope.names (cloFrom X.env.cells scope.names [])) [it]
  change codeAny _ _
    (.compStart (.ListComp elt [⟨tg, iter, ifs, 0⟩] scope pos) 0 (.ref it) (.ref L)
      (compEnvC scope (cellsFrom (s3.heap.objs.size + 1) scope.names (cloFrom X.env.cells scope.names [])) s3.heap.objs.size X.env))
    (compPost (model X.prog X.w) X.A X.xe none (EP X pins σ Q) (.ref L) s3.heap.objs.size)
    { s3 with heap := pushCells (s3.heap.push { cls := .type "dict", data := .dict #[] }) scope.names }
  have n3 : (upd H1 L (.lst [])) it = none := (ft3 it (List.mem_singleton.mpr rfl)).1.1
  have hx1 := I3.pin (x1, o1) (List.mem_append_left _ hot.pin)
  have hxo := hot.out I3
  have hxi : x1 ≠ it := (ft3 it (List.mem_singleton.mpr rfl)).1.2.2.2.2.2 (x1, o1) (List.mem_append_left _ hot.pin)
  generalize hce : compEnvC scope (cellsFrom (s3.heap.objs.size + 1) scope.names (cloFrom X.env.cells scope.names [])) s3.heap.objs.size X.env = ce at I4 pG pT pE ⊢
  have cloc : ce.locals = s3.heap.objs.size := hce ▸ rfl
  generalize upd H1 L (.lst []) = H3 at I3 I4 pG pT pE w0 n3 ft3 hx1
  generalize hs4 : ({ s3 with heap := pushCells (s3.heap.push { cls := .type "dict", data := .dict #[] }) scope.names } : Shared) = s4 at I4 ⊢
  have st4 : s4.heap.IsListIter it a 0 :=
    st3.at fun o e => by rw [← hs4]; exact pushCells_keeps _ _ _ _ (Heap.get?_push_of_some _ e)
  clear hs4 hce
  have fpo : ∀ {σ' : L2.St} {H' : Hp} {s' : Shared}, Inv (X.blk s3 H3 scope ce [it]) [] σ' H' s' → H' it = none → FpOk (X.blk s3 H3 scope ce [it]) [] H' it := fun I' hn =>
    have m := List.mem_singleton.mpr rfl
    ⟨hn, (I'.ok.exf it m).1, I'.ok.exfs it m, .inl m, fun x c e => (I'.ok.exf it m).2 x c e, fun p hp => by simp at hp⟩
  have hotB : ∀ {σ' : L2.St} {H' : Hp} {s' : Shared}, Inv (X.blk s3 H3 scope ce [it]) [] σ' H' s' → HotX.HotAt X.A x1 s'.heap := fun I' => by
    obtain ⟨vs, c1, c2⟩ := hot.ctx
    exact ⟨hot.han, o1, vs, I'.base.keep x1 o1 hx1.1 hx1.2.1 hxo (fun z => hxi (List.mem_singleton.mp z)), c1, c2⟩
  have loop : codeAny (model X.prog X.w) X.A
      (.compLoop (.ListComp elt [⟨tg, iter, ifs, 0⟩] scope pos) 0 (.ref it) (.ref L) ce)
      (compPost (model X.prog X.w) X.A X.xe none (EP X pins σ Q) (.ref L) s3.heap.objs.size) s4 := by
    refine compLoop_any (fun n s' => ∃ i H', Inv (X.blk s3 H3 scope ce [it]) [] (wipe σ (own.map (·.2))) H' s' ∧
      s'.heap.IsListIter it a i ∧ H' it = none ∧ W i n H') ?_ m0 ⟨0, H3, I4, st4, n3, w0⟩
    rintro n s5 ⟨i, H5, I5, st5, n5, w5⟩
    obtain ⟨f0, f1, f2, f3, f4, f5⟩ := fpo I5 n5
    rcases turn i n H5 w5 with ⟨⟨ys, hys, hle⟩, qq⟩ | ⟨⟨ys, y, hys, hy⟩, Nx, hNx, step⟩
    · obtain ⟨jts, rv5, ls5, _⟩ := I5.list hys
      have hl5 := rv5.length
      have nx := next_hot (prog := X.prog) (w := X.w) (E := fun _ _ => False)
        (Q := fun r s' => r = none ∧ Inv (X.blk s3 H3 scope ce [it]) [] (wipe σ (own.map (·.2))) H5 s')
        (hotB I5) hxi st5 ls5.isList (by simp; omega) fun h' eb =>
          ⟨rfl, I5.turned (t' := s5.toks) (fun b o hb e => eb b o hb e) f0 f1 f3 f4 f5⟩
      refine thnF nx fun r s6 ⟨hr, I6⟩ => ?_
      subst hr
      have I7 : Inv X pins σ H5 s6 := I3.call' (ch := [it]) I6.os I6.base I6.hok I6.bare fun b hb =>
        have z := (ft3 b hb).1
        ⟨z.2.2.2.1, z.2.1, z.2.2.2.2.1, z.2.2.2.2.2⟩
      have nC : H5 s3.heap.objs.size = none := cloc ▸ I6.free
      obtain ⟨m, hn, _⟩ := I6.loc
      have hm : s6.heap.Ns s3.heap.objs.size m := cloc ▸ hn
      obtain ⟨k0, k1, k2, k3, k4, k5⟩ := I3.fpOk (H' := H5) (Nat.le_refl _) nC
      exact ⟨m, hm, fun h2 sb => ⟨.ref L, H5, I7.turned (t' := s6.toks) (fun b o hb e => (sb.2 b hb).trans e) k0 k1 k3 k4 k5, rfl, qq⟩⟩
    · obtain ⟨jts, rv5, ls5, _⟩ := I5.list hys
      obtain ⟨u, hu, ru⟩ := rv5.get hy
      refine wpAny_pyNext_list_item st5 ls5.isList (x := u) (by simpa using hu) fun h' st6 sb => ?_
      have I6 : Inv (X.blk s3 H3 scope ce [it]) [] (wipe σ (own.map (·.2))) H5 { s5 with heap := h' } :=
        I5.turned (t' := s5.toks) (fun b o hb e => (sb.2 b hb).trans e) f0 f1 f3 f4 f5
      obtain ⟨oi, ho1, ho2, ho3⟩ := id st6
      change wpAny _ _ (letOwnedTupleGo tg (.ref it) u) _ _ _
      refine go_of (s := { s5 with heap := h' }) ho1 ho2 ho3 (by decide) ?_
      replace ho1 : ({ s5 with heap := h' } : Shared).heap.get? it = some oi := ho1
      generalize ({ s5 with heap := h' } : Shared) = s7 at I6 st6 ho1 ⊢
      have hyl : (Itl X.K a).yld i H5 y H5 := ⟨rfl, fun zs hz => by rw [I6.list_inj hz hys]; exact hy⟩
      have I7 := I6.pinned (fp := [it])
        (fun b hb => by obtain rfl := List.mem_singleton.mp hb; exact fpo I6 n5)
        (fun b hb => by obtain rfl := List.mem_singleton.mp hb; exact ⟨oi, ho1, fun v z => by rw [ho3] at z; cases z⟩)
      have back : ∀ {σ' : L2.St} {s' : Shared} {H' : Hp}, wipe σ' (own.map (·.2)) = wipe σ (own.map (·.2)) →
          Inv (X.blk s3 H3 scope ce [it]) ([] ++ pinsAt [it] s7.heap) σ' H' s' → Nx H' →
          ∃ m, m < n ∧ ∃ i H', Inv (X.blk s3 H3 scope ce [it]) [] (wipe σ (own.map (·.2))) H' s' ∧ s'.heap.IsListIter it a i ∧ H' it = none ∧ W i m H' := fun {σ' s' H'} hw I' nx => by
        obtain ⟨m', hm, w'⟩ := hNx H' nx
        have hp := I'.pin (it, oi) (List.mem_append_right _ (List.mem_append_right _ (mem_pinsAt (List.mem_singleton.mpr rfl) ho1)))
        have hlen : (wipe σ (own.map (·.2))).length = σ'.length := by rw [← hw, wipe_length]
        refine ⟨m', hm, i + 1, H', (I'.unpinned (pins := [])).weak hlen (fun jj vv e => ?_), ⟨oi, hp.1, ho2, ho3⟩, hp.2.1, w'⟩
        rw [← hw] at e
        exact (wipe_some e).1
      refine thnF (pG.run _ s7 _ H5 y u _ I7 ru (step y H5 hyl)) fun _ s8 ⟨σ8, H8, I8, hw8, q8⟩ => ?_
      refine thnF (pT.run _ s8 σ8 H8 _ I8 q8) fun b s9 ⟨H9, I9, q9⟩ => ?_
      cases b with
      | false =>
        rw [if_neg (by decide)] at q9 ⊢
        exact back hw8 I9 q9
      | true =>
        rw [if_pos rfl] at q9 ⊢
        refine thnF (pE.run _ s9 σ8 H9 _ I9 q9) fun zv s10 ⟨yv, H10, I10, r10, acc, hD10, hz10, nx⟩ => ?_
        exact app_ok (X := X.blk s3 H3 scope ce [it]) I10 hD10 hz10 r10 fun s11 I11 => back hw8 I11 nx
  exact codeAny_compStart_list loop (wpAny_pyIter_listiter st4 loop)
theorem pe_lcHK {K : PySem.W.Frag} {elt tg iter : Expr} {ifs : List Expr} {scope : Scope} {own : List (Str × Nat)} {pos : Pos} {tl : TE} {g : TG} {tt : TT} {te : TE}
    (hK : X.K = K) (hot : HotCx X x1 o1) (hN : X.N.Nodup) (hi : PE X iter tl) (ok : BlkOk X.N X.env.scope scope own)
    (hg : ∀ (s : Shared) (H : Hp) (C : Addr) (cl : List (Str × Addr)) (fp : List Addr), PG (X.blk s H scope (compEnvC scope cl C X.env) fp) tg g)
    (ht : ∀ (s : Shared) (H : Hp) (C : Addr) (cl : List (Str × Addr)) (fp : List Addr), PTs (X.blk s H scope (compEnvC scope cl C X.env) fp) ifs tt)
    (he : ∀ (s : Shared) (H : Hp) (C : Addr) (cl : List (Str × Addr)) (fp : List Addr), PE (X.blk s H scope (compEnvC scope cl C X.env) fp) elt te)
    (hs : ∀ x, foldedSetIterable iter X.env x = pure x := by intro _; rfl) :
    PE X (.ListComp elt [⟨tg, iter, ifs, 0⟩] scope pos) (tLc (iList K tl) g tt te (own.map (·.2))) := hK ▸ pe_lcH hot hN hi ok hg ht he hs
theorem hot_suite {a : Addr} {oe : Obj} {cls : Value} {d : Option Addr} {pn : List (Addr × Obj)} (hz : L2N.Zn cls d oe) (hf : ∃ vs, oe.data = .fields vs) : HotCx (X.suite a ((a, oe) :: pn)) a oe :=
  ⟨rfl, List.mem_cons_self, hf.imp fun vs h => ⟨h, hz.2.2 vs h⟩⟩
end
theorem call_isGN {X : Cx} {K : PySem.W.Frag} {a : Addr} {oe : Obj} {cls : Value} {d : Option Addr} {pn : List (Addr × Obj)} (h : X.K = K) (hz : L2N.Zn cls d oe) (hf : ∃ vs, oe.data = .fields vs) : CallR (X.suite a ((a, oe) :: pn)) (.builtin "isinstance") (rIsG K cls d a) := call_isGK h hz.zc hf
theorem pmk_exc0N {X : Cx} {x : Str} {p pos : Pos} (c : (He.Fa.exc x).ok X.K = true) (gC : X.mg x = some (.ref (He.ga X.K x))) (hg : Gl X x) (hdb : (x == ("__debug__" : Str)) = false := by decide) :
    L2N.PMk X (.Call (.Name x p) [] [] pos) (fun _ H Q => Q (.ref (He.ga X.K x)) none H) := by
  obtain ⟨q, kC, s1, t1⟩ := He.exc_ok c
  intro pins s σ H Q I h
  refine wpAny_Call_Name_kw (ld_glob I hg gC ?_ hdb)
  refine PySem.W.callWith_K0 I.kIn kC ?_
  show wpAny _ _ (call (.ref (He.ga X.K x)) []) _ _ _
  obtain ⟨bm, N, nm, qn, bs, hdct, sn, sub, ab, col, dd, k0, k1, k2, k3, k5, mN, hC, hN, hni, T⟩ := exc_obj I.kIn q
  refine wpAny_call_exc_subT PySem.F.excBase_ValueError T hC hN hni (fun h' e hm => ?_) (by show 0 ≤ sizeLine; exact Nat.zero_le _)
  exact L2N.mk_of I hm (raises_own s1 t1) h (I.hok.gone hm.new)
theorem passLN {X : Cx} : Passes (L2N.CX X.prog X.w) X E0 := fun _ _ _ _ _ _ _ h => by
  obtain ⟨_, _, _, _, _, _, _, _, _, _, _, _, z⟩ := h
  exact z.elim
theorem takes0N {X : Cx} : L2N.Takes X (fun _ _ _ _ => False) := fun _ _ x => by
  obtain ⟨_, _, _, _, _, _, _, _, _, _, _, _, _, _, _, _, z⟩ := x
  exact z.elim
theorem walks_hot {prog : Program} {w : World} {A : Around} {x1 : Addr} {o1 : Obj} {vs1 : Array Value} (hh : A.handled = some (.ref x1)) (d1 : o1.data = .fields vs1) (c1 : vs1[2]? = some .none)
    (I ax : Addr) (hne : ax ≠ I) (hx : x1 ≠ I) (items : Array Value) :
    Walks prog w A I [I, ax, x1] [I] items.size (fun i v => items[i]? = some v) (fun i h => h.IsListIter I ax i ∧ h.IsList ax items ∧ h.get? x1 = some o1) where
  sub := fun b hb => by obtain rfl := List.mem_singleton.mp hb; exact List.mem_cons_self
  frame := fun _ _ _ st hk => ⟨st.1.at fun o e => hk I (by simp) o e, st.2.1.at fun o e => hk ax (by simp) o e, hk x1 (by simp) o1 st.2.2⟩
  item := fun i s Q E hi st hQ =>
    wpAny_pyNext_list_item st.1 st.2.1 (x := items[i]) (by simp [hi]) fun h' hit' sb =>
      hQ _ h' s.toks (by simp [hi]) ⟨hit', st.2.1.extBut sb.extBut hne, sb.extBut x1 o1 hx st.2.2⟩
        fun b o hb e => sb.extBut b o (fun z => hb (List.mem_singleton.mpr z)) e
  done := fun s Q E st hQ =>
    next_hot ⟨hh, o1, vs1, st.2.2, d1, c1⟩ hx st.1 st.2.1 (by simp) fun h' eb =>
      hQ h' s.toks fun b o hb e => eb b o (fun z => hb (List.mem_singleton.mpr z)) e
  self := fun _ _ _ _ st hQ => wpAny_pyIter_listiter st.1 hQ
theorem cr_sumH {X : Cx} {K : PySem.W.Frag} {x1 : Addr} {o1 : Obj} (hK : X.K = K) (hot : HotCx X x1 o1) : CallR X (.builtin "sum") (rSum K) := by
  subst hK
  intro pins s σ H vs us Q I r h
  obtain ⟨a, ns, rfl, hs, q⟩ := h
  obtain ⟨its, rv, hl, _⟩ := I.list hs
  rw [Vals.ref1 r]
  obtain ⟨xs, ei⟩ := rv.ints.allInts.items
  have hn : numsOf (intItems xs).toList = ns := by rw [← ei]; exact rv.ints.numsOf
  rw [nums_intItems] at hn
  have hli := hl.isList
  rw [ei] at hli
  obtain ⟨vs1, d1, c1⟩ := hot.ctx
  obtain ⟨px, _⟩ := I.pin (x1, o1) (List.mem_append_left _ hot.pin)
  have hlt := Heap.lt_size px
  refine call_sum_walkG (iter_intList hli fun s2 e st hfp hne => ?_)
  subst e
  have p2 := Heap.get?_push_of_some { cls := .type "list_iterator", data := .fields #[.ref a, .int 0 0] } px
  refine ⟨_, _, _, _, _, _, numAt xs, rfl, walks_hot (A := X.A.in1) hot.han d1 c1 _ a hne (Nat.ne_of_lt hlt) (intItems xs), ⟨st.1, st.2, p2⟩, fun b hb => ?_, fun _ _ => intItems_at, fun h' tk t' hk => ?_⟩
  · rcases List.mem_cons.mp hb with z | hb
    · exact hfp b (by rw [z]; simp)
    · rcases List.mem_cons.mp hb with z | hb
      · exact hfp b (by rw [z]; simp)
      · rw [List.mem_singleton.mp hb]; exact Heap.lt_size p2
  · have e : preSum (numAt xs) (intItems xs).size = ns.sum := by
      rw [preSum_eq, List.take_of_length_le (by simp [intItems]), hn]
    refine ⟨.int ns.sum, H, I.kept (t' := tk) fun b o eb => hk b o (fun z => ?_) (Heap.get?_push_of_some _ eb), ⟨t', by rw [e]⟩, q⟩
    exact absurd (List.mem_singleton.mp z) (Nat.ne_of_lt (Heap.lt_size eb))
end Lv

/-! {f(x): x for x in xs} over a list; list(d) of a dict keyed by ints; xs.extend(ys) -/
namespace Lv
open PySem PySem.Spec PyProof.Rows L2
variable [TabA]
/-- what stands there when the pairs are put behind each other -/
def PutOk (zs : List (Int × V)) (kvs : List (L2.Key × V)) : Prop := ∃ ns : List Int, kvs.map (·.1) = ns.map Sum.inl ∧ ns.Nodup ∧ (∀ k, k ∈ ns ↔ ∃ v, (k, v) ∈ zs) ∧ ∀ k ∈ ns, ∃ v, valV kvs (.inl k) = some v ∧ (k, v) ∈ zs
theorem PutOk.nil : PutOk [] [] := ⟨[], rfl, List.nodup_nil, fun k => ⟨fun h => (nomatch h), fun ⟨_, h⟩ => (nomatch h)⟩, fun k h => (nomatch h)⟩
theorem inl_mem {ns : List Int} {k : Int} : (Sum.inl k : L2.Key) ∈ ns.map Sum.inl ↔ k ∈ ns := by
  constructor
  · intro h
    obtain ⟨a, ha, e⟩ := List.mem_map.mp h
    injection e with e
    rw [← e]; exact ha
  · exact fun h => List.mem_map_of_mem h
theorem PutOk.add {zs : List (Int × V)} {kvs : List (L2.Key × V)} (h : PutOk zs kvs) (k : Int) (v : V) : PutOk (zs ++ [(k, v)]) (putK kvs (.inl k) v) := by
  obtain ⟨ns, h1, h2, h3, h4⟩ := h
  have hval : ∀ j, valV (putK kvs (.inl k) v) (.inl j) = if j = k then some v else valV kvs (.inl j) := fun j => by
    rw [valV_put]
    by_cases c : j = k
    · rw [if_pos c, if_pos (by rw [c])]
    · rw [if_neg c, if_neg fun e => c (Sum.inl.inj e)]
  by_cases m : k ∈ ns
  · refine ⟨ns, ?_, h2, fun j => ?_, fun j hj => ?_⟩
    · obtain ⟨u, hu, _⟩ := h4 k m
      have hk : (putK kvs (.inl k) v).map (·.1) = kvs.map (·.1) := by
        unfold putK
        rw [if_pos (by rw [valV_any, hu]; rfl), List.map_map]
        refine List.map_congr_left fun x _ => ?_
        show (if x.1 = Sum.inl k then (x.1, v) else x).1 = x.1
        split <;> rfl
      rw [hk, h1]
    · constructor
      · intro hj
        obtain ⟨u, hu⟩ := (h3 j).mp hj
        exact ⟨u, List.mem_append_left _ hu⟩
      · rintro ⟨u, hu⟩
        rcases List.mem_append.mp hu with hu | hu
        · exact (h3 j).mpr ⟨u, hu⟩
        · rw [List.mem_singleton] at hu
          injection hu with e1 e2
          rw [e1]; exact m
    · rw [hval]
      by_cases c : j = k
      · rw [if_pos c]
        exact ⟨v, rfl, List.mem_append_right _ (by rw [c]; exact List.mem_singleton_self _)⟩
      · rw [if_neg c]
        obtain ⟨u, q1, q2⟩ := h4 j hj
        exact ⟨u, q1, List.mem_append_left _ q2⟩
  · have hno : ∀ x ∈ kvs, x.1 ≠ Sum.inl k := fun x hx e => m (inl_mem.mp (by rw [← h1, ← e]; exact List.mem_map_of_mem hx))
    refine ⟨ns ++ [k], ?_, ?_, fun j => ?_, fun j hj => ?_⟩
    · rw [putK_keyv hno, List.map_append, h1, List.map_append]; rfl
    · refine List.nodup_append.mpr ⟨h2, List.nodup_cons.mpr ⟨fun h => (nomatch h), List.nodup_nil⟩, fun a ha b hb e => m ?_⟩
      rw [List.mem_singleton] at hb
      rw [← hb, ← e]; exact ha
    · rw [List.mem_append, List.mem_singleton, h3]
      constructor
      · rintro (⟨u, hu⟩ | rfl)
        · exact ⟨u, List.mem_append_left _ hu⟩
        · exact ⟨v, List.mem_append_right _ (List.mem_singleton_self _)⟩
      · rintro ⟨u, hu⟩
        rcases List.mem_append.mp hu with hu | hu
        · exact .inl ⟨u, hu⟩
        · rw [List.mem_singleton] at hu
          injection hu with e1 e2
          exact .inr e1
    · rw [hval]
      by_cases c : j = k
      · rw [if_pos c]
        exact ⟨v, rfl, List.mem_append_right _ (by rw [c]; exact List.mem_singleton_self _)⟩
      · rw [if_neg c]
        rcases List.mem_append.mp hj with hj | hj
        · obtain ⟨u, q1, q2⟩ := h4 j hj
          exact ⟨u, q1, List.mem_append_left _ q2⟩
        · exact absurd (List.mem_singleton.mp hj) c
theorem zip_take_more {ks : List Int} {xs : List V} {i : Nat} {k : Int} {x : V} (h1 : ks[i]? = some k) (h2 : xs[i]? = some x) : (ks.zip xs).take (i + 1) = (ks.zip xs).take i ++ [(k, x)] := take_more (List.getElem?_zip_eq_some.mpr ⟨h1, h2⟩)
section
variable {K : PySem.W.Frag} {σ : L2.St} {G P H : Hp} {Q : VK} {tt : TT} {ta tk tv : TE} {g : TG} {ts : List Nat} {a : Addr} {xs : List V} {ks : List Int} {j : Nat}
def aDcL (K : PySem.W.Frag) (g : TG) (tt : TT) (tk tv : TE) (vs : List Nat) (σ : L2.St) : V → Hp → VK → Prop := fun x H Q => tDc (fun _ H R => ∃ a, x = .ref a ∧ (∃ xs, SqL K H a xs) ∧ R (Itl K a) H) g tt tk tv vs σ H Q
theorem w_dcL (h : ta σ H fun x H1 => aDcL K g tt tk tv ts σ x H1 Q) : tDc (iList K ta) g tt tk tv ts σ H Q := h
/-- a dict of a list's things by a number of each -/
theorem aDcL.go (J : Join G P H) (hS : G a = some (.lst xs)) (hlk : ks.length = xs.length) (hl : xs.length ≤ 100000)
    (hw : ∀ x, wipe ((wipe σ ts).set j (some x)) ts = wipe σ ts)
    (hk : ∀ (i : Nat) (x : V) (k : Int) (H' : Hp) (S : VK), xs[i]? = some x → ks[i]? = some k → Ex H H' → S (.int k) H' → tk ((wipe σ ts).set j (some x)) H' S)
    (hv : ∀ (x : V) (H' : Hp) (S : VK), S x H' → tv ((wipe σ ts).set j (some x)) H' S)
    (hq : ∀ d G' H' kvs, H d = none → Ex G G' → Join G' P H' → G' d = some (.dK kvs) → PutOk (ks.zip xs) kvs → kvs.length ≤ xs.length → Q (.ref d) H') : aDcL K (gName j) tYes tk tv ts σ (.ref a) H Q := by
  refine ⟨a, rfl, ⟨_, sqL (J.g _ _ hS)⟩, fun D hD => ?_⟩
  have oth : ∀ {c : Addr} {o u : HO}, H c = some o → upd H D u c = some o := fun {c o u} h => by rw [upd_ne (ne_of_none h hD)]; exact h
  refine ⟨fun i m H' => m = xs.length - i ∧ i ≤ xs.length ∧ ∃ kvs, PutOk ((ks.zip xs).take i) kvs ∧ kvs.length ≤ i ∧ H' = upd H D (.dK kvs), ⟨xs.length, by simp, Nat.zero_le _, [], PutOk.nil, Nat.le_refl _, rfl⟩, ?_⟩
  rintro i m H' ⟨rfl, hi, kvs, hp, hle, rfl⟩
  by_cases hlt : i < xs.length
  · refine .inr ⟨⟨xs, xs[i], sqL (oth (J.g _ _ hS)), by simp [hlt]⟩, fun H2 => ∃ kvs, PutOk ((ks.zip xs).take (i + 1)) kvs ∧ kvs.length ≤ i + 1 ∧ H2 = upd H D (.dK kvs), fun H2 p => ⟨xs.length - (i + 1), by omega, rfl, by omega, p⟩, fun x H2 y => ?_⟩
    obtain ⟨rfl, y⟩ := y
    have hx : xs[i]? = some x := y xs (sqL (oth (J.g _ _ hS)))
    have hki : ks[i]? = some ks[i] := List.getElem?_eq_getElem (by omega)
    refine ⟨hw _, w_yes ?_⟩
    show tk _ _ _
    refine hk i x ks[i] _ _ hx hki (Ex.new hD) (hv x _ _ ?_)
    refine ⟨kvs, .inl ks[i], rfl, upd_same, szlt (by omega), _, (zip_take_more hki hx) ▸ hp.add ks[i] x, Nat.le_trans (length_putK _ _ _) (by omega), ?_⟩
    funext c
    by_cases hc : c = D
    · rw [hc, upd_same, upd_same]
    · rw [upd_ne hc, upd_ne hc, upd_ne hc]
  · have ei : i = xs.length := by omega
    subst ei
    refine .inl ⟨⟨xs, sqL (oth (J.g _ _ hS)), Nat.le_refl _⟩, ?_⟩
    rw [List.take_of_length_le (by rw [List.length_zip]; omega)] at hp
    exact hq D (upd G D _) _ kvs hD (Ex.new (J.ng hD)) (J.newG hD) upd_same hp hle
/-- list(d) -/
def rListDK : List V → Hp → VK → Prop := fun xs H Q => ∃ (a : Addr) (kvs : List (L2.Key × V)), xs = [.ref a] ∧ Rd H a (.dK kvs) ∧ ∀ p, H p = none → Q (.ref p) (upd H p (.lst (kvs.map fun kv => kV kv.1)))
theorem cr_listDK {X : Cx} (hc : X.calm = true) : CallR X (.type "list") rListDK := call_listD hc
theorem listDK_go {d : Addr} {kvs : List (L2.Key × V)} {ns : List Int} (J : Join G P H) (h : Rd H d (.dK kvs)) (hk : kvs.map (·.1) = ns.map Sum.inl)
    (q : ∀ p G' H', H p = none → Ex G G' → Join G' P H' → G' p = some (.lst (ns.map V.int)) → Q (.ref p) H') : rListDK [.ref d] H Q := by
  refine ⟨d, _, rfl, h, fun p hp => ?_⟩
  have e : (kvs.map fun kv => kV kv.1) = ns.map V.int := by
    have := congrArg (List.map kV) hk
    rw [List.map_map, List.map_map] at this
    exact this
  rw [e]
  exact q p _ _ hp (Ex.new (J.ng hp)) (J.newG hp) upd_same
theorem extP {l b : Addr} {xs zs : List V} (J : Join G P H) (e : P l = some (.lst xs)) (hb : H b = some (.lst zs)) (z : xs.length + zs.length < 100000) (q : ∀ H', Join G (upd P l (.lst (xs ++ zs))) H' → Q .non H') : rExtend (.ref l) [.ref b] H Q :=
  ⟨l, b, xs, zs, rfl, rfl, J.p _ _ e, hb, Nat.le_of_lt (szlt z), q _ (J.setPo e)⟩
end
end Lv

/-! for t in e, e a call that gives a dict keyed by tuples: it is locked where it stands, and stays so -/
namespace Lv
open PySem PySem.Spec PyProof.Rows L2
variable [TabA]
section
variable {X : Cx}
def iKeysF (td : TE) : TI := fun σ H R => td σ H fun x H1 => ∃ d kvs, x = .ref d ∧ H1 d = some (.dT kvs) ∧ ∀ o, R (Itkt d o kvs) (upd H1 d (.frz o (.dT kvs)))
theorem pi_keysF {tg e : Expr} {td : TE} (he : PE X e td) : PI X tg e (iKeysF td) := by
  refine ⟨fun pins s σ H R I h => ?_⟩
  refine thn (he.run pins s σ H _ I h) fun u s1 ⟨x, H1, I1, rx, d, kvs, ex, hd0, q⟩ => ?_
  subst ex
  obtain rfl : u = Value.ref d := rx
  obtain ⟨od, I2⟩ := I1.lock hd0 trivial
  have hd : (upd H1 d (.frz od (.dT kvs))) d = some (.frz od (.dT kvs)) := upd_same
  obtain ⟨hs, hgd, hx, es, ep, hdt, hsz, ent⟩ := I2.frzT hd
  refine iter_keys hs hgd hx hdt (pi_one (tk := s1.toks) I2 _ (turn_keysT _ hdt) ⟨_, Heap.get?_push_size _ rfl, rfl, ?_⟩ (q od))
  rw [hsz] <;> rfl
end
section
variable {σ : L2.St} {G P H : Hp} {nx : L2.St → Hp → Prop} {rt : VK} {bk ct : L2.St → Hp → Prop} {td : TE} {g : TG} {tb : TS} {d : Addr} {D : Ends}
def aForKF (g : TG) (tb : TS) (D : Ends) (σ : L2.St) : V → Hp → Prop := fun x H => tFor (fun _ H1 R => ∃ d kvs, x = .ref d ∧ H1 d = some (.dT kvs) ∧ ∀ o, R (Itkt d o kvs) (upd H1 d (.frz o (.dT kvs)))) g tb D σ H
theorem w_forKF (h : td σ H fun x H1 => aForKF g tb D σ x H1) : tFor (iKeysF td) g tb D σ H := h
theorem aForKF.go {kvs : List (List Int × V)} (J : Join G P H) (h : P d = some (.dT (tK kvs))) (I : Nat → Hp → Hp → L2.St → Prop) (h0 : ∀ od, I 0 G (upd P d (.frz od (.dT (tK kvs)))) σ)
    (hs : ∀ (od : Obj) (rt' : VK) (bk' : L2.St → Hp → Prop) (i : Nat) (k : List Int) (v : V) (b : Addr) (G' P' H' : Hp) (σ' : L2.St), kvs[i]? = some (k, v) → H' b = some (.tup (k.map V.int)) → P' d = some (.frz od (.dT (tK kvs))) → Join G' P' H' → I i G' P' σ' →
      g (.ref b) σ' H' fun σ2 H2 => tb ⟨fun σ3 H3 => ∃ G3 P3, Join G3 P3 H3 ∧ P3 d = some (.frz od (.dT (tK kvs))) ∧ I (i + 1) G3 P3 σ3, rt', bk', fun σ3 H3 => ∃ G3 P3, Join G3 P3 H3 ∧ P3 d = some (.frz od (.dT (tK kvs))) ∧ I (i + 1) G3 P3 σ3⟩ σ2 H2)
    (hq : ∀ (od : Obj) (G' P' H' : Hp) (σ' : L2.St), P' d = some (.frz od (.dT (tK kvs))) → I kvs.length G' P' σ' → Join G' P' H' → nx σ' H') : aForKF g tb ⟨nx, rt, bk, ct⟩ σ (.ref d) H := by
  refine ⟨d, tK kvs, rfl, J.p _ _ h, fun od => ?_⟩
  refine for_keysT (fun i σ' H' => ∃ G3 P3, Join G3 P3 H' ∧ P3 d = some (.frz od (.dT (tK kvs))) ∧ I i G3 P3 σ') ⟨G, _, J.setPo h, upd_same, h0 od⟩ (fun i σ' H' _ ⟨G', P', j', hd, _⟩ => j'.p _ _ hd) (fun i k v b σ' H' hk hb ⟨G', P', j', hd, hI⟩ => ?_) (fun σ' H' ⟨G', P', j', hd, hI⟩ => hq od G' P' _ σ' hd (by rw [tK_len] at hI; exact hI) j')
  obtain ⟨n, hn, rfl⟩ := tK_at hk
  exact hs od _ _ i n v b G' P' H' σ' hn (by rw [hb, tup_kV]) hd j' hI
end
end Lv

/-! {t: c for t in ts}, the keys tuples of ints, ts a tuple -/
namespace Lv
open PySem PySem.Spec PyProof.Rows L2
variable [TabA]
section
variable {X : Cx}
theorem dcG_core {pins : List (Addr × Obj)} {s : Shared} {σ : L2.St} {H : Hp} {Q : VK} {use : Option (Value → Sem Unit)} {Qf : Value → Shared → Prop} {pos' : Pos} {kx vx tg iter : Expr} {ifs : List Expr} {scope : Scope} {own : List (Str × Nat)} {pos : Pos} {wi : TI} {g : TG} {tt : TT} {tk tv : TE} {o0 : HO} (em : Emp o0) (hu : X.A.units + 1 < cLine) (hc : X.calm = true) (hN : X.N.Nodup) (hi : PI X tg iter wi) (ok : BlkOk X.N X.env.scope scope own)
    (hg : ∀ (s : Shared) (H : Hp) (C : Addr) (cl : List (Str × Addr)) (fp : List Addr), PG (X.blk s H scope (compEnvC scope cl C X.env) fp) tg g) (ht : ∀ (s : Shared) (H : Hp) (C : Addr) (cl : List (Str × Addr)) (fp : List Addr), PTs (X.blk s H scope (compEnvC scope cl C X.env) fp) ifs tt)
    (hk : ∀ (s : Shared) (H : Hp) (C : Addr) (cl : List (Str × Addr)) (fp : List Addr), PE (X.blk s H scope (compEnvC scope cl C X.env) fp) kx tk)
    (he : ∀ (s : Shared) (H : Hp) (C : Addr) (cl : List (Str × Addr)) (fp : List Addr), PE (X.blk s H scope (compEnvC scope cl C X.env) fp) vx tv) (hs : ∀ x, foldedSetIterable iter X.env x = pure x) (I : L2.Inv X pins σ H s) (h : tDcG o0 wi g tt tk tv (own.map (·.2)) σ H Q)
    (hRR : ∀ D C s' m H', L2.Inv X pins σ H' s' → Q (.ref D) H' → s'.heap.Ns C m → FpOk X pins H' C → compPost (model X.prog X.w) X.A X.xe use Qf (.ref D) C (.ok .next) s') :
    wpAny (model X.prog X.w) X.A (comprehension (.DictComp kx vx [⟨tg, iter, ifs, 0⟩] scope pos) scope X.env pos' newDict false (eval iter X.env) use) Qf X.xe s := by
  refine dc_frame (Q := Q) (R := fun J D H3 => ∃ W : Nat → Nat → Hp → Prop, (∃ m, W 0 m H3) ∧ ∀ i m H, W i m H →
    (J.stop i H ∧ Q (.ref D) H) ∨ (J.go i H ∧ ∃ Nx : Hp → Prop, (∀ H', Nx H' → ∃ m', m' < m ∧ W (i + 1) m' H') ∧ ∀ x H', J.yld i H x H' → g x (wipe σ (own.map fun p : Str × Nat => p.2)) H' fun σ2 H2 => wipe σ2 (own.map fun p : Str × Nat => p.2) = wipe σ (own.map fun p : Str × Nat => p.2) ∧ tt σ2 H2 fun b H3 =>
      if b = true then tk σ2 H3 fun y H4 => tv σ2 H4 fun z H5 => ∃ H6, DPut H5 D y z H6 ∧ Nx H6 else Nx H3)) hc hN em I hi ok hs h ?_ hRR
  · rintro J D fp it tn s3 H3 ce C cl s4 ⟨W, ⟨m0, w0⟩, turn⟩ ⟨rfl, T, I4, st4, nfp, stat⟩ hexit
    refine compLoop_anyD (fun n s' => ∃ i H', L2.Inv (X.blk s3 H3 scope (compEnvC scope cl C X.env) fp) [] (wipe σ (own.map (·.2))) H' s' ∧ tn i s'.heap ∧ (∀ b ∈ fp, H' b = none) ∧ W i n H') ?_ m0 ⟨0, H3, I4, st4, nfp, w0⟩
    rintro n s5 ⟨i, H5, I5, st5, n5, w5⟩
    rcases turn i n H5 w5 with ⟨stop, qq⟩ | ⟨go, Nx, hNx, step⟩
    · refine thnF (T.done (X.blk s3 H3 scope (compEnvC scope cl C X.env) fp) rfl rfl rfl hc i [] s5 _ H5 (fun _ _ => False) I5 (stat I5 n5) st5 stop) fun r s6 ⟨hr, I6⟩ => ?_
      subst hr
      exact hexit H5 s6 I6 qq
    · refine thnF (T.item (X.blk s3 H3 scope (compEnvC scope cl C X.env) fp) rfl rfl rfl hc i [] s5 _ H5 (fun _ _ => False) I5 (stat I5 n5) st5 go) fun r s6 ⟨u, hr, h6⟩ => ?_
      subst hr
      refine thnF h6 fun _ s7 ⟨x, H7, I7, r7, y7, st7, n7⟩ => ?_
      have I7' := I7.pinned (stat I7 n7) (T.obj _ _ st7)
      refine thnF ((hg _ _ _ _ _).run _ s7 _ H7 x u _ I7' r7 (step x H7 y7)) fun _ s8 ⟨σ8, H8, I8, hw8, q8⟩ => ?_
      refine thnF ((ht _ _ _ _ _).run _ s8 σ8 H8 _ I8 q8) fun b s9 ⟨H9, I9, q9⟩ => ?_
      have fin : ∀ {s' : Shared} {H' : Hp}, L2.Inv (X.blk s3 H3 scope (compEnvC scope cl C X.env) fp) ([] ++ pinsAt fp s7.heap) σ8 H' s' → Nx H' → ∃ m, m < n ∧ ∃ i H', L2.Inv (X.blk s3 H3 scope (compEnvC scope cl C X.env) fp) [] (wipe σ (own.map (·.2))) H' s' ∧ tn i s'.heap ∧ (∀ b ∈ fp, H' b = none) ∧ W i m H' := fun {s' H'} I' nx => by
        obtain ⟨m', hm, w'⟩ := hNx H' nx
        have pin' : ∀ b ∈ fp, ∀ o, s7.heap.get? b = some o → s'.heap.get? b = some o ∧ H' b = none := fun b hb o e =>
          let z := I'.pin (b, o) (List.mem_append_right _ (List.mem_append_right _ (mem_pinsAt hb e)))
          ⟨z.1, z.2.1⟩
        refine ⟨m', hm, i + 1, H', (I'.unpinned (pins := [])).weak (by rw [← hw8, wipe_length]) (fun j v e => by rw [← hw8] at e; exact (wipe_some e).1), T.keep _ _ _ st7 fun b hb o e => (pin' b hb o e).1, fun b hb => ?_, w'⟩
        obtain ⟨o, e, _⟩ := T.obj _ _ st7 b hb
        exact (pin' b hb o e).2
      cases b with
      | false =>
        simp only [Bool.false_eq_true, if_false] at q9 ⊢
        exact fin I9 q9
      | true =>
        simp only [if_true] at q9 ⊢
        refine thnF ((hk _ _ _ _ _).run _ s9 σ8 H9 _ I9 q9) fun z s10 ⟨yk, H10, I10, r10, q10⟩ => ?_
        refine thnF ((he _ _ _ _ _).run _ s10 σ8 H10 _ I10 q10) fun z2 s11 ⟨yv, H11, I11, r11, H12, dp, nx⟩ => ?_
        exact put_any (X := X.blk s3 H3 scope (compEnvC scope cl C X.env) fp) hu I11 dp r10 r11 fun s12 I12 => fin I12 nx
theorem ps_setDcG {i : Nat} {y : Str} {py spos : Pos} {kx vx tg iter : Expr} {ifs : List Expr} {scope : Scope} {own : List (Str × Nat)} {pos : Pos} {wi : TI} {g : TG} {tt : TT} {tk tv : TE} {o0 : HO} (em : Emp o0) (hu : X.A.units + 1 < cLine) (hc : X.calm = true) (hN : X.N.Nodup) (hy : X.N[i]? = some y) (hyl : X.env.scope.names.lookup y = some .local)
    (hsw : swapsWith (.DictComp kx vx [⟨tg, iter, ifs, 0⟩] scope pos) (some (.Name y py)) spos.line X.env = pure true) (hi : PI X tg iter wi) (ok : BlkOk X.N X.env.scope scope own)
    (hg : ∀ (s : Shared) (H : Hp) (C : Addr) (cl : List (Str × Addr)) (fp : List Addr), PG (X.blk s H scope (compEnvC scope cl C X.env) fp) tg g) (ht : ∀ (s : Shared) (H : Hp) (C : Addr) (cl : List (Str × Addr)) (fp : List Addr), PTs (X.blk s H scope (compEnvC scope cl C X.env) fp) ifs tt)
    (hk : ∀ (s : Shared) (H : Hp) (C : Addr) (cl : List (Str × Addr)) (fp : List Addr), PE (X.blk s H scope (compEnvC scope cl C X.env) fp) kx tk)
    (he : ∀ (s : Shared) (H : Hp) (C : Addr) (cl : List (Str × Addr)) (fp : List Addr), PE (X.blk s H scope (compEnvC scope cl C X.env) fp) vx tv) (hs : ∀ x, foldedSetIterable iter X.env x = pure x := by intro _; rfl) :
    PS X (.Assign [.Name y py] (.DictComp kx vx [⟨tg, iter, ifs, 0⟩] scope pos) spos) (tAsg (tDcG o0 wi g tt tk tv (own.map (·.2))) (gName i)) := by
  refine ⟨fun pins s σ H D I h => ?_⟩
  rw [exec_Assign_Name_used _ _ _ _ hsw]
  refine wpAny_bind (wpAny_standAt (wpAny_bind ?_))
  show wpAny _ X.A (do let _ ← comprehension (.DictComp kx vx [⟨tg, iter, ifs, 0⟩] scope pos) scope X.env (firstIterPos [⟨tg, iter, ifs, 0⟩] pos) newDict false (eval iter X.env) (some (assign (.Name y py) X.env))) _ _ s
  have h : tDcG o0 wi g tt tk tv (own.map (·.2)) σ H (fun x H1 => gName i x σ H1 D.nx) := h
  refine wpAny_bind (thn (dcG_core (Qf := fun _ s' => SP X pins D .next s') em hu hc hN hi ok hg ht hk he hs I h fun L C s' m H' I' q hn f => ?_) fun _ s' hq => wpAny_pure (wpAny_pure hq))
  show wpAny _ _ (assign (.Name y py) X.env (.ref L)) _ _ _
  refine wpAny_assign_Name (store_ok2 (v := V.ref L) I' hN hy (.inl hyl) rfl (fun s2 I2 ⟨a, sb, ha⟩ => ?_) (.inr hyl))
  obtain ⟨f0, f1, f2, f3, f4, f5⟩ := f
  have haC : C ≠ a := by
    rcases ha with z | z
    · rw [z]; exact f1
    · exact fun e => f4 y a z e.symm
  refine ⟨m, hn.sameBut sb haC, fun h3 sb3 => ?_⟩
  exact ⟨_, H', I2.turned (t' := s2.toks) (fun b o hb e => (sb3.2 b hb).trans e) f0 f1 f3 f4 f5, q⟩
end
def putAll (c : V) (acc : List (List Int × V)) (nss : List (List Int)) : List (List Int × V) := nss.foldl (fun acc k => putK acc k c) acc
theorem putAll_len (c : V) : ∀ (nss : List (List Int)) (acc : List (List Int × V)), (putAll c acc nss).length ≤ acc.length + nss.length
  | [], acc => Nat.le_refl _
  | n :: r, acc => by
    have h := putAll_len c r (putK acc n c)
    have k := length_putK acc n c
    show (putAll c (putK acc n c) r).length ≤ _
    rw [List.length_cons]; omega
theorem putAll_app (c : V) (acc : List (List Int × V)) (a b : List (List Int)) : putAll c acc (a ++ b) = putAll c (putAll c acc a) b := List.foldl_append
section
variable {K : PySem.W.Frag} {σ : L2.St} {G P H : Hp} {Q : VK} {tt : TT} {ta tk tv : TE} {g : TG} {ts : List Nat} {a : Addr} {xs : List V} {j : Nat} {o0 : HO} {c : V}
def aDcGT (K : PySem.W.Frag) (o0 : HO) (g : TG) (tt : TT) (tk tv : TE) (vs : List Nat) (σ : L2.St) : V → Hp → VK → Prop := fun x H Q => tDcG o0 (fun _ H R => ∃ a, x = .ref a ∧ (∃ xs, SqT K H a xs) ∧ R (Itt K a) H) g tt tk tv vs σ H Q
theorem w_dcGT (h : ta σ H fun x H1 => aDcGT K o0 g tt tk tv ts σ x H1 Q) : tDcG o0 (iTup K ta) g tt tk tv ts σ H Q := h
theorem aDcGT.go {nss : List (List Int)} (J : Join G P H) (nt : NT P) (hS : G a = some (.tup xs)) (hT : TupL iV G xs nss) (hl : xs.length ≤ 90000) (hw : ∀ x, wipe ((wipe σ ts).set j (some x)) ts = wipe σ ts)
    (hk : ∀ (x : V) (H' : Hp) (S : VK), S x H' → tk ((wipe σ ts).set j (some x)) H' S) (hv : ∀ (x : V) (H' : Hp) (S : VK), S c H' → tv ((wipe σ ts).set j (some x)) H' S)
    (hq : ∀ d P' H', H d = none → Ex P P' → Join G P' H' → NT P' → P' d = some (.dT (tK (putAll c [] nss))) → Q (.ref d) H') : aDcGT K (.dT []) (gName j) tYes tk tv ts σ (.ref a) H Q := by
  refine ⟨a, rfl, ⟨_, sqT (J.g _ _ hS)⟩, fun D hD => ?_⟩
  have pD : P D = none := J.np hD
  refine ⟨fun i m H' => m = xs.length - i ∧ i ≤ xs.length ∧ ∃ P', Ex P P' ∧ Join G P' H' ∧ NT P' ∧ P' D = some (.dT (tK (putAll c [] (nss.take i)))), ⟨xs.length, by simp, Nat.zero_le _, _, Ex.new pD, J.setPn hD, nt.upd fun _ e => (nomatch e), upd_same⟩, ?_⟩
  rintro i m H' ⟨rfl, hi, P', e, j', nt', hd⟩
  by_cases hlt : i < xs.length
  · refine .inr ⟨⟨xs, xs[i], sqT (j'.g _ _ hS), by simp [hlt]⟩, fun H2 => ∃ P', Ex P P' ∧ Join G P' H2 ∧ NT P' ∧ P' D = some (.dT (tK (putAll c [] (nss.take (i + 1))))), fun H2 p => ⟨xs.length - (i + 1), by omega, rfl, by omega, p⟩, fun x H2 y => ?_⟩
    obtain ⟨rfl, y⟩ := y
    have hx : xs[i]? = some x := y xs (sqT (j'.g _ _ hS))
    obtain ⟨ns, t, hns, rfl, ht⟩ := hT.get hx
    refine ⟨hw _, w_yes ?_⟩
    show tk _ _ _
    refine hk _ _ _ (hv _ _ _ ?_)
    refine ⟨_, DPut.t (k := ns.map Sum.inl) (j'.p _ _ hd) (by rw [tup_kV]; exact j'.g _ _ ht) (szlt ?_), _, ?_, j'.setPo hd, nt'.upd fun _ e => (nomatch e), ?_⟩
    · rw [tK_len]
      have := putAll_len c (nss.take i) []
      rw [List.length_take] at this
      simp only [List.length_nil] at this
      omega
    · exact e.mut pD
    · rw [upd_same, tK_put, take_more hns, putAll_app]; rfl
  · have ei : i = xs.length := by omega
    subst ei
    rw [hT.1, List.take_length] at hd
    exact .inl ⟨⟨xs, sqT (j'.g _ _ hS), Nat.le_refl _⟩, hq D P' H' hD e j' nt' hd⟩
end
end Lv

/-! a thing of another kind == an object whose class has an own __eq__: the other side decides -/
namespace Lv
open PySem PySem.Spec PyProof.Rows PySem.SeqAt L2
variable [TabA]
open AutoSeq1 (wpAny_loadPart')
section
variable {C : Addr} {dx : Addr} {K : PySem.W.Frag}
theorem sub_step {M : Model} {A : Around} {E : Value → Shared → Prop} {s : Shared} {t : Value} {b : Bool} {Q : Bool → Shared → Prop} (X : K.In s.heap) (e : PySem.W.subIn K (.ref C) t = some b) (q : Q b s) : wpAny M A (isSubtype (.ref C) t) Q E s := (PySem.W.looks_subIn X e).here q
theorem none_own (m : Addr) : Gives (Builtin.«NoneType.__eq__» ⟨[.none, .ref m], []⟩) (.val (Value.notImplemented)) := NoneType___eq___none_ref_0 m
theorem int_own (b : Int) (u : Tok) (m : Addr) :
    Meets (Builtin.«int.__eq__» ⟨[.int b u, .ref m], []⟩) (fun _ R s => s.heap.get? m = some (PySem.W.instObj C dx) ∧ R (.ok (.ret .notImplemented)) s) :=
  .of_wp fun prog w A R s h => by obtain ⟨hp, g, d, tk, os⟩ := s; obtain ⟨hl, h⟩ := h; unfold PySem.W.instObj at hl; wp_walk using wpAny_loadPart' hl, wpAny_load hl; exact ⟨_, rfl, h⟩
theorem str_own (b : Str) (u : Tok) (m : Addr) :
    Meets (Builtin.«str.__eq__» ⟨[.str b u, .ref m], []⟩) (fun _ R s => s.heap.get? m = some (PySem.W.instObj C dx) ∧ R (.ok (.ret .notImplemented)) s) :=
  .of_wp fun prog w A R s h => by obtain ⟨hp, g, d, tk, os⟩ := s; obtain ⟨hl, h⟩ := h; unfold PySem.W.instObj at hl; wp_walk using wpAny_loadPart' hl, wpAny_load hl; exact ⟨_, rfl, h⟩
theorem tuple_own (hs : PySem.W.subIn K (.ref C) (.type "tuple") = some false) (l m : Addr) (items : Array Value) (n : Nat) (dd : Option Addr) (sl : Array (Option Value)) :
    Meets (Builtin.«tuple.__eq__» ⟨[.ref l, .ref m], []⟩) (fun _ R s => K.In s.heap ∧ s.heap.get? l = some { cls := .type "tuple", dict := dd, data := .seq items n, slots := sl } ∧ s.heap.get? m = some (PySem.W.instObj C dx) ∧ R (.ok (.ret .notImplemented)) s) :=
  .of_wp fun prog w A R s h => by obtain ⟨hp, g, d, tk, os⟩ := s; obtain ⟨X, hl, hm, h⟩ := h; unfold PySem.W.instObj at hm; wp_walk using wpAny_loadPart' hl, wpAny_loadPart' hm, wpAny_load hm, sub_step X hs; exact ⟨_, rfl, h⟩
theorem bool_own (b : Bool) (m : Addr) :
    Meets (Builtin.«int.__eq__» ⟨[.bool b, .ref m], []⟩) (fun _ R s => s.heap.get? m = some (PySem.W.instObj C dx) ∧ R (.ok (.ret .notImplemented)) s) :=
  .of_wp fun prog w A R s h => by obtain ⟨hp, g, d, tk, os⟩ := s; obtain ⟨hl, h⟩ := h; unfold PySem.W.instObj at hl; wp_walk using wpAny_loadPart' hl, wpAny_load hl; exact ⟨_, rfl, h⟩
theorem list_own (hs : PySem.W.subIn K (.ref C) (.type "list") = some false) (l m : Addr) (items : Array Value) (n : Nat) (dd : Option Addr) (sl : Array (Option Value)) :
    Meets (Builtin.«list.__eq__» ⟨[.ref l, .ref m], []⟩) (fun _ R s => K.In s.heap ∧ s.heap.get? l = some { cls := .type "list", dict := dd, data := .seq items n, slots := sl } ∧ s.heap.get? m = some (PySem.W.instObj C dx) ∧ R (.ok (.ret .notImplemented)) s) :=
  .of_wp fun prog w A R s h => by obtain ⟨hp, g, d, tk, os⟩ := s; obtain ⟨X, hl, hm, h⟩ := h; unfold PySem.W.instObj at hm; wp_walk using wpAny_loadPart' hl, wpAny_loadPart' hm, wpAny_load hm, sub_step X hs; exact ⟨_, rfl, h⟩
theorem dict_own (hs : PySem.W.subIn K (.ref C) (.type "dict") = some false) (l m : Addr) (o : Obj) (ho : o.cls = .type "dict") :
    Meets (Builtin.«dict.__eq__» ⟨[.ref l, .ref m], []⟩) (fun _ R s => K.In s.heap ∧ s.heap.get? l = some o ∧ s.heap.get? m = some (PySem.W.instObj C dx) ∧ R (.ok (.ret .notImplemented)) s) :=
  .of_wp fun prog w A R s h => by obtain ⟨hp, g, d, tk, os⟩ := s; obtain ⟨X, hl, hm, h⟩ := h; unfold PySem.W.instObj at hm; wp_walk using wpAny_loadPart' hl, wpAny_load hl, wpAny_loadPart' hm, wpAny_load hm, sub_step X hs; exact ⟨_, rfl, h⟩
end
section
variable {prog : Program} {w : World} {A : Around} {E : Value → Shared → Prop} {s : Shared} {K : PySem.W.Frag} {m C f : Addr} {ox : Obj} {od : Option Obj} {a : Value} {Ta ida : String}
theorem eq_back {Q : Value → Shared → Prop} (hu : A.units < cLine) (X : K.In s.heap) (I : PySem.W.InstAt s.heap m ox C od) (ha : s.TypeIs a Ta) (hsub : PySem.W.subIn K (.ref C) (.type Ta) = some false) (h1 : Slot Ta (cmpInfo .Eq).2.1 ida)
    (hc1 : ∀ Q' : Value → Shared → Prop, Q' .notImplemented s → wpAny (model prog w) A (call (.builtin ida) [a, .ref m]) Q' E s)
    (hs : PySem.W.findIn K (.ref C) "__eq__" = some (some (.ref f))) (hf : PySem.W.isFn K (.ref f) = true)
    (h : wpAny (model prog w) A (call (.ref f) [.ref m, a]) (PySem.W.CmpBack Q) E s) : wpAny (model prog w) A (richCompare .Eq a (.ref m)) Q E s := by
  rcases hi : cmpInfo CmpOp.Eq with ⟨sym, fn, r⟩
  have hr : r = "__eq__" := by
    have := congrArg (fun z : String × Str × Str => z.2.2) hi
    exact this.symm
  rw [hi] at h1
  simp only [richCompare, hi, ha.oneThing_none]
  refine wpAny_holding (wpAny_bind (wpAny_cRoomFor hu ?_))
  refine wpAny_bind (wpAny_typeOf ha (wpAny_bind (I.type.here ?_)))
  have hne : (Value.type Ta != Value.ref C) = true := rfl
  simp only [hne, if_true]
  refine wpAny_bind (sub_step X hsub ?_)
  simp only [Bool.false_eq_true, if_false, Bool.not_false, if_true]
  refine wpAny_bind (m := tryCompare a _ (.ref m)) (wpAny_tryCompare_declines ha h1 (hc1 _ ⟨rfl, ?_⟩))
  have one : wpAny (model prog w) A (tryCompare (.ref m) r a) (fun z s' => ∃ v, z = some v ∧ Q v s') E s := by
    unfold tryCompare
    subst hr
    refine wpAny_bind (PySem.W.ifBound_K X I hs hf (wpAny_mono h (fun v s' hv => ?_) fun _ _ e => e))
    cases v <;> first | exact hv.elim | exact wpAny_pure ⟨_, rfl, hv⟩
  refine wpAny_bind (wpAny_mono one (fun z s' hz => ?_) fun _ _ e => e)
  obtain ⟨v, rfl, hq⟩ := hz
  exact wpAny_pure hq
end
def subB (K : PySem.W.Frag) (c : Str) : Bool := kindN.all fun t => decide (PySem.W.subIn K (.ref (He.ga K c)) (.type t) = some false)
theorem subB_ok {K : PySem.W.Frag} {c : Str} (h : subB K c = true) : ∀ t ∈ kindN, PySem.W.subIn K (.ref (He.ga K c)) (.type t) = some false := fun t ht => of_decide_eq_true (List.all_eq_true.mp h t ht)
/-- x == y by the own __eq__ of y's class, x of another kind -/
def rEqR (K : PySem.W.Frag) (M f : Addr) (sp : Sp) (E : XK) : R2 := fun x y H Q => ∃ C a dx fs G, y = .ref a ∧ H a = some (.ins C dx fs) ∧ OwnE K C M f ∧ Ex G H ∧ Kd G x ∧ (∀ t ∈ kindN, PySem.W.subIn K (.ref C) (.type t) = some false) ∧ sp [y, x] H (fun v H' => ∃ c, v = .bl c ∧ Q (.bl c) H') E
section
variable {X : Cx} {CX : CXT} {M f : Addr} {fd : FuncData} {ps : List Str} {sp : Sp} {n : Nat} {E : XK}
theorem op_eqR (F : FnOk X.prog X.w X.K X.mg X.base CX n f fd ps sp) (hb : Binds X.K fd ps []) (hx : Passes CX X E) (hr : Room (n + 1) X.A) : OpR X (compareOp .Eq) (rEqR X.K M f sp E) := by
  intro pins s σ H x y v u Q I rx ry h
  obtain ⟨C, a, dx, fs, G, rfl, ha, ho, eG, hk, hsub, h⟩ := h
  cases (show u = Value.ref a from ry)
  obtain ⟨mA, J, _⟩ := ins_get I.hok ha
  have hobj := J.obj
  obtain ⟨od, J, _⟩ := J.look
  have hr' := hr.mono (Nat.le_succ n)
  show wpAny (model X.prog X.w) X.A (richCompare .Eq v (.ref a)) (EP X pins σ Q) X.xe s
  have hcall : wpAny (model X.prog X.w) X.A (call (.ref f) [.ref a, v]) (PySem.W.CmpBack (EP X pins σ Q)) X.xe s := by
    refine callOwn F hb hx hr' rfl I ry rx h fun z w H' s' I' rz hz => ?_
    obtain ⟨c, rfl, q⟩ := hz
    cases (show w = Value.bool c from rz)
    exact ⟨.bl c, H', I', rfl, q⟩
  cases hk with
  | int i =>
    obtain ⟨t, q⟩ := (show ∃ t, v = Value.int i t from rx)
    cases q
    exact eq_back hr'.units0 I.kIn J rfl (hsub _ (by decide)) PySem.F.slot_int_eq (fun _ hq => call_meets PySem.F.slot_int_eq rfl PySem.F.entry_int_eq (PySem.F.args_int_eq_2 _ _) (int_own i t a) ⟨hobj, hq⟩) ho.eq ho.fn hcall
  | bl b =>
    cases (show v = Value.bool b from rx)
    exact eq_back hr'.units0 I.kIn J rfl (hsub _ (by decide)) PySem.F.slot_bool_eq (fun _ hq => call_meets PySem.F.slot_bool_eq rfl PySem.F.entry_int_eq (PySem.F.args_int_eq_2 _ _) (bool_own b a) ⟨hobj, hq⟩) ho.eq ho.fn hcall
  | non =>
    cases (show v = Value.none from rx)
    exact eq_back hr'.units0 I.kIn J rfl (hsub _ (by decide)) PySem.F.slot_NoneType_eq (fun _ hq => call_gives PySem.F.slot_NoneType_eq rfl PySem.F.entry_NoneType_eq (PySem.F.args_NoneType_eq_2 _ _) (none_own a) hq) ho.eq ho.fn hcall
  | str z =>
    obtain ⟨t, q⟩ := (show ∃ t, v = Value.str z t from rx)
    cases q
    exact eq_back hr'.units0 I.kIn J rfl (hsub _ (by decide)) PySem.F.slot_str_eq (fun _ hq => call_meets PySem.F.slot_str_eq rfl PySem.F.entry_str_eq (PySem.F.args_str_eq_2 _ _) (str_own z t a) ⟨hobj, hq⟩) ho.eq ho.fn hcall
  | @lst b xs h1 =>
    cases (show v = Value.ref b from rx)
    obtain ⟨its, rv, ⟨⟨cls, dd, data, sls⟩, k, hob, hc, hdn, hdt⟩, hlen⟩ := I.list (sqL (K := X.K) (eG _ _ h1))
    simp only at hc hdt
    subst hc hdt
    exact eq_back hr'.units0 I.kIn J ⟨_, hob, rfl⟩ (hsub _ (by decide)) PySem.F.slot_list_eq (fun _ hq => call_meets PySem.F.slot_list_eq ⟨_, hob, rfl⟩ PySem.F.entry_list_eq (PySem.F.args_list_eq_2 _ _) (list_own (K := X.K) (hsub "list" (by decide)) b a _ _ _ _) ⟨I.kIn, hob, hobj, hq⟩) ho.eq ho.fn hcall
  | @tup b xs h1 =>
    cases (show v = Value.ref b from rx)
    obtain ⟨its, rv, p, hz⟩ := I.tuple (sqT (K := X.K) (eG _ _ h1))
    obtain ⟨⟨cls, dd, data, sls⟩, hob, hc, k, hdt⟩ := (show s.heap.IsTuple b its.toArray from p)
    simp only at hc hdt
    subst hc hdt
    exact eq_back hr'.units0 I.kIn J ⟨_, hob, rfl⟩ (hsub _ (by decide)) PySem.F.slot_tuple_eq (fun _ hq => call_meets PySem.F.slot_tuple_eq ⟨_, hob, rfl⟩ PySem.F.entry_tuple_eq (PySem.F.args_tuple_eq_2 _ _) (tuple_own (K := X.K) (hsub "tuple" (by decide)) b a _ _ _ _) ⟨I.kIn, hob, hobj, hq⟩) ho.eq ho.fn hcall
  | @dic b kvs h1 =>
    cases (show v = Value.ref b from rx)
    obtain ⟨_, _, vs, _, o, es, ep, hob, h2, _⟩ := (show ObjOk X.prog X.w H s.heap b (.dK kvs) from I.hok b _ (eG _ _ h1))
    exact eq_back hr'.units0 I.kIn J ⟨_, hob, h2.1⟩ (hsub _ (by decide)) PySem.F.slot_dict_eq (fun _ hq => call_meets PySem.F.slot_dict_eq ⟨_, hob, h2.1⟩ PySem.F.entry_dict_eq (PySem.F.args_dict_eq_2 _ _) (dict_own (K := X.K) (hsub "dict" (by decide)) b a o h2.1) ⟨I.kIn, hob, hobj, hq⟩) ho.eq ho.fn hcall
end
end Lv

/-! t.index(x) of a tuple of tuples, xs[lo::k], range(i, j, k) -/
namespace Lv
open PySem PySem.Spec PyProof.Rows PySem.SeqAt L2
variable [TabA]
def rIndexU : V → List V → Hp → VK → Prop := fun x xs H Q => ∃ (a t : Addr) (vs : List V) (nss : List (List Int)) (ns : List Int), x = .ref a ∧ xs = [.ref t] ∧ Rd H a (.tup vs) ∧ TupL iV H vs nss ∧ H t = some (.tup (iV ns)) ∧ ns ∈ nss ∧ ∃ j : Nat, nss[j]? = some ns ∧ (∀ i, i < j → nss[i]? ≠ some ns) ∧ Q (.int (j : Nat)) H
theorem idx_at {α : Type} [DecidableEq α] {a : α} : ∀ {l : List α} {j : Nat}, l[j]? = some a → (∀ i, i < j → l[i]? ≠ some a) → l.idxOf a = j
  | [], j, h, _ => by simp at h
  | b :: l, 0, h, _ => by
    have : b = a := by simpa using h
    subst this
    exact List.idxOf_cons_self
  | b :: l, j + 1, h, hn => by
    have hb : b ≠ a := fun e => hn 0 (by omega) (by simp [e])
    have ih := idx_at (l := l) (j := j) (by simpa using h) fun i hi => by
      have := hn (i + 1) (by omega)
      simpa using this
    have hb2 : (b == a) = false := by simpa using hb
    rw [List.idxOf_cons, hb2, ih]; rfl
section
variable {X : Cx}
theorem mt_indexU (hu : X.A.units + 65 < cLine) : MtR X "tuple.index" rIndexU := by
  intro pins s σ H x xs v us Q I rx rxs h
  obtain ⟨a, t, vs, nss, ns, rfl, rfl, ha, hT, ht, hm, jx, hj1, hj2, q⟩ := h
  cases rx
  cases rxs with
  | cons ry rt =>
    rename_i uy ut
    cases rt
    obtain ⟨bs, r1⟩ := Dp.reads I (dT ns) (.ref t) uy (dp_tup (K := X.K) ht) ry
    have hl : Dp X.K H (.ref a) (.tuple (nss.map dT)) := .tup (.inl ha) (dp_all nss vs hT)
    have sl : SeqAt.shaped (.tuple (nss.map dT)) = true := shaped_dU nss
    have sd : SeqAt.shaped (dT ns) = true := shaped_dT ns
    cases hl with
    | tup hs ha2 =>
      obtain ⟨its, rv, p, hz⟩ := I.tuple hs
      obtain ⟨as, h4⟩ := Dp.readsAll I _ _ its ha2 rv
      have hxs : PyData.canLayAll0 (nss.map dT) = true := SeqAt.canLay_of_shaped sl
      have hn : its.length = nss.length := by
        have := SeqAt.ReadsAll.length _ its as h4
        rw [List.length_map] at this
        exact this
      have hmap : its.map (SeqAt.readOf s.heap) = nss.map dT := SeqAt.readsAll_map _ its as hxs h4
      have hroom : X.A.units + 1 + min (PyData.depthAll (nss.map dT)) (dT ns).depth < cLine := room_in_shaped sd hu
      refine call_tuple_index (vs := its) (ks := nss) (k := ns) p ⟨hn, fun j h1 h2 => ?_⟩ hm (by rw [idx_at hj1 hj2]; exact ⟨.int (jx : Nat), H, I.tok _, ⟨s.toks, rfl⟩, q⟩)
      have e1 := SeqAt.items_eqAt (A := X.A) (vs := its.toArray) (show ReadsAll s.heap its.toArray.toList (nss.map dT) as from h4) r1 hxs (SeqAt.canLay_of_shaped sd) hroom its[j] (by simp)
      refine e1.cast ?_
      have e2 : SeqAt.readOf s.heap its[j] = dT nss[j] := by
        have h3 : (its.map (SeqAt.readOf s.heap))[j]? = (nss.map dT)[j]? := by rw [hmap]
        rw [List.getElem?_map, List.getElem?_map, List.getElem?_eq_getElem h1, List.getElem?_eq_getElem h2] at h3
        exact Option.some.inj h3
      rw [e2, eqv_dT]
/-- tuple(l) of a list, the tuple held as it stands -/
def rTupF (K : PySem.W.Frag) : List V → Hp → VK → Prop := fun xs H Q => ∃ l ys, xs = [.ref l] ∧ SqL K H l ys ∧ ∀ p o, H p = none → o.dict = none → o.cls = .type "tuple" → Q (.ref p) (upd H p (.frz o (.tup ys)))
theorem call_tupleF : CallR X (.type "tuple") (rTupF X.K) := by
  intro pins s σ H xs us Q I r h
  obtain ⟨p, ys, rfl, hq, q⟩ := h
  obtain ⟨u, rfl, rx⟩ := vals1 r
  cases rx
  obtain ⟨its, r', pl, hz⟩ := I.list hq
  have hlen := r'.length
  refine call_tuple_list pl.isList (fun h' kp => ?_) (by simp only [List.size_toArray] <;> omega)
  have I1 : Inv X pins σ H { s with heap := h' } := I.kept (t' := s.toks) kp
  have I2 : Inv X pins σ (upd H h'.objs.size (.frz { cls := .type "tuple", data := .seq its.toArray } (.tup ys))) { s with heap := h'.push { cls := .type "tuple", data := .seq its.toArray } } :=
    I1.laid (t' := s.toks) (fun b o e => Heap.get?_push_of_some _ e) (Nat.le_refl _) (show ObjOk X.prog X.w _ _ _ (.frz _ (.tup ys)) from ⟨Heap.get?_push_size _ rfl, hz, its, r', IsTup.new _ _⟩)
  exact ⟨.ref h'.objs.size, _, I2, rfl, q _ _ (I1.hok.fresh (Nat.le_refl _)) rfl rfl⟩
def tBMU (K : PySem.W.Frag) (r : V → List V → Hp → VK → Prop) (to : TE) (t : TA) : TE := fun σ H Q => to σ H fun x H1 => (∃ a o xs, x = .ref a ∧ H1 a = some (.frz o (.tup xs)) ∧ o.dict = none ∧ o.cls = .type "tuple") ∧ t σ H1 fun xs H2 => r x xs H2 Q
theorem pe_bmU {o e : Expr} {es : List Expr} {to : TE} {t : TA} {name : Str} {apos cpos : Pos} {id : String} {r : V → List V → Hp → VK → Prop} (pa : PlainAttrs "tuple") (slot : Slot "tuple" name id) (hty : typeOf (.builtin id) = pure (.type "method_descriptor")) (hm : MtR X id r) (ho : PE X o to) (ha : PA X (e :: es) t)
    (hbase : attributeBase o name X.env (eval o X.env) = eval o X.env := by rfl)
    (hfew : ((backTo cpos (starEach (e :: es) X.env)).all (fun x => !x.1) && (backToKw cpos (keywordEach [] X.env)).all (fun x => x.1.isSome)
      && decide ((e :: es).length + ([] : List Keyword).length + (if ([] : List Keyword).isEmpty then 0 else 1) < 30)) = true := by rfl)
    (hline : (apos.endLine == cpos.line) = true := by rfl) (hs : starEach (e :: es) X.env = (false, eval e X.env) :: starEach es X.env := by rfl) (hplain : (backTo cpos (starEach es X.env)).any (·.1) = false := by rfl) :
    PE X (.Call (.Attribute o name apos) (e :: es) [] cpos) (tBMU X.K r to t) := by
  refine ⟨fun pins s σ H Q I h => ?_⟩
  refine wpAny_Call_method_late hbase hfew hline rfl (thn (ho.run pins s σ H _ I h) fun v s1 ⟨x, H1, I1, r1, ⟨a, ob, xs, ex, hq, h3, h2⟩, q1⟩ => ?_)
  subst ex
  cases r1
  obtain ⟨h1, _⟩ := (show ObjOk X.prog X.w H1 s1.heap a (.frz ob (.tup xs)) from I1.hok a _ hq)
  refine ⟨"tuple", id, pa, slot, hty, ⟨ob, h1, h2⟩, fun b e => ?_, ?_⟩
  · cases e
    exact ⟨ob, h1, h3⟩
  have hA := ha.run cpos pins s1 σ H1 _ I1 q1
  rw [hs] at hA ⊢
  refine Calls.callWith_builtin (by show (false || (backTo cpos (starEach es X.env)).any (·.1)) = false; rw [hplain] <;> rfl) (Calls.evalArgs_plain ?_)
  exact thn hA fun us s2 ⟨vs, H2, I2, r2, q2⟩ => hm pins s2 σ H2 (.ref a) vs (.ref a) us Q I2 rfl r2 q2
/-- xs[lo::k] -/
def pickS (xs : List V) (lo k : Nat) : List V := (List.range ((xs.length - lo + k - 1) / k)).filterMap fun i => xs[lo + k * i]?
theorem sliceR_eq {lo k n : Nat} (hk : 1 ≤ k) : sliceRange (sliceBounds (some (lo : Int)) none (some (k : Int)) n).1 (sliceBounds (some (lo : Int)) none (some (k : Int)) n).2.1 (sliceBounds (some (lo : Int)) none (some (k : Int)) n).2.2 = (List.range ((n - lo + k - 1) / k)).map fun i => min lo n + k * i := by
  have h1 : sliceBounds (some (lo : Int)) none (some (k : Int)) n = (((min lo n : Nat) : Int), (n : Int), (k : Int)) := by
    unfold sliceBounds
    have hp : (k : Int) > 0 := by omega
    have h0 : ¬ ((lo : Int) < 0) := by omega
    simp only [Option.getD_some, hp, if_true, h0, if_false]
    have : max 0 (min (lo : Int) (n : Int)) = ((min lo n : Nat) : Int) := by omega
    rw [this]
  rw [h1]
  unfold sliceRange
  have hp : (k : Int) > 0 := by omega
  simp only [hp, if_true]
  by_cases hl : lo < n
  · have hm : min lo n = lo := by omega
    rw [hm, if_pos (by omega)]
    have hc : (((n : Int) - (lo : Int) + (k : Int) - 1) / (k : Int)).toNat = (n - lo + k - 1) / k := by
      have e : (n : Int) - (lo : Int) + (k : Int) - 1 = ((n - lo + k - 1 : Nat) : Int) := by omega
      rw [e, ← Int.natCast_ediv, Int.toNat_natCast]
    rw [hc]
    refine List.map_congr_left fun i _ => ?_
    have : (lo : Int) + (k : Int) * (i : Int) = ((lo + k * i : Nat) : Int) := by simp
    rw [this, Int.toNat_natCast]
  · have hm : min lo n = n := by omega
    rw [hm, if_neg (by omega)]
    have h0 : n - lo = 0 := by omega
    rw [h0, Nat.zero_add, Nat.div_eq_of_lt (by omega)]; rfl
theorem pick_eq {xs : List V} {lo k : Nat} (hk : 1 ≤ k) : (sliceRange (sliceBounds (some (lo : Int)) none (some (k : Int)) xs.length).1 (sliceBounds (some (lo : Int)) none (some (k : Int)) xs.length).2.1 (sliceBounds (some (lo : Int)) none (some (k : Int)) xs.length).2.2).filterMap (xs[·]?) = pickS xs lo k := by
  rw [sliceR_eq hk]
  unfold pickS
  rw [List.filterMap_map]
  by_cases hl : lo < xs.length
  · have hm : min lo xs.length = lo := by omega
    rw [hm]; rfl
  · have h0 : xs.length - lo = 0 := by omega
    rw [h0, Nat.zero_add, Nat.div_eq_of_lt (by omega)]; rfl
def rStepLo (K : PySem.W.Frag) : V → Option Int → Option Int → Hp → VK → Prop := fun x o o' H Q => ∃ (a : Addr) (xs : List V) (lo k : Nat), x = .ref a ∧ o = some (lo : Int) ∧ o' = some (k : Int) ∧ 1 ≤ k ∧ SqL K H a xs ∧ ∀ p, H p = none → Q (.ref p) (upd H p (.lst (pickS xs lo k)))
def tStepLo (K : PySem.W.Frag) (te : TE) (tl th : TO) : TE := fun σ H Q => te σ H fun x H1 => tl σ H1 fun o H2 => th σ H2 fun o' H3 => rStepLo K x o o' H3 Q
theorem pe_stepLo {e g f : Expr} {te : TE} {tl th : TO} {p3 pos : Pos} (he : PE X e te) (hg : PO X (some g) tl) (hf : PO X (some f) th) (hsub : ∀ (v w : Value), subscripted (.Slice (some g) none (some f) p3) false v w = operate [v, w] (getItem v w) := by intro v w; with_unfolding_all rfl) : PE X (.Subscript e (.Slice (some g) none (some f) p3) pos) (tStepLo X.K te tl th) := by
  refine ⟨fun pins s σ H Q I h => ?_⟩
  refine Subscript_ (thn (he.run pins s σ H _ I h) fun v s1 ⟨x, H1, I1, r1, q1⟩ => ?_)
  refine wpAny_Slice (thn (hg.run pins s1 σ H1 _ I1 q1) fun vl s2 ⟨l, H2, I2, pl, q2⟩ => ?_)
  refine thn (po_none.run pins s2 σ H2 (fun o H3 => o = none ∧ H3 = H2) I2 ⟨rfl, rfl⟩) fun vu s3 ⟨u, H3, I3, pu, eu, e3⟩ => ?_
  subst eu e3
  refine thn (hf.run pins s3 σ H3 _ I3 q2) fun vs s4 ⟨o, H4, I4, ps, q2⟩ => ?_
  obtain ⟨a, xs, lo, k, ex, el, eo, hk, hx, q⟩ := q2
  subst ex el eo
  cases r1
  have I5 : Inv X pins σ H4 { s4 with heap := s4.heap.push { cls := .type "slice", data := .fields #[vl, vu, vs] } } := I4.kept (t' := s4.toks) fun b ob q => Heap.get?_push_of_some _ q
  obtain ⟨its, r, ht, hz⟩ := I5.list hx
  have hlen := r.length
  show wpAny (model X.prog X.w) X.A (subscriptTail e (.Slice (some g) none (some f) p3) (.ref a) (.ref s4.heap.objs.size)) (EP X pins σ Q) X.xe { s4 with heap := s4.heap.push { cls := .type "slice", data := .fields #[vl, vu, vs] } }
  refine tail_any (ops := [.ref a, .ref s4.heap.objs.size]) ht.isList.typeIs (PySem.slot_list_getitem.lookup) ?_ (hsub _ _)
  refine wpAny_getItem_list_slice ht.isList (Heap.IsSliceOf.new _ vl vu vs) pl pu ps (by intro h; injection h with h; omega) ?_ (by rw [List.size_toArray]; omega)
  have hs : its.toArray.size = xs.length := by rw [List.size_toArray]; omega
  have e1 : slicePick its.toArray (some (lo : Int)) none (some (k : Int)) = ((sliceRange (sliceBounds (some (lo : Int)) none (some (k : Int)) xs.length).1 (sliceBounds (some (lo : Int)) none (some (k : Int)) xs.length).2.1 (sliceBounds (some (lo : Int)) none (some (k : Int)) xs.length).2.2).filterMap (its[·]?)).toArray := by
    unfold slicePick
    rw [hs]
    simp only [List.getElem?_toArray]
  have hle := slicePick_size_le its.toArray (some (lo : Int)) none (some (k : Int))
  rw [e1] at hle ⊢
  have r2 := Vals_pick r (sliceRange (sliceBounds (some (lo : Int)) none (some (k : Int)) xs.length).1 (sliceBounds (some (lo : Int)) none (some (k : Int)) xs.length).2.1 (sliceBounds (some (lo : Int)) none (some (k : Int)) xs.length).2.2)
  have hl2 := r2.length
  simp only [List.size_toArray] at hle
  have q1 := q s4.heap.objs.size (I4.hok.fresh (Nat.le_refl _))
  rw [pick_eq hk] at r2 hl2
  refine ⟨.ref _, _, I5.laid (t' := s4.toks) (o := .lst (pickS xs lo k)) (fun b ob q => Heap.get?_push_of_some _ q) (Nat.le_refl _) ?_, rfl, q _ (I5.hok.fresh (Nat.le_refl _))⟩
  exact ⟨by omega, _, 0, r2, Heap.get?_push_size _ rfl⟩
end
section
variable {K : PySem.W.Frag} {σ : L2.St} {H : Hp} {Q : VK} {te : TE} {tl th : TO}
theorem w_stepLo (h : te σ H fun x H1 => tl σ H1 fun o H2 => th σ H2 fun o' H3 => rStepLo K x o o' H3 Q) : tStepLo K te tl th σ H Q := h
theorem stepLo_go {G P : Hp} {a : Addr} {xs : List V} {lo k : Nat} (J : Join G P H) (h : G a = some (.lst xs)) (hk : 1 ≤ k) (q : ∀ p G' H', H p = none → Ex G G' → Join G' P H' → G' p = some (.lst (pickS xs lo k)) → Q (.ref p) H') : rStepLo K (.ref a) (some (lo : Int)) (some (k : Int)) H Q :=
  ⟨a, xs, lo, k, rfl, rfl, rfl, hk, sqL (J.g _ _ h), fun p hp => q p _ _ hp (Ex.new (J.ng hp)) (J.newG hp) upd_same⟩
end
section
variable {K : PySem.W.Frag} {σ : L2.St} {H : Hp} {Q : VK} {to : TE} {t : TA} {r : V → List V → Hp → VK → Prop}
def aBMU (K : PySem.W.Frag) (r : V → List V → Hp → VK → Prop) (t : TA) (σ : L2.St) : V → Hp → VK → Prop := fun x H Q => (∃ a o xs, x = .ref a ∧ H a = some (.frz o (.tup xs)) ∧ o.dict = none ∧ o.cls = .type "tuple") ∧ t σ H fun xs H2 => r x xs H2 Q
theorem w_bmu (h : to σ H fun x H1 => aBMU K r t σ x H1 Q) : tBMU K r to t σ H Q := h
theorem w_bmut {a : Addr} {o : Obj} {xs : List V} (e : H a = some (.frz o (.tup xs))) (h1 : o.dict = none) (h2 : o.cls = .type "tuple") (h : t σ H fun vs H2 => r (.ref a) vs H2 Q) : aBMU K r t σ (.ref a) H Q := ⟨⟨a, o, xs, rfl, e, h1, h2⟩, h⟩
theorem indexU_go {G P : Hp} {a t : Addr} {vs : List V} {nss : List (List Int)} {ns : List Int} {j : Nat} (J : Join G P H) (ha : Rd H a (.tup vs)) (hT : TupL iV G vs nss) (ht : G t = some (.tup (iV ns))) (hj : nss[j]? = some ns) (hn : ∀ i, i < j → nss[i]? ≠ some ns) (q : Q (.int (j : Nat)) H) : rIndexU (.ref a) [.ref t] H Q :=
  ⟨a, t, vs, nss, ns, rfl, rfl, ha, hT.monoJ J, J.g _ _ ht, List.mem_of_getElem? hj, j, hj, hn, q⟩
end
section
variable {K : PySem.W.Frag} {H : Hp} {Q : VK}
def FrT (G : Hp) (a : Addr) (xs : List V) : Prop := ∃ o : Obj, G a = some (.frz o (.tup xs)) ∧ o.dict = none ∧ o.cls = .type "tuple"
theorem FrT.mono {G G' : Hp} {a : Addr} {xs : List V} (e : Ex G G') (h : FrT G a xs) : FrT G' a xs := by
  obtain ⟨o, h1, h2⟩ := h
  exact ⟨o, e _ _ h1, h2⟩
theorem FrT.rd {G : Hp} {a : Addr} {xs : List V} (h : FrT G a xs) : Rd G a (.tup xs) := by
  obtain ⟨o, h1, h2⟩ := h
  exact .inr ⟨o, h1⟩
theorem FrT.len {a : Addr} {xs : List V} (e : FrT H a xs) (q : Q (.int xs.length) H) : rLenV K [.ref a] H Q := ⟨_, _, rfl, .inr ⟨xs, .inl e.rd, rfl⟩, q⟩
theorem FrT.bm {σ : L2.St} {t : TA} {r : V → List V → Hp → VK → Prop} {a : Addr} {xs : List V} (e : FrT H a xs) (h : t σ H fun vs H2 => r (.ref a) vs H2 Q) : aBMU K r t σ (.ref a) H Q := by
  obtain ⟨o, h1, h2, h3⟩ := e
  exact w_bmut h1 h2 h3 h
def aTupF (K : PySem.W.Frag) : List V → Hp → VK → Prop := fun xs H Q => rTupF K xs H Q
theorem w_tupF {σ : L2.St} {as : TA} (h : as σ H fun vs H1 => aTupF K vs H1 Q) : tCB (rTupF K) as σ H Q := h
theorem aTupF.go {G P : Hp} {p : Addr} {ws : List V} (J : Join G P H) (h : G p = some (.lst ws)) (q : ∀ t G' H', H t = none → Ex G G' → Join G' P H' → FrT G' t ws → Q (.ref t) H') : aTupF K [.ref p] H Q :=
  ⟨p, ws, rfl, sqL (J.g _ _ h), fun t o ht h1 h2 => q t _ _ ht (Ex.new (J.ng ht)) (J.newG ht) ⟨o, upd_same, h1, h2⟩⟩
theorem neD_F {G P : Hp} {a b : Addr} {vs ws : List V} {ls ms : List (List Int)} (J : Join G P H) (ha : G a = some (.tup vs)) (hv : TupL iV G vs ls) (hb : FrT G b ws) (hw : TupL iV G ws ms) (q : Q (.bl (!decide (ls = ms))) H) : rNeD K (.ref a) (.ref b) H Q :=
  ⟨_, _, dp_tt (J.g _ _ ha) (hv.monoJ J), .tup (.inl (hb.mono J.exG).rd) (dp_all ms ws (hw.monoJ J)), shaped_dU ls, shaped_dU ms, by rw [show PyData.eqv (dU ls) (PyData.tuple (ms.map dT)) = decide (ls = ms) from eqv_dU ls ms]; exact q⟩
end
/-! for in range(i, j, k) -/
section
variable {σ : L2.St} {H : Hp} {nx bk ct : L2.St → Hp → Prop} {rt : VK} {D : Ends} {g : TG} {as : TA}
def aForR3 (g : TG) (tb : TS) (D : Ends) (σ : L2.St) : List V → Hp → Prop := fun vs H => tFor (fun _ H R => ∃ (i j c : Int) (n : Nat), vs = [.int i, .int j, .int c] ∧ RgC i j c n ∧ R (Itc i c n) H) g tb D σ H
theorem w_forR3 {tb : TS} (h : as σ H fun vs H1 => aForR3 g tb D σ vs H1) : tFor (iRng3 as) g tb D σ H := h
theorem rangeSize_up {N k : Nat} (hk : 1 ≤ k) : Builtin.Range.rangeSize 0 (N : Int) (k : Int) = (((N + k - 1) / k : Nat) : Int) := by
  unfold Builtin.Range.rangeSize
  have hp : (k : Int) > 0 := by omega
  simp only [hp, if_true]
  by_cases h : 0 < N
  · rw [if_pos (by omega)]
    have e : (N : Int) - 0 - 1 = ((N - 1 : Nat) : Int) := by omega
    rw [e, ← Int.natCast_ediv, show N + k - 1 = (N - 1) + k by omega, Nat.add_div_right _ (by omega)]
    simp
  · have h0 : N = 0 := by omega
    subst h0
    rw [if_neg (by simp), Nat.zero_add, Nat.div_eq_of_lt (by omega)]; rfl
theorem aForR3.go {tb : TS} {G P : Hp} {N k n : Nat} (hN : N ≤ 1000000) (hk : 1 ≤ k) (hk2 : k ≤ 1000000) (hn : n = (N + k - 1) / k) (I : Nat → Hp → Hp → L2.St → Prop) (J : Join G P H) (h0 : I 0 G P σ)
    (hs : ∀ (i : Nat) (G' P' H' : Hp) (σ' : L2.St), i < n → Join G' P' H' → I i G' P' σ' → g (.int ((i * k : Nat) : Int)) σ' H' fun σ2 H2 => tb ⟨fun σ3 H3 => ∃ G3 P3, Join G3 P3 H3 ∧ I (i + 1) G3 P3 σ3, rt, nx, fun σ3 H3 => ∃ G3 P3, Join G3 P3 H3 ∧ I (i + 1) G3 P3 σ3⟩ σ2 H2)
    (hq : ∀ (G' P' H' : Hp) (σ' : L2.St), Join G' P' H' → I n G' P' σ' → nx σ' H') : aForR3 g tb ⟨nx, rt, bk, ct⟩ σ [.int 0, .int (N : Int), .int (k : Int)] H := by
  refine ⟨0, N, k, n, rfl, ⟨by omega, by omega, ?_, ?_⟩, for_rangeC (fun i σ' H' => ∃ G3 P3, Join G3 P3 H' ∧ I i G3 P3 σ') ⟨G, P, J, h0⟩ (fun i σ' H' hi ⟨G', P', J', hI⟩ => ?_) fun σ' H' ⟨G', P', J', hI⟩ => hq G' P' H' σ' J' hI⟩
  · unfold Builtin.Range.small
    rw [rangeSize_up hk]
    have hle : (N + k - 1) / k ≤ N + k - 1 := Nat.div_le_self _ _
    have hp : (k : Int) > 0 := by omega
    simp only [Builtin.Range.rangeFitsLong, Bool.and_eq_true, Bool.or_eq_true, decide_eq_true_eq, beq_iff_eq, hp, if_true]
    generalize (N + k - 1) / k = q at hle
    omega
  · rw [rangeSize_up hk, hn]
  · have h := hs i G' P' H' σ' hi J' hI
    have e : (0 : Int) + (i : Nat) * (k : Int) = ((i * k : Nat) : Int) := by simp
    rw [e]
    exact h
end
end Lv

/-! a test that is a conditional expression -/
namespace Lv
open PySem PySem.Spec PyProof.Rows L2
variable [TabA]
def tIfB (tc ta tb : TT) : TT := fun σ H Q => tc σ H fun c H1 => if c = true then ta σ H1 Q else tb σ H1 Q
section
variable {X : Cx} {c a b : Expr} {pos : Pos} {tc ta tb : TT}
theorem pt_ifExp (hc : PT X c tc) (ha : PT X a ta) (hb : PT X b tb) : PT X (.IfExp c a b pos) (tIfB tc ta tb) := by
  refine ⟨fun pins s σ H Q I h => ?_⟩
  rw [arm_isTrue_IfExp]
  refine wpAny_bind (thn (hc.run pins s σ H _ I h) fun d s1 ⟨H1, I1, q1⟩ => ?_)
  cases d with
  | true => exact ha.run pins s1 σ H1 Q I1 q1
  | false => exact hb.run pins s1 σ H1 Q I1 q1
end
section
variable {σ : L2.St} {H : Hp} {tc ta tb : TT} {Q : Bool → Hp → Prop}
theorem w_ifB (h : tc σ H fun c H1 => if c = true then ta σ H1 Q else tb σ H1 Q) : tIfB tc ta tb σ H Q := h
end
end Lv

/-! a hook that gathers the addresses level by level, each once, by the bits of one number -/
namespace Lv
open PySem PySem.Spec PyProof.Rows L2
def seeR (st : Nat × List Addr) (r : Addr) : Nat × List Addr := match Nat.land (Nat.shiftRight st.1 r) 1 with
  | 0 => (Nat.lor st.1 (Nat.shiftLeft 1 r), r :: st.2)
  | _ => st
def seeO (g : Addr → Option Obj) (st : Nat × List Addr) (a : Addr) : Nat × List Addr := match g a with
  | some o => (He.refsD o).foldl seeR st
  | none => st
/-- the next levels; seen, what stands ahead, all so far -/
def goW (g : Addr → Option Obj) : Nat → Nat → List Addr → List Addr → List Addr
  | 0, _, _, all => all
  | n + 1, seen, fr, all => match fr.foldl (seeO g) (seen, []) with
    | (seen', fr') => goW g n seen' fr'.reverse (all ++ fr'.reverse)
def asW (n : Nat) (g : Addr → Option Obj) : List Addr := goW g n (Nat.shiftLeft 1 mainGlobals) [mainGlobals] [mainGlobals] ++ [cStatics]
def obsW (n : Nat) (fa : List He.Fa) (fn : List He.DefD) (tf : List He.Defn) (ex : PySem.W.Frag → Bool) (g : Addr → Option Obj) : He.AlX := (He.obsT fa fn [] (He.frT g (asW n g)), ex (He.frT g (asW n g)) && He.tabsB g tf (He.frT g (asW n g)))
theorem saysW_of {n : Nat} {fa : List He.Fa} {fn : List He.DefD} {tf : List He.Defn} {ex : PySem.W.Frag → Bool} {w : World} {h : Heap} (e : obsW n fa fn tf ex h.get? = He.valX fn [] w) : He.SaysX fa fn [] tf ex w h (He.frT h.get? (asW n h.get?)) := by
  have e2 : (ex (He.frT h.get? (asW n h.get?)) && He.tabsB h.get? tf (He.frT h.get? (asW n h.get?))) = true := congrArg (fun z : He.AlX => z.2) e
  rw [Bool.and_eq_true] at e2
  have key : ∀ p ∈ tf, PySem.W.codeHdIn (He.frT h.get? (asW n h.get?)) (He.cT (He.frT h.get? (asW n h.get?)) p).1 (He.cT (He.frT h.get? (asW n h.get?)) p).2 = true ∧ ∃ o, h.get? (He.cT (He.frT h.get? (asW n h.get?)) p).2 = some o ∧ He.emptyTab o = true := fun p hp => by
    have h1 := List.all_eq_true.mp e2.2 p hp
    rw [Bool.and_eq_true] at h1
    refine ⟨h1.1, ?_⟩
    have h2 := h1.2
    split at h2
    · rename_i o q
      exact ⟨o, q, h2⟩
    · cases h2
  exact ⟨congrArg (fun z : He.AlX => z.1) e, e2.1, fun p hp => (key p hp).1, fun p hp => by
    obtain ⟨_, o, q, z⟩ := key p hp
    exact He.frT_none q z, fun p hp => by
    obtain ⟨_, o, q, z⟩ := key p hp
    rw [q, He.emptyTab_eq z]⟩
def hookW (n : Nat) (fa : List He.Fa) (fn : List He.DefD) (tf : List He.Defn) (ex : PySem.W.Frag → Bool) : PySem.W.Hook where
  α := He.AlX
  obs := fun s => obsW n fa fn tf ex s.heap.get?
  val := fun w => He.valX fn [] w
  says := fun w h => ∃ K : PySem.W.Frag, K.In h ∧ He.SaysX fa fn [] tf ex w h K
  of := fun _ _ e => ⟨_, He.frT_in, saysW_of e⟩
  keeps := fun _ _ _ ⟨K, hK, c⟩ k => ⟨K, PySem.W.Frag.In.keeps hK k, ⟨c.t, c.more, c.hd, c.out, fun p hp => k _ _ (c.empty p hp)⟩⟩
theorem obsW_eq {n : Nat} {fa : List He.Fa} {fn : List He.DefD} {tf : List He.Defn} {ex : PySem.W.Frag → Bool} {g : Addr → Option Obj} {s : Shared} (h : ∀ a, g a = s.heap.get? a) : obsW n fa fn tf ex g = (hookW n fa fn tf ex).obs s := by
  have e : g = s.heap.get? := funext h
  rw [e] <;> rfl
end Lv

/-! a thing that may be a dict != a tuple -/
namespace Lv
open PySem PySem.Spec PyProof.Rows PySem.SeqAt L2
variable [TabA]
open AutoSeq1 (wpAny_loadPart')
theorem dict_ne_tup (l b : Addr) (items2 : Array Value) (o : Obj) (ho : o.cls = .type "dict") (n2 : Nat) (dd2 : Option Addr) (sl2 : Array (Option Value)) :
    Meets (Builtin.«dict.__ne__» ⟨[.ref l, .ref b], []⟩) (fun _ R s => s.heap.get? l = some o ∧ s.heap.get? b = some { cls := .type "tuple", dict := dd2, data := .seq items2 n2, slots := sl2 } ∧ R (.ok (.ret .notImplemented)) s) :=
  .of_wp fun prog w A R s h => by obtain ⟨hp, g, d, tk, os⟩ := s; obtain ⟨hl, hb, h⟩ := h; have f1 := F.sub_tuple_dict; wp_walk using wpAny_loadPart' hl, wpAny_load hl, wpAny_loadPart' hb, wpAny_load hb; exact ⟨_, rfl, h⟩
theorem tup_ne_dict (b l : Addr) (items2 : Array Value) (o : Obj) (ho : o.cls = .type "dict") (n2 : Nat) (dd2 : Option Addr) (sl2 : Array (Option Value)) :
    Meets (Builtin.«tuple.__ne__» ⟨[.ref b, .ref l], []⟩) (fun _ R s => s.heap.get? l = some o ∧ s.heap.get? b = some { cls := .type "tuple", dict := dd2, data := .seq items2 n2, slots := sl2 } ∧ R (.ok (.ret .notImplemented)) s) :=
  .of_wp fun prog w A R s h => by obtain ⟨hp, g, d, tk, os⟩ := s; obtain ⟨cls, dd, data, sl⟩ := o; simp only at ho; subst ho; obtain ⟨hl, hb, h⟩ := h; have f1 := F.sub_dict_tuple; wp_walk using wpAny_loadPart' hl, wpAny_load hl, wpAny_loadPart' hb, wpAny_load hb; exact ⟨_, rfl, h⟩
def rNeX (K : PySem.W.Frag) : R2 := fun x y H Q => rNeD K x y H Q ∨ ∃ a b ks ys, x = .ref a ∧ y = .ref b ∧ a ≠ b ∧ H a = some (.dK ks) ∧ SqT K H b ys ∧ Q (.bl true) H
section
variable {X : Cx}
theorem op_neX (hu : X.A.units + 64 < cLine) : OpR X (compareOp .NotEq) (rNeX X.K) := by
  intro pins s σ H x y v u Q I rx ry h
  rcases h with h | ⟨a, b, ks, ys, rfl, rfl, nab, ha, hb, q⟩
  · exact op_neD hu pins s σ H x y v u Q I rx ry h
  cases (show v = Value.ref a from rx)
  cases (show u = Value.ref b from ry)
  obtain ⟨_, _, vs, _, o, es, ep, hob, h2, _⟩ := (show ObjOk X.prog X.w H s.heap a (.dK ks) from I.hok a _ ha)
  obtain ⟨its, rv, p, hz⟩ := I.tuple hb
  obtain ⟨⟨cls, dd, data, sls⟩, hob2, hc, k, hdt⟩ := (show s.heap.IsTuple b its.toArray from p)
  simp only at hc hdt
  subst hc hdt
  show wpAny (model X.prog X.w) X.A (richCompare .NotEq (.ref a) (.ref b)) (EP X pins σ Q) X.xe s
  exact rc_ne_decline_or (k := false) ⟨_, hob, h2.1⟩ ⟨_, hob2, rfl⟩ (by decide) F.sub_tuple_dict F.slot_dict_ne F.slot_tuple_ne_refl
    (fun _ hq => call_meets F.slot_dict_ne ⟨_, hob, h2.1⟩ F.entry_dict_ne (F.args_dict_ne_2 _ _) (dict_ne_tup a b _ o h2.1 _ _ _) ⟨hob, hob2, hq⟩)
    (fun _ hq => call_meets F.slot_tuple_ne_refl ⟨_, hob2, rfl⟩ F.entry_tuple_ne (F.args_tuple_ne_2 _ _) (tup_ne_dict b a _ o h2.1 _ _ _) ⟨hob, hob2, hq⟩)
    (fun _ hq => wpAny_isSame_ref_other nab hob hob2 (by rw [h2.1]; simp) hq) (.inr (by omega)) ⟨.bl true, H, I, rfl, q⟩
theorem op_neXK {K : PySem.W.Frag} (h : X.K = K) (hu : X.A.units + 64 < cLine) : OpR X (compareOp .NotEq) (rNeX K) := h ▸ op_neX hu
end
end Lv

namespace Lv
open PySem PySem.Spec PyProof.Rows L2
variable [TabA]
/-! a tuple in a tuple of tuples -/
section
variable {X : Cx}
def rInU (K : PySem.W.Frag) : R2 := fun x y H Q => ∃ d ds, Dp K H x d ∧ Dp K H y (.tuple ds) ∧ SeqAt.shaped d = true ∧ SeqAt.shaped (.list ds) = true ∧ Q (.bl (ds.any fun z => PyData.eqv z d)) H
def rNotInU (K : PySem.W.Frag) : R2 := fun x y H Q => ∃ d ds, Dp K H x d ∧ Dp K H y (.tuple ds) ∧ SeqAt.shaped d = true ∧ SeqAt.shaped (.list ds) = true ∧ Q (.bl (!ds.any fun z => PyData.eqv z d)) H
theorem op_inU (hu : X.A.units + 65 < cLine) : OpR X (compareOp .In) (rInU X.K) := by
  intro pins s σ H x y v u Q I rx ry h
  obtain ⟨d, ds, hd, he, sd, se, q⟩ := h
  obtain ⟨as, r1⟩ := Dp.reads I d x v hd rx
  obtain ⟨bs, r2⟩ := Dp.reads I (.tuple ds) y u he ry
  exact SeqAt.in_tuple_reads r2 r1 (SeqAt.canLay_of_shaped se) (SeqAt.canLay_of_shaped sd) (room_in_shaped sd hu) ⟨.bl _, H, I, rfl, q⟩
theorem op_notInU (hu : X.A.units + 65 < cLine) : OpR X (compareOp .NotIn) (rNotInU X.K) := by
  intro pins s σ H x y v u Q I rx ry h
  obtain ⟨d, ds, hd, he, sd, se, q⟩ := h
  obtain ⟨as, r1⟩ := Dp.reads I d x v hd rx
  obtain ⟨bs, r2⟩ := Dp.reads I (.tuple ds) y u he ry
  exact SeqAt.notIn_tuple_reads r2 r1 (SeqAt.canLay_of_shaped se) (SeqAt.canLay_of_shaped sd) (room_in_shaped sd hu) ⟨.bl _, H, I, rfl, q⟩
theorem op_inUK {K : PySem.W.Frag} (h : X.K = K) (hu : X.A.units + 65 < cLine) : OpR X (compareOp .In) (rInU K) := h ▸ op_inU hu
theorem op_notInUK {K : PySem.W.Frag} (h : X.K = K) (hu : X.A.units + 65 < cLine) : OpR X (compareOp .NotIn) (rNotInU K) := h ▸ op_notInU hu
end
theorem notInU_go {K : PySem.W.Frag} {H : Hp} {Q : VK} {tk a : Addr} {xs : List V} {nss : List (List Int)} {ks : List Int} (h : H a = some (.tup xs)) (ht : TupL iV H xs nss) (hk : H tk = some (.tup (ks.map V.int))) (q : Q (.bl (!decide (ks ∈ nss))) H) : rNotInU K (.ref tk) (.ref a) H Q :=
  ⟨_, _, dp_tup hk, dp_tt h ht, shaped_dT _, shaped_dL nss, by rw [any_dT]; exact q⟩
theorem inU_go {K : PySem.W.Frag} {H : Hp} {Q : VK} {tk a : Addr} {xs : List V} {nss : List (List Int)} {ks : List Int} (h : H a = some (.tup xs)) (ht : TupL iV H xs nss) (hk : H tk = some (.tup (ks.map V.int))) (q : Q (.bl (decide (ks ∈ nss))) H) : rInU K (.ref tk) (.ref a) H Q :=
  ⟨_, _, dp_tup hk, dp_tt h ht, shaped_dT _, shaped_dL nss, by rw [any_dT]; exact q⟩
end Lv

/-! sorted of tuples that unlike whole numbers begin, whatever stands behind these -/
namespace Lv
open PySem PySem.Spec PyProof.Rows L2
variable [TabA]
section
variable {prog : Program} {w : World} {A : Around} {E : Value → Shared → Prop} {s : Shared}
theorem eqBool_self {p : Value} {Q : Bool → Shared → Prop} (h : Q true s) : wpAny (model prog w) A (eqBool p p) Q E s := by
  unfold eqBool
  refine wpAny_holding ?_
  rw [if_pos (beq_self_eq_true p)]
  exact wpAny_bind (wpAny_rule (wpAny_pure h))
theorem kat_self {b fin : Bool} {Q : Bool → Shared → Prop} (h : Q fin s) : ∀ (l : List Value) (i : Nat), PySem.W.KatLex prog w A b fin Q (l.zip l) i s
  | [], _ => PySem.W.kat_nil h
  | p :: l, i => PySem.W.kat_cons (eqBool_self (PySem.W.kat_yes (kat_self h l (i + 1))))
def FstInt (h : Heap) (v : Value) (n : Int) : Prop := ∃ a xs t ys, v = .ref a ∧ IsTup h a xs ∧ xs.toList = Value.int n t :: ys
theorem FstInt.keeps {h h' : Heap} {v : Value} {n : Int} (x : FstInt h v n) (k : ∀ b o, h.get? b = some o → o.cls = .type "tuple" → h'.get? b = some o) : FstInt h' v n := by
  obtain ⟨a, xs, t, ys, e, ⟨o, ho, hc, hd⟩, i⟩ := x
  exact ⟨a, xs, t, ys, e, ⟨o, k _ _ ho hc, hc, hd⟩, i⟩
def fstOf (h : Heap) (v : Value) : Int := (TS.intsOf h v).headD 0
theorem FstInt.fst {h : Heap} {v : Value} {n : Int} (x : FstInt h v n) : fstOf h v = n := by
  obtain ⟨a, xs, t, ys, rfl, ⟨o, ho, hc, m, hd⟩, i⟩ := x
  unfold fstOf
  simp only [TS.intsOf, ho, hd, i]
  rfl
/-- what is sorted -/
def KeyOk (h : Heap) (vs : List Value) : Prop := (∀ v, v ∈ vs → ∃ n, FstInt h v n) ∧ ∀ v, v ∈ vs → ∀ u, u ∈ vs → ∀ n, FstInt h v n → FstInt h u n → v = u
theorem key_firsts {h : Heap} : ∀ vs : List Value, (∀ v, v ∈ vs → ∃ n, FstInt h v n) → ∃ fs, PySem.W.KatTups h vs fs ∧ fs.length = vs.length ∧ ∀ f, f ∈ fs → ∃ n t, f = Value.int n t
  | [], _ => ⟨[], PySem.W.KatTups.nil, rfl, fun f hf => by simp at hf⟩
  | v :: vs, x => by
    obtain ⟨fs, k, hl, hi⟩ := key_firsts vs fun u hu => x u (List.mem_cons_of_mem _ hu)
    obtain ⟨m, a, xs, t, ys, rfl, ⟨o, ho, hc, n, hdt⟩, e⟩ := x v (List.mem_cons_self ..)
    refine ⟨Value.int m t :: fs, PySem.W.KatTups.cons ho hc hdt ?_ k, by simp [hl], ?_⟩
    · have z := congrArg (fun l : List Value => l[0]?) e
      simpa using z
    · intro f hf
      rcases List.mem_cons.mp hf with rfl | hf
      · exact ⟨m, t, rfl⟩
      · exact hi f hf
def ltF (h : Heap) (v u : Value) : Bool := decide (fstOf h v < fstOf h u)
theorem swo_ltF (h : Heap) : SrtO.Swo (ltF h) := by
  refine ⟨fun x y hxy => ?_, fun x y z h1 h2 => ?_⟩
  · unfold ltF at hxy ⊢
    simp only [decide_eq_true_eq, decide_eq_false_iff_not] at hxy ⊢
    omega
  · unfold ltF at h1 h2 ⊢
    simp only [decide_eq_false_iff_not] at h1 h2 ⊢
    omega
theorem key_sortable {a : Addr} {vs : List Value} (h0 : 0 < vs.length) (x : KeyOk s.heap vs) (ha : ∀ o, s.heap.get? a = some o → o.cls ≠ .type "tuple") : SrtO.SortableO prog w A s a vs (ltF s.heap) := by
  intro h' keep
  have keep2 : ∀ b o, s.heap.get? b = some o → o.cls = .type "tuple" → h'.get? b = some o := fun b o e c => keep b o (fun z => by subst z; exact ha o e c) e
  have x' : ∀ v, v ∈ vs → ∃ n, FstInt h' v n := fun v hv => let ⟨n, t⟩ := x.1 v hv; ⟨n, t.keeps keep2⟩
  obtain ⟨fs, k, hl, hi⟩ := key_firsts vs x'
  refine ⟨PyProof.Rows.tuples' true, fun Q E hq => ?_, fun p q hm hm' => ?_⟩
  · refine PySem.W.kat_kind (T := Value.type "int") k (by omega) (fun f hf => ?_) rfl ?_
    · obtain ⟨n, t, rfl⟩ := hi f hf
      exact PySem.W.Looks.of_pure rfl
    · have e : (Value.type "int" != Value.type "tuple") = true := by first | decide +kernel | rfl | decide
      rw [e]
      exact hq
  · obtain ⟨n, tp⟩ := x.1 p.1 hm
    obtain ⟨m, tq⟩ := x.1 q.1 hm'
    have tp' := tp.keeps keep2
    have tq' := tq.keeps keep2
    have e0 : SrtO.lt2 (ltF s.heap) p q = decide (n < m) := by
      show ltF s.heap p.1 q.1 = _
      unfold ltF
      rw [tp.fst, tq.fst]
    rw [e0]
    have same : n = m → p.1 = q.1 := fun e => x.2 _ hm _ hm' n tp (e ▸ tq)
    obtain ⟨a, xs, t, rx, e1, ⟨o, ho, hc, i, hdt⟩, ix⟩ := tp'
    obtain ⟨a', ys, t', ry, e2, ⟨o', ho', hc', i', hdt'⟩, iy⟩ := tq'
    rw [e1, e2] at same
    rw [e1, e2]
    refine PySem.W.kat_lt ho hdt ho' hdt' ?_
    by_cases e : n = m
    · have ea : a = a' := by have := same e; injection this
      subst ea
      rw [ho] at ho'
      obtain rfl := Option.some.inj ho'
      rw [hdt] at hdt'
      injection hdt' with hxy _
      subst hxy
      refine kat_self ?_ _ 0
      refine ⟨rfl, ?_⟩
      subst e
      rw [decide_eq_false (Nat.lt_irrefl _), decide_eq_false (Int.lt_irrefl _)]
    · rw [ix, iy, List.zip_cons_cons]
      refine PySem.W.kat_cons (wpAny_eqBool_int ?_)
      rw [show (n == m) = false from beq_eq_false_iff_ne.mpr e]
      exact PySem.W.kat_no (TS.oneLt_ints _ ⟨rfl, rfl⟩)
/-- list.sort -/
theorem sort_key {a : Addr} {vs : List Value} {n : Nat} {P : PySem.Fin → Shared → Prop} (ho : s.heap.get? a = some (seqObj "list" vs.toArray n)) (hz : vs.length ≤ sizeLine) (x : KeyOk s.heap vs)
    (h : ∀ out : Array Value, out.toList.Perm vs → out.toList.Pairwise (fun u v => ltF s.heap v u = false) → P (.done (.ret .none)) { s with heap := sortedHeap s.heap a vs out }) :
    wpAny (model prog w) A (Builtin.«list.sort» ⟨[.ref a], []⟩) P E s := by
  refine SrtO.list_sort_ord (swo_ltF s.heap) ho hz (fun h2 => key_sortable (by omega) x fun o e => ?_) fun out h1 h2 => h out.toArray h2.perm h1
  rw [ho] at e
  have e' : seqObj "list" vs.toArray n = o := Option.some.inj e
  rw [← e']
  intro c
  exact absurd (Value.type.inj c) (by decide)
end
section
variable {X : Cx}
theorem fst_raw {pins : List (Addr × Obj)} {σ : L2.St} {H : Hp} {s : Shared} (I : Inv X pins σ H s) {t : Addr} {n : Int} {rest : List V} (h : SqT X.K H t (.int n :: rest)) : FstInt s.heap (.ref t) n := by
  obtain ⟨its, rv, hT, _⟩ := I.tuple h
  cases rv with
  | cons r t2 =>
    obtain ⟨t', rfl⟩ := r
    exact ⟨t, _, t', _, rfl, hT, rfl⟩
/-- sorted(xs) of a list -/
def rSortK (K : PySem.W.Frag) : List V → Hp → VK → Prop := fun vs H Q => ∃ (a : Addr) (xs : List V) (k : V → Int), vs = [V.ref a] ∧ SqL K H a xs ∧ (∀ x ∈ xs, ∃ t rest, x = V.ref t ∧ SqT K H t (.int (k x) :: rest)) ∧ (∀ x ∈ xs, ∀ y ∈ xs, k x = k y → x = y) ∧
  ∀ (ys : List V) (p : Addr), ys.Perm xs → ys.Pairwise (fun x y => k x ≤ k y) → H p = none → Q (.ref p) (upd H p (.lst ys))
theorem cr_sortK : CallR X (.builtin "sorted") (rSortK X.K) := by
  intro pins s σ H vs us Q I r h
  obtain ⟨a, xs, key, rfl, hs, hx, hinj, q⟩ := h
  obtain ⟨its, rv, hl, hz⟩ := I.list hs
  rw [Vals.ref1 r]
  obtain ⟨e1, e2⟩ := bkV_refs rv fun x m => by
    obtain ⟨t, _, e, _⟩ := hx x m
    exact ⟨t, e⟩
  have hk : ∀ u ∈ its, FstInt s.heap u (key (bkV u)) := fun u hu => by
    obtain ⟨t, rfl⟩ := e2 u hu
    have hm : V.ref t ∈ xs := by rw [e1]; exact List.mem_map.mpr ⟨_, hu, rfl⟩
    obtain ⟨t', rest, e, ht⟩ := hx _ hm
    injection e with e
    subst e
    exact fst_raw I ht
  have x : KeyOk s.heap its := ⟨fun v hv => ⟨_, hk v hv⟩, fun v hv u hu n hn hm => by
    have i1 := (hk v hv).fst.symm.trans hn.fst
    have i2 := (hk u hu).fst.symm.trans hm.fst
    obtain ⟨t, rfl⟩ := e2 v hv
    obtain ⟨t', rfl⟩ := e2 u hu
    have m1 : V.ref t ∈ xs := by rw [e1]; exact List.mem_map.mpr ⟨_, hv, rfl⟩
    have m2 : V.ref t' ∈ xs := by rw [e1]; exact List.mem_map.mpr ⟨_, hu, rfl⟩
    have := hinj _ m1 _ m2 (i1.trans i2.symm)
    injection this with this
    rw [this]⟩
  have hzi : its.length ≤ sizeLine := by rw [← rv.length]; exact hz
  refine Calls.call_function_entry kind_sorted plain_sorted entry_sorted (args_sorted1 _) ?_
  unfold Builtin.«sorted»
  refine wpAny_bind (m := checkCount "sorted" 1 1 _) (wpAny_pure ?_)
  refine wpAny_bind (collect_list hl.isList ?_ (by simpa using hzi))
  refine wpAny_bind (wpAny_newList ?_ (by simpa using hzi))
  have hsz : ((s.heap.push (seqObj "list" #[] 0)).update s.heap.objs.size (Obj.mapSeq (· ++ its.toArray))).objs.size = s.heap.objs.size + 1 := by
    rw [Heap.size_update, size_push']
  have hoL : (((s.heap.push (seqObj "list" #[] 0)).update s.heap.objs.size (Obj.mapSeq (· ++ its.toArray))).push (seqObj "list" its.toArray 0)).get? (s.heap.objs.size + 1) = some (seqObj "list" its.toArray 0) := by
    rw [← hsz]; exact Heap.get?_push_size _ rfl
  have keep : ∀ b o, s.heap.get? b = some o → o.cls = .type "tuple" → (((s.heap.push (seqObj "list" #[] 0)).update s.heap.objs.size (Obj.mapSeq (· ++ its.toArray))).push (seqObj "list" its.toArray 0)).get? b = some o := fun b o q _ => by
    have hlt : b < s.heap.objs.size := Heap.lt_size q
    rw [Heap.get?_push_ne _ _ _ (by rw [hsz]; exact Nat.ne_of_lt (Nat.lt_succ_of_lt hlt)), Heap.get?_update_ne _ _ _ _ (Nat.ne_of_lt hlt), Heap.get?_push_ne _ _ _ (Nat.ne_of_lt hlt)]
    exact q
  show wpAny _ _ _ _ _ { s with heap := ((s.heap.push (seqObj "list" #[] 0)).update s.heap.objs.size (Obj.mapSeq (· ++ its.toArray))).push (seqObj "list" its.toArray 0) }
  rw [hsz]
  have hk2 : ∀ u ∈ its, FstInt (((s.heap.push (seqObj "list" #[] 0)).update s.heap.objs.size (Obj.mapSeq (· ++ its.toArray))).push (seqObj "list" its.toArray 0)) u (key (bkV u)) := fun u hu => (hk u hu).keeps keep
  have x2 : KeyOk (((s.heap.push (seqObj "list" #[] 0)).update s.heap.objs.size (Obj.mapSeq (· ++ its.toArray))).push (seqObj "list" its.toArray 0)) its := ⟨fun v hv => ⟨_, hk2 v hv⟩, fun v hv u hu n hn hm => by
    have i1 := (hk2 v hv).fst.symm.trans hn.fst
    have i2 := (hk2 u hu).fst.symm.trans hm.fst
    exact x.2 v hv u hu n (i1 ▸ hk v hv) (i2 ▸ hk u hu)⟩
  refine wpAny_bind (wpAny_holding (wpAny_call_entry slot_list_sort ⟨_, hoL, rfl⟩ entry_list_sort (sort_key hoL hzi x2 fun out a1 a2 => ⟨_, rfl, ?_⟩) (args_list_sort _)))
  refine wpAny_pure ⟨_, rfl, ?_⟩
  obtain ⟨ep, he'⟩ := PyProof.Rows.sortedAll_at s.heap its out
  have h3 : ∀ u ∈ out.toList, ∃ a, u = Value.ref a := fun u hu => e2 u (a1.mem_iff.mp hu)
  have hp : (out.toList.map bkV).Perm xs := by
    rw [e1]
    exact a1.map bkV
  have hlen : (out.toList.map bkV).length ≤ sizeLine := by
    rw [hp.length_eq]
    exact hz
  refine ⟨.ref _, upd H (s.heap.objs.size + 1) (.lst (out.toList.map bkV)), I.laid (t' := s.toks) (fun _ _ => PyProof.Rows.sortedAll_old) (Nat.le_succ _) ⟨hlen, out.toList, ep, bkV_vals h3, he'⟩, rfl, q _ _ hp ?_ (I.hok.fresh (Nat.le_succ _))⟩
  rw [List.pairwise_map]
  refine List.Pairwise.imp_of_mem (fun {u v} hu hv huv => ?_) a2
  unfold ltF at huv
  rw [(hk2 u (a1.mem_iff.mp hu)).fst, (hk2 v (a1.mem_iff.mp hv)).fst] at huv
  have := of_decide_eq_false huv
  omega
end
section
variable {K : PySem.W.Frag} {G P H : Hp} {Q : VK}
theorem sortK_go {a : Addr} {xs : List V} (k : V → Int) (J : Join G P H) (h : G a = some (.lst xs)) (hx : ∀ x ∈ xs, ∃ t rest, x = V.ref t ∧ G t = some (.tup (.int (k x) :: rest))) (hi : ∀ x ∈ xs, ∀ y ∈ xs, k x = k y → x = y)
    (q : ∀ (ys : List V) p G' H', ys.Perm xs → ys.Pairwise (fun x y => k x ≤ k y) → H p = none → Ex G G' → Join G' P H' → G' p = some (.lst ys) → Q (.ref p) H') : rSortK K [.ref a] H Q :=
  ⟨a, xs, k, rfl, sqL (J.g _ _ h), fun x hm => by
    obtain ⟨t, rest, e, ht⟩ := hx x hm
    exact ⟨t, rest, e, sqT (J.g _ _ ht)⟩, hi, fun ys p hp hw hn => q ys p _ _ hp hw hn (Ex.new (J.ng hn)) (J.newG hn) upd_same⟩
end
end Lv

/-! [.. for x, y in zip(xs, ys)] -/
namespace Lv
open PySem PySem.Spec PyProof.Rows L2
variable [TabA]
section
variable {K : PySem.W.Frag} {σ : L2.St} {H : Hp} {Q : VK} {te : TE} {tt : TT} {as : TA} {g : TG}
theorem lc_zipL {a b : Addr} {xs ys : List V} {vs : List Nat} {H1 : Hp} {D : Addr} {Qd : Hp → Prop} (Pv : Nat → Hp → Prop) (h0 : Pv 0 (upd H1 D (.lst []))) (hl : ∀ i H, Pv i H → SqL K H a xs ∧ SqL K H b ys)
    (hs : ∀ (i : Nat) x y H T, xs[i]? = some x → ys[i]? = some y → Pv i H → H T = none → g (.ref T) (wipe σ vs) (upd H T (.tup [x, y])) fun σ2 H2 => wipe σ2 vs = wipe σ vs ∧ tt σ2 H2 fun b H3 =>
      if b = true then te σ2 H3 fun y H4 => ∃ acc, H4 D = some (.lst acc) ∧ acc.length < sizeLine ∧ Pv (i + 1) (upd H4 D (.lst (acc ++ [y]))) else Pv (i + 1) H3) (hd : ∀ H, Pv (min xs.length ys.length) H → Qd H) :
    ∃ W : Nat → Nat → Hp → Prop, (∃ m, W 0 m (upd H1 D (.lst []))) ∧ ∀ i m H, W i m H →
      ((Itz K a b).stop i H ∧ Qd H) ∨ ((Itz K a b).go i H ∧ ∃ Nx : Hp → Prop, (∀ H', Nx H' → ∃ m', m' < m ∧ W (i + 1) m' H') ∧ ∀ x H', (Itz K a b).yld i H x H' → g x (wipe σ vs) H' fun σ2 H2 => wipe σ2 vs = wipe σ vs ∧ tt σ2 H2 fun b H3 =>
        if b = true then te σ2 H3 fun y H4 => ∃ acc, H4 D = some (.lst acc) ∧ acc.length < sizeLine ∧ Nx (upd H4 D (.lst (acc ++ [y]))) else Nx H3) := by
  refine ⟨fun i m H => m = min xs.length ys.length - i ∧ i ≤ min xs.length ys.length ∧ Pv i H, ⟨min xs.length ys.length, by simp, Nat.zero_le _, h0⟩, ?_⟩
  rintro i m H ⟨rfl, hi, p⟩
  obtain ⟨q1, q2⟩ := hl i H p
  by_cases hlt : i < min xs.length ys.length
  · have h1 : i < xs.length := by omega
    have h2 : i < ys.length := by omega
    refine .inr ⟨⟨xs, ys, xs[i], ys[i], q1, q2, by simp [h1], by simp [h2]⟩, Pv (i + 1), fun H' p' => ⟨min xs.length ys.length - (i + 1), by omega, rfl, hlt, p'⟩, fun x H' y => ?_⟩
    obtain ⟨T, z1, z2, e1, e2, e3, y1, y2⟩ := y
    subst e1 e3
    exact hs i z1 z2 H T (y1 xs q1) (y2 ys q2) p e2
  · have e : i = min xs.length ys.length := by omega
    subst e
    exact .inl ⟨⟨xs, ys, q1, q2, by omega⟩, hd H p⟩
def aLcZ (K : PySem.W.Frag) (g : TG) (tt : TT) (te : TE) (vs : List Nat) (σ : L2.St) : List V → Hp → VK → Prop := fun us H Q => tLc (fun _ H R => ∃ a b xs ys, us = [.ref a, .ref b] ∧ SqL K H a xs ∧ SqL K H b ys ∧ R (Itz K a b) H) g tt te vs σ H Q
theorem w_lcZ {ts : List Nat} (h : as σ H fun xs H1 => aLcZ K g tt te ts σ xs H1 Q) : tLc (iZip K as) g tt te ts σ H Q := h
theorem aLcZ.go {a b : Addr} {xs ys : List V} {ts : List Nat} {G P : Hp} (Pp : Hp → Prop) (I : Nat → List V → Hp → Prop) (J : Join G P H) (hP : Pp P)
    (hS : G a = some (.lst xs)) (hS2 : G b = some (.lst ys)) (h0 : ∀ G', Ex G G' → I 0 [] G') (hI : ∀ i ws G2 D us ts, G2 D = some (.lst us) → I i ws G2 → I i ws (upd G2 D (.lst ts))) (hz : ∀ i ws G2, I i ws G2 → ws.length ≤ 1000000)
    (hm : ∀ i ws G2 G3, Ex G2 G3 → I i ws G2 → I i ws G3)
    (hs : ∀ (i : Nat) (x y : V) (T : Addr) (ws : List V) (G' P' H' : Hp) (R : VK) (R0 : Hp → Prop), xs[i]? = some x → ys[i]? = some y → Ex G G' → I i ws G' → Pp P' → Join G' P' H' → G' T = some (.tup [x, y]) →
      (∀ v G2 P2 H2, Ex G' G2 → Pp P2 → Join G2 P2 H2 → I (i + 1) (ws ++ [v]) G2 → R v H2) → (∀ G2 P2 H2, Ex G' G2 → Pp P2 → Join G2 P2 H2 → I (i + 1) ws G2 → R0 H2) →
      g (.ref T) (wipe σ ts) H' fun σ2 H2 => wipe σ2 ts = wipe σ ts ∧ tt σ2 H2 fun b H3 => if b = true then te σ2 H3 R else R0 H3)
    (hq : ∀ p ws G' P' H', H p = none → Ex G G' → G' p = some (.lst ws) → I (min xs.length ys.length) ws G' → Pp P' → Join G' P' H' → Q (.ref p) H') : aLcZ K g tt te ts σ [.ref a, .ref b] H Q := by
  refine ⟨a, b, xs, ys, rfl, sqL (J.g _ _ hS), sqL (J.g _ _ hS2), fun D hD => ?_⟩
  have gD : G D = none := J.ng hD
  refine lc_zipL (K := K) (a := a) (b := b) (xs := xs) (ys := ys) (fun i H' => ∃ (ws : List V) (G' P' : Hp), Ex G G' ∧ G' D = some (.lst ws) ∧ I i ws G' ∧ Pp P' ∧ Join G' P' H') ⟨[], _, P, Ex.new gD, upd_same, h0 _ (Ex.new gD), hP, J.newG hD⟩ (fun i H' ⟨ws, G', P', e, _, _, _, j⟩ => ⟨(e.trans j.exG).l (sqL hS), (e.trans j.exG).l (sqL hS2)⟩) (fun i x y H' T hi hi' ⟨ws, G', P', e, hd, hi2, hp, j⟩ hT => ?_) (fun H' ⟨ws, G', P', e, hd, hi2, hp, j⟩ => hq D ws G' P' H' hD e hd hi2 hp j)
  have eT := Ex.new (o := .tup [x, y]) (j.ng hT)
  refine hs i x y T ws _ P' _ _ _ hi hi' (e.trans eT) (hm _ _ _ _ eT hi2) hp (j.newG hT) upd_same (fun v G2 P2 H2 e2 hp2 j2 hi3 => ⟨ws, j2.g _ _ (e2 _ _ (eT _ _ hd)), Nat.lt_of_le_of_lt (hz _ _ _ hi2) (by decide), ws ++ [v], _, P2, ?_, upd_same, hI _ _ _ _ _ _ (e2 _ _ (eT _ _ hd)) hi3, hp2, j2.setGo (e2 _ _ (eT _ _ hd))⟩) (fun G2 P2 H2 e2 hp2 j2 hi3 => ⟨ws, G2, P2, (e.trans eT).trans e2, e2 _ _ (eT _ _ hd), hi3, hp2, j2⟩)
  exact ((e.trans eT).trans e2).mut gD
end
end Lv

namespace Lv
open PySem PySem.Spec PyProof.Rows L2
variable [TabA]
/-! a tuple in a list, within a block -/
section
variable {X : Cx}
theorem op_inDK {K : PySem.W.Frag} (h : X.K = K) (hu : X.A.units + 65 < cLine) : OpR X (compareOp .In) (rInD K) := h ▸ op_inD hu
theorem op_notInDK {K : PySem.W.Frag} (h : X.K = K) (hu : X.A.units + 65 < cLine) : OpR X (compareOp .NotIn) (rNotInD K) := h ▸ op_notInD hu
end
end Lv

namespace Lv
open PySem PySem.Spec PyProof.Rows L2
variable [TabA]
/-! set(xs) of a list of ints -/
section
variable {P : Program} {w : World} {A : Around} {E : Value → Shared → Prop} {s : Shared}
set_option maxRecDepth 100000 in
set_option maxHeartbeats 3200000 in
theorem set_of_list {l : Addr} {us : Array Value} (ns : List Int) {Q : Value → Shared → Prop} (hA : A.handled = none) (hL : s.heap.IsList l us) (hI : IntsAre us.toList ns) (hB : ns.length + 1 < scanBound)
    (q : ∀ (h' : Heap) (tk c : Nat), SetR w h' s.heap.objs.size (fun j => decide (j ∈ ns)) c → c ≤ ns.length → (∀ b o, s.heap.get? b = some o → h'.get? b = some o) → Q (.ref s.heap.objs.size) { s with heap := h', toks := tk }) :
    wpAny (model P w) A (call (.type "set") [.ref l]) Q E s := by
  have hsz : us.size = ns.length := by
    have := IntsAre.length hI
    rwa [Array.length_toList] at this
  obtain ⟨c0, tl0, hmr⟩ := F.called_set.mro
  have hmd := F.called_set.made
  have hsb := F.called_set.sub
  refine wpAny_call (codeAny_of_tree ?_)
  show wpAny _ _ (callAny (.type "set") _) _ _ _
  refine wpAny_pure ⟨Code.quiet_builtin _ (by decide +kernel), codeAny_builtin F.entry_type_call ?_⟩
  rw [Around.under_plain (weight_type_call_type "set" [.ref l] []) rfl]
  have hn1 := F.called_set.notType
  have hn2 := F.called_set.canCreate
  have hn3 := F.typeCall_set_1 (.ref l)
  repeat (any_goals (first | assumption | wp_step))
  have mk := code_set_led1 (P := P) (A := A.in1) (w := w) (s := s) (.ref l) (E := E) (Q₁ := fun ob t => ob = .ref s.heap.objs.size ∧ t = { s with heap := s.heap.push ({ cls := .type "set", dict := none, data := .set #[] 0 (.fresh 0 0 (!w.params.followText "set-order")) } : Obj) }) ⟨rfl, rfl⟩
  refine codeAny_mono mk fun r t hr => ?_
  cases r with
  | error e => exact hr
  | ok fl =>
    cases fl with
    | ret ob =>
      obtain ⟨rfl, rfl⟩ := hr
      have g0 : (s.heap.push ({ cls := .type "set", dict := none, data := .set #[] 0 (.fresh 0 0 (!w.params.followText "set-order")) } : Obj)).get? s.heap.objs.size = some ({ cls := .type "set", dict := none, data := .set #[] 0 (.fresh 0 0 (!w.params.followText "set-order")) } : Obj) := Heap.get?_push_size _ rfl
      have hty : Shared.TypeIs { s with heap := s.heap.push ({ cls := .type "set", dict := none, data := .set #[] 0 (.fresh 0 0 (!w.params.followText "set-order")) } : Obj) } (.ref s.heap.objs.size) "set" := ⟨_, g0, rfl⟩
      have hlk := F.called_set.init.lookup
      have hbd := F.called_set.init.bind (.ref s.heap.objs.size)
      repeat (any_goals (first | assumption | wp_step))
      have key : codeAny (model P w) A.in1 (.call (.builtin "set.__init__") ⟨[.ref s.heap.objs.size, .ref l], []⟩) (wants (fun r t => r = .none ∧ ∃ h' tk c, t = { s with heap := h', toks := tk } ∧ SetR w h' s.heap.objs.size (fun j => decide (j ∈ ns)) c ∧ c ≤ ns.length ∧
          (∀ b o, s.heap.get? b = some o → h'.get? b = some o)) E) { s with heap := s.heap.push ({ cls := .type "set", dict := none, data := .set #[] 0 (.fresh 0 0 (!w.params.followText "set-order")) } : Obj) } := by
        refine codeAny_call_builtin F.called_set.init.plain F.entry_set_init (check_set_init_1 hty ?_)
        obtain ⟨lo, hlo, hc1, nl, hd1⟩ := hL
        obtain ⟨xc, xd, xa, xs⟩ := lo
        simp only at hc1 hd1
        subst hc1 hd1
        have g1 : (s.heap.push ({ cls := .type "set", dict := none, data := .set #[] 0 (.fresh 0 0 (!w.params.followText "set-order")) } : Obj)).get? l = some { cls := .type "list", dict := xd, data := .seq us nl, slots := xs } := Heap.get?_push_of_some _ hlo
        have hss := F.sub_list_set
        have hsf := F.sub_list_frozenset
        have hnd : (Value.type "list" == Value.type "dict") = false := by decide
        have hL1 : (s.heap.push ({ cls := .type "set", dict := none, data := .set #[] 0 (.fresh 0 0 (!w.params.followText "set-order")) } : Obj)).IsList l us := ⟨_, g1, rfl, nl, rfl⟩
        unfold Builtin.«set.__init__» noKeywords Builtin.Frozenset.updateFrom
        generalize hpi : pyIter = PI
        wp_walk
        subst hpi
        refine wpAny_pyIter_list hL1 ?_
        refine wpAny_bind (wpAny_runValue ?_)
        have lt1 : l < s.heap.objs.size := Heap.lt_size hlo
        have hA3 : A.in1.in1.in1.handled = none := by simp [hA]
        have hz1 : (s.heap.push ({ cls := .type "set", dict := none, data := .set #[] 0 (.fresh 0 0 (!w.params.followText "set-order")) } : Obj)).objs.size = s.heap.objs.size + 1 := Heap.size_push ..
        have ne1 : l ≠ (s.heap.push ({ cls := .type "set", dict := none, data := .set #[] 0 (.fresh 0 0 (!w.params.followText "set-order")) } : Obj)).objs.size := by rw [hz1]; exact Nat.ne_of_lt (Nat.lt_succ_of_lt lt1)
        have nf : s.heap.objs.size ∉ [(s.heap.push ({ cls := .type "set", dict := none, data := .set #[] 0 (.fresh 0 0 (!w.params.followText "set-order")) } : Obj)).objs.size, l] := by
          rw [hz1]
          simp only [List.mem_cons, List.not_mem_nil, or_false, not_or]
          exact ⟨Nat.ne_of_lt (Nat.lt_succ_self _), fun e => Nat.lt_irrefl _ (e ▸ lt1)⟩
        have hv : ∀ (i : Nat) (v : Value), us[i]? = some v → ∃ k t, ns[i]? = some k ∧ v = .int k t := fun i v e => by
          have hi : i < ns.length := by rw [← hsz]; exact (Array.getElem?_eq_some_iff.mp e).1
          obtain ⟨t, e2⟩ := PyProof.Rows.IntsAre.int_at hI i v (by rw [Array.getElem?_toList]; exact e)
          refine ⟨ns[i], t, List.getElem?_eq_getElem hi, ?_⟩
          rw [e2, List.getD_eq_getElem?_getD, List.getElem?_eq_getElem hi] <;> rfl
        refine set_update_ints ((Walks.list hA3 _ l ne1 us).toS) s.heap.objs.size nf ns hsz hB hv (us.size - 0) 0 _ (by omega) (Nat.zero_le _) ⟨⟨_, Heap.get?_push_size _ rfl, rfl, rfl⟩, (hL1.push _)⟩ ?z0 ?zR
        case z0 => exact ⟨0, Nat.le_refl 0, setR_new_at (Heap.get?_push_of_some _ g0)⟩
        case zR =>
          intro t c' hm hc2 hS2
          obtain ⟨h', g2, d2, tk, os2⟩ := t
          obtain rfl : g2 = s.gens := hm.gens
          obtain rfl : d2 = s.drawn := hm.drawn
          obtain rfl : os2 = s.os := hm.os
          show wpAny _ _ _ _ _ _
          refine wpAny_pure ?_
          show wpAny _ _ (ret Value.none) _ _ _
          rw [hsz] at hc2
          refine wpAny_pure ⟨rfl, h', tk, c', rfl, hS2, hc2, fun b o e => ?_⟩
          have lb : b < s.heap.objs.size := Heap.lt_size e
          refine hm.heap b o ?_ (Heap.get?_push_of_some _ (Heap.get?_push_of_some _ e))
          simp only [List.mem_cons, List.not_mem_nil, or_false, not_or]
          rw [hz1]
          exact ⟨Nat.ne_of_lt lb, Nat.ne_of_lt (Nat.lt_succ_of_lt lb)⟩
      refine codeAny_mono key fun r2 t2 hr2 => ?_
      cases r2 with
      | error e => exact hr2
      | ok fl2 =>
        cases fl2 with
        | ret r =>
          obtain ⟨rfl, h', tk, c', rfl, hS2, hc2, hk2⟩ := hr2
          repeat (any_goals (first | assumption | wp_step))
          exact q _ _ _ hS2 hc2 hk2
        | _ => exact hr2.elim
    | _ => exact hr.elim
end
def rSetLI (K : PySem.W.Frag) (w : World) : List V → Hp → VK → Prop := fun vs H Q => ∃ (l : Addr) (ns : List Int), vs = [.ref l] ∧ SqL K H l (ns.map V.int) ∧ ns.length < 64 ∧ ∀ (p : Addr) (c : Nat), H p = none → c ≤ ns.length → Q (.ref p) (upd H p (SetO w p (fun j => decide (j ∈ ns)) c))
theorem cr_setLI {X : Cx} (hc : X.calm = true) : CallR X (.type "set") (rSetLI X.K X.w) := by
  intro pins s σ H xs us Q I r h
  obtain ⟨l, ns, rfl, hS, hl, q⟩ := h
  obtain ⟨its, rv, pl, hz⟩ := I.list hS
  rw [Vals.ref1 r]
  refine set_of_list ns (I.ok.hd hc) pl.isList (by simpa using rv.ints) (by unfold scanBound; omega) fun h' tk c hR hcn k => ?_
  exact ⟨.ref _, _, I.laid (t' := tk) k (Nat.le_refl _) (setO_new hR), rfl, q _ c (I.hok.fresh (Nat.le_refl _)) hcn⟩
/-! {n: True for n in xs}, xs a list or a tuple, numbers more than once -/
def ddI : List Int → List Int → List Int
  | acc, [] => acc
  | acc, n :: r => ddI (if n ∈ acc then acc else acc ++ [n]) r
theorem ddI_mem : ∀ {ns acc : List Int} {x : Int}, x ∈ ddI acc ns ↔ x ∈ acc ∨ x ∈ ns
  | [], acc, x => by simp [ddI]
  | n :: r, acc, x => by
    unfold ddI
    rw [ddI_mem (ns := r), List.mem_cons]
    by_cases h : n ∈ acc
    · rw [if_pos h]
      constructor
      · rintro (h1 | h1)
        · exact .inl h1
        · exact .inr (.inr h1)
      · rintro (h1 | rfl | h1)
        · exact .inl h1
        · exact .inl h
        · exact .inr h1
    · rw [if_neg h, List.mem_append, List.mem_singleton, or_assoc]
theorem ddI_nodup : ∀ {ns acc : List Int}, acc.Nodup → (ddI acc ns).Nodup
  | [], acc, h => h
  | n :: r, acc, h => by
    unfold ddI
    refine ddI_nodup ?_
    by_cases c : n ∈ acc
    · rw [if_pos c]; exact h
    · rw [if_neg c]
      refine List.nodup_append.mpr ⟨h, by simp, fun a ha b hb => ?_⟩
      rw [List.mem_singleton] at hb
      subst hb
      exact fun e => c (e ▸ ha)
theorem ddI_app : ∀ {ns acc : List Int} {n : Int}, ddI acc (ns ++ [n]) = if n ∈ ddI acc ns then ddI acc ns else ddI acc ns ++ [n]
  | [], acc, n => rfl
  | m :: r, acc, n => by
    rw [List.cons_append]
    unfold ddI
    exact ddI_app (ns := r)
theorem ddI_len : ∀ {ns acc : List Int}, (ddI acc ns).length ≤ acc.length + ns.length
  | [], acc => Nat.le_refl _
  | n :: r, acc => by
    unfold ddI
    refine Nat.le_trans (ddI_len (ns := r)) ?_
    by_cases c : n ∈ acc
    · rw [if_pos c, List.length_cons]; omega
    · rw [if_neg c, List.length_append, List.length_singleton, List.length_cons]; omega
theorem ddI_same {ns : List Int} (h : ns.Nodup) : ddI [] ns = ns := by
  suffices key : ∀ (ns acc : List Int), (acc ++ ns).Nodup → ddI acc ns = acc ++ ns by simpa using key ns [] (by simpa using h)
  intro ns
  induction ns with
  | nil => intro acc _; simp [ddI]
  | cons n r ih =>
    intro acc h
    have hn : n ∉ acc := fun c => (List.nodup_append.mp h).2.2 n c n List.mem_cons_self rfl
    unfold ddI
    rw [if_neg hn, ih (acc ++ [n]) (by simpa using h)]
    simp
theorem keyP_putD (acc : List Int) (k : Int) : putK (keyP acc) (.inl k) (.bl true) = keyP (if k ∈ acc then acc else acc ++ [k]) := by
  by_cases c : k ∈ acc
  · rw [if_pos c]
    unfold putK
    rw [keyP_any, if_pos (by simp [c])]
    unfold keyP
    rw [List.map_map]
    refine List.map_congr_left fun n _ => ?_
    show (if (Sum.inl n : L2.Key) = .inl k then ((Sum.inl n : L2.Key), V.bl true) else ((Sum.inl n : L2.Key), V.bl true)) = _
    split <;> rfl
  · rw [if_neg c]
    exact keyP_put c
section
variable {K : PySem.W.Frag} {σ : L2.St} {G P H : Hp} {Q : VK} {tt : TT} {ta tk tv : TE} {g : TG} {ts : List Nat} {a : Addr} {ns : List Int} {j : Nat}
def aDcS (K : PySem.W.Frag) (g : TG) (tt : TT) (tk tv : TE) (vs : List Nat) (σ : L2.St) : V → Hp → VK → Prop := fun x H Q => tDc (fun _ H R => ∃ a, x = .ref a ∧ (((∃ xs, SqL K H a xs) ∧ R (Itl K a) H) ∨ ((∃ xs, SqT K H a xs) ∧ R (Itt K a) H))) g tt tk tv vs σ H Q
theorem w_dcS (h : ta σ H fun x H1 => aDcS K g tt tk tv ts σ x H1 Q) : tDc (iSeq K ta) g tt tk tv ts σ H Q := h
theorem dcSet {it : It} {D : Addr} {Qd : Hp → Prop} (A : Hp → Prop) (hA : ∀ G' H', Ex G G' → Join G' P H' → A H') (h1 : ∀ i H', A H' → i < ns.length → it.go i H') (h2 : ∀ i H' x H2, A H' → it.yld i H' x H2 → H2 = H' ∧ (ns.map V.int)[i]? = some x) (h3 : ∀ H', A H' → it.stop ns.length H')
    (J : Join G P H) (hl : ns.length ≤ 100000) (hw : ∀ x, wipe ((wipe σ ts).set j (some x)) ts = wipe σ ts)
    (hk : ∀ (n : Int) (H' : Hp) (S : VK), S (.int n) H' → tk ((wipe σ ts).set j (some (.int n))) H' S) (hv : ∀ (x : V) (H' : Hp) (S : VK), S (.bl true) H' → tv ((wipe σ ts).set j (some x)) H' S)
    (hD : H D = none) (hq : ∀ G' H', Ex G G' → Join G' P H' → G' D = some (.dK (keyP (ddI [] ns))) → Qd H') :
    ∃ W : Nat → Nat → Hp → Prop, (∃ m, W 0 m (upd H D (.dK []))) ∧ ∀ i m H, W i m H →
      (it.stop i H ∧ Qd H) ∨ (it.go i H ∧ ∃ Nx : Hp → Prop, (∀ H', Nx H' → ∃ m', m' < m ∧ W (i + 1) m' H') ∧ ∀ x H', it.yld i H x H' → gName j x (wipe σ ts) H' fun σ2 H2 => wipe σ2 ts = wipe σ ts ∧ tYes σ2 H2 fun b H3 =>
        if b = true then tk σ2 H3 fun y H4 => tv σ2 H4 fun z H5 => ∃ kvs k, y = kV k ∧ H5 D = some (.dK kvs) ∧ kvs.length < sizeLine ∧ Nx (upd H5 D (.dK (putK kvs k z))) else Nx H3) := by
  have gD : G D = none := J.ng hD
  let I : Nat → Hp → Prop := fun i H' => ∃ G', Ex G G' ∧ Join G' P H' ∧ G' D = some (.dK (keyP (ddI [] (ns.take i))))
  refine ⟨fun i m H' => m = ns.length - i ∧ i ≤ ns.length ∧ I i H', ⟨ns.length, by simp, Nat.zero_le _, _, Ex.new gD, J.newG hD, upd_same⟩, ?_⟩
  rintro i m H' ⟨rfl, hi, G', e, j', hd⟩
  have a1 := hA G' H' e j'
  by_cases hlt : i < ns.length
  · refine .inr ⟨h1 i H' a1 hlt, I (i + 1), fun H2 p => ⟨ns.length - (i + 1), by omega, rfl, hlt, p⟩, fun x H2 y => ?_⟩
    obtain ⟨rfl, hx⟩ := h2 i H' x H2 a1 y
    obtain ⟨n, hn, rfl⟩ := int_at hx
    refine ⟨hw _, iteT (B := True) (hk n H2 _ (hv _ H2 _ ⟨keyP (ddI [] (ns.take i)), .inl n, rfl, j'.g _ _ hd, ?_, _, ?_, j'.setGo hd, ?_⟩))⟩
    · refine szlt ?_
      unfold keyP
      have := ddI_len (ns := ns.take i) (acc := [])
      rw [List.length_take] at this
      rw [List.length_map]
      simp only [List.length_nil] at this
      omega
    · exact e.mut gD
    · rw [upd_same, keyP_putD, take_more hn, ddI_app]
  · obtain rfl : i = ns.length := by omega
    rw [List.take_length] at hd
    exact .inl ⟨h3 H' a1, hq G' H' e j' hd⟩
theorem aDcS.go (J : Join G P H) (hS : Sq G a (ns.map V.int)) (hl : ns.length ≤ 100000) (hw : ∀ x, wipe ((wipe σ ts).set j (some x)) ts = wipe σ ts)
    (hk : ∀ (n : Int) (H' : Hp) (S : VK), S (.int n) H' → tk ((wipe σ ts).set j (some (.int n))) H' S) (hv : ∀ (x : V) (H' : Hp) (S : VK), S (.bl true) H' → tv ((wipe σ ts).set j (some x)) H' S)
    (hq : ∀ p G' H', H p = none → Ex G G' → Join G' P H' → G' p = some (.dK (keyP (ddI [] ns))) → Q (.ref p) H') : aDcS K (gName j) tYes tk tv ts σ (.ref a) H Q := by
  rcases hS with hS | hS
  · refine ⟨a, rfl, .inl ⟨⟨_, sqL (J.g _ _ hS)⟩, fun D hD => ?_⟩⟩
    refine dcSet (fun H' => SqL K H' a (ns.map V.int)) (fun G' H' e j' => sqL (j'.g _ _ (e _ _ hS))) (fun i H' s hi => ⟨_, .int ns[i], s, by rw [List.getElem?_map, List.getElem?_eq_getElem hi]; rfl⟩) (fun i H' x H2 s y => ⟨y.1, y.2 _ s⟩) (fun H' s => ⟨_, s, by rw [List.length_map]; exact Nat.le_refl _⟩) J hl hw hk hv hD fun G' H' e j' hd => hq D G' H' hD e j' hd
  · refine ⟨a, rfl, .inr ⟨⟨_, sqT (J.g _ _ hS)⟩, fun D hD => ?_⟩⟩
    refine dcSet (fun H' => SqT K H' a (ns.map V.int)) (fun G' H' e j' => sqT (j'.g _ _ (e _ _ hS))) (fun i H' s hi => ⟨_, .int ns[i], s, by rw [List.getElem?_map, List.getElem?_eq_getElem hi]; rfl⟩) (fun i H' x H2 s y => ⟨y.1, y.2 _ s⟩) (fun H' s => ⟨_, s, by rw [List.length_map]; exact Nat.le_refl _⟩) J hl hw hk hv hD fun G' H' e j' hd => hq D G' H' hD e j' hd
/-! sorted(set(xs)) -/
theorem setLI_go {w : World} {l : Addr} (J : Join G P H) (h : H l = some (.lst (ns.map V.int))) (hl : ns.length < 64) (q : ∀ p c G' H', H p = none → c ≤ ns.length → Ex G G' → Join G' P H' → G' p = some (SetO w p (fun j => decide (j ∈ ns)) c) → Q (.ref p) H') : rSetLI K w [.ref l] H Q :=
  ⟨l, ns, rfl, sqL h, hl, fun p c hp hc => q p c _ _ hp hc (Ex.new (J.ng hp)) (J.newG hp) upd_same⟩
theorem sortSet_go {w : World} {l : Addr} {c : Nat} (J : Join G P H) (h : H l = some (SetO w l (fun j => decide (j ∈ ns)) c)) (hc : c < 64) (q : ∀ (ns' : List Int) p G' H', ns'.Pairwise (· < ·) → (∀ k, k ∈ ns' ↔ k ∈ ns) → ns'.length = c → H p = none → Ex G G' → Join G' P H' → G' p = some (.lst (ns'.map V.int)) → Q (.ref p) H') : rSortedSet w [.ref l] H Q :=
  ⟨l, _, c, rfl, h, hc, fun ns' p h1 h2 h3 hp => q ns' p _ _ h1 (fun k => by rw [h2]; exact decide_eq_true_iff) h3 hp (Ex.new (J.ng hp)) (J.newG hp) upd_same⟩
theorem w_setLI {w : World} {as : TA} (h : as σ H fun vs H1 => rSetLI K w vs H1 Q) : tCB (rSetLI K w) as σ H Q := h
theorem w_sortSet {w : World} {as : TA} (h : as σ H fun vs H1 => rSortedSet w vs H1 Q) : tCB (rSortedSet w) as σ H Q := h
end
/-! max(xs), min(xs) of a list or a tuple of ints -/
section
variable {P : Program} {w : World} {A : Around} {E : Value → Shared → Prop} {s : Shared} {l : Addr}
theorem tup_it {us : Array Value} {Q : Value → Shared → Prop} (hL : s.heap.IsTuple l us)
    (q : ∀ t : Shared, t = { s with heap := s.heap.push ({ cls := .type "tuple_iterator", data := .fields #[.ref l, .int 0 0] } : Obj) } → (t.heap.IsTupleIter s.heap.objs.size l 0 ∧ t.heap.IsTuple l us) → (∀ b ∈ [s.heap.objs.size, l], b < t.heap.objs.size) → l ≠ s.heap.objs.size → Q (.ref s.heap.objs.size) t) :
    wpAny (model P w) A (pyIter (.ref l)) Q E s := by
  have lt : l < s.heap.objs.size := by
    obtain ⟨_, e, _⟩ := hL
    exact Heap.lt_size e
  refine wpAny_pyIter_tuple hL (q _ rfl ⟨⟨_, Heap.get?_push_size _ rfl, rfl, rfl⟩, hL.push _⟩ (fun b hb => ?_) (Nat.ne_of_lt lt))
  show b < (s.heap.push ({ cls := .type "tuple_iterator", data := .fields #[.ref l, .int 0 0] } : Obj)).objs.size
  rw [Heap.size_push]
  simp only [List.mem_cons, List.not_mem_nil, or_false] at hb
  rcases hb with rfl | rfl
  · exact Nat.lt_succ_self _
  · exact Nat.lt_succ_of_lt lt
theorem tup_old {h' : Heap} (hk : ∀ b o, b ∉ [s.heap.objs.size] → (s.heap.push ({ cls := .type "tuple_iterator", data := .fields #[.ref l, .int 0 0] } : Obj)).get? b = some o → h'.get? b = some o) (b : Addr) (o : Obj) (e : s.heap.get? b = some o) : h'.get? b = some o :=
  hk b o (fun hm => by
    obtain rfl := List.mem_singleton.mp hm
    exact absurd (Heap.lt_size e) (Nat.lt_irrefl _)) (Heap.get?_push_of_some _ e)
theorem max_tup {us : List Value} {ns : List Int} {Q : Value → Shared → Prop} (hh : A.handled = none) (hL : s.heap.IsTuple l us.toArray) (hI : IntsAre us ns) (hne : 0 < ns.length)
    (q : ∀ h' tk M t', (∀ b o, s.heap.get? b = some o → h'.get? b = some o) → M ∈ ns → (∀ a, a ∈ ns → a ≤ M) → Q (.int M t') { s with heap := h', toks := tk }) : wpAny (model P w) A (call (.builtin "max") [.ref l]) Q E s := by
  obtain ⟨xs, e⟩ := hI.allInts.items
  have hn : numsOf (intItems xs).toList = ns := by rw [← e]; exact hI.numsOf
  rw [nums_intItems] at hn
  subst hn
  rw [e] at hL
  have h0 : 0 < xs.size := by simpa using hne
  refine call_max_walk (tup_it hL fun t et st hfp hlI => ?_)
  subst et
  refine ⟨_, _, _, _, _, _, _, rfl, Walks.tuple (A := A.in1) hh _ l hlI (intItems xs), st, hfp, by simpa [intItems] using h0, CmpOf.ints_gt (numAt xs) (fun _ _ => intItems_at), fun v h' tk hv hk => ?_⟩
  obtain ⟨t, rfl⟩ := intItems_at hv
  obtain ⟨g1, g2⟩ := argBest_gt (numAt xs) ((intItems xs).size - 1)
  have hz : (intItems xs).size = xs.size := by simp [intItems]
  rw [hz] at g1 g2
  rw [hz]
  refine q h' tk _ t (tup_old hk) ?_ fun a ha => ?_
  · rw [numAt_eq]; exact PySem.getD_mem (by rw [List.length_map, Array.length_toList]; omega)
  · obtain ⟨i, hi, rfl⟩ := mem_getD ha
    rw [List.length_map, Array.length_toList] at hi
    rw [← numAt_eq]; exact g2 i (by omega)
theorem min_tup {us : List Value} {ns : List Int} {Q : Value → Shared → Prop} (hh : A.handled = none) (hL : s.heap.IsTuple l us.toArray) (hI : IntsAre us ns) (hne : 0 < ns.length)
    (q : ∀ h' tk M t', (∀ b o, s.heap.get? b = some o → h'.get? b = some o) → M ∈ ns → (∀ a, a ∈ ns → M ≤ a) → Q (.int M t') { s with heap := h', toks := tk }) : wpAny (model P w) A (call (.builtin "min") [.ref l]) Q E s := by
  obtain ⟨xs, e⟩ := hI.allInts.items
  have hn : numsOf (intItems xs).toList = ns := by rw [← e]; exact hI.numsOf
  rw [nums_intItems] at hn
  subst hn
  rw [e] at hL
  have h0 : 0 < xs.size := by simpa using hne
  refine call_min_walk (tup_it hL fun t et st hfp hlI => ?_)
  subst et
  refine ⟨_, _, _, _, _, _, _, rfl, Walks.tuple (A := A.in1) hh _ l hlI (intItems xs), st, hfp, by simpa [intItems] using h0, CmpOf.ints_lt (numAt xs) (fun _ _ => intItems_at), fun v h' tk hv hk => ?_⟩
  obtain ⟨t, rfl⟩ := intItems_at hv
  obtain ⟨g1, g2⟩ := argBest_lt (numAt xs) ((intItems xs).size - 1)
  have hz : (intItems xs).size = xs.size := by simp [intItems]
  rw [hz] at g1 g2
  rw [hz]
  refine q h' tk _ t (tup_old hk) ?_ fun a ha => ?_
  · rw [numAt_eq]; exact PySem.getD_mem (by rw [List.length_map, Array.length_toList]; omega)
  · obtain ⟨i, hi, rfl⟩ := mem_getD ha
    rw [List.length_map, Array.length_toList] at hi
    rw [← numAt_eq]; exact g2 i (by omega)
end
def rMaxS (K : PySem.W.Frag) : List V → Hp → VK → Prop := fun vs H Q => ∃ (a : Addr) (ns : List Int), vs = [V.ref a] ∧ (SqL K H a (ns.map V.int) ∨ SqT K H a (ns.map V.int)) ∧ 0 < ns.length ∧ ∀ m, m ∈ ns → (∀ y, y ∈ ns → y ≤ m) → Q (.int m) H
def rMinS (K : PySem.W.Frag) : List V → Hp → VK → Prop := fun vs H Q => ∃ (a : Addr) (ns : List Int), vs = [V.ref a] ∧ (SqL K H a (ns.map V.int) ∨ SqT K H a (ns.map V.int)) ∧ 0 < ns.length ∧ ∀ m, m ∈ ns → (∀ y, y ∈ ns → m ≤ y) → Q (.int m) H
theorem cr_maxS {X : Cx} (hc : X.calm = true) : CallR X (.builtin "max") (rMaxS X.K) := by
  intro pins s σ H vs us Q I r h
  obtain ⟨a, ns, rfl, hs | hs, hne, q⟩ := h
  · exact cr_max hc pins s σ H [.ref a] us Q I r ⟨a, ns, rfl, hs, hne, q⟩
  · obtain ⟨its, rv, hl, _⟩ := I.tuple hs
    rw [Vals.ref1 r]
    exact max_tup (I.ok.hd hc) (show s.heap.IsTuple a its.toArray from hl) (by simpa using rv.ints) hne fun h' tk m t' hk h1 h2 => ⟨.int _, H, I.kept hk, ⟨_, rfl⟩, q m h1 h2⟩
theorem cr_minS {X : Cx} (hc : X.calm = true) : CallR X (.builtin "min") (rMinS X.K) := by
  intro pins s σ H vs us Q I r h
  obtain ⟨a, ns, rfl, hs | hs, hne, q⟩ := h
  · exact cr_min hc pins s σ H [.ref a] us Q I r ⟨a, ns, rfl, hs, hne, q⟩
  · obtain ⟨its, rv, hl, _⟩ := I.tuple hs
    rw [Vals.ref1 r]
    exact min_tup (I.ok.hd hc) (show s.heap.IsTuple a its.toArray from hl) (by simpa using rv.ints) hne fun h' tk m t' hk h1 h2 => ⟨.int _, H, I.kept hk, ⟨_, rfl⟩, q m h1 h2⟩
theorem cr_maxSK {X : Cx} {K : PySem.W.Frag} (h : X.K = K) (hc : X.calm = true) : CallR X (.builtin "max") (rMaxS K) := h ▸ cr_maxS hc
theorem cr_minSK {X : Cx} {K : PySem.W.Frag} (h : X.K = K) (hc : X.calm = true) : CallR X (.builtin "min") (rMinS K) := h ▸ cr_minS hc
theorem cr_setLIK {X : Cx} {K : PySem.W.Frag} (h : X.K = K) (hc : X.calm = true) : CallR X (.type "set") (rSetLI K X.w) := h ▸ cr_setLI hc
section
variable {K : PySem.W.Frag} {σ : L2.St} {G P H : Hp} {Q : VK} {a : Addr} {ns : List Int}
theorem Sq.orK (J : Join G P H) (h : Sq G a (ns.map V.int)) : SqL K H a (ns.map V.int) ∨ SqT K H a (ns.map V.int) := h.imp (fun h => sqL (J.g _ _ h)) (fun h => sqT (J.g _ _ h))
theorem maxS_go (J : Join G P H) (h : Sq G a (ns.map V.int)) (hn : 0 < ns.length) (q : ∀ m, m ∈ ns → (∀ y, y ∈ ns → y ≤ m) → Q (.int m) H) : rMaxS K [.ref a] H Q := ⟨a, ns, rfl, Sq.orK J h, hn, q⟩
theorem minS_go (J : Join G P H) (h : Sq G a (ns.map V.int)) (hn : 0 < ns.length) (q : ∀ m, m ∈ ns → (∀ y, y ∈ ns → m ≤ y) → Q (.int m) H) : rMinS K [.ref a] H Q := ⟨a, ns, rfl, Sq.orK J h, hn, q⟩
theorem w_maxS {as : TA} (h : as σ H fun vs H1 => rMaxS K vs H1 Q) : tCB (rMaxS K) as σ H Q := h
theorem w_minS {as : TA} (h : as σ H fun vs H1 => rMinS K vs H1 Q) : tCB (rMinS K) as σ H Q := h
end
end Lv

namespace Lv
open PySem PySem.Spec PyProof.Rows L2
variable [TabA]
/-! min(xs) of a list of int tuples -/
theorem listLt_lex : ∀ a b : List Int, PySem.W.listLt a b = lexLt a b
  | [], [] => rfl
  | [], _ :: _ => rfl
  | _ :: _, [] => rfl
  | p :: a, q :: b => by
    unfold PySem.W.listLt lexLt
    by_cases h : p = q
    · rw [if_pos h, if_pos h]; exact listLt_lex a b
    · rw [if_neg h, if_neg h]; rfl
theorem minOf_lex : ∀ (xs : List (PySem.W.Tup Int)) (x : PySem.W.Tup Int), PySem.W.minOf x xs ∈ x :: xs ∧ ∀ y ∈ x :: xs, lexLt y.items (PySem.W.minOf x xs).items = false
  | [], x => ⟨List.mem_singleton.mpr rfl, fun y hy => by
    obtain rfl := List.mem_singleton.mp hy
    exact lexLt_irr _⟩
  | z :: r, x => by
    have hlt : ∀ u v : PySem.W.Tup Int, PySem.W.DatumOrd.lt u v = lexLt u.items v.items := fun u v => listLt_lex u.items v.items
    have e : PySem.W.minOf x (z :: r) = PySem.W.minOf (if PySem.W.DatumOrd.lt z x = true then z else x) r := rfl
    rw [e, hlt]
    by_cases c : lexLt z.items x.items = true
    · rw [if_pos c]
      obtain ⟨h1, h2⟩ := minOf_lex r z
      refine ⟨List.mem_cons_of_mem _ h1, fun y hy => ?_⟩
      rcases List.mem_cons.mp hy with rfl | hy
      · have h3 := h2 z List.mem_cons_self
        cases h4 : lexLt y.items (PySem.W.minOf z r).items with
        | false => rfl
        | true =>
          have := lexLt_trans _ _ _ c h4
          rw [h3] at this
          cases this
      · exact h2 y hy
    · rw [if_neg c]
      obtain ⟨h1, h2⟩ := minOf_lex r x
      refine ⟨?_, fun y hy => ?_⟩
      · rcases List.mem_cons.mp h1 with h | h
        · rw [h]; exact List.mem_cons_self
        · exact List.mem_cons_of_mem _ (List.mem_cons_of_mem _ h)
      · rcases List.mem_cons.mp hy with rfl | hy
        · exact h2 y List.mem_cons_self
        · rcases List.mem_cons.mp hy with rfl | hy
          · exact lexLt_neg (h2 x List.mem_cons_self) (by simpa using c)
          · exact h2 y (List.mem_cons_of_mem _ hy)
def rMinLL (K : PySem.W.Frag) : List V → Hp → VK → Prop := fun vs H Q => ∃ (a : Addr) (xs : List V) (nss : List (List Int)), vs = [.ref a] ∧ SqL K H a xs ∧ DpAll K H xs (nss.map dT) ∧ 0 < nss.length ∧
  ∀ (i : Nat) (x : V) (m : List Int), xs[i]? = some x → nss[i]? = some m → (∀ y ∈ nss, lexLt y m = false) → Q x H
theorem dT_inj {a b : List Int} (h : dT a = dT b) : a = b := by
  unfold dT at h
  injection h with h
  induction a generalizing b with
  | nil => cases b with
    | nil => rfl
    | cons => cases h
  | cons p a ih => cases b with
    | nil => cases h
    | cons q b =>
      rw [List.map_cons, List.map_cons] at h
      injection h with h1 h2
      injection h1 with h1
      rw [h1, ih h2]
theorem cr_minLL {X : Cx} (hu : X.A.units + 64 < cLine) (hc : X.calm = true) : CallR X (.builtin "min") (rMinLL X.K) := by
  intro pins s σ H vs us Q I r h
  obtain ⟨a, xs, nss, rfl, hS, hD, hne, q⟩ := h
  obtain ⟨its, rv, hl, _⟩ := I.list hS
  rw [Vals.ref1 r]
  obtain ⟨as, hr⟩ := Dp.readsAll I _ _ its hD rv
  obtain ⟨n0, nr, rfl⟩ := List.exists_cons_of_length_pos hne
  have hH : PySem.W.HoldAll s.heap its ((⟨n0⟩ : PySem.W.Tup Int) :: nr.map PySem.W.Tup.mk) := ⟨as, by
    rw [List.map_cons, List.map_map]
    exact hr⟩
  refine PySem.W.min_list_datum (α := PySem.W.Tup Int) (x := ⟨n0⟩) (xs := nr.map PySem.W.Tup.mk) (I.ok.hd hc) hl.isList (by simpa using hH) (by show _ + 1 + (0 + 1) < _; omega) fun i v h' tk hv hh hk => ?_
  have hv2 : its[i]? = some v := by simpa using hv
  obtain ⟨t, ht, hh2⟩ := hH.at hv2
  obtain ⟨b1, r1⟩ := hh2.keeps hk
  obtain ⟨b2, r2⟩ := hh
  have hm : t = PySem.W.minOf ⟨n0⟩ (nr.map PySem.W.Tup.mk) := by
    have e := (Reads.unique r1 _ _ r2).1
    have e2 := dT_inj (a := t.items) (b := (PySem.W.minOf (⟨n0⟩ : PySem.W.Tup Int) (nr.map PySem.W.Tup.mk)).items) e
    cases t
    exact congrArg PySem.W.Tup.mk e2
  have hi : i < xs.length := by
    rw [rv.length]
    exact (List.getElem?_eq_some_iff.mp hv2).1
  have hx : xs[i]? = some xs[i] := List.getElem?_eq_getElem hi
  refine ⟨xs[i], H, I.kept hk, ?_, q i xs[i] t.items hx ?_ fun y hy => ?_⟩
  · obtain ⟨u, hu2, ru⟩ := rv.get hx
    rw [hv2] at hu2
    obtain rfl := Option.some.inj hu2
    exact ru
  · cases i with
    | zero => simpa using congrArg (Option.map PySem.W.Tup.items) ht
    | succ i =>
      have := congrArg (Option.map PySem.W.Tup.items) ht
      simpa using this
  · rw [hm]
    exact (minOf_lex (nr.map PySem.W.Tup.mk) ⟨n0⟩).2 ⟨y⟩ (by
      rcases List.mem_cons.mp hy with rfl | h
      · exact List.mem_cons_self
      · exact List.mem_cons_of_mem _ (List.mem_map.mpr ⟨y, h, rfl⟩))
theorem cr_minLLK {X : Cx} {K : PySem.W.Frag} (h : X.K = K) (hu : X.A.units + 64 < cLine) (hc : X.calm = true) : CallR X (.builtin "min") (rMinLL K) := h ▸ cr_minLL hu hc
section
variable {K : PySem.W.Frag} {σ : L2.St} {G P H : Hp} {Q : VK} {a : Addr} {xs : List V} {nss : List (List Int)}
theorem minLL_go (J : Join G P H) (h : G a = some (.lst xs)) (hT : TupL iV G xs nss) (hn : 0 < nss.length) (q : ∀ (t : Addr) (m : List Int), m ∈ nss → (∀ y ∈ nss, lexLt y m = false) → G t = some (.tup (iV m)) → Q (.ref t) H) : rMinLL K [.ref a] H Q :=
  ⟨a, xs, nss, rfl, sqL (J.g _ _ h), dp_all _ _ (hT.monoJ J), hn, fun i x m hx hm hmin => by
    obtain ⟨s, t, g1, rfl, g2⟩ := hT.get hx
    obtain rfl : s = m := by rw [g1] at hm; exact Option.some.inj hm
    exact q t s (List.mem_of_getElem? g1) hmin g2⟩
theorem w_minLL {as : TA} (h : as σ H fun vs H1 => rMinLL K vs H1 Q) : tCB (rMinLL K) as σ H Q := h
end
end Lv

namespace Lv
open PySem PySem.Spec PyProof.Rows L2
variable [TabA]
/-! tuples of ints: t < u; for n in range(hi, lo, -1) -/
theorem op_ltTK {X : Cx} {K : PySem.W.Frag} (h : X.K = K) (hu : X.A.units + 64 < cLine) : OpR X (compareOp .Lt) (rLtT K) := h ▸ op_ltT (by omega)
theorem ht_lex : ∀ a b : List Int, HT.lexLt a b = lexLt a b
  | [], [] => rfl
  | [], _ :: _ => rfl
  | _ :: _, [] => rfl
  | p :: a, q :: b => by
    unfold HT.lexLt lexLt
    by_cases h : p = q
    · rw [if_pos h, if_pos h]; exact ht_lex a b
    · rw [if_neg h, if_neg h]
theorem ltT_go {K : PySem.W.Frag} {a b : Addr} {l m : List Int} {G P H : Hp} {Q : VK} (J : Join G P H) (ha : G a = some (.tup (iV l))) (hb : G b = some (.tup (iV m))) (q : Q (.bl (lexLt l m)) H) : rLtT K (.ref a) (.ref b) H Q :=
  ⟨a, b, l, m, rfl, rfl, sqT (J.g _ _ ha), sqT (J.g _ _ hb), by rw [ht_lex]; exact q⟩
section
variable {H : Hp} {σ : L2.St} {rt : VK} {nx : L2.St → Hp → Prop} {bk ct : L2.St → Hp → Prop} {g : TG}
theorem aForR3.down {tb : TS} {G P : Hp} {lo hi : Int} {n : Nat} (hn : (hi - lo).toNat = n) (hb : -1000000 ≤ lo ∧ lo ≤ 1000000 ∧ -1000000 ≤ hi ∧ hi ≤ 1000000) (I : Nat → Hp → Hp → L2.St → Prop) (J : Join G P H) (h0 : I 0 G P σ)
    (hs : ∀ (i : Nat) (G' P' H' : Hp) (σ' : L2.St), i < n → Join G' P' H' → I i G' P' σ' → g (.int (hi - i)) σ' H' fun σ2 H2 => tb ⟨fun σ3 H3 => ∃ G3 P3, Join G3 P3 H3 ∧ I (i + 1) G3 P3 σ3, rt, nx, fun σ3 H3 => ∃ G3 P3, Join G3 P3 H3 ∧ I (i + 1) G3 P3 σ3⟩ σ2 H2)
    (hq : ∀ (G' P' H' : Hp) (σ' : L2.St), Join G' P' H' → I n G' P' σ' → nx σ' H') : aForR3 g tb ⟨nx, rt, bk, ct⟩ σ [.int hi, .int lo, .int (-1)] H := by
  subst hn
  refine ⟨hi, lo, -1, (hi - lo).toNat, rfl, RgC.neg (by omega) (by omega) (by omega) (by omega), for_rangeC (lo := hi) (c := -1) (n := (hi - lo).toNat) (fun i σ' H' => ∃ G3 P3, Join G3 P3 H' ∧ I i G3 P3 σ') ⟨G, P, J, h0⟩ ?_ ?_⟩
  · rintro i σ' H' hi' ⟨G', P', J', hI⟩
    rw [show hi + (i : Int) * -1 = hi - i by omega]
    exact hs i G' P' H' σ' hi' J' hI
  · rintro σ' H' ⟨G', P', J', hI⟩
    exact hq G' P' H' σ' J' hI
end
end Lv

namespace Lv
open PySem PySem.Spec PyProof.Rows L2
variable [TabA]
/-! tuple * int, 0 and 1 too -/
theorem tuple_mul1 (l : Addr) (items : Array Value) (n : Nat) (dd : Option Addr) (sl : Array (Option Value)) (u : Tok) :
    Meets (Builtin.«tuple.__mul__» ⟨[.ref l, .int 1 u], []⟩) (fun _ R s => s.heap.get? l = some { cls := .type "tuple", dict := dd, data := .seq items n, slots := sl } ∧ R (.ok (.ret (Value.ref l))) s) :=
  .of_wp fun prog w A R s h => by
    obtain ⟨hp, g, d, tk, os⟩ := s
    obtain ⟨hl, h⟩ := h
    have f1 := AutoSeq1.idx_int
    have c1 : (items.isEmpty || (1 : Int) == 1) = true := by simp
    wp_walk using AutoSeq1.wpAny_loadPart' hl
    repeat (first
      | (refine wpAny_ite_false (by decide) ?_; wp_walk using AutoSeq1.wpAny_loadPart' hl)
      | (refine wpAny_ite_true (by rw [c1]) ?_; wp_walk using AutoSeq1.wpAny_loadPart' hl)
      | (refine wpAny_ite_true (by decide) ?_; wp_walk using AutoSeq1.wpAny_loadPart' hl))
    exact ⟨_, rfl, h⟩
theorem tuple_mul0 (l : Addr) (items : Array Value) (n : Nat) (dd : Option Addr) (sl : Array (Option Value)) (u : Tok) (hne : items.isEmpty = false) :
    Meets (Builtin.«tuple.__mul__» ⟨[.ref l, .int 0 u], []⟩) (fun _ R s => s.heap.get? l = some { cls := .type "tuple", dict := dd, data := .seq items n, slots := sl } ∧
      R (.ok (.ret (Value.ref s.heap.objs.size))) { s with heap := s.heap.push { cls := Value.type "tuple", data := Data.seq #[] }, toks := s.toks }) :=
  .of_wp fun prog w A R s h => by
    obtain ⟨hp, g, d, tk, os⟩ := s
    obtain ⟨hl, h⟩ := h
    have f1 := AutoSeq1.idx_int
    have c1 : (items.isEmpty || (0 : Int) == 1) = false := by rw [hne]; rfl
    have c2 : (decide ((0 : Int) ≤ 0) || items.isEmpty) = true := rfl
    wp_walk using AutoSeq1.wpAny_loadPart' hl
    repeat (first
      | (refine wpAny_ite_false (decide_eq_false (by rw [c1]; exact Bool.false_ne_true)) ?_; wp_walk using AutoSeq1.wpAny_loadPart' hl)
      | (refine wpAny_ite_false (by decide) ?_; wp_walk using AutoSeq1.wpAny_loadPart' hl)
      | (refine wpAny_ite_true (by decide) ?_; wp_walk using AutoSeq1.wpAny_loadPart' hl))
    exact ⟨_, rfl, h⟩
def rRepW (K : PySem.W.Frag) : R2 := fun x y H Q => ∃ l k xs, x = .ref l ∧ y = .int k ∧ SqT K H l xs ∧ xs ≠ [] ∧ 0 ≤ k ∧ k ≤ 1000 ∧ xs.length ≤ 1000 ∧ (k = 1 → Q (.ref l) H) ∧ (k ≠ 1 → ∀ p, H p = none → Q (.ref p) (upd H p (.tup (List.replicate k.toNat xs).flatten)))
theorem op_repTW {X : Cx} {K : PySem.W.Frag} (hK : X.K = K) : OpR X (binaryOp .Mult) (rRepW K) := by
  subst hK
  intro pins s σ H x y v u Q I rx ry h
  obtain ⟨l, k, xs, rfl, rfl, hT, hne, h1, h2, hz, q1, q2⟩ := h
  by_cases c : 2 ≤ k
  · exact op_repT pins s σ H _ _ v u Q I rx ry ⟨l, k, xs, rfl, rfl, hT, hne, c, h2, hz, q2 (by omega)⟩
  cases rx
  obtain ⟨t, rfl⟩ := ry
  obtain ⟨its, r, ⟨⟨cls, dd, data, sl⟩, ho, hc, n, hd⟩, hs⟩ := I.tuple hT
  simp only at hc hd
  subst hc hd
  have hle : its.length = xs.length := r.length.symm
  have hn : its ≠ [] := fun e => hne (by
    rw [e] at hle
    exact List.eq_nil_of_length_eq_zero hle.symm)
  have hi : its.toArray.isEmpty = false := by
    cases its with
    | nil => exact absurd rfl hn
    | cons a b => rfl
  by_cases c1 : k = 1
  · subst c1
    exact wpAny_binaryOp_repeat_ref (T := "tuple") (U := "int") (by decide) ⟨_, ho, rfl⟩ (fun s' => typeIs_int s' 1 t) noFill_tuple_mul F.fills_int_mul F.slot_int_rmul repeat_tuple F.slot_int_index.lookup
      (call_meets F.slot_int_rmul (typeIs_int s 1 t) F.entry_int_rmul (F.args_int_rmul_2 _ _) (int_rmul_tuple 1 t l its.toArray n dd sl)
        ⟨ho, rfl, ⟨_, ho, rfl⟩, call_meets F.slot_tuple_mul ⟨_, ho, rfl⟩ F.entry_tuple_mul (F.args_tuple_mul_2 _ _) (tuple_mul1 l its.toArray n dd sl t) ⟨ho, ⟨.ref l, H, I, rfl, q1 rfl⟩⟩⟩)
  · obtain rfl : k = 0 := by omega
    refine wpAny_binaryOp_repeat_ref (T := "tuple") (U := "int") (by decide) ⟨_, ho, rfl⟩ (fun s' => typeIs_int s' 0 t) noFill_tuple_mul F.fills_int_mul F.slot_int_rmul repeat_tuple F.slot_int_index.lookup
      (call_meets F.slot_int_rmul (typeIs_int s 0 t) F.entry_int_rmul (F.args_int_rmul_2 _ _) (int_rmul_tuple 0 t l its.toArray n dd sl)
        ⟨ho, rfl, ⟨_, ho, rfl⟩, call_meets F.slot_tuple_mul ⟨_, ho, rfl⟩ F.entry_tuple_mul (F.args_tuple_mul_2 _ _) (tuple_mul0 l its.toArray n dd sl t hi) ⟨ho, ?_⟩⟩)
    refine ⟨.ref s.heap.objs.size, _, I.laid (t' := s.toks) (o := .tup []) (fun b ob q => Heap.get?_push_of_some _ q) (Nat.le_refl _) ?_, rfl, q2 c1 _ (I.hok.fresh (Nat.le_refl _))⟩
    exact ⟨Nat.zero_le _, [], .nil, IsTup.new _ _⟩
theorem repW_go {K : PySem.W.Frag} {a : Addr} {v : V} {k : Nat} {G P H : Hp} {Q : VK} (J : Join G P H) (h : G a = some (.tup [v])) (k2 : k ≤ 1000) (q : ∀ p G' H', Ex G G' → Join G' P H' → G' p = some (.tup (List.replicate k v)) → Q (.ref p) H') : rRepW K (.ref a) (.int (k : Int)) H Q := by
  refine ⟨a, k, [v], rfl, rfl, sqT (J.g _ _ h), by simp, by omega, by omega, by show 1 ≤ 1000; decide, fun e => ?_, fun e p hp => ?_⟩
  · obtain rfl : k = 1 := by omega
    exact q a G H (Ex.refl _) J h
  · refine q p _ _ (Ex.new (J.ng hp)) (J.newG hp) ?_
    rw [upd_same, Int.toNat_natCast]
    congr 2
    induction k with
    | zero => rfl
    | succ k ih => rw [List.replicate_succ, List.replicate_succ, List.flatten_cons]; simp
end Lv

namespace Lv
open PySem PySem.Spec PyProof.Rows L2
variable [TabA]
/-! list(d.items()) of a dict whose keys are tuples of ints -/
def putP : Hp → List Addr → List (V × V) → Hp
  | H, a :: as, p :: ps => putP (upd H a (.tup [p.1, p.2])) as ps
  | H, _, _ => H
theorem putP_off {b : Addr} : ∀ (as : List Addr) (ps : List (V × V)) (H : Hp), b ∉ as → putP H as ps b = H b
  | [], _, _, _ => rfl
  | _ :: _, [], _, _ => rfl
  | a :: as, p :: ps, H, h => by
    show putP (upd H a (.tup [p.1, p.2])) as ps b = H b
    rw [putP_off as ps _ (fun z => h (List.mem_cons_of_mem _ z)), upd_ne (fun z => h (by rw [z]; exact List.mem_cons_self))]
theorem putP_at : ∀ (as : List Addr) (ps : List (V × V)) (H : Hp) (i : Nat) (t : Addr) (p : V × V), as.Nodup → as[i]? = some t → ps[i]? = some p → putP H as ps t = some (.tup [p.1, p.2])
  | [], _, _, _, _, _, _, h, _ => by simp at h
  | _ :: _, [], _, _, _, _, _, _, h => by simp at h
  | a :: as, p :: ps, H, 0, t, q, hn, h1, h2 => by
    have hn' := List.nodup_cons.mp hn
    obtain rfl : a = t := by simpa using h1
    obtain rfl : p = q := by simpa using h2
    show putP (upd H a (.tup [p.1, p.2])) as ps a = _
    rw [putP_off as ps _ hn'.1, upd_same]
  | a :: as, p :: ps, H, i + 1, t, q, hn, h1, h2 => putP_at as ps (upd H a (.tup [p.1, p.2])) i t q (List.nodup_cons.mp hn).2 (by simpa using h1) (by simpa using h2)
/-- what stands in a dict with tuple keys -/
theorem dt2 {X : Cx} {pins : List (Addr × Obj)} {σ : L2.St} {H : Hp} {s : Shared} {d : Addr} {kvs : List (List L2.Key × V)} (I : Inv X pins σ H s) (h : H d = some (.dT kvs)) :
    (d == sysModules) = false ∧ kvs.length ≤ sizeLine ∧ ∃ (o : Obj) (es : Array DictEntry) (ep : Nat), s.heap.get? d = some o ∧ o.ExactDict ∧ o.data = .dict es ep ∧ es.size = kvs.length ∧
      ∀ (i : Nat) (k : List L2.Key) (v : V), kvs[i]? = some (k, v) → ∃ (en : DictEntry) (q : Addr), es[i]? = some en ∧ en.key = .ref q ∧ H q = some (.tup (k.map kV)) ∧ RelV v en.val := by
  obtain ⟨z, hs, xs, pr, o', es, ep, ho, hx, hdt, he, _⟩ := I.hok d _ h
  refine ⟨hs, z, o', es, ep, ho, hx, hdt, ?_, fun i k v e => ?_⟩
  · have l1 : es.size = xs.length := size_of_entries he
    have l2 : kvs.length = xs.length := Paired.length pr
    omega
  · obtain ⟨b, hb, e1, e2, e3⟩ := paired_get pr e
    have q := entry_at he i
    rw [hb] at q
    exact ⟨_, b.2.1, q, rfl, e2, e3⟩
/-- list(e.items()): the pairs, each a new tuple -/
def rItemsT (H : Hp) (d : Addr) (Q : VK) : Prop := ∃ (kvs : List (List L2.Key × V)), H d = some (.dT kvs) ∧
  ∀ (H' : Hp) (p : Addr) (ts bs : List Addr), (∀ b o, H b = some o → H' b = some o) → (∀ b, H b = none → b ≠ p → b ∉ ts → H' b = none) → H p = none → (∀ t ∈ ts, H t = none) → p ∉ ts → ts.Nodup → H' p = some (.lst (ts.map V.ref)) → ts.length = kvs.length → bs.length = kvs.length →
    (∀ (i : Nat) (k : List L2.Key) (v : V), kvs[i]? = some (k, v) → ∃ b t, bs[i]? = some b ∧ ts[i]? = some t ∧ H b = some (.tup (k.map kV)) ∧ H' t = some (.tup [.ref b, v])) → Q (.ref p) H'
def tListItemsT (te : TE) : TE := fun σ H Q => te σ H fun x H1 => ∃ d, x = .ref d ∧ rItemsT H1 d Q
theorem vals_refsA : ∀ as : List Addr, Vals (as.map V.ref) (as.map Value.ref)
  | [] => .nil
  | _ :: as => .cons rfl (vals_refsA as)
def keyA (en : DictEntry) : Addr := match en.key with
  | .ref q => q
  | _ => 0
section
variable {X : Cx} {e : Expr} {te : TE} {p apos cpos pos : Pos}
open PySem.W in
theorem items_laidT {pins : List (Addr × Obj)} {σ : L2.St} {H : Hp} {s : Shared} {h' : Heap} {tk : Nat} {kvs : List (List L2.Key × V)} {es : Array DictEntry} {acc : Array Value} {c : Nat} {as : List Addr} (I : Inv X pins σ H s) (hz : kvs.length ≤ sizeLine) (hsz : es.size = kvs.length)
    (ent : ∀ (i : Nat) (k : List L2.Key) (v : V), kvs[i]? = some (k, v) → ∃ (en : DictEntry) (q : Addr), es[i]? = some en ∧ en.key = .ref q ∧ H q = some (.tup (k.map kV)) ∧ RelV v en.val)
    (hk : ∀ b o, s.heap.get? b = some o → h'.get? b = some o) (hS : h'.get? s.heap.objs.size = some { cls := .type "list", dict := none, data := .seq acc c, slots := #[] }) (hl : as.length = es.size) (hG : PySem.W.DilG es s.heap.objs.size h' as) (hacc : acc.toList = as.map Value.ref) :
    ∃ (H' : Hp) (bs : List Addr), (∀ b o, H b = some o → H' b = some o) ∧ (∀ b, H b = none → b ≠ s.heap.objs.size → b ∉ as → H' b = none) ∧ H s.heap.objs.size = none ∧ (∀ t ∈ as, H t = none) ∧ s.heap.objs.size ∉ as ∧ as.Nodup ∧ H' s.heap.objs.size = some (.lst (as.map V.ref)) ∧ bs.length = kvs.length ∧
      (∀ (i : Nat) (k : List L2.Key) (v : V), kvs[i]? = some (k, v) → ∃ b t, bs[i]? = some b ∧ as[i]? = some t ∧ H b = some (.tup (k.map kV)) ∧ H' t = some (.tup [.ref b, v])) ∧ Inv X pins σ H' { s with heap := h', toks := tk } := by
  have hSn : s.heap.objs.size ∉ as := fun z => Nat.lt_irrefl _ (hG.above _ z)
  have nd : as.Nodup := List.Pairwise.imp (fun {a b} (h : a < b) => Nat.ne_of_lt h) hG.rise
  have new : ∀ t ∈ as, H t = none := fun t ht => I.hok.fresh (Nat.le_of_lt (hG.above t ht))
  have newS : H s.heap.objs.size = none := I.hok.fresh (Nat.le_refl _)
  obtain ⟨bs, hbs⟩ : ∃ bs : List Addr, bs = es.toList.map keyA := ⟨_, rfl⟩
  have hbl : bs.length = kvs.length := by rw [hbs, List.length_map, Array.length_toList]; exact hsz
  have hbe : ∀ (i : Nat) (k : List L2.Key) (v : V), kvs[i]? = some (k, v) → ∃ (en : DictEntry) (q : Addr), bs[i]? = some q ∧ es[i]? = some en ∧ en.key = .ref q ∧ H q = some (.tup (k.map kV)) ∧ RelV v en.val := fun i k v h => by
    obtain ⟨en, q, h1, h2, h3, h4⟩ := ent i k v h
    refine ⟨en, q, ?_, h1, h2, h3, h4⟩
    rw [hbs, List.getElem?_map, Array.getElem?_toList, h1]
    show some (keyA en) = some q
    unfold keyA
    rw [h2]
  let ps : List (V × V) := (bs.zip kvs).map fun z => (V.ref z.1, z.2.2)
  have hps : ∀ (i : Nat) (k : List L2.Key) (v : V) (b : Addr), kvs[i]? = some (k, v) → bs[i]? = some b → ps[i]? = some (V.ref b, v) := fun i k v b h1 h2 => by
    show ((bs.zip kvs).map fun z => (V.ref z.1, z.2.2))[i]? = _
    rw [List.getElem?_map, (List.getElem?_zip_eq_some (z := (b, (k, v)))).mpr ⟨h2, h1⟩]; rfl
  obtain ⟨H', hH⟩ : ∃ H' : Hp, H' = putP (upd H s.heap.objs.size (.lst (as.map V.ref))) as ps := ⟨_, rfl⟩
  have off : ∀ b, b ∉ as → b ≠ s.heap.objs.size → H' b = H b := fun b h1 h2 => by rw [hH, putP_off as ps _ h1, upd_ne h2]
  have low : ∀ b o, s.heap.get? b = some o → b ∉ as ∧ b ≠ s.heap.objs.size := fun b o e => ⟨fun z => absurd (Heap.lt_size e) (Nat.not_lt.mpr (Nat.le_of_lt (hG.above b z))), Nat.ne_of_lt (Heap.lt_size e)⟩
  have kp : ∀ b u, H b = some u → H' b = some u := fun b u e => by
    rw [off b (fun z => by rw [new b z] at e; cases e) (fun z => by rw [z, newS] at e; cases e)]
    exact e
  have eS : H' s.heap.objs.size = some (.lst (as.map V.ref)) := by rw [hH, putP_off as ps _ hSn, upd_same]
  have atP : ∀ (i : Nat) (k : List L2.Key) (v : V), kvs[i]? = some (k, v) → ∃ b t, bs[i]? = some b ∧ as[i]? = some t ∧ H b = some (.tup (k.map kV)) ∧ H' t = some (.tup [.ref b, v]) := fun i k v h => by
    obtain ⟨en, q, h1, h2, h3, h4, h5⟩ := hbe i k v h
    have hi := (List.getElem?_eq_some_iff.mp h).1
    obtain ⟨t, ht⟩ : ∃ t, as[i]? = some t := ⟨_, List.getElem?_eq_getElem (by omega)⟩
    exact ⟨q, t, h1, ht, h4, by rw [hH]; exact putP_at as ps _ i t _ nd ht (hps i k v q h h1)⟩
  refine ⟨H', bs, kp, fun b h1 h2 h3 => by rw [off b h3 h2]; exact h1, newS, new, hSn, nd, eS, hbl, atP, ?_⟩
  refine I.call' (ch := []) rfl ⟨fun b o q _ _ _ => hk b o q, fun b o q _ _ _ => ⟨o.slots, hk b o q⟩, fun b o q n _ => ?_, fun b o q _ => ⟨o, hk b o q⟩, fun b xs q => kp b _ q, fun b o u q => kp b _ q, fun b ps q => ⟨#[], by rw [kp b _ q]; simp⟩⟩ (fun b u q => ?_) I.bare fun b z => by simp at z
  · obtain ⟨z1, z2⟩ := low b o q
    rw [off b z1 z2]
    exact n
  · by_cases hb : b ∈ as
    · obtain ⟨j, hj⟩ := List.mem_iff_getElem?.mp hb
      have hjl := (List.getElem?_eq_some_iff.mp hj).1
      obtain ⟨⟨k, v⟩, hkv⟩ : ∃ z, kvs[j]? = some z := ⟨_, List.getElem?_eq_getElem (by omega)⟩
      obtain ⟨en, q', h1, h2, h3, h4, h5⟩ := hbe j k v hkv
      obtain ⟨b', t, g1, g2, g3, g4⟩ := atP j k v hkv
      rw [hj] at g2
      obtain rfl := Option.some.inj g2
      rw [h1] at g1
      obtain rfl := Option.some.inj g1
      rw [g4] at q
      obtain rfl := Option.some.inj q
      obtain ⟨hj2, f3⟩ := hG.pairs j b hj
      have hes : es[j] = en := by
        rw [Array.getElem?_eq_getElem hj2] at h2
        exact Option.some.inj h2
      exact ⟨by show 2 ≤ sizeLine; decide, [es[j].key, es[j].val], .cons (by rw [hes]; exact h3) (.cons (by rw [hes]; exact h5) .nil), ⟨_, f3, rfl, _, rfl⟩⟩
    · by_cases hb2 : b = s.heap.objs.size
      · rw [hb2] at q ⊢
        rw [eS] at q
        cases q
        refine ⟨by rw [List.length_map]; omega, acc.toList, c, by rw [hacc]; exact vals_refsA as, ?_⟩
        rw [Array.toArray_toList]
        exact hS
      · rw [off b hb hb2] at q
        exact (I.hok b u q).stay (fun d v _ y => hk d v y) (fun d y => kp d _ y) fun d xs y => kp d _ y
theorem pe_listItemsT (hc : X.calm = true) (he : PE X e te) (hg : Gl X "list") (hm : X.mg "list" = none) (hv : bootBuiltins "list" = some (.type "list")) (hbase : attributeBase e "items" X.env (eval e X.env) = eval e X.env := by rfl) (hline : (apos.endLine == cpos.line) = true := by rfl)
    (hs : starEach [.Call (.Attribute e "items" apos) [] [] cpos] X.env = (false, eval (.Call (.Attribute e "items" apos) [] [] cpos) X.env) :: starEach [] X.env := by rfl) :
    PE X (.Call (.Name "list" p) [.Call (.Attribute e "items" apos) [] [] cpos] [] pos) (tListItemsT te) := by
  refine ⟨fun pins s σ H Q I hq => ?_⟩
  refine wpAny_Call_Name_kw (ld_blt I hg hm hv ?_)
  refine PyProof.Rows.callWith_type1 ?_ hs rfl
  rw [hs]
  show wpAny _ _ (spliced ((false, eval (.Call (.Attribute e "items" apos) [] [] cpos) X.env) :: backTo pos (starEach [] X.env))) _ _ s
  refine Calls.spliced_cons ?_
  refine wpAny_Call_method (T := "dict") (id := "dict.items") hbase rfl hline F.plainAttrs_dict F.slot_dict_items F.type_dict_items (thn (he.run pins s σ H _ I hq) fun u s1 ⟨x, H1, I1, rx, d, ex, kvs, hd, q⟩ => ?_)
  subst ex
  obtain rfl : u = Value.ref d := rx
  obtain ⟨hs0, hz, o, es, ep, hgd, hx, hdt, hsz, ent⟩ := dt2 I1 hd
  have raw : DT.Raw s1.heap d es ep := ⟨_, hgd, hx, hdt⟩
  have I2 : Inv X pins σ H1 { s1 with heap := s1.heap.push { cls := .type "dict_items", data := .fields #[.ref d] } } := I1.kept (t' := s1.toks) fun b ob q => Heap.get?_push_of_some _ q
  refine ⟨raw.typeIs, fun b e => by cases e; exact ⟨_, hgd, hx.2.1⟩, ?_⟩
  show wpAny _ _ (callWith cpos (.builtin "dict.items") [.ref d] [] []) _ X.xe s1
  refine method_meetsIn F.slot_dict_items F.entry_dict_items rfl (PySem.evalArgs_none ⟨rfl, raw.typeIs, F.args_dict_items_1 _, _, DT.meetsItems hs0, ⟨raw, ?_⟩⟩)
  refine Calls.spliced_nil ?_
  refine PySem.W.dil_call (es := es) (ep := ep) (I1.ok.hd hc) ⟨_, Heap.get?_push_size _ rfl, rfl, rfl⟩ (show Heap.DictRaw _ d es ep from raw.push _) (by omega) fun h' tk acc c as hk hS hl hG hacc => ?_
  obtain ⟨H', bs, k1, k2, k3, k4, k5, k6, k7, k8, k9, J⟩ := items_laidT (tk := tk) I2 hz hsz ent hk hS hl hG hacc
  exact ⟨.ref _, H', J, rfl, q H' _ as bs k1 k2 k3 k4 k5 k6 k7 (by omega) k8 k9⟩
end
section
variable {σ : L2.St} {G P H : Hp} {Q : VK} {d : Addr} {te : TE}
def aItemsT : V → Hp → VK → Prop := fun x H Q => ∃ d, x = .ref d ∧ rItemsT H d Q
theorem w_listItemsT (h : te σ H fun x H1 => aItemsT x H1 Q) : tListItemsT te σ H Q := h
theorem aItemsT.go {kvs : List (List Int × V)} (J : Join G P H) (nt : NT P) (h : P d = some (.dT (tK kvs)))
    (q : ∀ p us G' H', H p = none → Ex G G' → Join G' P H' → G' p = some (.lst us) → us.length = kvs.length → (∀ (i : Nat) (k : List Int) (v : V), kvs[i]? = some (k, v) → ∃ b t : Addr, us[i]? = some (.ref t) ∧ G' b = some (.tup (k.map V.int)) ∧ G' t = some (.tup [.ref b, v])) → Q (.ref p) H') : aItemsT (.ref d) H Q := by
  refine ⟨d, rfl, tK kvs, J.p _ _ h, fun H' p ts bs k1 k2 k3 k4 k5 k6 k7 k8 k9 k10 => ?_⟩
  have old : ∀ b o, H b = some o → b ≠ p ∧ b ∉ ts := fun b o e => ⟨fun z => (by rw [z, k3] at e; cases e), fun z => by rw [k4 b z] at e; cases e⟩
  obtain ⟨G', hG⟩ : ∃ G' : Hp, G' = fun a => if a = p ∨ a ∈ ts then H' a else G a := ⟨_, rfl⟩
  have gn : ∀ a, (a = p ∨ a ∈ ts) → G' a = H' a := fun a z => by rw [hG]; exact if_pos z
  have go : ∀ a, ¬ (a = p ∨ a ∈ ts) → G' a = G a := fun a z => by rw [hG]; exact if_neg z
  have exG : Ex G G' := fun b o e => by
    obtain ⟨z1, z2⟩ := old b o (J.g _ _ e)
    rw [go b (fun z => z.elim z1 z2)]; exact e
  have J' : Join G' P H' := by
    refine ⟨fun b o e => ?_, fun b o e => ?_, fun b o e => k1 _ _ (J.p _ _ e), fun b e1 e2 e3 => ?_, J.tab.ext k1, fun b e => ?_, J.pp⟩
    · obtain ⟨z1, z2⟩ := old b o (J.p _ _ e)
      rw [go b (fun z => z.elim z1 z2)]; exact J.ap b o e
    · by_cases z : b = p ∨ b ∈ ts
      · rw [gn b z] at e; exact e
      · rw [go b z] at e; exact k1 _ _ (J.g _ _ e)
    · by_cases z : b = p ∨ b ∈ ts
      · rw [gn b z] at e1; exact e1
      · rw [go b z] at e1
        exact k2 b (J.no b e1 e2 e3) (fun y => z (.inl y)) fun y => z (.inr y)
    · obtain ⟨ps0, hps⟩ := tabI_at J.tab e
      obtain ⟨z1, z2⟩ := old b _ hps
      exact ⟨by rw [go b (fun z => z.elim z1 z2)]; exact (J.off b e).1, (J.off b e).2⟩
  refine q p _ G' H' k3 exG J' (by rw [gn p (.inl rfl)]; exact k7) (by rw [List.length_map, k8, tK_len]) fun i k v hi => ?_
  have hi2 : (tK kvs)[i]? = some (k.map Sum.inl, v) := by unfold tK; rw [List.getElem?_map, hi]; rfl
  obtain ⟨b, t, g1, g2, g3, g4⟩ := k10 i _ v hi2
  refine ⟨b, t, by rw [List.getElem?_map, g2]; rfl, exG _ _ (nt.gt J (by rw [g3, tup_kV])), by rw [gn t (.inr (List.mem_of_getElem? g2))]; exact g4⟩
end
/-- a call of a def that a name holds -/
theorem w_callL {σ : L2.St} {H : Hp} {Q : VK} {i : Nat} {f : Addr} {sp : Sp} {dvs : List V} {E : XK} {t : TA} (h : σ[i]? = some (some (.ref f)) ∧ t σ H fun vs H1 => sp (vs ++ dvs) H1 Q E) : tCallL i f sp dvs E t σ H Q := h
end Lv

namespace Lv
open PySem PySem.Spec PyProof.Rows L2
variable [TabA]
/-! {t: .. for t in d}: d has tuples of ints as keys -/
theorem zipK_put {ks : List (List Int)} {us : List V} {n : List Int} {v : V} (hl : us.length = ks.length) (hn : n ∉ ks) : putK (ks.zip us) n v = (ks ++ [n]).zip (us ++ [v]) := by
  have h : ∀ x ∈ ks.zip us, x.1 ≠ n := fun x hx e => hn (by rw [← e]; exact (List.of_mem_zip (b := x.2) hx).1)
  rw [putK_keyv h, List.zip_append hl.symm]; rfl
section
variable {σ : L2.St} {G P H : Hp} {Q : VK} {td tk tv : TE} {g : TG} {tt : TT} {ts : List Nat} {d : Addr}
theorem dcKT.go {kvs : List (List Int × V)} (I : Nat → List V → Hp → Prop) (J : Join G P H) (nt : NT P) (h : P d = some (.dT (tK kvs))) (htd : ∀ (H' : Hp) (Q : VK), Q (.ref d) H' → td σ H' Q) (hn : (kvs.map (·.1)).Nodup) (hl : kvs.length ≤ 90000)
    (h0 : I 0 [] G) (hm : ∀ i us G1 G2, Ex G1 G2 → I i us G1 → I i us G2)
    (hs : ∀ (od : Obj) (i : Nat) (k : List Int) (v : V) (b : Addr) (us : List V) (G' P' H' : Hp) (S : V → V → Hp → Prop) (R0 : Hp → Prop), kvs[i]? = some (k, v) → G' b = some (.tup (k.map V.int)) → Ex G G' → P' d = some (.frz od (.dT (tK kvs))) → Join G' P' H' → I i us G' →
      (∀ y G2 H2, Ex G' G2 → Join G2 P' H2 → I (i + 1) (us ++ [y]) G2 → S (.ref b) y H2) →
      g (.ref b) (wipe σ ts) H' fun σ2 H2 => wipe σ2 ts = wipe σ ts ∧ tt σ2 H2 fun c H3 => if c = true then tk σ2 H3 fun y H4 => tv σ2 H4 fun z H5 => S y z H5 else R0 H3)
    (hq : ∀ D us G' P' H', H D = none → Ex G G' → Ex P P' → NT P' → Join G' P' H' → P' D = some (.dT (tK ((kvs.map (·.1)).zip us))) → us.length = kvs.length → I kvs.length us G' → Q (.ref D) H') : tLockE (tDcG (.dT []) (iKeys td) g tt tk tv ts) σ H Q := by
  refine ⟨d, .dT (tK kvs), J.p _ _ h, trivial, fun od => htd _ _ ⟨d, od, rfl, .inr ⟨tK kvs, upd_same, fun D hD => ?_⟩⟩⟩
  have nD : D ≠ d := fun e => by rw [e, upd_same] at hD; cases hD
  have hD0 : H D = none := by rw [upd_ne nD] at hD; exact hD
  have gD : G D = none := J.ng hD0
  have pD : P D = none := J.np hD0
  have j1 : Join G (upd P d (.frz od (.dT (tK kvs)))) (upd H d (.frz od (.dT (tK kvs)))) := J.setPo h
  have n1 : NT (upd P d (.frz od (.dT (tK kvs)))) := nt.upd fun _ e => nomatch e
  refine ⟨fun i m H' => m = kvs.length - i ∧ i ≤ kvs.length ∧ ∃ G' P' us, Ex G G' ∧ (∀ c o, c ≠ d → P c = some o → P' c = some o) ∧ P' d = some (.frz od (.dT (tK kvs))) ∧ NT P' ∧ P' D = some (.dT (tK (((kvs.map (·.1)).take i).zip us))) ∧ us.length = i ∧ I i us G' ∧ Join G' P' H', ⟨kvs.length, by simp, Nat.zero_le _, G, upd (upd P d (.frz od (.dT (tK kvs)))) D (.dT []), [], Ex.refl _, fun c o nc hc => ?_, Eq.trans (upd_ne (Ne.symm nD)) upd_same, n1.upd fun _ e => (nomatch e), upd_same, rfl, h0, j1.setP gD⟩, ?_⟩
  · rw [upd_ne (ne_of_none hc pD), upd_ne nc]; exact hc
  rintro i m H' ⟨rfl, hi, G', P', us, e', hP, hd, nt', hDs, hul, hI, j'⟩
  by_cases hlt : i < kvs.length
  · refine .inr ⟨⟨j'.p _ _ hd, by rw [tK_len]; exact hlt⟩, fun H2 => ∃ G' P' us, Ex G G' ∧ (∀ c o, c ≠ d → P c = some o → P' c = some o) ∧ P' d = some (.frz od (.dT (tK kvs))) ∧ NT P' ∧ P' D = some (.dT (tK (((kvs.map (·.1)).take (i + 1)).zip us))) ∧ us.length = i + 1 ∧ I (i + 1) us G' ∧ Join G' P' H2, fun H2 p => ⟨kvs.length - (i + 1), by omega, rfl, by omega, p⟩, fun x H2 y => ?_⟩
    obtain ⟨rfl, k0, v, b, hk, rfl, hb⟩ := y
    obtain ⟨n, hnk, rfl⟩ := tK_at hk
    rw [tup_kV] at hb
    have hbG := nt'.gt j' hb
    have hki : (kvs.map (·.1))[i]? = some n := by rw [List.getElem?_map, hnk]; rfl
    have hnot : n ∉ (kvs.map (·.1)).take i := fun hm => by
      obtain ⟨q, hq⟩ := List.getElem?_of_mem hm
      have hq1 := (List.getElem?_eq_some_iff.mp hq).1
      rw [List.length_take] at hq1
      rw [List.getElem?_take_of_lt (by omega)] at hq
      obtain ⟨a1, a2⟩ := List.getElem?_eq_some_iff.mp hq
      obtain ⟨b1, b2⟩ := List.getElem?_eq_some_iff.mp hki
      have := (List.getElem_inj hn).mp (a2.trans b2.symm)
      omega
    refine (hs od i n v b us G' P' _ (fun y z H5 => ∃ H6, DPut H5 D y z H6 ∧ ∃ G' P' us, Ex G G' ∧ (∀ c o, c ≠ d → P c = some o → P' c = some o) ∧ P' d = some (.frz od (.dT (tK kvs))) ∧ NT P' ∧ P' D = some (.dT (tK (((kvs.map (·.1)).take (i + 1)).zip us))) ∧ us.length = i + 1 ∧ I (i + 1) us G' ∧ Join G' P' H6) _ hnk hbG e' hd j' hI fun y G2 H2 e2 j2 hI2 => ?_)
    refine ⟨_, DPut.t (k := n.map Sum.inl) (j2.p _ _ hDs) (by rw [tup_kV]; exact j2.g _ _ (e2 _ _ hbG)) (szlt ?_), G2, _, us ++ [y], e'.trans e2, fun c o nc hc => ?_, Eq.trans (upd_ne (Ne.symm nD)) hd, nt'.upd fun _ e => (by cases e), ?_, by rw [List.length_append, hul]; rfl, hI2, j2.setPo hDs⟩
    · rw [tK_len, List.length_zip, List.length_take, hul]; omega
    · rw [upd_ne (ne_of_none hc pD)]; exact hP c o nc hc
    · rw [upd_same, tK_put, take_more hki, zipK_put (by rw [List.length_take, List.length_map, hul]; omega) hnot]
  · have ei : i = kvs.length := by omega
    subst ei
    have j3 : Join G' (upd P' d (.dT (tK kvs))) (upd H' d (.dT (tK kvs))) := j'.setPo hd
    refine .inl ⟨⟨j'.p _ _ hd, by rw [tK_len]; exact Nat.le_refl _⟩, j'.p _ _ hd, hq D us G' _ _ hD0 e' (fun c o hc => ?_) (nt'.upd fun _ e => (by cases e)) j3 ?_ hul hI⟩
    · by_cases z : c = d
      · subst z; rw [upd_same, ← h]; exact hc
      · rw [upd_ne z]; exact hP c o z hc
    · rw [upd_ne nD, hDs, List.take_of_length_le (by rw [List.length_map]; exact Nat.le_refl _)]
end
end Lv

namespace Lv
open PySem PySem.Spec PyProof.Rows L2
variable [TabA]
/-! sorted(d) of a dict with int keys, any number of them; [.. for v in d.values()] -/
def rSortDB : List V → Hp → VK → Prop := fun xs H Q => ∃ (a : Addr) (kvs : List (L2.Key × V)) (ks : List Int), xs = [.ref a] ∧ Rd H a (.dK kvs) ∧ kvs.map (·.1) = ks.map Sum.inl ∧ ks.length ≤ 1000000 ∧
    ∀ (ys : List Int) (p : Addr), ys.Perm ks → ys.Pairwise (· ≤ ·) → H p = none → Q (.ref p) (upd H p (.lst (ys.map V.int)))
theorem cr_sortDB {X : Cx} (hcalm : X.calm = true) : CallR X (.builtin "sorted") rSortDB := by
  intro pins s σ H xs us Q I r q
  obtain ⟨a, kvs, ks, ex, hd, hks, hB, q⟩ := q
  subst ex
  obtain ⟨u, eu, rx⟩ := vals1 r
  subst eu
  cases rx
  obtain ⟨z, lo, vs, rel, dd⟩ := dk_rd I.hok hd
  obtain ⟨ep, hat⟩ := dd.dictAt
  have hkeys : vs.map (·.1) = ks.map Sum.inl := rel.keys.symm.trans hks
  have hl : vs.length = ks.length := by
    have e := congrArg List.length hkeys
    rw [List.length_map, List.length_map] at e
    exact e
  have h16 : vs.length ≤ sizeLine := by rw [hl, sizeLine_eq]; omega
  refine Calls.call_function_entry PyProof.Rows.kind_sorted PyProof.Rows.plain_sorted PyProof.Rows.entry_sorted (PyProof.Rows.args_sorted1 _) ?_
  unfold Builtin.«sorted»
  refine wpAny_bind (m := checkCount "sorted" 1 1 _) (wpAny_pure ?_)
  refine wpAny_bind (PySem.W.kdu_collect (A := X.A.in1) (PySem.W.kdl_dict (knd := mixKind X.prog X.w) (kvs := vs) (ep := ep) lo) (I.ok.hd hcalm) hat h16 fun h' tk acc hk hacc => ?_)
  have hal : acc.toList.length = ks.length := by rw [Array.length_toList, hacc.1, hl]
  have hS : IntsAre acc.toList ks := ints_each hal fun j v e => by
    obtain ⟨k, x, e1, e2⟩ := hacc.2 j v (by rw [← Array.getElem?_toList]; exact e)
    have e3 : (vs.map (·.1))[j]? = some k := by rw [List.getElem?_map, e1]; rfl
    rw [hkeys, List.getElem?_map] at e3
    cases e4 : ks[j]? with
    | none => rw [e4] at e3; cases e3
    | some y =>
      rw [e4] at e3
      have e5 : Sum.inl y = k := Option.some.inj e3
      subst e5
      rcases keyIs_shape (show keyIs (Sum.inl y) v = true from e2) with ⟨i, t, ek, ev⟩ | ⟨z, t, ek, ev⟩
      · cases ek
        exact ⟨y, t, rfl, ev⟩
      · cases ek
  have I1 : Inv X pins σ H { s with heap := h', toks := tk } := I.kept hk
  have hal2 : acc.toList.length ≤ sizeLine := by rw [hal, sizeLine_eq]; omega
  refine wpAny_bind (wpAny_newList ?_ hal2)
  have hoL : (h'.push (seqObj "list" acc.toList.toArray 0)).get? h'.objs.size = some (seqObj "list" acc.toList.toArray 0) := Heap.get?_push_size _ rfl
  show wpAny _ _ _ _ _ { s with heap := h'.push (seqObj "list" acc.toList.toArray 0), toks := tk }
  refine wpAny_bind (wpAny_holding (wpAny_call_entry PyProof.Rows.slot_list_sort ⟨_, hoL, rfl⟩ PyProof.Rows.entry_list_sort
    (SrtO.list_sort_ord (s := { s with heap := h'.push (seqObj "list" acc.toList.toArray 0), toks := tk }) SrtO.swo_int hoL hal2 (fun h2 => SrtO.ints_sortable hS h2) fun out g1 g2 => ⟨_, rfl, ?_⟩) (PyProof.Rows.args_list_sort _)))
  obtain ⟨k1, k2, k3⟩ := SrtO.ints_out hS g1 g2
  obtain ⟨e', he'⟩ := PyProof.Rows.sortedHeap_at (vs := acc.toList) (out := out.toArray) hoL
  have hlen : ((out.map SrtO.iv).map V.int).length ≤ sizeLine := by
    rw [List.length_map, k2.length_eq, sizeLine_eq]; omega
  refine wpAny_pure ⟨_, rfl, .ref h'.objs.size, upd H h'.objs.size (.lst ((out.map SrtO.iv).map V.int)), I1.laid (t' := tk) (fun b u e => ?_) (Nat.le_refl _)
    (show ObjOk X.prog X.w _ _ _ (.lst ((out.map SrtO.iv).map V.int)) from ⟨hlen, out, e', vals_of_ints k1, he'⟩), rfl, q _ _ k2 k3 (I1.hok.fresh (Nat.le_refl _))⟩
  have hb : b < h'.objs.size := Heap.lt_size e
  rw [PyProof.Rows.sortedHeap_old (Nat.ne_of_lt hb) (by rw [size_push']; exact Nat.lt_succ_of_lt hb)]
  exact Heap.get?_push_of_some _ e
section
variable {σ : L2.St} {G P H : Hp} {Q : VK} {td : TE} {tt : TT} {te : TE} {g : TG} {d : Addr} {ts : List Nat}
theorem sortDB_go {kvs : List (L2.Key × V)} {ns : List Int} (J : Join G P H) (h : Rd H d (.dK kvs)) (hk : kvs.map (·.1) = ns.map Sum.inl) (hl : ns.length ≤ 1000000) (q : ∀ (ns' : List Int) p G' H', ns'.Perm ns → ns'.Pairwise (· ≤ ·) → H p = none → Ex G G' → Join G' P H' → G' p = some (.lst (ns'.map V.int)) → Q (.ref p) H') : rSortDB [.ref d] H Q :=
  ⟨d, kvs, ns, rfl, h, hk, hl, fun ys p h1 h2 hp => q ys p _ _ h1 h2 hp (Ex.new (J.ng hp)) (J.newG hp) upd_same⟩
/-- [.. for v in d.values() ..]: d stands in the second part, locked -/
theorem lcVP.go {kvs : List (L2.Key × V)} (I : Nat → List V → Hp → Prop) (J : Join G P H) (h : P d = some (.dK kvs)) (htd : ∀ (H' : Hp) (Q : VK), Q (.ref d) H' → td σ H' Q) (hl : kvs.length ≤ 1000000)
    (h0 : I 0 [] G) (hm : ∀ i us G1 G2, Ex G1 G2 → I i us G1 → I i us G2) (hz : ∀ i us G2, I i us G2 → us.length ≤ i)
    (hs : ∀ (od : Obj) (i : Nat) (k : L2.Key) (v : V) (us : List V) (G' P' H' : Hp) (R : VK) (R0 : Hp → Prop), kvs[i]? = some (k, v) → Ex G G' → (∀ c o, c ≠ d → P c = some o → P' c = some o) → P' d = some (.frz od (.dK kvs)) → Join G' P' H' → I i us G' →
      (∀ y G2 H2, Ex G' G2 → Join G2 P' H2 → I (i + 1) (us ++ [y]) G2 → R y H2) → (∀ G2 H2, Ex G' G2 → Join G2 P' H2 → I (i + 1) us G2 → R0 H2) →
      g v (wipe σ ts) H' fun σ2 H2 => wipe σ2 ts = wipe σ ts ∧ tt σ2 H2 fun b H3 => if b = true then te σ2 H3 R else R0 H3)
    (hq : ∀ p us G' H', H p = none → Ex G G' → Join G' P H' → G' p = some (.lst us) → I kvs.length us G' → Q (.ref p) H') : tLockE (tLc (iVals td) g tt te ts) σ H Q := by
  refine ⟨d, .dK kvs, J.p _ _ h, trivial, fun od => htd _ _ ⟨d, od, kvs, rfl, upd_same, fun L hL => ?_⟩⟩
  have nL : L ≠ d := fun e => by rw [e, upd_same] at hL; cases hL
  have hL0 : H L = none := by rw [upd_ne nL] at hL; exact hL
  have gL : G L = none := J.ng hL0
  have pL : P L = none := J.np hL0
  have j1 : Join G (upd P d (.frz od (.dK kvs))) (upd H d (.frz od (.dK kvs))) := J.setPo h
  refine ⟨fun i m H' => m = kvs.length - i ∧ i ≤ kvs.length ∧ ∃ G' P' us, Ex G G' ∧ (∀ c o, c ≠ d → P c = some o → P' c = some o) ∧ P' d = some (.frz od (.dK kvs)) ∧ P' L = some (.lst us) ∧ I i us G' ∧ Join G' P' H', ⟨kvs.length, by simp, Nat.zero_le _, G, upd (upd P d (.frz od (.dK kvs))) L (.lst []), [], Ex.refl _, fun c o nc hc => ?_, Eq.trans (upd_ne (Ne.symm nL)) upd_same, upd_same, h0, j1.setP gL⟩, ?_⟩
  · rw [upd_ne (ne_of_none hc pL), upd_ne nc]; exact hc
  rintro i m H' ⟨rfl, hi, G', P', us, e', hP, hd, hLs, hI, j'⟩
  by_cases c : i < kvs.length
  · refine .inr ⟨⟨j'.p _ _ hd, c⟩, fun H2 => ∃ G' P' us, Ex G G' ∧ (∀ c o, c ≠ d → P c = some o → P' c = some o) ∧ P' d = some (.frz od (.dK kvs)) ∧ P' L = some (.lst us) ∧ I (i + 1) us G' ∧ Join G' P' H2, fun H2 p => ⟨kvs.length - (i + 1), by omega, rfl, by omega, p⟩, fun x H2 y => ?_⟩
    obtain ⟨rfl, k, hk⟩ := y
    have hul := hz _ _ _ hI
    refine hs od i k x us G' P' _ _ _ hk e' hP hd j' hI (fun y G2 H2 e2 j2 hI2 => ⟨us, j2.p _ _ hLs, Nat.lt_of_le_of_lt (show us.length ≤ 1000000 by omega) (by decide), G2, upd P' L (.lst (us ++ [y])), us ++ [y], e'.trans e2, fun c o nc hc => ?_, Eq.trans (upd_ne (Ne.symm nL)) hd, upd_same, hI2, j2.setPo hLs⟩) (fun G2 H2 e2 j2 hI2 => ⟨G2, P', us, e'.trans e2, hP, hd, hLs, hI2, j2⟩)
    rw [upd_ne (ne_of_none hc pL)]; exact hP c o nc hc
  · have e : i = kvs.length := by omega
    subst e
    have j3 : Join G' (upd P' d (.dK kvs)) (upd H' d (.dK kvs)) := j'.setPo hd
    obtain ⟨G2, j4, e4, k4⟩ := j3.back (P := P) fun c o hc => by
      by_cases z : c = d
      · subst z; rw [upd_same, ← h]; exact hc
      · rw [upd_ne z]; exact hP c o z hc
    exact .inl ⟨⟨j'.p _ _ hd, Nat.le_refl _⟩, j'.p _ _ hd, hq L us G2 _ hL0 (e'.trans e4) j4 (k4 L _ (Eq.trans (upd_ne nL) hLs) pL) (hm _ _ _ _ e4 hI)⟩
end
end Lv

/-! closures: a def within a def that captures names of its maker, called there and handed to another def -/
namespace Lv
open PySem PySem.Spec PyProof.Rows L2 LamX NdefX
variable [TabA]
def tabN : List NTab := TabA.T.map fun q => (q.1, fun _ _ => q.2)
theorem tabN_of {H : Hp} (t : LamX.Tabs TabA.T H) : TabsN tabN H := fun p hp => by
  obtain ⟨q, hq, rfl⟩ := List.mem_map.mp hp
  exact NdefX.TabN.of (t q hq)
theorem tabN_to {H : Hp} (t : TabsN tabN H) : LamX.Tabs TabA.T H := fun q hq => NdefX.TabN.to (t (q.1, fun _ _ => q.2) (List.mem_map.mpr ⟨q, hq, rfl⟩))
/-- the tables, empty as a law begins -/
theorem tabs_nil {K : PySem.W.Frag} {tf : List He.Defn} {H : Hp} (e : TabA.T.map (·.1) = tf.map fun p => (He.cT K p).2) (h : ∀ p ∈ tf.map (He.cT K), H p.2 = some (.tbl #[])) : LamX.Tabs TabA.T H := fun q hq => by
  have h1 : q.1 ∈ tf.map fun p => (He.cT K p).2 := by rw [← e]; exact List.mem_map.mpr ⟨q, hq, rfl⟩
  obtain ⟨p, hp, e1⟩ := List.mem_map.mp h1
  refine LamX.TabS.nil ?_
  rw [← e1]
  exact h _ (List.mem_map.mpr ⟨p, hp, rfl⟩)
/-- the reading of a nested def: only the table at P changes -/
def tDefP (T : List NTab) (P : Addr) (i : Nat) (mk : Addr → NF) : TS := fun D σ H => TabsN T H ∧ ∀ (f c' : Addr) (H1 : Hp), (∀ b o, H b = some o → b ≠ P → H1 b = some o) → (∀ b, H1 b = Option.none → H b = Option.none) → TabsN T H1 → H f = none → H1 f = some (FnO f (mk c')) → H1 c' = some (CodeO c' (mk c').qual) → D.nx (σ.set i (some (.ref f))) H1
section
variable {X : Cx} {pins : List (Addr × Obj)} {σ : L2.St} {H : Hp} {s : Shared}
theorem def_make {T : List NTab} {nm : Nat → Nat → Str} {c P : Addr} {name : Str} {params : Arguments} {body : List Stmt} {scope : Scope} {pos : Pos} {E : Value → Shared → Prop} {Q : Value → Shared → Prop} (I : Inv X pins σ H s) (TB : TabB X.base X.mg c P) (hcode : X.env.code = .ref c)
    (hm : (P, nm) ∈ T) (hn : nm pos.line pos.col = X.env.qual ++ name) (hu : ∀ p ∈ T, p.1 = P → p.2 = nm) (hT : TabsN T H) (hfree : ∀ y ∈ scope.names, y.2 = .free → ∃ c, X.env.cells.lookup y.1 = some c)
    (h : ∀ (f c' : Addr) (H1 : Hp) (s' : Shared), Inv X pins σ H1 s' → (∀ b o, H b = some o → b ≠ P → H1 b = some o) → (∀ b, H1 b = Option.none → H b = Option.none) → TabsN T H1 → H f = none → H1 f = some (FnO f ⟨name, X.env.qual ++ name, params, body, scope, cloFrom X.env.cells scope.names [], c'⟩) → H1 c' = some (CodeO c' (X.env.qual ++ name)) → Q (.ref f) s') :
    wpAny (model X.prog X.w) X.A (makeFunction name (X.env.qual ++ name) params (.stmts body) scope X.env [] [] [] pos pos.line) Q E s := by
  obtain ⟨ps, hP, ht, ha⟩ := (show TabN H P nm from hT _ hm)
  have bP : s.heap.BuiltinsAt X.mg P := TB.bm.keeps I.bk
  have hP' : s.heap.get? P = some { cls := .none, data := .fields ps } := I.hok P _ hP
  cases hc : codeAmong pos ps.toList with
  | none =>
    refine PySem.W.makeFunction_K (mg := X.mg) (c := c) (P := P) (ps := ps) (closure_ok hfree) I.ok.glob (I.mod.glob.keeps I.bk) hcode (TB.code.keeps I.bk) hP' ht hc TB.gP bP fun c' ctv doc h' tk hx hge hlt hrec htb => ?_
    obtain ⟨c2, oc, vs, t, e2, hoc, hd, hv⟩ := hrec
    cases e2
    have nC : H c' = none := I.hok.fresh hge
    have I1 := inv_table (t' := tk) (more := #[rawInt pos.line, rawInt pos.col, .ref c']) (h' := h') I hP (fun b o hb e => hx b o hb e) htb hge ⟨oc, vs, t, hoc, hd, hv⟩
    have hE : ∀ b o, H b = some o → b ≠ P → upd (upd H P (.tbl (ps ++ #[rawInt pos.line, rawInt pos.col, .ref c']))) c' (CodeO c' (X.env.qual ++ name)) b = some o := fun b o e n => by
      rw [upd_ne (ne_of_none e nC), upd_ne n]
      exact e
    have cP : ∀ {c0 : Addr} {q : Str}, H c0 = some (CodeO c0 q) → c0 ≠ P := fun {c0 q} e z => by
      rw [z, hP] at e
      exact codeO_ne ps (Option.some.inj e).symm
    have eL : (ps ++ #[rawInt pos.line, rawInt pos.col, .ref c']).toList = ps.toList ++ [rawInt pos.line, rawInt pos.col, .ref c'] := by simp
    have T1 : TabsN T (upd (upd H P (.tbl (ps ++ #[rawInt pos.line, rawInt pos.col, .ref c']))) c' (CodeO c' (X.env.qual ++ name))) := fun p hp => by
      by_cases hb : p.1 = P
      · rw [hu p hp hb, hb]
        refine ⟨_, by rw [upd_ne (ne_of_none hP nC), upd_same], by rw [eL]; exact PySem.TriplesOk_snoc _ _ _ _ ht, fun p' cv hcv => ?_⟩
        rw [eL] at hcv
        rcases among_app2 _ ht hcv with z | ⟨z, z1, z2⟩
        · obtain ⟨c0, e1, e2⟩ := ha p' cv z
          exact ⟨c0, e1, hE _ _ e2 (cP e2)⟩
        · refine ⟨c', z, ?_⟩
          rw [← z1, ← z2, hn]
          exact upd_same
      · obtain ⟨ps', a1, a2, a3⟩ := hT p hp
        refine ⟨ps', by rw [upd_ne (ne_of_none a1 nC), upd_ne hb]; exact a1, a2, fun p' cv hcv => ?_⟩
        obtain ⟨c0, e1, e2⟩ := a3 p' cv hcv
        exact ⟨c0, e1, hE _ _ e2 (cP e2)⟩
    have nF := I1.hok.fresh (Nat.le_refl _)
    have I2 := inv_fn (F := ⟨name, X.env.qual ++ name, params, body, scope, cloFrom X.env.cells scope.names [], c'⟩) (t' := tk) (doc := doc) (pm := (X.mg "__name__").getD .none) (ctv := ctv) I1 rfl
    refine h h'.objs.size c' _ _ I2 (fun b o e n => ?_) (fun b e => upd_none (upd_none (upd_none e))) (T1.ext fun b o e => ?_) (I.hok.fresh (Nat.le_trans hge (Nat.le_of_lt hlt))) upd_same ?_
    · have e1 := hE b o e n
      exact (upd_ne (ne_of_none e1 nF)).trans e1
    · exact (upd_ne (ne_of_none e nF)).trans e
    · exact (upd_ne (Nat.ne_of_lt hlt)).trans upd_same
  | some cv =>
    obtain ⟨c', e, hco⟩ := ha pos cv hc
    subst e
    rw [hn] at hco
    refine PySem.W.makeFunction_hit (mg := X.mg) (c := c) (P := P) (ps := ps) (closure_ok hfree) I.ok.glob (I.mod.glob.keeps I.bk) hcode (TB.code.keeps I.bk) hP' ht hc bP fun ctv doc h' tk hx hsz => ?_
    have I1 : Inv X pins σ H { s with heap := h', toks := tk } := I.kept hx
    have nF : H h'.objs.size = none := I1.hok.fresh (Nat.le_refl _)
    have I2 := inv_fn (F := ⟨name, X.env.qual ++ name, params, body, scope, cloFrom X.env.cells scope.names [], c'⟩) (t' := tk) (doc := doc) (pm := (X.mg "__name__").getD .none) (ctv := ctv) I1 rfl
    refine h h'.objs.size c' _ _ I2 (fun b o e n => ?_) (fun b e => upd_none e) (hT.ext fun b o e => ?_) nF upd_same ?_
    · exact (upd_ne (ne_of_none e nF)).trans e
    · exact (upd_ne (ne_of_none e nF)).trans e
    · exact (upd_ne (ne_of_none hco nF)).trans hco
end
section
variable {X : Cx}
/-- the statement; q: the qualified name that the table's code objects have -/
theorem ps_def {st : Stmt} {q : Str} {c P : Addr} {name : Str} {pos : Pos} {i : Nat} (hst : st = .FunctionDef name (C8.fnArgs st) (C8.fnBody st) [] none [] (C8.fnScope st) none name pos) (TB : TabB X.base X.mg c P) (hcode : X.env.code = .ref c) (hm : (P, q) ∈ TabA.T) (hn : q = X.env.qual ++ name)
    (hu : ∀ p ∈ TabA.T, p.1 = P → p.2 = q) (hfree : ∀ y ∈ (C8.fnScope st).names, y.2 = .free → X.env.scope.names.lookup y.1 = some .cell ∨ X.env.scope.names.lookup y.1 = some .free) (hd0 : (C8.fnArgs st).defaults = []) (hk0 : (C8.fnArgs st).kw_defaults = []) (ha : annTrees (C8.fnArgs st) none X.env = [])
    (hN : X.N.Nodup) (hi : X.N[i]? = some name) (hx : Loc X.env.scope name) (hf : X.fn name = true ∨ X.env.scope.names.lookup name = some .local) :
    PS X st (tDefP tabN P i (NF.of st name (X.env.qual ++ name) (cloFrom X.env.cells (C8.fnScope st).names []))) := by
  rw [hst]
  have hm' : (P, fun _ _ => q) ∈ tabN := List.mem_map.mpr ⟨(P, q), hm, rfl⟩
  have hu' : ∀ p ∈ tabN, p.1 = P → p.2 = fun _ _ => q := fun p hp e => by
    obtain ⟨z, hz, rfl⟩ := List.mem_map.mp hp
    show (fun _ _ => z.2) = fun _ _ => q
    rw [hu z hz e]
  refine ⟨fun pins s σ H D I h => ?_⟩
  obtain ⟨hT, h⟩ := h
  have hq : qualnameIn X.env name name = X.env.qual ++ name := by
    have hk : X.env.kindOf name = some .local ∨ X.env.kindOf name = some .cell := hx
    unfold qualnameIn
    rcases hk with k | k <;> rw [k] <;> first | rfl | exact if_neg (by decide)
  refine PySem.W.nestDef_K hd0 hk0 ha ?_
  rw [hq]
  have hfr : ∀ y ∈ (C8.fnScope st).names, y.2 = .free → ∃ c, X.env.cells.lookup y.1 = some c := fun y hy e => (hfree y hy e).elim (fun z => I.ok.has _ (.inl z)) fun z => I.ok.has _ (.inr z)
  refine def_make I TB hcode hm' hn hu' hT hfr fun f c' H1 s' I1 eN nn T1 f0 f1 c1 => ?_
  refine store_ok I1 hN hi hx (v := .ref f) rfl (fun s'' J => ⟨_, H1, J, h f c' H1 eN nn T1 f0 ?_ ?_⟩) hf
  · rw [← hst]; exact f1
  · rw [← hst]; exact c1
end
/-- the walk's step at a nested def -/
theorem def_go {P0 : Addr} {q : Str} {G P H : Hp} {D : _} {σ : L2.St} {i : Nat} {mk : Addr → NF} (j : Join G P H) (hm : (P0, q) ∈ TabA.T)
    (h : ∀ (f c' : Addr) (G' H' : Hp), Ex G G' → Join G' P H' → G f = none → G' f = some (FnO f (mk c')) → G' c' = some (CodeO c' (mk c').qual) → D.nx (σ.set i (some (.ref f))) H') : tDefP tabN P0 i mk D σ H := by
  have ht : tabI P0 = true := tabI_mem (q := (P0, q)) hm
  refine ⟨tabN_of j.tab, fun f c' H1 e1 e2 T1 f0 f1 c1 => ?_⟩
  have e3 : ∀ b o, H b = some o → tabI b = false → H1 b = some o := fun b o h n => e1 b o h (fun z => by rw [z, ht] at n; cases n)
  have pn : ∀ {b : Addr} {r : Heap → Prop}, H1 b = some (.ext r) → P b = none := fun {b r} hb => by
    cases e : P b with
    | none => rfl
    | some u =>
      have h1 := e3 b u (j.p b u e) (j.npt e)
      rw [hb] at h1
      have h2 := j.pp b u e
      rw [← Option.some.inj h1] at h2
      cases h2
  have tn : tabI c' = false := by
    cases e : tabI c' with
    | false => rfl
    | true =>
      obtain ⟨ps, q⟩ := tabI_at (tabN_to T1) e
      rw [c1] at q
      exact absurd (Option.some.inj q) (codeO_ne ps)
  exact h f c' (grG P H1) H1 (j.growNEx e3) (j.growN e3 (tabN_to T1)) (j.ng f0) (grG_some.mpr ⟨j.np f0, j.mt (.new f0), f1⟩) (grG_some.mpr ⟨pn c1, tn, c1⟩)
/-! ### a def's promise that leans on a function of the caller's -/
abbrev Pre := List Env → Shared → Hp → Prop
/-- the captured cells of a function of a caller's, as the callee's frame begins -/
structure CloAt (fr : List Str) (ws : List (Option V)) (F : NF) (outer : List Env) (s : Shared) (H : Hp) : Prop where
  cells : CellsAt F.cl fr ws s.heap H
  off : ∀ y c, F.cl.lookup y = some c → c ∉ frs outer
structure FnOkP (P : Program) (w : World) (K : PySem.W.Frag) (mg : Str → Option Value) (base : Heap) (CX : CXT) (k : Nat) (f : Addr) (fd : FuncData) (ps : List Str) (pre : Pre) (sp : Sp) : Prop where
  len : ∀ vs H Q E, sp vs H Q E → vs.length = ps.length
  run : ∀ (A : Around) (outer : List Env) (s : Shared) (H : Hp) (args : Args) (us : List Value) (vs : List V) (Q : VK) (E : XK), Room k A → Env0 P w K mg base A outer s H → BindsTo s fd args (ps.zip us) → Vals vs us → pre outer s H → sp vs H Q E →
    codeAny (model P w) A (.call (.ref f) args) (CR CX outer P w H s Q E) s
section
variable {CX : CXT} {P : Program} {w : World} {K : PySem.W.Frag} {mg : Str → Option Value} {base : Heap} {N ps : List Str} {k : Nat} {f : Addr} {fd : FuncData} {x qual : Str} {params : Arguments} {body : List Stmt} {scope : Scope} {pre : Pre} {sp : Sp}
theorem FnOkP.plain (F : FnOkP P w K mg base CX k f fd ps (fun _ _ _ => True) sp) : FnOk P w K mg base CX k f fd ps sp := ⟨F.len, fun A outer s H args us vs Q E hr e0 hb r q => F.run A outer s H args us vs Q E hr e0 hb r True.intro q⟩
/-- THE RULE; the code object is told -/
theorem okP {at_ : He.Defn} (F : FunD K x qual params body scope [] [] (He.fAd K at_) fd) (S : FnScope N ps scope) (len : ∀ vs H Q E, sp vs H Q E → vs.length = ps.length)
    (hbody : ∀ (cdv : Value) (A : Around) (outer : List Env) (s : Shared) (H : Hp) (vs : List V) (Q : VK) (E : XK), cdv = .ref (He.codeOf K at_) → Room k (A.deeper (envOfC qual scope s.heap.objs.size (He.fAd K at_) cdv)) → pre outer s H → sp vs H Q E →
      ∃ t, PSs (cxOf CX P w K mg base N qual scope (He.fAd K at_) cdv A outer s H E) body t ∧ t { nx := fun _ H' => Q .non H', rt := Q } (start N vs) H) : FnOkP P w K mg base CX (k + 1) (He.fAd K at_) fd ps pre sp := by
  obtain ⟨oc, od, dV, kV, doc, pm, an, cdv, ct, osl, rfl, lk, hcd, _, _⟩ := F.ex
  obtain ⟨c, rfl⟩ := He.codeIn_ref hcd
  have hc : He.codeOf K at_ = c := He.codeOf_eq lk rfl
  refine ⟨len, fun A outer s H args us vs Q E hr e0 hb r hpre hsp => ?_⟩
  have hl := len _ _ _ _ hsp
  have KX : K.In s.heap := e0.mod.kin.keeps fun b o e => (e0.bs b o e).1
  have lim : s.heap.NoLimit := e0.mod.nolimit.keeps fun b o e => (e0.bs b o e).1
  have hkind : ∀ y ∈ ps.zip us, scope.names.lookup y.1 = some .local ∨ (scope.names.lookup y.1 = some .cell ∧ ((cellsFrom (s.heap.objs.size + 1) scope.names []).lookup y.1).isSome = true) := fun ⟨n, v⟩ hy => by
    rcases S.par n (List.of_mem_zip hy).1 with q | q
    · exact .inl q
    · exact .inr ⟨q, PySem.W.cellsFrom_some _ _ _ (.inl q)⟩
  refine codeAny_call_function hr.depth (KX _ _ lk) rfl S.co S.gen rfl (PySem.W.codeRec_of KX hcd) (hb _ _ _ _ ?_)
  refine wpAny_newFunctionEnv_cells S.kind hkind fun env he s1 x => ?_
  subst he
  refine ⟨lim.keeps x.toInCall.keep, codeAny_func ?_⟩
  obtain ⟨t, ht, hq⟩ := hbody (.ref c) A outer s H vs Q E (by rw [hc]) (hr.deeper _) hpre hsp
  have I : Inv (cxOf CX P w K mg base N qual scope (He.fAd K at_) (.ref c) A outer s H E) [] (start N vs) H s1 := inv_start S hr.hd e0 hl r x
  refine wpAny_mono (ht.run [] s1 (start N vs) H _ I hq) (fun fl s' hs => ?_) fun e s' hs => hs
  have fin : ∀ {σ' : L2.St} {H' : Hp} {v : V} {u : Value}, Inv (cxOf CX P w K mg base N qual scope (He.fAd K at_) (.ref c) A outer s H E) [] σ' H' s' → RelV v u → Q v H' → CE outer P w H s Q u s' :=
    fun {σ' H' v u} J rv q => ⟨v, H', J.os, J.bare, J.base, J.hok, rv, q⟩
  cases fl with
  | ret u =>
    obtain ⟨v, σ', H', J, rv, q⟩ := hs
    exact fin J rv q
  | next =>
    obtain ⟨σ', H', J, q⟩ := hs
    exact fin (v := V.non) (u := Value.none) J rfl q
  | brk =>
    obtain ⟨_, _, _, q⟩ := hs
    exact False.elim q
  | cont =>
    obtain ⟨_, _, _, q⟩ := hs
    exact False.elim q
end
section
variable {X : Cx} {CX : CXT} {pins : List (Addr × Obj)} {σ : L2.St} {H : Hp} {s : Shared} {mk : Addr → NF} {F : NF} {cl : List (Str × Addr)} {ps fr : List Str} {js : List Nat} {i j k : Nat} {f fc : Addr} {fd : FuncData} {x : Str} {pre : Pre} {sp : Sp} {ws : List (Option V)} {E : XK} {t : TA} {e : Expr} {es : List Expr} {p pos : Pos}
theorem clo_off (I : Inv X pins σ H s) (c : Caps X cl fr js) (hfn : ∀ y, X.fn y = true) : ∀ y a, cl.lookup y = some a → a ∉ frs X.stack := fun y a e z => by
  have e1 := c.sub y a e
  rcases List.mem_cons.mp (I.stkSub a z) with q | q
  · exact I.cne y a e1 q
  · obtain ⟨_, o, ho, _⟩ := I.ok.funs.mem q
    exact absurd (Heap.lt_size ho) (Nat.not_lt.mpr (I.ok.cab y a (hfn y) e1))
/-- a parameter that holds a function of the caller's is called -/
def tCallF (i : Nat) (fc : Addr) (F : NF) (sp : Sp) (E : XK) (t : TA) : TE := fun σ H Q => σ[i]? = some (some (.ref fc)) ∧ H fc = some (FnO fc F) ∧ t σ H fun vs H1 => H1 fc = some (FnO fc F) ∧ H1 F.c = some (CodeO F.c F.qual) ∧ sp vs H1 Q E
theorem pe_callF (Fn : NOk X.prog X.w X.K X.mg X.base CX k fc F ps fr (fun ws' vs H Q E => ws' = ws ∧ sp vs H Q E)) (C : CloAt fr ws F X.outer X.s_0 X.H_0) (ex : X.ex = []) (hr : Room k X.A) (hx : Passes CX X E) (hN : X.N[i]? = some x) (hv : Vis X.env.scope x) (ha : PA X (e :: es) t)
    (hd : (x == ("__debug__" : Str)) = false := by decide) (hcd : (x == ("__classdict__" : Str)) = false := by decide)
    (he : starEach (e :: es) X.env = (false, eval e X.env) :: starEach es X.env := by rfl) (hpl : (backTo pos (starEach es X.env)).any (·.1) = false := by rfl) :
    PE X (.Call (.Name x p) (e :: es) [] pos) (tCallF i fc F sp E t) := by
  refine ⟨fun pins s σ H Q I h => ?_⟩
  obtain ⟨hs, hf, ht⟩ := h
  refine wpAny_Call_Name_kw (thn ((pe_var (pos := p) hN hv hd hcd).run pins s σ H (fun v H1 => v = .ref fc ∧ H1 = H) I ⟨.ref fc, hs, rfl, rfl⟩) fun u s1 ⟨v, H1, I1, r1, q1⟩ => ?_)
  obtain ⟨ev, eH⟩ := q1
  subst ev
  rw [eH] at I1
  obtain rfl : u = Value.ref fc := r1
  refine PySem.W.callWith_F (first := []) (fnAt_of I1 hf) (thn (ha.run pos pins s1 σ H _ I1 ht) fun us s2 ⟨vs, H2, I2, r, h1, h2, q⟩ => ⟨fnAt_of I2 h1, ?_⟩) he hpl
  show wpAny _ _ (call (.ref fc) us) _ _ _
  refine wpAny_call (codeAny_mono (Fn.run X.A X.stack s2 H2 us vs ws Q E hr I2.env0 h1 h2 (C.cells.later C.off (fun y a _ z => by rw [ex] at z; cases z) I2) r ⟨rfl, q⟩) fun r s' hq => ?_)
  cases r with
  | error e => exact hx pins σ H2 s2 e s' I2 hq
  | ok fl =>
    cases fl with
    | ret u => exact I2.after hq
    | next => exact False.elim hq
    | brk => exact False.elim hq
    | cont => exact False.elim hq
theorem run_fnP {Q : VK} {us : List Value} {vs : List V} (F : FnOkP X.prog X.w X.K X.mg X.base CX k f fd ps pre sp) (hr : Room k X.A) (hb : Binds X.K fd ps []) (hx : Passes CX X E)
    (I : Inv X pins σ H s) (r : Vals vs us) (hp : pre X.stack s H) (h : sp vs H Q E) : wpAny (model X.prog X.w) X.A (call (.ref f) us) (EP X pins σ Q) X.xe s := by
  have hl : us.length = ps.length := by rw [← r.length]; exact F.len _ _ _ _ h
  have hb' := hb s us I.kIn (by rw [List.append_nil]; exact hl)
  rw [List.append_nil] at hb'
  refine wpAny_call (codeAny_mono (F.run X.A X.stack s H ⟨us, []⟩ us vs Q E hr I.env0 hb' r hp h) fun r s' hq => ?_)
  cases r with
  | error e => exact hx pins σ H s e s' I hq
  | ok fl =>
    cases fl with
    | ret u => exact I.after hq
    | next => exact False.elim hq
    | brk => exact False.elim hq
    | cont => exact False.elim hq
/-- g(.., f, ..): a def that leans on a function made here -/
def tCallC (js : List Nat) (sp : Addr → Addr → List (Option V) → Sp) (E : XK) (t : TA) : TE := fun σ H Q => t σ H fun vs H1 => ∃ fc c', sp fc c' (js.map (slotAt σ)) vs H1 Q E
theorem pe_callC {sp : Addr → Addr → List (Option V) → Sp} (Fn : ∀ fc c' ws, FnOkP X.prog X.w X.K X.mg X.base CX k f fd ps (CloAt fr ws (mk c')) (sp fc c' ws)) (hcl : ∀ c', (mk c').cl = cl) (cp : X.Ok → Caps X cl fr js) (hfn : ∀ y, X.fn y = true) (hr : Room k X.A) (hg : Gl X x) (hm : X.mg x = some (.ref f)) (hk : PySem.W.keepIn X.K (.ref f) = true) (hb : Binds X.K fd ps []) (hx : Passes CX X E)
    (ha : PA X (e :: es) t) (hdb : (x == ("__debug__" : Str)) = false := by decide) (he : starEach (e :: es) X.env = (false, eval e X.env) :: starEach es X.env := by rfl) (hpl : (backTo pos (starEach es X.env)).any (·.1) = false := by rfl) :
    PE X (.Call (.Name x p) (e :: es) [] pos) (tCallC js sp E t) := by
  refine ⟨fun pins s σ H Q I h => ?_⟩
  refine wpAny_Call_Name_kw (ld_glob I hg hm ?_ hdb)
  refine PySem.W.callWith_K (h₀ := X.base) I.ok.mod.kin hk (thn (ha.run pos pins s σ H _ I h) fun us s1 ⟨vs, H1, I1, r, fc, c', q⟩ => ⟨I1.kIn, ?_⟩) he hpl
  have c := cp I1.ok
  exact run_fnP (Fn fc c' _) hr hb hx I1 r ⟨by rw [hcl c']; exact cells_of I1 c, by rw [hcl c']; exact clo_off I1 c hfn⟩ q
end
/-- a def that leans on a function handed to it, as the top leaves it -/
structure DnC (P : Program) (w : World) (K : PySem.W.Frag) (mg : Str → Option Value) (base : Heap) (CX : CXT) (k : Nat) (x : Str) (ps fr : List Str) (k1 : Nat) (ps1 : List Str) (sp1 : List (Option V) → Sp) (sp : Addr → NF → List (Option V) → Sp) (fd : FuncData) : Prop where
  ok : ∀ fc F ws, (∀ f, NOk P w K mg base CX k1 f F ps1 fr sp1) → FnOkP P w K mg base CX k (He.ga K x) fd ps (CloAt fr ws F) (sp fc F ws)
  mg : mg x = some (.ref (He.ga K x))
  kp : PySem.W.keepIn K (.ref (He.ga K x)) = true
  b : Binds K fd ps []
theorem nok_at {P : Program} {w : World} {K : PySem.W.Frag} {mg : Str → Option Value} {base : Heap} {CX : CXT} {k : Nat} {f : Addr} {F : NF} {ps fr : List Str} {sp : List (Option V) → Sp} (ws : List (Option V)) (o : NOk P w K mg base CX k f F ps fr sp) : NOk P w K mg base CX k f F ps fr (fun ws' vs H Q E => ws' = ws ∧ sp ws vs H Q E) := o.imp fun ws' vs H Q E ⟨e, q⟩ => by rw [e]; exact q
end Lv

/-! comprehensions over a computed dict with tuple keys; dict comprehensions over lists of tuples, changing things -/
namespace Lv
open PySem PySem.Spec PyProof.Rows L2
variable [TabA]
section
variable {σ : L2.St} {G P H : Hp} {Q : VK} {td : TE} {g : TG} {tt : TT} {te : TE} {ts : List Nat} {d : Addr}
def aLcKF (g : TG) (tt : TT) (te : TE) (ts : List Nat) (σ : L2.St) (Q : VK) : V → Hp → Prop := fun x H => tLc (fun _ H1 R => ∃ d kvs, x = .ref d ∧ H1 d = some (.dT kvs) ∧ ∀ o, R (Itkt d o kvs) (upd H1 d (.frz o (.dT kvs)))) g tt te ts σ H Q
theorem w_lcKF (h : td σ H fun x H1 => aLcKF g tt te ts σ Q x H1) : tLc (iKeysF td) g tt te ts σ H Q := h
/-- [.. for t in e ..], e a dict of the second part that is computed: it stays locked -/
theorem aLcKF.go {kvs : List (List Int × V)} (I : Nat → List V → Hp → Prop) (J : Join G P H) (nt : NT P) (h : P d = some (.dT (tK kvs))) (hl : kvs.length ≤ 1000000)
    (h0 : I 0 [] G) (hm : ∀ i us G1 G2, Ex G1 G2 → I i us G1 → I i us G2) (hz : ∀ i us G2, I i us G2 → us.length ≤ i)
    (hs : ∀ (od : Obj) (i : Nat) (k : List Int) (v : V) (b : Addr) (us : List V) (G' P' H' : Hp) (R : VK) (R0 : Hp → Prop), kvs[i]? = some (k, v) → H' b = some (.tup (k.map V.int)) → Ex G G' → (∀ c o, c ≠ d → P c = some o → P' c = some o) → P' d = some (.frz od (.dT (tK kvs))) → NT P' → Join G' P' H' → I i us G' →
      (∀ y G2 H2, Ex G' G2 → Join G2 P' H2 → I (i + 1) (us ++ [y]) G2 → R y H2) → (∀ G2 H2, Ex G' G2 → Join G2 P' H2 → I (i + 1) us G2 → R0 H2) →
      g (.ref b) (wipe σ ts) H' fun σ2 H2 => wipe σ2 ts = wipe σ ts ∧ tt σ2 H2 fun b H3 => if b = true then te σ2 H3 R else R0 H3)
    (hq : ∀ od p us G' H', H p = none → Ex G G' → Join G' (upd P d (.frz od (.dT (tK kvs)))) H' → G' p = some (.lst us) → I kvs.length us G' → Q (.ref p) H') : aLcKF g tt te ts σ Q (.ref d) H := by
  refine ⟨d, tK kvs, rfl, J.p _ _ h, fun od L hL => ?_⟩
  have nL : L ≠ d := fun e => by rw [e, upd_same] at hL; cases hL
  have hL0 : H L = none := by rw [upd_ne nL] at hL; exact hL
  have gL : G L = none := J.ng hL0
  have pL : P L = none := J.np hL0
  have n1 : NT (upd P d (.frz od (.dT (tK kvs)))) := nt.upd fun _ e => nomatch e
  have n0 : NT (upd (upd P d (.frz od (.dT (tK kvs)))) L (.lst [])) := n1.upd fun _ e => nomatch e
  have j1 : Join G (upd P d (.frz od (.dT (tK kvs)))) (upd H d (.frz od (.dT (tK kvs)))) := J.setPo h
  refine lc_keysT (fun i H' => ∃ G' P' us, Ex G G' ∧ (∀ c o, c ≠ d → P c = some o → P' c = some o) ∧ P' d = some (.frz od (.dT (tK kvs))) ∧ P' L = some (.lst us) ∧ NT P' ∧ I i us G' ∧ Join G' P' H') ⟨G, upd (upd P d (.frz od (.dT (tK kvs)))) L (.lst []), [], Ex.refl _, fun c o nc hc => ?_, Eq.trans (upd_ne (Ne.symm nL)) upd_same, upd_same, n0, h0, j1.setP gL⟩ (fun i H' _ ⟨G', P', us, _, _, hd, _, _, _, j'⟩ => j'.p _ _ hd) (fun i k x b H' hk hb ⟨G', P', us, e', hP, hd, hLs, hT, hI, j'⟩ => ?_) (fun H' ⟨G', P', us, e', hP, hd, hLs, hT, hI, j'⟩ => ?_)
  · rw [upd_ne (ne_of_none hc pL), upd_ne nc]; exact hc
  · obtain ⟨n, hn, rfl⟩ := tK_at hk
    have hul := hz _ _ _ hI
    have hil := (List.getElem?_eq_some_iff.mp hn).1
    refine hs od i n x b us G' P' H' _ _ hn (by rw [hb, tup_kV]) e' hP hd hT j' hI (fun y G2 H2 e2 j2 hI2 => ⟨us, j2.p _ _ hLs, Nat.lt_of_le_of_lt (show us.length ≤ 1000000 by omega) (by decide), G2, upd P' L (.lst (us ++ [y])), us ++ [y], e'.trans e2, fun c o nc hc => ?_, Eq.trans (upd_ne (Ne.symm nL)) hd, upd_same, (NT.upd (o := .lst (us ++ [y])) hT (fun _ e => nomatch e)), hI2, j2.setPo hLs⟩) (fun G2 H2 e2 j2 hI2 => ⟨G2, P', us, e'.trans e2, hP, hd, hLs, hT, hI2, j2⟩)
    rw [upd_ne (ne_of_none hc pL)]; exact hP c o nc hc
  · rw [tK_len] at hI
    obtain ⟨G2, j4, e4, k4⟩ := j'.back (P := upd P d (.frz od (.dT (tK kvs)))) fun c o hc => by
      by_cases z : c = d
      · subst z; rw [upd_same] at hc; rw [hd]; exact hc
      · rw [upd_ne z] at hc; exact hP c o z hc
    exact hq od L us G2 _ hL0 (e'.trans e4) j4 (k4 L _ hLs (by rw [upd_ne nL]; exact pL)) (hm _ _ _ _ e4 hI)
end
end Lv

/-! a function made here is called within a comprehension of a dict -/
namespace Lv
open PySem PySem.Spec PyProof.Rows L2
variable [TabA]
/-- the captured cells, as a block begins -/
structure CloB (X : Cx) (cl : List (Str × Addr)) (fr : List Str) (ws : List (Option V)) (fp : List Addr) (s : Shared) (H : Hp) : Prop where
  cells : NdefX.CellsAt cl fr ws s.heap H
  off : ∀ y c, cl.lookup y = some c → c ∉ frs X.stack
  ap : ∀ y c, cl.lookup y = some c → c ∉ fp
section
variable {X : Cx} {CX : CXT} {mk : Addr → NdefX.NF} {cl : List (Str × Addr)} {ps fr : List Str} {i k : Nat} {x : Str} {sp : Addr → Addr → List (Option V) → Sp} {ws : List (Option V)} {E : XK} {t : TA} {e : Expr} {es : List Expr} {p pos : Pos}
/-- the same as at a name of the frame itself, the captured values told -/
def tCallW (mk : Addr → NdefX.NF) (i : Nat) (ws : List (Option V)) (sp : Addr → Addr → List (Option V) → Sp) (E : XK) (t : TA) : TE := fun σ H Q => ∃ f c', σ[i]? = some (some (.ref f)) ∧ H f = some (NdefX.FnO f (mk c')) ∧
  t σ H fun vs H1 => H1 f = some (NdefX.FnO f (mk c')) ∧ H1 (mk c').c = some (LamX.CodeO (mk c').c (mk c').qual) ∧ sp f c' ws vs H1 Q E
theorem pe_callW (Fn : ∀ f c', NdefX.NOk X.prog X.w X.K X.mg X.base CX k f (mk c') ps fr (sp f c')) (hcl : ∀ c', (mk c').cl = cl) (C : NdefX.CellsAt cl fr ws X.s_0.heap X.H_0) (off : ∀ y c, cl.lookup y = some c → c ∉ X.fs) (ap : ∀ y c, cl.lookup y = some c → c ∉ X.ex) (hr : Room k X.A) (hx : Passes CX X E) (hN : X.N[i]? = some x) (hv : Vis X.env.scope x) (ha : PA X (e :: es) t)
    (hd : (x == ("__debug__" : Str)) = false := by decide) (hcd : (x == ("__classdict__" : Str)) = false := by decide)
    (he : starEach (e :: es) X.env = (false, eval e X.env) :: starEach es X.env := by rfl) (hpl : (backTo pos (starEach es X.env)).any (·.1) = false := by rfl) :
    PE X (.Call (.Name x p) (e :: es) [] pos) (tCallW mk i ws sp E t) := by
  refine ⟨fun pins s σ H Q I h => ?_⟩
  obtain ⟨f, c', hs, hf, ht⟩ := h
  refine wpAny_Call_Name_kw (thn ((pe_var (pos := p) hN hv hd hcd).run pins s σ H (fun v H1 => v = .ref f ∧ H1 = H) I ⟨.ref f, hs, rfl, rfl⟩) fun u s1 ⟨v, H1, I1, r1, q1⟩ => ?_)
  obtain ⟨ev, eH⟩ := q1
  subst ev
  rw [eH] at I1
  obtain rfl : u = Value.ref f := r1
  refine PySem.W.callWith_F (first := []) (NdefX.fnAt_of I1 hf) (thn (ha.run pos pins s1 σ H _ I1 ht) fun us s2 ⟨vs, H2, I2, r, h1, h2, q⟩ => ⟨NdefX.fnAt_of I2 h1, ?_⟩) he hpl
  show wpAny _ _ (call (.ref f) us) _ _ _
  refine wpAny_call (codeAny_mono ((Fn f c').run X.A X.stack s2 H2 us vs ws Q E hr I2.env0 h1 h2 (by rw [hcl c']; exact C.later off ap I2) r q) fun r s' hq => ?_)
  cases r with
  | error e => exact hx pins σ H2 s2 e s' I2 hq
  | ok fl =>
    cases fl with
    | ret u => exact I2.after hq
    | next => exact False.elim hq
    | brk => exact False.elim hq
    | cont => exact False.elim hq
end
section
variable {X : Cx}
theorem pe_dcGC {cl0 : List (Str × Addr)} {fr : List Str} {js : List Nat} {kx vx tg iter : Expr} {ifs : List Expr} {scope : Scope} {own : List (Str × Nat)} {pos : Pos} {wi : TI} {g : TG} {tt : TT} {tk : TE} {tv : List (Option V) → TE} {o0 : HO} (cp : X.Ok → NdefX.Caps X cl0 fr js) (hfn : ∀ y, X.fn y = true) (em : Emp o0) (hu : X.A.units + 1 < cLine) (hc : X.calm = true) (hN : X.N.Nodup) (hi : PI X tg iter wi) (ok : BlkOk X.N X.env.scope scope own)
    (hg : ∀ (s : Shared) (H : Hp) (C : Addr) (cl : List (Str × Addr)) (fp : List Addr), PG (X.blk s H scope (compEnvC scope cl C X.env) fp) tg g) (ht : ∀ (s : Shared) (H : Hp) (C : Addr) (cl : List (Str × Addr)) (fp : List Addr), PTs (X.blk s H scope (compEnvC scope cl C X.env) fp) ifs tt)
    (hk : ∀ (s : Shared) (H : Hp) (C : Addr) (cl : List (Str × Addr)) (fp : List Addr), PE (X.blk s H scope (compEnvC scope cl C X.env) fp) kx tk)
    (he : ∀ (ws : List (Option V)) (s : Shared) (H : Hp) (C : Addr) (cl : List (Str × Addr)) (fp : List Addr), CloB X cl0 fr ws fp s H → PE (X.blk s H scope (compEnvC scope cl C X.env) fp) vx (tv ws)) (hs : ∀ x, foldedSetIterable iter X.env x = pure x := by intro _; rfl) :
    PE X (.DictComp kx vx [⟨tg, iter, ifs, 0⟩] scope pos) (fun σ H Q => tDcG o0 wi g tt tk (tv (js.map (NdefX.slotAt σ))) (own.map (·.2)) σ H Q) := by
  refine ⟨fun pins s σ H Q I h => ?_⟩
  rw [arm_eval_DictComp]
  refine dc_frame (Q := Q) (R := fun J D H3 => ∃ W : Nat → Nat → Hp → Prop, (∃ m, W 0 m H3) ∧ ∀ i m H, W i m H →
    (J.stop i H ∧ Q (.ref D) H) ∨ (J.go i H ∧ ∃ Nx : Hp → Prop, (∀ H', Nx H' → ∃ m', m' < m ∧ W (i + 1) m' H') ∧ ∀ x H', J.yld i H x H' → g x (wipe σ (own.map fun p : Str × Nat => p.2)) H' fun σ2 H2 => wipe σ2 (own.map fun p : Str × Nat => p.2) = wipe σ (own.map fun p : Str × Nat => p.2) ∧ tt σ2 H2 fun b H3 =>
      if b = true then tk σ2 H3 fun y H4 => tv (js.map (NdefX.slotAt σ)) σ2 H4 fun z H5 => ∃ H6, DPut H5 D y z H6 ∧ Nx H6 else Nx H3)) hc hN em I hi ok hs h ?_ fun D C s' m H' I' q hn f => ⟨m, hn, fun h'' sb => ?_⟩
  · rintro J D fp it tn s3 H3 ce C cl s4 ⟨W, ⟨m0, w0⟩, turn⟩ ⟨rfl, T, I4, st4, nfp, stat, pins3, I3, F3⟩ hexit
    have CB : CloB X cl0 fr (js.map (NdefX.slotAt σ)) fp s3 H3 := ⟨NdefX.cells_of I3 (cp I3.ok), clo_off I3 (cp I3.ok) hfn, fun y c e z => (F3 c z).2.2.2.2.1 y c ((cp I3.ok).sub y c e) rfl⟩
    refine compLoop_anyD (fun n s' => ∃ i H', L2.Inv (X.blk s3 H3 scope (compEnvC scope cl C X.env) fp) [] (wipe σ (own.map (·.2))) H' s' ∧ tn i s'.heap ∧ (∀ b ∈ fp, H' b = none) ∧ W i n H') ?_ m0 ⟨0, H3, I4, st4, nfp, w0⟩
    rintro n s5 ⟨i, H5, I5, st5, n5, w5⟩
    rcases turn i n H5 w5 with ⟨stop, qq⟩ | ⟨go, Nx, hNx, step⟩
    · refine thnF (T.done (X.blk s3 H3 scope (compEnvC scope cl C X.env) fp) rfl rfl rfl hc i [] s5 _ H5 (fun _ _ => False) I5 (stat I5 n5) st5 stop) fun r s6 ⟨hr, I6⟩ => ?_
      subst hr
      exact hexit H5 s6 I6 qq
    · refine thnF (T.item (X.blk s3 H3 scope (compEnvC scope cl C X.env) fp) rfl rfl rfl hc i [] s5 _ H5 (fun _ _ => False) I5 (stat I5 n5) st5 go) fun r s6 ⟨u, hr, h6⟩ => ?_
      subst hr
      refine thnF h6 fun _ s7 ⟨x, H7, I7, r7, y7, st7, n7⟩ => ?_
      have I7' := I7.pinned (stat I7 n7) (T.obj _ _ st7)
      refine thnF ((hg _ _ _ _ _).run _ s7 _ H7 x u _ I7' r7 (step x H7 y7)) fun _ s8 ⟨σ8, H8, I8, hw8, q8⟩ => ?_
      refine thnF ((ht _ _ _ _ _).run _ s8 σ8 H8 _ I8 q8) fun b s9 ⟨H9, I9, q9⟩ => ?_
      have fin : ∀ {s' : Shared} {H' : Hp}, L2.Inv (X.blk s3 H3 scope (compEnvC scope cl C X.env) fp) ([] ++ pinsAt fp s7.heap) σ8 H' s' → Nx H' → ∃ m, m < n ∧ ∃ i H', L2.Inv (X.blk s3 H3 scope (compEnvC scope cl C X.env) fp) [] (wipe σ (own.map (·.2))) H' s' ∧ tn i s'.heap ∧ (∀ b ∈ fp, H' b = none) ∧ W i m H' := fun {s' H'} I' nx => by
        obtain ⟨m', hm, w'⟩ := hNx H' nx
        have pin' : ∀ b ∈ fp, ∀ o, s7.heap.get? b = some o → s'.heap.get? b = some o ∧ H' b = none := fun b hb o e =>
          let z := I'.pin (b, o) (List.mem_append_right _ (List.mem_append_right _ (mem_pinsAt hb e)))
          ⟨z.1, z.2.1⟩
        refine ⟨m', hm, i + 1, H', (I'.unpinned (pins := [])).weak (by rw [← hw8, wipe_length]) (fun j v e => by rw [← hw8] at e; exact (wipe_some e).1), T.keep _ _ _ st7 fun b hb o e => (pin' b hb o e).1, fun b hb => ?_, w'⟩
        obtain ⟨o, e, _⟩ := T.obj _ _ st7 b hb
        exact (pin' b hb o e).2
      cases b with
      | false =>
        simp only [Bool.false_eq_true, if_false] at q9 ⊢
        exact fin I9 q9
      | true =>
        simp only [if_true] at q9 ⊢
        refine thnF ((hk _ _ _ _ _).run _ s9 σ8 H9 _ I9 q9) fun z s10 ⟨yk, H10, I10, r10, q10⟩ => ?_
        refine thnF ((he _ _ _ _ _ _ CB).run _ s10 σ8 H10 _ I10 q10) fun z2 s11 ⟨yv, H11, I11, r11, H12, dp, nx⟩ => ?_
        exact put_any (X := X.blk s3 H3 scope (compEnvC scope cl C X.env) fp) hu I11 dp r10 r11 fun s12 I12 => fin I12 nx
  · obtain ⟨f0, f1, f2, f3, f4, f5⟩ := f
    exact ⟨.ref D, H', I'.turned (t' := s'.toks) (fun b o hb e => (sb.2 b hb).trans e) f0 f1 f3 f4 f5, rfl, q⟩
theorem dcGC_core {cl0 : List (Str × Addr)} {fr : List Str} {js : List Nat} {pins : List (Addr × Obj)} {s : Shared} {σ : L2.St} {H : Hp} {Q : VK} {use : Option (Value → Sem Unit)} {Qf : Value → Shared → Prop} {pos' : Pos} {kx vx tg iter : Expr} {ifs : List Expr} {scope : Scope} {own : List (Str × Nat)} {pos : Pos} {wi : TI} {g : TG} {tt : TT} {tk : TE} {tv : List (Option V) → TE} {o0 : HO} (cp : X.Ok → NdefX.Caps X cl0 fr js) (hfn : ∀ y, X.fn y = true) (em : Emp o0) (hu : X.A.units + 1 < cLine) (hc : X.calm = true) (hN : X.N.Nodup) (hi : PI X tg iter wi) (ok : BlkOk X.N X.env.scope scope own)
    (hg : ∀ (s : Shared) (H : Hp) (C : Addr) (cl : List (Str × Addr)) (fp : List Addr), PG (X.blk s H scope (compEnvC scope cl C X.env) fp) tg g) (ht : ∀ (s : Shared) (H : Hp) (C : Addr) (cl : List (Str × Addr)) (fp : List Addr), PTs (X.blk s H scope (compEnvC scope cl C X.env) fp) ifs tt)
    (hk : ∀ (s : Shared) (H : Hp) (C : Addr) (cl : List (Str × Addr)) (fp : List Addr), PE (X.blk s H scope (compEnvC scope cl C X.env) fp) kx tk)
    (he : ∀ (ws : List (Option V)) (s : Shared) (H : Hp) (C : Addr) (cl : List (Str × Addr)) (fp : List Addr), CloB X cl0 fr ws fp s H → PE (X.blk s H scope (compEnvC scope cl C X.env) fp) vx (tv ws)) (hs : ∀ x, foldedSetIterable iter X.env x = pure x) (I : L2.Inv X pins σ H s) (h : tDcG o0 wi g tt tk (tv (js.map (NdefX.slotAt σ))) (own.map (·.2)) σ H Q)
    (hRR : ∀ D C s' m H', L2.Inv X pins σ H' s' → Q (.ref D) H' → s'.heap.Ns C m → FpOk X pins H' C → compPost (model X.prog X.w) X.A X.xe use Qf (.ref D) C (.ok .next) s') :
    wpAny (model X.prog X.w) X.A (comprehension (.DictComp kx vx [⟨tg, iter, ifs, 0⟩] scope pos) scope X.env pos' newDict false (eval iter X.env) use) Qf X.xe s := by
  refine dc_frame (Q := Q) (R := fun J D H3 => ∃ W : Nat → Nat → Hp → Prop, (∃ m, W 0 m H3) ∧ ∀ i m H, W i m H →
    (J.stop i H ∧ Q (.ref D) H) ∨ (J.go i H ∧ ∃ Nx : Hp → Prop, (∀ H', Nx H' → ∃ m', m' < m ∧ W (i + 1) m' H') ∧ ∀ x H', J.yld i H x H' → g x (wipe σ (own.map fun p : Str × Nat => p.2)) H' fun σ2 H2 => wipe σ2 (own.map fun p : Str × Nat => p.2) = wipe σ (own.map fun p : Str × Nat => p.2) ∧ tt σ2 H2 fun b H3 =>
      if b = true then tk σ2 H3 fun y H4 => tv (js.map (NdefX.slotAt σ)) σ2 H4 fun z H5 => ∃ H6, DPut H5 D y z H6 ∧ Nx H6 else Nx H3)) hc hN em I hi ok hs h ?_ hRR
  · rintro J D fp it tn s3 H3 ce C cl s4 ⟨W, ⟨m0, w0⟩, turn⟩ ⟨rfl, T, I4, st4, nfp, stat, pins3, I3, F3⟩ hexit
    have CB : CloB X cl0 fr (js.map (NdefX.slotAt σ)) fp s3 H3 := ⟨NdefX.cells_of I3 (cp I3.ok), clo_off I3 (cp I3.ok) hfn, fun y c e z => (F3 c z).2.2.2.2.1 y c ((cp I3.ok).sub y c e) rfl⟩
    refine compLoop_anyD (fun n s' => ∃ i H', L2.Inv (X.blk s3 H3 scope (compEnvC scope cl C X.env) fp) [] (wipe σ (own.map (·.2))) H' s' ∧ tn i s'.heap ∧ (∀ b ∈ fp, H' b = none) ∧ W i n H') ?_ m0 ⟨0, H3, I4, st4, nfp, w0⟩
    rintro n s5 ⟨i, H5, I5, st5, n5, w5⟩
    rcases turn i n H5 w5 with ⟨stop, qq⟩ | ⟨go, Nx, hNx, step⟩
    · refine thnF (T.done (X.blk s3 H3 scope (compEnvC scope cl C X.env) fp) rfl rfl rfl hc i [] s5 _ H5 (fun _ _ => False) I5 (stat I5 n5) st5 stop) fun r s6 ⟨hr, I6⟩ => ?_
      subst hr
      exact hexit H5 s6 I6 qq
    · refine thnF (T.item (X.blk s3 H3 scope (compEnvC scope cl C X.env) fp) rfl rfl rfl hc i [] s5 _ H5 (fun _ _ => False) I5 (stat I5 n5) st5 go) fun r s6 ⟨u, hr, h6⟩ => ?_
      subst hr
      refine thnF h6 fun _ s7 ⟨x, H7, I7, r7, y7, st7, n7⟩ => ?_
      have I7' := I7.pinned (stat I7 n7) (T.obj _ _ st7)
      refine thnF ((hg _ _ _ _ _).run _ s7 _ H7 x u _ I7' r7 (step x H7 y7)) fun _ s8 ⟨σ8, H8, I8, hw8, q8⟩ => ?_
      refine thnF ((ht _ _ _ _ _).run _ s8 σ8 H8 _ I8 q8) fun b s9 ⟨H9, I9, q9⟩ => ?_
      have fin : ∀ {s' : Shared} {H' : Hp}, L2.Inv (X.blk s3 H3 scope (compEnvC scope cl C X.env) fp) ([] ++ pinsAt fp s7.heap) σ8 H' s' → Nx H' → ∃ m, m < n ∧ ∃ i H', L2.Inv (X.blk s3 H3 scope (compEnvC scope cl C X.env) fp) [] (wipe σ (own.map (·.2))) H' s' ∧ tn i s'.heap ∧ (∀ b ∈ fp, H' b = none) ∧ W i m H' := fun {s' H'} I' nx => by
        obtain ⟨m', hm, w'⟩ := hNx H' nx
        have pin' : ∀ b ∈ fp, ∀ o, s7.heap.get? b = some o → s'.heap.get? b = some o ∧ H' b = none := fun b hb o e =>
          let z := I'.pin (b, o) (List.mem_append_right _ (List.mem_append_right _ (mem_pinsAt hb e)))
          ⟨z.1, z.2.1⟩
        refine ⟨m', hm, i + 1, H', (I'.unpinned (pins := [])).weak (by rw [← hw8, wipe_length]) (fun j v e => by rw [← hw8] at e; exact (wipe_some e).1), T.keep _ _ _ st7 fun b hb o e => (pin' b hb o e).1, fun b hb => ?_, w'⟩
        obtain ⟨o, e, _⟩ := T.obj _ _ st7 b hb
        exact (pin' b hb o e).2
      cases b with
      | false =>
        simp only [Bool.false_eq_true, if_false] at q9 ⊢
        exact fin I9 q9
      | true =>
        simp only [if_true] at q9 ⊢
        refine thnF ((hk _ _ _ _ _).run _ s9 σ8 H9 _ I9 q9) fun z s10 ⟨yk, H10, I10, r10, q10⟩ => ?_
        refine thnF ((he _ _ _ _ _ _ CB).run _ s10 σ8 H10 _ I10 q10) fun z2 s11 ⟨yv, H11, I11, r11, H12, dp, nx⟩ => ?_
        exact put_any (X := X.blk s3 H3 scope (compEnvC scope cl C X.env) fp) hu I11 dp r10 r11 fun s12 I12 => fin I12 nx
theorem ps_setDcGC {cl0 : List (Str × Addr)} {fr : List Str} {js : List Nat} {i : Nat} {y : Str} {py spos : Pos} {kx vx tg iter : Expr} {ifs : List Expr} {scope : Scope} {own : List (Str × Nat)} {pos : Pos} {wi : TI} {g : TG} {tt : TT} {tk : TE} {tv : List (Option V) → TE} {o0 : HO} (cp : X.Ok → NdefX.Caps X cl0 fr js) (hfn : ∀ y, X.fn y = true) (em : Emp o0) (hu : X.A.units + 1 < cLine) (hc : X.calm = true) (hN : X.N.Nodup) (hy : X.N[i]? = some y) (hyl : X.env.scope.names.lookup y = some .local)
    (hsw : swapsWith (.DictComp kx vx [⟨tg, iter, ifs, 0⟩] scope pos) (some (.Name y py)) spos.line X.env = pure true) (hi : PI X tg iter wi) (ok : BlkOk X.N X.env.scope scope own)
    (hg : ∀ (s : Shared) (H : Hp) (C : Addr) (cl : List (Str × Addr)) (fp : List Addr), PG (X.blk s H scope (compEnvC scope cl C X.env) fp) tg g) (ht : ∀ (s : Shared) (H : Hp) (C : Addr) (cl : List (Str × Addr)) (fp : List Addr), PTs (X.blk s H scope (compEnvC scope cl C X.env) fp) ifs tt)
    (hk : ∀ (s : Shared) (H : Hp) (C : Addr) (cl : List (Str × Addr)) (fp : List Addr), PE (X.blk s H scope (compEnvC scope cl C X.env) fp) kx tk)
    (he : ∀ (ws : List (Option V)) (s : Shared) (H : Hp) (C : Addr) (cl : List (Str × Addr)) (fp : List Addr), CloB X cl0 fr ws fp s H → PE (X.blk s H scope (compEnvC scope cl C X.env) fp) vx (tv ws)) (hs : ∀ x, foldedSetIterable iter X.env x = pure x := by intro _; rfl) :
    PS X (.Assign [.Name y py] (.DictComp kx vx [⟨tg, iter, ifs, 0⟩] scope pos) spos) (tAsg (fun σ H Q => tDcG o0 wi g tt tk (tv (js.map (NdefX.slotAt σ))) (own.map (·.2)) σ H Q) (gName i)) := by
  refine ⟨fun pins s σ H D I h => ?_⟩
  rw [exec_Assign_Name_used _ _ _ _ hsw]
  refine wpAny_bind (wpAny_standAt (wpAny_bind ?_))
  show wpAny _ X.A (do let _ ← comprehension (.DictComp kx vx [⟨tg, iter, ifs, 0⟩] scope pos) scope X.env (firstIterPos [⟨tg, iter, ifs, 0⟩] pos) newDict false (eval iter X.env) (some (assign (.Name y py) X.env))) _ _ s
  have h : tDcG o0 wi g tt tk (tv (js.map (NdefX.slotAt σ))) (own.map (·.2)) σ H (fun x H1 => gName i x σ H1 D.nx) := h
  refine wpAny_bind (thn (dcGC_core (Qf := fun _ s' => SP X pins D .next s') cp hfn em hu hc hN hi ok hg ht hk he hs I h fun L C s' m H' I' q hn f => ?_) fun _ s' hq => wpAny_pure (wpAny_pure hq))
  show wpAny _ _ (assign (.Name y py) X.env (.ref L)) _ _ _
  refine wpAny_assign_Name (store_ok2 (v := V.ref L) I' hN hy (.inl hyl) rfl (fun s2 I2 ⟨a, sb, ha⟩ => ?_) (.inr hyl))
  obtain ⟨f0, f1, f2, f3, f4, f5⟩ := f
  have haC : C ≠ a := by
    rcases ha with z | z
    · rw [z]; exact f1
    · exact fun e => f4 y a z e.symm
  refine ⟨m, hn.sameBut sb haC, fun h3 sb3 => ?_⟩
  exact ⟨_, H', I2.turned (t' := s2.toks) (fun b o hb e => (sb3.2 b hb).trans e) f0 f1 f3 f4 f5, q⟩
end
section
variable {K : PySem.W.Frag} {σ : L2.St} {G P H : Hp} {Q : VK} {tl tk tv : TE} {g : TG} {tt : TT} {ts : List Nat} {a : Addr}
/-- {t: .. for t in e}: e a list of tuples of ints -/
def aDcLT (K : PySem.W.Frag) (g : TG) (tt : TT) (tk tv : TE) (ts : List Nat) (σ : L2.St) (Q : VK) : V → Hp → Prop := fun x H => tDcG (.dT []) (fun _ H1 R => ∃ a, x = .ref a ∧ (∃ xs, SqL K H1 a xs) ∧ R (Itl K a) H1) g tt tk tv ts σ H Q
theorem w_dcLT (h : tl σ H fun x H1 => aDcLT K g tt tk tv ts σ Q x H1) : tDcG (.dT []) (iList K tl) g tt tk tv ts σ H Q := h
theorem aDcLT.go {kss : List (List Int)} {us0 : List V} (I : Nat → List V → Hp → Prop) (J : Join G P H) (nt : NT P) (ha : G a = some (.lst us0)) (hl0 : us0.length = kss.length) (hb0 : ∀ (i : Nat) (k : List Int), kss[i]? = some k → ∃ b, us0[i]? = some (.ref b) ∧ G b = some (.tup (k.map V.int))) (hn : kss.Nodup) (hl : kss.length ≤ 99000)
    (h0 : I 0 [] G) (hm : ∀ i us G1 G2, Ex G1 G2 → I i us G1 → I i us G2)
    (hs : ∀ (i : Nat) (k : List Int) (b : Addr) (us : List V) (G' P' H' : Hp) (S : V → V → Hp → Prop) (R0 : Hp → Prop), kss[i]? = some k → G' b = some (.tup (k.map V.int)) → Ex G G' → NT P' → Join G' P' H' → I i us G' →
      (∀ y G2 H2, Ex G' G2 → Join G2 P' H2 → I (i + 1) (us ++ [y]) G2 → S (.ref b) y H2) →
      g (.ref b) (wipe σ ts) H' fun σ2 H2 => wipe σ2 ts = wipe σ ts ∧ tt σ2 H2 fun c H3 => if c = true then tk σ2 H3 fun y H4 => tv σ2 H4 fun z H5 => S y z H5 else R0 H3)
    (hq : ∀ D us G' P' H', H D = none → Ex G G' → Ex P P' → NT P' → Join G' P' H' → P' D = some (.dT (tK (kss.zip us))) → us.length = kss.length → I kss.length us G' → Q (.ref D) H') : aDcLT K g tt tk tv ts σ Q (.ref a) H := by
  refine ⟨a, rfl, ⟨_, sqL (J.g _ _ ha)⟩, fun D hD => ?_⟩
  have gD : G D = none := J.ng hD
  have pD : P D = none := J.np hD
  refine ⟨fun i m H' => m = kss.length - i ∧ i ≤ kss.length ∧ ∃ G' P' us, Ex G G' ∧ Ex P P' ∧ NT P' ∧ P' D = some (.dT (tK ((kss.take i).zip us))) ∧ us.length = i ∧ I i us G' ∧ Join G' P' H', ⟨kss.length, by simp, Nat.zero_le _, G, upd P D (.dT []), [], Ex.refl _, Ex.new pD, nt.upd (fun _ e => (nomatch e)), upd_same, rfl, h0, J.setP gD⟩, ?_⟩
  rintro i m H' ⟨rfl, hi, G', P', us, e', eP, nt', hDs, hul, hI, j'⟩
  have haH : H' a = some (.lst us0) := j'.g _ _ (e' _ _ ha)
  by_cases hlt : i < kss.length
  · have hki : kss[i]? = some kss[i] := List.getElem?_eq_getElem hlt
    obtain ⟨b, hb1, hb2⟩ := hb0 i _ hki
    refine .inr ⟨⟨us0, .ref b, sqL haH, hb1⟩, fun H2 => ∃ G' P' us, Ex G G' ∧ Ex P P' ∧ NT P' ∧ P' D = some (.dT (tK ((kss.take (i + 1)).zip us))) ∧ us.length = i + 1 ∧ I (i + 1) us G' ∧ Join G' P' H2, fun H2 p => ⟨kss.length - (i + 1), by omega, rfl, by omega, p⟩, fun x H2 y => ?_⟩
    obtain ⟨rfl, hy⟩ := y
    have hx := hy us0 (sqL haH)
    rw [hb1] at hx
    obtain rfl : V.ref b = x := Option.some.inj hx
    have hnot : kss[i] ∉ kss.take i := fun hm => by
      obtain ⟨q, hq⟩ := List.getElem?_of_mem hm
      have hq1 := (List.getElem?_eq_some_iff.mp hq).1
      rw [List.length_take] at hq1
      rw [List.getElem?_take_of_lt (by omega)] at hq
      obtain ⟨a1, a2⟩ := List.getElem?_eq_some_iff.mp hq
      have := (List.getElem_inj hn).mp a2
      omega
    refine (hs i _ b us G' P' _ (fun y z H5 => ∃ H6, DPut H5 D y z H6 ∧ ∃ G' P' us, Ex G G' ∧ Ex P P' ∧ NT P' ∧ P' D = some (.dT (tK ((kss.take (i + 1)).zip us))) ∧ us.length = i + 1 ∧ I (i + 1) us G' ∧ Join G' P' H6) _ hki (e' _ _ hb2) e' nt' j' hI fun y G2 H3 e2 j2 hI2 => ?_)
    refine ⟨_, DPut.t (k := kss[i].map Sum.inl) (j2.p _ _ hDs) (by rw [tup_kV]; exact j2.g _ _ (e2 _ _ (e' _ _ hb2))) (szlt ?_), G2, _, us ++ [y], e'.trans e2, fun c o hc => ?_, nt'.upd fun _ e => (by cases e), ?_, by rw [List.length_append, hul]; rfl, hI2, j2.setPo hDs⟩
    · rw [tK_len, List.length_zip, List.length_take, hul]; omega
    · rw [upd_ne (ne_of_none hc pD)]; exact eP c o hc
    · rw [upd_same, tK_put, take_more hki, zipK_put (by rw [List.length_take, hul]; omega) hnot]
  · have ei : i = kss.length := by omega
    subst ei
    refine .inl ⟨⟨us0, sqL haH, by omega⟩, hq D us G' P' _ hD e' eP nt' j' ?_ hul hI⟩
    rw [hDs, List.take_of_length_le (Nat.le_refl _)]
end
end Lv

/-! d.setdefault(t, x), t a tuple -/
namespace Lv
open PySem PySem.Spec PyProof.Rows L2
variable [TabA]
def tDSetdT (td ty tx : TE) : TE := fun σ H Q => td σ H fun x H1 => ∃ a, x = .ref a ∧ IsD H1 a ∧ ty σ H1 fun y H2 => tx σ H2 fun z H3 => ∃ (kvs : List (List L2.Key × V)) (k : List L2.Key) (b : Addr), H3 a = some (.dT kvs) ∧ y = .ref b ∧ H3 b = some (.tup (k.map kV)) ∧ kvs.length < sizeLine ∧
  (∀ v, valV kvs k = some v → Q v H3) ∧ (valV kvs k = none → Q z (upd H3 a (.dT (putK kvs k z))))
section
variable {X : Cx}
theorem d_setdT {pins : List (Addr × Obj)} {σ : L2.St} {H : Hp} {s : Shared} {a b : Addr} {r : Value} {d : V} {k : List L2.Key} {kvs : List (List L2.Key × V)} {E : Value → Shared → Prop} {Q : Value → Shared → Prop} (hu : X.A.units + 1 < cLine) (I : L2.Inv X pins σ H s) (e : H a = some (.dT kvs)) (eb : H b = some (.tup (k.map kV))) (rd : L2.RelV d r) (hl : kvs.length < sizeLine)
    (h1 : ∀ v, valV kvs k = some v → ∀ (w' : Value) (s' : Shared), L2.Inv X pins σ H s' → L2.RelV v w' → Q w' s') (h2 : valV kvs k = none → ∀ (w' : Value) (s' : Shared), L2.Inv X pins σ (upd H a (.dT (putK kvs k d))) s' → L2.RelV d w' → Q w' s') :
    wpAny (model X.prog X.w) X.A (call (.builtin "dict.setdefault") [.ref a, .ref b, r]) Q E s := by
  obtain ⟨z, hd, xs, rel, dd⟩ := dt_of I.hok e
  have hz : xs.length ≤ sizeLine := by rw [← Paired.length rel]; exact z
  have hl2 : (putK kvs k d).length ≤ sizeLine := by have := length_putK kvs k d; omega
  refine call_setdefault_heap (knd := tupleKind (mixKind X.prog X.w)) (k := k) (hsz := hz) (tupleKind_room_in1 hu) (key_of I.hok eb) hd dd (fun p hp => ?_) fun hn h' dd' hs => ?_
  · have q := rel.val k
    rw [hp] at q
    cases q0 : valV kvs k with
    | none => rw [q0] at q; exact (show False from q).elim
    | some v0 => rw [q0] at q; exact h1 v0 q0 _ _ (I.tok _) q
  · have q := rel.val k
    rw [hn] at q
    cases q0 : valV kvs k with
    | some v0 => rw [q0] at q; exact (show False from q).elim
    | none =>
      refine h2 q0 _ _ ?_ rd
      obtain ⟨o, es, ep, hq, g2, g3, g4, _, g5⟩ := dd'
      refine d_write I (by rw [e]; exact True.intro) hs ⟨o, hq⟩ ⟨hl2, hd, _, (rel.put k eb rd).keeps fun c ys ec => ?_, o, es, ep, hq, g2, g3, g4, g5⟩
      rw [upd_ne (ne_of ec e (fun z => nomatch z))]
      exact ec
theorem pe_dsetdT {o e f : Expr} {td ty tx : TE} {apos cpos : Pos} (hu : X.A.units + 1 < cLine) (ho : PE X o td) (he : PE X e ty) (hf : PE X f tx) (m : M2 X o "setdefault" apos e f cpos) : PE X (.Call (.Attribute o "setdefault" apos) [e, f] [] cpos) (tDSetdT td ty tx) := by
  refine ⟨fun pins s σ H Q I h => ?_⟩
  refine wpAny_Call_method m.base m.few m.line PySem.F.plainAttrs_dict PySem.F.slot_dict_setdefault PySem.F.type_dict_setdefault (thn (ho.run pins s σ H _ I h) fun u s1 ⟨x, H1, I1, rx, a, ex, d, q1⟩ => ?_)
  subst ex
  obtain rfl : u = Value.ref a := rx
  obtain ⟨t1, t2, _⟩ := isD_at I1 d
  refine ⟨t1, t2, ?_⟩
  rw [m.trees]
  refine Calls.callWith_builtin rfl (Calls.evalArgs_plain (Calls.spliced_cons (thn (he.run pins s1 σ H1 _ I1 q1) fun iv s2 ⟨y, H2, I2, ry, q2⟩ =>
    Calls.spliced_cons (thn (hf.run pins s2 σ H2 _ I2 q2) fun fv s3 ⟨z, H3, I3, rz, kvs, k, b, ea, ey, eb, hl, q3, q4⟩ => Calls.spliced_nil ?_))))
  subst ey
  cases (show iv = Value.ref b from ry)
  exact d_setdT hu I3 ea eb rz hl (fun v hv w' s4 I4 rw' => ⟨v, _, I4, rw', q3 v hv⟩) fun hn w' s4 I4 rw' => ⟨z, _, I4, rw', q4 hn⟩
end
section
variable {σ : L2.St} {G P H : Hp} {Q : VK} {td ty tx : TE} {d : Addr}
def aDSetdT (ty tx : TE) (σ : L2.St) : V → Hp → VK → Prop := fun x H1 Q => ∃ a, x = .ref a ∧ IsD H1 a ∧ ty σ H1 fun y H2 => tx σ H2 fun z H3 => ∃ (kvs : List (List L2.Key × V)) (k : List L2.Key) (b : Addr), H3 a = some (.dT kvs) ∧ y = .ref b ∧ H3 b = some (.tup (k.map kV)) ∧ kvs.length < sizeLine ∧
  (∀ v, valV kvs k = some v → Q v H3) ∧ (valV kvs k = none → Q z (upd H3 a (.dT (putK kvs k z))))
theorem w_dsetdT (h : td σ H fun x H1 => aDSetdT ty tx σ x H1 Q) : tDSetdT td ty tx σ H Q := h
def rDSetdT (a : Addr) : V → V → Hp → VK → Prop := fun y z H3 Q => ∃ (kvs : List (List L2.Key × V)) (k : List L2.Key) (b : Addr), H3 a = some (.dT kvs) ∧ y = .ref b ∧ H3 b = some (.tup (k.map kV)) ∧ kvs.length < sizeLine ∧
  (∀ v, valV kvs k = some v → Q v H3) ∧ (valV kvs k = none → Q z (upd H3 a (.dT (putK kvs k z))))
theorem dsetdT_go (h : IsD H d) (q : ty σ H fun y H2 => tx σ H2 fun z H3 => rDSetdT d y z H3 Q) : aDSetdT ty tx σ (.ref d) H Q := ⟨d, rfl, h, q⟩
end
end Lv

/-! a lambda without arguments, handed to a def that calls it -/
namespace Lv
open PySem PySem.Spec PyProof.Rows L2 LamX
variable [TabA]
section
variable {X : Cx} {pins : List (Addr × Obj)} {σ : L2.St} {H : Hp} {s : Shared}
/-- as lam_make2; only the table at P changes -/
theorem lam_make3 {T : List (Addr × Str)} {c P : Addr} {params : Arguments} {body : Expr} {scope : Scope} {pos : Pos} {E : Value → Shared → Prop} {Q : Value → Shared → Prop} (I : Inv X pins σ H s) (TB : TabB X.base X.mg c P) (hcode : X.env.code = .ref c)
    (hm : (P, X.env.qual ++ "<lambda>") ∈ T) (hu : ∀ p ∈ T, p.1 = P → p.2 = X.env.qual ++ "<lambda>") (hT : Tabs T H) (hdef : defaultsOf params X.env = ([], [])) (hfree : ∀ y ∈ scope.names, y.2 = .free → ∃ c, X.env.cells.lookup y.1 = some c)
    (h : ∀ (f c' : Addr) (pm ctv : Value) (H1 : Hp) (s' : Shared), Inv X pins σ H1 s' → (∀ b o, H b = some o → b ≠ P → H1 b = some o) → Tabs T H1 →
      s'.heap.get? f = some (PySem.W.kla_obj "<lambda>" (X.env.qual ++ "<lambda>") params body scope (cloFrom X.env.cells scope.names []) pm c' ctv) → H1 f = none → f ∉ frs X.stack → H1 c' = some (CodeO c' (X.env.qual ++ "<lambda>")) → Q (.ref f) s') :
    wpAny (model X.prog X.w) X.A (eval (.Lambda params body scope pos) X.env) Q E s := by
  obtain ⟨ps, hP, ht, ha⟩ := hT _ hm
  refine PySem.W.kla_eval hdef ?_
  have bP : s.heap.BuiltinsAt X.mg P := TB.bm.keeps I.bk
  have hP' : s.heap.get? P = some { cls := .none, data := .fields ps } := I.hok P _ hP
  have nofr : ∀ f, s.heap.objs.size ≤ f → f ∉ frs X.stack := fun f hf z => by
    rcases List.mem_cons.mp (I.stkSub _ z) with e | e
    · have h1 := I.lt
      rw [← e] at h1
      exact Nat.lt_irrefl _ (Nat.lt_of_lt_of_le h1 hf)
    · exact I.nofs hf e
  cases hc : codeAmong pos ps.toList with
  | none =>
    refine PySem.W.kla_makeFunction (mg := X.mg) (c := c) (P := P) (ps := ps) (closure_ok hfree) I.ok.glob (I.mod.glob.keeps I.bk) hcode (TB.code.keeps I.bk) hP' ht hc TB.gP bP fun c' ctv h' tk hx hge hlt hrec htb => ?_
    obtain ⟨c2, oc, vs, t, e2, hoc, hd, hv⟩ := hrec
    cases e2
    have hsz : s.heap.objs.size ≤ h'.objs.size := Nat.le_trans hge (Nat.le_of_lt hlt)
    have nC : H c' = none := I.hok.fresh hge
    have I1 := inv_table (t' := tk) (more := #[rawInt pos.line, rawInt pos.col, .ref c']) (h' := h'.push (PySem.W.kla_obj "<lambda>" (X.env.qual ++ "<lambda>") params body scope (cloFrom X.env.cells scope.names []) ((X.mg "__name__").getD .none) c' ctv)) I hP
      (fun b o hb e => Heap.get?_push_of_some _ (hx b o hb e)) (Heap.get?_push_of_some _ htb) hge ⟨oc, vs, t, Heap.get?_push_of_some _ hoc, hd, hv⟩
    have hE : ∀ b o, H b = some o → b ≠ P → (upd (upd H P (.tbl (ps ++ #[rawInt pos.line, rawInt pos.col, .ref c']))) c' (CodeO c' (X.env.qual ++ "<lambda>"))) b = some o := fun b o e n => by
      rw [upd_ne (ne_of_none e nC), upd_ne n]
      exact e
    have cP : ∀ {c0 : Addr} {q : Str}, H c0 = some (CodeO c0 q) → c0 ≠ P := fun {c0 q} e z => by
      rw [z, hP] at e
      exact codeO_ne ps (Option.some.inj e).symm
    have eL : (ps ++ #[rawInt pos.line, rawInt pos.col, .ref c']).toList = ps.toList ++ [rawInt pos.line, rawInt pos.col, .ref c'] := by simp
    refine h h'.objs.size c' ((X.mg "__name__").getD .none) ctv _ _ I1 hE (fun p hp => ?_) (Heap.get?_push_size _ rfl) ?_ (nofr _ hsz) upd_same
    · by_cases hb : p.1 = P
      · rw [hu p hp hb, hb]
        refine ⟨_, by rw [upd_ne (ne_of_none hP nC), upd_same], by rw [eL]; exact PySem.TriplesOk_snoc _ _ _ _ ht, fun p' cv hcv => ?_⟩
        rw [eL] at hcv
        rcases among_app _ ht hcv with z | z
        · obtain ⟨c0, e1, e2⟩ := ha p' cv z
          exact ⟨c0, e1, hE _ _ e2 (cP e2)⟩
        · exact ⟨c', z, upd_same⟩
      · obtain ⟨ps', a1, a2, a3⟩ := hT p hp
        refine ⟨ps', by rw [upd_ne (ne_of_none a1 nC), upd_ne hb]; exact a1, a2, fun p' cv hcv => ?_⟩
        obtain ⟨c0, e1, e2⟩ := a3 p' cv hcv
        exact ⟨c0, e1, hE _ _ e2 (cP e2)⟩
    · have n1 : h'.objs.size ≠ c' := Nat.ne_of_gt hlt
      have n2 : h'.objs.size ≠ P := Nat.ne_of_gt (Nat.lt_of_lt_of_le (Heap.lt_size hP') hsz)
      rw [upd_ne n1, upd_ne n2]
      exact I.hok.fresh hsz
  | some cv =>
    obtain ⟨c', e, hco⟩ := ha pos cv hc
    subst e
    refine PySem.W.kla_makeFunctionHit (mg := X.mg) (c := c) (P := P) (ps := ps) (closure_ok hfree) I.ok.glob (I.mod.glob.keeps I.bk) hcode (TB.code.keeps I.bk) hP' ht hc bP fun ctv h' tk hx hsz => ?_
    have I1 : Inv X pins σ H { s with heap := h'.push (PySem.W.kla_obj "<lambda>" (X.env.qual ++ "<lambda>") params body scope (cloFrom X.env.cells scope.names []) ((X.mg "__name__").getD .none) c' ctv), toks := tk } := I.kept fun b o e => Heap.get?_push_of_some _ (hx b o e)
    exact h h'.objs.size c' ((X.mg "__name__").getD .none) ctv H _ I1 (fun b o e _ => e) hT (Heap.get?_push_size _ rfl) (I.hok.fresh hsz) (nofr _ hsz) hco
end
section
variable {X : Cx} {pins : List (Addr × Obj)} {σ : L2.St} {H HZ : Hp} {s s1 : Shared}
/-- as pe_act; what the lambda lets out is taken as the state stands -/
theorem pe_actS {CXg : CXT} {Eg : XK} {Ng : List Str} {qg : Str} {sg : Scope} {g f c' : Addr} {cdg pm ctv : Value} {params : Arguments} {body : Expr} {scope : Scope} {k i : Nat} {a : Str} {pn : List (Addr × Obj)} {xe : Value → Shared → Prop} {W : WX} {t : XK → TE} {p1 p2 : Pos}
    (I : Inv X pins σ H s) (L : LamS X.env.scope scope) (hf : s.heap.get? f = some (PySem.W.kla_obj "<lambda>" (X.env.qual ++ "<lambda>") params body scope (cloFrom X.env.cells scope.names []) pm c' ctv)) (hfn : H f = none) (hfr : f ∉ frs X.stack)
    (hbind : bindArgs (PySem.W.kla_fn "<lambda>" (X.env.qual ++ "<lambda>") params body scope (cloFrom X.env.cells scope.names []) pm (.ref c') ctv) ⟨[], []⟩ = pure [])
    (tk : Takes ((cxOf CXg X.prog X.w X.K X.mg X.base Ng qg sg g cdg X.A X.stack s H Eg).tr pn xe) W) (hr : Room (k + 1) (X.A.deeper (envOfC qg sg s.heap.objs.size g cdg)))
    (hbody : ∀ (A : Around) (outer : List Env) (s : Shared) (H : Hp) (E : XK), Room k (A.deeper (lamEnv X scope s.heap.objs.size f c')) → PE (lamCx X A outer s H E scope f c') body (t E))
    (hN : Ng[i]? = some a) (hv : Vis sg a) (hd : (a == ("__debug__" : Str)) = false := by decide) (hcd : (a == ("__classdict__" : Str)) = false := by decide) :
    PE ((cxOf CXg X.prog X.w X.K X.mg X.base Ng qg sg g cdg X.A X.stack s H Eg).tr pn xe) (.Call (.Name a p1) [] [] p2)
      (fun σZ HZ Q => σZ[i]? = some (some (.ref f)) ∧ HZ c' = some (CodeO c' (X.env.qual ++ "<lambda>")) ∧ t (L2.WE W σZ) σ HZ Q) := by
  refine ⟨fun pinsZ sZ σZ HZ Q IZ h => ?_⟩
  obtain ⟨hs, hc, ht⟩ := h
  refine wpAny_Call_Name_kw (thn ((pe_var (pos := p1) (i := i) hN hv hd hcd).run pinsZ sZ σZ HZ (fun v H1 => v = .ref f ∧ H1 = HZ) IZ ⟨.ref f, hs, rfl, rfl⟩) fun u s1 ⟨v, H1, I1, r1, q1⟩ => ?_)
  obtain ⟨ev, eH⟩ := q1
  subst ev
  rw [eH] at I1
  obtain rfl : u = Value.ref f := r1
  have of1 : s1.heap.get? f = some (PySem.W.kla_obj "<lambda>" (X.env.qual ++ "<lambda>") params body scope (cloFrom X.env.cells scope.names []) pm c' ctv) := I1.base.keep f _ hf hfn hfr (fun z => nomatch (show f ∈ ([] : List Addr) from z))
  refine PySem.W.callWith_F0 ⟨_, _, _, _, of1⟩ ?_
  have un : Un (frs X.stack) [] H HZ s.heap s1.heap := I1.base
  obtain ⟨⟨oc, vs, t, hoc, hdc, hvc⟩, _, _⟩ := I1.hok c' _ hc
  have rc : codeAny (model X.prog X.w) (X.A.deeper (envOfC qg sg s.heap.objs.size g cdg)) (.call (.ref f) ⟨[], []⟩) (CR (L2.CX X.prog X.w) (envOfC qg sg s.heap.objs.size g cdg :: X.stack) X.prog X.w HZ s1 Q (L2.WE W σZ)) s1 := by
    refine PySem.W.kla_callFunE hr.depth of1 rfl L.co L.gen rfl ⟨c', oc, vs, t, rfl, hoc, hdc, hvc⟩ ?_
    rw [hbind]
    refine wpAny_pure (wpAny_newFunctionEnv (fun y hy => (L.own y hy).2) (fun y hy => absurd hy (by simp)) (fun h₁ hns hsb => ⟨I1.nolimit.fresh _ hsb, ?_⟩) L.kind)
    show codeAny _ _ (.expr body (lamEnv X scope s1.heap.objs.size f c')) _ _
    have kp : ∀ b o, s1.heap.get? b = some o → h₁.get? b = some o := fun b o e => hsb.extBut b o (Nat.ne_of_lt (Heap.lt_size e)) (Heap.get?_push_of_some _ e)
    have J : Inv (lamCx X (X.A.deeper (envOfC qg sg s.heap.objs.size g cdg)) (envOfC qg sg s.heap.objs.size g cdg :: X.stack) s1 HZ (L2.WE W σZ) scope f c') [] σ HZ { s1 with heap := h₁, toks := s1.toks + ([] : List (Str × Value)).length } :=
      lam_start2 I L I1.env0 hr.hd un hns kp
    refine PySem.W.kla_codeExpr (wpAny_mono ((hbody _ _ s1 HZ _ (hr.deeper _)).run [] _ _ HZ Q J ht) (fun v s' hq => ?_) fun e s' hq => hq)
    obtain ⟨w', H', J', rv, q⟩ := hq
    exact ⟨w', H', J'.os, J'.bare, J'.base, J'.hok, rv, q⟩
  have hx := L2.passAt tk σZ
  refine wpAny_call (codeAny_mono rc fun r s' hq => ?_)
  cases r with
  | error e => exact hx pinsZ HZ s1 e s' I1 hq
  | ok fl =>
    cases fl with
    | ret u => exact I1.after hq
    | next => exact False.elim hq
    | brk => exact False.elim hq
    | cont => exact False.elim hq
end
/-- what a def makes of the lambda in its first parameter a: TT of the lambda's reading -/
def GivesP (P : Program) (w : World) (K : PySem.W.Frag) (mg : Str → Option Value) (base : Heap) (A : Around) (outer : List Env) (k : Nat) (Ng : List Str) (x : Str) (sg : Scope) (g : Addr) (cdg : Value) (bg : List Stmt) (a : Str) (q : Str) (TT : (XK → Hp → VK → Prop) → Hp → VK → Prop) : Prop :=
  ∀ (f c' : Addr) (s : Shared) (H : Hp) (Q : VK) (tl : XK → Hp → VK → Prop), Room k (A.deeper (envOfC x sg s.heap.objs.size g cdg)) →
    (∀ (W : WX) (pn : List (Addr × Obj)) (xe : Value → Shared → Prop) (p1 p2 : Pos), Takes ((cxOf C8.CX0 P w K mg base Ng x sg g cdg A outer s H C8.E0).tr pn xe) W →
      PE ((cxOf C8.CX0 P w K mg base Ng x sg g cdg A outer s H C8.E0).tr pn xe) (.Call (.Name a p1) [] [] p2) (fun σZ HZ Q => σZ[0]? = some (some (.ref f)) ∧ HZ c' = some (CodeO c' q) ∧ tl (L2.WE W σZ) HZ Q)) →
    H c' = some (CodeO c' q) → TT tl H Q →
    ∃ t, PSs (cxOf C8.CX0 P w K mg base Ng x sg g cdg A outer s H C8.E0).nox bg t ∧ t { nx := fun _ H' => Q .non H', rt := Q } (L2.start Ng [.ref f]) H
/-- a def that calls what it got -/
structure DnL (P : Program) (w : World) (K : PySem.W.Frag) (mg : Str → Option Value) (base : Heap) (k : Nat) (x : Str) (TT : (XK → Hp → VK → Prop) → Hp → VK → Prop) : Prop where
  out : ∃ (g : Addr) (fd : FuncData) (params : Arguments) (bg : List Stmt) (sg : Scope) (Ng : List Str) (a : Str), FunD K x x params bg sg [] [] g fd ∧ mg x = some (.ref g) ∧ L2.Binds K fd [a] [] ∧ FnScope Ng [a] sg ∧ Ng[0]? = some a ∧ Vis sg a ∧ (a == ("__debug__" : Str)) = false ∧ (a == ("__classdict__" : Str)) = false ∧ (x == ("__debug__" : Str)) = false ∧
    ∀ (cdv : Value) (A : Around) (outer : List Env) (q : Str), GivesP P w K mg base A outer k Ng x sg g cdv bg a q TT
def tLamP (T : List (Addr × Str)) (P : Addr) (TT : (XK → Hp → VK → Prop) → Hp → VK → Prop) (t : XK → TE) : TE := fun σ H Q => Tabs T H ∧ ∀ H1, (∀ b o, H b = some o → b ≠ P → H1 b = some o) → Tabs T H1 → TT (fun E H' Q' => t E σ H' Q') H1 Q
section
variable {X : Cx}
/-- x(lambda: body) -/
theorem pe_lam {T : List (Addr × Str)} {TT : (XK → Hp → VK → Prop) → Hp → VK → Prop} {x : Str} {c P : Addr} {k : Nat} {params : Arguments} {body : Expr} {scope : Scope} {t : XK → TE} {p lpos pos : Pos} (D : DnL X.prog X.w X.K X.mg X.base (k + 1) x TT) (hg : Gl X x)
    (TB : TabB X.base X.mg c P) (hcode : X.env.code = .ref c) (hmT : (P, X.env.qual ++ "<lambda>") ∈ T) (hu : ∀ p ∈ T, p.1 = P → p.2 = X.env.qual ++ "<lambda>") (hr : Room (k + 2) X.A) (L : LamS X.env.scope scope) (hdef : defaultsOf params X.env = ([], []))
    (hbind : ∀ (q : Str) (cl : List (Str × Addr)) (pm cv ctv : Value), bindArgs (PySem.W.kla_fn "<lambda>" q params body scope cl pm cv ctv) ⟨[], []⟩ = pure [])
    (hbody : ∀ (A : Around) (outer : List Env) (s : Shared) (H : Hp) (E : XK) (f c' : Addr), Room k (A.deeper (lamEnv X scope s.heap.objs.size f c')) → PE (lamCx X A outer s H E scope f c') body (t E)) :
    PE X (.Call (.Name x p) [.Lambda params body scope lpos] [] pos) (tLamP T P TT t) := by
  obtain ⟨g, fd, pg, bg, sg, Ng, a, F, hm, hb, Sg, hNg, hva, hd, hcd, hdb, hG⟩ := D.out
  obtain ⟨oc, od, dV, kV, doc, pm, an, cdv, ct, osl, rfl, lk, hcg, _, _⟩ := F.ex
  refine ⟨fun pins s σ H Q I h => ?_⟩
  obtain ⟨hT, h⟩ := h
  refine wpAny_Call_Name_kw (ld_glob I hg hm ?_ hdb)
  refine PySem.W.callWith_K (h₀ := X.base) I.ok.mod.kin F.kp ?_ (by rfl) (by rfl)
  show wpAny _ _ (spliced ((false, eval (.Lambda params body scope lpos) X.env) :: backTo pos (starEach [] X.env))) _ _ s
  refine Calls.spliced_cons (lam_make3 I TB hcode hmT hu hT hdef (L.has I.ok) fun f c' pm' ctv H1 s' I1 eN T1 hf hfn hfr hco => ?_)
  refine Calls.spliced_nil ⟨I1.kIn, ?_⟩
  have rc : codeAny (model X.prog X.w) X.A (.call (.ref g) ⟨[.ref f], []⟩) (CR C8.CX0 X.stack X.prog X.w H1 s' Q C8.E0) s' := by
    refine run_ofS (N := Ng) (ps := [a]) (us := [.ref f]) (vs := [.ref f]) lk hcg Sg hr I1.env0 (hb s' [.ref f] I1.kIn rfl) (.cons rfl .nil) rfl fun hr' => ?_
    obtain ⟨t', ht', hq'⟩ := hG cdv X.A X.stack _ f c' s' H1 Q (fun E H' Q' => t E σ H' Q') hr' (fun W pn xe p1 p2 tk => pe_actS (i := 0) I1 L hf hfn hfr (hbind _ _ _ _ _) tk hr' (fun A outer s H E hr2 => hbody A outer s H E f c' hr2) hNg hva hd hcd) hco (h H1 eN T1)
    exact ⟨t', ht'.nox, hq'⟩
  refine wpAny_call (codeAny_mono rc fun r s2 hq => ?_)
  cases r with
  | error e => exact (show False from hq).elim
  | ok fl =>
    cases fl with
    | ret u => exact I1.after hq
    | next => exact False.elim hq
    | brk => exact False.elim hq
    | cont => exact False.elim hq
end
theorem lam_go {P0 : Addr} {q : Str} {TT : (XK → Hp → VK → Prop) → Hp → VK → Prop} {t : XK → TE} {σ : L2.St} {G P H : Hp} {Q : VK} (j : Join G P H) (hm : (P0, q) ∈ TabA.T)
    (h : ∀ (G' H' : Hp), Ex G G' → Join G' P H' → TT (fun E H2 Q' => t E σ H2 Q') H' Q) : tLamP TabA.T P0 TT t σ H Q := by
  have ht : tabI P0 = true := tabI_mem (q := (P0, q)) hm
  refine ⟨j.tab, fun H1 e1 T1 => ?_⟩
  have e3 : ∀ b o, H b = some o → tabI b = false → H1 b = some o := fun b o h n => e1 b o h (fun z => by rw [z, ht] at n; cases n)
  exact h (grG P H1) H1 (j.growNEx e3) (j.growN e3 T1)
end Lv

/-! isinstance(e, C) of an error that has fields of its own -/
namespace PySem.W
open PySem PySem.Spec PySem.Calls PyProof.Rows
section
variable {prog : Program} {w : World} {A : Around} {E : Value → Shared → Prop} {s : Shared} {K : Frag} {x D : Addr} {ox : Obj}
theorem findObj_dataD {C : Addr} {name : Str} {a g : Value} {od : Option Obj} (hc : (clsIn K C).isSome = true) (ha : findIn K (.ref C) name = some (some a)) (hg : specialIn K a "__get__" = some (some g)) (ht : takesIn K a = some true) : findObj K C od name = some (.bind g a) := by
  obtain ⟨cd, hc⟩ := Option.isSome_iff_exists.mp hc
  unfold findObj
  rw [hc, Option.bind_some, ha, Option.bind_some]
  simp [hg, ht]
theorem kin_classD {od : Option Obj} {Q : Option Value → Shared → Prop} (hga : findIn K (.ref D) "__getattribute__" = some (some (.builtin "BaseException.__getattribute__"))) (hgt : findIn K (.ref D) "__getattr__" = some none) (hsub : subIn K (.ref D) (.type "BaseException") = some true)
    (hdct : hasDictIn K D = true) (ha : findIn K (.ref D) "__class__" = some (some (.builtin "object.__class__")))
    (hn : specialIn K (.builtin "object.__class__") "__get__" = some (some (.builtin "getset_descriptor.__get__"))) (htk : takesIn K (.builtin "object.__class__") = some true) (hm : mroIn K D (.type "object") = some true)
    (X : K.In s.heap) (I : InstAt s.heap x ox D od) (h : Q (some (.ref D)) { s with toks := s.toks + 1 }) : wpAny (model prog w) A (getAttr? (.ref x) "__class__") Q E s := by
  have hf : findObj K D od "__class__" = some (.bind (.builtin "getset_descriptor.__get__") (.builtin "object.__class__")) := findObj_dataD (by obtain ⟨cd, hc, _⟩ := any_some hdct; rw [hc]; rfl) ha hn htk
  obtain ⟨hp, g, d, t, os⟩ := s
  have L0 := I.type (M := model prog w)
  have L1 := looks_findIn (M := model prog w) X hga
  have L2 := looks_findIn (M := model prog w) X hgt
  have L3 := looks_find (M := model prog w) X I hf
  have sub : Looks (model prog w) hp (isInstance (.ref x) (.type "BaseException")) true := L0.andThen (looks_subIn X hsub)
  have hx0 : (false && onTheHeap (Value.builtin "BaseException.__getattribute__")) = false := rfl
  have hx2 : (Value.builtin "BaseException.__getattribute__" == Value.builtin "object.__getattribute__") = false := by decide +kernel
  have hx1 : (onTheHeap (Value.ref D) && Value.builtin "BaseException.__getattribute__" == Value.builtin "object.__getattribute__") = false := by rw [hx2]; rfl
  unfold getAttr? getAttrBy? getAttrBy
  refine wpAny_bind (wpAny_mkText (wpAny_bind (wpAny_attempt (wpAny_holding (wpAny_bind (L0.at (wpAny_bind (L1.at ?_))))))))
  show wpAny _ _ (if (onTheHeap (Value.ref D) && Value.builtin "BaseException.__getattribute__" == Value.builtin "object.__getattribute__") = true then _ else _) _ _ _
  rw [hx1, if_neg Bool.false_ne_true]
  unfold getAttrByItsOwn hookBefore
  refine wpAny_bind ?_
  rw [if_pos (show onTheHeap (Value.ref D) = true from rfl)]
  refine L2.at ?_
  refine wpAny_bind (wpAny_attempt (wpAny_holding ?_))
  unfold callGetattribute
  rw [hx0, if_neg Bool.false_ne_true]
  unfold boundAndCalled
  rw [PySem.F.excAttr_ValueError.ga.bind (.ref x)]
  refine wpAny_bind (wpAny_pure ?_)
  show wpAny _ _ (call (.builtin "BaseException.__getattribute__") [.ref x, .str "__class__" t]) _ _ _
  refine wpAny_call (codeAny_call_builtin PySem.F.excAttr_ValueError.ga.plain PySem.F.entry_bexc_ga ?_)
  refine @check_slot (model prog w) _ _ ⟨hp, g, d, t + 1, os⟩ "BaseException.__getattribute__" "BaseException" "__getattribute__" (.ref x) [.str "__class__" t] [] _ (by decide +kernel) (by decide +kernel) sub (PySem.F.args_bexc_ga (.ref x) (.str "__class__" t)) ?_
  unfold Builtin.«object.__getattribute__»
  refine wpAny_bind (wpAny_of_eq (a := ((Value.ref x : Value), [Value.str "__class__" t])) (by first | rfl | (simp only [slotArgs]; rfl)) ?_)
  refine wpAny_bind (wpAny_pure (wpAny_bind (L0.at (wpAny_bind (L3.at ?_)))))
  show wpAny _ _ (holding [Value.builtin "object.__class__"] (call (.builtin "getset_descriptor.__get__") [.builtin "object.__class__", .ref x, .ref D]) >>= ret) _ _ _
  refine wpAny_bind (wpAny_holding (wpAny_call (class_get (s := ⟨hp, g, d, t + 1, os⟩) (ox := ox) (od := od) X I hm ?_)))
  refine wpAny_pure ?_
  show wpAny _ _ (handedOut (.ref D)) _ _ _
  rw [handedOut_of (v := .ref D) rfl]
  first
    | exact wpAny_pure (wpAny_pure h)
    | exact wpAny_pure h
    | exact wpAny_pure (wpAny_bind (wpAny_pure (wpAny_pure h)))
theorem kitx_excD {od : Option Obj} (hga : findIn K (.ref D) "__getattribute__" = some (some (.builtin "BaseException.__getattribute__"))) (hgt : findIn K (.ref D) "__getattr__" = some none) (hsub : subIn K (.ref D) (.type "BaseException") = some true) (hdct : hasDictIn K D = true) (ha : findIn K (.ref D) "__class__" = some (some (.builtin "object.__class__")))
    (hn : specialIn K (.builtin "object.__class__") "__get__" = some (some (.builtin "getset_descriptor.__get__"))) (htk : takesIn K (.builtin "object.__class__") = some true) (hm : mroIn K D (.type "object") = some true) :
    KitX K (.ref x) (.ref D) (fun h => InstAt h x ox D od) where
  ty := fun _ _ _ I => I.type
  it := fun _ _ X _ => by
    obtain ⟨cdD, hcD, _⟩ := any_some hdct
    unfold clsIn at hcD
    split at hcD
    · rename_i c' d' cd' sl' ho
      intro A' Q' E' s' k q
      unfold isType loadHead
      exact wpAny_bind (wpAny_loadPart (k _ _ (X _ _ ho)) (wpAny_pure q))
    · cases hcD
  ne := fun h tp dd its n sl X htp => by
    obtain ⟨cdD, hcD, _⟩ := any_some hdct
    refine Bool.eq_false_iff.mpr fun q => ?_
    have e : D = tp := Value.ref.inj (beq_iff_eq.mp q)
    subst e
    unfold clsIn at hcD
    split at hcD
    · rename_i c' d' cd' sl' ho
      have z := (X _ _ ho).symm.trans htp
      cases z
    · cases hcD
  ca := fun X I k => kin_classD hga hgt hsub hdct ha hn htk hm X I k
end
end PySem.W
namespace Lv
open PySem PySem.Spec PyProof.Rows L2
variable [TabA]
/-- the dict of an error, if it has one -/
def DictIs (d : Option Addr) (H : Hp) : Prop := d = none ∨ ∃ dd fs, d = some dd ∧ H dd = some (.xd fs)
def rIsH (K : PySem.W.Frag) (cls : Value) (d : Option Addr) (a : Addr) : List V → Hp → VK → Prop := fun xs H Q => ∃ D, cls = .ref D ∧ DictIs d H ∧ ExcC K D ∧ rIsE K D a xs H Q
theorem call_isH {X : Cx} {a : Addr} {oe : Obj} {cls : Value} {d : Option Addr} {pn : List (Addr × Obj)} (hz : Zc cls d oe) (hf : ∃ vs, oe.data = .fields vs) : CallR (X.suite a ((a, oe) :: pn)) (.builtin "isinstance") (rIsH X.K cls d a) := by
  intro pins s σ H xs us Q I r h
  obtain ⟨D, rfl, hdi, C, c, cv, b, rfl, hcv, e, q⟩ := h
  cases r with
  | cons rx rr =>
    cases rr with
    | cons rt rr =>
      cases rr
      cases rx
      have ec := hcv _ rt
      subst ec
      obtain ⟨hget, _⟩ := I.pin (a, oe) (List.mem_append.mpr (.inl List.mem_cons_self))
      obtain ⟨vs, hv⟩ := hf
      have J : ∃ od, PySem.W.InstAt s.heap a oe D od := by
        obtain ⟨oc, od, oda, osl⟩ := oe
        obtain ⟨h1, h2⟩ := hz
        dsimp only at h1 h2 hv
        rcases hdi with rfl | ⟨dd, fs, rfl, hdd⟩
        · subst h1 h2 hv
          exact ⟨none, hget, rfl, rfl, trivial⟩
        · have hx : ObjOk X.prog X.w H s.heap dd (.xd fs) := I.hok dd _ hdd
          obtain ⟨mA, hns, hr⟩ := hx
          obtain ⟨ob, ho, hl⟩ := lookIn_ns hns
          subst h1 h2 hv
          exact ⟨some ob, hget, rfl, rfl, ho⟩
      obtain ⟨od, J⟩ := J
      exact PySem.W.kia_one (PySem.W.kitx_excD C.hg C.hk C.hs C.hd C.ha C.hn C.ht C.hm) I.kIn J e (fun z => nomatch z) fun tk => ⟨.bl b, H, I.kept (t' := tk) fun _ _ z => z, rfl, q⟩
theorem call_isHK {X : Cx} {K : PySem.W.Frag} {a : Addr} {oe : Obj} {cls : Value} {d : Option Addr} {pn : List (Addr × Obj)} (h : X.K = K) (hz : Zc cls d oe) (hf : ∃ vs, oe.data = .fields vs) : CallR (X.suite a ((a, oe) :: pn)) (.builtin "isinstance") (rIsH K cls d a) := h ▸ call_isH hz hf
section
variable {K : PySem.W.Frag} {H : Hp} {σ : L2.St} {Q : VK} {a : Addr} {d : Option Addr}
theorem w_isH {cls : Value} {as : TA} (h : as σ H fun vs H1 => rIsH K cls d a vs H1 Q) : tCB (rIsH K cls d a) as σ H Q := h
theorem isH_own {c y : Str} {cs : List Str} {b : Bool} (hB : excB K c cs = true) (hy : y ∈ cs) (hd : DictIs d H) (hb : decide (c = y) = b) (q : Q (.bl b) H) : rIsH K (.ref (He.ga K c)) d a [.ref a, .ref (He.ga K y)] H Q :=
  ⟨_, rfl, hd, (excB_ok hB).1, _, .ref (He.ga K y), _, rfl, fun u r => r, (excB_ok hB).2.2 y hy, hb ▸ q⟩
end
end Lv

/-! lambdas as values: made, handed on, called with arguments -/
namespace Lv
open PySem PySem.Spec PyProof.Rows L2 LamX NdefX
variable [TabA]
/-- the object at f is the lambda F (its body b) -/
def LamO (f : Addr) (F : NF) (b : Expr) : HO := .ext fun h => ∃ (od : Option Addr) (sl : Array (Option Value)) (pm ctv : Value), h.get? f = some (⟨.type "function", od, .func (PySem.W.kla_fn F.name F.qual F.params b F.scope F.cl pm (.ref F.c) ctv), sl⟩ : Obj)
theorem lamO_at {P : Program} {w : World} {H : Hp} {h : Heap} {f : Addr} {F : NF} {b : Expr} (hok : HOk P w H h) (e : H f = some (LamO f F b)) : ∃ (od : Option Addr) (sl : Array (Option Value)) (pm ctv : Value), h.get? f = some (⟨.type "function", od, .func (PySem.W.kla_fn F.name F.qual F.params b F.scope F.cl pm (.ref F.c) ctv), sl⟩ : Obj) := by
  obtain ⟨z, _, _⟩ := hok f _ e
  exact z
section
variable {X : Cx} {pins : List (Addr × Obj)} {σ : L2.St} {H : Hp} {s : Shared}
theorem inv_lam {F : NF} {b : Expr} {o : Obj} {t' : Nat} {pm ctv : Value} (I : Inv X pins σ H s) (ho : o = { cls := .type "function", data := .func (PySem.W.kla_fn F.name F.qual F.params b F.scope F.cl pm (.ref F.c) ctv) }) :
    Inv X pins σ (upd H s.heap.objs.size (LamO s.heap.objs.size F b)) { s with heap := s.heap.push o, toks := t' } := by
  subst ho
  refine I.laid (a := s.heap.objs.size) (fun b u e => Heap.get?_push_of_some _ e) (Nat.le_refl _) ?_
  have e : (s.heap.push ({ cls := .type "function", data := .func (PySem.W.kla_fn F.name F.qual F.params b F.scope F.cl pm (.ref F.c) ctv) } : Obj)).get? s.heap.objs.size = some ({ cls := .type "function", data := .func (PySem.W.kla_fn F.name F.qual F.params b F.scope F.cl pm (.ref F.c) ctv) } : Obj) := Heap.get?_push_size _ rfl
  exact ⟨⟨_, _, pm, ctv, e⟩, ⟨_, e⟩, fun h1 h2 ⟨od, sl, p, t, z⟩ st => ⟨od, sl, p, t, st _ z⟩⟩
/-- the words of a lambda made here -/
abbrev lamF (X : Cx) (params : Arguments) (scope : Scope) (c' : Addr) : NF := ⟨"<lambda>", X.env.qual ++ "<lambda>", params, [], scope, cloFrom X.env.cells scope.names [], c'⟩
theorem lam_makeV {T : List (Addr × Str)} {c P : Addr} {params : Arguments} {body : Expr} {scope : Scope} {pos : Pos} {E : Value → Shared → Prop} {Q : Value → Shared → Prop} (I : Inv X pins σ H s) (TB : TabB X.base X.mg c P) (hcode : X.env.code = .ref c)
    (hm : (P, X.env.qual ++ "<lambda>") ∈ T) (hu : ∀ p ∈ T, p.1 = P → p.2 = X.env.qual ++ "<lambda>") (hT : Tabs T H) (hdef : defaultsOf params X.env = ([], [])) (hfree : ∀ y ∈ scope.names, y.2 = .free → ∃ c, X.env.cells.lookup y.1 = some c)
    (h : ∀ (f c' : Addr) (H1 : Hp) (s' : Shared), Inv X pins σ H1 s' → (∀ b o, H b = some o → b ≠ P → H1 b = some o) → Tabs T H1 → H f = none → H1 f = some (LamO f (lamF X params scope c') body) → H1 c' = some (CodeO c' (X.env.qual ++ "<lambda>")) → Q (.ref f) s') :
    wpAny (model X.prog X.w) X.A (eval (.Lambda params body scope pos) X.env) Q E s := by
  obtain ⟨ps, hP, ht, ha⟩ := hT _ hm
  refine PySem.W.kla_eval hdef ?_
  have bP : s.heap.BuiltinsAt X.mg P := TB.bm.keeps I.bk
  have hP' : s.heap.get? P = some { cls := .none, data := .fields ps } := I.hok P _ hP
  cases hc : codeAmong pos ps.toList with
  | none =>
    refine PySem.W.kla_makeFunction (mg := X.mg) (c := c) (P := P) (ps := ps) (closure_ok hfree) I.ok.glob (I.mod.glob.keeps I.bk) hcode (TB.code.keeps I.bk) hP' ht hc TB.gP bP fun c' ctv h' tk hx hge hlt hrec htb => ?_
    obtain ⟨c2, oc, vs, t, e2, hoc, hd, hv⟩ := hrec
    cases e2
    have nC : H c' = none := I.hok.fresh hge
    have I1 := inv_table (t' := tk) (more := #[rawInt pos.line, rawInt pos.col, .ref c']) (h' := h') I hP (fun b o hb e => hx b o hb e) htb hge ⟨oc, vs, t, hoc, hd, hv⟩
    have hE : ∀ b o, H b = some o → b ≠ P → (upd (upd H P (.tbl (ps ++ #[rawInt pos.line, rawInt pos.col, .ref c']))) c' (CodeO c' (X.env.qual ++ "<lambda>"))) b = some o := fun b o e n => by
      rw [upd_ne (ne_of_none e nC), upd_ne n]
      exact e
    have cP : ∀ {c0 : Addr} {q : Str}, H c0 = some (CodeO c0 q) → c0 ≠ P := fun {c0 q} e z => by
      rw [z, hP] at e
      exact codeO_ne ps (Option.some.inj e).symm
    have eL : (ps ++ #[rawInt pos.line, rawInt pos.col, .ref c']).toList = ps.toList ++ [rawInt pos.line, rawInt pos.col, .ref c'] := by simp
    have T1 : Tabs T (upd (upd H P (.tbl (ps ++ #[rawInt pos.line, rawInt pos.col, .ref c']))) c' (CodeO c' (X.env.qual ++ "<lambda>"))) := fun p hp => by
      by_cases hb : p.1 = P
      · rw [hu p hp hb, hb]
        refine ⟨_, by rw [upd_ne (ne_of_none hP nC), upd_same], by rw [eL]; exact PySem.TriplesOk_snoc _ _ _ _ ht, fun p' cv hcv => ?_⟩
        rw [eL] at hcv
        rcases among_app _ ht hcv with z | z
        · obtain ⟨c0, e1, e2⟩ := ha p' cv z
          exact ⟨c0, e1, hE _ _ e2 (cP e2)⟩
        · exact ⟨c', z, upd_same⟩
      · obtain ⟨ps', a1, a2, a3⟩ := hT p hp
        refine ⟨ps', by rw [upd_ne (ne_of_none a1 nC), upd_ne hb]; exact a1, a2, fun p' cv hcv => ?_⟩
        obtain ⟨c0, e1, e2⟩ := a3 p' cv hcv
        exact ⟨c0, e1, hE _ _ e2 (cP e2)⟩
    have nF := I1.hok.fresh (Nat.le_refl _)
    have I2 := inv_lam (F := lamF X params scope c') (b := body) (t' := tk) (pm := (X.mg "__name__").getD .none) (ctv := ctv) I1 rfl
    refine h h'.objs.size c' _ _ I2 (fun b o e n => ?_) (Tabs.ext T1 fun b o e => ?_) (I.hok.fresh (Nat.le_trans hge (Nat.le_of_lt hlt))) upd_same ?_
    · have e1 := hE b o e n
      exact (upd_ne (ne_of_none e1 nF)).trans e1
    · exact (upd_ne (ne_of_none e nF)).trans e
    · exact (upd_ne (Nat.ne_of_lt hlt)).trans upd_same
  | some cv =>
    obtain ⟨c', e, hco⟩ := ha pos cv hc
    subst e
    refine PySem.W.kla_makeFunctionHit (mg := X.mg) (c := c) (P := P) (ps := ps) (closure_ok hfree) I.ok.glob (I.mod.glob.keeps I.bk) hcode (TB.code.keeps I.bk) hP' ht hc bP fun ctv h' tk hx hsz => ?_
    have I1 : Inv X pins σ H { s with heap := h', toks := tk } := I.kept hx
    have nF : H h'.objs.size = none := I1.hok.fresh (Nat.le_refl _)
    have I2 := inv_lam (F := lamF X params scope c') (b := body) (t' := tk) (pm := (X.mg "__name__").getD .none) (ctv := ctv) I1 rfl
    refine h h'.objs.size c' _ _ I2 (fun b o e n => ?_) (Tabs.ext hT fun b o e => ?_) nF upd_same ?_
    · exact (upd_ne (ne_of_none e nF)).trans e
    · exact (upd_ne (ne_of_none e nF)).trans e
    · exact (upd_ne (ne_of_none hco nF)).trans hco
theorem lamAt_of {f : Addr} {F : NF} {b : Expr} (I : Inv X pins σ H s) (e : H f = some (LamO f F b)) : PySem.W.FnAt f s.heap := by
  obtain ⟨od, sl, pm, ctv, z⟩ := lamO_at I.hok e
  exact ⟨_, _, _, _, z⟩
end
/-- the reading of a lambda: a new function; only the table at P changes -/
def tLamV (P : Addr) (mk : Addr → NF) (b : Expr) : TE := fun _ H Q => Tabs TabA.T H ∧ ∀ (f c' : Addr) (H1 : Hp), (∀ b o, H b = some o → b ≠ P → H1 b = some o) → Tabs TabA.T H1 → H f = none → H1 f = some (LamO f (mk c') b) → H1 c' = some (CodeO c' (mk c').qual) → Q (.ref f) H1
theorem pe_lamV {X : Cx} {c P : Addr} {params : Arguments} {body : Expr} {scope : Scope} {pos : Pos} (TB : TabB X.base X.mg c P) (hcode : X.env.code = .ref c) (hm : (P, X.env.qual ++ "<lambda>") ∈ TabA.T) (hu : ∀ p ∈ TabA.T, p.1 = P → p.2 = X.env.qual ++ "<lambda>") (hdef : defaultsOf params X.env = ([], []))
    (hfree : ∀ y ∈ scope.names, y.2 = .free → X.env.scope.names.lookup y.1 = some .cell ∨ X.env.scope.names.lookup y.1 = some .free) : PE X (.Lambda params body scope pos) (tLamV P (lamF X params scope) body) := by
  refine ⟨fun pins s σ H Q I h => ?_⟩
  obtain ⟨hT, h⟩ := h
  have hfr : ∀ y ∈ scope.names, y.2 = .free → ∃ c, X.env.cells.lookup y.1 = some c := fun y hy e => (hfree y hy e).elim (fun z => I.ok.has _ (.inl z)) fun z => I.ok.has _ (.inr z)
  exact lam_makeV I TB hcode hm hu hT hdef hfr fun f c' H1 s' I1 eN T1 f0 f1 c1 => ⟨.ref f, H1, I1, rfl, h f c' H1 eN T1 f0 f1 c1⟩
theorem lamV_go {P0 : Addr} {q : Str} {G P H : Hp} {σ : L2.St} {mk : Addr → NF} {b : Expr} {Q : VK} (j : Join G P H) (hm : (P0, q) ∈ TabA.T)
    (h : ∀ (f c' : Addr) (G' H' : Hp), Ex G G' → Join G' P H' → H f = none → G' f = some (LamO f (mk c') b) → G' c' = some (CodeO c' (mk c').qual) → Q (.ref f) H') : tLamV P0 mk b σ H Q := by
  have ht : tabI P0 = true := tabI_mem (q := (P0, q)) hm
  refine ⟨j.tab, fun f c' H1 e1 T1 f0 f1 c1 => ?_⟩
  have e3 : ∀ b o, H b = some o → tabI b = false → H1 b = some o := fun b o h n => e1 b o h (fun z => by rw [z, ht] at n; cases n)
  have pn : ∀ {b : Addr} {r : Heap → Prop}, H1 b = some (.ext r) → P b = none := fun {b r} hb => by
    cases e : P b with
    | none => rfl
    | some u =>
      have h1 := e3 b u (j.p b u e) (j.npt e)
      rw [hb] at h1
      have h2 := j.pp b u e
      rw [← Option.some.inj h1] at h2
      cases h2
  have tn : tabI c' = false := by
    cases e : tabI c' with
    | false => rfl
    | true =>
      obtain ⟨ps, q⟩ := tabI_at T1 e
      rw [c1] at q
      exact absurd (Option.some.inj q) (codeO_ne ps)
  exact h f c' (grG P H1) H1 (j.growNEx e3) (j.growN e3 T1) f0 (grG_some.mpr ⟨j.np f0, j.mt (.new f0), f1⟩) (grG_some.mpr ⟨pn c1, tn, c1⟩)
/-- the promise of the lambda F at f: sp ws, ws what its captured cells hold at the call -/
structure LOk (P : Program) (w : World) (K : PySem.W.Frag) (mg : Str → Option Value) (base : Heap) (CX : CXT) (k : Nat) (f : Addr) (F : NF) (b : Expr) (ps fr : List Str) (sp : List (Option V) → Sp) : Prop where
  len : ∀ ws vs H Q E, sp ws vs H Q E → vs.length = ps.length
  run : ∀ (A : Around) (outer : List Env) (s : Shared) (H : Hp) (us : List Value) (vs : List V) (ws : List (Option V)) (Q : VK) (E : XK), Room k A → Env0 P w K mg base A outer s H → H f = some (LamO f F b) → H F.c = some (CodeO F.c F.qual) →
    CellsAt F.cl fr ws s.heap H → Vals vs us → sp ws vs H Q E → codeAny (model P w) A (.call (.ref f) ⟨us, []⟩) (CR CX outer P w H s Q E) s
section
variable {CX : CXT} {P : Program} {w : World} {K : PySem.W.Frag} {mg : Str → Option Value} {base : Heap} {N ps fr : List Str} {F : NF} {f : Addr} {b : Expr} {k j : Nat} {sp sp' : List (Option V) → Sp}
theorem LOk.mono (o : LOk P w K mg base CX j f F b ps fr sp) (h : j ≤ k) : LOk P w K mg base CX k f F b ps fr sp := ⟨o.len, fun A outer s H us vs ws Q E hr => o.run A outer s H us vs ws Q E (hr.mono h)⟩
theorem LOk.imp (o : LOk P w K mg base CX k f F b ps fr sp) (h : ∀ ws vs H Q E, sp' ws vs H Q E → sp ws vs H Q E) : LOk P w K mg base CX k f F b ps fr sp' :=
  ⟨fun ws vs H Q E q => o.len ws vs H Q E (h _ _ _ _ _ q), fun A outer s H us vs ws Q E hr e0 hf hc C r q => o.run A outer s H us vs ws Q E hr e0 hf hc C r (h _ _ _ _ _ q)⟩
/-- a lambda by its body -/
theorem lok_of (S : NScope N ps fr F.scope) (hb : ∀ (pm ctv : Value) (us : List Value), us.length = ps.length → bindArgs (PySem.W.kla_fn F.name F.qual F.params b F.scope F.cl pm (.ref F.c) ctv) ⟨us, []⟩ = pure (ps.zip us)) (len : ∀ ws vs H Q E, sp ws vs H Q E → vs.length = ps.length)
    (hbody : ∀ (A : Around) (outer : List Env) (s : Shared) (H : Hp) (vs : List V) (ws : List (Option V)) (Q : VK) (E : XK), Room k (A.deeper (envF F f s.heap.objs.size)) → H f = some (LamO f F b) → H F.c = some (CodeO F.c F.qual) → ws.length = fr.length → sp ws vs H Q E →
      ∃ t, PE (ncx CX P w K mg base N F f A outer s H E) b t ∧ t (startF N vs ws) H Q) :
    LOk P w K mg base CX (k + 1) f F b ps fr sp := by
  refine ⟨len, fun A outer s H us vs ws Q E hr e0 hf hc C r hsp => ?_⟩
  have hl := len _ _ _ _ _ hsp
  have lim : s.heap.NoLimit := e0.mod.nolimit.keeps fun b o e => (e0.bs b o e).1
  obtain ⟨od, sl, pm, ctv, ho⟩ := lamO_at e0.hok hf
  refine PySem.W.kla_callFunE hr.depth ho rfl S.co S.gen rfl (codeO_at e0.hok hc) ?_
  rw [hb pm ctv us (by rw [← r.length]; exact hl)]
  refine wpAny_pure (wpAny_newFunctionEnv S.nocell (fun ⟨n, _⟩ hy => S.par n (List.of_mem_zip hy).1) (fun h₁ hns hsb => ⟨lim.fresh _ hsb, ?_⟩) S.kind)
  show codeAny _ _ (.expr b (envF F f s.heap.objs.size)) _ _
  have kp : ∀ b o, s.heap.get? b = some o → h₁.get? b = some o := fun b o e => hsb.extBut b o (Nat.ne_of_lt (Heap.lt_size e)) (Heap.get?_push_of_some _ e)
  obtain ⟨t, ht, hq⟩ := hbody A outer s H vs ws Q E (hr.deeper _) hf hc C.len hsp
  have I : Inv (ncx CX P w K mg base N F f A outer s H E) [] (startF N vs ws) H { s with heap := h₁, toks := s.toks + (ps.zip us).length } := inv_startN S hr.hd e0 hl r C hns kp
  refine PySem.W.kla_codeExpr (wpAny_mono (ht.run [] _ (startF N vs ws) H Q I hq) (fun v s' hs => ?_) fun e s' hs => hs)
  obtain ⟨w', H', J, rv, q⟩ := hs
  exact ⟨w', H', J.os, J.bare, J.base, J.hok, rv, q⟩
theorem lok_at {sp : List (Option V) → Sp} (ws : List (Option V)) (o : LOk P w K mg base CX k f F b ps fr sp) : LOk P w K mg base CX k f F b ps fr (fun ws' vs H Q E => ws' = ws ∧ sp ws vs H Q E) := o.imp fun ws' vs H Q E ⟨e, q⟩ => by rw [e]; exact q
end
section
variable {X : Cx} {CX : CXT} {F : NF} {ps fr : List Str} {i k : Nat} {fc : Addr} {b : Expr} {x : Str} {sp : Sp} {ws : List (Option V)} {E : XK} {t : TA} {e : Expr} {es : List Expr} {p pos : Pos}
/-- a parameter that holds a lambda of the caller's is called -/
def tCallL (i : Nat) (fc : Addr) (F : NF) (b : Expr) (sp : Sp) (E : XK) (t : TA) : TE := fun σ H Q => σ[i]? = some (some (.ref fc)) ∧ H fc = some (LamO fc F b) ∧ t σ H fun vs H1 => H1 fc = some (LamO fc F b) ∧ H1 F.c = some (CodeO F.c F.qual) ∧ sp vs H1 Q E
theorem pe_callLF (Fn : LOk X.prog X.w X.K X.mg X.base CX k fc F b ps fr (fun ws' vs H Q E => ws' = ws ∧ sp vs H Q E)) (C : CloAt fr ws F X.outer X.s_0 X.H_0) (ex : X.ex = []) (hr : Room k X.A) (hx : Passes CX X E) (hN : X.N[i]? = some x) (hv : Vis X.env.scope x) (ha : PA X (e :: es) t)
    (hd : (x == ("__debug__" : Str)) = false := by decide) (hcd : (x == ("__classdict__" : Str)) = false := by decide)
    (he : starEach (e :: es) X.env = (false, eval e X.env) :: starEach es X.env := by rfl) (hpl : (backTo pos (starEach es X.env)).any (·.1) = false := by rfl) :
    PE X (.Call (.Name x p) (e :: es) [] pos) (tCallL i fc F b sp E t) := by
  refine ⟨fun pins s σ H Q I h => ?_⟩
  obtain ⟨hs, hf, ht⟩ := h
  refine wpAny_Call_Name_kw (thn ((pe_var (pos := p) hN hv hd hcd).run pins s σ H (fun v H1 => v = .ref fc ∧ H1 = H) I ⟨.ref fc, hs, rfl, rfl⟩) fun u s1 ⟨v, H1, I1, r1, q1⟩ => ?_)
  obtain ⟨ev, eH⟩ := q1
  subst ev
  rw [eH] at I1
  obtain rfl : u = Value.ref fc := r1
  refine PySem.W.callWith_F (first := []) (lamAt_of I1 hf) (thn (ha.run pos pins s1 σ H _ I1 ht) fun us s2 ⟨vs, H2, I2, r, h1, h2, q⟩ => ⟨lamAt_of I2 h1, ?_⟩) he hpl
  show wpAny _ _ (call (.ref fc) us) _ _ _
  refine wpAny_call (codeAny_mono (Fn.run X.A X.stack s2 H2 us vs ws Q E hr I2.env0 h1 h2 (C.cells.later C.off (fun y a _ z => by rw [ex] at z; cases z) I2) r ⟨rfl, q⟩) fun r s' hq => ?_)
  cases r with
  | error e => exact hx pins σ H2 s2 e s' I2 hq
  | ok fl =>
    cases fl with
    | ret u => exact I2.after hq
    | next => exact False.elim hq
    | brk => exact False.elim hq
    | cont => exact False.elim hq
end
theorem tabNe {a b : Addr} (h : (!(a == b)) = true) : a ≠ b := by simpa using h
end Lv

local macro_rules | `(tactic| walk_at "w") => `(tactic| (repeat first | ((with_reducible apply Lv.w_seq)) | ((with_reducible apply Lv.w_var); (focus (exact rfl))) | ((with_reducible apply Lv.w_op)) | ((with_reducible apply Lv.w_c)) | ((with_reducible apply Lv.w_cons)) | ((with_reducible apply Lv.w_nil)) | ((with_reducible apply Lv.w_rI0)) | ((with_reducible apply Lv.w_asg)) | ((with_reducible apply Lv.w_name)) | ((with_reducible apply Lv.w_call)) | ((with_reducible apply Lv.w_callS)) | ((with_reducible apply Lv.w_tof)) | ((with_reducible apply Lv.w_lof)) | ((with_reducible apply Lv.w_abs)) | ((with_reducible apply Lv.w_int1)) | ((with_reducible apply Lv.w_lenv)) | ((with_reducible apply Lv.w_lens)) | ((with_reducible apply Lv.w_lend)) | ((with_reducible apply Lv.w_min2)) | ((with_reducible apply Lv.w_max2)) | ((with_reducible apply Lv.w_rmin)) | ((with_reducible apply Lv.w_rmax)) | ((with_reducible apply Lv.w_cb)) | ((with_reducible apply Lv.w_rabs)) | ((with_reducible apply Lv.w_rint)) | ((with_reducible apply Lv.w_rintb)) | ((with_reducible apply Lv.w_rlenT); (focus (first | assumption | (exact Lv.Join.g (by assumption) _ _ (by assumption)) | (exact Lv.Join.p (by assumption) _ _ (by assumption))))) | ((with_reducible apply Lv.w_rlenL); (focus (first | assumption | (exact Lv.Join.g (by assumption) _ _ (by assumption)) | (exact Lv.Join.p (by assumption) _ _ (by assumption))))) | ((with_reducible apply Lv.w_slenT); (focus (first | assumption | (exact Lv.Join.g (by assumption) _ _ (by assumption)) | (exact Lv.Join.p (by assumption) _ _ (by assumption))))) | ((with_reducible apply Lv.w_slenL); (focus (first | assumption | (exact Lv.Join.g (by assumption) _ _ (by assumption)) | (exact Lv.Join.p (by assumption) _ _ (by assumption))))) | ((with_reducible apply Lv.w_klenT); (focus (first | assumption | (exact Lv.Join.g (by assumption) _ _ (by assumption)) | (exact Lv.Join.p (by assumption) _ _ (by assumption))))) | ((with_reducible apply Lv.w_klenL); (focus (first | assumption | (exact Lv.Join.g (by assumption) _ _ (by assumption)) | (exact Lv.Join.p (by assumption) _ _ (by assumption))))) | ((with_reducible apply Lv.w_bm)) | ((with_reducible apply Lv.w_bm0)) | ((with_reducible apply Lv.w_bml); (focus (first | assumption | (exact Lv.Join.g (by assumption) _ _ (by assumption)) | (exact Lv.Join.p (by assumption) _ _ (by assumption))))) | ((with_reducible apply Lv.w_tup)) | ((with_reducible apply Lv.w_lst)) | ((with_reducible apply Lv.w_fld)) | ((with_reducible apply Lv.w_un)) | ((with_reducible apply Lv.w_rU)) | ((with_reducible apply Lv.w_ret)) | ((with_reducible apply Lv.w_retN)) | ((with_reducible apply Lv.w_next)) | ((with_reducible apply Lv.w_drop)) | ((with_reducible apply Lv.w_ifS)) | ((with_reducible apply Lv.w_gcons); (focus (exact rfl))) | ((with_reducible apply Lv.w_gnil); (focus (exact rfl))) | ((with_reducible apply Lv.w_gtup); (focus (first | assumption | (exact Lv.Join.g (by assumption) _ _ (by assumption)) | (exact Lv.Join.p (by assumption) _ _ (by assumption)))); (focus (exact rfl))) | ((with_reducible apply Lv.w_eq); (focus (exact rfl))) | ((with_reducible apply Lv.w_ne); (focus (exact rfl))) | ((with_reducible apply Lv.w_tB)) | ((with_reducible apply Lv.w_test)) | ((with_reducible apply Lv.w_bl)) | ((with_reducible apply Lv.w_and)) | ((with_reducible apply Lv.w_or)) | ((with_reducible apply Lv.w_not)) | ((with_reducible apply Lv.w_andV)) | ((with_reducible apply Lv.w_orV)) | ((with_reducible apply Lv.w_notV)) | ((with_reducible apply Lv.w_ifT)) | ((with_reducible apply Lv.w_ifF)) | ((with_reducible apply Lv.w_ifNT)) | ((with_reducible apply Lv.w_ifNF)) | ((with_reducible apply Lv.w_yes)) | ((with_reducible apply Lv.w_ixT); (focus (first | assumption | (exact Lv.Join.g (by assumption) _ _ (by assumption)) | (exact Lv.Join.p (by assumption) _ _ (by assumption)))); (focus (exact rfl))) | ((with_reducible apply Lv.w_aug); (focus (exact rfl))) | ((with_reducible apply Lv.w_rAdd)) | ((with_reducible apply Lv.w_rSub)) | ((with_reducible apply Lv.w_lcL)) | ((with_reducible apply Lv.w_lcT)) | ((with_reducible apply Lv.w_lcR)) | ((with_reducible apply Lv.w_sl)) | ((with_reducible apply Lv.w_npart)) | ((with_reducible apply Lv.w_part)) | ((with_reducible apply Lv.w_pint)) | ((with_reducible apply Lv.w_forR)) | ((with_reducible apply Lv.w_forR2)) | ((with_reducible apply Lv.w_din)) | ((with_reducible apply Lv.w_dnotin)) | ((with_reducible apply Lv.w_dcT)) | ((with_reducible apply Lv.w_dcL)) | ((with_reducible apply Lv.w_dcGT)) | ((with_reducible apply Lv.w_dcS)) | ((with_reducible apply Lv.w_setLI)) | ((with_reducible apply Lv.w_maxS)) | ((with_reducible apply Lv.w_minLL)) | ((with_reducible apply Lv.w_minS)) | ((with_reducible apply Lv.w_sortSet)) | ((with_reducible apply Lv.w_bmu)) | ((with_reducible apply Lv.w_tupF)) | ((with_reducible apply Lv.w_forR3)) | ((with_reducible apply Lv.w_stepLo)) | ((with_reducible apply Lv.w_ifB)) | ((with_reducible apply Lv.w_forKF)) | ((with_reducible apply Lv.w_turn)) | ((with_reducible apply Lv.w_revT)) | ((with_reducible apply Lv.w_dnew)) | ((with_reducible apply Lv.w_tupRg)) | ((with_reducible apply Lv.w_chain)) | ((with_reducible apply Lv.w_lstRg)) | ((with_reducible apply Lv.w_rg1)) | ((with_reducible apply Lv.w_par)) | ((with_reducible apply Lv.w_apar)) | ((with_reducible apply Lv.w_lcR2)) | ((with_reducible apply Lv.w_lcE)) | ((with_reducible apply Lv.w_isB)) | ((with_reducible apply Lv.w_isNB)) | ((with_reducible apply Lv.w_forL)) | ((with_reducible apply Lv.w_forT)) | ((with_reducible apply Lv.w_brk)) | ((with_reducible apply Lv.w_cont)) | ((with_reducible apply Lv.w_meth)) | ((with_reducible apply Lv.w_make)) | ((with_reducible apply Lv.w_ip)) | ((with_reducible apply Lv.w_sfld)) | ((with_reducible apply Lv.w_isN)) | ((with_reducible apply Lv.w_addB)) | ((with_reducible apply Lv.w_stepL)) | ((with_reducible apply Lv.w_lstRgW)) | ((with_reducible apply Lv.w_rg2)) | ((with_reducible apply Lv.w_rg2')) | ((with_reducible apply Lv.w_dget2)) | ((with_reducible apply Lv.w_dsetd)) | ((with_reducible apply Lv.w_revL)) | ((with_reducible apply Lv.w_dput)) | ((with_reducible apply Lv.w_mkx)) | ((with_reducible apply Lv.w_glst); (focus (first | assumption | (exact Lv.Join.g (by assumption) _ _ (by assumption)) | (exact Lv.Join.p (by assumption) _ _ (by assumption)))); (focus (exact rfl))) | ((with_reducible apply Lv.w_dnewT)) | ((with_reducible apply Lv.w_dgetI)) | ((with_reducible apply Lv.w_dcR)) | ((with_reducible apply Lv.w_forE)) | ((with_reducible apply Lv.w_makeS)) | ((with_reducible apply Lv.w_forS)) | ((with_reducible apply Lv.w_lcS)) | ((with_reducible apply Lv.w_forES)) | ((with_reducible apply Lv.w_dc2L)) | ((with_reducible apply Lv.w_lcZ)) | ((with_reducible apply Lv.w_listItemsT)) | ((with_reducible apply Lv.w_callL)) | ((with_reducible apply Lv.w_lcKF)) | ((with_reducible apply Lv.w_dcLT)) | ((with_reducible apply Lv.w_dsetdT))))
namespace X
open PySem PySem.Spec PyProof.Rows L2 Lv
def top (i : Nat) : Stmt := PySem.Challenge.pw_neverleapt_k84_whole_runs_by_number.main.body.getD i (.Pass ⟨0, 0, 0, 0⟩)
abbrev s_is_integer : Stmt := top 7
abbrev s_is_within : Stmt := top 8
abbrev s_check_number : Stmt := top 9
abbrev s_is_event : Stmt := top 15
abbrev s_step_at : Stmt := top 17
abbrev s_is_event_of : Stmt := top 18
abbrev s_is_run_there : Stmt := top 19
abbrev s_check_run : Stmt := top 20
abbrev s_ways_on : Stmt := top 23
abbrev s_many_runs : Stmt := top 24
abbrev s_run_at : Stmt := top 25
abbrev s_run_number : Stmt := top 26
abbrev s_l_pot : Stmt := top 28
abbrev s_l_draw : Stmt := top 29
abbrev s_l_any : Stmt := top 30
abbrev s_l_parts : Stmt := top 31
abbrev s_l_out : Stmt := top 32
abbrev s_l_walk : Stmt := top 33
abbrev s_l_runs : Stmt := top 34
abbrev s_l_is_int : Stmt := top 35
abbrev s_l_machine : Stmt := top 36
abbrev s_l_refused : Stmt := top 37
abbrev s_l_long_right : Stmt := top 38
abbrev s_l_wide : Stmt := top 39
abbrev s_law : Stmt := top 40
abbrev s_BadMachine_init : Stmt := inClass (top 2) 0
abbrev s_TooLong_init : Stmt := inClass (top 3) 0
abbrev s_Machine_init : Stmt := inClass (top 16) 0
abbrev s_Machine_keep : Stmt := inClass (top 16) 1
abbrev s_Machine_eq : Stmt := inClass (top 16) 2
def dd0 : He.DefD := ⟨("is_integer", none), "is_integer", "is_integer", defArgs s_is_integer, defBody s_is_integer, defScope s_is_integer, [], []⟩
def dd1 : He.DefD := ⟨("is_within", none), "is_within", "is_within", defArgs s_is_within, defBody s_is_within, defScope s_is_within, [], []⟩
def dd2 : He.DefD := ⟨("check_number", none), "check_number", "check_number", defArgs s_check_number, defBody s_check_number, defScope s_check_number, [], []⟩
def dd3 : He.DefD := ⟨("is_event", none), "is_event", "is_event", defArgs s_is_event, defBody s_is_event, defScope s_is_event, [], []⟩
def dd4 : He.DefD := ⟨("step_at", none), "step_at", "step_at", defArgs s_step_at, defBody s_step_at, defScope s_step_at, [], []⟩
def dd5 : He.DefD := ⟨("is_event_of", none), "is_event_of", "is_event_of", defArgs s_is_event_of, defBody s_is_event_of, defScope s_is_event_of, [], []⟩
def dd6 : He.DefD := ⟨("is_run_there", none), "is_run_there", "is_run_there", defArgs s_is_run_there, defBody s_is_run_there, defScope s_is_run_there, [], []⟩
def dd7 : He.DefD := ⟨("check_run", none), "check_run", "check_run", defArgs s_check_run, defBody s_check_run, defScope s_check_run, [], []⟩
def dd8 : He.DefD := ⟨("ways_on", none), "ways_on", "ways_on", defArgs s_ways_on, defBody s_ways_on, defScope s_ways_on, [], []⟩
def dd9 : He.DefD := ⟨("many_runs", none), "many_runs", "many_runs", defArgs s_many_runs, defBody s_many_runs, defScope s_many_runs, [], []⟩
def dd10 : He.DefD := ⟨("run_at", none), "run_at", "run_at", defArgs s_run_at, defBody s_run_at, defScope s_run_at, [], []⟩
def dd11 : He.DefD := ⟨("run_number", none), "run_number", "run_number", defArgs s_run_number, defBody s_run_number, defScope s_run_number, [], []⟩
def dd12 : He.DefD := ⟨("_law_pot", none), "_law_pot", "_law_pot", defArgs s_l_pot, defBody s_l_pot, defScope s_l_pot, [], []⟩
def dd13 : He.DefD := ⟨("_law_draw", none), "_law_draw", "_law_draw", defArgs s_l_draw, defBody s_l_draw, defScope s_l_draw, [], []⟩
def dd14 : He.DefD := ⟨("_law_any", none), "_law_any", "_law_any", defArgs s_l_any, defBody s_l_any, defScope s_l_any, [], []⟩
def dd15 : He.DefD := ⟨("_law_parts", none), "_law_parts", "_law_parts", defArgs s_l_parts, defBody s_l_parts, defScope s_l_parts, [], []⟩
def dd16 : He.DefD := ⟨("_law_out", none), "_law_out", "_law_out", defArgs s_l_out, defBody s_l_out, defScope s_l_out, [], []⟩
def dd17 : He.DefD := ⟨("_law_walk", none), "_law_walk", "_law_walk", defArgs s_l_walk, defBody s_l_walk, defScope s_l_walk, [], []⟩
def dd18 : He.DefD := ⟨("_law_runs", none), "_law_runs", "_law_runs", defArgs s_l_runs, defBody s_l_runs, defScope s_l_runs, [], []⟩
def dd19 : He.DefD := ⟨("_law_is_int", none), "_law_is_int", "_law_is_int", defArgs s_l_is_int, defBody s_l_is_int, defScope s_l_is_int, [], []⟩
def dd20 : He.DefD := ⟨("_law_machine", none), "_law_machine", "_law_machine", defArgs s_l_machine, defBody s_l_machine, defScope s_l_machine, [], []⟩
def dd21 : He.DefD := ⟨("_law_refused", none), "_law_refused", "_law_refused", defArgs s_l_refused, defBody s_l_refused, defScope s_l_refused, [], []⟩
def dd22 : He.DefD := ⟨("_law_long_right", none), "_law_long_right", "_law_long_right", defArgs s_l_long_right, defBody s_l_long_right, defScope s_l_long_right, [], []⟩
def dd23 : He.DefD := ⟨("_law_wide", none), "_law_wide", "_law_wide", defArgs s_l_wide, defBody s_l_wide, defScope s_l_wide, [], []⟩
def dd24 : He.DefD := ⟨("law", none), "law", "law", defArgs s_law, defBody s_law, defScope s_law, [], []⟩
def dd25 : He.DefD := ⟨("Machine", some "__init__"), "__init__", "Machine.__init__", defArgs s_Machine_init, defBody s_Machine_init, defScope s_Machine_init, [], []⟩
def dd26 : He.DefD := ⟨("Machine", some "keep"), "keep", "Machine.keep", defArgs s_Machine_keep, defBody s_Machine_keep, defScope s_Machine_keep, [], []⟩
def dd27 : He.DefD := ⟨("Machine", some "__eq__"), "__eq__", "Machine.__eq__", defArgs s_Machine_eq, defBody s_Machine_eq, defScope s_Machine_eq, [], []⟩
def fn : List He.DefD := [dd0, dd1, dd2, dd3, dd4, dd5, dd6, dd7, dd8, dd9, dd10, dd11, dd12, dd13, dd14, dd15, dd16, dd17, dd18, dd19, dd20, dd21, dd22, dd23, dd24, dd25, dd26, dd27]
def tf : List He.Defn := [("law", none), ("_law_long_right", none)]
def tabs (K : PySem.W.Frag) : List (Addr × Str) := [((He.cT K ("law", none)).2, "law.<locals>.<lambda>"), ((He.cT K ("_law_long_right", none)).2, "_law_long_right.<locals>.<lambda>")]
def fa0 : List He.Fa := [.glo "is_integer", .glo "is_within", .glo "check_number", .glo "is_event", .glo "step_at", .glo "is_event_of", .glo "is_run_there", .glo "check_run", .glo "ways_on", .glo "many_runs", .glo "run_at", .glo "run_number", .glo "_law_pot", .glo "_law_draw", .glo "_law_any", .glo "_law_parts", .glo "_law_out", .glo "_law_walk", .glo "_law_runs", .glo "_law_is_int", .glo "_law_machine", .glo "_law_refused", .glo "_law_long_right", .glo "_law_wide", .glo "law", .glo "LeapError", .glo "BadMachine", .glo "TooLong", .glo "NoRun", .glo "NoNumber"]
def fa1 : List He.Fa := [.glo "Machine", .int "MOST_STANDINGS" (12), .int "MOST_EVENTS_machines" (30), .int "MOST_TRIES" (40), .int "MOST_POINTS" (400), .int "MOST_EVENTS_counts" (100), .free "int", .free "abs", .free "len", .free "sum", .free "isinstance", .free "range", .free "enumerate", .free "tuple", .free "all", .free "bool", .free "super", .cls "Machine", .noat "Machine" "events", .noat "Machine" "kept_out", .noat "Machine" "standings", .mkr "Machine", .meth "Machine" "keep", .exc "NoNumber", .exm "NoNumber" "LeapError" true, .exc "NoRun", .exm "NoRun" "LeapError" true, .exm "TooLong" "LeapError" true, .exm "BadMachine" "LeapError" true]
def fa : List He.Fa := fa0 ++ fa1
def ex (K : PySem.W.Frag) : Bool := (Lv.ownB K "Machine" "Machine") && (Lv.eqB K "Machine" "Machine") && (Lv.xiB K "/claim/cut.py" "BadMachine" "part") && (Lv.xiB K "/claim/cut.py" "TooLong" "most") && (Lv.excB K "NoNumber" ["NoNumber", "TooLong"]) && (Lv.excB K "TooLong" ["NoNumber", "TooLong"]) && ((!((He.cT K ("law", none)).2 == (He.cT K ("_law_long_right", none)).2)))
def loose0 : List Str := ["LeapError", "BadMachine", "TooLong", "NoRun", "NoNumber", "is_integer", "is_within", "check_number", "MOST_STANDINGS", "MOST_EVENTS_machines", "MOST_TRIES", "MOST_POINTS", "is_event", "Machine", "step_at", "is_event_of", "is_run_there", "check_run", "MOST_EVENTS_counts", "ways_on", "many_runs", "run_at", "run_number", "_law_pot", "_law_draw", "_law_any", "_law_parts", "_law_out", "_law_walk", "_law_runs"]
def loose1 : List Str := ["_law_is_int", "_law_machine", "_law_refused", "_law_long_right", "_law_wide"]
def loose : List Str := loose0 ++ loose1
abbrev R : PySem.W.OpenRow := PySem.W.OpenLaw.row PySem.Challenge.rw_neverleapt_k84_whole_runs_by_number
abbrev hk : PySem.W.Hook := Lv.hookW 5 fa fn tf ex
def ob (s : PySem.W.SharedT) : He.AlX := Lv.obsW 5 fa fn tf ex (HandSHeadRun.getT s)
theorem ob_eq (s : PySem.W.SharedT) : ob s = hk.obs s.abs := Lv.obsW_eq (HandSHeadRun.getT_eq s)
theorem run (w : World) : HandSHeadRun.RunEq R (PySem.W.view R.prog [40]) hk ob 20000 loose w := by
  intro os
  kernel_rfl
section
open PySem PySem.W PySem.Calls PyProof.Rows
abbrev vq : Program := PySem.W.view R.prog [40]
abbrev vd : DefRec := HandSHeadRun.topDef R.prog 40
theorem c_e : opening R.prog = plainProg R.prog.main.scope.names := by kernel_rfl
theorem c_f : ∀ s, fenceModules? R.prog s = some s := fun s => by kernel_rfl
theorem c_def : defOf vq R.name = some (vd, []) := by kernel_rfl
theorem c_p : R.prog.theDef R.name = some (vd.params, vd.body, vd.scope) := by kernel_rfl
theorem c_k : kwWritten? vd.params.kwonlyargs vd.params.kw_defaults = some [] := by kernel_rfl
theorem c_w : (!R.writes || R.records.isEmpty) = true := by rfl
theorem c_ok : (chainsOk vq && opensWell R.prog && (frees R.toRowW && R.within.isEmpty)) = true := by decide +kernel
theorem c_b : R.prog.bare := ⟨rfl, rfl, rfl, rfl, rfl, by decide +kernel⟩
theorem c_hw : R.toRowW.promised := by w_witness2
theorem c_df : vd.params.defaults = [] := by kernel_rfl
theorem c_nm : vd.name = ("law" : PySem.Str) := by kernel_rfl
theorem c_law (h : R.wellSaid = true → R.Holds) : PySem.Challenge.rw_neverleapt_k84_whole_runs_by_number.Holds := by
  w_on; o_law
  exact h (by assumption)
end
structure Txt (K : PySem.W.Frag) (mg : Str → Option Value) : Prop where
  g_is_integer : mg "is_integer" = some (.ref (He.ga K "is_integer"))
  g_is_within : mg "is_within" = some (.ref (He.ga K "is_within"))
  g_check_number : mg "check_number" = some (.ref (He.ga K "check_number"))
  g_is_event : mg "is_event" = some (.ref (He.ga K "is_event"))
  g_step_at : mg "step_at" = some (.ref (He.ga K "step_at"))
  g_is_event_of : mg "is_event_of" = some (.ref (He.ga K "is_event_of"))
  g_is_run_there : mg "is_run_there" = some (.ref (He.ga K "is_run_there"))
  g_check_run : mg "check_run" = some (.ref (He.ga K "check_run"))
  g_ways_on : mg "ways_on" = some (.ref (He.ga K "ways_on"))
  g_many_runs : mg "many_runs" = some (.ref (He.ga K "many_runs"))
  g_run_at : mg "run_at" = some (.ref (He.ga K "run_at"))
  g_run_number : mg "run_number" = some (.ref (He.ga K "run_number"))
  g_l_pot : mg "_law_pot" = some (.ref (He.ga K "_law_pot"))
  g_l_draw : mg "_law_draw" = some (.ref (He.ga K "_law_draw"))
  g_l_any : mg "_law_any" = some (.ref (He.ga K "_law_any"))
  g_l_parts : mg "_law_parts" = some (.ref (He.ga K "_law_parts"))
  g_l_out : mg "_law_out" = some (.ref (He.ga K "_law_out"))
  g_l_walk : mg "_law_walk" = some (.ref (He.ga K "_law_walk"))
  g_l_runs : mg "_law_runs" = some (.ref (He.ga K "_law_runs"))
  g_l_is_int : mg "_law_is_int" = some (.ref (He.ga K "_law_is_int"))
  g_l_machine : mg "_law_machine" = some (.ref (He.ga K "_law_machine"))
  g_l_refused : mg "_law_refused" = some (.ref (He.ga K "_law_refused"))
  g_l_long_right : mg "_law_long_right" = some (.ref (He.ga K "_law_long_right"))
  g_l_wide : mg "_law_wide" = some (.ref (He.ga K "_law_wide"))
  g_law : mg "law" = some (.ref (He.ga K "law"))
  g_LeapError : mg "LeapError" = some (.ref (He.ga K "LeapError"))
  g_BadMachine : mg "BadMachine" = some (.ref (He.ga K "BadMachine"))
  g_TooLong : mg "TooLong" = some (.ref (He.ga K "TooLong"))
  g_NoRun : mg "NoRun" = some (.ref (He.ga K "NoRun"))
  g_NoNumber : mg "NoNumber" = some (.ref (He.ga K "NoNumber"))
  g_Machine : mg "Machine" = some (.ref (He.ga K "Machine"))
  i_MOST_STANDINGS : ∃ t, mg "MOST_STANDINGS" = some (.int (12) t)
  i_MOST_EVENTS_machines : ∃ t, mg "MOST_EVENTS_machines" = some (.int (30) t)
  i_MOST_TRIES : ∃ t, mg "MOST_TRIES" = some (.int (40) t)
  i_MOST_POINTS : ∃ t, mg "MOST_POINTS" = some (.int (400) t)
  i_MOST_EVENTS_counts : ∃ t, mg "MOST_EVENTS_counts" = some (.int (100) t)
  n_int : mg "int" = none
  n_abs : mg "abs" = none
  n_len : mg "len" = none
  n_sum : mg "sum" = none
  n_isinstance : mg "isinstance" = none
  n_range : mg "range" = none
  n_enumerate : mg "enumerate" = none
  n_tuple : mg "tuple" = none
  n_all : mg "all" = none
  n_bool : mg "bool" = none
  n_super : mg "super" = none
  c_Machine : Cls K (He.ga K "Machine")
  na_Machine_events : NoAttr K (He.ga K "Machine") "events"
  na_Machine_kept_out : NoAttr K (He.ga K "Machine") "kept_out"
  na_Machine_standings : NoAttr K (He.ga K "Machine") "standings"
  mk_Machine : Mk K (He.ga K "Machine") (He.ma K (He.ga K "Machine") "__init__")
  me_Machine_keep : Meth K (He.ga K "Machine") "keep" (He.ma K (He.ga K "Machine") "keep")
  x_NoNumber : (He.Fa.exc "NoNumber").ok K = true
  m_NoNumber_LeapError : (He.Fa.exm "NoNumber" "LeapError" true).ok K = true
  x_NoRun : (He.Fa.exc "NoRun").ok K = true
  m_NoRun_LeapError : (He.Fa.exm "NoRun" "LeapError" true).ok K = true
  m_TooLong_LeapError : (He.Fa.exm "TooLong" "LeapError" true).ok K = true
  m_BadMachine_LeapError : (He.Fa.exm "BadMachine" "LeapError" true).ok K = true
  d_is_integer : ∃ fd, FunD K "is_integer" "is_integer" (defArgs s_is_integer) (defBody s_is_integer) (defScope s_is_integer) [] [] (He.ga K "is_integer") fd
  d_is_within : ∃ fd, FunD K "is_within" "is_within" (defArgs s_is_within) (defBody s_is_within) (defScope s_is_within) [] [] (He.ga K "is_within") fd
  d_check_number : ∃ fd, FunD K "check_number" "check_number" (defArgs s_check_number) (defBody s_check_number) (defScope s_check_number) [] [] (He.ga K "check_number") fd
  d_is_event : ∃ fd, FunD K "is_event" "is_event" (defArgs s_is_event) (defBody s_is_event) (defScope s_is_event) [] [] (He.ga K "is_event") fd
  d_step_at : ∃ fd, FunD K "step_at" "step_at" (defArgs s_step_at) (defBody s_step_at) (defScope s_step_at) [] [] (He.ga K "step_at") fd
  d_is_event_of : ∃ fd, FunD K "is_event_of" "is_event_of" (defArgs s_is_event_of) (defBody s_is_event_of) (defScope s_is_event_of) [] [] (He.ga K "is_event_of") fd
  d_is_run_there : ∃ fd, FunD K "is_run_there" "is_run_there" (defArgs s_is_run_there) (defBody s_is_run_there) (defScope s_is_run_there) [] [] (He.ga K "is_run_there") fd
  d_check_run : ∃ fd, FunD K "check_run" "check_run" (defArgs s_check_run) (defBody s_check_run) (defScope s_check_run) [] [] (He.ga K "check_run") fd
  d_ways_on : ∃ fd, FunD K "ways_on" "ways_on" (defArgs s_ways_on) (defBody s_ways_on) (defScope s_ways_on) [] [] (He.ga K "ways_on") fd
  d_many_runs : ∃ fd, FunD K "many_runs" "many_runs" (defArgs s_many_runs) (defBody s_many_runs) (defScope s_many_runs) [] [] (He.ga K "many_runs") fd
  d_run_at : ∃ fd, FunD K "run_at" "run_at" (defArgs s_run_at) (defBody s_run_at) (defScope s_run_at) [] [] (He.ga K "run_at") fd
  d_run_number : ∃ fd, FunD K "run_number" "run_number" (defArgs s_run_number) (defBody s_run_number) (defScope s_run_number) [] [] (He.ga K "run_number") fd
  d_l_pot : ∃ fd, FunD K "_law_pot" "_law_pot" (defArgs s_l_pot) (defBody s_l_pot) (defScope s_l_pot) [] [] (He.ga K "_law_pot") fd
  d_l_draw : ∃ fd, FunD K "_law_draw" "_law_draw" (defArgs s_l_draw) (defBody s_l_draw) (defScope s_l_draw) [] [] (He.ga K "_law_draw") fd
  d_l_any : ∃ fd, FunD K "_law_any" "_law_any" (defArgs s_l_any) (defBody s_l_any) (defScope s_l_any) [] [] (He.ga K "_law_any") fd
  d_l_parts : ∃ fd, FunD K "_law_parts" "_law_parts" (defArgs s_l_parts) (defBody s_l_parts) (defScope s_l_parts) [] [] (He.ga K "_law_parts") fd
  d_l_out : ∃ fd, FunD K "_law_out" "_law_out" (defArgs s_l_out) (defBody s_l_out) (defScope s_l_out) [] [] (He.ga K "_law_out") fd
  d_l_walk : ∃ fd, FunD K "_law_walk" "_law_walk" (defArgs s_l_walk) (defBody s_l_walk) (defScope s_l_walk) [] [] (He.ga K "_law_walk") fd
  d_l_runs : ∃ fd, FunD K "_law_runs" "_law_runs" (defArgs s_l_runs) (defBody s_l_runs) (defScope s_l_runs) [] [] (He.ga K "_law_runs") fd
  d_l_is_int : ∃ fd, FunD K "_law_is_int" "_law_is_int" (defArgs s_l_is_int) (defBody s_l_is_int) (defScope s_l_is_int) [] [] (He.ga K "_law_is_int") fd
  d_l_machine : ∃ fd, FunD K "_law_machine" "_law_machine" (defArgs s_l_machine) (defBody s_l_machine) (defScope s_l_machine) [] [] (He.ga K "_law_machine") fd
  d_l_refused : ∃ fd, FunD K "_law_refused" "_law_refused" (defArgs s_l_refused) (defBody s_l_refused) (defScope s_l_refused) [] [] (He.ga K "_law_refused") fd
  d_l_long_right : ∃ fd, FunD K "_law_long_right" "_law_long_right" (defArgs s_l_long_right) (defBody s_l_long_right) (defScope s_l_long_right) [] [] (He.ga K "_law_long_right") fd
  d_l_wide : ∃ fd, FunD K "_law_wide" "_law_wide" (defArgs s_l_wide) (defBody s_l_wide) (defScope s_l_wide) [] [] (He.ga K "_law_wide") fd
  d_law : ∃ fd, FunD K "law" "law" (defArgs s_law) (defBody s_law) (defScope s_law) [] [] (He.ga K "law") fd
  d_Machine_init : ∃ fd, FunD K "__init__" "Machine.__init__" (defArgs s_Machine_init) (defBody s_Machine_init) (defScope s_Machine_init) [] [] (He.ma K (He.ga K "Machine") "__init__") fd
  d_Machine_keep : ∃ fd, FunD K "keep" "Machine.keep" (defArgs s_Machine_keep) (defBody s_Machine_keep) (defScope s_Machine_keep) [] [] (He.ma K (He.ga K "Machine") "keep") fd
  d_Machine_eq : ∃ fd, FunD K "__eq__" "Machine.__eq__" (defArgs s_Machine_eq) (defBody s_Machine_eq) (defScope s_Machine_eq) [] [] (He.ma K (He.ga K "Machine") "__eq__") fd
  o_Machine : Lv.OwnC K (He.ga K "Machine") (He.ga K "Machine")
  q_Machine : Lv.OwnE K (He.ga K "Machine") (He.ga K "Machine") (He.ma K (He.ga K "Machine") "__eq__")
  xi_BadMachine : Lv.xiB K "/claim/cut.py" "BadMachine" "part" = true
  xi_TooLong : Lv.xiB K "/claim/cut.py" "TooLong" "most" = true
  xe_NoNumber : Lv.excB K "NoNumber" ["NoNumber", "TooLong"] = true
  xe_TooLong : Lv.excB K "TooLong" ["NoNumber", "TooLong"] = true
  tn_0_1 : (!((He.cT K ("law", none)).2 == (He.cT K ("_law_long_right", none)).2)) = true
theorem txt_of {w : World} {h : Heap} {K : PySem.W.Frag} {mg : Str → Option Value} (X : K.In h) (G : h.Ns mainGlobals mg) (c : He.SaysX fa fn [] tf ex w h K) : Txt K mg := by
  have e0 : ex K = true := c.more
  unfold ex at e0
  simp only [Bool.and_eq_true] at e0
  obtain ⟨⟨⟨⟨⟨⟨b0, b1⟩, b2⟩, b3⟩, b4⟩, b5⟩, b6⟩ := e0
  exact ⟨He.glo_ok X G (c.t.d.fact 0 rfl), He.glo_ok X G (c.t.d.fact 1 rfl), He.glo_ok X G (c.t.d.fact 2 rfl), He.glo_ok X G (c.t.d.fact 3 rfl), He.glo_ok X G (c.t.d.fact 4 rfl), He.glo_ok X G (c.t.d.fact 5 rfl), He.glo_ok X G (c.t.d.fact 6 rfl), He.glo_ok X G (c.t.d.fact 7 rfl), He.glo_ok X G (c.t.d.fact 8 rfl), He.glo_ok X G (c.t.d.fact 9 rfl), He.glo_ok X G (c.t.d.fact 10 rfl), He.glo_ok X G (c.t.d.fact 11 rfl), He.glo_ok X G (c.t.d.fact 12 rfl), He.glo_ok X G (c.t.d.fact 13 rfl), He.glo_ok X G (c.t.d.fact 14 rfl), He.glo_ok X G (c.t.d.fact 15 rfl), He.glo_ok X G (c.t.d.fact 16 rfl), He.glo_ok X G (c.t.d.fact 17 rfl), He.glo_ok X G (c.t.d.fact 18 rfl), He.glo_ok X G (c.t.d.fact 19 rfl), He.glo_ok X G (c.t.d.fact 20 rfl), He.glo_ok X G (c.t.d.fact 21 rfl), He.glo_ok X G (c.t.d.fact 22 rfl), He.glo_ok X G (c.t.d.fact 23 rfl), He.glo_ok X G (c.t.d.fact 24 rfl), He.glo_ok X G (c.t.d.fact 25 rfl), He.glo_ok X G (c.t.d.fact 26 rfl), He.glo_ok X G (c.t.d.fact 27 rfl), He.glo_ok X G (c.t.d.fact 28 rfl), He.glo_ok X G (c.t.d.fact 29 rfl), He.glo_ok X G (c.t.d.fact 30 rfl), He.int_ok X G (c.t.d.fact 31 rfl), He.int_ok X G (c.t.d.fact 32 rfl), He.int_ok X G (c.t.d.fact 33 rfl), He.int_ok X G (c.t.d.fact 34 rfl), He.int_ok X G (c.t.d.fact 35 rfl), He.free_ok X G (c.t.d.fact 36 rfl), He.free_ok X G (c.t.d.fact 37 rfl), He.free_ok X G (c.t.d.fact 38 rfl), He.free_ok X G (c.t.d.fact 39 rfl), He.free_ok X G (c.t.d.fact 40 rfl), He.free_ok X G (c.t.d.fact 41 rfl), He.free_ok X G (c.t.d.fact 42 rfl), He.free_ok X G (c.t.d.fact 43 rfl), He.free_ok X G (c.t.d.fact 44 rfl), He.free_ok X G (c.t.d.fact 45 rfl), He.free_ok X G (c.t.d.fact 46 rfl), He.cls_ok (c.t.d.fact 47 rfl), He.noat_ok (c.t.d.fact 48 rfl), He.noat_ok (c.t.d.fact 49 rfl), He.noat_ok (c.t.d.fact 50 rfl), He.mkr_ok (c.t.d.fact 51 rfl), He.meth_ok (c.t.d.fact 52 rfl), (c.t.d.fact 53 rfl), (c.t.d.fact 54 rfl), (c.t.d.fact 55 rfl), (c.t.d.fact 56 rfl), (c.t.d.fact 57 rfl), (c.t.d.fact 58 rfl), c.t.d.def_ 0 (d := dd0) rfl, c.t.d.def_ 1 (d := dd1) rfl, c.t.d.def_ 2 (d := dd2) rfl, c.t.d.def_ 3 (d := dd3) rfl, c.t.d.def_ 4 (d := dd4) rfl, c.t.d.def_ 5 (d := dd5) rfl, c.t.d.def_ 6 (d := dd6) rfl, c.t.d.def_ 7 (d := dd7) rfl, c.t.d.def_ 8 (d := dd8) rfl, c.t.d.def_ 9 (d := dd9) rfl, c.t.d.def_ 10 (d := dd10) rfl, c.t.d.def_ 11 (d := dd11) rfl, c.t.d.def_ 12 (d := dd12) rfl, c.t.d.def_ 13 (d := dd13) rfl, c.t.d.def_ 14 (d := dd14) rfl, c.t.d.def_ 15 (d := dd15) rfl, c.t.d.def_ 16 (d := dd16) rfl, c.t.d.def_ 17 (d := dd17) rfl, c.t.d.def_ 18 (d := dd18) rfl, c.t.d.def_ 19 (d := dd19) rfl, c.t.d.def_ 20 (d := dd20) rfl, c.t.d.def_ 21 (d := dd21) rfl, c.t.d.def_ 22 (d := dd22) rfl, c.t.d.def_ 23 (d := dd23) rfl, c.t.d.def_ 24 (d := dd24) rfl, c.t.d.def_ 25 (d := dd25) rfl, c.t.d.def_ 26 (d := dd26) rfl, c.t.d.def_ 27 (d := dd27) rfl, Lv.ownB_ok b0, Lv.eqB_ok b1, b2, b3, b4, b5, b6⟩
end X

namespace X
open PySem PySem.Spec PyProof.Rows L2 Lv
variable {P : Program} {w : World} {K : PySem.W.Frag} {mg : Str → Option Value} {base : Heap}
variable [TabA]
def sp_is_integer (K : PySem.W.Frag) : Sp := fun vs H Q _ => ∃ n : Int, vs = [.int n] ∧ Q (.bl true) H
theorem sc_is_integer : FnScope ["thing"] ["thing"] (defScope s_is_integer) := ⟨rfl, rfl, rfl, by decide +kernel, rfl, by decide +kernel, by decide +kernel⟩
theorem ok_is_integer (T : Txt K mg) : ∃ fd, Dn P w K mg base (L2.CX P w) 1 "is_integer" ["thing"] (sp_is_integer K) fd := by
  obtain ⟨fd, F⟩ := T.d_is_integer
  refine ⟨fd, F.ok sc_is_integer (fun vs H Q E h => ?_) (fun cdv A outer s H vs Q E hr h => ?_), T.g_is_integer, F.kp, F.bindsN fun _ _ _ _ _ _ us hl => match us, hl with | [_], _ => rfl, Lv.fun_lk F⟩
  · obtain ⟨_, rfl, _⟩ := h
    rfl
  · have hu := hu_of hr
    refine ⟨_, PSs.nox (pss_one (ps_ret (pe_and (pe_callB call_isi (by rfl) T.n_isinstance (by decide +kernel) (pa_cons (pv 0) (pa_cons (pe_bltn (v := .ty "int") (by rfl) T.n_int (by decide +kernel) rfl) pa_nil))) (pe_one (pe_not (pe_callB call_isi (by rfl) T.n_isinstance (by decide +kernel) (pa_cons (pv 0) (pa_cons (pe_bltn (v := .ty "bool") (by rfl) T.n_bool (by decide +kernel) rfl) pa_nil)))))))), ?_⟩
    obtain ⟨n, rfl, k⟩ := h
    exact ⟨_, rfl, _, _, _, _, true, rfl, .ty _, .base (.int n), kit_ty (by decide +kernel), true, rfl, (if_pos rfl).mpr ⟨_, rfl, _, _, _, _, false, rfl, .ty _, .base (.int n), kit_ty (by decide +kernel), false, rfl, k⟩⟩
def sp_is_within (K : PySem.W.Frag) : Sp := fun vs H Q _ => ∃ n a b : Int, vs = [.int n, .int a, .int b] ∧ Q (.bl (decide (a ≤ n ∧ n ≤ b))) H
theorem sc_is_within : FnScope ["thing", "least", "most"] ["thing", "least", "most"] (defScope s_is_within) := ⟨rfl, rfl, rfl, by decide +kernel, rfl, by decide +kernel, by decide +kernel⟩
theorem ok_is_within (T : Txt K mg) {fd_is_integer : FuncData} (G_is_integer : Dn P w K mg base (L2.CX P w) 1 "is_integer" ["thing"] (sp_is_integer K) fd_is_integer) : ∃ fd, Dn P w K mg base (L2.CX P w) 2 "is_within" ["thing", "least", "most"] (sp_is_within K) fd := by
  obtain ⟨fd, F⟩ := T.d_is_within
  refine ⟨fd, F.ok sc_is_within (fun vs H Q E h => ?_) (fun cdv A outer s H vs Q E hr h => ?_), T.g_is_within, F.kp, F.bindsN fun _ _ _ _ _ _ us hl => match us, hl with | [_, _, _], _ => rfl, Lv.fun_lk F⟩
  · obtain ⟨_, _, _, rfl, _⟩ := h
    rfl
  · have hu := hu_of hr
    have hr_is_integer : Room 1 _ := hr.mono (by decide)
    refine ⟨_, PSs.nox (pss_one (ps_ret (pe_and (pe_call G_is_integer.ok hr_is_integer rfl G_is_integer.mg G_is_integer.kp G_is_integer.b .nil passL (pa_cons (pv 0) pa_nil)) (pe_one (pe_chain op_le op_le (pv 1) (pv 0) (pv 2)))))), ?_⟩
    obtain ⟨n, a, b, rfl, k⟩ := h
    refine ⟨_, rfl, n, rfl, true, rfl, (if_pos rfl).mpr ?_⟩
    refine ⟨_, rfl, _, rfl, a, n, rfl, rfl, _, rfl, ?_⟩
    by_cases h1 : a ≤ n
    · refine (if_pos (decide_eq_true h1)).mpr ⟨_, rfl, n, b, rfl, rfl, ?_⟩
      have e : decide (a ≤ n ∧ n ≤ b) = decide (n ≤ b) := by simp [h1]
      rw [e] at k
      exact k
    · refine (if_neg (by simp [h1])).mpr ?_
      have e : decide (a ≤ n ∧ n ≤ b) = false := by simp [h1]
      rw [e] at k
      exact k
def sp_is_from (K : PySem.W.Frag) : Sp := fun vs H Q _ => ∃ n a : Int, vs = [.int n, .int a] ∧ Q (.bl (decide (a ≤ n))) H
def sp_is_pair (K : PySem.W.Frag) : Sp := fun vs H Q _ => ∃ (p : Addr) (x y : V), vs = [.ref p] ∧ H p = some (.tup [x, y]) ∧ Q (.bl true) H
def sp_common_divisor (K : PySem.W.Frag) : Sp := fun vs H Q _ => ∃ (a b : Int), vs = [.int a, .int b] ∧ Q (.int (Int.gcd a b : Nat)) H
def sp_is_share (K : PySem.W.Frag) : Sp := fun vs H Q _ => ∃ (p : Addr) (a b : Int), vs = [.ref p] ∧ H p = some (.tup [.int a, .int b]) ∧ 1 ≤ b ∧ Int.gcd a b = 1 ∧ Q (.bl true) H
def sp_check_share (K : PySem.W.Frag) : Sp := fun vs H Q _ => ∃ (p : Addr) (a b : Int), vs = [.ref p] ∧ H p = some (.tup [.int a, .int b]) ∧ 1 ≤ b ∧ Int.gcd a b = 1 ∧ Q .non H
end X

namespace X
open PySem PySem.Spec PyProof.Rows L2 Lv
variable {P : Program} {w : World} {K : PySem.W.Frag} {mg : Str → Option Value} {base : Heap}
variable [TabA]
def sp_is_event (K : PySem.W.Frag) : Sp := fun vs H Q _ => ∃ (t : Addr) (n : Int) (e : Ev), vs = [.ref t, .int n] ∧ H t = some (.tup (evV e)) ∧ EvOk n e ∧ Q (.bl true) H
theorem sc_is_event : FnScope ["thing", "standings"] ["thing", "standings"] (defScope s_is_event) := ⟨rfl, rfl, rfl, by decide +kernel, rfl, by decide +kernel, by decide +kernel⟩
theorem ok_is_event (T : Txt K mg) {fd_is_within : FuncData} (G_is_within : Dn P w K mg base (L2.CX P w) 2 "is_within" ["thing", "least", "most"] (sp_is_within K) fd_is_within) : ∃ fd, Dn P w K mg base (L2.CX P w) 3 "is_event" ["thing", "standings"] (sp_is_event K) fd := by
  obtain ⟨fd, F⟩ := T.d_is_event
  refine ⟨fd, F.ok sc_is_event (fun vs H Q E h => ?_) (fun cdv A outer s H vs Q E hr h => ?_), T.g_is_event, F.kp, F.bindsN fun _ _ _ _ _ _ us hl => match us, hl with | [_, _], _ => rfl, Lv.fun_lk F⟩
  · obtain ⟨_, _, _, rfl, _⟩ := h
    rfl
  · have hu := hu_of hr
    have hr_is_within : Room 2 _ := hr.mono (by decide)
    refine ⟨_, PSs.nox (pss_cons (ps_if (PW.pt (pw_or (pt_not (pt_val (pe_callB call_isi (by rfl) T.n_isinstance (by decide +kernel) (pa_cons (pv 0) (pa_cons (pe_bltn (v := .ty "tuple") (by rfl) T.n_tuple (by decide +kernel) rfl) pa_nil))))) (pw_or1 (pt_cmpR op_ne (pe_callB call_len (by rfl) T.n_len PySem.boot_len (pa_cons (pv 0) pa_nil)) pe_int (nomark _))))) (pss_one (ps_ret pe_bl)) pss_nil)
      (pss_cons (ps_if (PW.pt (pw_or (pt_not (pt_val (pe_call G_is_within.ok hr_is_within rfl G_is_within.mg G_is_within.kp G_is_within.b .nil passL (pa_cons (pe_ix ix_tup (pv 0) pe_int (fun _ _ => rfl)) (pa_cons pe_int (pa_cons (pe_op op_sub (pv 1) pe_int) pa_nil)))))) (pw_or1 (pt_not (pt_val (pe_call G_is_within.ok hr_is_within rfl G_is_within.mg G_is_within.kp G_is_within.b .nil passL (pa_cons (pe_ix ix_tup (pv 0) pe_int (fun _ _ => rfl)) (pa_cons pe_int (pa_cons (pe_op op_sub (pv 1) pe_int) pa_nil))))))))) (pss_one (ps_ret pe_bl)) pss_nil)
      (pss_one (ps_ret (pe_and (pe_call G_is_within.ok hr_is_within rfl G_is_within.mg G_is_within.kp G_is_within.b .nil passL (pa_cons (pe_ix ix_tup (pv 0) pe_int (fun _ _ => rfl)) (pa_cons pe_int (pa_cons (pe_glob (v := .int (40)) rfl T.i_MOST_TRIES.choose_spec ⟨_, rfl⟩) pa_nil)))) (pe_one (pe_call G_is_within.ok hr_is_within rfl G_is_within.mg G_is_within.kp G_is_within.b .nil passL (pa_cons (pe_ix ix_tup (pv 0) pe_int (fun _ _ => rfl)) (pa_cons (pe_un un_neg (pe_glob (v := .int (400)) rfl T.i_MOST_POINTS.choose_spec ⟨_, rfl⟩)) (pa_cons (pe_glob (v := .int (400)) rfl T.i_MOST_POINTS.choose_spec ⟨_, rfl⟩) pa_nil)))))))))), ?_⟩
    obtain ⟨t, n, e, rfl, ht, he, k⟩ := h
    obtain ⟨h1, h2, h3, h4, h5, h6, h7, h8⟩ := he
    refine ⟨_, rfl, _, _, _, _, true, rfl, .ty _, .base (.tup ht), kit_ty (by decide +kernel), true, rfl, iteF ?_⟩
    refine ⟨_, rfl, _, _, rfl, .inr ⟨_, sqT ht, rfl⟩, rfl, false, rfl, iteF ?_⟩
    refine ⟨_, rfl, t, _, 0, _, rfl, rfl, sqT ht, rfl, _, rfl, _, _, rfl, rfl, e.b, 0, n - 1, rfl, true, by rw [decide_eq_true ⟨h1, by omega⟩], iteF ?_⟩
    refine ⟨_, rfl, t, _, 1, _, rfl, rfl, sqT ht, rfl, _, rfl, _, _, rfl, rfl, e.a, 0, n - 1, rfl, true, by rw [decide_eq_true ⟨h3, by omega⟩], iteF ?_⟩
    refine ⟨_, rfl, t, _, 2, _, rfl, rfl, sqT ht, rfl, e.w, 1, 40, rfl, true, by rw [decide_eq_true ⟨h5, h6⟩], iteT ?_⟩
    exact ⟨_, rfl, t, _, 3, _, rfl, rfl, sqT ht, rfl, _, rfl, e.x, -400, 400, rfl, qT (Q := Q) (decide_eq_true ⟨h7, h8⟩) k⟩
theorem mc_M (T : Txt K mg) : MC K (He.ga K "Machine") := ⟨T.c_Machine, T.na_Machine_standings, T.na_Machine_events, T.na_Machine_kept_out, T.o_Machine, T.q_Machine⟩
theorem sc_Machine_keep : FnScope ["self", "standings", "events", "number", "event", "standing"] ["self", "standings", "events"] (defScope s_Machine_keep) := ⟨rfl, rfl, rfl, by decide +kernel, rfl, by decide +kernel, by decide +kernel⟩
theorem ok_Machine_keep (T : Txt K mg) : ∃ fd, Dm P w K mg base (L2.CX P w) 1 "Machine" "keep" ["self", "standings", "events"] (spKeepM K) fd := by
  obtain ⟨fd, F⟩ := T.d_Machine_keep
  refine ⟨fd, F.ok sc_Machine_keep (fun vs H Q E h => ?_) (fun cdv A outer s H vs Q E hr h => ?_), F.bindsN fun _ _ _ _ _ _ us hl => match us, hl with | [_, _, _], _ => rfl, Lv.fun_lk F⟩
  · obtain ⟨_, _, _, _, _, _, _, _, _, rfl, _⟩ := h
    rfl
  · have hu := hu_of hr
    refine ⟨_, PSs.nox (pss_cons (ps_fld (pv 0) (pv 1) rfl)
      (pss_cons (ps_fld (pv 0) (pv 2) rfl)
      (pss_cons (ps_fld (pv 0) (pe_lc (own := [("standing", 5)]) (g := gName 5) (tt := tYes) rfl sc_Machine_keep.nd (pi_range1 (by rfl) T.n_range (pa_cons (pv 1) pa_nil)) (blkOk_by (N := ["self", "standings", "events", "number", "event", "standing"]) (sc := defScope s_Machine_keep) (by decide +kernel)) (fun _ _ _ _ _ => (pg_name (i := 5) sc_Machine_keep.nd rfl (Or.inl rfl) (hf := Or.inr rfl))) (fun _ _ _ _ _ => pts_nil) (fun _ _ _ _ _ => (pe_lst pa_nil))) rfl)
      (pss_one (ps_for PassesOwn.never rfl (pi_enumT (by rfl) T.n_enumerate (pa_cons (pv 2) pa_nil)) (pg_tup rfl (pgs_cons (pg_name (i := 3) sc_Machine_keep.nd rfl (Or.inl rfl)) (pgs_cons (pg_name (i := 4) sc_Machine_keep.nd rfl (Or.inl rfl)) pgs_nil))) (pss_one (ps_expr (pe_bm PySem.F.plainAttrs_list PySem.F.slot_list_append PySem.F.type_list_append mt_append (pe_ix ix_list (pe_fld (pv 0) rfl) (pe_ix ix_tup (pv 4) pe_int (fun _ _ => rfl)) (fun _ _ => rfl)) (pa_cons (pv 3) pa_nil))))))))), ?_⟩
    obtain ⟨C, hC, x, t, n, dx, es, G, P0, rfl, j, hx, hE, h1, h2, h3, hb, k⟩ := h
    obtain ⟨vs, ht, hv⟩ := hE
    have ntx : t ≠ x := ne_of ht hx (by intro z; cases z)
    refine ⟨_, rfl, _, rfl, x, _, dx, _, rfl, j.g _ _ hx, hC.c, hC.ns, (by show 0 < 1000; decide), ?_⟩
    have j1 := j.setGo (o := .ins C dx [("standings", .int n)]) hx
    refine ⟨_, rfl, _, rfl, x, _, dx, _, rfl, upd_same, hC.c, hC.ne, (by show 1 < 1000; decide), ?_⟩
    have j2 := j1.setGo (o := .ins C dx (putF "events" (.ref t) (putF "standings" (.int n) []))) upd_same
    have hx2 : (upd (upd G x (.ins C dx [("standings", .int n)])) x (.ins C dx (putF "events" (.ref t) (putF "standings" (.int n) [])))) x = some (.ins C dx [("standings", .int n), ("events", .ref t)]) := by
      rw [upd_same, mf1, mf2]
    have b2 : But x G (upd (upd G x (.ins C dx [("standings", .int n)])) x (.ins C dx (putF "events" (.ref t) (putF "standings" (.int n) [])))) := fun b o e nb => by
      rw [upd_ne nb, upd_ne nb]; exact e
    have e2 : upd (upd H x (.ins C dx (putF "standings" (.int n) []))) x (.ins C dx (putF "events" (.ref t) (putF "standings" (.int n) []))) = upd (upd H x (.ins C dx [("standings", .int n)])) x (.ins C dx (putF "events" (.ref t) (putF "standings" (.int n) []))) := rfl
    generalize (upd (upd G x (.ins C dx [("standings", .int n)])) x (.ins C dx (putF "events" (.ref t) (putF "standings" (.int n) [])))) = G2 at j2 hx2 b2
    rw [← e2] at j2
    generalize (upd (upd H x (.ins C dx (putF "standings" (.int n) []))) x (.ins C dx (putF "events" (.ref t) (putF "standings" (.int n) [])))) = H2 at j2 ⊢
    clear e2 j1
    refine ⟨_, rfl, n, rfl, by omega, by omega, fun D hD => ?_⟩
    have gD := j2.ng hD
    have pD := j2.np hD
    refine lc_range (lo := 0) (n := n.toNat) (fun i H' => ∃ (G' : Hp) (ks : List V), Join G' P0 H' ∧ Ex G2 G' ∧ G' D = some (.lst ks) ∧ ks.length = i ∧ (∀ a : Nat, a < i → ∃ k : Addr, ks[a]? = some (.ref k) ∧ G' k = some (.lst []) ∧ G2 k = none ∧ k ≠ D) ∧ (∀ (a b : Nat) (k : Addr), ks[a]? = some (.ref k) → ks[b]? = some (.ref k) → a = b))
      ⟨_, [], j2.newG hD, Ex.new gD, upd_same, rfl, fun a ha => absurd ha (Nat.not_lt_zero _), fun a b k ha => by simp at ha⟩ ?_ ?_
    · rintro i H' hi ⟨G', ks, j', e', hd, hl, hk, hu'⟩
      refine ⟨rfl, iteT (B := True) ⟨Nat.zero_le _, fun q hq => ?_⟩⟩
      have nqD : D ≠ q := ne_of_none (j'.g _ _ hd) hq
      have gq := j'.ng hq
      refine ⟨ks, Eq.trans (upd_ne nqD) (j'.g _ _ hd), szlt (by omega), ?_⟩
      have j3 := (j'.newG (o := .lst []) hq).setGo (o := .lst (ks ++ [.ref q])) (Eq.trans (upd_ne nqD) hd)
      have old : ∀ (a : Nat) (k : Addr), ks[a]? = some (.ref k) → k ≠ q := fun a k ha => by
        obtain ⟨k', q1, q2, _⟩ := hk a (by rw [← hl]; exact (List.getElem?_eq_some_iff.mp ha).1)
        rw [ha] at q1
        injection q1 with q1
        injection q1 with q1
        subst q1
        exact ne_of_none q2 gq
      refine ⟨_, _, j3, fun b o eb => ?_, upd_same, by simp [hl], fun a ha => ?_, fun a b k ha hb' => ?_⟩
      · have nbD : b ≠ D := ne_of_none eb gD
        rw [upd_ne nbD, upd_ne (ne_of_none (e' _ _ eb) gq)]
        exact e' _ _ eb
      · by_cases hai : a < i
        · obtain ⟨k, q1, q2, q3, q4⟩ := hk a hai
          refine ⟨k, by rw [List.getElem?_append_left (by omega)]; exact q1, ?_, q3, q4⟩
          rw [upd_ne q4, upd_ne (ne_of_none q2 gq)]; exact q2
        · have ea : a = ks.length := by omega
          subst ea
          exact ⟨q, by simp, by rw [upd_ne nqD.symm, upd_same], e'.back gq, nqD.symm⟩
      · by_cases ha1 : a < ks.length
        · rw [List.getElem?_append_left ha1] at ha
          by_cases hb1 : b < ks.length
          · rw [List.getElem?_append_left hb1] at hb'
            exact hu' a b k ha hb'
          · exfalso
            have := (List.getElem?_eq_some_iff.mp hb').1
            simp at this
            have eb : b = ks.length := by omega
            subst eb
            simp at hb'
            exact old a k ha hb'.symm
        · have := (List.getElem?_eq_some_iff.mp ha).1
          simp at this
          have ea : a = ks.length := by omega
          subst ea
          simp at ha
          by_cases hb1 : b < ks.length
          · exfalso
            rw [List.getElem?_append_left hb1] at hb'
            exact old b k hb' ha.symm
          · have := (List.getElem?_eq_some_iff.mp hb').1
            simp at this
            omega
    · rintro H3 ⟨G3, ks, j3, e3, hd, hl, hk, hu'⟩
      have hx3 := e3 _ _ hx2
      refine ⟨_, rfl, x, _, dx, _, rfl, j3.g _ _ hx3, hC.c, hC.nk, (by show 2 < 1000; decide), ?_⟩
      have j4 := j3.setGo (o := .ins C dx (putF "kept_out" (.ref D) [("standings", .int n), ("events", .ref t)])) hx3
      have hx4 : (upd G3 x (.ins C dx (putF "kept_out" (.ref D) [("standings", .int n), ("events", .ref t)]))) x = some (.ins C dx (mfl n t D)) := by rw [upd_same, mf3]
      have nDx : D ≠ x := ne_of hd hx3 (by intro z; cases z)
      have hd4 : (upd G3 x (.ins C dx (putF "kept_out" (.ref D) [("standings", .int n), ("events", .ref t)]))) D = some (.lst ks) := Eq.trans (upd_ne nDx) hd
      have hk4 : ∀ a : Nat, a < ks.length → ∃ k : Addr, ks[a]? = some (.ref k) ∧ (upd G3 x (.ins C dx (putF "kept_out" (.ref D) [("standings", .int n), ("events", .ref t)]))) k = some (.lst []) ∧ k ≠ D := fun a ha => by
        obtain ⟨k, q1, q2, q3, q4⟩ := hk a (by omega)
        exact ⟨k, q1, Eq.trans (upd_ne (ne_of q2 hx3 (by intro z; cases z))) q2, q4⟩
      have b4 : But x G (upd G3 x (.ins C dx (putF "kept_out" (.ref D) [("standings", .int n), ("events", .ref t)]))) := fun b o e nb => by
        rw [upd_ne nb]; exact e3 _ _ (b2 _ _ e nb)
      have kfresh : ∀ (a : Nat) (b : Addr) (o : HO), ks[a]? = some (.ref b) → G b = some o → False := fun a b o ha hb' => by
        obtain ⟨k, q1, q2, q3, q4⟩ := hk a (by rw [← hl]; exact (List.getElem?_eq_some_iff.mp ha).1)
        rw [ha] at q1
        injection q1 with q1
        injection q1 with q1
        subst q1
        by_cases hbx : b = x
        · subst hbx; rw [hx2] at q3; cases q3
        · rw [b2 _ _ hb' hbx] at q3; cases q3
      generalize (upd G3 x (.ins C dx (putF "kept_out" (.ref D) [("standings", .int n), ("events", .ref t)]))) = G4 at j4 hx4 hd4 hk4 b4
      generalize upd H3 x (HO.ins C dx (putF "kept_out" (V.ref D) [("standings", V.int n), ("events", V.ref t)])) = H4 at j4 ⊢
      have hxk : ∀ (a : Nat), ks[a]? ≠ some (.ref x) := fun a ha => kfresh a x _ ha hx
      have hDk : ∀ (a : Nat), ks[a]? ≠ some (.ref D) := fun a ha => by
        obtain ⟨k, q1, q2, q3⟩ := hk4 a (List.getElem?_eq_some_iff.mp ha).1
        rw [ha] at q1
        injection q1 with q1
        injection q1 with q1
        exact q3 q1.symm
      have gK : ∀ (b : Addr) (o : HO), G b = some o → ∀ (a : Nat), ks[a]? ≠ some (.ref b) := fun b o hb' a ha => kfresh a b o ha hb'
      refine ⟨_, rfl, t, vs, rfl, sqT (j4.g _ _ (b4 _ _ ht ntx)), for_enumT (K := K) (a := t) (xs := vs) (fun i σ H' => ∃ (G' : Hp) (s3 s4 s5 : Option V), σ = [some (.ref x), some (.int n), some (.ref t), s3, s4, s5] ∧ Join G' P0 H' ∧ (∀ b o, G4 b = some o → (∀ a : Nat, ks[a]? ≠ some (.ref b)) → G' b = some o) ∧
          ∀ a : Nat, a < ks.length → ∃ k : Addr, ks[a]? = some (.ref k) ∧ G' k = some (.lst ((outs 0 (es.take i) a).map V.int)))
        ⟨G4, _, _, _, rfl, j4, fun b o e _ => e, fun a ha => ?_⟩ ?_ ?_ ?_⟩
      · obtain ⟨k, q1, q2, _⟩ := hk4 a ha
        exact ⟨k, q1, q2⟩
      · rintro i σ H' _ ⟨G', s3, s4, s5, rfl, j', o', c'⟩
        exact sqT (j'.g _ _ (o' _ _ (b4 _ _ ht ntx) (gK _ _ ht)))
      · rintro i y σ H' T' hy ⟨G', s3, s4, s5, rfl, j', o', c'⟩ hT
        obtain ⟨e, te, he, rfl, hte⟩ := hv.get hy
        have hin : i < es.length := (List.getElem?_eq_some_iff.mp he).1
        obtain ⟨be1, be2⟩ := hb e (List.mem_of_getElem? he)
        have nte : te ≠ x := ne_of hte hx (by intro z; cases z)
        obtain ⟨k', q1, q2⟩ := c' e.b.toNat (by omega)
        have j5 := j'.newG (o := .tup [.int i, .ref te]) hT
        have gT := j'.ng hT
        have up : ∀ b o, G' b = some o → (upd G' T' (.tup [.int i, .ref te])) b = some o := fun b o eb => Ex.new gT b o eb
        have hx5 := j5.g _ _ (up _ _ (o' _ _ hx4 hxk))
        have hD5 := j5.g _ _ (up _ _ (o' _ _ hd4 hDk))
        have hte5 := j5.g _ _ (up _ _ (o' _ _ (b4 _ _ hte nte) (gK _ _ hte)))
        have hk5 := j5.g _ _ (up _ _ q2)
        refine ⟨T', _, rfl, sqT upd_same, rfl, _, _, rfl, _, _, rfl, rfl, ?_⟩
        refine ⟨_, rfl, x, _, dx, _, _, rfl, hx5, hC.c, hC.nk, ml3 _ _ _, _, rfl, te, _, 0, _, rfl, rfl, sqT hte5, rfl, D, ks, e.b, .ref k', rfl, rfl, sqL hD5, atI_int be1 q1, .inl ⟨rfl, _, sqL hk5⟩, _, rfl, k', _, .int i, rfl, rfl, hk5, szlt ?_, ?_⟩
        · have := outs_len e.b.toNat (es.take i) 0
          rw [List.length_map]
          rw [List.length_take] at this
          omega
        · refine ⟨_, _, _, _, rfl, j5.setGo (up _ _ q2), fun b o eb nb => ?_, fun a ha => ?_⟩
          · rw [upd_ne (fun z => nb e.b.toNat (by rw [z]; exact q1))]
            exact up _ _ (o' _ _ eb nb)
          · by_cases hae : a = e.b.toNat
            · subst hae
              refine ⟨k', q1, ?_⟩
              rw [upd_same, take_more he, outs_app, if_pos (by omega), List.map_append]
              have el : 0 + (es.take i).length = i := by rw [List.length_take]; omega
              rw [el]; rfl
            · obtain ⟨k2, r1, r2⟩ := c' a ha
              have nk : k2 ≠ k' := fun z => by
                rw [z] at r1
                exact hae (hu' _ _ _ r1 q1)
              refine ⟨k2, r1, ?_⟩
              rw [upd_ne nk, take_more he, outs_app, if_neg (by omega), List.append_nil]
              exact up _ _ r2
      · rintro σ H' ⟨G', s3, s4, s5, rfl, j', o', c'⟩
        refine k G' H' j' (fun b o eb nb => o' _ _ (b4 _ _ eb nb) (gK _ _ eb)) ⟨dx, t, D, ks, o' _ _ hx4 hxk, ⟨vs, o' _ _ (b4 _ _ ht ntx) (gK _ _ ht), hv.1, fun i e he => ?_⟩, o' _ _ hd4 hDk, by omega, fun i hi => ?_⟩
        · obtain ⟨te, r1, r2⟩ := hv.2 i e he
          exact ⟨te, r1, o' _ _ (b4 _ _ r2 (ne_of r2 hx (by intro z; cases z))) (gK _ _ r2)⟩
        · obtain ⟨k2, r1, r2⟩ := c' i hi
          rw [hv.1, List.take_length] at r2
          exact ⟨k2, r1, r2⟩
theorem sc_Machine_init : FnScope ["self", "standings", "events", "number", "thing"] ["self", "standings", "events"] (defScope s_Machine_init) := ⟨rfl, rfl, rfl, by decide +kernel, rfl, by decide +kernel, by decide +kernel⟩
theorem ok_Machine_init (T : Txt K mg) {fd_is_within : FuncData} (G_is_within : Dn P w K mg base (L2.CX P w) 2 "is_within" ["thing", "least", "most"] (sp_is_within K) fd_is_within) {fd_is_event : FuncData} (G_is_event : Dn P w K mg base (L2.CX P w) 3 "is_event" ["thing", "standings"] (sp_is_event K) fd_is_event) {fd_Machine_keep : FuncData} (G_Machine_keep : Dm P w K mg base (L2.CX P w) 1 "Machine" "keep" ["self", "standings", "events"] (spKeepM K) fd_Machine_keep) : ∃ fd, Dm P w K mg base (L2.CX P w) 4 "Machine" "__init__" ["self", "standings", "events"] (spMInit (He.ga K "Machine")) fd := by
  obtain ⟨fd, F⟩ := T.d_Machine_init
  refine ⟨fd, F.ok sc_Machine_init (fun vs H Q E h => ?_) (fun cdv A outer s H vs Q E hr h => ?_), F.bindsN fun _ _ _ _ _ _ us hl => match us, hl with | [_, _, _], _ => rfl, Lv.fun_lk F⟩
  · obtain ⟨_, _, _, _, _, _, _, rfl, _⟩ := h
    rfl
  · have hu := hu_of hr
    have hr_is_within : Room 2 _ := hr.mono (by decide)
    have hr_is_event : Room 3 _ := hr.mono (by decide)
    have hr_Machine_keep : Room 1 _ := hr.mono (by decide)
    refine ⟨_, PSs.nox (pss_cons (ps_if (pt_not (pt_val (pe_call G_is_within.ok hr_is_within rfl G_is_within.mg G_is_within.kp G_is_within.b .nil passL (pa_cons (pv 1) (pa_cons pe_int (pa_cons (pe_glob (v := .int (12)) rfl T.i_MOST_STANDINGS.choose_spec ⟨_, rfl⟩) pa_nil)))))) (pss_one ps_never) pss_nil)
      (pss_cons (ps_if (PW.pt (pw_or (pt_not (pt_val (pe_callB call_isi (by rfl) T.n_isinstance (by decide +kernel) (pa_cons (pv 2) (pa_cons (pe_bltn (v := .ty "tuple") (by rfl) T.n_tuple (by decide +kernel) rfl) pa_nil))))) (pw_or1 (pt_cmpR op_gt (pe_callB call_len (by rfl) T.n_len PySem.boot_len (pa_cons (pv 2) pa_nil)) (pe_glob (v := .int (30)) rfl T.i_MOST_EVENTS_machines.choose_spec ⟨_, rfl⟩) (nomark _))))) (pss_one ps_never) pss_nil)
      (pss_cons (ps_for PassesOwn.never rfl (pi_enumT (by rfl) T.n_enumerate (pa_cons (pv 2) pa_nil)) (pg_tup rfl (pgs_cons (pg_name (i := 3) sc_Machine_init.nd rfl (Or.inl rfl)) (pgs_cons (pg_name (i := 4) sc_Machine_init.nd rfl (Or.inl rfl)) pgs_nil))) (pss_one (ps_if (pt_not (pt_val (pe_call G_is_event.ok hr_is_event rfl G_is_event.mg G_is_event.kp G_is_event.b .nil passL (pa_cons (pv 4) (pa_cons (pv 1) pa_nil))))) (pss_one ps_never) pss_nil)))
      (pss_one (ps_expr (pe_meth (pv 0) T.c_Machine T.me_Machine_keep G_Machine_keep.ok hr_Machine_keep G_Machine_keep.b .nil passL (pa_cons (pv 1) (pa_cons (pv 2) pa_nil)))))))), ?_⟩
    obtain ⟨x, t, n, dx, es, G, P0, rfl, j, hx, hE, h1, h2, h3, hok, k⟩ := h
    obtain ⟨vs, ht, hv⟩ := id hE
    have hl : vs.length ≤ 30 := by rw [hv.1]; exact h3
    refine ⟨_, rfl, n, 1, 12, rfl, true, by rw [decide_eq_true ⟨h1, h2⟩], iteF ?_⟩
    refine ⟨_, rfl, _, _, _, _, true, rfl, .ty _, .base (.tup (j.g _ _ ht)), kit_ty (by decide +kernel), true, rfl, iteF ?_⟩
    refine ⟨_, rfl, _, _, rfl, .inr ⟨_, sqT (j.g _ _ ht), rfl⟩, _, _, rfl, rfl, false, congrArg V.bl (decide_eq_false (by omega)), iteF ?_⟩
    refine ⟨_, rfl, t, vs, rfl, sqT (j.g _ _ ht), for_enumT (K := K) (a := t) (xs := vs) (fun i σ H' => ∃ (G' : Hp) (s3 s4 : Option V), σ = [some (.ref x), some (.int n), some (.ref t), s3, s4] ∧ Join G' P0 H' ∧ Ex G G')
      ⟨G, _, _, rfl, j, Ex.refl _⟩ ?_ ?_ ?_⟩
    · rintro i σ H' _ ⟨G', s3, s4, rfl, j', e'⟩
      exact sqT (j'.g _ _ (e' _ _ ht))
    · rintro i y σ H' T' hy ⟨G', s3, s4, rfl, j', e'⟩ hT
      obtain ⟨e, te, he, rfl, hte⟩ := hv.get hy
      have j5 := j'.newG (o := .tup [.int i, .ref te]) hT
      have e5 := e'.trans (Ex.new (o := .tup [.int i, .ref te]) (j'.ng hT))
      refine ⟨T', _, rfl, sqT upd_same, rfl, _, _, rfl, _, _, rfl, rfl, ?_⟩
      exact ⟨_, rfl, _, rfl, te, n, e, rfl, j5.g _ _ (e5 _ _ hte), hok e (List.mem_of_getElem? he), true, rfl, iteF ⟨_, _, _, rfl, j5, e5⟩⟩
    · rintro σ H' ⟨G', s3, s4, rfl, j', e'⟩
      refine ⟨_, rfl, x, dx, _, rfl, j'.g _ _ (e' _ _ hx), rfl, _, rfl, _, rfl, _, mc_M T, x, t, n, dx, es, G', P0, rfl, j', e' _ _ hx, hE.mono e', h1, by omega, by omega, fun e he => ⟨(hok e he).1, (hok e he).2.1⟩, fun G2 H2 j2 b2 m2 => ?_⟩
      exact k G2 H2 j2 (fun b o eb nb => b2 _ _ (e' _ _ eb) nb) m2
theorem sc_Machine_eq : FnScope ["self", "other"] ["self", "other"] (defScope s_Machine_eq) := ⟨rfl, rfl, rfl, by decide +kernel, rfl, by decide +kernel, by decide +kernel⟩
theorem ok_Machine_eq (T : Txt K mg) : ∃ fd, Dm P w K mg base (L2.CX P w) 1 "Machine" "__eq__" ["self", "other"] (spMEq K) fd := by
  obtain ⟨fd, F⟩ := T.d_Machine_eq
  refine ⟨fd, F.ok sc_Machine_eq (fun vs H Q E h => ?_) (fun cdv A outer s H vs Q E hr h => ?_), F.bindsN fun _ _ _ _ _ _ us hl => match us, hl with | [_, _], _ => rfl, Lv.fun_lk F⟩
  · obtain ⟨_, _, _, _, _, _, rfl, _⟩ := h
    rfl
  · have hu := hu_of hr
    refine ⟨_, PSs.nox (pss_one (ps_ret (pe_and (pe_callB call_isi (by rfl) T.n_isinstance (by decide +kernel) (pa_cons (pv 1) (pa_cons (pe_glob (v := .ref (He.ga K "Machine")) rfl T.g_Machine rfl) pa_nil))) (pe_and (pe_cmpR op_eq (pe_fld (pv 0) rfl) (pe_fld (pv 1) rfl) (nomark _)) (pe_one (pe_cmpR (op_eqD hr.units) (pe_fld (pv 0) rfl) (pe_fld (pv 1) rfl) (nomark _))))))), ?_⟩
    obtain ⟨a, b, n, n', es, es', rfl, ha, hb, q⟩ := h
    obtain ⟨Ca, h1, dx, t, ko, ks, h2, ⟨vs, h3, h4⟩, _⟩ := id ha
    obtain ⟨Cb, g1, dy, t', ko', ks', g2, ⟨vs', g3, g4⟩, _⟩ := id hb
    refine ⟨_, rfl, _, _, _, _, true, rfl, .own _, g1.ty g2, g1.o.kit, true, rfl, iteT ⟨_, rfl, a, Ca, dx, _, _, rfl, h2, h1.c, h1.ns, ml1 _ _ _, _, rfl, b, Cb, dy, _, _, rfl, g2, g1.c, g1.ns, ml1 _ _ _, rfl, _, rfl, ?_⟩⟩
    by_cases hn : n = n'
    · refine itT (congrArg V.int hn) ⟨_, rfl, a, Ca, dx, _, _, rfl, h2, h1.c, h1.ne, ml2 _ _ _, _, rfl, b, Cb, dy, _, _, rfl, g2, g1.c, g1.ne, ml2 _ _ _, _, _, dp_tt h3 h4.tupL, dp_tt g3 g4.tupL, shaped_dU _, shaped_dU _, ?_⟩
      rw [eqv_dU]
      have e : decide (es.map evI = es'.map evI) = decide (n = n' ∧ es = es') := decide_eq_decide.mpr ⟨fun h => ⟨hn, evI_inj h⟩, fun h => by rw [h.2]⟩
      rw [e]; exact q
    · refine itF (fun h => hn (V.int.inj h)) ?_
      rw [decide_eq_false (fun h => hn h.1)] at q
      exact q
end X

namespace X
open PySem PySem.Spec PyProof.Rows L2 Lv
variable {P : Program} {w : World} {K : PySem.W.Frag} {mg : Str → Option Value} {base : Heap}
variable [TabA]
theorem cut_ints (ns : List Int) (lo hi : Option Int) : ∃ ms : List Int, cutV (ns.map V.int) lo hi = ms.map V.int ∧ ms.length ≤ ns.length := by
  refine ⟨(ns.drop (HT.sIx (ns.map V.int).length 0 lo)).take (HT.sIx (ns.map V.int).length (ns.map V.int).length hi - HT.sIx (ns.map V.int).length 0 lo), ?_, ?_⟩
  · unfold cutV
    rw [List.map_take, List.map_drop]
  · rw [List.length_take, List.length_drop]
    omega
theorem sc_l_pot : FnScope ["_law_script", "_law_cells", "_law_greats", "_law_smalls", "_law_item"] ["_law_script"] (defScope s_l_pot) := ⟨rfl, rfl, rfl, by decide +kernel, rfl, by decide +kernel, by decide +kernel⟩
theorem ok_l_pot (T : Txt K mg) : ∃ fd, Dn P w K mg base (L2.CX P w) 1 "_law_pot" ["_law_script"] (spPot K) fd := by
  obtain ⟨fd, F⟩ := T.d_l_pot
  refine ⟨fd, F.ok sc_l_pot (fun vs H Q E h => ?_) (fun cdv A outer s H vs Q E hr h => ?_), T.g_l_pot, F.kp, F.bindsN fun _ _ _ _ _ _ us hl => match us, hl with | [_], _ => rfl, Lv.fun_lk F⟩
  · obtain ⟨_, _, rfl, _⟩ := h
    rfl
  · have hu := hu_of hr
    refine ⟨_, PSs.nox (pss_cons (ps_setLc (i := 1) (own := [("_law_item", 4)]) (g := gName 4) (tt := tYes) rfl sc_l_pot.nd rfl rfl (sw_true rfl rfl rfl (by decide +kernel)) (pi_list (pe_slice sl_list (pv 0) po_none (po_some pe_int))) (blkOk_by (N := ["_law_script", "_law_cells", "_law_greats", "_law_smalls", "_law_item"]) (sc := defScope s_l_pot) (by decide +kernel)) (fun _ _ _ _ _ => (pg_name (i := 4) sc_l_pot.nd rfl (Or.inl rfl) (hf := Or.inr rfl))) (fun _ _ _ _ _ => pts_nil) (fun _ _ _ _ _ => (pe_callTy call_int1 (by rfl) T.n_int (by decide +kernel) (pa_cons (pv 4) pa_nil))))
      (pss_cons (ps_setLc (i := 2) (own := [("_law_item", 4)]) (g := gName 4) rfl sc_l_pot.nd rfl rfl (sw_true rfl rfl rfl (by decide +kernel)) (pi_list (pv 1)) (blkOk_by (N := ["_law_script", "_law_cells", "_law_greats", "_law_smalls", "_law_item"]) (sc := defScope s_l_pot) (by decide +kernel)) (fun _ _ _ _ _ => (pg_name (i := 4) sc_l_pot.nd rfl (Or.inl rfl) (hf := Or.inr rfl))) (fun _ _ _ _ _ => (pts_one (pt_cmpR op_ge (pe_callB call_abs (by rfl) T.n_abs (by decide +kernel) (pa_cons (pv 4) pa_nil)) (pe_op op_pow pe_int pe_int) (nomark _)))) (fun _ _ _ _ _ => (pe_callB call_abs (by rfl) T.n_abs (by decide +kernel) (pa_cons (pv 4) pa_nil))))
      (pss_cons (ps_set (i := 3) sc_l_pot.nd rfl (Or.inl rfl) (pe_op op_cat (pe_lc (own := [("_law_item", 4)]) (g := gName 4) rfl sc_l_pot.nd (pi_list (pv 1)) (blkOk_by (N := ["_law_script", "_law_cells", "_law_greats", "_law_smalls", "_law_item"]) (sc := defScope s_l_pot) (by decide +kernel)) (fun _ _ _ _ _ => (pg_name (i := 4) sc_l_pot.nd rfl (Or.inl rfl) (hf := Or.inr rfl))) (fun _ _ _ _ _ => (pts_one (pt_cmpR op_lt (pe_callB call_abs (by rfl) T.n_abs (by decide +kernel) (pa_cons (pv 4) pa_nil)) (pe_op op_pow pe_int pe_int) (nomark _)))) (fun _ _ _ _ _ => (pe_op op_mod (pe_callTy call_int1 (by rfl) T.n_int (by decide +kernel) (pa_cons (pv 4) pa_nil)) pe_int))) (pe_lst (pa_cons (pe_op op_add (pe_callB call_len_seq (by rfl) T.n_len PySem.boot_len (pa_cons (pv 1) pa_nil)) pe_int) pa_nil))))
      (pss_one (ps_ret (pe_lst (pa_cons (pv 2) (pa_cons (pv 3) (pa_cons pe_int (pa_cons (pe_op op_mod (pe_callTy call_int1 (by rfl) T.n_int (by decide +kernel) (pa_cons (pe_callB (cr_sum rfl) (by rfl) T.n_sum (by decide +kernel) (pa_cons (pv 3) pa_nil)) pa_nil)) pe_int) pa_nil)))))))))), ?_⟩
    obtain ⟨a, ns, rfl, hS, hl, k⟩ := h
    obtain ⟨ms, em, lm⟩ := cut_ints ns none (some 63)
    refine ⟨_, rfl, 63, rfl, a, _, rfl, hS.1, fun p hp => ⟨p, rfl, ⟨_, sqL upd_same⟩, fun D1 h1 => ?_⟩⟩
    rw [em] at h1 ⊢
    have j0 := Join.start hS.2
    have j1 := j0.newG (o := .lst (ms.map V.int)) hp
    refine lc_ints (K := K) (ns := ms) (fun _ => true) (fun z => z) h1 (sqL upd_same) (by omega) (fun _ => rfl) ?_ ?_ ?_
    · exact fun z H' R _ r => r
    · exact fun z H' R _ _ r => ⟨_, rfl, .inl ⟨_, rfl, r⟩⟩
    have e1 : ((ms.filter fun _ => true).map fun z => z) = ms := by simp
    rw [e1]
    have j2 := j1.newG (o := .lst (ms.map V.int)) h1
    -- _law_greats
    refine ⟨_, rfl, D1, rfl, ⟨_, sqL upd_same⟩, fun D2 h2 => ?_⟩
    refine lc_ints (K := K) (ns := ms) (fun z => decide ((10 : Int) ^ 18 ≤ (if z < 0 then -z else z))) (fun z => if z < 0 then -z else z) h2 (sqL upd_same) (by omega) (fun _ => rfl) ?_ ?_ ?_
    · exact fun z H' R _ r => ⟨_, rfl, _, rfl, _, _, rfl, rfl, ⟨by decide, by decide, by decide⟩, _, _, rfl, rfl, _, rfl, r⟩
    · exact fun z H' R _ _ r => ⟨_, rfl, _, rfl, r⟩
    have hg : ((ms.filter fun z => decide ((10 : Int) ^ 18 ≤ (if z < 0 then -z else z))).map fun z => if z < 0 then -z else z).length ≤ 63 := by
      rw [List.length_map]
      have := List.length_filter_le (fun z : Int => decide ((10 : Int) ^ 18 ≤ (if z < 0 then -z else z))) ms
      omega
    generalize ((ms.filter fun z => decide ((10 : Int) ^ 18 ≤ (if z < 0 then -z else z))).map fun z => if z < 0 then -z else z) = gs at hg ⊢
    have j3 := j2.setPn (o := .lst (gs.map V.int)) h2
    -- _law_smalls
    have n12 : D1 ≠ D2 := fun q => by rw [← q, upd_same] at h2; cases h2
    refine ⟨_, rfl, D1, rfl, ⟨_, sqL (Eq.trans (upd_ne n12) upd_same)⟩, fun D3 h3 => ?_⟩
    refine lc_ints (K := K) (ns := ms) (fun z => decide ((if z < 0 then -z else z) < (10 : Int) ^ 18)) (fun z => z % 1000000007) h3 (sqL (Eq.trans (upd_ne n12) upd_same)) (by omega) (fun _ => rfl) ?_ ?_ ?_
    · exact fun z H' R _ r => ⟨_, rfl, _, rfl, _, _, rfl, rfl, ⟨by decide, by decide, by decide⟩, _, _, rfl, rfl, _, rfl, r⟩
    · exact fun z H' R _ _ r => ⟨_, rfl, .inl ⟨_, rfl, _, _, rfl, rfl, (by show (0 : Int) < 1000000007; decide), r⟩⟩
    have hs : ((ms.filter fun z => decide ((if z < 0 then -z else z) < (10 : Int) ^ 18)).map fun z => z % 1000000007).length ≤ 63 := by
      rw [List.length_map]
      have := List.length_filter_le (fun z : Int => decide ((if z < 0 then -z else z) < (10 : Int) ^ 18)) ms
      omega
    generalize ((ms.filter fun z => decide ((if z < 0 then -z else z) < (10 : Int) ^ 18)).map fun z => z % 1000000007) = ss at hs ⊢
    have j4 := j3.newG (o := .lst (ss.map V.int)) h3
    have n13 : D1 ≠ D3 := fun q => by rw [← q, upd_ne n12, upd_same] at h3; cases h3
    refine ⟨_, rfl, _, _, rfl, .inl (sqL (by rw [upd_ne n13, upd_ne n12, upd_same])), _, _, rfl, rfl, (by show 1 ≤ sizeLine; decide), fun D4 h4 => ?_⟩
    have j5 := j4.newG (o := .lst [V.int (((ms.map V.int).length : Int) + 1)]) h4
    have n34 : D3 ≠ D4 := fun q => by rw [← q, upd_same] at h4; cases h4
    refine ⟨D3, D4, _, _, rfl, rfl, Eq.trans (upd_ne n34) upd_same, upd_same, by rw [List.length_map]; exact szle (by show _ + 1 ≤ _; omega), fun D5 h5 => ?_⟩
    have j6 := j5.setPn (o := .lst (ss.map V.int ++ [V.int (((ms.map V.int).length : Int) + 1)])) h5
    have e2 : ss.map V.int ++ [V.int (((ms.map V.int).length : Int) + 1)] = (ss ++ [((ms.map V.int).length : Int) + 1]).map V.int := by rw [List.map_append]; rfl
    rw [e2] at j6 ⊢
    refine ⟨_, rfl, _, rfl, _, rfl, D5, _, rfl, sqL upd_same, .inl ⟨_, rfl, _, _, rfl, rfl, (by show (0 : Int) < 999983; decide), (by show 4 ≤ sizeLine; decide), fun l hl0 => ?_⟩⟩
    have n25 : D2 ≠ D5 := ne_of_none (j5.p D2 _ upd_same) h5
    have q2 := j6.p D2 _ (Eq.trans (upd_ne n25) upd_same)
    have q5 := j6.p D5 _ upd_same
    have j7 := j6.setPn (o := .lst [V.ref D2, V.ref D5, V.int 0, V.int ((ss ++ [((ms.map V.int).length : Int) + 1]).sum % 999983)]) hl0
    refine k l _ _ _ ((((Ex.new (j0.ng hp)).trans (Ex.new (j1.ng h1))).trans (Ex.new (j3.ng h3))).trans (Ex.new (j4.ng h4))) j7 ⟨D2, D5, gs, _, 0, _, upd_same, Eq.trans (upd_ne (ne_of_none q2 hl0)) (Eq.trans (upd_ne n25) upd_same), Eq.trans (upd_ne (ne_of_none q5 hl0)) upd_same, n25, ?_, ?_, by omega⟩
    · simp
    · simp; omega
theorem sc_l_draw : FnScope ["_law_pot_here", "_law_many", "_law_turn", "_law_seed", "_law_number"] ["_law_pot_here", "_law_many"] (defScope s_l_draw) := ⟨rfl, rfl, rfl, by decide +kernel, rfl, by decide +kernel, by decide +kernel⟩
theorem ok_l_draw (T : Txt K mg) : ∃ fd, Dn P w K mg base (L2.CX P w) 1 "_law_draw" ["_law_pot_here", "_law_many"] spDraw fd := by
  obtain ⟨fd, F⟩ := T.d_l_draw
  refine ⟨fd, F.ok sc_l_draw (fun vs H Q E h => ?_) (fun cdv A outer s H vs Q E hr h => ?_), T.g_l_draw, F.kp, F.bindsN fun _ _ _ _ _ _ us hl => match us, hl with | [_, _], _ => rfl, Lv.fun_lk F⟩
  · obtain ⟨_, _, _, _, rfl, _⟩ := h
    rfl
  · have hu := hu_of hr
    refine ⟨_, PSs.nox (pss_cons (ps_set (i := 2) sc_l_draw.nd rfl (Or.inl rfl) (pe_ix ix_list (pv 0) pe_int (fun _ _ => rfl)))
      (pss_cons (ps_asg (pe_op op_add (pv 2) pe_int) (pg_sub (pv 0) pe_int set_list))
      (pss_cons (ps_if (pt_cmpR op_gt (pe_callB call_len_seq (by rfl) T.n_len PySem.boot_len (pa_cons (pe_ix ix_list (pv 0) pe_int (fun _ _ => rfl)) pa_nil)) pe_int (nomark _)) (pss_cons (ps_set (i := 4) sc_l_draw.nd rfl (Or.inl rfl) (pe_ix ix_list (pe_ix ix_list (pv 0) pe_int (fun _ _ => rfl)) pe_int (fun _ _ => rfl)))
      (pss_cons (ps_asg (pe_op op_fdivW (pv 4) (pv 1)) (pg_sub (pe_ix ix_list (pv 0) pe_int (fun _ _ => rfl)) pe_int set_list))
      (pss_cons (ps_if (pt_cmpR op_lt (pv 4) (pv 1) (nomark _)) (pss_one (ps_expr (pe_bm PySem.F.plainAttrs_list PySem.F.slot_list_pop PySem.F.type_list_pop mt_popAt (pe_ix ix_list (pv 0) pe_int (fun _ _ => rfl)) (pa_cons pe_int pa_nil)))) pss_nil)
      (pss_one (ps_ret (pe_op op_mod (pe_callTy call_int1 (by rfl) T.n_int (by decide +kernel) (pa_cons (pv 4) pa_nil)) (pv 1))))))) pss_nil)
      (pss_cons (ps_set (i := 3) sc_l_draw.nd rfl (Or.inl rfl) (pe_op op_add (pe_op op_add (pe_op op_mul (pe_ix ix_list (pe_ix ix_list (pv 0) pe_int (fun _ _ => rfl)) (pe_op op_mod (pe_callTy call_int1 (by rfl) T.n_int (by decide +kernel) (pa_cons (pv 2) pa_nil)) (pe_callB call_len_seq (by rfl) T.n_len PySem.boot_len (pa_cons (pe_ix ix_list (pv 0) pe_int (fun _ _ => rfl)) pa_nil))) (fun _ _ => rfl)) pe_int) (pe_op op_mul pe_int (pv 2))) (pe_op op_mul (pe_ix ix_list (pv 0) pe_int (fun _ _ => rfl)) pe_int)))
      (pss_cons (ps_set (i := 4) sc_l_draw.nd rfl (Or.inl rfl) (pe_op op_mod (pe_callTy call_int1 (by rfl) T.n_int (by decide +kernel) (pa_cons (pe_op op_add (pe_op op_mul (pv 3) pe_int) pe_int) pa_nil)) pe_int))
      (pss_cons (ps_set (i := 4) sc_l_draw.nd rfl (Or.inl rfl) (pe_op op_mod (pe_callTy call_int1 (by rfl) T.n_int (by decide +kernel) (pa_cons (pe_op op_mulW (pv 4) (pe_op op_add (pe_op op_fdiv (pv 4) pe_int) pe_int)) pa_nil)) pe_int))
      (pss_cons (ps_set (i := 4) sc_l_draw.nd rfl (Or.inl rfl) (pe_op op_mod (pe_callTy call_int1 (by rfl) T.n_int (by decide +kernel) (pa_cons (pe_op op_add (pe_op op_mulW (pv 4) (pe_op op_add (pe_op op_fdiv (pv 4) pe_int) pe_int)) (pv 2)) pa_nil)) pe_int))
      (pss_one (ps_ret (pe_op op_mod (pe_callTy call_int1 (by rfl) T.n_int (by decide +kernel) (pa_cons (pe_op op_fdiv (pv 4) pe_int) pa_nil)) (pv 1))))))))))), ?_⟩
    obtain ⟨l, n, G, P0, rfl, j, ⟨g, sa, gs, ss, t, c, hl, hg, hs, ngs, h0s, hls, hlg⟩, hn0, hn, k⟩ := h
    have ngl : g ≠ l := ne_of hg hl (by intro z; cases gs <;> simp at z)
    have nsl : sa ≠ l := ne_of hs hl (by intro z; cases ss <;> simp at z)
    have bn : n.natAbs < 2 ^ 1000 := nat1000 (Int.le_of_lt hn0) hn
    -- turn = pot[2]; pot[2] = turn + 1
    refine ⟨_, rfl, l, _, 2, _, rfl, rfl, sqL (j.p _ _ hl), rfl, ?_⟩
    refine ⟨_, rfl, t, 1, rfl, rfl, _, rfl, l, _, 2, 2, rfl, rfl, j.p _ _ hl, rfl, ?_⟩
    have j1 := j.setPo (o := .lst [V.ref g, V.ref sa, V.int (t + 1), V.int c]) hl
    have hl1 : (upd P0 l (.lst [V.ref g, V.ref sa, V.int (t + 1), V.int c])) l = _ := upd_same
    have hg1 : (upd P0 l (.lst [V.ref g, V.ref sa, V.int (t + 1), V.int c])) g = _ := Eq.trans (upd_ne ngl) hg
    have hs1 : (upd P0 l (.lst [V.ref g, V.ref sa, V.int (t + 1), V.int c])) sa = _ := Eq.trans (upd_ne nsl) hs
    generalize (upd P0 l (.lst [V.ref g, V.ref sa, V.int (t + 1), V.int c])) = P1 at j1 hl1 hg1 hs1
    refine ⟨_, rfl, l, _, 0, _, rfl, rfl, sqL (j1.p _ _ hl1), rfl, g, _, rfl, .inl (sqL (j1.p _ _ hg1)), _, _, rfl, rfl, _, rfl, ?_⟩
    cases gs with
    | cons z r =>
      refine itT (by simp) ?_
      refine ⟨_, rfl, l, _, 0, _, rfl, rfl, sqL (j1.p _ _ hl1), rfl, g, _, 0, _, rfl, rfl, sqL (j1.p _ _ hg1), atI_int (by decide) rfl, ?_⟩
      have j2 := j1.setPo (o := .lst (V.int (z / n) :: r.map V.int)) hg1
      refine ⟨_, rfl, _, rfl, _, _, rfl, rfl, divW hn0 bn, _, rfl, l, _, 0, _, rfl, rfl, sqL (j1.p _ _ hl1), rfl, g, _, 0, 0, rfl, rfl, j1.p _ _ hg1, ixN_nat (by simp), ?_⟩
      have hl2 : (upd P1 g (.lst (V.int (z / n) :: r.map V.int))) l = _ := Eq.trans (upd_ne ngl.symm) hl1
      have hg2 : (upd P1 g (.lst (V.int (z / n) :: r.map V.int))) g = _ := upd_same
      have hs2 : (upd P1 g (.lst (V.int (z / n) :: r.map V.int))) sa = _ := Eq.trans (upd_ne ngs.symm) hs1
      generalize (upd P1 g (.lst (V.int (z / n) :: r.map V.int))) = P2 at j2 hl2 hg2 hs2
      refine ⟨_, rfl, _, rfl, _, _, rfl, rfl, _, rfl, ?_⟩
      have fin : ∀ (P3 H3 : Hp), Join G P3 H3 → Pot P3 l → Q (V.int (z % n)) H3 := fun P3 H3 => k (z % n) P3 H3 (Int.emod_nonneg _ (by omega)) (Int.emod_lt_of_pos _ hn0)
      by_cases hz : z < n
      · refine itT hz ?_
        have j3 := j2.setPo (o := .lst (r.map V.int)) hg2
        refine ⟨_, rfl, l, _, 0, _, rfl, rfl, sqL (j2.p _ _ hl2), rfl, .inl ⟨rfl, _, sqL (j2.p _ _ hg2)⟩, g, _, 0, 0, _, rfl, rfl, j2.p _ _ hg2, by decide, by decide, seq_nat (by simp), rfl, ?_⟩
        refine ⟨_, rfl, .inl ⟨_, rfl, _, rfl, _, _, rfl, rfl, hn0, fin _ _ j3 ⟨g, sa, r, ss, _, _, Eq.trans (upd_ne ngl.symm) hl2, upd_same, Eq.trans (upd_ne ngs.symm) hs2, ngs, h0s, hls, ?_⟩⟩⟩
        simp at hlg; omega
      · refine itF hz ?_
        exact ⟨_, rfl, .inl ⟨_, rfl, _, rfl, _, _, rfl, rfl, hn0, fin _ _ j2 ⟨g, sa, z / n :: r, ss, _, _, hl2, hg2, hs2, ngs, h0s, hls, by simpa using hlg⟩⟩⟩
    | nil =>
      refine itF (by simp) ?_
      have hp0 : (0 : Int) < ((ss.map V.int).length : Int) := by rw [List.length_map]; omega
      obtain ⟨v, hv⟩ : ∃ v, ss[(t % ((ss.map V.int).length : Int)).toNat]? = some v := by
        have h1 := Int.emod_nonneg t (Int.ne_of_gt hp0)
        have h2 := Int.emod_lt_of_pos t hp0
        rw [List.length_map] at h1 h2 ⊢
        exact ⟨_, List.getElem?_eq_getElem (by omega)⟩
      have hat : atI (ss.map V.int) (t % ((ss.map V.int).length : Int)) = some (V.int v) := atI_int (Int.emod_nonneg t (Int.ne_of_gt hp0)) (by rw [List.getElem?_map, hv]; rfl)
      refine ⟨_, rfl, l, _, 1, _, rfl, rfl, sqL (j1.p _ _ hl1), rfl, _, rfl, .inl ⟨_, rfl, _, rfl, l, _, 1, _, rfl, rfl, sqL (j1.p _ _ hl1), rfl, sa, _, rfl, .inl (sqL (j1.p _ _ hs1)), _, _, rfl, rfl, hp0, sa, _, _, _, rfl, rfl, sqL (j1.p _ _ hs1), hat, _, _, rfl, rfl, .inr ⟨by decide, by decide⟩,
        _, rfl, _, _, rfl, rfl, .inl ⟨by decide, by decide⟩, _, _, rfl, rfl, _, rfl, l, _, 3, _, rfl, rfl, sqL (j1.p _ _ hl1), rfl, _, _, rfl, rfl, .inr ⟨by decide, by decide⟩, _, _, rfl, rfl, ?_⟩⟩
      refine ⟨_, rfl, _, _, rfl, rfl, .inr ⟨by decide, by decide⟩, _, _, rfl, rfl, .inl ⟨_, rfl, _, _, rfl, rfl, (by show (0 : Int) < 2147483647; decide), ?_⟩⟩
      refine ⟨_, rfl, _, rfl, _, _, rfl, rfl, ⟨by decide, by decide⟩, _, _, rfl, rfl, _, _, rfl, rfl, mulSm (by omega) (by omega) (by omega) (by omega), .inl ⟨_, rfl, _, _, rfl, rfl, (by show (0 : Int) < 2147483629; decide), ?_⟩⟩
      refine ⟨_, rfl, _, rfl, _, _, rfl, rfl, ⟨by decide, by decide⟩, _, _, rfl, rfl, _, _, rfl, rfl, mulSm (by omega) (by omega) (by omega) (by omega), _, rfl, _, _, rfl, rfl, .inl ⟨_, rfl, _, _, rfl, rfl, (by show (0 : Int) < 2147483399; decide), ?_⟩⟩
      refine ⟨_, rfl, _, _, rfl, rfl, ⟨by decide, by decide⟩, .inl ⟨_, rfl, _, rfl, _, _, rfl, rfl, hn0, ?_⟩⟩
      exact k _ _ _ (Int.emod_nonneg _ (by omega)) (Int.emod_lt_of_pos _ hn0) j1 ⟨g, sa, [], ss, _, _, hl1, hg1, hs1, ngs, h0s, hls, by simp⟩
end X

namespace X
open PySem PySem.Spec PyProof.Rows L2 Lv
variable {P : Program} {w : World} {K : PySem.W.Frag} {mg : Str → Option Value} {base : Heap}
variable [TabA]
/-- one of a list's things -/
def spAnyL (K : PySem.W.Frag) : Sp := fun vs H Q _ => ∃ (l t : Addr) (xs : List V) (G P : Hp), vs = [.ref l, .ref t] ∧ Join G P H ∧ Pot P l ∧ G t = some (.lst xs) ∧ 0 < xs.length ∧ xs.length ≤ 1000 ∧ ∀ (i : Nat) (x : V) (P' H' : Hp), xs[i]? = some x → Join G P' H' → Pot P' l → Q x H'
theorem sc_l_any : FnScope ["_law_pot_here", "_law_items"] ["_law_pot_here", "_law_items"] (defScope s_l_any) := ⟨rfl, rfl, rfl, by decide +kernel, rfl, by decide +kernel, by decide +kernel⟩
theorem ok_l_any (T : Txt K mg) {fd_l_draw : FuncData} (G_l_draw : Dn P w K mg base (L2.CX P w) 1 "_law_draw" ["_law_pot_here", "_law_many"] spDraw fd_l_draw) : ∃ fd, Dn P w K mg base (L2.CX P w) 2 "_law_any" ["_law_pot_here", "_law_items"] (spAnyL K) fd := by
  obtain ⟨fd, F⟩ := T.d_l_any
  refine ⟨fd, F.ok sc_l_any (fun vs H Q E h => ?_) (fun cdv A outer s H vs Q E hr h => ?_), T.g_l_any, F.kp, F.bindsN fun _ _ _ _ _ _ us hl => match us, hl with | [_, _], _ => rfl, Lv.fun_lk F⟩
  · obtain ⟨_, _, _, _, _, rfl, _⟩ := h
    rfl
  · have hu := hu_of hr
    have hr_l_draw : Room 1 _ := hr.mono (by decide)
    refine ⟨_, PSs.nox (pss_one (ps_ret (pe_ix ix_list (pv 1) (pe_call G_l_draw.ok hr_l_draw rfl G_l_draw.mg G_l_draw.kp G_l_draw.b .nil passL (pa_cons (pv 0) (pa_cons (pe_callB call_len_seq (by rfl) T.n_len PySem.boot_len (pa_cons (pv 1) pa_nil)) pa_nil))) (fun _ _ => rfl)))), ?_⟩
    obtain ⟨l, t, xs, G, P0, rfl, j, hP, ht, h0, h1, q⟩ := h
    walk_at "w"
    refine ⟨l, _, G, P0, rfl, j, hP, by omega, Int.lt_of_le_of_lt (b := 1000) (by omega) (by decide), fun d P1 H1 d0 d1 j1 hP1 => ?_⟩
    obtain ⟨x, hx⟩ : ∃ x, xs[d.toNat]? = some x := ⟨_, List.getElem?_eq_getElem (by omega)⟩
    refine w_ixL (j1.g _ _ ht) (atI_int d0 hx) ?_
    exact q _ _ _ _ hx j1 hP1
end X

namespace X
open PySem PySem.Spec PyProof.Rows L2 Lv
variable {P : Program} {w : World} {K : PySem.W.Frag} {mg : Str → Option Value} {base : Heap}
variable [TabA]
theorem sc_l_parts : FnScope ["_law_pot_here", "_law_most_standings", "_law_most_events", "_law_standings", "_law_kind", "_law_events", "_law_at", "_law_tries", "_law_points", "_law_before", "_law_after"] ["_law_pot_here", "_law_most_standings", "_law_most_events"] (defScope s_l_parts) := ⟨rfl, rfl, rfl, by decide +kernel, rfl, by decide +kernel, by decide +kernel⟩
theorem ok_l_parts (T : Txt K mg) {fd_l_draw : FuncData} (G_l_draw : Dn P w K mg base (L2.CX P w) 1 "_law_draw" ["_law_pot_here", "_law_many"] spDraw fd_l_draw) : ∃ fd, Dn P w K mg base (L2.CX P w) 2 "_law_parts" ["_law_pot_here", "_law_most_standings", "_law_most_events"] spParts fd := by
  obtain ⟨fd, F⟩ := T.d_l_parts
  refine ⟨fd, F.ok sc_l_parts (fun vs H Q E h => ?_) (fun cdv A outer s H vs Q E hr h => ?_), T.g_l_parts, F.kp, F.bindsN fun _ _ _ _ _ _ us hl => match us, hl with | [_, _, _], _ => rfl, Lv.fun_lk F⟩
  · obtain ⟨_, _, _, _, _, rfl, _⟩ := h
    rfl
  · have hu := hu_of hr
    have hr_l_draw : Room 1 _ := hr.mono (by decide)
    refine ⟨_, PSs.nox (pss_cons (ps_set (i := 3) sc_l_parts.nd rfl (Or.inl rfl) (pe_op op_add pe_int (pe_call G_l_draw.ok hr_l_draw rfl G_l_draw.mg G_l_draw.kp G_l_draw.b .nil passL (pa_cons (pv 0) (pa_cons (pv 1) pa_nil)))))
      (pss_cons (ps_set (i := 4) sc_l_parts.nd rfl (Or.inl rfl) (pe_call G_l_draw.ok hr_l_draw rfl G_l_draw.mg G_l_draw.kp G_l_draw.b .nil passL (pa_cons (pv 0) (pa_cons pe_int pa_nil))))
      (pss_cons (ps_set (i := 5) sc_l_parts.nd rfl (Or.inl rfl) (pe_lst pa_nil))
      (pss_cons (ps_for PassesOwn.never rfl (pi_range1 (by rfl) T.n_range (pa_cons (pe_op op_add pe_int (pe_call G_l_draw.ok hr_l_draw rfl G_l_draw.mg G_l_draw.kp G_l_draw.b .nil passL (pa_cons (pv 0) (pa_cons (pv 2) pa_nil)))) pa_nil)) (pg_name (i := 6) sc_l_parts.nd rfl (Or.inl rfl)) (pss_cons (ps_par (i := 9) (j := 10) rfl sc_l_parts.nd rfl rfl (by decide) rfl rfl (pa_cons (pe_call G_l_draw.ok hr_l_draw rfl G_l_draw.mg G_l_draw.kp G_l_draw.b .nil passL (pa_cons (pv 0) (pa_cons (pv 3) pa_nil))) (pa_cons (pe_call G_l_draw.ok hr_l_draw rfl G_l_draw.mg G_l_draw.kp G_l_draw.b .nil passL (pa_cons (pv 0) (pa_cons (pv 3) pa_nil))) pa_nil)) rfl)
      (Evl.pss_cut (ps_if (pt_cmpR op_gt (pv 4) pe_int (nomark _)) (pss_cons (ps_set (i := 9) sc_l_parts.nd rfl (Or.inl rfl) (pe_op op_mod (pe_callTy call_int1 (by rfl) T.n_int (by decide +kernel) (pa_cons (pv 6) pa_nil)) (pv 3)))
      (pss_one (ps_set (i := 10) sc_l_parts.nd rfl (Or.inl rfl) (pe_ix ix_tup (pe_tup (pa_cons (pv 9) (pa_cons (pe_op op_mod (pe_callTy call_int1 (by rfl) T.n_int (by decide +kernel) (pa_cons (pe_op op_add (pv 9) pe_int) pa_nil)) (pv 3)) pa_nil))) (pe_callTy call_int1 (by rfl) T.n_int (by decide +kernel) (pa_cons (pe_cmpR op_gt (pe_call G_l_draw.ok hr_l_draw rfl G_l_draw.mg G_l_draw.kp G_l_draw.b .nil passL (pa_cons (pv 0) (pa_cons pe_int pa_nil))) pe_int (nomark _)) pa_nil)) (fun _ _ => rfl))))) pss_nil)
      (Evl.pss_cut (ps_set (i := 7) sc_l_parts.nd rfl (Or.inl rfl) (pe_ifExp (pt_cmpR op_eq (pv 4) pe_int (nomark _)) pe_int (pe_op op_add pe_int (pe_call G_l_draw.ok hr_l_draw rfl G_l_draw.mg G_l_draw.kp G_l_draw.b .nil passL (pa_cons (pv 0) (pa_cons pe_int pa_nil))))))
      (Evl.pss_cut (ps_set (i := 8) sc_l_parts.nd rfl (Or.inl rfl) (pe_ifExp (pt_cmpR op_eq (pv 4) pe_int (nomark _)) (pe_call G_l_draw.ok hr_l_draw rfl G_l_draw.mg G_l_draw.kp G_l_draw.b .nil passL (pa_cons (pv 0) (pa_cons pe_int pa_nil))) (pe_op op_sub (pe_call G_l_draw.ok hr_l_draw rfl G_l_draw.mg G_l_draw.kp G_l_draw.b .nil passL (pa_cons (pv 0) (pa_cons pe_int pa_nil))) pe_int)))
      (pss_one (ps_expr (pe_bm PySem.F.plainAttrs_list PySem.F.slot_list_append PySem.F.type_list_append mt_append (pv 5) (pa_cons (pe_tup (pa_cons (pv 9) (pa_cons (pv 10) (pa_cons (pv 7) (pa_cons (pv 8) pa_nil))))) pa_nil)))))))))
      (pss_one (ps_ret (pe_tup (pa_cons (pv 3) (pa_cons (pe_callTy call_tuple_of (by rfl) T.n_tuple (by decide +kernel) (pa_cons (pv 5) pa_nil)) pa_nil))))))))), ?_⟩
    obtain ⟨l, a, b, G, P0, rfl, j, hP, a1, a2, b1, b2, k⟩ := h
    refine ⟨_, rfl, _, rfl, l, a, G, P0, rfl, j, hP, by omega, ?_, fun r1 P1 H1 r10 r11 j1 hP1 => ⟨_, _, rfl, rfl, ?_⟩⟩
    · exact Int.lt_of_lt_of_le (b := 2000) (by omega) (by decide)
    have hn0 : 0 < 1 + r1 := by omega
    have hn2 : 1 + r1 < 2 ^ 200 := Int.lt_of_lt_of_le (b := 2000) (by omega) (by decide)
    refine ⟨_, rfl, l, 4, G, P1, rfl, j1, hP1, by decide, by decide, fun r2 P2 H2 r20 r21 j2 hP2 => ⟨Nat.zero_le _, fun L hL => ?_⟩⟩
    have gL := j2.ng hL
    have j3 := j2.newG (o := .lst []) hL
    refine ⟨_, rfl, _, rfl, l, b, _, P2, rfl, j3, hP2, by omega, Int.lt_of_lt_of_le (b := 2000) (by omega) (by decide), fun r3 P3 H3 r30 r31 j4 hP3 => ⟨_, _, rfl, rfl, 1 + r3, rfl, by omega, by omega, ?_⟩⟩
    clear j j1 j2 j3 hP hP1 hP2 hL
    refine for_range (lo := 0) (n := (1 + r3).toNat) (fun i σ H' => ∃ (G' P' : Hp) (vs : List V) (es : List Ev) (s6 s7 s8 s9 s10 : Option V), σ = [some (.ref l), some (.int a), some (.int b), some (.int (1 + r1)), some (.int r2), some (.ref L), s6, s7, s8, s9, s10] ∧ Join G' P' H' ∧ Pot P' l ∧ Ex G G' ∧
        G' L = some (.lst vs) ∧ EvL G' vs es ∧ es.length = i ∧ ∀ e ∈ es, EvSm (1 + r1) e)
      ⟨_, _, [], [], _, _, _, _, _, rfl, j4, hP3, Ex.new gL, upd_same, EvL.nil, rfl, fun e he => by cases he⟩ ?_ ?_
    · clear j4 hP3
      rintro i σ H4 hi ⟨G1, P4, vs, es, s6, s7, s8, s9, s10, rfl, j, hP, eG, hL, hv, hlen, hes⟩
      refine ⟨_, rfl, _, rfl, l, _, G1, P4, rfl, j, hP, hn0, hn2, fun d1 P5 H5 d10 d11 j5 hP5 => ⟨_, rfl, _, rfl, l, _, G1, P5, rfl, j5, hP5, hn0, hn2, fun d2 P6 H6 d20 d21 j6 hP6 => ⟨_, _, rfl, ?_⟩⟩⟩
      clear j hP j5 hP5
      -- before, after
      refine ⟨fun σ' H' => ∃ (G' P' : Hp) (b' a' : Int), σ' = [some (.ref l), some (.int a), some (.int b), some (.int (1 + r1)), some (.int r2), some (.ref L), some (.int (0 + i)), s7, s8, some (.int b'), some (.int a')] ∧ Join G' P' H' ∧ Pot P' l ∧ Ex G1 G' ∧ 0 ≤ b' ∧ b' < 1 + r1 ∧ 0 ≤ a' ∧ a' < 1 + r1, ?_, ?_⟩
      · refine ⟨_, rfl, _, _, rfl, rfl, _, rfl, ?_⟩
        by_cases hk : 1 < r2
        · refine itT hk ⟨_, rfl, .inl ⟨_, rfl, _, rfl, _, _, rfl, rfl, hn0, ?_⟩⟩
          have q0 := Int.emod_nonneg (0 + (i : Int)) (show (1 + r1) ≠ 0 by omega)
          have q1 := Int.emod_lt_of_pos (0 + (i : Int)) hn0
          refine ⟨_, rfl, _, rfl, _, _, rfl, rfl, .inl ⟨_, rfl, _, rfl, _, _, rfl, rfl, hn0, (by show 2 ≤ sizeLine; decide), fun t ht => ?_⟩⟩
          have j7 := j6.newG (o := .tup [.int ((0 + (i : Int)) % (1 + r1)), .int ((((0 + (i : Int)) % (1 + r1)) + 1) % (1 + r1))]) ht
          refine ⟨_, rfl, l, 3, _, P6, rfl, j7, hP6, by decide, by decide, fun d3 P7 H7 d30 d31 j8 hP7 => ⟨_, _, rfl, rfl, .inr ⟨_, rfl, ?_⟩⟩⟩
          have hx : ∃ v : Int, atI [V.int ((0 + (i : Int)) % (1 + r1)), V.int ((((0 + (i : Int)) % (1 + r1)) + 1) % (1 + r1))] (if decide (0 < d3) = true then 1 else 0) = some (.int v) ∧ 0 ≤ v ∧ v < 1 + r1 := by
            by_cases h3 : 0 < d3
            · rw [if_pos (decide_eq_true h3)]
              exact ⟨_, atI_int (by decide) rfl, Int.emod_nonneg _ (by omega), Int.emod_lt_of_pos _ hn0⟩
            · rw [if_neg (by rw [decide_eq_false h3]; decide)]
              exact ⟨_, atI_int (by decide) rfl, q0, q1⟩
          obtain ⟨v, hv1, hv2, hv3⟩ := hx
          exact ⟨t, _, _, _, rfl, rfl, sqT (j8.g _ _ upd_same), hv1, _, P7, _, _, rfl, j8, hP7, Ex.new (j6.ng ht), q0, q1, hv2, hv3⟩
        · exact itF hk ⟨G1, P6, _, _, rfl, j6, hP6, Ex.refl _, d10, d11, d20, d21⟩
      clear j6 hP6
      rintro σ' H7 ⟨G2, P7, b', a', rfl, j7, hP7, e7, hb0, hb1, ha0, ha1⟩
      -- tries
      refine ⟨fun σ' H' => ∃ (P' : Hp) (w' : Int), σ' = [some (.ref l), some (.int a), some (.int b), some (.int (1 + r1)), some (.int r2), some (.ref L), some (.int (0 + i)), some (.int w'), s8, some (.int b'), some (.int a')] ∧ Join G2 P' H' ∧ Pot P' l ∧ 1 ≤ w' ∧ w' ≤ 3, ?_, ?_⟩
      · refine ⟨_, rfl, rfl, _, rfl, ?_⟩
        by_cases hk : r2 = 1
        · exact itT (congrArg V.int hk) ⟨P7, 1, rfl, j7, hP7, by decide, by decide⟩
        · refine itF (fun q => hk (V.int.inj q)) ⟨_, rfl, l, 3, G2, P7, rfl, j7, hP7, by decide, by decide, fun d3 P8 H8 d30 d31 j8 hP8 => ⟨_, _, rfl, rfl, P8, _, rfl, j8, hP8, by omega, by omega⟩⟩
      clear j7 hP7
      rintro σ' H8 ⟨P8, w', rfl, j8, hP8, hw1, hw2⟩
      -- points
      refine ⟨fun σ' H' => ∃ (P' : Hp) (x' : Int), σ' = [some (.ref l), some (.int a), some (.int b), some (.int (1 + r1)), some (.int r2), some (.ref L), some (.int (0 + i)), some (.int w'), some (.int x'), some (.int b'), some (.int a')] ∧ Join G2 P' H' ∧ Pot P' l ∧ -4 ≤ x' ∧ x' ≤ 4, ?_, ?_⟩
      · refine ⟨_, rfl, rfl, _, rfl, ?_⟩
        by_cases hk : r2 = 1
        · exact itT (congrArg V.int hk) ⟨_, rfl, l, 2, G2, P8, rfl, j8, hP8, by decide, by decide, fun d3 P9 H9 d30 d31 j9 hP9 => ⟨P9, _, rfl, j9, hP9, by omega, by omega⟩⟩
        · exact itF (fun q => hk (V.int.inj q)) ⟨_, rfl, l, 9, G2, P8, rfl, j8, hP8, by decide, by decide, fun d3 P9 H9 d30 d31 j9 hP9 => ⟨_, _, rfl, rfl, P9, _, rfl, j9, hP9, by omega, by omega⟩⟩
      clear j8 hP8
      rintro σ' H9 ⟨P9, x', rfl, j9, hP9, hx1, hx2⟩
      -- append
      have hL2 := e7 _ _ hL
      refine ⟨_, rfl, .inl ⟨rfl, _, sqL (j9.g _ _ hL2)⟩, _, rfl, _, rfl, _, rfl, _, rfl, (by show 4 ≤ sizeLine; decide), fun t ht => ?_⟩
      have nLt : L ≠ t := ne_of_none (j9.g _ _ hL2) ht
      have j10 := j9.newG (o := .tup (evV ⟨b', a', w', x'⟩)) ht
      have e10 : Ex G2 _ := Ex.new (o := .tup (evV ⟨b', a', w', x'⟩)) (j9.ng ht)
      have hL3 := e10 _ _ hL2
      refine ⟨L, vs, .ref t, rfl, rfl, Eq.trans (upd_ne nLt) (j9.g _ _ hL2), szlt ?_, ?_⟩
      · rw [hv.1]; omega
      · refine ⟨_, P9, vs ++ [.ref t], es ++ [⟨b', a', w', x'⟩], _, _, _, _, _, rfl, j10.setGo hL3, hP9, ?_, upd_same, ((hv.mono (e7.trans e10)).upd hL3).add ?_, by simp [hlen], fun e he => ?_⟩
        · exact ((eG.trans e7).trans e10).mut gL
        · rw [upd_ne nLt.symm, upd_same]
        · rcases List.mem_append.mp he with q | q
          · exact hes e q
          · simp at q
            rw [q]
            exact ⟨hb0, hb1, ha0, ha1, hw1, hw2, hx1, hx2⟩
    · rintro σ H4 ⟨G1, P4, vs, es, s6, s7, s8, s9, s10, rfl, j, hP, eG, hL, hv, hlen, hes⟩
      refine ⟨_, rfl, _, rfl, L, _, rfl, .inl ⟨sqL (j.g _ _ hL), fun t ht => ⟨(by show 2 ≤ sizeLine; decide), fun p hp => ?_⟩⟩⟩
      have j5 := j.newG (o := .tup vs) ht
      have e5 : Ex G1 _ := Ex.new (o := .tup vs) (j.ng ht)
      have j6 := j5.newG (o := .tup [.int (1 + r1), .ref t]) hp
      have e6 := Ex.new (o := .tup [.int (1 + r1), .ref t]) (j5.ng hp)
      exact k p (1 + r1) es _ P4 _ ((eG.trans e5).trans e6) j6 hP ⟨t, upd_same, vs, e6 _ _ upd_same, hv.mono (e5.trans e6)⟩ (by omega) (by omega) (by omega) (by omega) hes
end X

namespace X
open PySem PySem.Spec PyProof.Rows L2 Lv
variable {P : Program} {w : World} {K : PySem.W.Frag} {mg : Str → Option Value} {base : Heap}
variable [TabA]
def sp_step_at (K : PySem.W.Frag) : Sp := fun vs H Q _ => ∃ (m : Addr) (k : Nat) (n : Int) (es : List Ev) (e : Ev), vs = [.ref m, .int k] ∧ MachK K H m n es ∧ es[k]? = some e ∧ ∀ t, H t = some (.tup (evV e)) → Q (.ref t) H
theorem sc_step_at : FnScope ["machine", "event"] ["machine", "event"] (defScope s_step_at) := ⟨rfl, rfl, rfl, by decide +kernel, rfl, by decide +kernel, by decide +kernel⟩
theorem ok_step_at (T : Txt K mg) : ∃ fd, Dn P w K mg base (L2.CX P w) 1 "step_at" ["machine", "event"] (sp_step_at K) fd := by
  obtain ⟨fd, F⟩ := T.d_step_at
  refine ⟨fd, F.ok sc_step_at (fun vs H Q E h => ?_) (fun cdv A outer s H vs Q E hr h => ?_), T.g_step_at, F.kp, F.bindsN fun _ _ _ _ _ _ us hl => match us, hl with | [_, _], _ => rfl, Lv.fun_lk F⟩
  · obtain ⟨_, _, _, _, _, rfl, _⟩ := h
    rfl
  · have hu := hu_of hr
    refine ⟨_, PSs.nox (pss_one (ps_ret (pe_ix ix_tup (pe_fld (pv 0) rfl) (pv 1) (fun _ _ => rfl)))), ?_⟩
    obtain ⟨m, k, n, es, e, rfl, ⟨C, hC, dx, t, ko, ks, h1, ⟨vs, h2, hv⟩, h3⟩, he, q⟩ := h
    obtain ⟨te, r1, r2⟩ := hv.2 k e he
    exact ⟨_, rfl, m, _, dx, _, _, rfl, h1, hC.c, hC.ne, ml2 _ _ _, _, rfl, t, vs, k, _, rfl, rfl, sqT h2, atI_nat r1, q te r2⟩
def sp_is_event_of (K : PySem.W.Frag) : Sp := fun vs H Q _ => ∃ (m : Addr) (i n : Int) (es : List Ev), vs = [.ref m, .int i] ∧ MachK K H m n es ∧ Q (.bl (decide (0 ≤ i ∧ i ≤ (es.length : Int) - 1))) H
theorem sc_is_event_of : FnScope ["machine", "thing"] ["machine", "thing"] (defScope s_is_event_of) := ⟨rfl, rfl, rfl, by decide +kernel, rfl, by decide +kernel, by decide +kernel⟩
theorem ok_is_event_of (T : Txt K mg) {fd_is_within : FuncData} (G_is_within : Dn P w K mg base (L2.CX P w) 2 "is_within" ["thing", "least", "most"] (sp_is_within K) fd_is_within) : ∃ fd, Dn P w K mg base (L2.CX P w) 3 "is_event_of" ["machine", "thing"] (sp_is_event_of K) fd := by
  obtain ⟨fd, F⟩ := T.d_is_event_of
  refine ⟨fd, F.ok sc_is_event_of (fun vs H Q E h => ?_) (fun cdv A outer s H vs Q E hr h => ?_), T.g_is_event_of, F.kp, F.bindsN fun _ _ _ _ _ _ us hl => match us, hl with | [_, _], _ => rfl, Lv.fun_lk F⟩
  · obtain ⟨_, _, _, _, rfl, _⟩ := h
    rfl
  · have hu := hu_of hr
    have hr_is_within : Room 2 _ := hr.mono (by decide)
    refine ⟨_, PSs.nox (pss_one (ps_ret (pe_call G_is_within.ok hr_is_within rfl G_is_within.mg G_is_within.kp G_is_within.b .nil passL (pa_cons (pv 1) (pa_cons pe_int (pa_cons (pe_op op_sub (pe_callB call_len (by rfl) T.n_len PySem.boot_len (pa_cons (pe_fld (pv 0) rfl) pa_nil)) pe_int) pa_nil)))))), ?_⟩
    obtain ⟨m, i, n, es, rfl, ⟨C, hC, dx, t, ko, ks, h1, ⟨vs, h2, hv⟩, h3⟩, q⟩ := h
    refine ⟨_, rfl, _, rfl, m, _, dx, _, _, rfl, h1, hC.c, hC.ne, ml2 _ _ _, _, _, rfl, .inr ⟨_, sqT h2, rfl⟩, _, _, rfl, rfl, i, 0, _, rfl, ?_⟩
    rw [hv.1]
    exact q
def sp_is_run_there (K : PySem.W.Frag) : Sp := fun vs H Q _ => ∃ (m r : Addr) (n : Int) (es : List Ev) (rs : List Nat) (G P : Hp), vs = [.ref m, .ref r] ∧ Join G P H ∧ MachK K G m n es ∧ G r = some (.tup (rV rs)) ∧ rs.length ≤ 10000 ∧ IsRun es rs ∧
  ∀ G' H', Ex G G' → Join G' P H' → Q (.bl true) H'
theorem sc_is_run_there : FnScope ["machine", "thing", "standing", "event"] ["machine", "thing"] (defScope s_is_run_there) := ⟨rfl, rfl, rfl, by decide +kernel, rfl, by decide +kernel, by decide +kernel⟩
theorem ok_is_run_there (T : Txt K mg) {fd_is_event_of : FuncData} (G_is_event_of : Dn P w K mg base (L2.CX P w) 3 "is_event_of" ["machine", "thing"] (sp_is_event_of K) fd_is_event_of) {fd_step_at : FuncData} (G_step_at : Dn P w K mg base (L2.CX P w) 1 "step_at" ["machine", "event"] (sp_step_at K) fd_step_at) : ∃ fd, Dn P w K mg base (L2.CX P w) 4 "is_run_there" ["machine", "thing"] (sp_is_run_there K) fd := by
  obtain ⟨fd, F⟩ := T.d_is_run_there
  refine ⟨fd, F.ok sc_is_run_there (fun vs H Q E h => ?_) (fun cdv A outer s H vs Q E hr h => ?_), T.g_is_run_there, F.kp, F.bindsN fun _ _ _ _ _ _ us hl => match us, hl with | [_, _], _ => rfl, Lv.fun_lk F⟩
  · obtain ⟨_, _, _, _, _, _, _, rfl, _⟩ := h
    rfl
  · have hu := hu_of hr
    have hr_is_event_of : Room 3 _ := hr.mono (by decide)
    have hr_step_at : Room 1 _ := hr.mono (by decide)
    refine ⟨_, PSs.nox (pss_cons (ps_if (PW.pt (pw_or (pt_not (pt_val (pe_callB call_isi (by rfl) T.n_isinstance (by decide +kernel) (pa_cons (pv 1) (pa_cons (pe_bltn (v := .ty "tuple") (by rfl) T.n_tuple (by decide +kernel) rfl) pa_nil))))) (pw_or1 (pt_not (pt_val (pe_callB (cr_all rfl) (by rfl) T.n_all (by decide +kernel) (pa_cons (pe_lc (own := [("event", 3)]) (g := gName 3) (tt := tYes) rfl sc_is_run_there.nd (pi_tup (pv 1)) (blkOk_by (N := ["machine", "thing", "standing", "event"]) (sc := defScope s_is_run_there) (by decide +kernel)) (fun _ _ _ _ _ => (pg_name (i := 3) sc_is_run_there.nd rfl (Or.inl rfl) (hf := Or.inr rfl))) (fun _ _ _ _ _ => pts_nil) (fun _ _ _ _ _ => (pe_call G_is_event_of.ok hr_is_event_of rfl G_is_event_of.mg G_is_event_of.kp G_is_event_of.b .nil passL (pa_cons (pv 0) (pa_cons (pv 3) pa_nil))))) pa_nil))))))) (pss_one (ps_ret pe_bl)) pss_nil)
      (pss_cons (ps_set (i := 2) sc_is_run_there.nd rfl (Or.inl rfl) pe_int)
      (pss_cons (ps_for PassesOwn.never rfl (pi_tup (pv 1)) (pg_name (i := 3) sc_is_run_there.nd rfl (Or.inl rfl)) (pss_cons (ps_if (pt_cmpR op_ne (pe_ix ix_tup (pe_call G_step_at.ok hr_step_at rfl G_step_at.mg G_step_at.kp G_step_at.b .nil passL (pa_cons (pv 0) (pa_cons (pv 3) pa_nil))) pe_int (fun _ _ => rfl)) (pv 2) (nomark _)) (pss_one (ps_ret pe_bl)) pss_nil)
      (pss_one (ps_set (i := 2) sc_is_run_there.nd rfl (Or.inl rfl) (pe_ix ix_tup (pe_call G_step_at.ok hr_step_at rfl G_step_at.mg G_step_at.kp G_step_at.b .nil passL (pa_cons (pv 0) (pa_cons (pv 3) pa_nil))) pe_int (fun _ _ => rfl))))))
      (pss_one (ps_ret pe_bl))))), ?_⟩
    obtain ⟨m, r, n, es, rs, G, P0, rfl, j, hm, hr0, hl, ⟨z, hz⟩, q⟩ := h
    have hlv : (rV rs).length = rs.length := by simp [rV]
    refine ⟨_, rfl, _, _, _, _, true, rfl, .ty _, .base (.tup (j.g _ _ hr0)), kit_ty (by decide +kernel), true, rfl, iteF ?_⟩
    refine ⟨_, rfl, r, rfl, ⟨_, sqT (j.g _ _ hr0)⟩, fun D hD => ?_⟩
    refine lc_mapT (xs := rV rs) (fun _ => V.bl true) hD j (sqT hr0) (by omega) (fun _ => rfl) ?_ ?_
    · intro x G1 H1 R hx e1 j1 k1
      obtain ⟨i, hi⟩ := List.getElem?_of_mem hx
      obtain ⟨k, hk, rfl⟩ := rV_at hi
      obtain ⟨y, e, _, he, _⟩ := leads_at hz hk
      have hlt : k < es.length := (List.getElem?_eq_some_iff.mp he).1
      refine ⟨_, rfl, _, rfl, m, k, n, es, rfl, (hm.mono e1).mono j1.exG, ?_⟩
      have q2 := k1 H1 (Ex.refl _)
      rw [decide_eq_true ⟨by omega, by omega⟩]
      exact q2
    intro G1 H1 e1 j1 hD1
    have hm1 : MachK K H1 m n es := (hm.mono e1).mono j1.exG
    have hr1 := j1.g _ _ (e1 _ _ hr0)
    refine ⟨D, (rV rs).map fun _ => true, rfl, sqL (by rw [List.map_map]; exact j1.g _ _ hD1), true, congrArg V.bl (by simp), iteF ?_⟩
    refine ⟨_, rfl, r, rfl, ⟨_, sqT hr1⟩, for_tup (K := K) (a := r) (xs := rV rs) (fun i σ H' => ∃ (y : Int) (s3 : Option V), σ = [some (.ref m), some (.ref r), some (.int y), s3] ∧ H' = H1 ∧ leads es 0 (rs.take i) = some y)
      ⟨0, _, rfl, rfl, rfl⟩ (fun i σ H' _ ⟨_, _, _, e, _⟩ => by rw [e]; exact sqT hr1) ?_ ?_⟩
    · rintro i x σ H' hx ⟨y, s3, rfl, rfl, hy⟩
      obtain ⟨k, hk, rfl⟩ := rV_at hx
      obtain ⟨y', e, hy', he, hb, hn⟩ := leads_at hz hk
      have ey : y' = y := by rw [hy] at hy'; exact (Option.some.inj hy').symm
      subst ey
      refine ⟨_, rfl, _, rfl, m, k, n, es, e, rfl, hm1, he, fun te hte => ?_⟩
      refine ⟨te, _, 0, _, rfl, rfl, sqT hte, rfl, _, rfl, rfl, _, rfl, itNF (congrArg V.int hb) ?_⟩
      exact ⟨_, rfl, _, rfl, m, k, n, es, e, rfl, hm1, he, fun t2 ht2 => ⟨t2, _, 1, _, rfl, rfl, sqT ht2, rfl, _, _, rfl, rfl, hn⟩⟩
    · rintro σ H' ⟨y, s3, rfl, rfl, hy⟩
      exact q G1 _ e1 j1
def sp_check_run (K : PySem.W.Frag) : Sp := fun vs H Q _ => ∃ (m r : Addr) (n : Int) (es : List Ev) (rs : List Nat) (G P : Hp), vs = [.ref m, .ref r] ∧ Join G P H ∧ MachK K G m n es ∧ G r = some (.tup (rV rs)) ∧ rs.length ≤ 10000 ∧ IsRun es rs ∧
  ∀ G' H', Ex G G' → Join G' P H' → Q .non H'
theorem sc_check_run : FnScope ["machine", "thing"] ["machine", "thing"] (defScope s_check_run) := ⟨rfl, rfl, rfl, by decide +kernel, rfl, by decide +kernel, by decide +kernel⟩
theorem ok_check_run (T : Txt K mg) {fd_is_run_there : FuncData} (G_is_run_there : Dn P w K mg base (L2.CX P w) 4 "is_run_there" ["machine", "thing"] (sp_is_run_there K) fd_is_run_there) : ∃ fd, Dn P w K mg base (L2.CX P w) 5 "check_run" ["machine", "thing"] (sp_check_run K) fd := by
  obtain ⟨fd, F⟩ := T.d_check_run
  refine ⟨fd, F.ok sc_check_run (fun vs H Q E h => ?_) (fun cdv A outer s H vs Q E hr h => ?_), T.g_check_run, F.kp, F.bindsN fun _ _ _ _ _ _ us hl => match us, hl with | [_, _], _ => rfl, Lv.fun_lk F⟩
  · obtain ⟨_, _, _, _, _, _, _, rfl, _⟩ := h
    rfl
  · have hu := hu_of hr
    have hr_is_run_there : Room 4 _ := hr.mono (by decide)
    refine ⟨_, PSs.nox (pss_one (ps_if (pt_not (pt_val (pe_call G_is_run_there.ok hr_is_run_there rfl G_is_run_there.mg G_is_run_there.kp G_is_run_there.b .nil passL (pa_cons (pv 0) (pa_cons (pv 1) pa_nil))))) (pss_one ps_never) pss_nil)), ?_⟩
    obtain ⟨m, r, n, es, rs, G, P0, rfl, j, hm, hr0, hl, hz, q⟩ := h
    exact ⟨_, rfl, _, rfl, m, r, n, es, rs, G, P0, rfl, j, hm, hr0, hl, hz, fun G1 H1 e1 j1 => ⟨true, rfl, iteF (q G1 H1 e1 j1)⟩⟩
/-- a new list of the boards -/
def spBoards (K : PySem.W.Frag) : Sp := fun vs H Q _ => ∃ (m r : Addr) (n : Int) (es : List Ev) (rs : List Nat) (G P : Hp), vs = [.ref m, .ref r] ∧ Join G P H ∧ MachK K G m n es ∧ G r = some (.tup (rV rs)) ∧ rs.length ≤ 10000 ∧ IsRun es rs ∧
  ∀ (p : Addr) (ws : List V) (G' H' : Hp), Ex G G' → Join G' P H' → H p = none → G' p = some (.lst ws) → TupL iV G' ws (boardsOf es rs) → Q (.ref p) H'
end X

namespace X
open PySem PySem.Spec PyProof.Rows L2 Lv
variable {P : Program} {w : World} {K : PySem.W.Frag} {mg : Str → Option Value} {base : Heap}
variable [TabA]
/-- a new list of the numbers of the events that lead from a standing -/
def spOut : Sp := fun vs H Q _ => ∃ (p : Addr) (s : Nat) (n : Int) (es : List Ev) (G P : Hp), vs = [.ref p, .int s] ∧ Join G P H ∧ PartsAt G p n es ∧ es.length ≤ 10000 ∧
  ∀ (q : Addr) (G' H' : Hp), Ex G G' → Join G' P H' → H q = none → G' q = some (.lst ((outs 0 es s).map V.int)) → Q (.ref q) H'
theorem sc_l_out : FnScope ["_law_parts_here", "_law_standing", "_law_number"] ["_law_parts_here", "_law_standing"] (defScope s_l_out) := ⟨rfl, rfl, rfl, by decide +kernel, rfl, by decide +kernel, by decide +kernel⟩
theorem ok_l_out (T : Txt K mg) : ∃ fd, Dn P w K mg base (L2.CX P w) 1 "_law_out" ["_law_parts_here", "_law_standing"] spOut fd := by
  obtain ⟨fd, F⟩ := T.d_l_out
  refine ⟨fd, F.ok sc_l_out (fun vs H Q E h => ?_) (fun cdv A outer s H vs Q E hr h => ?_), T.g_l_out, F.kp, F.bindsN fun _ _ _ _ _ _ us hl => match us, hl with | [_, _], _ => rfl, Lv.fun_lk F⟩
  · obtain ⟨_, _, _, _, _, _, rfl, _⟩ := h
    rfl
  · have hu := hu_of hr
    refine ⟨_, PSs.nox (pss_one (ps_ret (pe_lc (own := [("_law_number", 2)]) (g := gName 2) rfl sc_l_out.nd (pi_range1 (by rfl) T.n_range (pa_cons (pe_callB call_len (by rfl) T.n_len PySem.boot_len (pa_cons (pe_ix ix_tup (pv 0) pe_int (fun _ _ => rfl)) pa_nil)) pa_nil)) (blkOk_by (N := ["_law_parts_here", "_law_standing", "_law_number"]) (sc := defScope s_l_out) (by decide +kernel)) (fun _ _ _ _ _ => (pg_name (i := 2) sc_l_out.nd rfl (Or.inl rfl) (hf := Or.inr rfl))) (fun _ _ _ _ _ => (pts_one (pt_cmpR op_eq (pe_ix (ix_tupK (K := K) rfl) (pe_ix (ix_tupK (K := K) rfl) (pe_ix (ix_tupK (K := K) rfl) (pv 0) pe_int (fun _ _ => rfl)) (pv 2) (fun _ _ => rfl)) pe_int (fun _ _ => rfl)) (pv 1) (nomark _)))) (fun _ _ _ _ _ => (pv 2))))), ?_⟩
    obtain ⟨p, s', n, es, G, P0, rfl, j, ⟨t, hp, vs, ht, hv⟩, hl, q⟩ := h
    have e0 : ((0 : Int) + (0 : Nat)) = 0 := rfl
    refine ⟨_, rfl, p, _, 1, _, rfl, rfl, sqT (j.g _ _ hp), rfl, _, _, rfl, .inr ⟨_, sqT (j.g _ _ ht), rfl⟩, _, rfl, by omega, by have := hv.1; omega, fun D hD => ?_⟩
    have en : ((vs.length : Int)).toNat = es.length := by rw [hv.1]; simp
    refine lcG_range (lo := 0) (n := ((vs.length : Int)).toNat) (fun P' => P' = P0) (fun i us G' => us = (outs 0 (es.take i) s').map V.int) hD j rfl rfl (fun i us G2 _ _ _ h => h) (fun i us G2 h => ?_) ?_ ?_
    · rw [h, List.length_map]
      have h1 := outs_len s' (es.take i) 0
      rw [List.length_take] at h1
      omega
    · intro i us G' P' H' R R0 hi e' hI hP' j' kR kR0
      subst hP'
      rw [en] at hi
      obtain ⟨e, he⟩ : ∃ e, es[i]? = some e := ⟨_, List.getElem?_eq_getElem hi⟩
      obtain ⟨te, r1, r2⟩ := hv.2 i e he
      have ei : (0 : Int) + (i : Int) = (i : Int) := by omega
      have h1 := j'.g _ _ (e' _ _ hp)
      have h2 := j'.g _ _ (e' _ _ ht)
      have h3 := j'.g _ _ (e' _ _ r2)
      have el : 0 + (es.take i).length = i := by rw [List.length_take]; omega
      refine ⟨rfl, _, rfl, p, _, 1, _, rfl, rfl, sqT h1, rfl, _, rfl, t, _, (0 + (i : Int)), .ref te, rfl, rfl, sqT h2, by rw [ei]; exact atI_nat r1, te, _, 0, _, rfl, rfl, sqT h3, rfl, _, rfl, rfl, _, rfl, ?_⟩
      by_cases hb : e.b = (s' : Int)
      · refine itT (congrArg V.int hb) ⟨_, rfl, ?_⟩
        refine kR _ G' _ H' (Ex.refl _) rfl j' ?_
        rw [hI, take_more he, outs_app, if_pos hb, List.map_append, el, ei]; rfl
      · refine itF (fun z => hb (V.int.inj z)) ?_
        refine kR0 G' _ H' (Ex.refl _) rfl j' ?_
        rw [hI, take_more he, outs_app, if_neg hb, List.append_nil]
    · intro us G' P' H' e' hd hI hP' j'
      subst hP'
      rw [en, List.take_length] at hI
      rw [hI] at hd
      exact q D G' H' e' j' hD hd
theorem outs_mem {s : Nat} {v : Int} : ∀ (l : List Ev) (k : Nat), v ∈ outs k l s → ∃ i e, v = ((k + i : Nat) : Int) ∧ l[i]? = some e ∧ e.b = (s : Int)
  | [], _, h => by cases h
  | a :: r, k, h => by
    have h2 : v ∈ (if a.b = (s : Int) then (k : Int) :: outs (k + 1) r s else outs (k + 1) r s) := h
    have hrec : v ∈ outs (k + 1) r s → ∃ i e, v = ((k + i : Nat) : Int) ∧ (a :: r)[i]? = some e ∧ e.b = (s : Int) := fun h3 => by
      obtain ⟨i, e, e1, e2, e3⟩ := outs_mem r (k + 1) h3
      exact ⟨i + 1, e, by rw [e1]; congr 1; omega, by simpa using e2, e3⟩
    by_cases hb : a.b = (s : Int)
    · rw [if_pos hb] at h2
      rcases List.mem_cons.mp h2 with q | q
      · exact ⟨0, a, by rw [q]; simp, rfl, hb⟩
      · exact hrec q
    · rw [if_neg hb] at h2
      exact hrec h2
/-- a drawn run -/
def spWalk : Sp := fun vs H Q _ => ∃ (l p : Addr) (m : Nat) (n : Int) (es : List Ev) (G P : Hp), vs = [.ref l, .ref p, .int m] ∧ Join G P H ∧ Pot P l ∧ PartsAt G p n es ∧ es.length ≤ 10000 ∧ (∀ e ∈ es, 0 ≤ e.a) ∧ m ≤ 1000 ∧
  ∀ (r : Addr) (rs : List Nat) (G' P' H' : Hp), Ex G G' → Join G' P' H' → Pot P' l → G' r = some (.tup (rV rs)) → rs.length ≤ m → IsRun es rs → (rs.length = m ∨ ∃ z : Nat, leads es 0 rs = some (z : Int) ∧ outs 0 es z = []) → Q (.ref r) H'
theorem sc_l_walk : FnScope ["_law_pot_here", "_law_parts_here", "_law_many", "_law_run", "_law_standing", "_law_turn", "_law_some"] ["_law_pot_here", "_law_parts_here", "_law_many"] (defScope s_l_walk) := ⟨rfl, rfl, rfl, by decide +kernel, rfl, by decide +kernel, by decide +kernel⟩
theorem ok_l_walk (T : Txt K mg) {fd_l_out : FuncData} (G_l_out : Dn P w K mg base (L2.CX P w) 1 "_law_out" ["_law_parts_here", "_law_standing"] spOut fd_l_out) {fd_l_draw : FuncData} (G_l_draw : Dn P w K mg base (L2.CX P w) 1 "_law_draw" ["_law_pot_here", "_law_many"] spDraw fd_l_draw) : ∃ fd, Dn P w K mg base (L2.CX P w) 2 "_law_walk" ["_law_pot_here", "_law_parts_here", "_law_many"] spWalk fd := by
  obtain ⟨fd, F⟩ := T.d_l_walk
  refine ⟨fd, F.ok sc_l_walk (fun vs H Q E h => ?_) (fun cdv A outer s H vs Q E hr h => ?_), T.g_l_walk, F.kp, F.bindsN fun _ _ _ _ _ _ us hl => match us, hl with | [_, _, _], _ => rfl, Lv.fun_lk F⟩
  · obtain ⟨_, _, _, _, _, _, _, rfl, _⟩ := h
    rfl
  · have hu := hu_of hr
    have hr_l_out : Room 1 _ := hr.mono (by decide)
    have hr_l_draw : Room 1 _ := hr.mono (by decide)
    refine ⟨_, PSs.nox (pss_cons (ps_set (i := 3) sc_l_walk.nd rfl (Or.inl rfl) (pe_lst pa_nil))
      (pss_cons (ps_set (i := 4) sc_l_walk.nd rfl (Or.inl rfl) pe_int)
      (pss_cons (ps_for PassesOwn.never rfl (pi_range1 (by rfl) T.n_range (pa_cons (pv 2) pa_nil)) (pg_name (i := 5) sc_l_walk.nd rfl (Or.inl rfl)) (pss_cons (ps_set (i := 6) sc_l_walk.nd rfl (Or.inl rfl) (pe_call G_l_out.ok hr_l_out rfl G_l_out.mg G_l_out.kp G_l_out.b .nil passL (pa_cons (pv 1) (pa_cons (pv 4) pa_nil))))
      (pss_cons (ps_if (pt_cmpR op_eq (pe_callB call_len_seq (by rfl) T.n_len PySem.boot_len (pa_cons (pv 6) pa_nil)) pe_int (nomark _)) (pss_one ps_break) pss_nil)
      (pss_cons (ps_expr (pe_bm PySem.F.plainAttrs_list PySem.F.slot_list_append PySem.F.type_list_append mt_append (pv 3) (pa_cons (pe_ix ix_list (pv 6) (pe_call G_l_draw.ok hr_l_draw rfl G_l_draw.mg G_l_draw.kp G_l_draw.b .nil passL (pa_cons (pv 0) (pa_cons (pe_callB call_len_seq (by rfl) T.n_len PySem.boot_len (pa_cons (pv 6) pa_nil)) pa_nil))) (fun _ _ => rfl)) pa_nil)))
      (pss_one (ps_set (i := 4) sc_l_walk.nd rfl (Or.inl rfl) (pe_ix ix_tup (pe_ix ix_tup (pe_ix ix_tup (pv 1) pe_int (fun _ _ => rfl)) (pe_ix ix_list (pv 3) (pe_un un_neg pe_int) (fun _ _ => rfl)) (fun _ _ => rfl)) pe_int (fun _ _ => rfl))))))))
      (pss_one (ps_ret (pe_callTy call_tuple_of (by rfl) T.n_tuple (by decide +kernel) (pa_cons (pv 3) pa_nil))))))), ?_⟩
    obtain ⟨l, p, m, n, es, G, P0, rfl, j, hP, hpt, hl, hpos, hm, q⟩ := h
    refine ⟨Nat.zero_le _, fun L hL => ?_⟩
    have gL := j.ng hL
    have j1 := j.newG (o := .lst (rV [])) hL
    refine ⟨_, rfl, m, rfl, by omega, by omega, ?_⟩
    refine for_range (lo := 0) (n := ((m : Int)).toNat) (fun i σ H' => ∃ (G1 P1 : Hp) (rs : List Nat) (z : Nat) (s5 s6 : Option V), σ = [some (.ref l), some (.ref p), some (.int m), some (.ref L), some (.int z), s5, s6] ∧ Join G1 P1 H' ∧ Pot P1 l ∧ Ex G G1 ∧ G1 L = some (.lst (rV rs)) ∧ rs.length = i ∧ leads es 0 rs = some (z : Int))
      ⟨_, P0, [], 0, _, _, rfl, j1, hP, Ex.new gL, upd_same, rfl, rfl⟩ ?_ ?_
    · rintro i σ H1 hi ⟨G1, P1, rs, z, s5, s6, rfl, j2, hP1, e1, hL1, hlen, hz⟩
      refine ⟨_, rfl, _, rfl, p, z, n, es, G1, P1, rfl, j2, hpt.mono e1, hl, fun q1 G2 H2 e2 j3 hq1 hq2 => ?_⟩
      have hL2 := e2 _ _ hL1
      refine ⟨_, rfl, q1, _, rfl, .inl (sqL (j3.g _ _ hq2)), rfl, _, rfl, ?_⟩
      by_cases h0 : (((outs 0 es z).map V.int).length : Int) = 0
      · refine itT (congrArg V.int h0) ?_
        refine ⟨_, rfl, L, _, rfl, .inl ⟨sqL (j3.g _ _ hL2), fun t ht => ?_⟩⟩
        exact q t rs _ P1 _ ((e1.trans e2).trans (Ex.new (j3.ng ht))) (j3.newG ht) hP1 upd_same (by omega) ⟨_, hz⟩ (.inr ⟨z, hz, List.eq_nil_of_length_eq_zero (by rw [List.length_map] at h0; omega)⟩)
      · refine itF (fun w => h0 (V.int.inj w)) ?_
        have hpos0 : (0 : Int) < (((outs 0 es z).map V.int).length : Int) := by omega
        have hsm : (((outs 0 es z).map V.int).length : Int) < 2 ^ 200 := by
          have h1 := outs_len z es 0
          rw [List.length_map]
          exact Int.lt_of_lt_of_le (b := 20000) (by omega) (by decide)
        refine ⟨_, rfl, .inl ⟨rfl, _, sqL (j3.g _ _ hL2)⟩, _, rfl, _, rfl, _, rfl, q1, _, rfl, .inl (sqL (j3.g _ _ hq2)), l, _, G2, P1, rfl, j3, hP1, hpos0, hsm, fun d P2 H3 d0 d1 j4 hP2 => ?_⟩
        obtain ⟨v, hv⟩ : ∃ v, (outs 0 es z)[d.toNat]? = some v := ⟨_, List.getElem?_eq_getElem (by rw [List.length_map] at d1; omega)⟩
        obtain ⟨k, e, ek, he, heb⟩ := outs_mem es 0 (List.mem_of_getElem? hv)
        rw [Nat.zero_add] at ek
        subst ek
        refine ⟨q1, _, d, .int (k : Int), rfl, rfl, sqL (j4.g _ _ hq2), atI_int d0 (by rw [List.getElem?_map, hv]; rfl), L, rV rs, _, rfl, rfl, j4.g _ _ hL2, szlt (by simp [rV]; omega), ?_⟩
        have er : rV rs ++ [V.int (k : Int)] = rV (rs ++ [k]) := by simp [rV]
        have j5 := j4.setGo (o := .lst (rV rs ++ [V.int (k : Int)])) hL2
        have e5 : Ex G _ := (e1.trans e2).mut (p := L) (o := .lst (rV rs ++ [V.int (k : Int)])) gL
        have hL5 : (upd G2 L (.lst (rV rs ++ [V.int (k : Int)]))) L = _ := upd_same
        generalize (upd G2 L (.lst (rV rs ++ [V.int (k : Int)]))) = G5 at j5 e5 hL5
        obtain ⟨t, hp5, vs, ht5, hv5⟩ := hpt.mono e5
        obtain ⟨te, r1, r2⟩ := hv5.2 k e he
        refine ⟨_, rfl, p, _, 1, _, rfl, rfl, sqT (j5.g _ _ hp5), rfl, _, rfl, _, rfl, L, _, -1, .int (k : Int), rfl, rfl, sqL (j5.g _ _ hL5), atI_last _ _, t, vs, k, .ref te, rfl, rfl, sqT (j5.g _ _ ht5), atI_nat r1, te, _, 1, _, rfl, rfl, sqT (j5.g _ _ r2), rfl, ?_⟩
        have ha := hpos e (List.mem_of_getElem? he)
        refine ⟨G5, P2, rs ++ [k], e.a.toNat, some (.int (0 + i)), some (.ref q1), ?_, j5, hP2, e5, by rw [← er]; exact hL5, by simp; omega, ?_⟩
        · rw [show ((e.a.toNat : Nat) : Int) = e.a by omega]; rfl
        · rw [leads_app, hz]
          show (match es[k]? with | some e => if e.b = (z : Int) then leads es e.a [] else none | none => none) = some ((e.a.toNat : Nat) : Int)
          rw [he]
          show (if e.b = (z : Int) then some e.a else none) = _
          rw [if_pos heb, show ((e.a.toNat : Nat) : Int) = e.a by omega]
    · rintro σ H1 ⟨G1, P1, rs, z, s5, s6, rfl, j2, hP1, e1, hL1, hlen, hz⟩
      refine ⟨_, rfl, L, _, rfl, .inl ⟨sqL (j2.g _ _ hL1), fun t ht => ?_⟩⟩
      exact q t rs _ P1 _ (e1.trans (Ex.new (j2.ng ht))) (j2.newG ht) hP1 upd_same (by omega) ⟨_, hz⟩ (.inl (by omega))
end X

namespace X
open PySem PySem.Spec PyProof.Rows L2 Lv
variable {P : Program} {w : World} {K : PySem.W.Frag} {mg : Str → Option Value} {base : Heap}
variable [TabA]
/-! dicts of tuples, all True -/
def addK (acc : List (List Int)) (k : List Int) : List (List Int) := if k ∈ acc then acc else acc ++ [k]
def tS (ks : List (List Int)) : List (List Int × V) := ks.map fun k => (k, V.bl true)
theorem tS_len (ks : List (List Int)) : (tS ks).length = ks.length := by simp [tS]
theorem tS_keys (ks : List (List Int)) : (tS ks).map (·.1) = ks := by
  unfold tS
  rw [List.map_map]
  exact List.map_id' ks
theorem tS_val (ks : List (List Int)) (k : List Int) : valV (tS ks) k = if k ∈ ks then some (.bl true) else none := by
  induction ks with
  | nil => rfl
  | cons a r ih =>
    show valV ((a, V.bl true) :: tS r) k = _
    by_cases c : a = k
    · rw [valV_pos (p := (a, V.bl true)) c, if_pos (by rw [c]; exact List.mem_cons_self)]
    · rw [valV_neg (p := (a, V.bl true)) c, ih]
      by_cases m : k ∈ r
      · rw [if_pos m, if_pos (List.mem_cons_of_mem _ m)]
      · rw [if_neg m, if_neg fun h => by
          rcases List.mem_cons.mp h with e | h
          · exact c e.symm
          · exact m h]
theorem tS_put (ks : List (List Int)) (k : List Int) : putK (tS ks) k (.bl true) = tS (addK ks k) := by
  unfold addK
  by_cases m : k ∈ ks
  · rw [if_pos m]
    unfold putK
    rw [if_pos (by rw [valV_any, tS_val, if_pos m]; rfl)]
    unfold tS
    rw [List.map_map]
    refine List.map_congr_left fun a _ => ?_
    show (if a = k then (a, V.bl true) else (a, V.bl true)) = (a, V.bl true)
    rw [ite_self]
  · rw [if_neg m, putK_new _ (by rw [tS_val, if_neg m])]
    simp [tS]
theorem tS_at {ks : List (List Int)} {i : Nat} {k : List Int} {v : V} (h : (tS ks)[i]? = some (k, v)) : ks[i]? = some k := by
  unfold tS at h
  rw [List.getElem?_map] at h
  cases e : ks[i]? with
  | none => rw [e] at h; cases h
  | some z => rw [e] at h; injection h with h; injection h with h1 h2; rw [h1]
theorem addK_mem {acc : List (List Int)} {k x : List Int} : x ∈ addK acc k ↔ x ∈ acc ∨ x = k := by
  unfold addK
  by_cases m : k ∈ acc
  · rw [if_pos m]
    exact ⟨.inl, fun h => h.elim id fun e => by rw [e]; exact m⟩
  · rw [if_neg m, List.mem_append, List.mem_singleton]
theorem addK_nd {acc : List (List Int)} {k : List Int} (h : acc.Nodup) : (addK acc k).Nodup := by
  unfold addK
  by_cases m : k ∈ acc
  · rw [if_pos m]; exact h
  · rw [if_neg m]
    refine List.nodup_append.mpr ⟨h, List.nodup_cons.mpr ⟨fun h => (nomatch h), List.nodup_nil⟩, fun a ha b hb e => m ?_⟩
    rw [List.mem_singleton] at hb
    rw [← hb, ← e]; exact ha
theorem aFld.nkE {G G1 Pp H : Hp} {m : Addr} {n : Int} {es : List Ev} {Q : VK} (J : Join G1 Pp H) (e : Ex G G1) (h : MachK K G m n es) (q : ∀ ko ks, G ko = some (.lst ks) → (ks.length : Int) = n → (∀ i : Nat, i < ks.length → ∃ k : Addr, ks[i]? = some (.ref k) ∧ G k = some (.lst ((outs 0 es i).map V.int))) → Q (.ref ko) H) : aFld K "kept_out" (.ref m) H Q := by
  obtain ⟨C, hC, dx, t, ko, ks, h1, h2, h3, h4, h5⟩ := h
  exact ⟨m, C, dx, _, _, rfl, J.g _ _ (e _ _ h1), hC.c, hC.nk, ml3 _ _ _, q ko ks h3 h4 h5⟩
end X

namespace X
open PySem PySem.Spec PyProof.Rows L2 Lv
theorem nodup_fin {n : Int} {F : List Int} (hn : F.Nodup) (h : ∀ x ∈ F, 0 ≤ x ∧ x < n) : F.length ≤ n.toNat := by
  have h1 : (F.map Int.toNat).Nodup := by
    rw [List.nodup_iff_pairwise_ne, List.pairwise_map]
    refine List.Pairwise.imp_of_mem (fun {a b} ha hb hab e => ?_) hn
    have := h a ha
    have := h b hb
    exact hab (by omega)
  have h2 := nat_nodup_len _ (List.range n.toNat) h1 fun x hx => by
    obtain ⟨y, hy, rfl⟩ := List.mem_map.mp hx
    have := h y hy
    exact List.mem_range.mpr (by omega)
  rw [List.length_map, List.length_range] at h2
  exact h2
end X

namespace X
open PySem PySem.Spec PyProof.Rows L2 Lv
variable {P : Program} {w : World} {K : PySem.W.Frag} {mg : Str → Option Value} {base : Heap}
variable [TabA]
/-! rows of events: plain -/
/-- events of small points -/
def EvG (n : Int) (es : List Ev) : Prop := 1 ≤ n ∧ n ≤ 12 ∧ es.length ≤ 30 ∧ ∀ e ∈ es, 0 ≤ e.b ∧ e.b < n ∧ 0 ≤ e.a ∧ e.a < n ∧ 1 ≤ e.w ∧ e.w ≤ 40 ∧ -4 ≤ e.x ∧ e.x ≤ 4
theorem EvG.B {n : Int} {es : List Ev} (h : EvG n es) : EvB n es := ⟨h.1, by have := h.2.1; omega, by have := h.2.2.1; omega, fun e he => by
  obtain ⟨b1, b2, b3, b4, b5, b6, b7, b8⟩ := h.2.2.2 e he
  exact ⟨b1, b2, b3, b4, b5, by omega, by omega, by omega⟩⟩
/-- events of few tries and small points -/
def EvS (n : Int) (es : List Ev) : Prop := 1 ≤ n ∧ n ≤ 12 ∧ es.length ≤ 30 ∧ ∀ e ∈ es, EvSm n e
theorem EvS.B {n : Int} {es : List Ev} (h : EvS n es) : EvB n es := ⟨h.1, by have := h.2.1; omega, by have := h.2.2.1; omega, fun e he => by
  obtain ⟨b1, b2, b3, b4, b5, b6, b7, b8⟩ := h.2.2.2 e he
  exact ⟨b1, b2, b3, b4, b5, by omega, by omega, by omega⟩⟩
theorem sW_cons {es : List Ev} {k : Nat} {e : Ev} (r : List Nat) (he : es[k]? = some e) : sumW es (k :: r) = e.w + sumW es r := by unfold sumW; simp [he]
theorem sX_cons {es : List Ev} {k : Nat} {e : Ev} (r : List Nat) (he : es[k]? = some e) : sumX es (k :: r) = e.x + sumX es r := by unfold sumX; simp [he]
theorem sW_app (es : List Ev) (l m : List Nat) : sumW es (l ++ m) = sumW es l + sumW es m := by unfold sumW; rw [List.map_append, List.sum_append]
theorem sX_app (es : List Ev) (l m : List Nat) : sumX es (l ++ m) = sumX es l + sumX es m := by unfold sumX; rw [List.map_append, List.sum_append]
theorem sW_one {es : List Ev} {k : Nat} {e : Ev} (he : es[k]? = some e) : sumW es [k] = e.w := by unfold sumW; simp [he]
theorem sX_one {es : List Ev} {k : Nat} {e : Ev} (he : es[k]? = some e) : sumX es [k] = e.x := by unfold sumX; simp [he]
theorem leads_cons {es : List Ev} {k : Nat} {r : List Nat} {s y : Int} : leads es s (k :: r) = some y ↔ ∃ e, es[k]? = some e ∧ e.b = s ∧ leads es e.a r = some y := by
  show (match es[k]? with | some e => if e.b = s then leads es e.a r else none | none => none) = some y ↔ _
  cases es[k]? with
  | none => exact ⟨fun h => (nomatch h), fun ⟨e, h, _⟩ => (nomatch h)⟩
  | some e =>
    show (if e.b = s then leads es e.a r else none) = some y ↔ _
    by_cases h : e.b = s
    · rw [if_pos h]
      exact ⟨fun h2 => ⟨e, rfl, h, h2⟩, fun ⟨e', h1, _, h3⟩ => by obtain rfl := Option.some.inj h1; exact h3⟩
    · rw [if_neg h]
      exact ⟨fun h2 => (nomatch h2), fun ⟨e', h1, h2, _⟩ => by obtain rfl := Option.some.inj h1; exact absurd h2 h⟩
theorem leads_snoc {es : List Ev} {k : Nat} {r : List Nat} {s z : Int} : leads es s (r ++ [k]) = some z ↔ ∃ e, leads es s r = some e.b ∧ es[k]? = some e ∧ e.a = z := by
  rw [leads_app]
  cases hr : leads es s r with
  | none => exact ⟨fun h => (nomatch h), fun ⟨e, h, _⟩ => (nomatch h)⟩
  | some y =>
    show leads es y [k] = some z ↔ _
    rw [leads_cons]
    constructor
    · rintro ⟨e, h1, h2, h3⟩
      exact ⟨e, by rw [h2], h1, Option.some.inj h3⟩
    · rintro ⟨e, h1, h2, h3⟩
      exact ⟨e, h2, (Option.some.inj h1).symm, congrArg some h3⟩
theorem sW_len {es : List Ev} (hw : ∀ e ∈ es, 1 ≤ e.w) : ∀ {r : List Nat} {s y : Int}, leads es s r = some y → (r.length : Int) ≤ sumW es r
  | [], s, y, _ => by simp [sumW]
  | k :: r, s, y, h => by
    obtain ⟨e, h1, h2, h3⟩ := leads_cons.mp h
    have := sW_len hw h3
    have := hw e (List.mem_of_getElem? h1)
    rw [sW_cons r h1, List.length_cons]
    omega
theorem sX_len {es : List Ev} (hx : ∀ e ∈ es, -4 ≤ e.x ∧ e.x ≤ 4) : ∀ {r : List Nat} {s y : Int}, leads es s r = some y → -(4 * (r.length : Int)) ≤ sumX es r ∧ sumX es r ≤ 4 * r.length
  | [], s, y, _ => by simp [sumX]
  | k :: r, s, y, h => by
    obtain ⟨e, h1, h2, h3⟩ := leads_cons.mp h
    have := sX_len hx h3
    have := hx e (List.mem_of_getElem? h1)
    rw [sX_cons r h1, List.length_cons]
    omega
theorem leads_in {es : List Ev} {n : Int} (ha : ∀ e ∈ es, 0 ≤ e.a ∧ e.a < n) : ∀ {r : List Nat} {s y : Int}, 0 ≤ s → s < n → leads es s r = some y → 0 ≤ y ∧ y < n
  | [], s, y, h1, h2, h => by obtain rfl := Option.some.inj h; exact ⟨h1, h2⟩
  | k :: r, s, y, h1, h2, h => by
    obtain ⟨e, q1, q2, q3⟩ := leads_cons.mp h
    have := ha e (List.mem_of_getElem? q1)
    exact leads_in ha this.1 this.2 q3
/-- led to, behind so many tries, with so many points -/
def Rch (es : List Ev) (t s p : Int) : Prop := ∃ r, leads es 0 r = some s ∧ sumW es r = t ∧ sumX es r = p
theorem Rch.zero (es : List Ev) : Rch es 0 0 0 := ⟨[], rfl, rfl, rfl⟩
theorem Rch.step {es : List Ev} {t s p : Int} {k : Nat} {e : Ev} (h : Rch es t s p) (he : es[k]? = some e) (hb : e.b = s) : Rch es (t + e.w) e.a (p + e.x) := by
  obtain ⟨r, h1, h2, h3⟩ := h
  exact ⟨r ++ [k], leads_snoc.mpr ⟨e, by rw [h1, hb], he, rfl⟩, by rw [sW_app, sW_one he, h2], by rw [sX_app, sX_one he, h3]⟩
theorem Rch.b {n : Int} {es : List Ev} {t s p : Int} (hE : EvS n es) (h : Rch es t s p) : 0 ≤ s ∧ s < n ∧ 0 ≤ t ∧ -(4 * t) ≤ p ∧ p ≤ 4 * t := by
  obtain ⟨r, h1, h2, h3⟩ := h
  have hn := hE.1
  have hs := leads_in (n := n) (fun e he => by obtain ⟨_, _, b3, b4, _⟩ := hE.2.2.2 e he; exact ⟨b3, b4⟩) (by omega) (by omega) h1
  have hw := sW_len (fun e he => by obtain ⟨_, _, _, _, b5, _⟩ := hE.2.2.2 e he; exact b5) h1
  have hx := sX_len (fun e he => by obtain ⟨_, _, _, _, _, _, b7, b8⟩ := hE.2.2.2 e he; exact ⟨b7, b8⟩) h1
  omega
def lN (r : List Nat) : List Int := r.map fun k : Nat => (k : Int)
theorem iV_lN (r : List Nat) : iV (lN r) = rV r := by
  unfold lN rV
  simp only [iV, List.map_map]
  rfl
theorem lN_app (r u : List Nat) : lN (r ++ u) = lN r ++ lN u := by unfold lN; rw [List.map_append]
theorem lN_inj {r r' : List Nat} (h : lN r = lN r') : r = r' := by
  induction r generalizing r' with
  | nil => cases r' with
    | nil => rfl
    | cons => cases h
  | cons k r ih => cases r' with
    | nil => cases h
    | cons k' r' =>
      injection h with h1 h2
      rw [ih h2, Int.ofNat.inj h1]
theorem lN_pre {r r' : List Nat} {u : List Int} (h : lN r' = lN r ++ u) : ∃ v, r' = r ++ v := by
  induction r generalizing r' with
  | nil => exact ⟨r', rfl⟩
  | cons k r ih => cases r' with
    | nil => cases h
    | cons k' r' =>
      injection h with h1 h2
      obtain ⟨v, hv⟩ := ih h2
      exact ⟨v, by rw [hv, Int.ofNat.inj h1]; rfl⟩
theorem least_nat {p : Nat → Prop} : ∀ {n : Nat}, p n → ∃ k, p k ∧ ∀ j, j < k → ¬ p j := fun {n} h => by
  induction n using Nat.strongRecOn with
  | ind n ih =>
    by_cases c : ∃ j, j < n ∧ p j
    · obtain ⟨j, h1, h2⟩ := c
      exact ih j h1 h2
    · exact ⟨n, h, fun j hj hp => c ⟨j, hj, hp⟩⟩
end X

namespace X
open PySem PySem.Spec PyProof.Rows L2 Lv
variable {P : Program} {w : World} {K : PySem.W.Frag} {mg : Str → Option Value} {base : Heap}
variable [TabA]
theorem aDNewT.go {G P H : Hp} {Q : VK} (J : Join G P H) (q : ∀ p G' H', H p = none → Ex G G' → Join G' P H' → G' p = some (.dT []) → Q (.ref p) H') : aDNewT H Q := fun p hp => q p _ _ hp (Ex.new (J.ng hp)) (J.newG hp) upd_same
/-- things that come over to the second part -/
theorem Join.toPs {G0 G P H : Hp} (j : Join G P H) (e : Ex G0 G) (nt : NT P) (ds : List Addr) (n : ∀ d ∈ ds, G d = some (.dT []) ∧ G0 d = none) : ∃ G' P', Join G' P' H ∧ Ex G0 G' ∧ (∀ c u, c ∉ ds → G c = some u → G' c = some u) ∧ (∀ d ∈ ds, P' d = some (.dT [])) ∧ Ex P P' ∧ NT P' := by
  refine ⟨fun c => if c ∈ ds then none else G c, fun c => if c ∈ ds then G c else P c, ⟨fun c u q => ?_, fun c u q => ?_, fun c u q => ?_, fun c q1 q2 q3 => ?_, j.tab, fun c q => ?_, fun c u q => ?_⟩, fun c u q => ?_, fun c u nc q => ?_, fun d hd => ?_, fun c u q => ?_, fun c xs q => ?_⟩
  · show (if c ∈ ds then none else G c) = none
    have q : (if c ∈ ds then G c else P c) = some u := q
    by_cases z : c ∈ ds
    · rw [if_pos z]
    · rw [if_neg z] at q ⊢
      exact j.ap c u q
  · have q : (if c ∈ ds then none else G c) = some u := q
    by_cases z : c ∈ ds
    · rw [if_pos z] at q; cases q
    · rw [if_neg z] at q; exact j.g c u q
  · have q : (if c ∈ ds then G c else P c) = some u := q
    by_cases z : c ∈ ds
    · rw [if_pos z] at q; exact j.g c u q
    · rw [if_neg z] at q; exact j.p c u q
  · have q1 : (if c ∈ ds then none else G c) = none := q1
    have q2 : (if c ∈ ds then G c else P c) = none := q2
    by_cases z : c ∈ ds
    · rw [if_pos z, (n c z).1] at q2; cases q2
    · rw [if_neg z] at q1 q2; exact j.no c q1 q2 q3
  · have z : c ∉ ds := fun z => by have h1 := (n c z).1; rw [(j.off c q).1] at h1; cases h1
    refine ⟨?_, ?_⟩
    · show (if c ∈ ds then none else G c) = none
      rw [if_neg z]; exact (j.off c q).1
    · show (if c ∈ ds then G c else P c) = none
      rw [if_neg z]; exact (j.off c q).2
  · have q : (if c ∈ ds then G c else P c) = some u := q
    by_cases z : c ∈ ds
    · rw [if_pos z, (n c z).1] at q; rw [← Option.some.inj q]; rfl
    · rw [if_neg z] at q; exact j.pp c u q
  · show (if c ∈ ds then none else G c) = some u
    rw [if_neg fun z => by rw [(n c z).2] at q; cases q]
    exact e c u q
  · show (if c ∈ ds then none else G c) = some u
    rw [if_neg nc]; exact q
  · show (if d ∈ ds then G d else P d) = some (.dT [])
    rw [if_pos hd]; exact (n d hd).1
  · show (if c ∈ ds then G c else P c) = some u
    rw [if_neg fun z => by have h1 := (n c z).1; rw [j.ap c u q] at h1; cases h1]
    exact q
  · have q : (if c ∈ ds then G c else P c) = some (.tup xs) := q
    by_cases z : c ∈ ds
    · rw [if_pos z, (n c z).1] at q; cases q
    · rw [if_neg z] at q; exact nt c xs q
theorem outs_iff {s : Nat} : ∀ {es : List Ev} {k0 : Nat} {x : Int}, x ∈ outs k0 es s ↔ ∃ (k : Nat) (e : Ev), es[k]? = some e ∧ e.b = (s : Int) ∧ x = ((k0 + k : Nat) : Int)
  | [], k0, x => by simp [outs]
  | e :: es, k0, x => by
    have ih := @outs_iff s es (k0 + 1) x
    have sp : outs k0 (e :: es) s = (if e.b = (s : Int) then [((k0 : Nat) : Int)] else []) ++ outs (k0 + 1) es s := by
      show (if e.b = (s : Int) then (k0 : Int) :: outs (k0 + 1) es s else outs (k0 + 1) es s) = _
      split <;> rfl
    rw [sp, List.mem_append, ih]
    constructor
    · rintro (h | ⟨k, e', h1, h2, h3⟩)
      · by_cases c : e.b = (s : Int)
        · rw [if_pos c] at h
          exact ⟨0, e, rfl, c, by rw [List.mem_singleton.mp h]; rfl⟩
        · rw [if_neg c] at h; cases h
      · exact ⟨k + 1, e', by simpa using h1, h2, by rw [h3]; congr 1; omega⟩
    · rintro ⟨k, e', h1, h2, h3⟩
      cases k with
      | zero =>
        have ee : e = e' := by simpa using h1
        subst ee
        rw [if_pos h2]
        exact .inl (by rw [h3]; simp)
      | succ k => exact .inr ⟨k, e', by simpa using h1, h2, by rw [h3]; congr 1; omega⟩
theorem outs_asc {s : Nat} : ∀ {es : List Ev} {k0 : Nat}, (outs k0 es s).Pairwise (· < ·)
  | [], _ => List.Pairwise.nil
  | e :: es, k0 => by
    show (if e.b = (s : Int) then (k0 : Int) :: outs (k0 + 1) es s else outs (k0 + 1) es s).Pairwise (· < ·)
    split
    · refine List.Pairwise.cons (fun x hx => ?_) outs_asc
      obtain ⟨k, _, _, _, h⟩ := outs_iff.mp hx
      omega
    · exact outs_asc
/-- the numbers of the events that lead from a standing -/
theorem outs_nat (es : List Ev) (s : Nat) : ∃ os : List Nat, outs 0 es s = lN os ∧ os.Pairwise (· < ·) ∧ os.length ≤ es.length ∧ ∀ k, k ∈ os ↔ ∃ e, es[k]? = some e ∧ e.b = (s : Int) := by
  have hpos : ∀ x ∈ outs 0 es s, ((x.toNat : Nat) : Int) = x := fun x hx => by
    obtain ⟨k, _, _, _, h⟩ := outs_iff.mp hx
    omega
  have e1 : outs 0 es s = lN ((outs 0 es s).map Int.toNat) := by
    unfold lN
    rw [List.map_map]
    conv => lhs; rw [← List.map_id (outs 0 es s)]
    exact List.map_congr_left fun x hx => (hpos x hx).symm
  refine ⟨(outs 0 es s).map Int.toNat, e1, ?_, by rw [List.length_map]; exact outs_len _ _ _, fun k => ?_⟩
  · rw [List.pairwise_map]
    refine List.Pairwise.imp_of_mem (fun {a b} ha hb hab => ?_) outs_asc
    have := hpos a ha
    have := hpos b hb
    omega
  · constructor
    · intro h
      obtain ⟨x, hx, rfl⟩ := List.mem_map.mp h
      obtain ⟨k, e, h1, h2, h3⟩ := outs_iff.mp hx
      exact ⟨e, by rw [show x.toNat = k by omega]; exact h1, h2⟩
    · rintro ⟨e, h1, h2⟩
      exact List.mem_map.mpr ⟨(k : Int), outs_iff.mpr ⟨k, e, h1, h2, by rw [Nat.zero_add]⟩, by omega⟩
/-- a list of dicts by tries -/
def Lays (G P : Hp) (l : Addr) (T : Nat) (D : Nat → Addr) (Kf : Nat → List (List Int × V)) : Prop := (∃ xs, G l = some (.lst xs) ∧ xs.length = T + 1 ∧ ∀ t, t ≤ T → xs[t]? = some (.ref (D t))) ∧ (∀ t, t ≤ T → P (D t) = some (.dT (tK (Kf t)))) ∧ ∀ t u, t ≤ T → u ≤ T → D t = D u → t = u
def updF (Kf : Nat → List (List Int × V)) (u : Nat) (kvs : List (List Int × V)) : Nat → List (List Int × V) := fun t => if t = u then kvs else Kf t
theorem updF_same (Kf : Nat → List (List Int × V)) (u : Nat) (kvs : List (List Int × V)) : updF Kf u kvs u = kvs := if_pos rfl
theorem updF_ne (Kf : Nat → List (List Int × V)) {u t : Nat} (kvs : List (List Int × V)) (h : t ≠ u) : updF Kf u kvs t = Kf t := if_neg h
section
variable {G G' P' P0 H : Hp} {l : Addr} {T : Nat} {D : Nat → Addr} {Kf : Nat → List (List Int × V)}
theorem Lays.mono (e : Ex G G') (h : Lays G P' l T D Kf) : Lays G' P' l T D Kf := by
  obtain ⟨⟨xs, h1, h2, h3⟩, h4⟩ := h
  exact ⟨⟨xs, e _ _ h1, h2, h3⟩, h4⟩
theorem Lays.put {u : Nat} {kvs : List (List Int × V)} (hu : u ≤ T) (h : Lays G P' l T D Kf) : Lays G (upd P' (D u) (.dT (tK kvs))) l T D (updF Kf u kvs) := by
  obtain ⟨h1, h2, h3⟩ := h
  refine ⟨h1, fun t ht => ?_, h3⟩
  by_cases c : t = u
  · rw [c, upd_same, updF_same]
  · rw [upd_ne (fun e => c (h3 t u ht hu e)), updF_ne _ _ c]
    exact h2 t ht
/-- new dicts, one for each number of tries -/
theorem Lays.make {xs : List V} {ds : List Addr} (hl : G l = some (.lst xs)) (hx : xs = ds.map V.ref) (hd : ds.length = T + 1) (hn : ds.Nodup) (hP : ∀ d ∈ ds, P' d = some (.dT [])) : ∃ D : Nat → Addr, Lays G P' l T D (fun _ => []) ∧ ∀ t, t ≤ T → D t ∈ ds := by
  have hg : ∀ t, t ≤ T → ds[t]? = some (ds.getD t 0) := fun t ht => by
    have hb : t < ds.length := by omega
    rw [List.getD_eq_getElem?_getD, List.getElem?_eq_getElem hb]; rfl
  refine ⟨fun t => ds.getD t 0, ⟨⟨xs, hl, by rw [hx, List.length_map, hd], fun t ht => by rw [hx, List.getElem?_map, hg t ht]; rfl⟩, fun t ht => hP _ (List.mem_of_getElem? (hg t ht)), fun t u ht hu e => ?_⟩, fun t ht => List.mem_of_getElem? (hg t ht)⟩
  have h1 := hg t ht
  have h2 := hg u hu
  rw [show ds.getD t 0 = ds.getD u 0 from e] at h1
  obtain ⟨b1, c1⟩ := List.getElem?_eq_some_iff.mp h1
  obtain ⟨b2, c2⟩ := List.getElem?_eq_some_iff.mp h2
  exact (List.getElem_inj hn).mp (c1.trans c2.symm)
end
theorem val_in {kvs : List (List Int × V)} {k : List Int} : (valV kvs k).isSome = true ↔ k ∈ kvs.map (·.1) := by
  rw [← valV_any, List.any_eq_true]
  constructor
  · rintro ⟨x, h1, h2⟩
    exact List.mem_map.mpr ⟨x, h1, of_decide_eq_true h2⟩
  · intro h
    obtain ⟨x, h1, h2⟩ := List.mem_map.mp h
    exact ⟨x, h1, decide_eq_true h2⟩
theorem put_in {kvs : List (List Int × V)} {k k' : List Int} {v : V} : (valV (putK kvs k v) k').isSome = true ↔ k' = k ∨ (valV kvs k').isSome = true := by
  rw [valV_put]
  by_cases c : k' = k
  · rw [if_pos c]; exact ⟨fun _ => .inl c, fun _ => rfl⟩
  · rw [if_neg c]; exact ⟨.inr, fun h => h.resolve_left c⟩
theorem put_keys {kvs : List (List Int × V)} {k : List Int} {v : V} : (putK kvs k v).map (·.1) = if (valV kvs k).isSome = true then kvs.map (·.1) else kvs.map (·.1) ++ [k] := by
  cases h : valV kvs k with
  | none =>
    rw [putK_new v h, if_neg (by simp), List.map_append]; rfl
  | some y =>
    rw [if_pos (show (some y).isSome = true from rfl)]
    unfold putK
    have a1 : (kvs.any fun kv => decide (kv.1 = k)) = true := by rw [valV_any, h]; rfl
    rw [if_pos a1, List.map_map]
    apply List.map_congr_left
    intro x _
    show (if x.1 = k then (x.1, v) else x).1 = x.1
    split <;> rfl
/-- keys: pairs without double ones, of a kind -/
def KOk (R : Int → Int → Prop) (kvs : List (List Int × V)) : Prop := (kvs.map (·.1)).Nodup ∧ ∀ k ∈ kvs.map (·.1), ∃ s p, k = [s, p] ∧ R s p
theorem KOk.nil {R : Int → Int → Prop} : KOk R [] := ⟨List.nodup_nil, fun k h => nomatch h⟩
theorem KOk.put {R : Int → Int → Prop} {kvs : List (List Int × V)} {s p : Int} {v : V} (h : KOk R kvs) (hr : R s p) : KOk R (putK kvs [s, p] v) := by
  unfold KOk
  rw [put_keys]
  split
  · exact h
  · rename_i c
    refine ⟨List.nodup_append.mpr ⟨h.1, by simp, fun a ha b hb e => ?_⟩, fun k hk => ?_⟩
    · rw [List.mem_singleton.mp hb] at e
      exact c (val_in.mpr (e ▸ ha))
    · rcases List.mem_append.mp hk with hk | hk
      · exact h.2 k hk
      · exact ⟨s, p, List.mem_singleton.mp hk, hr⟩
/-- so many keys at most -/
theorem KOk.len {R : Int → Int → Prop} {kvs : List (List Int × V)} {n B : Int} (h : KOk R kvs) (hn : 0 ≤ n) (hB : 0 ≤ B) (hR : ∀ s p, R s p → 0 ≤ s ∧ s < n ∧ -B ≤ p ∧ p ≤ B) : (kvs.length : Int) ≤ n * (2 * B + 1) := by
  let f : List Int → Int := fun k => k.headD 0 * (2 * B + 1) + (k.tail.headD 0 + B)
  have h1 : ((kvs.map (·.1)).map f).Nodup := by
    rw [List.nodup_iff_pairwise_ne, List.pairwise_map]
    refine List.Pairwise.imp_of_mem (fun {a b} ha hb hab e => ?_) h.1
    obtain ⟨s, p, rfl, r1⟩ := h.2 a ha
    obtain ⟨s', p', rfl, r2⟩ := h.2 b hb
    have e : s * (2 * B + 1) + (p + B) = s' * (2 * B + 1) + (p' + B) := e
    have b1 := hR s p r1
    have b2 := hR s' p' r2
    have es : s = s' := by
      rcases Int.lt_trichotomy s s' with l | l | l
      · have := Int.mul_le_mul_of_nonneg_right (show s + 1 ≤ s' by omega) (show 0 ≤ 2 * B + 1 by omega)
        rw [Int.add_mul] at this; omega
      · exact l
      · have := Int.mul_le_mul_of_nonneg_right (show s' + 1 ≤ s by omega) (show 0 ≤ 2 * B + 1 by omega)
        rw [Int.add_mul] at this; omega
    subst es
    have ep : p = p' := by omega
    subst ep
    exact hab rfl
  have h2 := nodup_fin (n := n * (2 * B + 1)) h1 fun y hy => by
    obtain ⟨k, hk, rfl⟩ := List.mem_map.mp hy
    obtain ⟨s, p, rfl, r1⟩ := h.2 k hk
    have b1 := hR s p r1
    show 0 ≤ s * (2 * B + 1) + (p + B) ∧ s * (2 * B + 1) + (p + B) < n * (2 * B + 1)
    have := Int.mul_le_mul_of_nonneg_right (show s + 1 ≤ n by omega) (show 0 ≤ 2 * B + 1 by omega)
    rw [Int.add_mul] at this
    have := Int.mul_nonneg b1.1 (show 0 ≤ 2 * B + 1 by omega)
    omega
  rw [List.length_map, List.length_map] at h2
  have : 0 ≤ n * (2 * B + 1) := Int.mul_nonneg hn (by omega)
  omega
end X

namespace X
open PySem PySem.Spec PyProof.Rows L2 Lv
variable {P : Program} {w : World} {K : PySem.W.Frag} {mg : Str → Option Value} {base : Heap}
variable [TabA]
theorem runsL_ok {es : List Ev} (hpos : ∀ e ∈ es, 0 ≤ e.a) : ∀ (n : Nat) (p : List Nat × Int), p ∈ runsL es n → leads es 0 p.1 = some p.2 ∧ p.1.length = n ∧ 0 ≤ p.2
  | 0, p, h => by
    have e : p = ([], 0) := by simpa [runsL] using h
    subst e
    exact ⟨rfl, rfl, Int.le_refl _⟩
  | n + 1, p, h => by
    obtain ⟨a, ha, hp⟩ := List.mem_flatMap.mp (show p ∈ (runsL es n).flatMap (stepR es) from h)
    obtain ⟨h1, h2, h3⟩ := runsL_ok hpos n a ha
    obtain ⟨v, hv, rfl⟩ := List.mem_map.mp hp
    obtain ⟨k, e, ek, he, heb⟩ := outs_mem es 0 hv
    rw [Nat.zero_add] at ek
    subst ek
    have e1 : ((k : Int)).toNat = k := by omega
    show leads es 0 (a.1 ++ [((k : Int)).toNat]) = some (((es[((k : Int)).toNat]?).map Ev.a).getD 0) ∧ (a.1 ++ [((k : Int)).toNat]).length = n + 1 ∧ 0 ≤ ((es[((k : Int)).toNat]?).map Ev.a).getD 0
    rw [e1, he]
    refine ⟨?_, by simp [h2], hpos e (List.mem_of_getElem? he)⟩
    rw [leads_app, h1]
    show (match es[k]? with | some e => if e.b = a.2 then leads es e.a [] else none | none => none) = some e.a
    rw [he]
    show (if e.b = a.2 then some e.a else none) = _
    rw [if_pos (by rw [heb]; omega)]
/-- all runs of just so many events -/
def spRuns : Sp := fun vs H Q _ => ∃ (p : Addr) (m : Nat) (n : Int) (es : List Ev) (G P : Hp), vs = [.ref p, .int m] ∧ Join G P H ∧ PartsAt G p n es ∧ es.length ≤ 30 ∧ (∀ e ∈ es, 0 ≤ e.a) ∧ m ≤ 9 ∧ (∀ i, i < m → (runsL es i).length ≤ 900) ∧
  ∀ (q : Addr) (ws : List V) (G' H' : Hp), Ex G G' → Join G' P H' → H q = none → G' q = some (.lst ws) → RelL RunAt G' ws (runsL es m) → Q (.ref q) H'
theorem sc_l_runs : FnScope ["_law_parts_here", "_law_many", "_law_found", "_law_turn", "_law_longer", "_law_run", "_law_standing", "_law_number"] ["_law_parts_here", "_law_many"] (defScope s_l_runs) := ⟨rfl, rfl, rfl, by decide +kernel, rfl, by decide +kernel, by decide +kernel⟩
theorem ok_l_runs (T : Txt K mg) {fd_l_out : FuncData} (G_l_out : Dn P w K mg base (L2.CX P w) 1 "_law_out" ["_law_parts_here", "_law_standing"] spOut fd_l_out) : ∃ fd, Dn P w K mg base (L2.CX P w) 2 "_law_runs" ["_law_parts_here", "_law_many"] spRuns fd := by
  obtain ⟨fd, F⟩ := T.d_l_runs
  refine ⟨fd, F.ok sc_l_runs (fun vs H Q E h => ?_) (fun cdv A outer s H vs Q E hr h => ?_), T.g_l_runs, F.kp, F.bindsN fun _ _ _ _ _ _ us hl => match us, hl with | [_, _], _ => rfl, Lv.fun_lk F⟩
  · obtain ⟨_, _, _, _, _, _, rfl, _⟩ := h
    rfl
  · have hu := hu_of hr
    have hr_l_out : Room 1 _ := hr.mono (by decide)
    refine ⟨_, PSs.nox (pss_cons (ps_set (i := 2) sc_l_runs.nd rfl (Or.inl rfl) (pe_lst (pa_cons (pe_tup (pa_cons (pe_tup pa_nil) (pa_cons pe_int pa_nil))) pa_nil)))
      (pss_cons (ps_for PassesOwn.never rfl (pi_range1 (by rfl) T.n_range (pa_cons (pv 1) pa_nil)) (pg_name (i := 3) sc_l_runs.nd rfl (Or.inl rfl)) (pss_cons (ps_set (i := 4) sc_l_runs.nd rfl (Or.inl rfl) (pe_lst pa_nil))
      (pss_cons (ps_for PassesOwn.never rfl (pi_list (pv 2)) (pg_tup rfl (pgs_cons (pg_name (i := 5) sc_l_runs.nd rfl (Or.inr rfl)) (pgs_cons (pg_name (i := 6) sc_l_runs.nd rfl (Or.inl rfl)) pgs_nil))) (pss_one (ps_set (i := 4) sc_l_runs.nd rfl (Or.inl rfl) (pe_op op_cat (pv 4) (pe_lc (own := [("_law_number", 7)]) (g := gName 7) (tt := tYes) rfl sc_l_runs.nd (pi_list (pe_call G_l_out.ok hr_l_out rfl G_l_out.mg G_l_out.kp G_l_out.b .nil passL (pa_cons (pv 0) (pa_cons (pv 6) pa_nil)))) (blkOk_by (N := ["_law_parts_here", "_law_many", "_law_found", "_law_turn", "_law_longer", "_law_run", "_law_standing", "_law_number"]) (sc := defScope s_l_runs) (by decide +kernel)) (fun _ _ _ _ _ => (pg_name (i := 7) sc_l_runs.nd rfl (Or.inl rfl) (hf := Or.inr rfl))) (fun _ _ _ _ _ => pts_nil) (fun _ _ _ _ _ => (pe_tup (pa_cons (pe_op (op_catAK (K := K) rfl) (pv 5) (pe_tup (pa_cons (pv 7) pa_nil))) (pa_cons (pe_ix (ix_tupK (K := K) rfl) (pe_ix (ix_tupK (K := K) rfl) (pe_ix (ix_tupK (K := K) rfl) (pv 0) pe_int (fun _ _ => rfl)) (pv 7) (fun _ _ => rfl)) pe_int (fun _ _ => rfl)) pa_nil)))))))))
      (pss_one (ps_set (i := 2) sc_l_runs.nd rfl (Or.inl rfl) (pv 4))))))
      (pss_one (ps_ret (pv 2))))), ?_⟩
    obtain ⟨p, m, n, es, G, P0, rfl, j, hpt, hl, hpos, hm, hpw, q⟩ := h
    obtain ⟨t, hp, vs, ht, hv⟩ := id hpt
    refine ⟨Nat.zero_le _, fun r0 hr0 => ⟨(by show 2 ≤ sizeLine; decide), fun t0 ht0 => ⟨(by show 1 ≤ sizeLine; decide), fun F hF => ?_⟩⟩⟩
    have ja := j.newG (o := .tup (rV [])) hr0
    have ea : Ex G _ := Ex.new (o := .tup (rV [])) (j.ng hr0)
    have jb := ja.newG (o := .tup [.ref r0, .int 0]) ht0
    have eb := Ex.new (o := .tup [.ref r0, .int 0]) (ja.ng ht0)
    have jc := jb.newG (o := .lst [.ref t0]) hF
    have ec := Ex.new (o := .lst [.ref t0]) (jb.ng hF)
    refine ⟨_, rfl, m, rfl, by omega, by omega, ?_⟩
    refine for_range (lo := 0) (n := ((m : Int)).toNat) (fun i σ H' => ∃ (G1 : Hp) (F : Addr) (ws : List V) (s3 s4 s5 s6 s7 : Option V), σ = [some (.ref p), some (.int m), some (.ref F), s3, s4, s5, s6, s7] ∧ Join G1 P0 H' ∧ Ex G G1 ∧ H F = none ∧ G1 F = some (.lst ws) ∧ RelL RunAt G1 ws (runsL es i))
      ⟨_, F, [.ref t0], none, none, none, none, none, rfl, jc, (ea.trans eb).trans ec, ?_, upd_same, RelL.one ⟨t0, r0, rfl, ec _ _ upd_same, (eb.trans ec) _ _ upd_same⟩⟩ ?_ ?_
    · exact ((j.exH ea ja).trans (ja.exH eb jb)).back hF
    · rintro i σ H1 hi ⟨G1, F, ws, s3, s4, s5, s6, s7, rfl, j1, e1, hF0, hF1, hR⟩
      refine ⟨Nat.zero_le _, fun L hL => ?_⟩
      have j2 := j1.newG (o := .lst []) hL
      have e2 := Ex.new (o := .lst []) (j1.ng hL)
      have hLn : H L = none := (j.exH e1 j1).back hL
      refine ⟨_, rfl, F, rfl, ⟨_, sqL (j2.g _ _ (e2 _ _ hF1))⟩, for_list (K := K) (a := F) (xs := ws) (fun k σ H' => ∃ (G3 : Hp) (L : Addr) (us : List V) (s5 s6 s7 : Option V), σ = [some (.ref p), some (.int m), some (.ref F), some (.int (0 + i)), some (.ref L), s5, s6, s7] ∧ Join G3 P0 H' ∧ Ex G1 G3 ∧ H L = none ∧ G3 L = some (.lst us) ∧ RelL RunAt G3 us (((runsL es i).take k).flatMap (stepR es)))
        ⟨_, L, [], s5, s6, s7, rfl, j2, e2, hLn, upd_same, RelL.nil⟩ ?_ ?_ ?_⟩
      · rintro k σ H' _ ⟨G3, L, us, s5, s6, s7, rfl, j3, e3, _, _, _⟩
        exact sqL (j3.g _ _ (e3 _ _ hF1))
      · rintro k x σ H' hx ⟨G3, L, us, s5, s6, s7, rfl, j3, e3, _, hL3, hR3⟩
        obtain ⟨⟨rs, z⟩, hk, t1, r1, rfl, ht1, hr1⟩ := hR.get hx
        obtain ⟨q1, q2, q3⟩ := runsL_ok hpos i _ (List.mem_of_getElem? hk)
        obtain ⟨s, rfl⟩ : ∃ s : Nat, z = s := ⟨z.toNat, by have : 0 ≤ z := q3; omega⟩
        refine ⟨t1, _, rfl, sqT (j3.g _ _ (e3 _ _ ht1)), rfl, _, _, rfl, _, _, rfl, rfl, ?_⟩
        refine ⟨_, rfl, _, rfl, _, rfl, p, s, n, es, G3, P0, rfl, j3, hpt.mono (e1.trans e3), by omega, fun a G4 H4 e4 j4 ha hG4 => ?_⟩
        refine ⟨a, rfl, ⟨_, sqL (j4.g _ _ hG4)⟩, fun D hD => ?_⟩
        refine lcG_list (fun P1 => P1 = P0) (fun i us2 G5 => RelL RunAt G5 us2 ((stepR es (rs, (s : Int))).take i)) hD j4 rfl (sqL hG4) RelL.nil (fun i us2 G5 _ _ hu h => h.mono (RunAt.upd hu)) (fun i us2 G5 h => ?_) ?_ ?_
        · have h1 := stepR_len es (rs, (s : Int))
          have h2 := h.1
          rw [List.length_take] at h2
          omega
        · intro c x us2 G5 P1 H5 R R0 hx5 e5 hI5 hP5 j5 kR kR0
          subst hP5
          rw [List.getElem?_map] at hx5
          obtain ⟨v, hv5, rfl⟩ := Option.map_eq_some_iff.mp hx5
          obtain ⟨y, e, ek, he, heb⟩ := outs_mem es 0 (List.mem_of_getElem? hv5)
          rw [Nat.zero_add] at ek
          subst ek
          have e6 := (e1.trans e3).trans (e4.trans e5)
          refine ⟨rfl, iteT (B := True) ⟨_, rfl, _, rfl, (by show 1 ≤ sizeLine; decide), fun b hb => ?_⟩⟩
          have j7 := j5.newG (o := .tup (rV [y])) hb
          have e7 := Ex.new (o := .tup (rV [y])) (j5.ng hb)
          have hr7 := (((e3.trans e4).trans e5).trans e7) _ _ hr1
          refine catA_out j7 hr7 upd_same (by have : rs.length = i := q2; simp [rV]; omega) fun d G8 H8 e8 j8 hd8 => ?_
          have e9 := (e6.trans e7).trans e8
          obtain ⟨te, w1, w2⟩ := hv.2 y e he
          refine ⟨_, rfl, p, _, 1, _, rfl, rfl, sqT (j8.g _ _ (e9 _ _ hp)), rfl, _, rfl, t, _, (y : Int), .ref te, rfl, rfl, sqT (j8.g _ _ (e9 _ _ ht)), atI_nat w1, te, _, 1, _, rfl, rfl, sqT (j8.g _ _ (e9 _ _ w2)), rfl, (by show 2 ≤ sizeLine; decide), fun f hf => ?_⟩
          have j9 := j8.newG (o := .tup [.ref d, .int e.a]) hf
          have e10 := Ex.new (o := .tup [.ref d, .int e.a]) (j8.ng hf)
          refine kR (.ref f) _ _ _ ((e7.trans e8).trans e10) rfl j9 ?_
          have hs : (stepR es (rs, (s : Int)))[c]? = some (rs ++ [y], e.a) := by
            unfold stepR
            rw [List.getElem?_map]
            show Option.map _ ((outs 0 es s)[c]?) = _
            rw [hv5]
            show some (rs ++ [((y : Int)).toNat], ((es[((y : Int)).toNat]?).map Ev.a).getD 0) = _
            rw [show ((y : Int)).toNat = y by omega, he]; rfl
          rw [take_more hs]
          refine (hI5.mono (RunAt.mono ((e7.trans e8).trans e10))).add ⟨f, d, rfl, upd_same, e10 _ _ ?_⟩
          rw [hd8]; simp [rV]
        · intro us2 G5 P1 H5 e5 hd5 hI5 hP5 j5
          subst hP5
          have hlo : ((outs 0 es s).map V.int).length = (stepR es (rs, (s : Int))).length := by
            unfold stepR
            rw [List.length_map, List.length_map]; rfl
          rw [hlo, List.take_length] at hI5
          have e6 := e4.trans e5
          refine cat_out j5 (e6 _ _ hL3) hd5 ?_ fun c G6 H6 e7 j6 hc hG6 => ?_
          · have h1 := flat_len (stepR_len es) ((runsL es i).take k)
            have h2 := stepR_len es (rs, (s : Int))
            have h4 : (runsL es i).length ≤ 900 := hpw i (by omega)
            have h5 : ((runsL es i).take k).length ≤ 900 := by rw [List.length_take]; omega
            have h6 : es.length * ((runsL es i).take k).length ≤ 30 * 900 := Nat.mul_le_mul hl h5
            rw [hR3.1, hI5.1]
            omega
          · refine ⟨G6, c, _, _, _, _, rfl, j6, (e3.trans e6).trans e7, ?_, hG6, ?_⟩
            · exact (j.exH ((e1.trans e3).trans e6) j5).back hc
            · rw [flat_more hk]
              exact ((hR3.mono (RunAt.mono e6)).app hI5).mono (RunAt.mono e7)
      · rintro σ H' ⟨G3, L, us, s5, s6, s7, rfl, j3, e3, hL0, hL3, hR3⟩
        rw [hR.1, List.take_length] at hR3
        exact ⟨_, rfl, G3, L, us, _, _, _, _, _, rfl, j3, e1.trans e3, hL0, hL3, hR3⟩
    · rintro σ H1 ⟨G1, F, ws, s3, s4, s5, s6, s7, rfl, j1, e1, hF0, hF1, hR⟩
      exact ⟨_, rfl, q F ws G1 H1 e1 j1 hF0 hF1 hR⟩
end X

namespace X
open PySem PySem.Spec PyProof.Rows L2 Lv
variable {P : Program} {w : World} {K : PySem.W.Frag} {mg : Str → Option Value} {base : Heap}
variable [TabA]
def spIsI (K : PySem.W.Frag) : Sp := fun vs H Q _ => ∃ (v : V) (G : Hp), vs = [v] ∧ Ex G H ∧ Kd G v ∧ Q (.bl (isI v)) H
theorem okX_is_integer (T : Txt K mg) : ∃ fd, Dn P w K mg base (L2.CX P w) 1 "is_integer" ["thing"] (spIsI K) fd := by
  obtain ⟨fd, F⟩ := T.d_is_integer
  refine ⟨fd, F.ok sc_is_integer (fun vs H Q E h => ?_) (fun cdv A outer s H vs Q E hr h => ?_), T.g_is_integer, F.kp, F.bindsN fun _ _ _ _ _ _ us hl => match us, hl with | [_], _ => rfl, Lv.fun_lk F⟩
  · obtain ⟨_, _, rfl, _⟩ := h
    rfl
  · have hu := hu_of hr
    refine ⟨_, PSs.nox (pss_one (ps_ret (pe_and (pe_callB call_isi (by rfl) T.n_isinstance (by decide +kernel) (pa_cons (pv 0) (pa_cons (pe_bltn (v := .ty "int") (by rfl) T.n_int (by decide +kernel) rfl) pa_nil))) (pe_one (pe_not (pe_callB call_isi (by rfl) T.n_isinstance (by decide +kernel) (pa_cons (pv 0) (pa_cons (pe_bltn (v := .ty "bool") (by rfl) T.n_bool (by decide +kernel) rfl) pa_nil)))))))), ?_⟩
    obtain ⟨v, G, rfl, e, hk, q⟩ := h
    walk_at "w"
    refine isi_I e hk ?_
    walk_at "w"
    by_cases h : (isI v || isB v) = true
    · refine itBT h ?_
      walk_at "w"
      refine isi_B e hk ?_
      walk_at "w"
      have e2 : (!isB v) = isI v := by cases hk <;> first | rfl | (exact absurd h (by simp [isI, isB]))
      rw [e2]; exact q
    · refine (if_neg h).mpr ?_
      have e2 : isI v = false := by
        cases h2 : isI v with
        | false => rfl
        | true => exact absurd (by rw [h2]; rfl) h
      rw [e2] at q; exact q
/-- an int within -/
def inB (v : V) (a b : Int) : Bool := match v with
  | .int n => decide (a ≤ n ∧ n ≤ b)
  | _ => false
def spIsW (K : PySem.W.Frag) : Sp := fun vs H Q _ => ∃ (v : V) (a b : Int) (G : Hp), vs = [v, .int a, .int b] ∧ Ex G H ∧ Kd G v ∧ Q (.bl (inB v a b)) H
theorem okX_is_within (T : Txt K mg) {fd_is_integer : FuncData} (G_is_integer : Dn P w K mg base (L2.CX P w) 1 "is_integer" ["thing"] (spIsI K) fd_is_integer) : ∃ fd, Dn P w K mg base (L2.CX P w) 2 "is_within" ["thing", "least", "most"] (spIsW K) fd := by
  obtain ⟨fd, F⟩ := T.d_is_within
  refine ⟨fd, F.ok sc_is_within (fun vs H Q E h => ?_) (fun cdv A outer s H vs Q E hr h => ?_), T.g_is_within, F.kp, F.bindsN fun _ _ _ _ _ _ us hl => match us, hl with | [_, _, _], _ => rfl, Lv.fun_lk F⟩
  · obtain ⟨_, _, _, _, rfl, _⟩ := h
    rfl
  · have hu := hu_of hr
    have hr_is_integer : Room 1 _ := hr.mono (by decide)
    refine ⟨_, PSs.nox (pss_one (ps_ret (pe_and (pe_call G_is_integer.ok hr_is_integer rfl G_is_integer.mg G_is_integer.kp G_is_integer.b .nil passL (pa_cons (pv 0) pa_nil)) (pe_one (pe_chain op_le op_le (pv 1) (pv 0) (pv 2)))))), ?_⟩
    obtain ⟨v, a, b, G, rfl, e, hk, q⟩ := h
    walk_at "w"
    refine ⟨v, G, rfl, e, hk, ?_⟩
    walk_at "w"
    cases hk with
    | int n =>
      refine itBT rfl ?_
      refine ⟨_, rfl, _, rfl, a, n, rfl, rfl, _, rfl, ?_⟩
      by_cases h1 : a ≤ n
      · refine itT h1 ⟨_, rfl, n, b, rfl, rfl, ?_⟩
        have e : decide (a ≤ n ∧ n ≤ b) = decide (n ≤ b) := by simp [h1]
        have q2 : Q (.bl (decide (a ≤ n ∧ n ≤ b))) H := q
        rw [e] at q2; exact q2
      · refine itF h1 ?_
        have e : decide (a ≤ n ∧ n ≤ b) = false := by simp [h1]
        have q2 : Q (.bl (decide (a ≤ n ∧ n ≤ b))) H := q
        rw [e] at q2; exact q2
    | _ => exact itBF rfl q
/-- things whose items are things -/
def Kd2 (G : Hp) (v : V) : Prop := Kd G v ∧ ∀ (a : Addr) (xs : List V), v = .ref a → G a = some (.tup xs) → xs.length ≤ 1000 ∧ ∀ x ∈ xs, Kd G x
theorem Kd2.mono {G G' : Hp} {v : V} (e : Ex G G') (h : Kd2 G v) : Kd2 G' v := by
  refine ⟨h.1.mono e, fun a xs ev ha => ?_⟩
  subst ev
  cases h.1 with
  | lst g => rw [e _ _ g] at ha; cases ha
  | tup g =>
    have g2 := e _ _ g
    rw [ha] at g2
    cases g2
    exact ⟨(h.2 a xs rfl g).1, fun x hx => ((h.2 a xs rfl g).2 x hx).mono e⟩
  | dic g => rw [e _ _ g] at ha; cases ha
def intV (v : V) : Int := match v with
  | .int n => n
  | _ => 0
theorem isI_int {v : V} (h : isI v = true) : v = .int (intV v) := by cases v <;> first | rfl | cases h
theorem inB_int {v : V} {a b : Int} (h : inB v a b = true) : v = .int (intV v) ∧ a ≤ intV v ∧ intV v ≤ b := by
  cases v with
  | int n => exact ⟨rfl, of_decide_eq_true h⟩
  | _ => cases h
theorem Kd2.int {G : Hp} (n : Int) : Kd2 G (.int n) := ⟨.int n, fun _ _ h => nomatch h⟩
theorem Kd2.bl {G : Hp} (b : Bool) : Kd2 G (.bl b) := ⟨.bl b, fun _ _ h => nomatch h⟩
theorem Kd2.non {G : Hp} : Kd2 G .non := ⟨.non, fun _ _ h => nomatch h⟩
theorem Kd2.str {G : Hp} (z : Str) : Kd2 G (.str z) := ⟨.str z, fun _ _ h => nomatch h⟩
theorem Kd2.tup {G : Hp} {a : Addr} {xs : List V} (h : G a = some (.tup xs)) (hl : xs.length ≤ 1000) (hx : ∀ x ∈ xs, Kd G x) : Kd2 G (.ref a) := ⟨.tup h, fun b ys e g => by
  cases e
  rw [h] at g
  cases g
  exact ⟨hl, hx⟩⟩
theorem Kd2.lst {G : Hp} {a : Addr} {xs : List V} (h : G a = some (.lst xs)) : Kd2 G (.ref a) := ⟨.lst h, fun b ys e g => by
  cases e
  rw [h] at g
  cases g⟩
theorem Kd2.dic {G : Hp} {a : Addr} {xs : List (L2.Key × V)} (h : G a = some (.dK xs)) : Kd2 G (.ref a) := ⟨.dic h, fun b ys e g => by
  cases e
  rw [h] at g
  cases g⟩
end X

namespace X
open PySem PySem.Spec PyProof.Rows L2 Lv
variable {P : Program} {w : World} {K : PySem.W.Frag} {mg : Str → Option Value} {base : Heap}
variable [TabA]
def sp_check_number (K : PySem.W.Frag) : Sp := fun vs H Q _ => ∃ (a lo hi : Int), vs = [.int a, .int lo, .int hi] ∧ lo ≤ a ∧ a ≤ hi ∧ Q .non H
theorem sc_check_number : FnScope ["thing", "least", "most"] ["thing", "least", "most"] (defScope s_check_number) := ⟨rfl, rfl, rfl, by decide +kernel, rfl, by decide +kernel, by decide +kernel⟩
theorem ok_check_number (T : Txt K mg) {fd_is_within : FuncData} (G_is_within : Dn P w K mg base (L2.CX P w) 2 "is_within" ["thing", "least", "most"] (sp_is_within K) fd_is_within) : ∃ fd, Dn P w K mg base (L2.CX P w) 3 "check_number" ["thing", "least", "most"] (sp_check_number K) fd := by
  obtain ⟨fd, F⟩ := T.d_check_number
  refine ⟨fd, F.ok sc_check_number (fun vs H Q E h => ?_) (fun cdv A outer s H vs Q E hr h => ?_), T.g_check_number, F.kp, F.bindsN fun _ _ _ _ _ _ us hl => match us, hl with | [_, _, _], _ => rfl, Lv.fun_lk F⟩
  · obtain ⟨_, _, _, rfl, _⟩ := h
    rfl
  · have hu := hu_of hr
    have hr_is_within : Room 2 _ := hr.mono (by decide)
    refine ⟨_, PSs.nox (pss_one (ps_if (pt_not (pt_val (pe_call G_is_within.ok hr_is_within rfl G_is_within.mg G_is_within.kp G_is_within.b .nil passL (pa_cons (pv 0) (pa_cons (pv 1) (pa_cons (pv 2) pa_nil)))))) (pss_one ps_never) pss_nil)), ?_⟩
    obtain ⟨a, lo, hi, rfl, h1, h2, q⟩ := h
    walk_at "w"
    refine ⟨a, lo, hi, rfl, ?_⟩
    rw [decide_eq_true ⟨h1, h2⟩]
    walk_at "w"
    exact q
end X

namespace X
open PySem PySem.Spec PyProof.Rows L2 Lv
variable {P : Program} {w : World} {K : PySem.W.Frag} {mg : Str → Option Value} {base : Heap}
variable [TabA]
def spCkN (K : PySem.W.Frag) : Sp := fun vs H Q E => ∃ (v : V) (a b : Int) (G : Hp), vs = [v, .int a, .int b] ∧ Ex G H ∧ Kd G v ∧ (inB v a b = true → Q .non H) ∧ (inB v a b = false → E (.ref (He.ga K "NoNumber")) none H)
theorem okX_check_number (T : Txt K mg) {fd_is_within : FuncData} (G_is_within : Dn P w K mg base (L2.CX P w) 2 "is_within" ["thing", "least", "most"] (spIsW K) fd_is_within) : ∃ fd, Dn P w K mg base (L2.CX P w) 3 "check_number" ["thing", "least", "most"] (spCkN K) fd := by
  obtain ⟨fd, F⟩ := T.d_check_number
  refine ⟨fd, F.ok sc_check_number (fun vs H Q E h => ?_) (fun cdv A outer s H vs Q E hr h => ?_), T.g_check_number, F.kp, F.bindsN fun _ _ _ _ _ _ us hl => match us, hl with | [_, _, _], _ => rfl, Lv.fun_lk F⟩
  · obtain ⟨_, _, _, _, rfl, _⟩ := h
    rfl
  · have hu := hu_of hr
    have hr_is_within : Room 2 _ := hr.mono (by decide)
    refine ⟨_, (pss_one (ps_if (pt_not (pt_val (pe_call G_is_within.ok hr_is_within rfl G_is_within.mg G_is_within.kp G_is_within.b .nil (passes_call (takes_of rfl rfl rfl rfl) (fun _ _ _ _ h => h)) (pa_cons (pv 0) (pa_cons (pv 1) (pa_cons (pv 2) pa_nil)))))) (pss_one (ps_raise rfl (takes_of rfl rfl rfl rfl) (Lv.pmk_exc0 T.x_NoNumber T.g_NoNumber (by rfl)))) pss_nil)), ?_⟩
    obtain ⟨v, a, b, G, rfl, e, hk, q1, q0⟩ := h
    walk_at "w"
    refine ⟨v, a, b, G, rfl, e, hk, ?_⟩
    cases c : inB v a b with
    | true =>
      walk_at "w"
      exact q1 c
    | false =>
      walk_at "w"
      exact q0 c
end X

namespace X
open PySem PySem.Spec PyProof.Rows L2 Lv
variable {P : Program} {w : World} {K : PySem.W.Frag} {mg : Str → Option Value} {base : Heap}
variable [TabA]
def sp_l_is_int : Sp := fun vs H Q _ => ∃ a lo hi : Int, vs = [.int a, .int lo, .int hi] ∧ Q (.bl (decide (lo ≤ a ∧ a ≤ hi))) H
theorem sc_l_is_int : FnScope ["_law_thing", "_law_least", "_law_most"] ["_law_thing", "_law_least", "_law_most"] (defScope s_l_is_int) := ⟨rfl, rfl, rfl, by decide +kernel, rfl, by decide +kernel, by decide +kernel⟩
theorem ok_l_is_int (T : Txt K mg) : ∃ fd, Dn P w K mg base (L2.CX P w) 1 "_law_is_int" ["_law_thing", "_law_least", "_law_most"] sp_l_is_int fd := by
  obtain ⟨fd, F⟩ := T.d_l_is_int
  refine ⟨fd, F.ok sc_l_is_int (fun vs H Q E h => ?_) (fun cdv A outer s H vs Q E hr h => ?_), T.g_l_is_int, F.kp, F.bindsN fun _ _ _ _ _ _ us hl => match us, hl with | [_, _, _], _ => rfl, Lv.fun_lk F⟩
  · obtain ⟨_, _, _, rfl, _⟩ := h
    rfl
  · have hu := hu_of hr
    refine ⟨_, PSs.nox (pss_one (ps_ret (pe_and (pe_callB call_isi (by rfl) T.n_isinstance (by decide +kernel) (pa_cons (pv 0) (pa_cons (pe_bltn (v := .ty "int") (by rfl) T.n_int (by decide +kernel) rfl) pa_nil))) (pe_and (pe_not (pe_callB call_isi (by rfl) T.n_isinstance (by decide +kernel) (pa_cons (pv 0) (pa_cons (pe_bltn (v := .ty "bool") (by rfl) T.n_bool (by decide +kernel) rfl) pa_nil)))) (pe_one (pe_chain op_le op_le (pv 1) (pv 0) (pv 2))))))), ?_⟩
    obtain ⟨a, lo, hi, rfl, q⟩ := h
    walk_at "w"
    refine ⟨_, _, _, _, true, rfl, .ty _, .base (.int a), kit_ty (by decide +kernel), ?_⟩
    walk_at "w"
    refine ⟨_, _, _, _, false, rfl, .ty _, .base (.int a), kit_ty (by decide +kernel), ?_⟩
    walk_at "w"
    by_cases h1 : lo ≤ a
    · refine itT h1 ?_
      walk_at "w"
      rw [show decide (lo ≤ a ∧ a ≤ hi) = decide (a ≤ hi) by simp [h1]] at q
      exact q
    · refine itF h1 ?_
      rw [show decide (lo ≤ a ∧ a ≤ hi) = false by simp [h1]] at q
      exact q
end X

namespace X
open PySem PySem.Spec PyProof.Rows L2 Lv
variable {P : Program} {w : World} {K : PySem.W.Frag} {mg : Str → Option Value} {base : Heap}
variable [TabA]
def spLMach (K : PySem.W.Frag) : Sp := fun vs H Q _ => ∃ (p : Addr) (n : Int) (es : List Ev) (G P : Hp), vs = [.ref p] ∧ Join G P H ∧ PartsAt G p n es ∧ 1 ≤ n ∧ n ≤ 12 ∧ es.length ≤ 30 ∧ (∀ e ∈ es, EvOk n e) ∧
  ∀ (m : Addr) (G' H' : Hp), Ex G G' → Join G' P H' → MachAt (He.ga K "Machine") G' m n es → Q (.ref m) H'
theorem sc_l_machine : FnScope ["_law_parts_here"] ["_law_parts_here"] (defScope s_l_machine) := ⟨rfl, rfl, rfl, by decide +kernel, rfl, by decide +kernel, by decide +kernel⟩
theorem ok_l_machine (T : Txt K mg) {fd_Machine_init : FuncData} (G_Machine_init : Dm P w K mg base (L2.CX P w) 4 "Machine" "__init__" ["self", "standings", "events"] (spMInit (He.ga K "Machine")) fd_Machine_init) : ∃ fd, Dn P w K mg base (L2.CX P w) 6 "_law_machine" ["_law_parts_here"] (spLMach K) fd := by
  obtain ⟨fd, F⟩ := T.d_l_machine
  refine ⟨fd, F.ok sc_l_machine (fun vs H Q E h => ?_) (fun cdv A outer s H vs Q E hr h => ?_), T.g_l_machine, F.kp, F.bindsN fun _ _ _ _ _ _ us hl => match us, hl with | [_], _ => rfl, Lv.fun_lk F⟩
  · obtain ⟨_, _, _, _, _, rfl, _⟩ := h
    rfl
  · have hu := hu_of hr
    have hr_Machine_init : Room 5 _ := hr.mono (by decide)
    refine ⟨_, PSs.nox (pss_one (ps_ret (pe_make T.mk_Machine G_Machine_init.ok hr_Machine_init (by rfl) T.g_Machine G_Machine_init.b .nil passL (pa_cons (pe_ix ix_tup (pv 0) pe_int (fun _ _ => rfl)) (pa_cons (pe_ix ix_tup (pv 0) pe_int (fun _ _ => rfl)) pa_nil))))), ?_⟩
    obtain ⟨p, n, es, G, P0, rfl, j, hpt, hn1, hn2, hl, hok, q⟩ := h
    obtain ⟨t, hp, vs, ht, hv⟩ := id hpt
    walk_at "w"
    refine aMake.go j fun m dx G3 H3 hm e3 j3 hd3 => ?_
    refine ⟨m, t, n, dx, es, _, P0, rfl, j3, hd3, ⟨vs, e3 _ _ ht, hv.mono e3⟩, hn1, hn2, hl, hok, fun G4 H5 j4 hbut hM => ⟨rfl, ?_⟩⟩
    exact q m G4 H5 (hbut.ex e3 (j.ng hm)) j4 hM
end X

namespace X
open PySem PySem.Spec PyProof.Rows L2 Lv
variable {P : Program} {w : World} {K : PySem.W.Frag} {mg : Str → Option Value} {base : Heap}
variable [TabA]
/-! how many runs there are, all of them in order, and their numbers: plain -/
/-- the number of runs of m events from s -/
def cnt (es : List Ev) : Nat → Nat → Nat
  | 0, _ => 1
  | m + 1, s => ((outs 0 es s).map fun v => cnt es m (((es[v.toNat]?).map fun e => e.a.toNat).getD 0)).sum
def aft (es : List Ev) (v : Int) : Nat := ((es[v.toNat]?).map fun e => e.a.toNat).getD 0
theorem aft_at {es : List Ev} {k : Nat} {e : Ev} (he : es[k]? = some e) : aft es (k : Int) = e.a.toNat := by
  unfold aft; rw [Int.toNat_natCast, he]; rfl
/-- all runs of k events from s, in order -/
def allR (es : List Ev) : Nat → Nat → List (List Nat)
  | 0, _ => [[]]
  | k + 1, s => (outs 0 es s).flatMap fun v => (allR es k (aft es v)).map (v.toNat :: ·)
theorem allR_len (es : List Ev) : ∀ (k s : Nat), (allR es k s).length = cnt es k s
  | 0, _ => rfl
  | k + 1, s => by
    show ((outs 0 es s).flatMap fun v => (allR es k (aft es v)).map (v.toNat :: ·)).length = ((outs 0 es s).map fun v => cnt es k (aft es v)).sum
    rw [List.length_flatMap]
    congr 1
    refine List.map_congr_left fun v _ => ?_
    rw [List.length_map, allR_len es k]
theorem runs_ext (es : List Ev) : ∀ (m c : Nat), ((runsL es m).flatMap fun p => (allR es c p.2.toNat).map (p.1 ++ ·)) = allR es (m + c) 0
  | 0, c => by
    show ([(([] : List Nat), (0 : Int))].flatMap fun p => (allR es c p.2.toNat).map (p.1 ++ ·)) = _
    rw [List.flatMap_cons, List.flatMap_nil, List.append_nil, Nat.zero_add]
    show (allR es c 0).map (fun r => [] ++ r) = _
    simp
  | m + 1, c => by
    show (((runsL es m).flatMap (stepR es)).flatMap fun p => (allR es c p.2.toNat).map (p.1 ++ ·)) = _
    rw [List.flatMap_assoc, show m + 1 + c = m + (c + 1) by omega, ← runs_ext es m (c + 1)]
    congr 1
    funext p
    show ((stepR es p).flatMap fun p => (allR es c p.2.toNat).map (p.1 ++ ·)) = ((outs 0 es p.2.toNat).flatMap fun v => (allR es c (aft es v)).map (v.toNat :: ·)).map (p.1 ++ ·)
    unfold stepR
    rw [List.flatMap_map, List.map_flatMap]
    congr 1
    funext v
    rw [List.map_map]
    have e1 : (((es[v.toNat]?).map Ev.a).getD 0).toNat = aft es v := by
      unfold aft
      cases es[v.toNat]? <;> rfl
    show (allR es c (((es[v.toNat]?).map Ev.a).getD 0).toNat).map ((p.1 ++ [v.toNat]) ++ ·) = _
    rw [e1]
    refine List.map_congr_left fun r _ => ?_
    simp
theorem runs_all (es : List Ev) (m : Nat) : (runsL es m).map Prod.fst = allR es m 0 := by
  have h := runs_ext es m 0
  rw [Nat.add_zero] at h
  rw [← h]
  show _ = (runsL es m).flatMap fun p => [[]].map (p.1 ++ ·)
  rw [List.flatMap_def]
  have : (fun p : List Nat × Int => ([[]] : List (List Nat)).map (p.1 ++ ·)) = fun p => [p.1] := by funext p; simp
  rw [this]
  induction runsL es m with
  | nil => rfl
  | cons a r ih => simp [ih]
/-- the number of a run -/
def idx (es : List Ev) : Nat → List Nat → Nat
  | _, [] => 0
  | s, v :: r => (((outs 0 es s).filter fun u => decide (u < (v : Int))).map fun u => cnt es r.length (aft es u)).sum + idx es (aft es (v : Int)) r
theorem asc_split {l : List Int} {v : Int} (h : l.Pairwise (· < ·)) (hv : v ∈ l) : ∃ r, l = (l.filter fun u => decide (u < v)) ++ v :: r := by
  obtain ⟨a, b, rfl⟩ := List.append_of_mem hv
  obtain ⟨h1, h2, h3⟩ := List.pairwise_append.mp h
  refine ⟨b, ?_⟩
  rw [List.filter_append, List.filter_cons, if_neg (by simp)]
  rw [List.filter_eq_self.mpr fun u hu => by simp; exact h3 u hu v (List.mem_cons_self ..)]
  rw [List.filter_eq_nil_iff.mpr fun u hu => by
    have := (List.pairwise_cons.mp h2).1 u hu
    simp; omega]
  rw [List.append_nil]
theorem flat_at {α β : Type} (f : α → List β) (A t : List α) (v : α) (i : Nat) (b : β) (h : (f v)[i]? = some b) : ((A ++ v :: t).flatMap f)[(A.map fun a => (f a).length).sum + i]? = some b := by
  rw [List.flatMap_append, List.flatMap_cons, List.getElem?_append_right (by rw [List.length_flatMap]; omega), List.length_flatMap, Nat.add_sub_cancel_left, List.getElem?_append_left (List.getElem?_eq_some_iff.mp h).1]
  exact h
theorem leads_aft {es : List Ev} (hpos : ∀ e ∈ es, 0 ≤ e.a) {v s : Nat} {r : List Nat} {z : Int} (h : leads es (s : Int) (v :: r) = some z) : (v : Int) ∈ outs 0 es s ∧ leads es ((aft es (v : Int) : Nat) : Int) r = some z := by
  obtain ⟨e, he, hb, h2⟩ := leads_cons.mp h
  have ha : ((aft es (v : Int) : Nat) : Int) = e.a := by
    rw [aft_at he]
    have := hpos e (List.mem_of_getElem? he)
    omega
  exact ⟨outs_iff.mpr ⟨v, e, he, hb, by simp⟩, by rw [ha]; exact h2⟩
theorem idx_at {es : List Ev} (hpos : ∀ e ∈ es, 0 ≤ e.a) : ∀ (rs : List Nat) (s : Nat) (z : Int), leads es (s : Int) rs = some z → (allR es rs.length s)[idx es s rs]? = some rs
  | [], s, z, _ => rfl
  | v :: r, s, z, h => by
    obtain ⟨hv, h2⟩ := leads_aft hpos h
    have ih := idx_at hpos r _ z h2
    obtain ⟨t, ht⟩ := asc_split outs_asc hv
    have h3 := flat_at (fun v => (allR es r.length (aft es v)).map (v.toNat :: ·)) ((outs 0 es s).filter fun u => decide (u < (v : Int))) t (v : Int) (idx es (aft es (v : Int)) r) (v :: r) (by rw [List.getElem?_map, ih]; rfl)
    rw [← ht] at h3
    simp only [List.length_map, allR_len] at h3
    exact h3
theorem allR_mem {es : List Ev} (hpos : ∀ e ∈ es, 0 ≤ e.a) : ∀ (k s : Nat) (r : List Nat), r ∈ allR es k s → r.length = k ∧ ∃ z, leads es (s : Int) r = some z
  | 0, s, r, h => by
    obtain rfl := List.mem_singleton.mp h
    exact ⟨rfl, _, rfl⟩
  | k + 1, s, r, h => by
    obtain ⟨v, hv, h2⟩ := List.mem_flatMap.mp h
    obtain ⟨r', hr', rfl⟩ := List.mem_map.mp h2
    obtain ⟨i, e, he, hb, rfl⟩ := outs_iff.mp hv
    rw [Nat.zero_add] at hr' ⊢
    obtain ⟨h1, z, hz⟩ := allR_mem hpos k _ r' hr'
    refine ⟨by simp [h1], z, leads_cons.mpr ⟨e, by rw [Int.toNat_natCast]; exact he, hb, ?_⟩⟩
    rw [aft_at he] at hz
    have := hpos e (List.mem_of_getElem? he)
    rw [show ((e.a.toNat : Nat) : Int) = e.a by omega] at hz
    exact hz
theorem lex_cons {a b : Int} {l m : List Int} : lexLt (a :: l) (b :: m) = if a = b then lexLt l m else decide (a < b) := by
  show (if a = b then lexLt l m else decide (a < b)) = _
  rfl
theorem allR_asc (es : List Ev) : ∀ (k s : Nat), (allR es k s).Pairwise fun a b => lexLt (lN a) (lN b) = true
  | 0, _ => List.pairwise_singleton ..
  | k + 1, s => by
    show ((outs 0 es s).flatMap fun v => (allR es k (aft es v)).map (v.toNat :: ·)).Pairwise _
    refine List.pairwise_flatMap.mpr ⟨fun v hv => List.pairwise_map.mpr ((allR_asc es k _).imp fun {a b} h => ?_), List.Pairwise.imp_of_mem (fun {u v} hu hv huv x hx y hy => ?_) outs_asc⟩
    · show lexLt (((v.toNat : Nat) : Int) :: lN a) (((v.toNat : Nat) : Int) :: lN b) = true
      rw [lex_cons, if_pos rfl]
      exact h
    · obtain ⟨a, _, rfl⟩ := List.mem_map.mp hx
      obtain ⟨b, _, rfl⟩ := List.mem_map.mp hy
      obtain ⟨_, _, _, _, hu'⟩ := outs_iff.mp hu
      obtain ⟨_, _, _, _, hv'⟩ := outs_iff.mp hv
      show lexLt (((u.toNat : Nat) : Int) :: lN a) (((v.toNat : Nat) : Int) :: lN b) = true
      rw [lex_cons, if_neg (by omega)]
      simp
      omega
theorem allR_lt {es : List Ev} {k s i j : Nat} {a b : List Nat} (hij : i < j) (ha : (allR es k s)[i]? = some a) (hb : (allR es k s)[j]? = some b) : lexLt (lN a) (lN b) = true := by
  obtain ⟨h1, rfl⟩ := List.getElem?_eq_some_iff.mp ha
  obtain ⟨h2, rfl⟩ := List.getElem?_eq_some_iff.mp hb
  exact List.pairwise_iff_getElem.mp (allR_asc es k s) i j h1 h2 hij
theorem idx_of {es : List Ev} (hpos : ∀ e ∈ es, 0 ≤ e.a) {k s i : Nat} {r : List Nat} (h : (allR es k s)[i]? = some r) : idx es s r = i := by
  obtain ⟨h1, z, hz⟩ := allR_mem hpos k s r (List.mem_of_getElem? h)
  have h2 := idx_at hpos r s z hz
  rw [h1] at h2
  rcases Nat.lt_trichotomy (idx es s r) i with c | c | c
  · have := allR_lt c h2 h
    rw [lexLt_irr] at this; cases this
  · exact c
  · have := allR_lt c h h2
    rw [lexLt_irr] at this; cases this
theorem idx_lt {es : List Ev} (hpos : ∀ e ∈ es, 0 ≤ e.a) {s : Nat} {r : List Nat} {z : Int} (h : leads es (s : Int) r = some z) : idx es s r < cnt es r.length s := by
  have h2 := (List.getElem?_eq_some_iff.mp (idx_at hpos r s z h)).1
  rw [allR_len] at h2
  exact h2
end X

namespace X
open PySem PySem.Spec PyProof.Rows L2 Lv
variable {P : Program} {w : World} {K : PySem.W.Frag} {mg : Str → Option Value} {base : Heap}
variable [TabA]
theorem atI_end {ws : List V} {n : Nat} {v : V} (hl : ws.length = n + 1) (h : ws[n]? = some v) : atI ws (-1) = some v := by
  have h1 : ws = ws.take n ++ [v] := by
    have h2 := take_more h
    rw [show n + 1 = ws.length by omega, List.take_length] at h2
    exact h2
  rw [h1]; exact atI_last _ _
def rowW (es : List Ev) (n : Int) (m : Nat) : List Int := (List.range n.toNat).map fun s => ((cnt es m s : Nat) : Int)
theorem row_at {es : List Ev} {n : Int} (m : Nat) {a : Int} (h0 : 0 ≤ a) (h : a < n) : ((rowW es n m).map V.int)[a.toNat]? = some (.int ((cnt es m a.toNat : Nat) : Int)) := by
  unfold rowW
  rw [List.getElem?_map, List.getElem?_map, List.getElem?_range (by omega)]; rfl
def RowsAt (es : List Ev) (n : Int) (G : Hp) (ws : List V) (k : Nat) : Prop := ws.length = k ∧ ∀ i : Nat, i < k → ∃ a : Addr, ws[i]? = some (.ref a) ∧ G a = some (.lst ((rowW es n i).map V.int))
theorem RowsAt.mono {es : List Ev} {n : Int} {G G' : Hp} {ws : List V} {k : Nat} (e : Ex G G') (h : RowsAt es n G ws k) : RowsAt es n G' ws k := ⟨h.1, fun i hi => by
  obtain ⟨a, h1, h2⟩ := h.2 i hi
  exact ⟨a, h1, e _ _ h2⟩⟩
theorem sum_cast : ∀ l : List Nat, ((l.map fun (x : Nat) => (x : Int)).sum) = ((l.sum : Nat) : Int)
  | [] => rfl
  | a :: r => by
    have ih := sum_cast r
    rw [List.map_cons, List.sum_cons, List.sum_cons, ih]; omega
def sp_ways_on (K : PySem.W.Frag) : Sp := fun vs H Q _ => ∃ (m : Addr) (k : Nat) (n : Int) (es : List Ev) (G P : Hp), vs = [.ref m, .int k] ∧ Join G P H ∧ MachK K G m n es ∧ EvB n es ∧ k ≤ 1000 ∧
  ∀ (p : Addr) (ws : List V) (G' H' : Hp), Ex G G' → Join G' P H' → H p = none → G' p = some (.lst ws) → RowsAt es n G' ws (k + 1) → Q (.ref p) H'
theorem sc_ways_on : FnScope ["machine", "many", "found", "turn", "last", "standing", "out", "event"] ["machine", "many"] (defScope s_ways_on) := ⟨rfl, rfl, rfl, by decide +kernel, rfl, by decide +kernel, by decide +kernel⟩
theorem ok_ways_on (T : Txt K mg) {fd_step_at : FuncData} (G_step_at : Dn P w K mg base (L2.CX P w) 1 "step_at" ["machine", "event"] (sp_step_at K) fd_step_at) : ∃ fd, Dn P w K mg base (L2.CX P w) 2 "ways_on" ["machine", "many"] (sp_ways_on K) fd := by
  obtain ⟨fd, F⟩ := T.d_ways_on
  refine ⟨fd, F.ok sc_ways_on (fun vs H Q E h => ?_) (fun cdv A outer s H vs Q E hr h => ?_), T.g_ways_on, F.kp, F.bindsN fun _ _ _ _ _ _ us hl => match us, hl with | [_, _], _ => rfl, Lv.fun_lk F⟩
  · obtain ⟨_, _, _, _, _, _, rfl, _⟩ := h
    rfl
  · have hu := hu_of hr
    have hr_step_at : Room 1 _ := hr.mono (by decide)
    refine ⟨_, PSs.nox (pss_cons (ps_set (i := 2) sc_ways_on.nd rfl (Or.inl rfl) (pe_lst (pa_cons (pe_lc (own := [("standing", 5)]) (g := gName 5) (tt := tYes) rfl sc_ways_on.nd (pi_range1 (by rfl) T.n_range (pa_cons (pe_fld (pv 0) rfl) pa_nil)) (blkOk_by (N := ["machine", "many", "found", "turn", "last", "standing", "out", "event"]) (sc := defScope s_ways_on) (by decide +kernel)) (fun _ _ _ _ _ => (pg_name (i := 5) sc_ways_on.nd rfl (Or.inl rfl) (hf := Or.inr rfl))) (fun _ _ _ _ _ => pts_nil) (fun _ _ _ _ _ => pe_int)) pa_nil)))
      (pss_cons (ps_for PassesOwn.never rfl (pi_range1 (by rfl) T.n_range (pa_cons (pv 1) pa_nil)) (pg_name (i := 3) sc_ways_on.nd rfl (Or.inl rfl)) (pss_cons (ps_set (i := 4) sc_ways_on.nd rfl (Or.inr rfl) (pe_ix ix_list (pv 2) (pe_un un_neg pe_int) (fun _ _ => rfl)))
      (pss_one (ps_expr (pe_bm PySem.F.plainAttrs_list PySem.F.slot_list_append PySem.F.type_list_append mt_append (pv 2) (pa_cons (pe_lc (own := [("out", 6)]) (g := gName 6) (tt := tYes) rfl sc_ways_on.nd (pi_list (pe_fld (pv 0) rfl)) (blkOk_by (N := ["machine", "many", "found", "turn", "last", "standing", "out", "event"]) (sc := defScope s_ways_on) (by decide +kernel)) (fun _ _ _ _ _ => (pg_name (i := 6) sc_ways_on.nd rfl (Or.inl rfl) (hf := Or.inr rfl))) (fun _ _ _ _ _ => pts_nil) (fun _ _ _ _ _ => (pe_callB (cr_sumK (K := K) rfl rfl) (by rfl) T.n_sum (by decide +kernel) (pa_cons (pe_lc (own := [("event", 7)]) (g := gName 7) (tt := tYes) rfl sc_ways_on.nd (pi_listK (K := K) rfl (pv 6)) (blkOk_by rfl) (fun _ _ _ _ _ => (pg_name (i := 7) sc_ways_on.nd rfl (Or.inl rfl) (hf := Or.inr rfl))) (fun _ _ _ _ _ => pts_nil) (fun _ _ _ _ _ => (pe_ix (ix_listK (K := K) rfl) (pv 4) (pe_ix (ix_tupK (K := K) rfl) (pe_call G_step_at.ok hr_step_at rfl G_step_at.mg G_step_at.kp G_step_at.b .nil passL (pa_cons (pv 0) (pa_cons (pv 7) pa_nil))) pe_int (fun _ _ => rfl)) (fun _ _ => rfl)))) pa_nil)))) pa_nil))))))
      (pss_one (ps_ret (pv 2))))), ?_⟩
    obtain ⟨m, k, n, es, G, P0, rfl, j, hM, hB, hk, q⟩ := h
    have hn1 := hB.1
    have hn2 := hB.2.1
    have hpos : ∀ e ∈ es, 0 ≤ e.a := fun e he => (hB.2.2.2 e he).2.2.1
    walk_at "w"
    refine aFld.ns j hM ?_
    walk_at "w"
    refine aLcR.go (n := n.toNat) (fun P' => P' = P0) (fun i us G' => us = ((List.range i).map fun _ => (1 : Int)).map V.int ∧ i ≤ 10000) j rfl (by omega) (by omega) (fun _ _ => ⟨rfl, by decide⟩) (fun i us G2 D _ _ hd h => h) (fun i us G2 h => ?_) ?_ ?_
    · rw [h.1, List.length_map, List.length_map, List.length_range]; omega
    · intro i us G' P' H' R R0 hi e' hI hP j' kR kR0
      subst hP
      walk_at "w"
      refine ⟨rfl, ?_⟩
      walk_at "w"
      refine kR _ _ _ H' (Ex.refl _) rfl j' ⟨?_, by omega⟩
      rw [hI.1, List.range_succ, List.map_append, List.map_append]; rfl
    intro p1 us G1 P' H1 hp1 e1 hd1 hI hP j1
    subst hP
    replace hI := hI.1
    subst hI
    walk_at "w"
    refine aLst.go j1 (by show 1 ≤ 100000; decide) fun L G2 H2 hL e2 j2 hGL => ?_
    have hL0 : H L = none := (j.exH e1 j1).back hL
    have gL : G L = none := j.ng hL0
    have e12 := e1.trans e2
    have hd0 := hd1
    replace hd1 := e2 _ _ hd1
    walk_at "w"
    refine aForR.go (n := k) rfl (by omega) (fun i G3 P3 σ => P3 = P' ∧ Ex G G3 ∧ ∃ (ws : List V) (s3 s4 s5 s6 s7 : Option V), σ = [some (.ref m), some (.int k), some (.ref L), s3, s4, s5, s6, s7] ∧ G3 L = some (.lst ws) ∧ RowsAt es n G3 ws (i + 1) ∧ ∀ v ∈ ws, v ≠ .ref L) j2 ⟨rfl, e12, _, _, _, _, _, _, rfl, hGL, ⟨rfl, fun i hi => ?_⟩, fun v hv => ?_⟩ ?_ ?_
    · obtain rfl : i = 0 := by omega
      exact ⟨p1, rfl, hd1⟩
    · rw [List.mem_singleton.mp hv]
      intro h
      injection h with h
      have := j1.g _ _ hd0
      rw [h, hL] at this; cases this
    · rintro i G3 P3 H3 σ hi j3 ⟨rfl, e3, ws, s3, s4, s5, s6, s7, rfl, hGL, hR, hne⟩
      clear j2 hd1 j1 hp1
      have hM3 := hM.mono e3
      obtain ⟨la, l1, l2⟩ := hR.2 i (by omega)
      walk_at "w"
      refine w_ixL (j3.g _ _ hGL) (atI_end hR.1 l1) ?_
      walk_at "w"
      refine aFld.nk j3 hM3 fun ko ks hko hkl hkk => ?_
      walk_at "w"
      refine aLcL.go (fun Q' => Q' = P3) (fun c us G' => us = ((rowW es n (i + 1)).take c).map V.int) j3 rfl hko (fun _ _ => rfl) (fun c us G2 D _ _ hd h => h) (fun c us G2 h => ?_) ?_ ?_
      · rw [h, List.length_map, List.length_take]; unfold rowW; simp; omega
      · intro s x us G4 P4 H4 R R0 hx e4 hI hP j4 kR kR0
        subst hP
        have hs : s < ks.length := (List.getElem?_eq_some_iff.mp hx).1
        obtain ⟨ka, k1, k2⟩ := hkk s hs
        rw [hx] at k1
        obtain rfl := Option.some.inj k1
        replace k2 := e4 _ _ k2
        replace l2 := e4 _ _ l2
        walk_at "w"
        refine ⟨rfl, ?_⟩
        walk_at "w"
        have hol := outs_len s es 0
        have hel := hB.2.2.1
        refine aLcL.go (fun Q' => Q' = P4) (fun c us G' => us = (((outs 0 es s).take c).map fun v => ((cnt es i (aft es v) : Nat) : Int)).map V.int) j4 rfl k2 (fun _ _ => rfl) (fun c us G2 D _ _ hd h => h) (fun c us G2 h => ?_) ?_ ?_
        · rw [h, List.length_map, List.length_map, List.length_take]; omega
        · intro c x us G5 P5 H5 R R0 hx e5 hI2 hP j5 kR kR0
          subst hP
          obtain ⟨v, hv, rfl⟩ := int_at hx
          obtain ⟨i2, e, ev, he, heb⟩ := outs_mem es 0 (List.mem_of_getElem? hv)
          rw [Nat.zero_add] at ev
          subst ev
          obtain ⟨b1, b2, b3, b4, _⟩ := hB.2.2.2 e (List.mem_of_getElem? he)
          replace l2 := e5 _ _ l2
          walk_at "w"
          refine ⟨rfl, ?_⟩
          walk_at "w"
          refine ⟨m, i2, n, es, e, rfl, ((hM3.mono e4).mono e5).mono j5.exG, he, fun te hte => ?_⟩
          walk_at "w"
          refine w_ixL (j5.g _ _ l2) (atI_int b3 (row_at i b3 b4)) ?_
          refine kR _ _ _ H5 (Ex.refl _) rfl j5 ?_
          rw [hI2, take_more hv, List.map_append, List.map_append]
          congr 1
          show _ = [V.int ((cnt es i (aft es (i2 : Int)) : Nat) : Int)]
          unfold aft
          rw [Int.toNat_natCast, he]; rfl
        intro sa us2 G5 P5 H5 hsa e5 hGs hI2 hP j5
        subst hP
        rw [List.length_map, List.take_length] at hI2
        subst hI2
        walk_at "w"
        refine ⟨sa, _, rfl, sqL (j5.g _ _ hGs), ?_⟩
        refine kR _ _ _ H5 e5 rfl j5 ?_
        have hrow : (rowW es n (i + 1))[s]? = some ((cnt es (i + 1) s : Nat) : Int) := by
          unfold rowW
          rw [List.getElem?_map, List.getElem?_range (by omega)]; rfl
        rw [hI, take_more hrow, List.map_append]
        congr 1
        show [V.int (((outs 0 es s).map fun v => ((cnt es i (aft es v) : Nat) : Int)).sum)] = [V.int ((cnt es (i + 1) s : Nat) : Int)]
        congr 2
        have := sum_cast ((outs 0 es s).map fun v => cnt es i (aft es v))
        rw [List.map_map] at this
        exact this
      intro ra us G4 P4 H4 hra e4 hGr hI hP j4
      subst hP
      have er : (rowW es n (i + 1)).take ks.length = rowW es n (i + 1) := List.take_of_length_le (by unfold rowW; simp; omega)
      rw [er] at hI
      subst hI
      walk_at "w"
      refine append.go j4 (e4 _ _ hGL) (by rw [hR.1]; omega) fun G5 H5 b5 j5 h5 => ?_
      walk_at "w"
      have hraL : ra ≠ L := fun h => by
        have := j3.g _ _ hGL
        rw [← h, hra] at this; cases this
      refine ⟨G5, _, j5, rfl, b5.ex (e3.trans e4) gL, _, _, _, _, _, _, rfl, h5, ⟨by simp [hR.1], fun c hc => ?_⟩, fun v hv => ?_⟩
      · by_cases h1 : c < i + 1
        · obtain ⟨a, q1, q2⟩ := hR.2 c h1
          exact ⟨a, by rw [List.getElem?_append_left (by rw [hR.1]; omega)]; exact q1, b5 _ _ (e4 _ _ q2) fun h => hne _ (List.mem_of_getElem? q1) (by rw [h])⟩
        · obtain rfl : c = i + 1 := by omega
          exact ⟨ra, by rw [← hR.1]; simp, b5 _ _ hGr hraL⟩
      · rcases List.mem_append.mp hv with h | h
        · exact hne v h
        · rw [List.mem_singleton.mp h]; exact fun q => hraL (V.ref.inj q)
    · rintro G3 P3 H3 σ j3 ⟨rfl, e3, ws, s3, s4, s5, s6, s7, rfl, hGL, hR, hne⟩
      walk_at "w"
      exact q L ws G3 H3 e3 j3 hL0 hGL hR
def sp_many_runs (K : PySem.W.Frag) : Sp := fun vs H Q _ => ∃ (m : Addr) (k : Nat) (n : Int) (es : List Ev) (G P : Hp), vs = [.ref m, .int k] ∧ Join G P H ∧ MachK K G m n es ∧ EvB n es ∧ k ≤ 100 ∧
  ∀ (G' H' : Hp), Ex G G' → Join G' P H' → Q (.int ((cnt es k 0 : Nat) : Int)) H'
theorem sc_many_runs : FnScope ["machine", "many"] ["machine", "many"] (defScope s_many_runs) := ⟨rfl, rfl, rfl, by decide +kernel, rfl, by decide +kernel, by decide +kernel⟩
theorem ok_many_runs (T : Txt K mg) {fd_check_number : FuncData} (G_check_number : Dn P w K mg base (L2.CX P w) 3 "check_number" ["thing", "least", "most"] (sp_check_number K) fd_check_number) {fd_ways_on : FuncData} (G_ways_on : Dn P w K mg base (L2.CX P w) 2 "ways_on" ["machine", "many"] (sp_ways_on K) fd_ways_on) : ∃ fd, Dn P w K mg base (L2.CX P w) 4 "many_runs" ["machine", "many"] (sp_many_runs K) fd := by
  obtain ⟨fd, F⟩ := T.d_many_runs
  refine ⟨fd, F.ok sc_many_runs (fun vs H Q E h => ?_) (fun cdv A outer s H vs Q E hr h => ?_), T.g_many_runs, F.kp, F.bindsN fun _ _ _ _ _ _ us hl => match us, hl with | [_, _], _ => rfl, Lv.fun_lk F⟩
  · obtain ⟨_, _, _, _, _, _, rfl, _⟩ := h
    rfl
  · have hu := hu_of hr
    have hr_check_number : Room 3 _ := hr.mono (by decide)
    have hr_ways_on : Room 2 _ := hr.mono (by decide)
    refine ⟨_, PSs.nox (pss_cons (ps_expr (pe_call G_check_number.ok hr_check_number rfl G_check_number.mg G_check_number.kp G_check_number.b .nil passL (pa_cons (pv 1) (pa_cons pe_int (pa_cons (pe_glob (v := .int (100)) rfl T.i_MOST_EVENTS_counts.choose_spec ⟨_, rfl⟩) pa_nil)))))
      (pss_one (ps_ret (pe_ix ix_list (pe_ix ix_list (pe_call G_ways_on.ok hr_ways_on rfl G_ways_on.mg G_ways_on.kp G_ways_on.b .nil passL (pa_cons (pv 0) (pa_cons (pv 1) pa_nil))) (pv 1) (fun _ _ => rfl)) pe_int (fun _ _ => rfl))))), ?_⟩
    obtain ⟨m, k, n, es, G, P0, rfl, j, hM, hB, hk, q⟩ := h
    walk_at "w"
    refine ⟨k, _, _, rfl, by omega, by omega, ?_⟩
    walk_at "w"
    refine ⟨m, k, n, es, G, P0, rfl, j, hM, hB, by omega, fun p ws G' H' e' j' hp hGp hR => ?_⟩
    obtain ⟨a, h1, h2⟩ := hR.2 k (by omega)
    have hn1 := hB.1
    walk_at "w"
    refine w_ixL (j'.g _ _ hGp) (atI_nat h1) ?_
    walk_at "w"
    refine w_ixL (j'.g _ _ h2) (atI_int (Int.le_refl _) (row_at k (Int.le_refl _) (by omega))) ?_
    exact q G' H' e' j'
end X

namespace X
open PySem PySem.Spec PyProof.Rows L2 Lv
variable {P : Program} {w : World} {K : PySem.W.Frag} {mg : Str → Option Value} {base : Heap}
variable [TabA]
def spWide : Sp := fun vs H Q _ => ∃ (l : Addr) (G P : Hp), vs = [.ref l, .int 40, .bl false] ∧ Join G P H ∧ Pot P l ∧
  ∀ (p : Addr) (n : Int) (es : List Ev) (G' P' H' : Hp), Ex G G' → Join G' P' H' → Pot P' l → PartsAt G' p n es → 10 ≤ n → n ≤ 12 → es.length ≤ 30 → (∀ (i : Nat) (e : Ev), es[i]? = some e → e.b = (i : Int) % n) → (∀ e ∈ es, EvOk n e ∧ -4 ≤ e.x ∧ e.x ≤ 4) → Q (.ref p) H'
theorem EvL.tupV {G : Hp} {vs : List V} {es : List Ev} (h : EvL G vs es) : TupL evV G vs es := h
theorem EvL.ofTup {G : Hp} {vs : List V} {es : List Ev} (h : TupL evV G vs es) : EvL G vs es := h
theorem sc_l_wide : FnScope ["_law_pot_here", "_law_most_tries", "_law_is_hits", "_law_standings", "_law_events", "_law_at", "_law_before", "_law_after", "_law_points"] ["_law_pot_here", "_law_most_tries", "_law_is_hits"] (defScope s_l_wide) := ⟨rfl, rfl, rfl, by decide +kernel, rfl, by decide +kernel, by decide +kernel⟩
theorem ok_l_wide (T : Txt K mg) {fd_l_draw : FuncData} (G_l_draw : Dn P w K mg base (L2.CX P w) 1 "_law_draw" ["_law_pot_here", "_law_many"] spDraw fd_l_draw) : ∃ fd, Dn P w K mg base (L2.CX P w) 2 "_law_wide" ["_law_pot_here", "_law_most_tries", "_law_is_hits"] spWide fd := by
  obtain ⟨fd, F⟩ := T.d_l_wide
  refine ⟨fd, F.ok sc_l_wide (fun vs H Q E h => ?_) (fun cdv A outer s H vs Q E hr h => ?_), T.g_l_wide, F.kp, F.bindsN fun _ _ _ _ _ _ us hl => match us, hl with | [_, _, _], _ => rfl, Lv.fun_lk F⟩
  · obtain ⟨_, _, _, rfl, _⟩ := h
    rfl
  · have hu := hu_of hr
    have hr_l_draw : Room 1 _ := hr.mono (by decide)
    refine ⟨_, PSs.nox (pss_cons (ps_set (i := 3) sc_l_wide.nd rfl (Or.inl rfl) (pe_op op_add pe_int (pe_call G_l_draw.ok hr_l_draw rfl G_l_draw.mg G_l_draw.kp G_l_draw.b .nil passL (pa_cons (pv 0) (pa_cons pe_int pa_nil)))))
      (pss_cons (ps_set (i := 4) sc_l_wide.nd rfl (Or.inl rfl) (pe_lst pa_nil))
      (pss_cons (ps_for PassesOwn.never rfl (pi_range1 (by rfl) T.n_range (pa_cons pe_int pa_nil)) (pg_name (i := 5) sc_l_wide.nd rfl (Or.inl rfl)) (pss_cons (ps_set (i := 6) sc_l_wide.nd rfl (Or.inl rfl) (pe_op op_mod (pe_callTy call_int1 (by rfl) T.n_int (by decide +kernel) (pa_cons (pv 5) pa_nil)) (pv 3)))
      (pss_cons (ps_set (i := 7) sc_l_wide.nd rfl (Or.inl rfl) (pe_ifExp (pt_cmpR op_lt (pv 5) (pv 3) (nomark _)) (pe_op op_mod (pe_callTy call_int1 (by rfl) T.n_int (by decide +kernel) (pa_cons (pe_op op_add (pv 6) pe_int) pa_nil)) (pv 3)) (pe_call G_l_draw.ok hr_l_draw rfl G_l_draw.mg G_l_draw.kp G_l_draw.b .nil passL (pa_cons (pv 0) (pa_cons (pv 3) pa_nil)))))
      (pss_cons (ps_set (i := 8) sc_l_wide.nd rfl (Or.inl rfl) (pe_ifExp (pt_val (pv 2)) (pe_call G_l_draw.ok hr_l_draw rfl G_l_draw.mg G_l_draw.kp G_l_draw.b .nil passL (pa_cons (pv 0) (pa_cons pe_int pa_nil))) (pe_op op_sub (pe_call G_l_draw.ok hr_l_draw rfl G_l_draw.mg G_l_draw.kp G_l_draw.b .nil passL (pa_cons (pv 0) (pa_cons pe_int pa_nil))) pe_int)))
      (pss_one (ps_expr (pe_bm PySem.F.plainAttrs_list PySem.F.slot_list_append PySem.F.type_list_append mt_append (pv 4) (pa_cons (pe_tup (pa_cons (pv 6) (pa_cons (pv 7) (pa_cons (pe_op op_add pe_int (pe_call G_l_draw.ok hr_l_draw rfl G_l_draw.mg G_l_draw.kp G_l_draw.b .nil passL (pa_cons (pv 0) (pa_cons (pv 1) pa_nil)))) (pa_cons (pv 8) pa_nil))))) pa_nil))))))))
      (pss_one (ps_ret (pe_tup (pa_cons (pv 3) (pa_cons (pe_callTy call_tuple_of (by rfl) T.n_tuple (by decide +kernel) (pa_cons (pv 4) pa_nil)) pa_nil)))))))), ?_⟩
    obtain ⟨l, G, P0, rfl, j, hP, q⟩ := h
    walk_at "w"
    refine ⟨l, 3, G, P0, rfl, j, hP, by decide, by decide, fun r1 P1 H1 r10 r11 j1 hP1 => ?_⟩
    walk_at "w"
    refine aLst.go j1 (by show 0 ≤ 100000; decide) fun L G2 H2 hL e2 j2 hGL => ?_
    have gL : G L = none := j1.ng hL
    walk_at "w"
    refine aForR.go (n := 30) (by decide) (by decide) (fun i G' P' σ' => ∃ (s5 s6 s7 s8 : Option V) (vs : List V) (es : List Ev), σ' = [some (.ref l), some (.int 40), some (.bl false), some (.int (10 + r1)), some (.ref L), s5, s6, s7, s8] ∧ Pot P' l ∧ Ex G G' ∧ G' L = some (.lst vs) ∧ EvL G' vs es ∧ es.length = i ∧ (∀ (k : Nat) (e : Ev), es[k]? = some e → e.b = (k : Int) % (10 + r1)) ∧ ∀ e ∈ es, EvOk (10 + r1) e ∧ -4 ≤ e.x ∧ e.x ≤ 4) j2
      ⟨_, _, _, _, [], [], rfl, hP1, e2, hGL, EvL.nil, rfl, fun k e he => by simp at he, fun e he => by cases he⟩ ?_ ?_
    · rintro i G' P' H' σ' hi j' ⟨s5, s6, s7, s8, vs, es, rfl, hP', e', hw, hv, hlen, hmd, hes⟩
      walk_at "w"
      have q0 := Int.emod_nonneg (i : Int) (show 10 + r1 ≠ 0 by omega)
      have q1 := Int.emod_lt_of_pos (i : Int) (show 0 < 10 + r1 by omega)
      refine w_rI (show (0 : Int) < 10 + r1 by omega) ?_
      walk_at "w"
      refine (fun (hh : ∀ Q : VK, (∀ (v : Int) (P3 H3 : Hp), 0 ≤ v → v < 10 + r1 → Join G' P3 H3 → Pot P3 l → Q (.int v) H3) → tIf _ _ _ _ _ Q) => hh _ fun v P3 H3 v0 v1 j3 hP3 => ?_) ?_
      rotate_left
      · intro Q hQ
        refine w_ifE ?_
        walk_at "w"
        by_cases c : (i : Int) < 10 + r1
        · refine itT c ?_
          walk_at "w"
          refine w_rI (show (0 : Int) < 10 + r1 by omega) ?_
          exact hQ _ P' H' (Int.emod_nonneg _ (by omega)) (Int.emod_lt_of_pos _ (by omega)) j' hP'
        · refine itF c ?_
          walk_at "w"
          exact ⟨l, _, G', P', rfl, j', hP', by omega, Int.lt_of_lt_of_le (b := 2000) (by omega) (by decide), fun d P4 H4 d0 d1 j4 hP4 => hQ d P4 H4 d0 d1 j4 hP4⟩
      clear hh
      walk_at "w"
      refine w_ifE ?_
      walk_at "w"
      refine ⟨l, 9, G', P3, rfl, j3, hP3, by decide, by decide, fun d P4 H4 d0 d1 j4 hP4 => ?_⟩
      walk_at "w"
      refine ⟨l, 40, G', P4, rfl, j4, hP4, by decide, by decide, fun d2 P5 H5 d20 d21 j5 hP5 => ?_⟩
      walk_at "w"
      refine aTup.go j5 (by show 4 ≤ 100000; decide) fun t2 G6 H6 ht2 e6 j6 hT2 => ?_
      walk_at "w"
      refine append.go j6 (e6 _ _ hw) (by rw [hv.1, hlen]; omega) fun G7 H7 b7 j7 hL7 => ?_
      walk_at "w"
      have n2 : t2 ≠ L := fun e => by rw [e] at hT2; rw [e6 _ _ hw] at hT2; cases hT2
      refine ⟨G7, P5, j7, _, _, _, _, _, es ++ [⟨(i : Int) % (10 + r1), v, 1 + d2, d - 4⟩], rfl, hP5, b7.ex (e'.trans e6) gL, hL7, ?_, by simp [hlen], fun k e he => ?_, fun e he => ?_⟩
      · have hk := TupL.keep (f := evV) (show TupL evV G6 vs es from hv.mono e6) (e6 _ _ hw) fun c u nc h => b7 _ _ h nc
        exact EvL.ofTup (hk.add (b7 _ _ hT2 n2))
      · by_cases c : k < es.length
        · rw [List.getElem?_append_left c] at he
          exact hmd k e he
        · rw [List.getElem?_append_right (by omega)] at he
          by_cases c2 : k = es.length
          · rw [c2, Nat.sub_self] at he
            obtain rfl := Option.some.inj he
            rw [c2, hlen]
          · rw [List.getElem?_eq_none (by simp; omega)] at he; cases he
      · rcases List.mem_append.mp he with h | h
        · exact hes e h
        · rw [List.mem_singleton.mp h]
          exact ⟨⟨q0, q1, v0, v1, by show 1 ≤ 1 + d2; omega, by show 1 + d2 ≤ 40; omega, by show -400 ≤ d - 4; omega, by show d - 4 ≤ 400; omega⟩, by show -4 ≤ d - 4; omega, by show d - 4 ≤ 4; omega⟩
    · rintro G' P' H' σ' j' ⟨s5, s6, s7, s8, vs, es, rfl, hP', e', hw, hv, hlen, hmd, hes⟩
      walk_at "w"
      refine tupOf_go j' hw fun u G10 H10 hu e10 j10 hGu => ?_
      walk_at "w"
      refine aTup.go j10 (by show 2 ≤ 100000; decide) fun p2 G11 H11 hp2 e11 j11 hT2 => ?_
      exact q p2 (10 + r1) es G11 P' H11 ((e'.trans e10).trans e11) j11 hP' ⟨u, hT2, vs, e11 _ _ hGu, hv.mono (e10.trans e11)⟩ (by omega) (by omega) (by omega) hmd hes
end X


namespace X
open PySem PySem.Spec PyProof.Rows L2 Lv
variable {P : Program} {w : World} {K : PySem.W.Frag} {mg : Str → Option Value} {base : Heap}
variable [TabA]
theorem xf_var {a C dd : Addr} {f : Str} {σ : L2.St} {H : Hp} {Q : VK} {y : V} {i : Nat} (hv : σ[i]? = some (some (.ref a))) (ea : H dd = some (.xd [(f, y)])) (q : Q y H) : tXf a (.ref C) (some dd) C f (tVar i) σ H Q :=
  ⟨.ref a, hv, rfl, rfl, dd, [(f, y)], y, rfl, ea, by simp [List.lookup], q⟩
/-- what is told of a call: "let", "number", or the bound of TooLong -/
def TTref (K : PySem.W.Frag) : (XK → Hp → VK → Prop) → Hp → VK → Prop := fun tl H Q => ∀ (E : XK) (R : VK), (∀ v H', Q (.str "let") H' → R v H') → (∀ H', Q (.str "number") H' → E (.ref (He.ga K "NoNumber")) none H') → (∀ dd y H', H' dd = some (.xd [("most", y)]) → Q y H' → E (.ref (He.ga K "TooLong")) (some dd) H') → tl E H R
theorem sc_l_refused : FnScope ["_law_call", "_law_found", "e"] ["_law_call"] (defScope s_l_refused) := ⟨rfl, rfl, rfl, by decide +kernel, rfl, by decide +kernel, by decide +kernel⟩
theorem okL_l_refused (T : Txt K mg) : Lv.DnL P w K mg base 9 "_law_refused" (TTref K) := by
  obtain ⟨fd, F⟩ := T.d_l_refused
  refine ⟨_, fd, _, _, _, ["_law_call", "_law_found", "e"], _, F, T.g_l_refused, F.bindsN fun _ _ _ _ _ _ us hl => match us, hl with | [_], _ => rfl, sc_l_refused, rfl, Or.inl rfl, by decide, by decide, by decide, fun cdv A outer q => ?_⟩
  · intro f c' s H Q tl hr act hc h
    refine ⟨_, PSs.nox (pss_cons (ps_set (i := 1) sc_l_refused.nd rfl (Or.inl rfl) pe_str)
      (pss_cons (ps_try_as (i := 2) (Wout := fun _ _ _ _ => False) (c := .ref (He.ga K "LeapError")) rfl rfl sc_l_refused.nd rfl rfl ⟨rfl, by decide, Or.inl T.g_LeapError⟩ takes0 (fun W pn xe tk po => (pss_one (ps_expr (act W pn xe _ _ tk)))) (fun a oe cls d pn hz hf => (pss_cons (ps_set (i := 1) sc_l_refused.nd rfl (Or.inl rfl) (pe_ifExp (pt_val (pe_callB (Lv.call_isHK (K := K) rfl hz hf) (by rfl) T.n_isinstance (by decide +kernel) (pa_cons (pv 2) (pa_cons (pe_glob (v := .ref (He.ga K "NoNumber")) rfl T.g_NoNumber rfl) pa_nil)))) pe_str pe_str))
      (pss_one (ps_if (pt_val (pe_callB (Lv.call_isHK (K := K) rfl hz hf) (by rfl) T.n_isinstance (by decide +kernel) (pa_cons (pv 2) (pa_cons (pe_glob (v := .ref (He.ga K "TooLong")) rfl T.g_TooLong rfl) pa_nil)))) (pss_one (ps_set (i := 1) sc_l_refused.nd rfl (Or.inl rfl) (pe_xf (Lv.xi_ok T.xi_TooLong).xf (Lv.xi_ok T.xi_TooLong).noat hz hf (pv 2)))) pss_nil)))))
      (pss_one (ps_ret (pv 1))))), ?_⟩
    walk_at "w"
    refine ⟨rfl, hc, h _ _ (fun v H' hq => ?_) (fun H' hq => ?_) (fun dd y H' hd hq => ?_)⟩
    · walk_at "w"
      exact hq
    · refine as_go (He.exm_ok T.m_NoNumber_LeapError) fun a ha => ?_
      refine w_ifE ?_
      walk_at "w"
      refine isH_own T.xe_NoNumber (by decide) (.inl rfl) rfl ⟨_, rfl, ?_⟩
      refine itBT rfl ?_
      walk_at "w"
      refine isH_own T.xe_NoNumber (by decide) (.inl rfl) rfl ⟨_, rfl, ?_⟩
      refine itBF rfl ?_
      walk_at "w"
      exact hq
    · refine as_go (He.exm_ok T.m_TooLong_LeapError) fun a ha => ?_
      refine w_ifE ?_
      walk_at "w"
      refine isH_own T.xe_TooLong (by decide) (.inr ⟨_, _, rfl, hd⟩) rfl ⟨_, rfl, ?_⟩
      refine itBF rfl ?_
      walk_at "w"
      refine isH_own T.xe_TooLong (by decide) (.inr ⟨_, _, rfl, hd⟩) rfl ⟨_, rfl, ?_⟩
      refine itBT rfl ?_
      walk_at "w"
      refine xf_var rfl hd ?_
      walk_at "w"
      exact hq
end X

namespace X
open PySem PySem.Spec PyProof.Rows L2 Lv
variable {P : Program} {w : World} {K : PySem.W.Frag} {mg : Str → Option Value} {base : Heap}
variable [TabA]
/-- the runs that begin with one of the events left -/
theorem flat_take {es : List Ev} {k : Nat} {vs : List Int} {v : Int} {c i : Nat} {r : List Nat} (hv : vs[c]? = some v) (h : ((vs.drop c).flatMap fun v => (allR es k (aft es v)).map (v.toNat :: ·))[i]? = some r) :
    (i < cnt es k (aft es v) ∧ ∃ r', r = v.toNat :: r' ∧ (allR es k (aft es v))[i]? = some r') ∨
    (cnt es k (aft es v) ≤ i ∧ ((vs.drop (c + 1)).flatMap fun v => (allR es k (aft es v)).map (v.toNat :: ·))[i - cnt es k (aft es v)]? = some r) := by
  have hc : c < vs.length := (List.getElem?_eq_some_iff.mp hv).1
  have e1 : vs.drop c = v :: vs.drop (c + 1) := by
    rw [List.drop_eq_getElem_cons hc]
    congr 1
    exact (List.getElem?_eq_some_iff.mp hv).2
  rw [e1, List.flatMap_cons] at h
  have hl : ((allR es k (aft es v)).map (v.toNat :: ·)).length = cnt es k (aft es v) := by rw [List.length_map, allR_len]
  by_cases q : i < cnt es k (aft es v)
  · rw [List.getElem?_append_left (by rw [hl]; exact q), List.getElem?_map] at h
    obtain ⟨r', h1, h2⟩ := Option.map_eq_some_iff.mp h
    exact .inl ⟨q, r', h2.symm, h1⟩
  · rw [List.getElem?_append_right (by rw [hl]; omega), hl] at h
    exact .inr ⟨by omega, h⟩
def spRunAt (K : PySem.W.Frag) : Sp := fun vs H Q E => ∃ (m : Addr) (v u : V) (n : Int) (es : List Ev) (G P : Hp), vs = [.ref m, v, u] ∧ Join G P H ∧ MachK K G m n es ∧ EvB n es ∧ Kd G v ∧ Kd G u ∧
  (inB v 0 100 = false → E (.ref (He.ga K "NoNumber")) none H) ∧
  ∀ k : Nat, v = .int k → k ≤ 100 → (inB u 0 ((cnt es k 0 : Nat) - 1 : Int) = false → ∀ G' H', Ex G G' → Join G' P H' → E (.ref (He.ga K "NoNumber")) none H') ∧
    ∀ (i : Nat) (r : List Nat), u = .int i → (allR es k 0)[i]? = some r → ∀ p G' H', Ex G G' → Join G' P H' → G' p = some (.tup (rV r)) → Q (.ref p) H'
theorem sc_run_at : FnScope ["machine", "many", "number", "ways", "run", "standing", "rest", "left", "event", "goal"] ["machine", "many", "number"] (defScope s_run_at) := ⟨rfl, rfl, rfl, by decide +kernel, rfl, by decide +kernel, by decide +kernel⟩
theorem ok_run_at (T : Txt K mg) {fd_check_number : FuncData} (G_check_number : Dn P w K mg base (L2.CX P w) 3 "check_number" ["thing", "least", "most"] (spCkN K) fd_check_number) {fd_ways_on : FuncData} (G_ways_on : Dn P w K mg base (L2.CX P w) 2 "ways_on" ["machine", "many"] (sp_ways_on K) fd_ways_on) {fd_step_at : FuncData} (G_step_at : Dn P w K mg base (L2.CX P w) 1 "step_at" ["machine", "event"] (sp_step_at K) fd_step_at) : ∃ fd, Dn P w K mg base (L2.CX P w) 5 "run_at" ["machine", "many", "number"] (spRunAt K) fd := by
  obtain ⟨fd, F⟩ := T.d_run_at
  refine ⟨fd, F.ok sc_run_at (fun vs H Q E h => ?_) (fun cdv A outer s H vs Q E hr h => ?_), T.g_run_at, F.kp, F.bindsN fun _ _ _ _ _ _ us hl => match us, hl with | [_, _, _], _ => rfl, Lv.fun_lk F⟩
  · obtain ⟨_, _, _, _, _, _, _, rfl, _⟩ := h
    rfl
  · have hu := hu_of hr
    have hr_check_number : Room 3 _ := hr.mono (by decide)
    have hr_ways_on : Room 2 _ := hr.mono (by decide)
    have hr_step_at : Room 1 _ := hr.mono (by decide)
    refine ⟨_, (pss_cons (ps_expr (pe_call G_check_number.ok hr_check_number rfl G_check_number.mg G_check_number.kp G_check_number.b .nil (passes_call (takes_of rfl rfl rfl rfl) (fun _ _ _ _ h => h)) (pa_cons (pv 1) (pa_cons pe_int (pa_cons (pe_glob (v := .int (100)) rfl T.i_MOST_EVENTS_counts.choose_spec ⟨_, rfl⟩) pa_nil)))))
      (pss_cons (ps_set (i := 3) sc_run_at.nd rfl (Or.inl rfl) (pe_call G_ways_on.ok hr_ways_on rfl G_ways_on.mg G_ways_on.kp G_ways_on.b .nil (passes_call (takes_of rfl rfl rfl rfl) (fun _ _ _ _ h => h)) (pa_cons (pv 0) (pa_cons (pv 1) pa_nil))))
      (pss_cons (ps_expr (pe_call G_check_number.ok hr_check_number rfl G_check_number.mg G_check_number.kp G_check_number.b .nil (passes_call (takes_of rfl rfl rfl rfl) (fun _ _ _ _ h => h)) (pa_cons (pv 2) (pa_cons pe_int (pa_cons (pe_op op_sub (pe_ix ix_list (pe_ix ix_list (pv 3) (pv 1) (fun _ _ => rfl)) pe_int (fun _ _ => rfl)) pe_int) pa_nil)))))
      (pss_cons (ps_set (i := 4) sc_run_at.nd rfl (Or.inl rfl) (pe_tup pa_nil))
      (pss_cons (ps_set (i := 5) sc_run_at.nd rfl (Or.inl rfl) pe_int)
      (pss_cons (ps_set (i := 6) sc_run_at.nd rfl (Or.inl rfl) (pv 2))
      (pss_cons (ps_for (passes_of rfl) rfl (pi_range3 (by rfl) T.n_range (pa_cons (pe_op op_sub (pv 1) pe_int) (pa_cons (pe_un un_neg pe_int) (pa_cons (pe_un un_neg pe_int) pa_nil)))) (pg_name (i := 7) sc_run_at.nd rfl (Or.inl rfl)) (pss_one (ps_for (passes_of rfl) rfl (pi_list (pe_ix ix_list (pe_fld (pv 0) rfl) (pv 5) (fun _ _ => rfl))) (pg_name (i := 8) sc_run_at.nd rfl (Or.inl rfl)) (pss_cons (ps_set (i := 9) sc_run_at.nd rfl (Or.inl rfl) (pe_ix ix_tup (pe_call G_step_at.ok hr_step_at rfl G_step_at.mg G_step_at.kp G_step_at.b .nil (passes_call (takes_of rfl rfl rfl rfl) (fun _ _ _ _ h => h)) (pa_cons (pv 0) (pa_cons (pv 8) pa_nil))) pe_int (fun _ _ => rfl)))
      (pss_cons (ps_if (pt_cmpR op_lt (pv 6) (pe_ix ix_list (pe_ix ix_list (pv 3) (pv 7) (fun _ _ => rfl)) (pv 9) (fun _ _ => rfl)) (nomark _)) (pss_cons (ps_set (i := 4) sc_run_at.nd rfl (Or.inl rfl) (pe_op op_catA (pv 4) (pe_tup (pa_cons (pv 8) pa_nil))))
      (pss_cons (ps_set (i := 5) sc_run_at.nd rfl (Or.inl rfl) (pv 9))
      (pss_one ps_break))) pss_nil)
      (pss_one (ps_aug (i := 6) sc_run_at.nd rfl (.inl rfl) (pe_ix ix_list (pe_ix ix_list (pv 3) (pv 7) (fun _ _ => rfl)) (pv 9) (fun _ _ => rfl)) ip_sub)))))))
      (pss_one (ps_ret (pv 4)))))))))), ?_⟩
    obtain ⟨m, v, u, n, es, G, P0, rfl, j, hM, hB, hv, hu', q0, q1⟩ := h
    have hpos : ∀ e ∈ es, 0 ≤ e.a := fun e he => (hB.2.2.2 e he).2.2.1
    have hn1 := hB.1
    have hel := hB.2.2.1
    walk_at "w"
    refine ⟨v, _, _, G, rfl, j.exG, hv, fun c => ?_, q0⟩
    obtain ⟨hv, h1, h2⟩ := inB_int c
    obtain ⟨k, hk⟩ : ∃ k : Nat, intV v = k := ⟨(intV v).toNat, by omega⟩
    rw [hk] at hv
    subst hv
    have hk100 : (k : Int) ≤ 100 := h2
    obtain ⟨q2, q3⟩ := q1 k rfl (by omega)
    clear q1 q0 c h1 h2 hk hv
    walk_at "w"
    refine ⟨m, k, n, es, G, P0, rfl, j, hM, hB, by omega, fun W ws G1 H1 e1 j1 _ hW hR => ?_⟩
    obtain ⟨a, ha1, ha2⟩ := hR.2 k (by omega)
    walk_at "w"
    refine w_ixL (j1.g _ _ hW) (atI_nat ha1) ?_
    walk_at "w"
    refine w_ixL (j1.g _ _ ha2) (atI_int (Int.le_refl _) (row_at k (Int.le_refl _) (by omega))) ?_
    walk_at "w"
    refine ⟨u, _, _, G1, rfl, j1.exG, hu'.mono e1, fun c => ?_, fun c => q2 c G1 H1 e1 j1⟩
    obtain ⟨hu2, h1, h3⟩ := inB_int c
    obtain ⟨i, hi⟩ : ∃ i : Nat, intV u = i := ⟨(intV u).toNat, by omega⟩
    rw [hi] at hu2
    subst hu2
    have h3' : (i : Int) ≤ ((cnt es k 0 : Nat) : Int) - 1 := h3
    have hlt : i < (allR es k 0).length := by rw [allR_len]; omega
    have q4 := q3 i _ rfl (List.getElem?_eq_getElem hlt)
    have hgo : (allR es k 0)[i]? = some (allR es k 0)[i] := List.getElem?_eq_getElem hlt
    generalize (allR es k 0)[i] = tgt at q4 hgo
    clear q3 q2 c h1 hi h3 hu'
    walk_at "w"
    refine aTup.go j1 (by show 0 ≤ 100000; decide) fun r0 G2 H2 hr0 e2 j2 hR0 => ?_
    have hW2 := e2 _ _ hW
    have hR2 := hR.mono e2
    have hM2 := hM.mono (e1.trans e2)
    clear hW hR hM ha1 ha2 j j1 hlt h3'
    walk_at "w"
    refine aForR3.down (n := k) (by omega) (by omega) (fun i' G' P' σ' => P' = P0 ∧ Ex G2 G' ∧ ∃ (rs r' : List Nat) (st rest : Nat) (ra : Addr) (s7 s8 s9 : Option V), σ' = [some (.ref m), some (.int k), some (.int i), some (.ref W), some (.ref ra), some (.int st), some (.int rest), s7, s8, s9] ∧ G' ra = some (.tup (rV rs)) ∧ rs.length = i' ∧ (st : Int) < n ∧ (allR es (k - i') st)[rest]? = some r' ∧ tgt = rs ++ r') j2 ⟨rfl, Ex.refl _, [], tgt, 0, i, r0, none, none, none, rfl, hR0, rfl, by omega, hgo, rfl⟩ ?_ ?_
    · rintro i' G3 P3 H3 σ' hi' j3 ⟨rfl, e3, rs, r', st, rest, ra, s7, s8, s9, rfl, hra, hrl, hst, hat, htg⟩
      obtain ⟨L, hL⟩ : ∃ L : Nat, k - i' = L + 1 := ⟨k - i' - 1, by omega⟩
      have hLi : (k : Int) - 1 - i' = (L : Int) := by omega
      rw [hL] at hat
      rw [hLi]
      have hM3 := hM2.mono e3
      have hW3 := e3 _ _ hW2
      obtain ⟨la, l1, l2⟩ := (hR2.mono e3).2 L (by omega)
      clear j2 hR0
      walk_at "w"
      refine aFld.nk j3 hM3 fun ko ks hko hkl hkk => ?_
      obtain ⟨ka, k1, k2⟩ := hkk st (by omega)
      walk_at "w"
      refine w_ixL (j3.g _ _ hko) (atI_nat k1) ?_
      walk_at "w"
      refine aForL.go (fun c G' P' σ' => P' = P3 ∧ G' = G3 ∧ ∃ (rest' : Nat) (s8 s9 : Option V), σ' = [some (.ref m), some (.int k), some (.int i), some (.ref W), some (.ref ra), some (.int st), some (.int rest'), some (.int L), s8, s9] ∧ (((outs 0 es st).drop c).flatMap fun v => (allR es L (aft es v)).map (v.toNat :: ·))[rest']? = some r') j3 k2 ⟨rfl, rfl, rest, _, _, rfl, hat⟩ (fun c G' P' σ' h => by rw [h.2.1]; exact k2) ?_ ?_
      · rintro c x G4 P4 H4 σ' hx j4 ⟨rfl, rfl, rest', s8, s9, rfl, hc⟩
        obtain ⟨v, hv, rfl⟩ := int_at hx
        obtain ⟨i2, e, ev, he, heb⟩ := outs_mem es 0 (List.mem_of_getElem? hv)
        rw [Nat.zero_add] at ev
        subst ev
        obtain ⟨b1, b2, b3, b4, _⟩ := hB.2.2.2 e (List.mem_of_getElem? he)
        have haf : aft es (i2 : Int) = e.a.toNat := aft_at he
        walk_at "w"
        refine ⟨m, i2, n, es, e, rfl, hM3.mono j4.exG, he, fun te hte => ?_⟩
        walk_at "w"
        refine w_ixL (j4.g _ _ hW3) (atI_nat l1) ?_
        walk_at "w"
        refine w_ixL (j4.g _ _ l2) (atI_int b3 (row_at L b3 b4)) ?_
        walk_at "w"
        rcases flat_take hv hc with ⟨hlt, r2, h1, h2⟩ | ⟨hge, h2⟩
        · rw [haf] at hlt h2
          refine itT (by omega) ?_
          walk_at "w"
          refine aTup.go j4 (by show 1 ≤ 100000; decide) fun t1 G5 H5 _ e5 j5 ht1 => ?_
          walk_at "w"
          refine catA_out j5 (e5 _ _ hra) ht1 (by simp [rV]; omega) fun d G6 H6 e6 j6 hd6 => ?_
          walk_at "w"
          refine ⟨G6, _, j6, rfl, (e3.trans e5).trans e6, rs ++ [i2], r2, e.a.toNat, rest', d, some (.int (L : Int)), some (.int (i2 : Int)), some (.int e.a), ?_, ?_, by simp; omega, by omega, ?_, ?_⟩
          · rw [show ((e.a.toNat : Nat) : Int) = e.a by omega]; rfl
          · rw [hd6]; simp [rV]
          · rw [show k - (i' + 1) = L by omega]; exact h2
          · rw [htg, h1]; simp
        · rw [haf] at hge h2
          refine itF (by omega) ?_
          walk_at "w"
          refine w_ixL (j4.g _ _ hW3) (atI_nat l1) ?_
          walk_at "w"
          refine w_ixL (j4.g _ _ l2) (atI_int b3 (row_at L b3 b4)) ?_
          walk_at "w"
          exact ⟨G4, _, j4, rfl, rfl, rest' - cnt es L e.a.toNat, _, _, by rw [show (((rest' - cnt es L e.a.toNat : Nat)) : Int) = (rest' : Int) - (cnt es L e.a.toNat : Nat) by omega]; rfl, h2⟩
      · rintro G4 P4 H4 σ' j4 ⟨rfl, rfl, rest', s8, s9, rfl, hc⟩
        rw [List.length_map, List.drop_length] at hc
        simp at hc
    · rintro G3 P3 H3 σ' j3 ⟨rfl, e3, rs, r', st, rest, ra, s7, s8, s9, rfl, hra, hrl, hst, hat, htg⟩
      rw [Nat.sub_self] at hat
      obtain ⟨h1, h2⟩ := List.getElem?_eq_some_iff.mp hat
      have h1 : rest < 1 := h1
      obtain rfl : rest = 0 := by omega
      have h2 : [] = r' := h2
      subst h2
      rw [List.append_nil] at htg
      subst htg
      walk_at "w"
      exact q4 ra G3 H3 ((e1.trans e2).trans e3) j3 hra
def spRunNo (K : PySem.W.Frag) : Sp := fun vs H Q E => ∃ (m p : Addr) (n : Int) (es : List Ev) (rs : List Nat) (G P : Hp), vs = [.ref m, .ref p] ∧ Join G P H ∧ MachK K G m n es ∧ EvB n es ∧ G p = some (.tup (rV rs)) ∧ rs.length ≤ 1000 ∧ IsRun es rs ∧
  (100 < rs.length → ∀ d G' H', Ex G G' → Join G' P H' → G' d = some (.xd [("most", .int 100)]) → E (.ref (He.ga K "TooLong")) (some d) H') ∧
  (rs.length ≤ 100 → ∀ G' H', Ex G G' → Join G' P H' → Q (.int (idx es 0 rs)) H')
theorem sc_run_number : FnScope ["machine", "run", "ways", "number", "place", "event", "left", "other"] ["machine", "run"] (defScope s_run_number) := ⟨rfl, rfl, rfl, by decide +kernel, rfl, by decide +kernel, by decide +kernel⟩
theorem ok_run_number (T : Txt K mg) (HP : Lv.XpOk P "/claim/cut.py") {fd_check_run : FuncData} (G_check_run : Dn P w K mg base (L2.CX P w) 5 "check_run" ["machine", "thing"] (sp_check_run K) fd_check_run) {fd_ways_on : FuncData} (G_ways_on : Dn P w K mg base (L2.CX P w) 2 "ways_on" ["machine", "many"] (sp_ways_on K) fd_ways_on) {fd_step_at : FuncData} (G_step_at : Dn P w K mg base (L2.CX P w) 1 "step_at" ["machine", "event"] (sp_step_at K) fd_step_at) : ∃ fd, Dn P w K mg base (L2.CX P w) 6 "run_number" ["machine", "run"] (spRunNo K) fd := by
  obtain ⟨fd, F⟩ := T.d_run_number
  refine ⟨fd, F.ok sc_run_number (fun vs H Q E h => ?_) (fun cdv A outer s H vs Q E hr h => ?_), T.g_run_number, F.kp, F.bindsN fun _ _ _ _ _ _ us hl => match us, hl with | [_, _], _ => rfl, Lv.fun_lk F⟩
  · obtain ⟨_, _, _, _, _, _, _, rfl, _⟩ := h
    rfl
  · have hu := hu_of hr
    have hr_check_run : Room 5 _ := hr.mono (by decide)
    have hr_ways_on : Room 2 _ := hr.mono (by decide)
    have hr_step_at : Room 1 _ := hr.mono (by decide)
    have hr_xi : Room 2 _ := hr.mono (by decide)
    refine ⟨_, (pss_cons (ps_expr (pe_call G_check_run.ok hr_check_run rfl G_check_run.mg G_check_run.kp G_check_run.b .nil (passes_call (takes_of rfl rfl rfl rfl) (fun _ _ _ _ h => h)) (pa_cons (pv 0) (pa_cons (pv 1) pa_nil))))
      (pss_cons (ps_if (pt_cmpR op_gt (pe_callB call_len (by rfl) T.n_len PySem.boot_len (pa_cons (pv 1) pa_nil)) (pe_glob (v := .int (100)) rfl T.i_MOST_EVENTS_counts.choose_spec ⟨_, rfl⟩) (nomark _)) (pss_one (ps_raise rfl (takes_of rfl rfl rfl rfl) (Lv.pmk_xi (Lv.xi_ok T.xi_TooLong) HP Lv.bx_most hr_xi (by rfl) T.g_TooLong (pe_glob (v := .int (100)) rfl T.i_MOST_EVENTS_counts.choose_spec ⟨_, rfl⟩)))) pss_nil)
      (pss_cons (ps_set (i := 2) sc_run_number.nd rfl (Or.inl rfl) (pe_call G_ways_on.ok hr_ways_on rfl G_ways_on.mg G_ways_on.kp G_ways_on.b .nil (passes_call (takes_of rfl rfl rfl rfl) (fun _ _ _ _ h => h)) (pa_cons (pv 0) (pa_cons (pe_callB call_len (by rfl) T.n_len PySem.boot_len (pa_cons (pv 1) pa_nil)) pa_nil))))
      (pss_cons (ps_set (i := 3) sc_run_number.nd rfl (Or.inl rfl) pe_int)
      (pss_cons (ps_for (passes_of rfl) rfl (pi_enumT (by rfl) T.n_enumerate (pa_cons (pv 1) pa_nil)) (pg_tup rfl (pgs_cons (pg_name (i := 4) sc_run_number.nd rfl (Or.inl rfl)) (pgs_cons (pg_name (i := 5) sc_run_number.nd rfl (Or.inl rfl)) pgs_nil))) (pss_cons (ps_set (i := 6) sc_run_number.nd rfl (Or.inl rfl) (pe_op op_sub (pe_op op_sub (pe_callB call_len (by rfl) T.n_len PySem.boot_len (pa_cons (pv 1) pa_nil)) (pv 4)) pe_int))
      (pss_one (ps_for (passes_of rfl) rfl (pi_list (pe_ix ix_list (pe_fld (pv 0) rfl) (pe_ix ix_tup (pe_call G_step_at.ok hr_step_at rfl G_step_at.mg G_step_at.kp G_step_at.b .nil (passes_call (takes_of rfl rfl rfl rfl) (fun _ _ _ _ h => h)) (pa_cons (pv 0) (pa_cons (pv 5) pa_nil))) pe_int (fun _ _ => rfl)) (fun _ _ => rfl))) (pg_name (i := 7) sc_run_number.nd rfl (Or.inl rfl)) (pss_one (ps_if (pt_cmpR op_lt (pv 7) (pv 5) (nomark _)) (pss_one (ps_aug (i := 3) sc_run_number.nd rfl (.inl rfl) (pe_ix ix_list (pe_ix ix_list (pv 2) (pv 6) (fun _ _ => rfl)) (pe_ix ix_tup (pe_call G_step_at.ok hr_step_at rfl G_step_at.mg G_step_at.kp G_step_at.b .nil (passes_call (takes_of rfl rfl rfl rfl) (fun _ _ _ _ h => h)) (pa_cons (pv 0) (pa_cons (pv 7) pa_nil))) pe_int (fun _ _ => rfl)) (fun _ _ => rfl)) ip_add)) pss_nil))))))
      (pss_one (ps_ret (pv 3)))))))), ?_⟩
    obtain ⟨m, p, n, es, rs, G, P0, rfl, j, hM, hB, hp, hl, hr, qe, q⟩ := h
    have hpos : ∀ e ∈ es, 0 ≤ e.a := fun e he => (hB.2.2.2 e he).2.2.1
    have hn1 := hB.1
    have hel := hB.2.2.1
    walk_at "w"
    refine ⟨m, p, n, es, rs, G, P0, rfl, j, hM, hp, by omega, hr, fun G1 H1 e1 j1 => ?_⟩
    have hlv : (rV rs).length = rs.length := by simp [rV]
    walk_at "w"
    refine lenV_go j1 (.inr (e1 _ _ hp)) ?_
    walk_at "w"
    rw [hlv]
    by_cases c : 100 < rs.length
    · refine itT (by omega) ?_
      walk_at "w"
      exact fun d hd => qe c d _ _ (e1.trans (Ex.new (j1.ng hd))) (j1.newG hd) upd_same
    refine itF (by omega) ?_
    walk_at "w"
    refine lenV_go j1 (.inr (e1 _ _ hp)) ?_
    rw [hlv]
    walk_at "w"
    refine ⟨m, rs.length, n, es, G1, P0, rfl, j1, hM.mono e1, hB, by omega, fun W ws G2 H2 e2 j2 _ hW hR => ?_⟩
    have e12 := e1.trans e2
    have hp2 := e12 _ _ hp
    have hM2 := hM.mono e12
    obtain ⟨z, hz⟩ := hr
    walk_at "w"
    refine aForE.go (xs := rV rs) (fun i' G' P' σ' => P' = P0 ∧ Ex G2 G' ∧ ∃ (y acc : Nat) (s4 s5 s6 s7 : Option V), σ' = [some (.ref m), some (.ref p), some (.ref W), some (.int acc), s4, s5, s6, s7] ∧ leads es 0 (rs.take i') = some (y : Int) ∧ idx es 0 rs = acc + idx es y (rs.drop i')) j2 hp2 ⟨rfl, Ex.refl _, 0, 0, _, _, _, _, rfl, by simp [leads], by simp⟩ (fun i' G' P' σ' h => h.2.1 _ _ hp2) ?_ ?_
    · rintro i' x T0 Gb G3 P3 H3 σ' hx j3 hT0 eb ⟨rfl, e3, y, acc, s4, s5, s6, s7, rfl, hy, hidx⟩
      obtain ⟨k, hk, rfl⟩ := rV_at hx
      obtain ⟨y', e, g1, he, hb, g2⟩ := leads_at hz hk
      rw [hy] at g1
      injection g1 with g1
      subst g1
      obtain ⟨b1, b2, b3, b4, _⟩ := hB.2.2.2 e (List.mem_of_getElem? he)
      have hi' : i' < rs.length := (List.getElem?_eq_some_iff.mp hk).1
      obtain ⟨L, hL⟩ : ∃ L : Nat, rs.length = L + i' + 1 := ⟨rs.length - i' - 1, by omega⟩
      have e4 := e3.trans eb
      have hp3 := e4 _ _ hp2
      have hM3 := hM2.mono e4
      have hW3 := e4 _ _ hW
      obtain ⟨la, l1, l2⟩ := (hR.mono e4).2 L (by omega)
      obtain ⟨yn, hyn⟩ : ∃ yn : Nat, y = yn := ⟨_, rfl⟩
      have hdr : rs.drop i' = k :: rs.drop (i' + 1) := by
        rw [List.drop_eq_getElem_cons hi']
        congr 1
        exact (List.getElem?_eq_some_iff.mp hk).2
      have hdl : (rs.drop (i' + 1)).length = L := by rw [List.length_drop]; omega
      rw [hdr] at hidx
      have hak : aft es (k : Int) = e.a.toNat := aft_at he
      have hix : idx es 0 rs = acc + ((((outs 0 es y).filter fun u => decide (u < (k : Int))).map fun u => cnt es L (aft es u)).sum + idx es e.a.toNat (rs.drop (i' + 1))) := by
        rw [hidx]
        show acc + ((((outs 0 es y).filter fun u => decide (u < (k : Int))).map fun u => cnt es (rs.drop (i' + 1)).length (aft es u)).sum + idx es (aft es (k : Int)) (rs.drop (i' + 1))) = _
        rw [hdl, hak]
      have hyN : (y : Int) < n := by omega
      walk_at "w"
      rw [hlv, show (rs.length : Int) - i' - 1 = (L : Int) by omega]
      refine aFld.nk j3 hM3 fun ko ks hko hkl hkk => ?_
      obtain ⟨ka, k1, k2⟩ := hkk y (by omega)
      walk_at "w"
      refine ⟨m, k, n, es, e, rfl, hM3.mono j3.exG, he, fun te hte => ?_⟩
      walk_at "w"
      rw [hb]
      refine w_ixL (j3.g _ _ hko) (atI_nat k1) ?_
      walk_at "w"
      refine aForL.go (fun c G' P' σ' => P' = P3 ∧ G' = G3 ∧ ∃ s7 : Option V, σ' = [some (.ref m), some (.ref p), some (.ref W), some (.int ((acc + ((((outs 0 es y).take c).filter fun u => decide (u < (k : Int))).map fun u => cnt es L (aft es u)).sum : Nat))), some (.int i'), some (.int k), some (.int L), s7]) j3 k2 ⟨rfl, rfl, _, rfl⟩ (fun c G' P' σ' h => by rw [h.2.1]; exact k2) ?_ ?_
      · rintro c x G4 P4 H4 σ' hx j4 ⟨rfl, rfl, s7, rfl⟩
        obtain ⟨v, hv, rfl⟩ := int_at hx
        obtain ⟨i2, e2', ev, he2, heb⟩ := outs_mem es 0 (List.mem_of_getElem? hv)
        rw [Nat.zero_add] at ev
        subst ev
        obtain ⟨d1, d2, d3, d4, _⟩ := hB.2.2.2 e2' (List.mem_of_getElem? he2)
        have haf : aft es (i2 : Int) = e2'.a.toNat := aft_at he2
        have hmore := take_more hv
        walk_at "w"
        by_cases c2 : (i2 : Int) < k
        · refine itT c2 ?_
          walk_at "w"
          refine w_ixL (j4.g _ _ hW3) (atI_nat l1) ?_
          walk_at "w"
          refine ⟨m, i2, n, es, e2', rfl, hM3.mono j4.exG, he2, fun te2 hte2 => ?_⟩
          walk_at "w"
          refine w_ixL (j4.g _ _ l2) (atI_int d3 (row_at L d3 d4)) ?_
          walk_at "w"
          refine ⟨G4, _, j4, rfl, rfl, some (.int i2), ?_⟩
          rw [hmore, List.filter_append, List.map_append, List.sum_append, List.filter_cons, if_pos (by simpa using c2)]
          simp [haf]
          omega
        · refine itF c2 ?_
          walk_at "w"
          refine ⟨G4, _, j4, rfl, rfl, some (.int i2), ?_⟩
          rw [hmore, List.filter_append, List.map_append, List.sum_append, List.filter_cons, if_neg (by simpa using c2)]
          simp
      · rintro G4 P4 H4 σ' j4 ⟨rfl, rfl, s7, rfl⟩
        rw [List.length_map, List.take_length]
        refine ⟨G4, _, j4, rfl, e4, e.a.toNat, _, _, _, _, _, rfl, ?_, by rw [hix]; omega⟩
        rw [g2, show ((e.a.toNat : Nat) : Int) = e.a by omega]
    · rintro G3 P3 H3 σ' j3 ⟨rfl, e3, y, acc, s4, s5, s6, s7, rfl, hy, hidx⟩
      rw [hlv, List.drop_length] at hidx
      walk_at "w"
      rw [show acc = idx es 0 rs by rw [hidx]; rfl]
      exact q (by omega) G3 H3 (e12.trans e3) j3
def spManyX (K : PySem.W.Frag) : Sp := fun vs H Q E => ∃ (m : Addr) (v : V) (n : Int) (es : List Ev) (G P : Hp), vs = [.ref m, v] ∧ Join G P H ∧ MachK K G m n es ∧ EvB n es ∧ Kd G v ∧
  (inB v 0 100 = false → E (.ref (He.ga K "NoNumber")) none H) ∧ (∀ k : Nat, v = .int k → k ≤ 100 → ∀ G' H', Ex G G' → Join G' P H' → Q (.int ((cnt es k 0 : Nat) : Int)) H')
theorem okX_many_runs (T : Txt K mg) {fd_check_number : FuncData} (G_check_number : Dn P w K mg base (L2.CX P w) 3 "check_number" ["thing", "least", "most"] (spCkN K) fd_check_number) {fd_ways_on : FuncData} (G_ways_on : Dn P w K mg base (L2.CX P w) 2 "ways_on" ["machine", "many"] (sp_ways_on K) fd_ways_on) : ∃ fd, Dn P w K mg base (L2.CX P w) 5 "many_runs" ["machine", "many"] (spManyX K) fd := by
  obtain ⟨fd, F⟩ := T.d_many_runs
  refine ⟨fd, F.ok sc_many_runs (fun vs H Q E h => ?_) (fun cdv A outer s H vs Q E hr h => ?_), T.g_many_runs, F.kp, F.bindsN fun _ _ _ _ _ _ us hl => match us, hl with | [_, _], _ => rfl, Lv.fun_lk F⟩
  · obtain ⟨_, _, _, _, _, _, rfl, _⟩ := h
    rfl
  · have hu := hu_of hr
    have hr_check_number : Room 3 _ := hr.mono (by decide)
    have hr_ways_on : Room 2 _ := hr.mono (by decide)
    refine ⟨_, (pss_cons (ps_expr (pe_call G_check_number.ok hr_check_number rfl G_check_number.mg G_check_number.kp G_check_number.b .nil (passes_call (takes_of rfl rfl rfl rfl) (fun _ _ _ _ h => h)) (pa_cons (pv 1) (pa_cons pe_int (pa_cons (pe_glob (v := .int (100)) rfl T.i_MOST_EVENTS_counts.choose_spec ⟨_, rfl⟩) pa_nil)))))
      (pss_one (ps_ret (pe_ix ix_list (pe_ix ix_list (pe_call G_ways_on.ok hr_ways_on rfl G_ways_on.mg G_ways_on.kp G_ways_on.b .nil (passes_call (takes_of rfl rfl rfl rfl) (fun _ _ _ _ h => h)) (pa_cons (pv 0) (pa_cons (pv 1) pa_nil))) (pv 1) (fun _ _ => rfl)) pe_int (fun _ _ => rfl))))), ?_⟩
    obtain ⟨m, v, n, es, G, P0, rfl, j, hM, hB, hv, q0, q⟩ := h
    walk_at "w"
    refine ⟨v, _, _, G, rfl, j.exG, hv, fun c => ?_, q0⟩
    obtain ⟨hv, h1, h2⟩ := inB_int c
    obtain ⟨k, hk⟩ : ∃ k : Nat, intV v = k := ⟨(intV v).toNat, by omega⟩
    rw [hk] at hv
    subst hv
    have hk100 : (k : Int) ≤ 100 := h2
    clear h1 h2 hk
    walk_at "w"
    refine ⟨m, k, n, es, G, P0, rfl, j, hM, hB, by omega, fun p ws G' H' e' j' hp hGp hR => ?_⟩
    obtain ⟨a, h1, h2⟩ := hR.2 k (by omega)
    have hn1 := hB.1
    walk_at "w"
    refine w_ixL (j'.g _ _ hGp) (atI_nat h1) ?_
    walk_at "w"
    refine w_ixL (j'.g _ _ h2) (atI_int (Int.le_refl _) (row_at k (Int.le_refl _) (by omega))) ?_
    exact q k rfl (by omega) G' H' e' j'
end X

namespace X
open PySem PySem.Spec PyProof.Rows L2 Lv
variable {P : Program} {w : World} {K : PySem.W.Frag} {mg : Str → Option Value} {base : Heap}
variable [TabA]
theorem inN {a lo hi : Int} (h0 : lo ≤ a) (h1 : a ≤ hi) (h : inB (V.int a) lo hi = false) : False := by
  rw [show inB (V.int a) lo hi = true from decide_eq_true ⟨h0, h1⟩] at h
  cases h
theorem rV_iN (rs : List Nat) : rV rs = iV (lN rs) := by simp [rV, iV, lN]
theorem eqD_100 {H : Hp} {Q : VK} (q : Q (.bl true) H) : rEqD K (.int 100) (.int 100) H Q := ⟨.int 100, .int 100, .int 100, .int 100, by simp [SeqAt.shaped, PyData.canLay0, PyData.depth], by simp [SeqAt.shaped, PyData.canLay0, PyData.depth], by simp only [PyData.eqv]; exact q⟩
theorem eqD_nn {H : Hp} {Q : VK} (q : Q (.bl true) H) : rEqD K (.str "number") (.str "number") H Q := ⟨.str "number", .str "number", .str "number", .str "number", by simp [SeqAt.shaped, PyData.canLay0, PyData.depth]; decide +kernel, by simp [SeqAt.shaped, PyData.canLay0, PyData.depth]; decide +kernel, by simp only [PyData.eqv]; exact q⟩
theorem neD_nn {H : Hp} {Q : VK} (q : Q (.bl false) H) : rNeD K (.str "number") (.str "number") H Q := ⟨.str "number", .str "number", .str "number", .str "number", by simp [SeqAt.shaped, PyData.canLay0, PyData.depth]; decide +kernel, by simp [SeqAt.shaped, PyData.canLay0, PyData.depth]; decide +kernel, by simp only [PyData.eqv]; exact q⟩
def spLong (K : PySem.W.Frag) : Sp := fun vs H Q _ => ∃ (l p m : Addr) (n : Int) (es : List Ev) (G P : Hp), vs = [.ref l, .ref p, .ref m] ∧ Join G P H ∧ Pot P l ∧ PartsAt G p n es ∧ es.length ≤ 30 ∧ MachK K G m n es ∧ EvB n es ∧ ∀ (G' P' H' : Hp), Ex G G' → Join G' P' H' → Pot P' l → Q (.bl true) H'
theorem sc_l_long_right : FnScope ["_law_pot_here", "_law_parts_here", "_law_machine_here", "_law_run", "_law_number", "_law_every"] ["_law_pot_here", "_law_parts_here", "_law_machine_here"] (defScope s_l_long_right) := ⟨rfl, rfl, rfl, by decide +kernel, rfl, by decide +kernel, by decide +kernel⟩
theorem ok_l_long_right (T : Txt K mg) (hmT : ((He.cT K ("_law_long_right", none)).2, ("_law_long_right.<locals>.<lambda>" : Str)) ∈ TabA.T) (huT : ∀ p ∈ TabA.T, p.1 = (He.cT K ("_law_long_right", none)).2 → p.2 = "_law_long_right.<locals>.<lambda>") (TB : LamX.TabB base mg (He.codeOf K ("_law_long_right", none)) ((He.cT K ("_law_long_right", none)).2)) {fd_l_draw : FuncData} (G_l_draw : Dn P w K mg base (L2.CX P w) 1 "_law_draw" ["_law_pot_here", "_law_many"] spDraw fd_l_draw) {fd_l_walk : FuncData} (G_l_walk : Dn P w K mg base (L2.CX P w) 2 "_law_walk" ["_law_pot_here", "_law_parts_here", "_law_many"] spWalk fd_l_walk) {fd_run_number : FuncData} (G_run_number : Dn P w K mg base (L2.CX P w) 6 "run_number" ["machine", "run"] (spRunNo K) fd_run_number) {fd_many_runs : FuncData} (G_many_runs : Dn P w K mg base (L2.CX P w) 5 "many_runs" ["machine", "many"] (spManyX K) fd_many_runs) {fd_l_is_int : FuncData} (G_l_is_int : Dn P w K mg base (L2.CX P w) 1 "_law_is_int" ["_law_thing", "_law_least", "_law_most"] sp_l_is_int fd_l_is_int) {fd_run_at : FuncData} (G_run_at : Dn P w K mg base (L2.CX P w) 5 "run_at" ["machine", "many", "number"] (spRunAt K) fd_run_at) (L_l_refused : Lv.DnL P w K mg base 9 "_law_refused" (TTref K)) : ∃ fd, Dn P w K mg base (L2.CX P w) 11 "_law_long_right" ["_law_pot_here", "_law_parts_here", "_law_machine_here"] (spLong K) fd := by
  obtain ⟨fd, F⟩ := T.d_l_long_right
  refine ⟨fd, Lv.FnOkP.plain (Lv.okP (at_ := ("_law_long_right", none)) F sc_l_long_right (fun vs H Q E h => ?_) (fun cdv A outer s H vs Q E hcd hr _ h => ?_)), T.g_l_long_right, F.kp, F.bindsN fun _ _ _ _ _ _ us hl => match us, hl with | [_, _, _], _ => rfl, Lv.fun_lk F⟩
  · obtain ⟨_, _, _, _, _, _, _, rfl, _⟩ := h
    rfl
  · have hu := hu_of hr
    subst hcd
    have hr_l_draw : Room 1 _ := hr.mono (by decide)
    have hr_l_walk : Room 2 _ := hr.mono (by decide)
    have hr_run_number : Room 6 _ := hr.mono (by decide)
    have hr_many_runs : Room 5 _ := hr.mono (by decide)
    have hr_l_is_int : Room 1 _ := hr.mono (by decide)
    have hr_run_at : Room 5 _ := hr.mono (by decide)
    have hr_lam : Room 10 _ := hr.mono (by decide)
    refine ⟨_, PSs.nox (pss_cons (ps_set (i := 3) sc_l_long_right.nd rfl (Or.inr rfl) (pe_call G_l_walk.ok hr_l_walk rfl G_l_walk.mg G_l_walk.kp G_l_walk.b .nil passL (pa_cons (pv 0) (pa_cons (pv 1) (pa_cons (pe_ix ix_list (pe_lst (pa_cons pe_int (pa_cons pe_int (pa_cons pe_int (pa_cons pe_int pa_nil))))) (pe_call G_l_draw.ok hr_l_draw rfl G_l_draw.mg G_l_draw.kp G_l_draw.b .nil passL (pa_cons (pv 0) (pa_cons pe_int pa_nil))) (fun _ _ => rfl)) pa_nil)))))
      (pss_cons (ps_if (pt_cmpR op_gt (pe_callB call_len (by rfl) T.n_len PySem.boot_len (pa_cons (pv 3) pa_nil)) pe_int (nomark _)) (pss_one (ps_ret (pe_cmpR (op_eqD hr.units) (Lv.pe_lam (k := 8) L_l_refused rfl TB rfl hmT huT hr_lam (LamX.lamS_by (show LamX.lamSB (defScope s_l_long_right) _ = true from by decide +kernel)) rfl (fun _ _ _ _ _ => rfl) (fun _ _ _ _ _ _ _ hrl => (pe_call G_run_number.ok (hrl.mono (by decide)) rfl G_run_number.mg G_run_number.kp G_run_number.b .nil (passes_call (takes_of rfl rfl rfl rfl) (fun _ _ _ _ h => h)) (pa_cons (pv 2) (pa_cons (pv 3) pa_nil))))) pe_int (nomark _)))) pss_nil)
      (pss_cons (ps_set (i := 4) sc_l_long_right.nd rfl (Or.inl rfl) (pe_call G_run_number.ok hr_run_number rfl G_run_number.mg G_run_number.kp G_run_number.b .nil passL (pa_cons (pv 2) (pa_cons (pv 3) pa_nil))))
      (pss_cons (ps_set (i := 5) sc_l_long_right.nd rfl (Or.inr rfl) (pe_call G_many_runs.ok hr_many_runs rfl G_many_runs.mg G_many_runs.kp G_many_runs.b .nil passL (pa_cons (pv 2) (pa_cons (pe_callB call_len (by rfl) T.n_len PySem.boot_len (pa_cons (pv 3) pa_nil)) pa_nil))))
      (pss_cons (ps_if (PW.pt (pw_or (pt_not (pt_val (pe_call G_l_is_int.ok hr_l_is_int rfl G_l_is_int.mg G_l_is_int.kp G_l_is_int.b .nil passL (pa_cons (pv 4) (pa_cons pe_int (pa_cons (pe_op op_sub (pv 5) pe_int) pa_nil)))))) (pw_or1 (pt_cmpR (op_neD hr.units) (pe_call G_run_at.ok hr_run_at rfl G_run_at.mg G_run_at.kp G_run_at.b .nil passL (pa_cons (pv 2) (pa_cons (pe_callB call_len (by rfl) T.n_len PySem.boot_len (pa_cons (pv 3) pa_nil)) (pa_cons (pv 4) pa_nil)))) (pv 3) (nomark _))))) (pss_one (ps_ret pe_bl)) pss_nil)
      (Evl.pss_cut (ps_if (PW.pt (pw_and (pt_cmpR op_lt (pe_op op_add (pv 4) pe_int) (pv 5) (nomark _)) (pw_and1 (pt_not (pt_cmpR (Lv.op_ltTK (K := K) rfl hr.units) (pv 3) (pe_call G_run_at.ok hr_run_at rfl G_run_at.mg G_run_at.kp G_run_at.b .nil passL (pa_cons (pv 2) (pa_cons (pe_callB call_len (by rfl) T.n_len PySem.boot_len (pa_cons (pv 3) pa_nil)) (pa_cons (pe_op op_add (pv 4) pe_int) pa_nil)))) (nomark _)))))) (pss_one (ps_ret pe_bl)) pss_nil)
      (Evl.pss_cut (ps_if (PW.pt (pw_and (pt_cmpR op_gt (pv 4) pe_int (nomark _)) (pw_and1 (pt_not (pt_cmpR (Lv.op_ltTK (K := K) rfl hr.units) (pe_call G_run_at.ok hr_run_at rfl G_run_at.mg G_run_at.kp G_run_at.b .nil passL (pa_cons (pv 2) (pa_cons (pe_callB call_len (by rfl) T.n_len PySem.boot_len (pa_cons (pv 3) pa_nil)) (pa_cons (pe_op op_sub (pv 4) pe_int) pa_nil)))) (pv 3) (nomark _)))))) (pss_one (ps_ret pe_bl)) pss_nil)
      (pss_one (ps_ret (pe_cmpR (op_eqD hr.units) (Lv.pe_lam (k := 8) L_l_refused rfl TB rfl hmT huT hr_lam (LamX.lamS_by (show LamX.lamSB (defScope s_l_long_right) _ = true from by decide +kernel)) rfl (fun _ _ _ _ _ => rfl) (fun _ _ _ _ _ _ _ hrl => (pe_call G_run_at.ok (hrl.mono (by decide)) rfl G_run_at.mg G_run_at.kp G_run_at.b .nil (passes_call (takes_of rfl rfl rfl rfl) (fun _ _ _ _ h => h)) (pa_cons (pv 2) (pa_cons (pe_callB (call_lenK (K := K) rfl) (by rfl) T.n_len PySem.boot_len (pa_cons (pv 3) pa_nil)) (pa_cons (pv 5) pa_nil)))))) pe_str (nomark _))))))))))), ?_⟩
    obtain ⟨l, p, m, n, es, G, P0, rfl, j, hP, hpt, hl, hM, hB, q⟩ := h
    have hpos : ∀ e ∈ es, 0 ≤ e.a := fun e he => (hB.2.2.2 e he).2.2.1
    walk_at "w"
    refine aLst.go j (by show 4 ≤ 100000; decide) fun a0 G1 H1 _ e1 j1 ha0 => ?_
    walk_at "w"
    refine ⟨l, 4, G1, P0, rfl, j1, hP, by decide, by decide, fun d P2 H2 d0 d1 j2 hP2 => ?_⟩
    walk_at "w"
    obtain ⟨M, hM0, hM1⟩ : ∃ M : Nat, atI [V.int 100, V.int 60, V.int 20, V.int 101] d = some (.int M) ∧ M ≤ 101 := by
      have : d = 0 ∨ d = 1 ∨ d = 2 ∨ d = 3 := by omega
      rcases this with rfl | rfl | rfl | rfl
      · exact ⟨100, rfl, by decide⟩
      · exact ⟨60, rfl, by decide⟩
      · exact ⟨20, rfl, by decide⟩
      · exact ⟨101, rfl, by decide⟩
    refine w_ixL (j2.g _ _ ha0) hM0 ?_
    walk_at "w"
    refine ⟨l, p, M, n, es, G1, P2, rfl, j2, hP2, hpt.mono e1, by omega, hpos, by omega, fun r rs G3 P3 H3 e3 j3 hP3 hr hrl hrun _ => ?_⟩
    have e13 := e1.trans e3
    have hM3 := hM.mono e13
    have hlv : (rV rs).length = rs.length := by simp [rV]
    clear hM0 d0 d1 j j1 j2 hP hP2 ha0 e1 e3 hpt
    walk_at "w"
    rw [hlv]
    by_cases c : 100 < rs.length
    · refine itT (by omega) ?_
      walk_at "w"
      refine lam_go j3 hmT fun G4 H4 e4 j4 E R hlet hnum hlong => ?_
      walk_at "w"
      refine ⟨m, r, n, es, rs, G4, P3, rfl, j4, hM3.mono e4, hB, e4 _ _ hr, by omega, hrun, fun _ d G5 H5 e5 j5 hd => hlong d (.int 100) H5 (j5.g _ _ hd) ?_, fun h => absurd c (by omega)⟩
      walk_at "w"
      refine eqD_100 ?_
      exact q G5 P3 H5 ((e13.trans e4).trans e5) j5 hP3
    refine itF (by omega) ?_
    walk_at "w"
    refine ⟨m, r, n, es, rs, G3, P3, rfl, j3, hM3, hB, hr, by omega, hrun, fun h => absurd h c, fun _ G4 H4 e4 j4 => ?_⟩
    obtain ⟨z, hz⟩ := id hrun
    have hlt : idx es 0 rs < cnt es rs.length 0 := idx_lt hpos (s := 0) hz
    have hat : (allR es rs.length 0)[idx es 0 rs]? = some rs := idx_at hpos rs 0 z hz
    have hr4 := e4 _ _ hr
    have hM4 := hM3.mono e4
    walk_at "w"
    rw [hlv]
    refine ⟨m, _, n, es, G4, P3, rfl, j4, hM4, hB, .int _, fun h => (inN (by omega) (by omega) h).elim, fun k hk hk1 G5 H5 e5 j5 => ?_⟩
    obtain rfl : rs.length = k := by injection hk with hk; omega
    have hr5 := e5 _ _ hr4
    have hM5 := hM4.mono e5
    walk_at "w"
    refine ⟨_, _, _, rfl, ?_⟩
    rw [show decide ((0 : Int) ≤ (idx es 0 rs : Int) ∧ (idx es 0 rs : Int) ≤ ((cnt es rs.length 0 : Nat) : Int) - 1) = true from decide_eq_true ⟨by omega, by omega⟩]
    walk_at "w"
    rw [hlv]
    refine ⟨m, _, _, n, es, G5, P3, rfl, j5, hM5, hB, .int _, .int _, fun h => (inN (by omega) (by omega) h).elim, fun k hk hk1 => ?_⟩
    obtain rfl : rs.length = k := by injection hk with hk; omega
    refine ⟨fun h => (inN (by omega) (by omega) h).elim, fun i r2 hi hr2 p2 G6 H6 e6 j6 hp2 => ?_⟩
    obtain rfl : idx es 0 rs = i := by injection hi with hi; omega
    obtain rfl : rs = r2 := by rw [hat] at hr2; exact Option.some.inj hr2
    have hr6 := e6 _ _ hr5
    have hM6 := hM5.mono e6
    rw [rV_iN] at hp2
    have hr6i := hr6
    rw [rV_iN] at hr6i
    walk_at "w"
    refine neD_T j6 hp2 hr6i ?_
    rw [show (!decide (lN rs = lN rs)) = false by simp]
    walk_at "w"
    refine ⟨fun σ' H' => ∃ G' : Hp, Join G' P3 H' ∧ Ex G5 G' ∧ σ' = [some (.ref l), some (.ref p), some (.ref m), some (.ref r), some (.int (idx es 0 rs)), some (.int (cnt es rs.length 0 : Nat))], ?_, ?_⟩
    · walk_at "w"
      by_cases c2 : (idx es 0 rs : Int) + 1 < ((cnt es rs.length 0 : Nat) : Int)
      · refine itT c2 ?_
        walk_at "w"
        rw [show (iV (lN rs)).length = rs.length by simp [iV, lN]]
        refine ⟨m, _, _, n, es, G6, P3, rfl, j6, hM6, hB, .int _, .int _, fun h => (inN (by omega) (by omega) h).elim, fun k hk hk1 => ?_⟩
        obtain rfl : rs.length = k := by injection hk with hk; omega
        refine ⟨fun h => (inN (by omega) (by omega) h).elim, fun i r3 hi hr3 p3 G7 H7 e7 j7 hp3 => ?_⟩
        obtain rfl : idx es 0 rs + 1 = i := by injection hi with hi; omega
        rw [rV_iN] at hp3
        have hr7 := e7 _ _ hr6i
        walk_at "w"
        refine ltT_go j7 hr7 hp3 ?_
        rw [allR_lt (Nat.lt_succ_self _) hat hr3]
        walk_at "w"
        exact ⟨G7, j7, e6.trans e7, rfl⟩
      · refine itF c2 ?_
        walk_at "w"
        exact ⟨G6, j6, e6, rfl⟩
    rintro σ' H7 ⟨G7, j7, e7, rfl⟩
    clear hp2 hr6i hr6 hM6 j6 e6
    have hr7 := e7 _ _ hr5
    have hM7 := hM5.mono e7
    have hr7i := hr7
    rw [rV_iN] at hr7i
    walk_at "w"
    refine ⟨fun σ' H' => ∃ G' : Hp, Join G' P3 H' ∧ Ex G7 G' ∧ σ' = [some (.ref l), some (.ref p), some (.ref m), some (.ref r), some (.int (idx es 0 rs)), some (.int (cnt es rs.length 0 : Nat))], ?_, ?_⟩
    · walk_at "w"
      by_cases c2 : (0 : Int) < (idx es 0 rs : Int)
      · refine itT c2 ?_
        walk_at "w"
        rw [show (iV (lN rs)).length = rs.length by simp [iV, lN]]
        refine ⟨m, _, _, n, es, G7, P3, rfl, j7, hM7, hB, .int _, .int _, fun h => (inN (by omega) (by omega) h).elim, fun k hk hk1 => ?_⟩
        obtain rfl : rs.length = k := by injection hk with hk; omega
        refine ⟨fun h => (inN (by omega) (by omega) h).elim, fun i r3 hi hr3 p3 G8 H8 e8 j8 hp3 => ?_⟩
        obtain rfl : idx es 0 rs - 1 = i := by injection hi with hi; omega
        rw [rV_iN] at hp3
        have hr8 := e8 _ _ hr7i
        walk_at "w"
        refine ltT_go j8 hp3 hr8 ?_
        rw [allR_lt (show idx es 0 rs - 1 < idx es 0 rs by omega) hr3 hat]
        walk_at "w"
        exact ⟨G8, j8, e8, rfl⟩
      · refine itF c2 ?_
        walk_at "w"
        exact ⟨G7, j7, Ex.refl _, rfl⟩
    rintro σ' H8 ⟨G8, j8, e8, rfl⟩
    have hr8 := e8 _ _ hr7
    have hM8 := hM7.mono e8
    walk_at "w"
    refine lam_go j8 hmT fun G9 H9 e9 j9 E R hlet hnum hlong => ?_
    have hr9 := e9 _ _ hr8
    walk_at "w"
    rw [hlv]
    refine ⟨m, _, _, n, es, G9, P3, rfl, j9, hM8.mono e9, hB, .int _, .int _, fun h => (inN (by omega) (by omega) h).elim, fun k hk hk1 => ?_⟩
    obtain rfl : rs.length = k := by injection hk with hk; omega
    refine ⟨fun h G10 H10 e10 j10 => hnum H10 ?_, fun i r3 hi hr3 => ?_⟩
    · walk_at "w"
      refine eqD_nn ?_
      exact q G10 P3 H10 ((((((e13.trans e4).trans e5).trans e7).trans e8).trans e9).trans e10) j10 hP3
    · have hb := (List.getElem?_eq_some_iff.mp hr3).1
      rw [allR_len] at hb
      injection hi with hi
      omega
end X

namespace X
open PySem PySem.Spec PyProof.Rows L2 Lv
variable {P : Program} {w : World} {K : PySem.W.Frag} {mg : Str → Option Value} {base : Heap}
variable [TabA]
theorem mod_far {n a b s : Int} (hn : 10 ≤ n) (h : a < b) (ha : a % n = s) (hb : b % n = s) : a + 10 ≤ b := by
  have h1 : (b - a) % n = 0 := Int.emod_eq_emod_iff_emod_sub_eq_zero.mp (hb.trans ha.symm)
  have h2 := Int.le_of_dvd (show 0 < b - a by omega) (Int.dvd_of_emod_eq_zero h1)
  omega
theorem wide_outs {n : Int} {es : List Ev} (hn : 10 ≤ n) (hl : es.length ≤ 30) (hm : ∀ (i : Nat) (e : Ev), es[i]? = some e → e.b = (i : Int) % n) (s : Nat) : (outs 0 es s).length ≤ 3 := by
  have h0 : ∀ v ∈ outs 0 es s, 0 ≤ v ∧ v < 30 ∧ v % n = s := fun v hv => by
    obtain ⟨k, e, h1, h2, h3⟩ := outs_iff.mp hv
    have h4 := (List.getElem?_eq_some_iff.mp h1).1
    have h5 := hm k e h1
    rw [Nat.zero_add] at h3
    subst h3
    exact ⟨by omega, by omega, by rw [← h5, h2]⟩
  have h1 := outs_asc (s := s) (es := es) (k0 := 0)
  generalize outs 0 es s = l at h0 h1
  match l, h0, h1 with
  | [], _, _ => exact Nat.zero_le _
  | [_], _, _ => exact Nat.le_of_ble_eq_true rfl
  | [_, _], _, _ => exact Nat.le_of_ble_eq_true rfl
  | [_, _, _], _, _ => exact Nat.le_of_ble_eq_true rfl
  | a :: b :: c :: d :: r, h0, h1 =>
    exfalso
    obtain ⟨p1, p2⟩ := List.pairwise_cons.mp h1
    obtain ⟨p3, p4⟩ := List.pairwise_cons.mp p2
    obtain ⟨p5, p6⟩ := List.pairwise_cons.mp p4
    obtain ⟨a0, a1, a2⟩ := h0 a (by simp)
    obtain ⟨b0, b1, b2⟩ := h0 b (by simp)
    obtain ⟨c0, c1, c2⟩ := h0 c (by simp)
    obtain ⟨d0, d1, d2⟩ := h0 d (by simp)
    have q1 := mod_far hn (p1 b (by simp)) a2 b2
    have q2 := mod_far hn (p3 c (by simp)) b2 c2
    have q3 := mod_far hn (p5 d (by simp)) c2 d2
    omega
theorem sum_le {α : Type} (f : α → Nat) (m : Nat) : ∀ l : List α, (∀ a ∈ l, f a ≤ m) → (l.map f).sum ≤ l.length * m
  | [], _ => by simp
  | a :: r, h => by
    have ih := sum_le f m r fun x hx => h x (List.mem_cons_of_mem _ hx)
    have h1 := h a (List.mem_cons_self ..)
    rw [List.map_cons, List.sum_cons, List.length_cons, Nat.add_mul]
    omega
theorem cnt_le {es : List Ev} {c : Nat} (h : ∀ s, (outs 0 es s).length ≤ c) : ∀ k s, cnt es k s ≤ c ^ k
  | 0, _ => Nat.le_refl _
  | k + 1, s => by
    have h1 := sum_le (fun v => cnt es k (aft es v)) (c ^ k) (outs 0 es s) fun v _ => cnt_le h k _
    have h2 := Nat.mul_le_mul (h s) (Nat.le_refl (c ^ k))
    show ((outs 0 es s).map fun v => cnt es k (aft es v)).sum ≤ c ^ (k + 1)
    rw [Nat.pow_succ, Nat.mul_comm]
    exact Nat.le_trans h1 h2
theorem out0 {a lo hi : Int} (h : ¬ (lo ≤ a ∧ a ≤ hi)) : inB (V.int a) lo hi = false := decide_eq_false h
/-- few enough runs -/
def FewR (es : List Ev) : Prop := ∀ s, (outs 0 es s).length ≤ 6
theorem FewR.len {es : List Ev} (h : FewR es) {i : Nat} : (runsL es i).length = cnt es i 0 := by
  rw [← allR_len, ← runs_all, List.length_map]
theorem FewR.le {es : List Ev} (h : FewR es) {i : Nat} (hi : i ≤ 3) : (runsL es i).length ≤ 900 := by
  rw [h.len]
  have h1 := cnt_le h i 0
  have h2 : 6 ^ i ≤ 6 ^ 3 := Nat.pow_le_pow_right (by decide) hi
  have h3 : 6 ^ 3 = 216 := rfl
  omega
theorem FewR.all {es : List Ev} (h : FewR es) {i : Nat} (hi : i ≤ 4) : cnt es i 0 ≤ 1296 := by
  have h1 := cnt_le h i 0
  have h2 : 6 ^ i ≤ 6 ^ 4 := Nat.pow_le_pow_right (by decide) hi
  have h3 : 6 ^ 4 = 1296 := rfl
  omega
def sp_law (K : PySem.W.Frag) : Sp := fun vs H Q _ => ∃ (a : Addr) (ns : List Int), vs = [.ref a] ∧ (SqL K H a (ns.map V.int) ∧ LamX.Tabs TabA.T H) ∧ ns.length ≤ 63 ∧ ∀ H', Q (.bl true) H'
theorem sc_law : FnScope ["_law_script", "_law_pot_here", "_law_parts_here", "_law_most", "_law_machine_here", "_law_many", "_law_bad", "_law_turn", "_law_due", "_law_number", "_law_told", "_law_run", "_law_standing"] ["_law_script"] (defScope s_law) := ⟨rfl, rfl, rfl, by decide +kernel, rfl, by decide +kernel, by decide +kernel⟩
theorem ok_law (T : Txt K mg) (hmT : ((He.cT K ("law", none)).2, ("law.<locals>.<lambda>" : Str)) ∈ TabA.T) (huT : ∀ p ∈ TabA.T, p.1 = (He.cT K ("law", none)).2 → p.2 = "law.<locals>.<lambda>") (TB : LamX.TabB base mg (He.codeOf K ("law", none)) ((He.cT K ("law", none)).2)) {fd_l_pot : FuncData} (G_l_pot : Dn P w K mg base (L2.CX P w) 1 "_law_pot" ["_law_script"] (spPot K) fd_l_pot) {fd_l_parts : FuncData} (G_l_parts : Dn P w K mg base (L2.CX P w) 2 "_law_parts" ["_law_pot_here", "_law_most_standings", "_law_most_events"] spParts fd_l_parts) {fd_l_draw : FuncData} (G_l_draw : Dn P w K mg base (L2.CX P w) 1 "_law_draw" ["_law_pot_here", "_law_many"] spDraw fd_l_draw) {fd_l_wide : FuncData} (G_l_wide : Dn P w K mg base (L2.CX P w) 2 "_law_wide" ["_law_pot_here", "_law_most_tries", "_law_is_hits"] spWide fd_l_wide) {fd_l_machine : FuncData} (G_l_machine : Dn P w K mg base (L2.CX P w) 6 "_law_machine" ["_law_parts_here"] (spLMach K) fd_l_machine) {fd_l_runs : FuncData} (G_l_runs : Dn P w K mg base (L2.CX P w) 2 "_law_runs" ["_law_parts_here", "_law_many"] spRuns fd_l_runs) {fd_run_at : FuncData} (G_run_at : Dn P w K mg base (L2.CX P w) 5 "run_at" ["machine", "many", "number"] (spRunAt K) fd_run_at) {fd_run_number : FuncData} (G_run_number : Dn P w K mg base (L2.CX P w) 6 "run_number" ["machine", "run"] (spRunNo K) fd_run_number) {fd_l_is_int : FuncData} (G_l_is_int : Dn P w K mg base (L2.CX P w) 1 "_law_is_int" ["_law_thing", "_law_least", "_law_most"] sp_l_is_int fd_l_is_int) {fd_l_any : FuncData} (G_l_any : Dn P w K mg base (L2.CX P w) 2 "_law_any" ["_law_pot_here", "_law_items"] (spAnyL K) fd_l_any) {fd_many_runs : FuncData} (G_many_runs : Dn P w K mg base (L2.CX P w) 5 "many_runs" ["machine", "many"] (spManyX K) fd_many_runs) {fd_l_long_right : FuncData} (G_l_long_right : Dn P w K mg base (L2.CX P w) 11 "_law_long_right" ["_law_pot_here", "_law_parts_here", "_law_machine_here"] (spLong K) fd_l_long_right) (L_l_refused : Lv.DnL P w K mg base 9 "_law_refused" (TTref K)) : ∃ fd, Dn P w K mg base CX0 13 "law" ["_law_script"] (sp_law K) fd := by
  obtain ⟨fd, F⟩ := T.d_law
  refine ⟨fd, Lv.FnOkP.plain (Lv.okP (at_ := ("law", none)) F sc_law (fun vs H Q E h => ?_) (fun cdv A outer s H vs Q E hcd hr _ h => ?_)), T.g_law, F.kp, F.bindsN fun _ _ _ _ _ _ us hl => match us, hl with | [_], _ => rfl, Lv.fun_lk F⟩
  · obtain ⟨_, _, rfl, _⟩ := h
    rfl
  · have hu := hu_of hr
    subst hcd
    have hr_l_pot : Room 1 _ := hr.mono (by decide)
    have hr_l_parts : Room 2 _ := hr.mono (by decide)
    have hr_l_draw : Room 1 _ := hr.mono (by decide)
    have hr_l_wide : Room 2 _ := hr.mono (by decide)
    have hr_l_machine : Room 6 _ := hr.mono (by decide)
    have hr_l_runs : Room 2 _ := hr.mono (by decide)
    have hr_run_at : Room 5 _ := hr.mono (by decide)
    have hr_run_number : Room 6 _ := hr.mono (by decide)
    have hr_l_is_int : Room 1 _ := hr.mono (by decide)
    have hr_l_any : Room 2 _ := hr.mono (by decide)
    have hr_many_runs : Room 5 _ := hr.mono (by decide)
    have hr_l_long_right : Room 11 _ := hr.mono (by decide)
    have hr_lam : Room 10 _ := hr.mono (by decide)
    refine ⟨_, PSs.nox (pss_cons (ps_set (i := 1) sc_law.nd rfl (Or.inl rfl) (pe_call G_l_pot.ok hr_l_pot rfl G_l_pot.mg G_l_pot.kp G_l_pot.b .nil passL (pa_cons (pv 0) pa_nil)))
      (pss_cons (ps_set (i := 2) sc_law.nd rfl (Or.inl rfl) (pe_call G_l_parts.ok hr_l_parts rfl G_l_parts.mg G_l_parts.kp G_l_parts.b .nil passL (pa_cons (pv 1) (pa_cons pe_int (pa_cons pe_int pa_nil)))))
      (pss_cons (ps_set (i := 3) sc_law.nd rfl (Or.inl rfl) (pe_op op_add pe_int (pe_callTy call_int1 (by rfl) T.n_int (by decide +kernel) (pa_cons (pe_cmpR op_eq (pe_call G_l_draw.ok hr_l_draw rfl G_l_draw.mg G_l_draw.kp G_l_draw.b .nil passL (pa_cons (pv 1) (pa_cons pe_int pa_nil))) pe_int (nomark _)) pa_nil))))
      (Evl.pss_cut (ps_if (pt_cmpR op_eq (pe_call G_l_draw.ok hr_l_draw rfl G_l_draw.mg G_l_draw.kp G_l_draw.b .nil passL (pa_cons (pv 1) (pa_cons pe_int pa_nil))) pe_int (nomark _)) (pss_one (ps_set (i := 2) sc_law.nd rfl (Or.inl rfl) (pe_call G_l_wide.ok hr_l_wide rfl G_l_wide.mg G_l_wide.kp G_l_wide.b .nil passL (pa_cons (pv 1) (pa_cons pe_int (pa_cons pe_bl pa_nil)))))) pss_nil)
      (pss_cons (ps_set (i := 4) sc_law.nd rfl (Or.inr rfl) (pe_call G_l_machine.ok hr_l_machine rfl G_l_machine.mg G_l_machine.kp G_l_machine.b .nil passL (pa_cons (pv 2) pa_nil)))
      (pss_cons (ps_for PassesOwn.never rfl (pi_range1 (by rfl) T.n_range (pa_cons (pv 3) pa_nil)) (pg_name (i := 5) sc_law.nd rfl (Or.inr rfl)) (pss_cons (ps_setLc (i := 8) (own := [("_law_run", 11), ("_law_standing", 12)]) (g := gTup K 2 (gCons (gName 11) (gCons (gName 12) gNil))) (tt := tYes) rfl sc_law.nd rfl rfl (sw_true rfl rfl rfl (by decide +kernel)) (pi_list (pe_call G_l_runs.ok hr_l_runs rfl G_l_runs.mg G_l_runs.kp G_l_runs.b .nil passL (pa_cons (pv 2) (pa_cons (pv 5) pa_nil)))) (blkOk_by (N := ["_law_script", "_law_pot_here", "_law_parts_here", "_law_most", "_law_machine_here", "_law_many", "_law_bad", "_law_turn", "_law_due", "_law_number", "_law_told", "_law_run", "_law_standing"]) (sc := defScope s_law) (by decide +kernel)) (fun _ _ _ _ _ => (pg_tup rfl (pgs_cons (pg_name (i := 11) sc_law.nd rfl (Or.inl rfl) (hf := Or.inr rfl)) (pgs_cons (pg_name (i := 12) sc_law.nd rfl (Or.inl rfl) (hf := Or.inr rfl)) pgs_nil)))) (fun _ _ _ _ _ => pts_nil) (fun _ _ _ _ _ => (pv 11)))
      (pss_cons (ps_for PassesOwn.never rfl (pi_range1 (by rfl) T.n_range (pa_cons (pe_callB call_len_seq (by rfl) T.n_len PySem.boot_len (pa_cons (pv 8) pa_nil)) pa_nil)) (pg_name (i := 9) sc_law.nd rfl (Or.inl rfl)) (pss_cons (ps_set (i := 10) sc_law.nd rfl (Or.inl rfl) (pe_call G_run_at.ok hr_run_at rfl G_run_at.mg G_run_at.kp G_run_at.b .nil passL (pa_cons (pv 4) (pa_cons (pv 5) (pa_cons (pv 9) pa_nil)))))
      (pss_cons (ps_if (PW.pt (pw_or (pt_not (pt_val (pe_callB call_isi (by rfl) T.n_isinstance (by decide +kernel) (pa_cons (pv 10) (pa_cons (pe_bltn (v := .ty "tuple") (by rfl) T.n_tuple (by decide +kernel) rfl) pa_nil))))) (pw_or1 (pt_cmpR (op_neD hr.units) (pv 10) (pe_ix ix_list (pv 8) (pv 9) (fun _ _ => rfl)) (nomark _))))) (pss_one (ps_ret pe_bl)) pss_nil)
      (pss_one (ps_if (pt_not (pt_val (pe_call G_l_is_int.ok hr_l_is_int rfl G_l_is_int.mg G_l_is_int.kp G_l_is_int.b .nil passL (pa_cons (pe_call G_run_number.ok hr_run_number rfl G_run_number.mg G_run_number.kp G_run_number.b .nil passL (pa_cons (pv 4) (pa_cons (pv 10) pa_nil))) (pa_cons (pv 9) (pa_cons (pv 9) pa_nil)))))) (pss_one (ps_ret pe_bl)) pss_nil)))))
      (pss_cons (ps_set (i := 6) sc_law.nd rfl (Or.inr rfl) (pe_call G_l_any.ok hr_l_any rfl G_l_any.mg G_l_any.kp G_l_any.b .nil passL (pa_cons (pv 1) (pa_cons (pe_lst (pa_cons (pe_un un_neg pe_int) (pa_cons (pe_callB call_len_seq (by rfl) T.n_len PySem.boot_len (pa_cons (pv 8) pa_nil)) (pa_cons pe_bl (pa_cons pe_non (pa_cons pe_str (pa_cons (pe_tup (pa_cons pe_int pa_nil)) (pa_cons (pe_op op_pow pe_int pe_int) pa_nil)))))))) pa_nil))))
      (pss_one (ps_if (pt_cmpR (op_neD hr.units) (Lv.pe_lam (k := 8) L_l_refused rfl TB rfl hmT huT hr_lam (LamX.lamS_by (show LamX.lamSB (defScope s_law) _ = true from by decide +kernel)) rfl (fun _ _ _ _ _ => rfl) (fun _ _ _ _ _ _ _ hrl => (pe_call G_run_at.ok (hrl.mono (by decide)) rfl G_run_at.mg G_run_at.kp G_run_at.b .nil (passes_call (takes_of rfl rfl rfl rfl) (fun _ _ _ _ h => h)) (pa_cons (pv 4) (pa_cons (pv 5) (pa_cons (pv 6) pa_nil)))))) pe_str (nomark _)) (pss_one (ps_ret pe_bl)) pss_nil))))))
      (pss_cons (ps_set (i := 6) sc_law.nd rfl (Or.inr rfl) (pe_call G_l_any.ok hr_l_any rfl G_l_any.mg G_l_any.kp G_l_any.b .nil passL (pa_cons (pv 1) (pa_cons (pe_lst (pa_cons (pe_un un_neg pe_int) (pa_cons pe_int (pa_cons pe_bl (pa_cons pe_non (pa_cons pe_str (pa_cons (pe_tup (pa_cons pe_int pa_nil)) (pa_cons (pe_op op_pow pe_int pe_int) pa_nil)))))))) pa_nil))))
      (pss_cons (ps_if (pt_cmpR (op_neD hr.units) (Lv.pe_lam (k := 8) L_l_refused rfl TB rfl hmT huT hr_lam (LamX.lamS_by (show LamX.lamSB (defScope s_law) _ = true from by decide +kernel)) rfl (fun _ _ _ _ _ => rfl) (fun _ _ _ _ _ _ _ hrl => (pe_call G_run_at.ok (hrl.mono (by decide)) rfl G_run_at.mg G_run_at.kp G_run_at.b .nil (passes_call (takes_of rfl rfl rfl rfl) (fun _ _ _ _ h => h)) (pa_cons (pv 4) (pa_cons (pv 6) (pa_cons pe_int pa_nil)))))) pe_str (nomark _)) (pss_one (ps_ret pe_bl)) pss_nil)
      (pss_cons (ps_if (pt_cmpR (op_neD hr.units) (Lv.pe_lam (k := 8) L_l_refused rfl TB rfl hmT huT hr_lam (LamX.lamS_by (show LamX.lamSB (defScope s_law) _ = true from by decide +kernel)) rfl (fun _ _ _ _ _ => rfl) (fun _ _ _ _ _ _ _ hrl => (pe_call G_many_runs.ok (hrl.mono (by decide)) rfl G_many_runs.mg G_many_runs.kp G_many_runs.b .nil (passes_call (takes_of rfl rfl rfl rfl) (fun _ _ _ _ h => h)) (pa_cons (pv 4) (pa_cons (pv 6) pa_nil))))) pe_str (nomark _)) (pss_one (ps_ret pe_bl)) pss_nil)
      (pss_cons (ps_for PassesOwn.never rfl (pi_range1 (by rfl) T.n_range (pa_cons pe_int pa_nil)) (pg_name (i := 7) sc_law.nd rfl (Or.inl rfl)) (pss_one (ps_if (pt_not (pt_val (pe_call G_l_long_right.ok hr_l_long_right rfl G_l_long_right.mg G_l_long_right.kp G_l_long_right.b .nil passL (pa_cons (pv 1) (pa_cons (pv 2) (pa_cons (pv 4) pa_nil)))))) (pss_one (ps_ret pe_bl)) pss_nil)))
      (pss_one (ps_ret pe_bl)))))))))))), ?_⟩
    obtain ⟨a, ns, rfl, hS, hl, k⟩ := h
    walk_at "w"
    refine ⟨a, ns, rfl, hS, hl, fun l G P0 H1 e0 j hP => ?_⟩
    clear hS
    walk_at "w"
    refine ⟨l, 4, 6, G, P0, rfl, j, hP, by decide, by decide, by decide, by decide, fun p n es G1 P1 H2 e1 j1 hP1 hpt hn1 hn2 hl1 hl2 hsm => ?_⟩
    walk_at "w"
    refine ⟨l, 4, G1, P1, rfl, j1, hP1, by decide, by decide, fun d P2 H3 d0 d1 j2 hP2 => ?_⟩
    walk_at "w"
    obtain ⟨M, hM, hM5⟩ : ∃ M : Nat, ((4 : Int) + if decide (V.int d = V.int 0) = true then 1 else 0) = (M : Int) ∧ M ≤ 5 := by
      by_cases c : decide (V.int d = V.int 0) = true
      · exact ⟨5, by rw [if_pos c]; rfl, by decide⟩
      · exact ⟨4, by rw [if_neg c]; rfl, by decide⟩
    rw [hM]
    clear hM d0 d1
    refine ⟨fun σ' H' => ∃ (p : Addr) (n : Int) (es : List Ev) (G' P' : Hp), Join G' P' H' ∧ Pot P' l ∧ PartsAt G' p n es ∧ 1 ≤ n ∧ n ≤ 12 ∧ es.length ≤ 30 ∧ (∀ e ∈ es, EvOk n e) ∧ FewR es ∧ σ' = [some (.ref a), some (.ref l), some (.ref p), some (.int M), none, none, none, none, none, none, none, none, none], ?_, ?_⟩
    · walk_at "w"
      refine ⟨l, 10, G1, P2, rfl, j2, hP2, by decide, by decide, fun d2 P3 H4 d20 d21 j3 hP3 => ?_⟩
      walk_at "w"
      by_cases c : d2 = 0
      · subst c
        refine itT rfl ?_
        walk_at "w"
        refine ⟨l, G1, P3, rfl, j3, hP3, fun p2 n2 es2 G4 P4 H5 e4 j4 hP4 hpt2 hn10 hn12 hl30 hmd hok => ?_⟩
        walk_at "w"
        exact ⟨p2, n2, es2, G4, P4, j4, hP4, hpt2, by omega, hn12, hl30, fun e he => (hok e he).1, fun s => Nat.le_trans (wide_outs hn10 hl30 hmd s) (by decide), rfl⟩
      · refine itF (fun h => c (V.int.inj h)) ?_
        walk_at "w"
        exact ⟨p, n, es, G1, P3, j3, hP3, hpt, hn1, by omega, by omega, fun e he => (hsm e he).ok, fun s => Nat.le_trans (outs_len _ _ _) (by omega), rfl⟩
    clear j1 j2 hP1 hP2 hpt hn1 hn2 hl1 hl2 hsm e1 j hP e0
    rintro σ' H4 ⟨p, n, es, G, P0, j, hP, hpt, hn1, hn12, hl30, hok, hfew, rfl⟩
    have hB : EvB n es := ⟨hn1, by omega, by omega, fun e he => by
      obtain ⟨b1, b2, b3, b4, b5, b6, b7, b8⟩ := hok e he
      exact ⟨b1, b2, b3, b4, b5, by omega, by omega, by omega⟩⟩
    have hpos : ∀ e ∈ es, 0 ≤ e.a := fun e he => (hok e he).2.2.1
    walk_at "w"
    refine ⟨p, n, es, G, P0, rfl, j, hpt, hn1, hn12, hl30, hok, fun m G1 H5 e1 j1 hM => ?_⟩
    have hMK : MachK K G1 m n es := ⟨_, mc_M T, hM⟩
    replace hpt := hpt.mono e1
    clear hM e1 j
    walk_at "w"
    refine aForR.go (n := M) rfl (by omega) (fun i G' P' σ' => Ex G1 G' ∧ Pot P' l ∧ ∃ (s5 s6 s7 s8 s9 s10 s11 s12 : Option V), σ' = [some (.ref a), some (.ref l), some (.ref p), some (.int M), some (.ref m), s5, s6, s7, s8, s9, s10, s11, s12]) j1 ⟨Ex.refl _, hP, _, _, _, _, _, _, _, _, rfl⟩ ?_ ?_
    · clear j1 hP
      rintro i G P0 H3 σ' hi j ⟨e1, hP, s5, s6, s7, s8, s9, s10, s11, s12, rfl⟩
      have hpt1 := hpt.mono e1
      have hM1 := hMK.mono e1
      walk_at "w"
      refine ⟨p, i, n, es, G, P0, rfl, j, hpt1, hl30, hpos, by omega, fun i' hi' => hfew.le (by omega), fun rp rws G2 H6 e2 j2 _ hrp hrel => ?_⟩
      have hM2 := hM1.mono e2
      have hC := hfew.all (i := i) (by omega)
      walk_at "w"
      refine aLcL.go (fun P' => P' = P0) (fun c us G' => TupL rV G' us ((allR es i 0).take c)) j2 rfl hrp (fun _ _ => by simpa using TupL.nil) (fun c us G2 D _ _ hd h => h.upd hd) (fun c us G2 h => ?_) ?_ ?_
      · rw [h.1, List.length_take, allR_len]; omega
      · intro c x us G' P' H' R R0 hx e' hI hP' j' kR kR0
        subst hP'
        obtain ⟨⟨rs, z⟩, hk, t1, r1, rfl, ht1, hr1⟩ := hrel.get hx
        replace ht1 := e' _ _ ht1
        replace hr1 := e' _ _ hr1
        have hk2 : (allR es i 0)[c]? = some rs := by rw [← runs_all, List.getElem?_map, hk]; rfl
        walk_at "w"
        refine ⟨rfl, ?_⟩
        walk_at "w"
        refine kR (.ref r1) _ _ H' (Ex.refl _) rfl j' ?_
        rw [take_more hk2]
        exact hI.add hr1
      intro due us G3 P' H7 hdue e3 hGd hI hP' j3
      subst hP'
      rw [hrel.1, hfew.len, ← allR_len, List.take_length] at hI
      have hM3 := hM2.mono e3
      have hlen := hI.1
      rw [allR_len] at hlen
      walk_at "w"
      refine aForR.go (n := us.length) rfl (by omega) (fun c G' P2 σ' => P2 = P' ∧ Ex G3 G' ∧ ∃ (s6 s7 s9 s10 s11 s12 : Option V), σ' = [some (.ref a), some (.ref l), some (.ref p), some (.int M), some (.ref m), some (.int i), s6, s7, some (.ref due), s9, s10, s11, s12]) j3 ⟨rfl, Ex.refl _, _, _, _, _, _, _, rfl⟩ ?_ ?_
      · rintro c G4 P4 H8 σ' hc j4 ⟨rfl, e4, s6, s7, s9, s10, s11, s12, rfl⟩
        obtain ⟨r, hr⟩ : ∃ r, (allR es i 0)[c]? = some r := ⟨_, List.getElem?_eq_getElem (by rw [allR_len]; omega)⟩
        obtain ⟨hrl, z, hz⟩ := allR_mem hpos i 0 r (List.mem_of_getElem? hr)
        obtain ⟨td, hd1, hd2⟩ := hI.2 c r hr
        have hM4 := hM3.mono e4
        walk_at "w"
        refine ⟨m, _, _, n, es, G4, P4, rfl, j4, hM4, hB, .int _, .int _, fun h => (inN (by omega) (by omega) h).elim, fun k hk hk1 => ?_⟩
        obtain rfl : i = k := by injection hk with hk; omega
        refine ⟨fun h => (inN (by omega) (by omega) h).elim, fun i' r' hi' hr' p5 G5 H9 e5 j5 hp5 => ?_⟩
        obtain rfl : c = i' := by injection hi' with hi'; omega
        obtain rfl : r = r' := by rw [hr] at hr'; exact Option.some.inj hr'
        have hd5 := e5 _ _ (e4 _ _ hd2)
        have hM5 := hM4.mono e5
        have hGd5 := e5 _ _ (e4 _ _ hGd)
        walk_at "w"
        refine isi_tup j5 hp5 ?_
        refine ⟨_, rfl, itBF rfl ?_⟩
        walk_at "w"
        refine w_ixL (j5.g _ _ hGd5) (atI_nat hd1) ?_
        walk_at "w"
        have hp5i := hp5
        rw [rV_iN] at hp5i hd5
        refine neD_T j5 hp5i hd5 ?_
        rw [show (!decide (lN r = lN r)) = false by simp]
        clear hp5i
        walk_at "w"
        refine ⟨m, p5, n, es, r, G5, P4, rfl, j5, hM5, hB, hp5, by omega, ⟨z, hz⟩, fun h => by omega, fun _ G6 H10 e6 j6 => ?_⟩
        rw [idx_of hpos hr]
        walk_at "w"
        refine ⟨_, _, _, rfl, ⟨_, rfl, ?_⟩⟩
        refine itBF (by simp) ?_
        walk_at "w"
        exact ⟨G6, _, j6, rfl, (e4.trans e5).trans e6, s6, s7, some (.int c), some (.ref p5), s11, s12, rfl⟩
      rintro G4 P4 H8 σ' j4 ⟨rfl, e4, s6, s7, s9, s10, s11, s12, rfl⟩
      have hM4 := hM3.mono e4
      have hGd4 := e4 _ _ hGd
      have hcp : CPow 10 30 := ⟨by decide, by decide, by decide⟩
      have hbig : ((10 : Int) ^ (30 : Int).toNat) = 1000000000000000000000000000000 := by decide +kernel
      walk_at "w"
      refine aTup.go j4 (by show 1 ≤ 100000; decide) fun t5 G5 H9 _ e5 j5 ht5 => ?_
      walk_at "w"
      refine w_rI hcp ?_
      rw [hbig]
      walk_at "w"
      refine aLst.go j5 (by show 7 ≤ 100000; decide) fun b6 G6 H10 _ e6 j6 hb6 => ?_
      have ht6 := e6 _ _ ht5
      have e46 := e5.trans e6
      walk_at "w"
      refine ⟨l, b6, _, G6, P4, rfl, j6, hP, hb6, by show 0 < 7; decide, by show 7 ≤ 1000; decide, fun ix x P7 H11 hx j7 hP7 => ?_⟩
      obtain ⟨hk, hbad⟩ : Kd G6 x ∧ inB x 0 ((cnt es i 0 : Nat) - 1 : Int) = false := by
        match ix, hx with
        | 0, hx => rw [← Option.some.inj hx]; exact ⟨.int _, out0 (by omega)⟩
        | 1, hx => rw [← Option.some.inj hx]; exact ⟨.int _, out0 (by omega)⟩
        | 2, hx => rw [← Option.some.inj hx]; exact ⟨.bl _, rfl⟩
        | 3, hx => rw [← Option.some.inj hx]; exact ⟨.non, rfl⟩
        | 4, hx => rw [← Option.some.inj hx]; exact ⟨.str _, rfl⟩
        | 5, hx => rw [← Option.some.inj hx]; exact ⟨.tup ht6, rfl⟩
        | 6, hx => rw [← Option.some.inj hx]; exact ⟨.int _, out0 (by omega)⟩
      walk_at "w"
      refine lam_go j7 hmT fun G8 H12 e8 j8 E R hlet hnum hlong => ?_
      walk_at "w"
      have e48 := e46.trans e8
      refine ⟨m, _, x, n, es, G8, P7, rfl, j8, hM4.mono e48, hB, .int _, hk.mono e8, fun h => (inN (by omega) (by omega) h).elim, fun k hk hk1 => ?_⟩
      obtain rfl : i = k := by injection hk with hk; omega
      refine ⟨fun _ G9 H13 e9 j9 => hnum _ ?_, fun i' r' hi' hr' => ?_⟩
      rotate_left
      · have hb := (List.getElem?_eq_some_iff.mp hr').1
        rw [allR_len] at hb
        subst hi'
        exact (inN (by omega) (by omega) hbad).elim
      walk_at "w"
      refine neD_nn ?_
      walk_at "w"
      exact ⟨G9, P7, j9, ((((e1.trans e2).trans e3).trans e4).trans e48).trans e9, hP7, _, _, _, _, _, _, _, _, rfl⟩
    rintro G2 P2 H6 σ' j2 ⟨e2, hP2, s5, s6, s7, s8, s9, s10, s11, s12, rfl⟩
    have hpt2 := hpt.mono e2
    have hM2 := hMK.mono e2
    have hcp : CPow 10 20 := ⟨by decide, by decide, by decide⟩
    have hbig : ((10 : Int) ^ (20 : Int).toNat) = 100000000000000000000 := by decide +kernel
    walk_at "w"
    refine aTup.go j2 (by show 1 ≤ 100000; decide) fun t3 G3 H7 _ e3 j3 ht3 => ?_
    walk_at "w"
    refine w_rI hcp ?_
    rw [hbig]
    walk_at "w"
    refine aLst.go j3 (by show 7 ≤ 100000; decide) fun b3 G4 H8 _ e4 j4 hb3 => ?_
    have ht4 := e4 _ _ ht3
    have e24 := e3.trans e4
    walk_at "w"
    refine ⟨l, b3, _, G4, P2, rfl, j4, hP2, hb3, by show 0 < 7; decide, by show 7 ≤ 1000; decide, fun ix x P5 H9 hx j5 hP5 => ?_⟩
    obtain ⟨hk, hbad⟩ : Kd G4 x ∧ inB x 0 100 = false := by
      match ix, hx with
      | 0, hx => rw [← Option.some.inj hx]; exact ⟨.int _, rfl⟩
      | 1, hx => rw [← Option.some.inj hx]; exact ⟨.int _, rfl⟩
      | 2, hx => rw [← Option.some.inj hx]; exact ⟨.bl _, rfl⟩
      | 3, hx => rw [← Option.some.inj hx]; exact ⟨.non, rfl⟩
      | 4, hx => rw [← Option.some.inj hx]; exact ⟨.str _, rfl⟩
      | 5, hx => rw [← Option.some.inj hx]; exact ⟨.tup ht4, rfl⟩
      | 6, hx => rw [← Option.some.inj hx]; exact ⟨.int _, rfl⟩
    have hM4 := hM2.mono e24
    walk_at "w"
    refine lam_go j5 hmT fun G6 H10 e6 j6 E R hlet hnum hlong => ?_
    walk_at "w"
    refine ⟨m, x, _, n, es, G6, P5, rfl, j6, hM4.mono e6, hB, hk.mono e6, .int _, fun _ => hnum _ ?_, fun k hk hk1 => ?_⟩
    rotate_left
    · subst hk
      exact (inN (by omega) (by omega) hbad).elim
    walk_at "w"
    refine neD_nn ?_
    walk_at "w"
    refine lam_go j6 hmT fun G7 H11 e7 j7 E R hlet hnum hlong => ?_
    walk_at "w"
    have e47 := e6.trans e7
    refine ⟨m, x, n, es, G7, P5, rfl, j7, hM4.mono e47, hB, hk.mono e47, fun _ => hnum _ ?_, fun k hk hk1 => ?_⟩
    rotate_left
    · subst hk
      exact (inN (by omega) (by omega) hbad).elim
    walk_at "w"
    refine neD_nn ?_
    have e27 := e24.trans e47
    have hM7 := hM4.mono e47
    have hpt7 := hpt2.mono e27
    clear hb3 ht3 ht4 hk hbad hx j2 j3 j4 j5 j6
    walk_at "w"
    refine aForR.go (n := 3) rfl (by decide) (fun c G' P' σ' => Ex G7 G' ∧ Pot P' l ∧ ∃ (s5 s6 s7 s8 s9 s10 s11 s12 : Option V), σ' = [some (.ref a), some (.ref l), some (.ref p), some (.int M), some (.ref m), s5, s6, s7, s8, s9, s10, s11, s12]) j7 ⟨Ex.refl _, hP5, _, _, _, _, _, _, _, _, rfl⟩ ?_ ?_
    · rintro c G8 P8 H12 σ' hc j8 ⟨e8, hP8, s5, s6, s7, s8, s9, s10, s11, s12, rfl⟩
      walk_at "w"
      refine ⟨l, p, m, n, es, G8, P8, rfl, j8, hP8, hpt7.mono e8, hl30, hM7.mono e8, hB, fun G9 P9 H13 e9 j9 hP9 => ⟨_, rfl, itBF rfl ?_⟩⟩
      walk_at "w"
      exact ⟨G9, P9, j9, e8.trans e9, hP9, _, _, _, _, _, _, _, _, rfl⟩
    rintro G8 P8 H12 σ' j8 ⟨e8, hP8, s5, s6, s7, s8, s9, s10, s11, s12, rfl⟩
    walk_at "w"
    exact k H12
end X

namespace X
open PySem PySem.Spec PyProof.Rows L2 Lv
theorem facts {K : PySem.W.Frag} [TabA] (hTab : TabA.T = tabs K) {P : Program} {w : World} {h : Heap} {mg : Str → Option Value} {f : Addr} (X : K.In h) (G : h.Ns mainGlobals mg) (hfa : mg ("law" : Str) = some (.ref f)) (HP : Lv.XpOk P "/claim/cut.py") (c : He.SaysX fa fn [] tf ex w h K) :
    ∃ fd : FuncData, (∀ (s : Shared) (v : Value), BindsTo s fd ⟨[v], []⟩ [("_law_script", v)]) ∧ ∀ base : Heap, K.In base → base.Ns mainGlobals mg → (∀ p ∈ tf.map (He.cT K), LamX.TabB base mg p.1 p.2) → FnOk P w K mg base CX0 13 f fd ["_law_script"] (sp_law K) := by
  have T := txt_of X G c
  have e := hfa.symm.trans T.g_law
  cases e
  suffices H : ∀ base : Heap, (∀ p ∈ tf.map (He.cT K), LamX.TabB base mg p.1 p.2) → ∃ fd, Dn P w K mg base CX0 13 "law" ["_law_script"] (sp_law K) fd by
    obtain ⟨fd, F⟩ := id T.d_law
    refine ⟨fd, fun s v => FunD.bindsA (ps := ["_law_script"]) F (fun _ _ _ _ _ _ us hl => match us, hl with | [_], _ => rfl) s [v] rfl, fun base _ _ TBs => ?_⟩
    obtain ⟨fd', D⟩ := H base TBs
    have q : fd' = fd := Lv.fd_same D.lk (Lv.fun_lk F)
    rw [← q]; exact D.ok
  intro base TBs
  obtain ⟨fd_is_integer, G_is_integer⟩ := ok_is_integer (P := P) (w := w) (base := base) T
  obtain ⟨fd_is_within, G_is_within⟩ := ok_is_within (P := P) (w := w) (base := base) T G_is_integer
  obtain ⟨fd_is_event, G_is_event⟩ := ok_is_event (P := P) (w := w) (base := base) T G_is_within
  obtain ⟨fd_Machine_keep, G_Machine_keep⟩ := ok_Machine_keep (P := P) (w := w) (base := base) T
  obtain ⟨fd_Machine_init, G_Machine_init⟩ := ok_Machine_init (P := P) (w := w) (base := base) T G_is_within G_is_event G_Machine_keep
  obtain ⟨fd_Machine_eq, G_Machine_eq⟩ := ok_Machine_eq (P := P) (w := w) (base := base) T
  obtain ⟨fd_l_pot, G_l_pot⟩ := ok_l_pot (P := P) (w := w) (base := base) T
  obtain ⟨fd_l_draw, G_l_draw⟩ := ok_l_draw (P := P) (w := w) (base := base) T
  obtain ⟨fd_l_any, G_l_any⟩ := ok_l_any (P := P) (w := w) (base := base) T G_l_draw
  obtain ⟨fd_l_parts, G_l_parts⟩ := ok_l_parts (P := P) (w := w) (base := base) T G_l_draw
  obtain ⟨fd_step_at, G_step_at⟩ := ok_step_at (P := P) (w := w) (base := base) T
  obtain ⟨fd_is_event_of, G_is_event_of⟩ := ok_is_event_of (P := P) (w := w) (base := base) T G_is_within
  obtain ⟨fd_is_run_there, G_is_run_there⟩ := ok_is_run_there (P := P) (w := w) (base := base) T G_is_event_of G_step_at
  obtain ⟨fd_check_run, G_check_run⟩ := ok_check_run (P := P) (w := w) (base := base) T G_is_run_there
  obtain ⟨fd_l_out, G_l_out⟩ := ok_l_out (P := P) (w := w) (base := base) T
  obtain ⟨fd_l_walk, G_l_walk⟩ := ok_l_walk (P := P) (w := w) (base := base) T G_l_out G_l_draw
  obtain ⟨fd_l_runs, G_l_runs⟩ := ok_l_runs (P := P) (w := w) (base := base) T G_l_out
  obtain ⟨fdX_is_integer, GX_is_integer⟩ := okX_is_integer (P := P) (w := w) (base := base) T
  obtain ⟨fdX_is_within, GX_is_within⟩ := okX_is_within (P := P) (w := w) (base := base) T GX_is_integer
  obtain ⟨fd_check_number, G_check_number⟩ := ok_check_number (P := P) (w := w) (base := base) T G_is_within
  obtain ⟨fdX_check_number, GX_check_number⟩ := okX_check_number (P := P) (w := w) (base := base) T GX_is_within
  obtain ⟨fd_l_is_int, G_l_is_int⟩ := ok_l_is_int (P := P) (w := w) (base := base) T
  obtain ⟨fd_l_machine, G_l_machine⟩ := ok_l_machine (P := P) (w := w) (base := base) T G_Machine_init
  obtain ⟨fd_ways_on, G_ways_on⟩ := ok_ways_on (P := P) (w := w) (base := base) T G_step_at
  obtain ⟨fd_many_runs, G_many_runs⟩ := ok_many_runs (P := P) (w := w) (base := base) T G_check_number G_ways_on
  obtain ⟨fd_l_wide, G_l_wide⟩ := ok_l_wide (P := P) (w := w) (base := base) T G_l_draw
  have L_l_refused := okL_l_refused (P := P) (w := w) (base := base) T
  obtain ⟨fd_run_at, G_run_at⟩ := ok_run_at (P := P) (w := w) (base := base) T GX_check_number G_ways_on G_step_at
  obtain ⟨fd_run_number, G_run_number⟩ := ok_run_number (P := P) (w := w) (base := base) T HP G_check_run G_ways_on G_step_at
  obtain ⟨fdX_many_runs, GX_many_runs⟩ := okX_many_runs (P := P) (w := w) (base := base) T GX_check_number G_ways_on
  obtain ⟨fd_l_long_right, G_l_long_right⟩ := ok_l_long_right (P := P) (w := w) (base := base) T (by rw [hTab]; simp [tabs]) (by rw [hTab]; intro p hp he; simp only [tabs, List.mem_cons, List.not_mem_nil, or_false] at hp; rcases hp with hp | hp <;> first | (subst hp; exact absurd he (Lv.tabNe T.tn_0_1)) | (subst hp; rfl)) (TBs _ (List.mem_map.mpr ⟨("_law_long_right", none), by simp [tf], rfl⟩)) G_l_draw G_l_walk G_run_number GX_many_runs G_l_is_int G_run_at L_l_refused
  obtain ⟨fd_law, G_law⟩ := ok_law (P := P) (w := w) (base := base) T (by rw [hTab]; simp [tabs]) (by rw [hTab]; intro p hp he; simp only [tabs, List.mem_cons, List.not_mem_nil, or_false] at hp; rcases hp with hp | hp <;> first | (subst hp; rfl) | (subst hp; exact absurd he (Ne.symm (Lv.tabNe T.tn_0_1)))) (TBs _ (List.mem_map.mpr ⟨("law", none), by simp [tf], rfl⟩)) G_l_pot G_l_parts G_l_draw G_l_wide G_l_machine G_l_runs G_run_at G_run_number G_l_is_int G_l_any GX_many_runs G_l_long_right L_l_refused
  exact ⟨fd_law, G_law⟩
end X
open PySem PySem.W PySem.Calls PyProof.Rows
theorem PySem.Challenge.cw_neverleapt_k84_whole_runs_by_number_holds : PySem.Challenge.rw_neverleapt_k84_whole_runs_by_number.Holds := by
  refine X.c_law fun said => ?_
  refine HandSHeadRun.head_any (r := X.R) (q := X.vq) (H := X.hk) (ob := X.ob) (M := 20000) (loose := X.loose) (d := X.vd) (kwd := []) X.ob_eq
    X.c_e X.c_f X.run X.c_def X.c_p X.c_k X.c_w said X.c_ok X.c_b X.c_hw ?hc
  case hc =>
    refine LamX.walk_ofTsE (l := PySem.Challenge.rw_neverleapt_k84_whole_runs_by_number) (n := 63) (k := 13) (x := "_law_script") (CX := fun _ => L2.CX0) rfl (by decide) X.c_df ⟨rfl, by decide, by decide⟩ ?F (fun _ _ _ _ _ z => z)
    intro w mg fa h Y G hmg0
    obtain ⟨K, KX, c⟩ := Y
    have hmg : mg ("law" : PySem.Str) = some (.ref fa) := by
      rw [← X.c_nm]
      exact hmg0
    letI : Lv.TabA := ⟨X.tabs K⟩
    obtain ⟨fd, hb, hF⟩ := X.facts (K := K) rfl (P := (PySem.Challenge.rw_neverleapt_k84_whole_runs_by_number).prog) (w := w) KX G hmg ⟨by kernel_rfl, by kernel_rfl⟩ c
    refine ⟨K, KX, fd, X.tf.map (He.cT K), X.sp_law K, ?_, ?_, ?_, hb, fun H a ns hl _ hT hS => ⟨a, ns, rfl, ⟨hS, ?_⟩, hl, fun _ => rfl⟩, hF⟩
    · intro p hp; obtain ⟨q, hq, rfl⟩ := List.mem_map.mp hp; exact c.empty q hq
    · intro p hp; obtain ⟨q, hq, rfl⟩ := List.mem_map.mp hp; exact c.out q hq
    · intro p hp; obtain ⟨q, hq, rfl⟩ := List.mem_map.mp hp; exact PySem.W.codeHd_of_K KX (c.hd q hq)
    · exact Lv.tabs_nil (by rfl) hT

