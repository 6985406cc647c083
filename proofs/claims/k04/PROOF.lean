import PyProof.Rows.All
import Wide.All
import OpenK.AllK
import Wide.FinOn
import PySem.Challenge.RW_spentframes_k04_refused_orders
import KE.GoesMore
import KE.GoesEnum
import HandS.ForMost
import HandS.ForExc
import HandS.Walk
import HandS.Deep
import HandS.IsInst
import HandS.Conv
import HandS.TupAny
import HandS.TupLe
import HandS.ExcInit
import HandS.ExcField
import HandS.ExcIs
import HandS.Defaults
import HandS.Flow
import HandS.Strs
import HandS.Wide
import PyProof.GenComp
import HandS.GenList
import HandS.GenYield
import HandS.CallSlots
import HandS.Small
import HandS.Property
import HandS.ExcOwn
import HandS.More
import HandS.SortInts
import HandS.Zip
import PyProof.ReprRoads
import HandS.Ends
set_option Elab.async false
set_option linter.all false
set_option maxRecDepth 100000
set_option maxHeartbeats 4000000
/-! Own rules beside the hand layer: walks over a list or a tuple, enumerate of a tuple, tuple.index of flat items. -/
namespace L3
open PySem PySem.Spec PyProof.Rows L2

/-! ### one of two readings of what is walked -/
theorem piOr {X : Cx} {tg e : Expr} {t u : TI} (h : PI X tg e t) (h' : PI X tg e u) :
    PI X tg e (fun σ H R => t σ H R ∨ u σ H R) := by
  constructor
  intro pins s σ H R I q
  cases q with
  | inl q => exact h.run pins s σ H R I q
  | inr q => exact h'.run pins s σ H R I q
def iSeq (K : PySem.W.Frag) (tl : TE) : TI := fun σ H R => iList K tl σ H R ∨ iTup K tl σ H R
theorem pi_seq {X : Cx} {tg l : Expr} {tl : TE} (hl : PE X l tl) : PI X tg l (iSeq X.K tl) :=
  piOr (pi_list hl) (pi_tup hl)

/-! ### enumerate of a tuple -/
def IteT (K : PySem.W.Frag) (a : Addr) : It where
  go := fun i H => ∃ (xs : List V) (x : V), SqT K H a xs ∧ xs[i]? = some x
  yld := fun i H v H' => ∃ T x, v = .ref T ∧ H T = none ∧ H' = upd H T (.tup [.int (i : Nat), x]) ∧
    ∀ xs, SqT K H a xs → xs[i]? = some x
  stop := fun i H => ∃ xs : List V, SqT K H a xs ∧ xs.length = i
theorem enum_ne_tup {h : Heap} {e it a : Addr} {i : Int} {old : Value} {items : Array Value}
    (he : IsEnum h e it i old) (p : h.IsTuple a items) : e ≠ a := by
  intro z
  obtain ⟨o, ho, hc, _⟩ := p
  rw [← z] at ho
  have q := he.symm.trans ho
  have q' := Option.some.inj q
  rw [← q'] at hc
  exact absurd (show Value.type "enumerate" = Value.type "tuple" from hc) (by decide)
theorem iter_ne_tup {h : Heap} {it a : Addr} {i : Nat} {items : Array Value}
    (hi : h.IsTupleIter it a i) (p : h.IsTuple a items) : a ≠ it := by
  intro z
  obtain ⟨o, ho, hc, _⟩ := p
  obtain ⟨o', ho', hc', _⟩ := hi
  rw [z] at ho
  have q := Option.some.inj (ho.symm.trans ho')
  subst q
  rw [hc] at hc'
  exact absurd hc' (by decide)
theorem turn_enumT {P : Program} {w : World} {K : PySem.W.Frag} {elts : List Expr} {kk : Nat} {tpos : Pos} (a e it : Addr) :
    Turn P w K (.Tuple elts kk tpos) (IteT K a) [e, it] e
      (fun i h => (∃ old, IsEnum h e it ((i : Nat) : Int) old) ∧ h.IsTupleIter it a i ∧ e ≠ it) where
  mem := by simp
  obj := by
    intro i h st b hb
    obtain ⟨⟨old, he⟩, ⟨o, ho, hc, hd⟩, _⟩ := st
    have e' : b = e ∨ b = it := by simpa using hb
    cases e' with
    | inl z => subst z; exact ⟨_, he, fun v q => nomatch q⟩
    | inr z => subst z; exact ⟨o, ho, fun v q => by rw [hd] at q; cases q⟩
  keep := by
    intro i h h' st k
    obtain ⟨⟨old, he⟩, hi, hne⟩ := st
    exact ⟨⟨old, k e (by simp) _ he⟩, hi.at fun o q => k it (by simp) o q, hne⟩
  item := by
    intro X hP hw hK hc i pins s σ H E I hf st hg
    subst hP hw hK
    obtain ⟨⟨old, he⟩, hit, hne⟩ := st
    obtain ⟨xs, x, hq, hx⟩ := hg
    obtain ⟨its, rv, p, hz⟩ := I.tuple hq
    obtain ⟨u, hu, ru⟩ := rv.get hx
    have hel : e < s.heap.objs.size := Heap.lt_size he
    have hil : it < s.heap.objs.size := by
      obtain ⟨_, q, _⟩ := hit
      exact Heap.lt_size q
    have p' : s.heap.IsTuple a its.toArray := p
    have n1 : e ≠ a := enum_ne_tup he p'
    have n2 : a ≠ it := iter_ne_tup hit p'
    have hh : X.A.in1.handled = none := I.ok.hd hc
    have D := Draws.tuple (prog := X.prog) (w := X.w) (A := X.A.in1) hh it a n2 its.toArray
    have hlt : i < its.toArray.size := by
      rw [List.size_toArray]
      exact (List.getElem?_eq_some_iff.mp hu).1
    have nef : e ∉ [it, a] := by simp [hne, n1]
    refine wpAny_pyNext_enum_itemD D he ⟨hit, p'⟩ hlt hne nef fun y h' tk hy ho hit' hT hsz hk => ?_
    have ey : y = u := by
      have hu' : its.toArray[i]? = some u := by simpa using hu
      exact Option.some.inj (hy.symm.trans hu')
    subst ey
    refine ⟨_, rfl, wpAny_letOwnedTupleGo_enum (s := { s with heap := h', toks := tk + 1 }) ho fun h'' he' sb => ?_⟩
    have hT2 : h''.get? s.heap.objs.size = some { cls := .type "tuple", data := .seq #[.int i tk, y] } :=
      (sb.2 _ (Nat.ne_of_gt hel)).trans hT
    have new : ObjOk X.prog X.w (upd H s.heap.objs.size (.tup [.int (i : Nat), x])) h'' s.heap.objs.size (.tup [.int (i : Nat), x]) :=
      ⟨by show 2 ≤ sizeLine; decide, [.int i tk, y], .cons ⟨_, rfl⟩ (.cons ru .nil), ⟨_, hT2, rfl, _, rfl⟩⟩
    have I1 : Inv X pins σ (upd H s.heap.objs.size (.tup [.int (i : Nat), x])) { s with heap := h'', toks := tk + 1 } := by
      refine I.turnedNew (ch := [e, it]) (fun b ob hb q => ?_) hf (Nat.le_refl _) new
      have b1 : b ≠ e := fun z => hb (by simp [z])
      have b2 : b ≠ it := fun z => hb (by simp [z])
      exact (sb.2 b b1).trans (hk b ob b1 b2 q)
    refine ⟨.ref s.heap.objs.size, _, I1, rfl, ⟨_, x, rfl, I.hok.fresh (Nat.le_refl _), rfl, fun ys hy' => ?_⟩, ⟨⟨y, ?_⟩, ?_, hne⟩, fun b hb => ?_⟩
    · rw [I.tuple_inj hy' hq]; exact hx
    · have e1 : ((i + 1 : Nat) : Int) = (i : Int) + 1 := by omega
      rw [e1]; exact he'
    · exact hit'.1.at fun o q => (sb.2 it (Ne.symm hne)).trans q
    · have hb' : b < s.heap.objs.size := by
        have e' : b = e ∨ b = it := by simpa using hb
        cases e' with
        | inl z => rw [z]; exact hel
        | inr z => rw [z]; exact hil
      rw [upd_ne (Nat.ne_of_lt hb')]
      exact (hf b hb).1
  done := by
    intro X hP hw hK hc i pins s σ H E I hf st hg
    subst hP hw hK
    obtain ⟨⟨old, he⟩, hit, hne⟩ := st
    obtain ⟨xs, hq, hx⟩ := hg
    obtain ⟨its, rv, p, hz⟩ := I.tuple hq
    obtain ⟨f0, f1, f2, f3, f4, f5⟩ := hf it (by simp)
    have p' : s.heap.IsTuple a its.toArray := p
    have n2 : a ≠ it := iter_ne_tup hit p'
    have hh : X.A.in1.handled = none := I.ok.hd hc
    have D := Draws.tuple (prog := X.prog) (w := X.w) (A := X.A.in1) hh it a n2 its.toArray
    have hi : i = its.toArray.size := by rw [List.size_toArray, ← rv.length]; exact hx.symm
    subst hi
    exact wpAny_pyNext_enum_endD D he ⟨hit, p'⟩ fun h' eb => ⟨rfl, I.turned (t' := s.toks) (fun b o hb q => eb b o hb q) f0 f1 f3 f4 f5⟩
  self := by
    intro A i s Q E st h
    obtain ⟨⟨_, he⟩, _⟩ := st
    exact wpAny_pyIter_enum he h

theorem meets_enum_tup (l : Addr) (items : Array Value) (n : Nat) (dct : Option Addr) (sl : Array (Option Value)) :
    Meets (Builtin.«enumerate.__new__» ⟨[.type "enumerate", .ref l], []⟩) (fun _ R s =>
      s.heap.get? l = some { cls := .type "tuple", dict := dct, data := .seq items n, slots := sl } ∧
      R (.ok (.ret (.ref (s.heap.push { cls := .type "tuple_iterator", data := .fields #[.ref l, .int 0 0] }).objs.size)))
        { s with heap := ((s.heap.push { cls := .type "tuple_iterator", data := .fields #[.ref l, .int 0 0] }).push { cls := .type "enumerate", data := .fields #[.none, .bool false, .ref s.heap.objs.size, rawInt 0, .none, .none] }) }) :=
  .of_wp fun prog w A R s h => by
    obtain ⟨hp, g, d, tk, os⟩ := s
    obtain ⟨hl, h⟩ := h
    have hsub := sub_enumerate
    have hL : Heap.IsTuple (Shared.heap ⟨hp, g, d, tk, os⟩) l items := ⟨_, hl, rfl, n, rfl⟩
    wp_walk using AutoSeq1.wpAny_loadPart' hl
    refine wpAny_stack_any fun st => wpAny_pure ?_
    split
    · rename_i c _ _ _ _ _
      cases (c == Value.type "enumerate")
      · wp_walk using AutoSeq1.wpAny_loadPart' hl, wpAny_pyIter_tuple hL
        exact ⟨_, rfl, h⟩
      · wp_walk using AutoSeq1.wpAny_loadPart' hl, wpAny_pyIter_tuple hL
        exact ⟨_, rfl, h⟩
    · wp_walk using AutoSeq1.wpAny_loadPart' hl, wpAny_pyIter_tuple hL
      exact ⟨_, rfl, h⟩
theorem call_enum_tup {prog : Program} {w : World} {A : Around} {E : Value → Shared → Prop} {s : Shared} {l : Addr} {items : Array Value}
    {Q : Value → Shared → Prop} (hL : s.heap.IsTuple l items)
    (h : ∀ h', IsEnum h' (s.heap.objs.size + 1) s.heap.objs.size 0 .none → h'.IsTupleIter s.heap.objs.size l 0 →
      h'.objs.size = s.heap.objs.size + 2 → (∀ b o, s.heap.get? b = some o → h'.get? b = some o) →
      Q (.ref (s.heap.objs.size + 1)) { s with heap := h' }) :
    wpAny (model prog w) A (call (.type "enumerate") [.ref l]) Q E s := by
  obtain ⟨⟨c, dct, dt, sl⟩, hl, hc, n, hd⟩ := hL
  replace hc : c = .type "tuple" := hc
  replace hd : dt = .seq items n := hd
  subst hc hd
  refine callType_new F.called_enumerate (by decide) (F.typeCall_enumerate_1 _) (F.newCall_enumerate_1 _)
    (fun obj => F.args_object_init_2 obj _) F.entry_enumerate_new (meets_enum_tup l items n dct sl) ⟨hl, ?_⟩
  have hz : (s.heap.push { cls := .type "tuple_iterator", data := .fields #[.ref l, .int 0 0] }).objs.size = s.heap.objs.size + 1 :=
    Heap.size_push ..
  show _ ∧ _
  rw [hz]
  have he : IsEnum ((s.heap.push { cls := .type "tuple_iterator", data := .fields #[.ref l, .int 0 0] }).push
      { cls := .type "enumerate", data := .fields #[.none, .bool false, .ref s.heap.objs.size, rawInt 0, .none, .none] })
      (s.heap.objs.size + 1) s.heap.objs.size 0 .none := by
    have q := Heap.get?_push_size (s.heap.push { cls := .type "tuple_iterator", data := .fields #[.ref l, .int 0 0] })
      (o := { cls := .type "enumerate", data := .fields #[.none, .bool false, .ref s.heap.objs.size, rawInt 0, .none, .none] }) rfl
    rw [hz] at q
    exact q
  have hi : ((s.heap.push { cls := .type "tuple_iterator", data := .fields #[.ref l, .int 0 0] }).push
      { cls := .type "enumerate", data := .fields #[.none, .bool false, .ref s.heap.objs.size, rawInt 0, .none, .none] }).IsTupleIter s.heap.objs.size l 0 :=
    ⟨_, Heap.get?_push_of_some _ (Heap.get?_push_size _ rfl), rfl, rfl⟩
  refine ⟨⟨_, he, rfl⟩, h _ he hi (by rw [Heap.size_push, hz]) fun b o x => ?_⟩
  exact Heap.get?_push_of_some _ (Heap.get?_push_of_some _ x)
def iEnumT (K : PySem.W.Frag) (ta : TA) : TI := fun σ H R => ta σ H fun vs H1 => ∃ a xs, vs = [.ref a] ∧ SqT K H1 a xs ∧ R (IteT K a) H1
theorem pi_enumT {X : Cx} {e : Expr} {ta : TA} {p pos tpos : Pos} {elts : List Expr} {kk : Nat} (hg : Gl X "enumerate")
    (hm : X.mg "enumerate" = none) (ha : PA X [e] ta) (hs : starEach [e] X.env = [(false, eval e X.env)] := by rfl) :
    PI X (.Tuple elts kk tpos) (.Call (.Name "enumerate" p) [e] [] pos) (iEnumT X.K ta) := by
  constructor
  intro pins s σ H R I h
  refine Call_ (ld_blt I hg hm boot_enumerate (PyProof.Rows.callWith_type1 (thn (ha.run pos pins s σ H _ I h) fun us s1 hh => ?_) hs rfl))
  obtain ⟨vs, H1, I1, r1, a, xs, ex, hq, q⟩ := hh
  subst ex
  cases r1 with
  | cons r rr =>
    cases rr
    cases r
    obtain ⟨its, rv, p', hz⟩ := I1.tuple hq
    refine call_enum_tup (show s1.heap.IsTuple a its.toArray from p') fun h' he hit hsz hk => wpAny_pyIter_enum he ?_
    have I2 : Inv X pins σ H1 { s1 with heap := h' } := I1.kept (t' := s1.toks) hk
    refine ⟨s1.heap.objs.size + 1, [s1.heap.objs.size + 1, s1.heap.objs.size], _, _, H1, rfl, I2,
      turn_enumT a (s1.heap.objs.size + 1) s1.heap.objs.size, ⟨⟨.none, he⟩, hit, Nat.succ_ne_self _⟩, fun b hb => ?_, q⟩
    have e' : b = s1.heap.objs.size + 1 ∨ b = s1.heap.objs.size := by simpa using hb
    have hle : s1.heap.objs.size ≤ b := by
      cases e' with
      | inl z => rw [z]; exact Nat.le_add_right _ _
      | inr z => rw [z]; exact Nat.le_refl _
    exact I1.fpOk hle (I1.hok.fresh hle)
def iEnumS (K : PySem.W.Frag) (ta : TA) : TI := fun σ H R => iEnum K ta σ H R ∨ iEnumT K ta σ H R
theorem pi_enumS {X : Cx} {e : Expr} {ta : TA} {p pos tpos : Pos} {elts : List Expr} {kk : Nat} (hg : Gl X "enumerate")
    (hm : X.mg "enumerate" = none) (ha : PA X [e] ta) (hs : starEach [e] X.env = [(false, eval e X.env)] := by rfl) :
    PI X (.Tuple elts kk tpos) (.Call (.Name "enumerate" p) [e] [] pos) (iEnumS X.K ta) :=
  piOr (pi_enum hg hm ha hs) (pi_enumT hg hm ha hs)
theorem walk_enumT {K : PySem.W.Frag} {a : Addr} {xs : List V} :
    Walk (IteT K a) xs.length (fun H => SqT K H a xs) (YPair (fun i => some (.int (i : Nat))) (fun i => xs[i]?)) := by
  refine ⟨fun i _ hi q => ⟨xs, xs[i], q, by simp [hi]⟩, fun _ q => ⟨xs, q, rfl⟩, fun i H v H' _ q y => ?_⟩
  obtain ⟨T, x, h1, h2, h3, h4⟩ := y
  exact ⟨T, .int (i : Nat), x, h1, h2, h3, rfl, h4 xs q⟩

/-! ### tuple.index over flat items -/
def rIndexT (K : PySem.W.Frag) : V → List V → Hp → VK → Prop := fun x xs H Q => ∃ (a : Addr) (ys : List V) (y : V) (j : Nat) (z : V),
  x = V.ref a ∧ xs = [y] ∧ SqT K H a ys ∧ flatV y = true ∧ ys.all flatV = true ∧ ys[j]? = some z ∧ eqV z y = true ∧
  (∀ (m : Nat) (z' : V), m < j → ys[m]? = some z' → eqV z' y = false) ∧ Q (.int (j : Nat)) H
theorem mt_indexT {X : Cx} : MtR X "tuple.index" (rIndexT X.K) := by
  intro pins s σ H x xs v us Q I rx rs h
  obtain ⟨p, ys, y, j, z, rfl, rfl, hq, fy, fys, hy, hz1, hno, q⟩ := h
  cases rx
  cases rs with
  | cons ry rt =>
    rename_i uy ut
    cases rt
    obtain ⟨its, r, pl, hz⟩ := I.tuple hq
    obtain ⟨⟨cls, dd, dt, sl⟩, ho, hc, n, hd⟩ := pl
    simp only at hc hd
    subst hc
    subst hd
    have hl : its.toArray.size = ys.length := by rw [List.size_toArray, ← r.length]
    have hj : j < its.toArray.size := by rw [hl]; exact (List.getElem?_eq_some_iff.mp hy).1
    have eqAt : ∀ (m : Nat) (hm : m < its.toArray.size), ∃ w, ys[m]? = some w ∧ eqU y its.toArray[m] = eqV w y := by
      intro m hm
      have hm' : m < ys.length := by rw [← hl]; exact hm
      obtain ⟨u', hu', ru'⟩ := r.get (i := m) (x := ys[m]) (by simp [hm'])
      refine ⟨ys[m], List.getElem?_eq_getElem hm', ?_⟩
      have e0 : its.toArray[m] = u' := by
        have e1 := (List.getElem?_eq_some_iff.mp hu').2
        rw [← e1]
        simp
      rw [e0]
      exact eqU_of ru' (flat_at fys (List.getElem?_eq_getElem hm'))
    refine call_meets PySem.F.slot_tuple_index ⟨_, ho, rfl⟩ PySem.F.entry_tuple_index (PySem.F.args_tuple_index_2 _ _)
      (TI.tuple_indexAt p its.toArray n dd sl uy (eqU y) j hj ?_ ?_)
      ⟨ho, fun w hw => mem_eqAt ry fy r fys w (by simpa using hw), ⟨.int (j : Nat), H, I.tok _, ⟨_, rfl⟩, q⟩⟩
    · obtain ⟨w, h1, h2⟩ := eqAt j hj
      rw [hy] at h1
      cases h1
      rw [h2]
      exact hz1
    · intro m hm hmj
      obtain ⟨w, h1, h2⟩ := eqAt m hm
      rw [h2]
      exact hno m w hmj h1

/-! ### several except clauses, each with a name -/
/-- one clause: the class, the name's slot, the suite's reading -/
structure Cl where
  c : Value
  i : Option Nat
  ts : Addr → Value → Option Addr → TS
def wMas (K : PySem.W.Frag) (Wout : WX) (D : Ends) : List Cl → WX
  | [] => Wout
  | ⟨c, some i, ts⟩ :: r => wAs K c i ts (wMas K Wout D r) D
  | ⟨c, none, ts⟩ :: r => fun cls d σ H => ∃ b, PySem.W.exmOne K cls c = some b ∧ (b = true → ∀ a, H a = none → ts a cls d D σ H) ∧ (b = false → wMas K Wout D r cls d σ H)
inductive HdsAs (X : Cx) : List ExceptHandler → List Cl → Prop
  | nil : HdsAs X [] []
  | cons {x n : Str} {c : Value} {i : Nat} {ts : Addr → Value → Option Addr → TS} {b₀ : Stmt} {suite : List Stmt} {np pos' : Pos}
      {hds : List ExceptHandler} {l : List Cl} (hi : X.N[i]? = some n) (hln : X.env.kindOf n = some .local) (hc : Names X x c)
      (hsu : ∀ (a : Addr) (oe : Obj) (cls : Value) (d : Option Addr) (pn : List (Addr × Obj)), Zc cls d oe →
        (∃ vs, oe.data = .fields vs) → PSs (X.suite a ((a, oe) :: pn)) (b₀ :: suite) (ts a cls d))
      (r : HdsAs X hds l) :
      HdsAs X (.ExceptHandler (some (.Name x np)) (some n) (b₀ :: suite) pos' :: hds) (⟨c, some i, ts⟩ :: l)
  | bare {x : Str} {c : Value} {ts : Addr → Value → Option Addr → TS} {b₀ : Stmt} {suite : List Stmt} {np pos' : Pos}
      {hds : List ExceptHandler} {l : List Cl} (hc : Names X x c)
      (hsu : ∀ (a : Addr) (oe : Obj) (cls : Value) (d : Option Addr) (pn : List (Addr × Obj)), Zc cls d oe →
        (∃ vs, oe.data = .fields vs) → PSs (X.suite a ((a, oe) :: pn)) (b₀ :: suite) (ts a cls d))
      (r : HdsAs X hds l) :
      HdsAs X (.ExceptHandler (some (.Name x np)) none (b₀ :: suite) pos' :: hds) (⟨c, none, ts⟩ :: l)
section
variable {X : Cx} {body : List Stmt} {h₀ : ExceptHandler} {hds : List ExceptHandler} {l : List Cl} {pos : Pos} {tb : WX → TS} {Wout : WX}
/-- the clauses one after another, the exception on the ground at h3 -/
theorem mas_go {pins : List (Addr × Obj)} {σ' : L2.St} {H' : Hp} {sI s' : Shared} {a : Addr} {B : Heap} {cls : Value} {d : Option Addr} {D : Ends}
    {h3 : Heap} (ok : X.Ok) (hs : X.stack = X.env :: X.outer) (hf : X.env.frame = some X.env.locals) (hN : X.N.Nodup) (tk : Takes X Wout)
    (J : Inv X pins σ' H' sI) (nb : ∀ b o, sI.heap.get? b = some o → b ∉ frs X.stack → B.get? b = some o)
    (up : sI.heap.UpToSlots h3) (na : H' a = none) (os : s'.os = sI.os) (ag : AllBare s'.gens)
    (fl3 : HandSPX.FlyingZ B (X.env :: X.outer) a (Zc cls d) h3) :
    ∀ {hds' : List ExceptHandler} {l' : List Cl}, HdsAs X hds' l' → wMas X.K Wout D l' cls d σ' H' →
      wpAny (model X.prog X.w) X.A (handleBy (.ref a) X.env hds') (SP X pins D) X.xe { s' with heap := h3 } := by
  have J3 : Inv X pins σ' H' { s' with heap := h3 } := J.landed nb fl3.1 up os ag
  obtain ⟨oe3, vs3, he3, hz3, hd3⟩ := fl3.there
  have nfr : a ∉ frs (X.env :: X.outer) := by
    intro hm
    obtain ⟨_, o', e', hnf⟩ := fl3.2.2.1.mem hm
    rw [he3] at e'
    cases e'
    exact hnf _ hd3
  have nL : a ≠ X.env.locals := by
    intro z
    exact nfr (List.mem_filterMap.mpr ⟨X.env, List.mem_cons_self, by rw [hf, z]⟩)
  have nF : a ∉ X.fs := by
    intro hm
    obtain ⟨e, he, q⟩ := List.mem_filterMap.mp hm
    exact nfr (List.mem_filterMap.mpr ⟨e, List.mem_cons_of_mem _ he, q⟩)
  have S3 := J3.suite he3 hd3 na nL nF
  have LT : PySem.W.Looks (model X.prog X.w) h3 (typeOf (.ref a)) cls := by
    intro A Q E s k q
    exact wpAny_typeOf_ref (k _ _ he3) (by rw [hz3.1]; exact q)
  intro hds' l' hk
  induction hk with
  | nil =>
    intro w
    refine wpAny_handleBy_nil ?_
    obtain ⟨k1, k2, k3, oe, vs, T, oT, ts', he, hz, hd, h1, hr⟩ := id fl3
    unfold PySem.passOn
    refine wpAny_bind (wpAny_field he hd h1 ?_)
    rw [if_neg (show ¬ ((Value.ref T == Value.none) = true) by simp)]
    have fin : wpAny (model X.prog X.w) X.A (setFlight (.ref a) X.env.frame)
        (fun _ s4 => wpAny (model X.prog X.w) X.A (throw (.ref a) : Sem Flow) (SP X pins D) X.xe s4) X.xe { s' with heap := h3 } := by
      rw [hf]
      refine HandSPX.setFlight_upZ fl3 fun h4 hh4 up4 => ?_
      refine wpAny_throw (tk _ _ ?_)
      exact ⟨a, B, sI, pins, σ', H', cls, d, rfl, J, nb, up.trans up4, .inr (.inr (by rw [hs]; exact hh4)), na, os, ag, w⟩
    first
      | exact wpAny_bind (wpAny_pure (wpAny_bind fin))
      | exact wpAny_bind fin
  | @cons x n c i ts b₀ suite np pos' hds2 l2 hi hln hc hsu r ih =>
    intro w
    obtain ⟨b, hb1, hyes, hno⟩ := w
    have hloc : Loc X.env.scope n := .inl hln
    refine wpAny_handleBy_cons (codeAny_handlers_test ?_) (by intro q; cases q)
    have LM := PySem.W.exm_one (M := model X.prog X.w) (J3.kIn) LT hb1
    have test : ∀ {Q : Value → Shared → Prop} {E : Value → Shared → Prop}, Q c { s' with heap := h3 } →
        wpAny (model X.prog X.w) (X.A.mark (some (.ref a))) (eval (.Name x np) X.env) Q E { s' with heap := h3 } := by
      intro Q E q
      obtain ⟨hg, hdbg, hm | ⟨hm, hv, hnn⟩⟩ := hc
      · exact ld_glob (X := X.suite a ((a, oe3) :: (X.pn ++ pins))) S3 hg hm q hdbg
      · exact ld_blt (X := X.suite a ((a, oe3) :: (X.pn ++ pins))) S3 hg hm hv q hnn hdbg
    refine test (LM.here ?_)
    cases b with
    | true =>
      refine codeAny_handlers_suite_as ?_
      refine HandSPX.lands_againZ fl3 fun h4 fl4 up4 => ?_
      have J4 : Inv X pins σ' H' { s' with heap := h4 } := J.landed nb fl4.1 (up.trans up4) os ag
      obtain ⟨oe4, vs4, he4, hz4, hd4⟩ := fl4.there
      have S4 := J4.suite he4 hd4 na nL nF
      refine store_ok (X := X.suite a ((a, oe4) :: (X.pn ++ pins))) (v := .ref a) S4 hN hi hloc rfl (fun s5 S5 => ?_) (.inr hln)
      refine wpAny_mono ((hsu a oe4 cls d (X.pn ++ pins) hz4 ⟨_, hd4⟩).run [] s5 _ H' _ S5 (hyes rfl a na)) (fun f s6 hsp => ?_) (fun _ _ z => False.elim z)
      have end_ : ∀ {σ6 : L2.St} {H6 : Hp} {Q : Shared → Prop}, Inv (X.suite a ((a, oe4) :: (X.pn ++ pins))) [] σ6 H6 s6 →
          (∀ s7, Inv X pins (σ6.set i none) H6 s7 → Q s7) →
          wpAny (model X.prog X.w) X.A (do bindName X.env n .none; unbindBehindTheSuite X.env n pos') (fun _ s7 => Q s7) X.xe s6 := by
        intro σ6 H6 Q S6 hq
        exact gone_ok (S6.unsuite ok) hN hi hln hq
      cases f with
      | next =>
        obtain ⟨σ6, H6, S6, q6⟩ := hsp
        exact end_ S6 fun s7 J7 => ⟨_, _, J7, q6⟩
      | brk =>
        obtain ⟨σ6, H6, S6, q6⟩ := hsp
        exact end_ S6 fun s7 J7 => ⟨_, _, J7, q6⟩
      | cont =>
        obtain ⟨σ6, H6, S6, q6⟩ := hsp
        exact end_ S6 fun s7 J7 => ⟨_, _, J7, q6⟩
      | ret u =>
        obtain ⟨v6, σ6, H6, S6, r6, q6⟩ := hsp
        exact end_ S6 fun s7 J7 => ⟨_, _, _, J7, r6, q6⟩
    | false =>
      show wpAny _ X.A (handleBy (.ref a) X.env hds2) _ _ _
      exact ih (hno rfl)
  | @bare x c ts b₀ suite np pos' hds2 l2 hc hsu r ih =>
    intro w
    obtain ⟨b, hb1, hyes, hno⟩ := w
    refine wpAny_handleBy_cons (codeAny_handlers_test ?_) (by intro q; cases q)
    have LM := PySem.W.exm_one (M := model X.prog X.w) (J3.kIn) LT hb1
    have test : ∀ {Q : Value → Shared → Prop} {E : Value → Shared → Prop}, Q c { s' with heap := h3 } →
        wpAny (model X.prog X.w) (X.A.mark (some (.ref a))) (eval (.Name x np) X.env) Q E { s' with heap := h3 } := by
      intro Q E q
      obtain ⟨hg, hdbg, hm | ⟨hm, hv, hnn⟩⟩ := hc
      · exact ld_glob (X := X.suite a ((a, oe3) :: (X.pn ++ pins))) S3 hg hm q hdbg
      · exact ld_blt (X := X.suite a ((a, oe3) :: (X.pn ++ pins))) S3 hg hm hv q hnn hdbg
    refine test (LM.here ?_)
    cases b with
    | true =>
      refine codeAny_handlers_suite ?_
      refine HandSPX.lands_againZ fl3 fun h4 fl4 up4 => ?_
      have J4 : Inv X pins σ' H' { s' with heap := h4 } := J.landed nb fl4.1 (up.trans up4) os ag
      obtain ⟨oe4, vs4, he4, hz4, hd4⟩ := fl4.there
      have S4 := J4.suite he4 hd4 na nL nF
      refine wpAny_mono ((hsu a oe4 cls d (X.pn ++ pins) hz4 ⟨_, hd4⟩).run [] _ _ H' _ S4 (hyes rfl a na)) (fun f s6 hsp => ?_) (fun _ _ z => False.elim z)
      cases f with
      | next =>
        obtain ⟨σ6, H6, S6, q6⟩ := hsp
        exact ⟨_, _, S6.unsuite ok, q6⟩
      | brk =>
        obtain ⟨σ6, H6, S6, q6⟩ := hsp
        exact ⟨_, _, S6.unsuite ok, q6⟩
      | cont =>
        obtain ⟨σ6, H6, S6, q6⟩ := hsp
        exact ⟨_, _, S6.unsuite ok, q6⟩
      | ret u =>
        obtain ⟨v6, σ6, H6, S6, r6, q6⟩ := hsp
        exact ⟨_, _, _, S6.unsuite ok, r6, q6⟩
    | false =>
      show wpAny _ X.A (handleBy (.ref a) X.env hds2) _ _ _
      exact ih (hno rfl)
/-- X(), X an own error without fields -/
theorem pmk_own0 {X : Cx} {C : Addr} {bmB : List Value} {B newId initId : String} {x : Str} {p pos : Pos} (F : ExcBaseFacts B newId initId bmB) (q : PySem.W.excIn X.K C bmB newId = true) (gC : X.mg x = some (.ref C))
    (kC : PySem.W.keepIn X.K (.ref C) = true) (r : Raises X (.ref C)) (hg : Gl X x) (hdb : (x == ("__debug__" : Str)) = false := by decide) :
    PMk X (.Call (.Name x p) [] [] pos) (fun _ H Q => Q (.ref C) none H) := by
  intro pins s σ H Q I h
  refine wpAny_Call_Name_kw (ld_glob I hg gC ?_ hdb)
  refine PySem.W.callWith_K0 I.kIn kC ?_
  show wpAny _ _ (call (.ref C) []) _ _ _
  obtain ⟨bm, N, nm, qn, bs, hdct, sn, sub, ab, col, dd, k0, k1, k2, k3, k5, mN, hC, hN, hni, T⟩ := exc_obj I.kIn q
  exact wpAny_call_exc_subT F T hC hN hni (fun h' e hm => mk_of I hm r h (I.hok.gone hm.new)) (Nat.zero_le _)
theorem ps_try_mas (hs : X.stack = X.env :: X.outer) (hf : X.env.frame = some X.env.locals) (hN : X.N.Nodup) (tk : Takes X Wout)
    (hb : ∀ (W : WX) (pn : List (Addr × Obj)) (xe : Value → Shared → Prop), Takes (X.tr pn xe) W →
      PassesOwn (model X.prog X.w) X.A X.env xe → PSs (X.tr pn xe) body (tb W))
    (hh : HdsAs X (h₀ :: hds) l) : PS X (.Try body (h₀ :: hds) [] [] pos) (fun D σ H => tb (wMas X.K Wout D l) D σ H) := by
  constructor
  intro pins s σ H D I h
  have ok := I.ok
  have hfr : X.A.frames = some (X.env :: X.outer) := by rw [ok.frames, hs]
  refine wpAny_Try_except ?_
  have run := (hb (wMas X.K Wout D l) (X.pn ++ pins)
    (fun e s₁ => wpAny (model X.prog X.w) X.A (noteFrame e X.env) (fun _ s₂ => wpAny (model X.prog X.w) X.A (setFlight e none)
      (fun _ s₃ => wpAny (model X.prog X.w) X.A (handleBy e X.env (h₀ :: hds)) (SP X pins D) X.xe s₃) X.xe s₂) X.xe s₁)
    (fun u s' xx => ?_) PassesOwn.looking).run [] s σ H D (I.toTry _) h
  · refine wpAny_mono run (fun f s1 hsp => ?_) (fun e s1 he => he)
    cases f with
    | next =>
      obtain ⟨σ', H', J', q⟩ := hsp
      exact wpAny_execs_nil ⟨σ', H', J'.ofTry ok, q⟩
    | brk =>
      obtain ⟨σ', H', J', q⟩ := hsp
      exact ⟨σ', H', J'.ofTry ok, q⟩
    | cont =>
      obtain ⟨σ', H', J', q⟩ := hsp
      exact ⟨σ', H', J'.ofTry ok, q⟩
    | ret u =>
      obtain ⟨v, σ', H', J', r, q⟩ := hsp
      exact ⟨v, σ', H', J'.ofTry ok, r, q⟩
  · obtain ⟨a, B, sI, pins', σ', H', cls, d, rfl, J', nb, up, sky, na, os, ag, w⟩ := xx
    have J : Inv X pins σ' H' sI := J'.ofTry ok
    have sky' : Sky B (X.env :: X.outer) a (Zc cls d) X.env.locals s'.heap := by rw [← hs]; exact sky
    show wpAny (model X.prog X.w) X.A (noteFrame (.ref a) X.env) _ _ _
    refine Sky.land Zc.steady hfr hf sky' fun h3 fl3 up3 => ?_
    exact mas_go ok hs hf hN tk J nb (up.trans up3) na os ag fl3 hh w
end

/-! ### isinstance of own classes -/
theorem kit_own {K : PySem.W.Frag} {C D : Addr} {b : Bool} (i : PySem.W.isClsIn K D = true) (ty : PySem.W.typeIn K (.ref D) = some (.type "type"))
    (s : PySem.W.subIn K (.ref C) (.ref D) = some b) (sd : PySem.W.subIn K (.ref D) (.ref D) = some true) : PySem.W.kitOne K (.ref C) (.ref D) = some b := by
  unfold PySem.W.kitOne
  by_cases e : ((Value.ref C == Value.ref D) = true)
  · rw [if_pos e]
    have e' : C = D := Value.ref.inj (beq_iff_eq.mp e)
    subst e'
    exact sd.symm.trans s
  · rw [if_neg e]
    have i' : (PySem.W.clsIn K D).isSome = true := i
    show (if ((PySem.W.clsIn K D).isSome && PySem.W.typeIn K (.ref D) == some (.type "type")) = true then PySem.W.subIn K (.ref C) (.ref D) else none) = some b
    rw [i', ty]
    exact s

/-! ### tuple(x): the new tuple's object is known to have no dict; t.index(x) of such -/
def TupO (o : Obj) : Prop := o.cls = .type "tuple" ∧ o.dict = none
def kTupZ (K : PySem.W.Frag) (x : V) (H : Hp) (Q : VK) : Prop :=
  (∃ p xs, x = .ref p ∧ SqL K H p xs ∧ ∀ q o, H q = none → TupO o → Q (.ref q) (upd H q (.frz o (.tup xs)))) ∨
    (∃ p xs, x = .ref p ∧ SqT K H p xs ∧ Q (.ref p) H)
section
variable {X : Cx}
theorem rl_tupZ (pins : List (Addr × Obj)) (s : Shared) (σ : L2.St) (H : Hp) (x : V) (v : Value) (Q : VK) (I : Inv X pins σ H s) (r : RelV x v)
    (h : kTupZ X.K x H Q) : wpAny (model X.prog X.w) X.A (call (.type "tuple") [v]) (EP X pins σ Q) X.xe s := by
  cases h with
  | inl h =>
    obtain ⟨p, xs, rfl, hs, q⟩ := h
    obtain rfl : v = .ref p := r
    obtain ⟨its, rv, pl, hz⟩ := I.list hs
    refine call_tuple_list pl.isList (fun h' hk => ?_) (by rw [List.size_toArray, ← rv.length]; exact hz)
    have I1 : Inv X pins σ H { s with heap := h' } := I.kept (t' := s.toks) hk
    have I2 : Inv X pins σ (upd H h'.objs.size (.frz { cls := .type "tuple", data := .seq its.toArray } (.tup xs)))
        { s with heap := h'.push { cls := .type "tuple", data := .seq its.toArray } } := by
      refine I1.laid (t' := s.toks) (fun b o e => Heap.get?_push_of_some _ e) (Nat.le_refl _) ?_
      have e1 : (h'.push { cls := .type "tuple", data := .seq its.toArray }).get? h'.objs.size = some { cls := .type "tuple", data := .seq its.toArray } :=
        Heap.get?_push_size _ rfl
      exact ⟨e1, hz, its, rv, IsTup.new _ _⟩
    exact ⟨.ref h'.objs.size, _, I2, rfl, q _ _ (I1.hok.fresh (Nat.le_refl _)) ⟨rfl, rfl⟩⟩
  | inr h =>
    obtain ⟨p, xs, rfl, hs, q⟩ := h
    obtain rfl : v = .ref p := r
    obtain ⟨its, rv, pl, hz⟩ := I.tuple hs
    exact call_tuple_tup pl ⟨.ref p, H, I, rfl, q⟩
theorem pe_tupleZ {a : Expr} {ta : TE} {p pos : Pos} (hg : Gl X "tuple") (hm : X.mg "tuple" = none) (ha : PE X a ta)
    (na : starEach [a] X.env = (false, eval a X.env) :: starEach [] X.env := by rfl) :
    PE X (.Call (.Name "tuple" p) [a] [] pos) (tThen ta (kTupZ X.K)) := by
  constructor
  intro pins s σ H Q I h
  exact Call_ (ld_blt I hg hm boot_tuple (PyProof.Rows.callWith_type1 (one_arg ha I h (fun v s2 x H2 I2 r q => rl_tupZ pins s2 σ H2 x v Q I2 r q) na) na))
/-- a tuple whose object has no dict -/
def TupZ (H : Hp) (a : Addr) (xs : List V) : Prop := ∃ o, H a = some (.frz o (.tup xs)) ∧ TupO o
theorem TupZ.sq {K : PySem.W.Frag} {H : Hp} {a : Addr} {xs : List V} (h : TupZ H a xs) : SqT K H a xs := by
  obtain ⟨o, h, _⟩ := h
  exact .inl (.inr ⟨o, h⟩)
def tBMZ (r : V → List V → Hp → VK → Prop) (to : TE) (t : TA) : TE := fun σ H Q => to σ H fun x H1 => (∃ a xs, x = .ref a ∧ TupZ H1 a xs) ∧ t σ H1 fun xs H2 => r x xs H2 Q
variable {o e : Expr} {es : List Expr} {to : TE} {t : TA} {name : Str} {apos cpos : Pos} {id : String} {r : V → List V → Hp → VK → Prop}
theorem pe_bmZ (slot : Slot "tuple" name id) (hty : typeOf (.builtin id) = pure (.type "method_descriptor")) (hm : MtR X id r) (ho : PE X o to) (ha : PA X (e :: es) t)
    (hbase : attributeBase o name X.env (eval o X.env) = eval o X.env := by rfl)
    (hfew : ((backTo cpos (starEach (e :: es) X.env)).all (fun x => !x.1) && (backToKw cpos (keywordEach [] X.env)).all (fun x => x.1.isSome)
      && decide ((e :: es).length + ([] : List Keyword).length + (if ([] : List Keyword).isEmpty then 0 else 1) < 30)) = true := by rfl)
    (hline : (apos.endLine == cpos.line) = true := by rfl) (hs : starEach (e :: es) X.env = (false, eval e X.env) :: starEach es X.env := by rfl)
    (hplain : (backTo cpos (starEach es X.env)).any (·.1) = false := by rfl) :
    PE X (.Call (.Attribute o name apos) (e :: es) [] cpos) (tBMZ r to t) := by
  constructor
  intro pins s σ H Q I h
  refine wpAny_Call_method_late hbase hfew hline rfl (thn (ho.run pins s σ H _ I h) fun v s1 hh => ?_)
  obtain ⟨x, H1, I1, r1, ⟨a, xs, ex, ob, hob, hc, hd⟩, q1⟩ := hh
  subst ex
  obtain rfl : v = .ref a := r1
  obtain ⟨hget, _⟩ := (show ObjOk X.prog X.w H1 s1.heap a (.frz ob (.tup xs)) from I1.hok a _ hob)
  refine ⟨"tuple", id, PySem.F.plainAttrs_tuple, slot, hty, ⟨ob, hget, hc⟩, fun b e => ?_, ?_⟩
  · cases e
    exact ⟨ob, hget, hd⟩
  · have hA := ha.run cpos pins s1 σ H1 _ I1 q1
    rw [hs] at hA ⊢
    refine Calls.callWith_builtin (by show (false || (backTo cpos (starEach es X.env)).any (·.1)) = false; rw [hplain] <;> rfl) (Calls.evalArgs_plain ?_)
    exact thn hA fun us s2 hh => by
      obtain ⟨vs, H2, I2, r2, q2⟩ := hh
      exact hm pins s2 σ H2 (.ref a) vs (.ref a) us Q I2 rfl r2 q2

/-! ### is True, is False, of any value -/
theorem rel_bl {x : V} {v : Value} (r : RelV x v) (b : Bool) : (v = Value.bool b) ↔ x = .bl b := by
  cases x with
  | bl c =>
    cases (show v = Value.bool c from r)
    exact ⟨fun e => by cases e; rfl, fun e => by cases e; rfl⟩
  | non => cases (show v = Value.none from r); exact ⟨(fun e => nomatch e), (fun e => nomatch e)⟩
  | int _ => obtain ⟨t, rfl⟩ := r; exact ⟨(fun e => nomatch e), (fun e => nomatch e)⟩
  | str _ => obtain ⟨t, rfl⟩ := r; exact ⟨(fun e => nomatch e), (fun e => nomatch e)⟩
  | byt _ => obtain ⟨t, rfl⟩ := r; exact ⟨(fun e => nomatch e), (fun e => nomatch e)⟩
  | flt _ => obtain ⟨t, rfl⟩ := r; exact ⟨(fun e => nomatch e), (fun e => nomatch e)⟩
  | ref _ => cases r; exact ⟨(fun e => nomatch e), (fun e => nomatch e)⟩
  | ty _ => cases r; exact ⟨(fun e => nomatch e), (fun e => nomatch e)⟩
def rIsB : R2 := fun x y H Q => ∃ b, y = .bl b ∧ Q (.bl (decide (x = .bl b))) H
theorem op_isB : OpR X (compareOp .Is) rIsB := by
  intro pins s σ H x y v u Q I rx ry h
  obtain ⟨b, rfl, q⟩ := h
  cases (show u = Value.bool b from ry)
  by_cases e : x = .bl b
  · have ev := (rel_bl rx b).mpr e
    subst ev
    exact wpAny_is_self rfl ⟨.bl true, H, I, rfl, by simpa [e] using q⟩
  · have ev : ¬ v = Value.bool b := fun z => e ((rel_bl rx b).mp z)
    refine wpAny_is_other ?_ ev ⟨.bl false, H, I, rfl, by simpa [e] using q⟩
    cases x with
    | bl c => cases (show v = Value.bool c from rx); rfl
    | non => cases (show v = Value.none from rx); rfl
    | int _ => obtain ⟨t, rfl⟩ := rx; rfl
    | str _ => obtain ⟨t, rfl⟩ := rx; rfl
    | byt _ => obtain ⟨t, rfl⟩ := rx; rfl
    | flt _ => obtain ⟨t, rfl⟩ := rx; rfl
    | ref _ => cases rx; rfl
    | ty _ => cases rx; rfl
end
end L3
/-! What stays (I, a part of the heap H that is never written again), what a call may change (Lf), data told by Dp over I; the law's hand. -/
namespace L3
open PySem PySem.Spec PyProof.Rows L2

/-! ### what a call may change -/
structure Lf (M : Addr → Prop) (I H I' H' : Hp) : Prop where
  ext : Same I I'
  sub : Same I' H'
  new : ∀ b, I' b ≠ none → I b ≠ none ∨ H b = none
  keep : ∀ b o, ¬ M b → H b = some o → H' b = some o
  there : ∀ b, H b ≠ none → H' b ≠ none
def No : Addr → Prop := fun _ => False
section
variable {M M' : Addr → Prop} {I H I1 H1 I2 H2 : Hp} {a p : Addr} {o u : HO}
theorem Lf.refl (s : Same I H) : Lf M I H I H := ⟨Same.refl I, s, fun _ h => .inl h, fun _ _ _ h => h, fun _ h => h⟩
theorem Lf.trans (x : Lf M I H I1 H1) (y : Lf M I1 H1 I2 H2) : Lf M I H I2 H2 where
  ext := x.ext.trans y.ext
  sub := y.sub
  new := by
    intro b h
    cases y.new b h with
    | inl q => exact x.new b q
    | inr q =>
      cases e : H b with
      | none => exact .inr rfl
      | some z => exact absurd q (x.there b (by rw [e]; simp))
  keep := fun b o n h => y.keep b o n (x.keep b o n h)
  there := fun b h => y.there b (x.there b h)
theorem Lf.mono (x : Lf M I H I1 H1) (h : ∀ b, M b → M' b) : Lf M' I H I1 H1 :=
  ⟨x.ext, x.sub, x.new, fun b o n e => x.keep b o (fun z => n (h b z)) e, x.there⟩
theorem Lf.any (x : Lf No I H I1 H1) : Lf M I H I1 H1 := x.mono fun _ h => h.elim
theorem Lf.same (x : Lf No I H I1 H1) : Same H H1 := fun b o e => x.keep b o (fun h => h) e
theorem Lf.off (x : Lf M I H I1 H1) (h : I a = none) (t : H a ≠ none) : I1 a = none := by
  cases e : I1 a with
  | none => rfl
  | some o =>
    cases x.new a (by rw [e]; simp) with
    | inl q => exact absurd h q
    | inr q => exact absurd q t
theorem Lf.free (x : Lf M I H I1 H1) (h : H1 a = none) : H a = none := by
  cases e : H a with
  | none => rfl
  | some o => exact absurd h (x.there a (by rw [e]; simp))
theorem Same.sub (s : Same I H) (h : H a = none) : I a = none := by
  cases e : I a with
  | none => rfl
  | some o => rw [s a o e] at h; cases h
/-- a new object that may still change -/
theorem Lf.alloc (s : Same I H) (h : H p = none) : Lf M I H I (upd H p o) :=
  ⟨Same.refl I, fun b z e => by rw [upd_ne (ne_of_none (s b z e) h)]; exact s b z e, fun _ q => .inl q,
    fun b z _ e => by rw [upd_ne (ne_of_none e h)]; exact e, fun b e => by unfold upd; split <;> simp_all⟩
/-- a new object that stays -/
theorem Lf.put (s : Same I H) (h : H p = none) : Lf M I H (upd I p o) (upd H p o) where
  ext := fun b z e => by rw [upd_ne (ne_of_none (s b z e) h)]; exact e
  sub := fun b z e => by
    unfold upd at e ⊢
    split
    · rename_i hb; rw [if_pos hb] at e; exact e
    · rename_i hb; rw [if_neg hb] at e; exact s b z e
  new := fun b q => by
    by_cases hb : b = p
    · subst hb; exact .inr h
    · rw [upd_ne hb] at q; exact .inl q
  keep := fun b z _ e => by rw [upd_ne (ne_of_none e h)]; exact e
  there := fun b e => by unfold upd; split <;> simp_all
/-- the new object at p stays from now on -/
theorem Lf.freeze (x : Lf M I H I1 H1) (s : Same I H) (h : H p = none) (e : H1 p = some o) : Lf M I H (upd I1 p o) H1 where
  ext := fun b z q => by rw [upd_ne (ne_of_none (s b z q) h)]; exact x.ext b z q
  sub := fun b z q => by
    by_cases hb : b = p
    · subst hb; rw [upd_same] at q; rw [← q]; exact e
    · rw [upd_ne hb] at q; exact x.sub b z q
  new := fun b q => by
    by_cases hb : b = p
    · subst hb; exact .inr h
    · rw [upd_ne hb] at q; exact x.new b q
  keep := x.keep
  there := x.there
/-- an object that is new since H is written -/
theorem Lf.set (x : Lf M I H I1 H1) (h : H p = none) (e : H1 p = some u) (n : I1 p = none) : Lf M I H I1 (upd H1 p o) where
  ext := x.ext
  sub := fun b z q => by
    have hb : b ≠ p := fun z => by rw [z, n] at q; cases q
    rw [upd_ne hb]; exact x.sub b z q
  new := x.new
  keep := fun b z nm q => by rw [upd_ne (ne_of_none q h)]; exact x.keep b z nm q
  there := fun b q => by
    by_cases hb : b = p
    · subst hb; rw [upd_same]; simp
    · rw [upd_ne hb]; exact x.there b q
/-- an object of M is written -/
theorem Lf.setM (s : Same I H) (m : M p) (e : H p = some u) (n : I p = none) : Lf M I H I (upd H p o) where
  ext := Same.refl I
  sub := fun b z q => by
    have hb : b ≠ p := fun z => by rw [z, n] at q; cases q
    rw [upd_ne hb]; exact s b z q
  new := fun _ q => .inl q
  keep := fun b z nm q => by
    have hb : b ≠ p := fun z => nm (z ▸ m)
    rw [upd_ne hb]; exact q
  there := fun b q => by
    by_cases hb : b = p
    · subst hb; rw [upd_same]; simp
    · rw [upd_ne hb]; exact q
theorem Same.updI (s : Same I H) (n : I p = none) : Same I (upd H p o) := fun b z q => by
  have hb : b ≠ p := fun z => by rw [z, n] at q; cases q
  rw [upd_ne hb]; exact s b z q
theorem none_ne {b : Addr} (h : H b = some o) : H b ≠ none := by rw [h]; simp
end

/-! ### data -/
section
variable {K : PySem.W.Frag} {I J : Hp}
theorem Same.seqT {a : Addr} {xs : List V} (e : Same I J) (h : SqT K I a xs) : SqT K J a xs := by
  rcases h with (h | ⟨o, h⟩) | h
  · exact .inl (.inl (e _ _ h))
  · exact .inl (.inr ⟨o, e _ _ h⟩)
  · exact .inr h
mutual
theorem dmono (e : Same I J) : ∀ (d : PyData) (v : V), Dp K I v d → Dp K J v d
  | .none, _, .non => .non
  | .bool _, _, .bl b => .bl b
  | .int _, _, .int i => .int i
  | .str _, _, .str x => .str x
  | .list ds, _, .lst h q => .lst (e.seq h) (dmonoA e ds _ q)
  | .tuple ds, _, .tup h q => .tup (Same.seqT e h) (dmonoA e ds _ q)
theorem dmonoA (e : Same I J) : ∀ (ds : List PyData) (vs : List V), DpAll K I vs ds → DpAll K J vs ds
  | [], _, .nil => .nil
  | d :: ds, _, .cons h q => .cons (dmono e d _ h) (dmonoA e ds _ q)
end
theorem Dp.up {v : V} {d : PyData} (h : Dp K I v d) (e : Same I J) : Dp K J v d := dmono e d v h
theorem DpAll.up {vs : List V} {ds : List PyData} (h : DpAll K I vs ds) (e : Same I J) : DpAll K J vs ds := dmonoA e ds vs h
theorem DpAll.append {vs ws : List V} {ds es : List PyData} : DpAll K I vs ds → DpAll K I ws es → DpAll K I (vs ++ ws) (ds ++ es)
  | .nil, q => q
  | .cons h t, q => .cons h (DpAll.append t q)
theorem DpAll.length : ∀ {vs : List V} {ds : List PyData}, DpAll K I vs ds → vs.length = ds.length
  | _, _, .nil => rfl
  | _, _, .cons _ t => by rw [List.length_cons, List.length_cons, DpAll.length t]
theorem DpAll.get : ∀ {vs : List V} {ds : List PyData} {i : Nat} {d : PyData}, DpAll K I vs ds → ds[i]? = some d → ∃ v, vs[i]? = some v ∧ Dp K I v d
  | _, _, _, _, .nil, e => by simp at e
  | _, _, 0, _, .cons h _, e => by simp at e; subst e; exact ⟨_, rfl, h⟩
  | _, _, i + 1, d, .cons _ t, e => by
    obtain ⟨v, h1, h2⟩ := DpAll.get (i := i) (d := d) t (by simpa using e)
    exact ⟨v, by simpa using h1, h2⟩
theorem DpAll.getV : ∀ {vs : List V} {ds : List PyData} {i : Nat} {v : V}, DpAll K I vs ds → vs[i]? = some v → ∃ d, ds[i]? = some d ∧ Dp K I v d
  | _, _, _, _, .nil, e => by simp at e
  | _, _, 0, _, .cons h _, e => by simp at e; subst e; exact ⟨_, rfl, h⟩
  | _, _, i + 1, v, .cons _ t, e => by
    obtain ⟨d, h1, h2⟩ := DpAll.getV (i := i) (v := v) t (by simpa using e)
    exact ⟨d, by simpa using h1, h2⟩
theorem DpAll.ints : ∀ (ns : List Int), DpAll K I (ns.map V.int) (ns.map PyData.int)
  | [] => .nil
  | n :: ns => .cons (.int n) (DpAll.ints ns)
theorem DpAll.isInts : ∀ {vs : List V} {ns : List Int}, DpAll K I vs (ns.map PyData.int) → vs = ns.map V.int
  | _, [], .nil => rfl
  | _, n :: ns, .cons h t => by
    cases h
    rw [DpAll.isInts t]
    rfl
theorem DpAll.take : ∀ {vs : List V} {ds : List PyData} (n : Nat), DpAll K I vs ds → DpAll K I (vs.take n) (ds.take n)
  | _, _, 0, _ => .nil
  | _, _, _ + 1, .nil => .nil
  | _, _, n + 1, .cons h t => .cons h (DpAll.take n t)
theorem DpAll.drop : ∀ {vs : List V} {ds : List PyData} (n : Nat), DpAll K I vs ds → DpAll K I (vs.drop n) (ds.drop n)
  | _, _, 0, h => h
  | _, _, _ + 1, .nil => .nil
  | _, _, n + 1, .cons _ t => DpAll.drop n t
theorem Dp.ofInt {v : V} {n : Int} (h : Dp K I v (.int n)) : v = .int n := by cases h; rfl
theorem Dp.tupAt {a : Addr} {ds : List PyData} (h : Dp K I (.ref a) (.tuple ds)) : ∃ xs, SqT K I a xs ∧ DpAll K I xs ds := by
  cases h with
  | tup h q => exact ⟨_, h, q⟩
theorem Dp.lstAt {a : Addr} {ds : List PyData} (h : Dp K I (.ref a) (.list ds)) : ∃ xs, SqL K I a xs ∧ DpAll K I xs ds := by
  cases h with
  | lst h q => exact ⟨_, h, q⟩
theorem Dp.tupRef {v : V} {ds : List PyData} (h : Dp K I v (.tuple ds)) : ∃ a xs, v = .ref a ∧ SqT K I a xs ∧ DpAll K I xs ds := by
  cases h with
  | tup h q => exact ⟨_, _, rfl, h, q⟩
theorem Dp.lstRef {v : V} {ds : List PyData} (h : Dp K I v (.list ds)) : ∃ a xs, v = .ref a ∧ SqL K I a xs ∧ DpAll K I xs ds := by
  cases h with
  | lst h q => exact ⟨_, _, rfl, h, q⟩
end

/-! ### readings, step by step -/
section
variable {σ : L2.St} {H : Hp} {Q : VK} {i : Nat} {v x y : V} {ta tb te : TE} {K : PySem.W.Frag}
theorem w_var (e : σ[i]? = some (some v)) (q : Q v H) : tVar i σ H Q := ⟨v, e, q⟩
theorem w_c (q : Q v H) : tC v σ H Q := q
theorem w_op {r : R2} (q : ta σ H fun x H1 => tb σ H1 fun y H2 => r x y H2 Q) : tOp r ta tb σ H Q := q
theorem w_un {r : V → Hp → VK → Prop} (q : ta σ H fun x H1 => r x H1 Q) : tUn r ta σ H Q := q
theorem w_rU {g : Int → V} {n : Int} (q : Q (g n) H) : rU g (.int n) H Q := ⟨n, rfl, q⟩
theorem w_cons {tr : TA} {Q : List V → Hp → Prop} (q : ta σ H fun x H1 => tr σ H1 fun xs H2 => Q (x :: xs) H2) : tCons ta tr σ H Q := q
theorem w_nil {Q : List V → Hp → Prop} (q : Q [] H) : tNil σ H Q := q
theorem w_test {Q : Bool → Hp → Prop} (q : te σ H fun x H' => ∃ k, x = .bl k ∧ Q k H') : tTest te σ H Q := q
theorem w_tB {Q : Bool → Hp → Prop} (q : te σ H fun x H' => ∃ k, x = .bl k ∧ Q k H') : tB te σ H Q := q
theorem w_bl {k : Bool} {Q : Bool → Prop} (q : Q k) : ∃ k', V.bl k = .bl k' ∧ Q k' := ⟨k, rfl, q⟩
theorem w_rI0 {g : Int → Int → V} {m n : Int} (q : Q (g m n) H) : rI0 g (.int m) (.int n) H Q := ⟨m, n, rfl, rfl, q⟩
theorem w_rI {C : Int → Int → Prop} {g : Int → Int → V} {m n : Int} (c : C m n) (q : Q (g m n) H) : rI C g (.int m) (.int n) H Q := ⟨m, n, rfl, rfl, c, q⟩
theorem w_call {sp : Sp} {dvs : List V} {E : XK} {t : TA} (q : t σ H fun vs H1 => sp (vs ++ dvs) H1 Q E) : tCall sp dvs E t σ H Q := q
theorem w_CB {r : List V → Hp → VK → Prop} {t : TA} (q : t σ H fun vs H1 => r vs H1 Q) : tCB r t σ H Q := q
theorem w_tup {t : TA} (q : t σ H fun xs H1 => xs.length ≤ sizeLine ∧ ∀ p, H1 p = none → Q (.ref p) (upd H1 p (.tup xs))) : tTup t σ H Q := q
theorem w_lst {t : TA} (q : t σ H fun xs H1 => xs.length ≤ sizeLine ∧ ∀ p, H1 p = none → Q (.ref p) (upd H1 p (.lst xs))) : tLst t σ H Q := q
theorem w_ifE {t : TT} (q : t σ H fun c H1 => if c = true then ta σ H1 Q else tb σ H1 Q) : tIf t ta tb σ H Q := q
theorem w_then {k : V → Hp → VK → Prop} (q : ta σ H fun x H1 => k x H1 Q) : tThen ta k σ H Q := q
theorem w_BM {T : String} {r : V → List V → Hp → VK → Prop} {t : TA} (q : ta σ H fun x H1 => tyV K T x H1 ∧ t σ H1 fun xs H2 => r x xs H2 Q) : tBM K T r ta t σ H Q := q
theorem w_not {t : TT} {Q : Bool → Hp → Prop} (q : t σ H fun c H1 => Q (!c) H1) : tNot t σ H Q := q
theorem w_and {t u : TT} {Q : Bool → Hp → Prop} (q : t σ H fun c H1 => if c = true then u σ H1 Q else Q false H1) : tAnd t u σ H Q := q
theorem w_or {t u : TT} {Q : Bool → Hp → Prop} (q : t σ H fun c H1 => if c = true then Q true H1 else u σ H1 Q) : tOr t u σ H Q := q
theorem w_andV (q : ta σ H fun x H1 => ∃ c, x = .bl c ∧ if c = true then tb σ H1 Q else Q (.bl false) H1) : tAndV ta tb σ H Q := q
theorem w_orV (q : ta σ H fun x H1 => ∃ c, x = .bl c ∧ if c = true then Q (.bl true) H1 else tb σ H1 Q) : tOrV ta tb σ H Q := q
theorem w_notV (q : ta σ H fun x H1 => ∃ c, x = .bl c ∧ Q (.bl (!c)) H1) : tNotV ta σ H Q := q
theorem w_isN (q : Q (.bl (decide (x = .non))) H) : (fun x y H Q => y = V.non ∧ Q (.bl (decide (x = .non))) H : R2) x .non H Q := ⟨rfl, q⟩
theorem w_eqI {m n : Int} (q : Q (.bl (decide (m = n))) H) : rEq (.int m) (.int n) H Q := ⟨rfl, by
  have e : decide (V.int m = V.int n) = decide (m = n) := by simp
  rw [e]; exact q⟩
theorem w_neI {m n : Int} (q : Q (.bl (!decide (m = n))) H) : rNe (.int m) (.int n) H Q := ⟨rfl, by
  have e : decide (V.int m = V.int n) = decide (m = n) := by simp
  rw [e]; exact q⟩
variable {D : Ends}
theorem w_seq {t u : TS} (q : t { D with nx := u D } σ H) : tSeq t u D σ H := q
theorem w_next (q : D.nx σ H) : tNext D σ H := q
theorem w_ret (q : te σ H D.rt) : tRet te D σ H := q
theorem w_retN (q : D.rt .non H) : tRetN D σ H := q
theorem w_drop (q : te σ H fun _ H1 => D.nx σ H1) : tDrop te D σ H := q
theorem w_asg {g : TG} (q : te σ H fun x H1 => g x σ H1 D.nx) : tAsg te g D σ H := q
theorem w_name {Q : L2.St → Hp → Prop} (q : Q (σ.set i (some v)) H) : gName i v σ H Q := q
theorem w_ifS {c : TT} {t u : TS} (q : c σ H fun b H1 => if b = true then t D σ H1 else u D σ H1) : tIfS c t u D σ H := q
theorem w_if {p : Prop} [Decidable p] {A B : Prop} (h1 : p → A) (h2 : ¬ p → B) : if decide p = true then A else B := by
  by_cases h : p
  · rw [if_pos (decide_eq_true h)]; exact h1 h
  · rw [if_neg (by simpa using h)]; exact h2 h
theorem w_ifn {p : Prop} [Decidable p] {A B : Prop} (h1 : ¬ p → A) (h2 : p → B) : if (!decide p) = true then A else B := by
  by_cases h : p
  · rw [if_neg (by simpa using h)]; exact h2 h
  · rw [if_pos (by simpa using h)]; exact h1 h
theorem w_ifb {b : Bool} {A B : Prop} (h1 : b = true → A) (h2 : b = false → B) : if b = true then A else B := by
  cases b with
  | true => rw [if_pos rfl]; exact h1 rfl
  | false => rw [if_neg Bool.false_ne_true]; exact h2 rfl
/-- an item -/
theorem w_ixL {p : Addr} {xs : List V} {n : Int} (h : SqL K H p xs) (e : atI xs n = some v) (q : Q v H) : rIx K (.ref p) (.int n) H Q := .inl ⟨p, xs, n, v, rfl, rfl, h, e, q⟩
theorem w_ixT {p : Addr} {xs : List V} {n : Int} (h : SqT K H p xs) (e : atI xs n = some v) (q : Q v H) : rIx K (.ref p) (.int n) H Q := .inr (.inl ⟨p, xs, n, v, rfl, rfl, h, e, q⟩)
theorem w_len {r : Nat → Prop} {p : Addr} {xs : List V} (h : SqL K H p xs ∨ SqT K H p xs) (q : Q (.int xs.length) H) :
    ∃ p' ys, [V.ref p] = [V.ref p'] ∧ (SqL K H p' ys ∨ SqT K H p' ys) ∧ Q (.int ys.length) H := ⟨p, xs, rfl, h, q⟩
end

/-! ### named readings of built-in calls -/
section
variable {X : Cx} {H : Hp} {Q : VK} {K : PySem.W.Frag}
def rInt1 : List V → Hp → VK → Prop := fun xs H Q => ∃ i, xs = [.int i] ∧ Q (.int i) H
theorem call_intI : CallR X (.type "int") rInt1 := fun pins s σ H xs us Q I r h => call_int1 pins s σ H xs us Q I r (.inl h)
theorem w_int1 {n : Int} (q : Q (.int n) H) : rInt1 [.int n] H Q := ⟨n, rfl, q⟩
def rAbsI : List V → Hp → VK → Prop := fun xs H Q => ∃ i, xs = [.int i] ∧ Q (.int (if i < 0 then -i else i)) H
theorem call_absI : CallR X (.builtin "abs") rAbsI := call_abs
theorem w_abs {n : Int} (q : Q (.int (if n < 0 then -n else n)) H) : rAbsI [.int n] H Q := ⟨n, rfl, q⟩
def rLenS (K : PySem.W.Frag) : List V → Hp → VK → Prop := fun xs H Q => ∃ p ys, xs = [.ref p] ∧ (SqL K H p ys ∨ SqT K H p ys) ∧ Q (.int ys.length) H
theorem call_lenS : CallR X (.builtin "len") (rLenS X.K) := call_len_seq
theorem w_lenL {p : Addr} {xs : List V} (h : SqL K H p xs) (q : Q (.int xs.length) H) : rLenS K [.ref p] H Q := ⟨p, xs, rfl, .inl h, q⟩
theorem w_lenT {p : Addr} {xs : List V} (h : SqT K H p xs) (q : Q (.int xs.length) H) : rLenS K [.ref p] H Q := ⟨p, xs, rfl, .inr h, q⟩
def rListOf (K : PySem.W.Frag) : List V → Hp → VK → Prop := fun xs H Q => ∃ p ys, xs = [.ref p] ∧ (SqL K H p ys ∨ SqT K H p ys) ∧ ∀ l, H l = none → Q (.ref l) (upd H l (.lst ys))
theorem call_listOf : CallR X (.type "list") (rListOf X.K) := call_list_of
def rIsN' : R2 := fun x y H Q => y = .non ∧ Q (.bl (decide (x = .non))) H
def rNotN' : R2 := fun x y H Q => y = .non ∧ Q (.bl (!decide (x = .non))) H
theorem op_isN' : OpR X (compareOp .Is) rIsN' := op_isN
theorem op_notN' : OpR X (compareOp .IsNot) rNotN' := op_notN
theorem w_isN' {x : V} (q : Q (.bl (decide (x = .non))) H) : rIsN' x .non H Q := ⟨rfl, q⟩
theorem w_notN' {x : V} (q : Q (.bl (!decide (x = .non))) H) : rNotN' x .non H Q := ⟨rfl, q⟩
/-- isinstance: the type of a value, the answer -/
theorem w_isi {x : V} {n : String} {t : Value} {b : Bool} (ty : TyX K H x t) (e : PySem.W.kitOne K t (.type n) = some b) (q : Q (.bl b) H) : rIsi K [x, .ty n] H Q :=
  ⟨x, .ty n, t, .type n, b, rfl, .ty n, ty, e, q⟩
end

/-! ### types of data -/
def tyD : PyData → String
  | .none => "NoneType"
  | .bool _ => "bool"
  | .int _ => "int"
  | .str _ => "str"
  | .list _ => "list"
  | .tuple _ => "tuple"
  | .dict _ => "dict"
section
variable {K : PySem.W.Frag} {I H : Hp} {Q : VK} {v : V} {d : PyData}
theorem SqL.tyx {a : Addr} {xs : List V} (h : SqL K H a xs) : TyX K H (.ref a) (.type "list") := by
  rcases h with (h | ⟨o, h⟩) | ⟨o, its, n, h, c, _⟩
  · exact .base (.lst h)
  · exact .base (.frz h)
  · exact .kList h c
theorem SqT.tyx {a : Addr} {xs : List V} (h : SqT K H a xs) : TyX K H (.ref a) (.type "tuple") := by
  rcases h with (h | ⟨o, h⟩) | ⟨o, its, n, h, c, _⟩
  · exact .base (.tup h)
  · exact .fTuple h
  · exact .kTuple h c
theorem Dp.tyx (h : Dp K H v d) : TyX K H v (.type (tyD d)) := by
  cases h with
  | non => exact .base .non
  | bl b => exact .base (.bl b)
  | int i => exact .base (.int i)
  | str x => exact .base (.str x)
  | lst h _ => exact SqL.tyx h
  | tup h _ => exact SqT.tyx h
def dInt : PyData → Bool
  | .int _ => true
  | .bool _ => true
  | _ => false
def dBool : PyData → Bool
  | .bool _ => true
  | _ => false
def dStr : PyData → Bool
  | .str _ => true
  | _ => false
def dTup : PyData → Bool
  | .tuple _ => true
  | _ => false
def dLst : PyData → Bool
  | .list _ => true
  | _ => false
theorem kit_int : ∀ d : PyData, PySem.W.kitOne K (.type (tyD d)) (.type "int") = some (dInt d)
  | .none => kit_ty (a := "NoneType") (b := "int") (r := false) (by decide +kernel)
  | .bool _ => kit_ty (a := "bool") (b := "int") (r := true) (by decide +kernel)
  | .int _ => kit_ty (a := "int") (b := "int") (r := true) (by decide +kernel)
  | .str _ => kit_ty (a := "str") (b := "int") (r := false) (by decide +kernel)
  | .list _ => kit_ty (a := "list") (b := "int") (r := false) (by decide +kernel)
  | .tuple _ => kit_ty (a := "tuple") (b := "int") (r := false) (by decide +kernel)
  | .dict _ => kit_ty (a := "dict") (b := "int") (r := false) (by decide +kernel)
theorem kit_bool : ∀ d : PyData, PySem.W.kitOne K (.type (tyD d)) (.type "bool") = some (dBool d)
  | .none => kit_ty (a := "NoneType") (b := "bool") (r := false) (by decide +kernel)
  | .bool _ => kit_ty (a := "bool") (b := "bool") (r := true) (by decide +kernel)
  | .int _ => kit_ty (a := "int") (b := "bool") (r := false) (by decide +kernel)
  | .str _ => kit_ty (a := "str") (b := "bool") (r := false) (by decide +kernel)
  | .list _ => kit_ty (a := "list") (b := "bool") (r := false) (by decide +kernel)
  | .tuple _ => kit_ty (a := "tuple") (b := "bool") (r := false) (by decide +kernel)
  | .dict _ => kit_ty (a := "dict") (b := "bool") (r := false) (by decide +kernel)
theorem kit_str : ∀ d : PyData, PySem.W.kitOne K (.type (tyD d)) (.type "str") = some (dStr d)
  | .none => kit_ty (a := "NoneType") (b := "str") (r := false) (by decide +kernel)
  | .bool _ => kit_ty (a := "bool") (b := "str") (r := false) (by decide +kernel)
  | .int _ => kit_ty (a := "int") (b := "str") (r := false) (by decide +kernel)
  | .str _ => kit_ty (a := "str") (b := "str") (r := true) (by decide +kernel)
  | .list _ => kit_ty (a := "list") (b := "str") (r := false) (by decide +kernel)
  | .tuple _ => kit_ty (a := "tuple") (b := "str") (r := false) (by decide +kernel)
  | .dict _ => kit_ty (a := "dict") (b := "str") (r := false) (by decide +kernel)
theorem kit_tup : ∀ d : PyData, PySem.W.kitOne K (.type (tyD d)) (.type "tuple") = some (dTup d)
  | .none => kit_ty (a := "NoneType") (b := "tuple") (r := false) (by decide +kernel)
  | .bool _ => kit_ty (a := "bool") (b := "tuple") (r := false) (by decide +kernel)
  | .int _ => kit_ty (a := "int") (b := "tuple") (r := false) (by decide +kernel)
  | .str _ => kit_ty (a := "str") (b := "tuple") (r := false) (by decide +kernel)
  | .list _ => kit_ty (a := "list") (b := "tuple") (r := false) (by decide +kernel)
  | .tuple _ => kit_ty (a := "tuple") (b := "tuple") (r := true) (by decide +kernel)
  | .dict _ => kit_ty (a := "dict") (b := "tuple") (r := false) (by decide +kernel)
theorem kit_lst : ∀ d : PyData, PySem.W.kitOne K (.type (tyD d)) (.type "list") = some (dLst d)
  | .none => kit_ty (a := "NoneType") (b := "list") (r := false) (by decide +kernel)
  | .bool _ => kit_ty (a := "bool") (b := "list") (r := false) (by decide +kernel)
  | .int _ => kit_ty (a := "int") (b := "list") (r := false) (by decide +kernel)
  | .str _ => kit_ty (a := "str") (b := "list") (r := false) (by decide +kernel)
  | .list _ => kit_ty (a := "list") (b := "list") (r := true) (by decide +kernel)
  | .tuple _ => kit_ty (a := "tuple") (b := "list") (r := false) (by decide +kernel)
  | .dict _ => kit_ty (a := "dict") (b := "list") (r := false) (by decide +kernel)
theorem w_isInt (h : Dp K H v d) (q : Q (.bl (dInt d)) H) : rIsi K [v, .ty "int"] H Q := w_isi (Dp.tyx h) (kit_int d) q
theorem w_isBool (h : Dp K H v d) (q : Q (.bl (dBool d)) H) : rIsi K [v, .ty "bool"] H Q := w_isi (Dp.tyx h) (kit_bool d) q
theorem w_isStr (h : Dp K H v d) (q : Q (.bl (dStr d)) H) : rIsi K [v, .ty "str"] H Q := w_isi (Dp.tyx h) (kit_str d) q
theorem w_isTup (h : Dp K H v d) (q : Q (.bl (dTup d)) H) : rIsi K [v, .ty "tuple"] H Q := w_isi (Dp.tyx h) (kit_tup d) q
theorem w_isLst (h : Dp K H v d) (q : Q (.bl (dLst d)) H) : rIsi K [v, .ty "list"] H Q := w_isi (Dp.tyx h) (kit_lst d) q
/-- isinstance(x, (list, tuple)) -/
theorem w_isSeq {p : Addr} (e : H p = some (.tup [.ty "list", .ty "tuple"])) (h : Dp K H v d) (q : Q (.bl (dLst d || dTup d)) H) : rIsiT K [v, .ref p] H Q := by
  refine ⟨v, p, [.ty "list", .ty "tuple"], .type (tyD d), [.type "list", .type "tuple"], dLst d || dTup d, rfl, e, .cons (.ty _) (.cons (.ty _) .nil), Dp.tyx h, ?_, q⟩
  have h1 := kit_lst (K := K) d
  have h2 := kit_tup (K := K) d
  unfold PySem.W.kitAny
  rw [h1]
  cases d <;> first | rfl | (unfold PySem.W.kitAny; rw [h2]; rfl)
end

/-! ### stores and items -/
section
variable {σ : L2.St} {H : Hp} {v : V} {K : PySem.W.Frag} {to ti : TE}
theorem w_gsub {t : TSet} {Q : L2.St → Hp → Prop} (q : to σ H fun o H1 => ti σ H1 fun i H2 => t o i v H2 fun H3 => Q σ H3) : gSub to ti t v σ H Q := q
theorem w_setL {p : Addr} {xs : List V} {n : Int} {j : Nat} {Q : Hp → Prop} (h : H p = some (.lst xs)) (e : ixN xs.length n = some j) (q : Q (upd H p (.lst (xs.set j v)))) : rSetL (.ref p) (.int n) v H Q :=
  ⟨p, xs, n, j, rfl, rfl, h, e, q⟩
theorem upd2 {p : Addr} {o u : HO} : upd (upd H p o) p u = upd H p u := by
  funext b
  by_cases h : b = p
  · rw [h, upd_same, upd_same]
  · rw [upd_ne h, upd_ne h, upd_ne h]
theorem ofL {p : Addr} {xs : List V} (h : H p = some (.lst xs)) : SqL K H p xs := .inl (.inl h)
theorem ofT {p : Addr} {xs : List V} (h : H p = some (.tup xs)) : SqT K H p xs := .inl (.inl h)
theorem w_append {p : Addr} {xs : List V} {Q : VK} (h : H p = some (.lst xs)) (l : xs.length < sizeLine) (q : Q .non (upd H p (.lst (xs ++ [v])))) :
    tyV K "list" (.ref p) H ∧ rAppend (.ref p) [v] H Q := ⟨.inl ⟨rfl, xs, .inl (.inl h)⟩, p, xs, v, rfl, rfl, h, l, q⟩
end

/-! ### the law's hand: a list of the cells, how many were taken, what is left of a great one, a running number -/
def Hand (K : PySem.W.Frag) (I H : Hp) (hd : Addr) : Prop := Same I H ∧ I hd = none ∧ ∃ (c : Addr) (cells : List Int) (p cur tot : Int),
  H hd = some (.lst [.ref c, .int p, .int cur, .int tot]) ∧ SqL K I c (cells.map V.int) ∧ (∀ x ∈ cells, 0 ≤ x) ∧ 0 ≤ p ∧ 0 ≤ cur
section
variable {K : PySem.W.Frag} {I H I' H' : Hp} {hd : Addr} {M : Addr → Prop}
theorem Hand.ne (h : Hand K I H hd) : H hd ≠ none := by
  obtain ⟨_, _, c, cells, p, cur, tot, e, _⟩ := h
  rw [e]; simp
theorem Hand.sub (h : Hand K I H hd) : Same I H := h.1
theorem Hand.to (h : Hand K I H hd) (x : Lf M I H I' H') (m : ¬ M hd) : Hand K I' H' hd := by
  have n := Hand.ne h
  obtain ⟨_, i, c, cells, p, cur, tot, e, r⟩ := h
  exact ⟨x.sub, x.off i n, c, cells, p, cur, tot, x.keep _ _ m e, x.ext.seq r.1, r.2⟩
def spDraw (K : PySem.W.Frag) : Sp := fun vs H Q _ => ∃ (I : Hp) (hd : Addr) (m : Int), vs = [.ref hd, .int m] ∧ Hand K I H hd ∧ 0 < m ∧ m < 1073741824 ∧
  ∀ H' r, Lf (· = hd) I H I H' → Hand K I H' hd → 0 ≤ r → r < m → Q (.int r) H'
end

section
variable {K : PySem.W.Frag} {H : Hp} {Q : VK} {p : Addr}
theorem atI_of {α : Type} {xs : List α} {n : Int} {v : α} (h0 : 0 ≤ n) (h : xs[n.toNat]? = some v) : atI xs n = some v := by
  obtain ⟨j, rfl⟩ : ∃ j : Nat, n = (j : Int) := ⟨n.toNat, by omega⟩
  exact atI_nat (by simpa using h)
theorem w_ixInts {ns : List Int} {n : Int} (h : SqL K H p (ns.map V.int)) (h0 : 0 ≤ n) (h1 : n < ns.length) (q : ∀ z, z ∈ ns → Q (.int z) H) : rIx K (.ref p) (.int n) H Q := by
  have hn : n.toNat < ns.length := by omega
  refine w_ixL h (atI_of h0 (v := .int ns[n.toNat]) (by simp [hn])) (q _ (List.getElem_mem hn))
theorem w_ixIntsT {ns : List Int} {n : Int} (h : SqT K H p (ns.map V.int)) (h0 : 0 ≤ n) (h1 : n < ns.length) (q : ∀ z, z ∈ ns → Q (.int z) H) : rIx K (.ref p) (.int n) H Q := by
  have hn : n.toNat < ns.length := by omega
  refine w_ixT h (atI_of h0 (v := .int ns[n.toNat]) (by simp [hn])) (q _ (List.getElem_mem hn))
end
section
variable {H : Hp} {Q : VK}
theorem w_isN_non (q : Q (.bl true) H) : rIsN' .non .non H Q := ⟨rfl, q⟩
theorem w_ntN_non (q : Q (.bl false) H) : rNotN' .non .non H Q := ⟨rfl, q⟩
theorem w_isN_int {n : Int} (q : Q (.bl false) H) : rIsN' (.int n) .non H Q := ⟨rfl, q⟩
theorem w_ntN_int {n : Int} (q : Q (.bl true) H) : rNotN' (.int n) .non H Q := ⟨rfl, q⟩
theorem w_isN_bl {n : Bool} (q : Q (.bl false) H) : rIsN' (.bl n) .non H Q := ⟨rfl, q⟩
theorem w_ntN_bl {n : Bool} (q : Q (.bl true) H) : rNotN' (.bl n) .non H Q := ⟨rfl, q⟩
theorem w_isN_str {n : Str} (q : Q (.bl false) H) : rIsN' (.str n) .non H Q := ⟨rfl, q⟩
theorem w_ntN_str {n : Str} (q : Q (.bl true) H) : rNotN' (.str n) .non H Q := ⟨rfl, q⟩
theorem w_isN_ref {n : Addr} (q : Q (.bl false) H) : rIsN' (.ref n) .non H Q := ⟨rfl, q⟩
theorem w_ntN_ref {n : Addr} (q : Q (.bl true) H) : rNotN' (.ref n) .non H Q := ⟨rfl, q⟩
end
section
variable {K : PySem.W.Frag} {H : Hp} {Q : VK}
theorem w_isInt_int {n : Int} (q : Q (.bl true) H) : rIsi K [(.int n), .ty "int"] H Q := w_isInt ((.int n : Dp K H _ _)) q
theorem w_isInt_bl {n : Bool} (q : Q (.bl true) H) : rIsi K [(.bl n), .ty "int"] H Q := w_isInt ((.bl n : Dp K H _ _)) q
theorem w_isInt_str {n : Str} (q : Q (.bl false) H) : rIsi K [(.str n), .ty "int"] H Q := w_isInt ((.str n : Dp K H _ _)) q
theorem w_isInt_non (q : Q (.bl false) H) : rIsi K [.non, .ty "int"] H Q := w_isInt ((.non : Dp K H _ _)) q
theorem w_isBool_int {n : Int} (q : Q (.bl false) H) : rIsi K [(.int n), .ty "bool"] H Q := w_isBool ((.int n : Dp K H _ _)) q
theorem w_isBool_bl {n : Bool} (q : Q (.bl true) H) : rIsi K [(.bl n), .ty "bool"] H Q := w_isBool ((.bl n : Dp K H _ _)) q
theorem w_isBool_str {n : Str} (q : Q (.bl false) H) : rIsi K [(.str n), .ty "bool"] H Q := w_isBool ((.str n : Dp K H _ _)) q
theorem w_isBool_non (q : Q (.bl false) H) : rIsi K [.non, .ty "bool"] H Q := w_isBool ((.non : Dp K H _ _)) q
theorem w_isStr_int {n : Int} (q : Q (.bl false) H) : rIsi K [(.int n), .ty "str"] H Q := w_isStr ((.int n : Dp K H _ _)) q
theorem w_isStr_bl {n : Bool} (q : Q (.bl false) H) : rIsi K [(.bl n), .ty "str"] H Q := w_isStr ((.bl n : Dp K H _ _)) q
theorem w_isStr_str {n : Str} (q : Q (.bl true) H) : rIsi K [(.str n), .ty "str"] H Q := w_isStr ((.str n : Dp K H _ _)) q
theorem w_isStr_non (q : Q (.bl false) H) : rIsi K [.non, .ty "str"] H Q := w_isStr ((.non : Dp K H _ _)) q
theorem w_isTup_int {n : Int} (q : Q (.bl false) H) : rIsi K [(.int n), .ty "tuple"] H Q := w_isTup ((.int n : Dp K H _ _)) q
theorem w_isTup_bl {n : Bool} (q : Q (.bl false) H) : rIsi K [(.bl n), .ty "tuple"] H Q := w_isTup ((.bl n : Dp K H _ _)) q
theorem w_isTup_str {n : Str} (q : Q (.bl false) H) : rIsi K [(.str n), .ty "tuple"] H Q := w_isTup ((.str n : Dp K H _ _)) q
theorem w_isTup_non (q : Q (.bl false) H) : rIsi K [.non, .ty "tuple"] H Q := w_isTup ((.non : Dp K H _ _)) q
end
theorem w_nf {A B : Prop} (h : A) : if (!false) = true then A else B := h
theorem w_nt {A B : Prop} (h : B) : if (!true) = true then A else B := h
end L3
/-! Readings over data: displays, sums, slices, items, tuple(x), list(x), errors raised and caught. -/
namespace L3
open PySem PySem.Spec PyProof.Rows L2
section
variable {K : PySem.W.Frag} {I H H' : Hp} {Q : VK} {M : Addr → Prop} {v x y : V} {ds es : List PyData} {xs : List V} {p : Addr} {o : HO}
theorem Lf.ofSame (S : Same I H) (s : Same H H') : Lf M I H I H' :=
  ⟨Same.refl I, S.trans s, fun _ q => .inl q, fun b z _ e => s b z e, fun b q => by
    cases e : H b with
    | none => exact absurd e q
    | some z => rw [s b z e]; simp⟩
theorem same_new (h : H p = none) : Same H (upd H p o) := fun b z e => by rw [upd_ne (ne_of_none e h)]; exact e
/-- a new tuple that stays -/
theorem w_newT {R : Addr → Prop} (S : Same I H) (h : DpAll K I xs ds) (l : xs.length ≤ sizeLine)
    (q : ∀ I' p, Lf No I H I' (upd H p (.tup xs)) → Dp K I' (.ref p) (.tuple ds) → R p) :
    xs.length ≤ sizeLine ∧ ∀ p, H p = none → R p :=
  ⟨l, fun p hp => q (upd I p (.tup xs)) p (Lf.put S hp) (.tup (ofT upd_same) (DpAll.up h (Lf.put (M := No) S hp).ext))⟩
/-- a new list that stays -/
theorem w_newL {R : Addr → Prop} (S : Same I H) (h : DpAll K I xs ds) (l : xs.length ≤ sizeLine)
    (q : ∀ I' p, Lf No I H I' (upd H p (.lst xs)) → Dp K I' (.ref p) (.list ds) → R p) :
    xs.length ≤ sizeLine ∧ ∀ p, H p = none → R p :=
  ⟨l, fun p hp => q (upd I p (.lst xs)) p (Lf.put S hp) (.lst (ofL upd_same) (DpAll.up h (Lf.put (M := No) S hp).ext))⟩
/-- tuple + tuple -/
theorem w_catT (S : Same I H) (h1 : Dp K I x (.tuple ds)) (h2 : Dp K I y (.tuple es)) (l : ds.length + es.length ≤ sizeLine)
    (q : ∀ I' H' v, Lf No I H I' H' → Dp K I' v (.tuple (ds ++ es)) → Q v H') : rCatA K x y H Q := by
  obtain ⟨a, xs, rfl, ha, da⟩ := Dp.tupRef h1
  obtain ⟨b, ys, rfl, hb, db⟩ := Dp.tupRef h2
  have la := DpAll.length da
  have lb := DpAll.length db
  refine ⟨a, b, xs, ys, rfl, rfl, Same.seqT S ha, Same.seqT S hb, by omega, fun e => ?_, fun _ e => ?_, fun _ _ p hp => ?_⟩
  · subst e
    have e2 : ds = [] := List.length_eq_zero_iff.mp la.symm
    subst e2
    exact q I H _ (Lf.refl S) h2
  · subst e
    have e2 : es = [] := List.length_eq_zero_iff.mp lb.symm
    subst e2
    rw [List.append_nil] at q
    exact q I H _ (Lf.refl S) h1
  · have f := Lf.put (M := No) (o := .tup (xs ++ ys)) S hp
    exact q _ _ _ f (.tup (ofT upd_same) (DpAll.up (DpAll.append da db) f.ext))
theorem cut_take (n : Int) (h0 : 0 ≤ n) : cutV xs none (some n) = xs.take n.toNat := by
  obtain ⟨k, rfl⟩ : ∃ k : Nat, n = (k : Int) := ⟨n.toNat, by omega⟩
  unfold cutV
  rw [HT.sIx_none, HT.sIx_nat, List.drop_zero, Nat.sub_zero, Int.toNat_natCast]
  by_cases h : k ≤ xs.length
  · rw [Nat.min_eq_left h]
  · rw [Nat.min_eq_right (by omega), List.take_of_length_le (Nat.le_refl _), List.take_of_length_le (by omega)]
theorem cut_drop (n : Int) (h0 : 0 ≤ n) : cutV xs (some n) none = xs.drop n.toNat := by
  obtain ⟨k, rfl⟩ : ∃ k : Nat, n = (k : Int) := ⟨n.toNat, by omega⟩
  unfold cutV
  rw [HT.sIx_none, HT.sIx_nat, Int.toNat_natCast]
  by_cases h : k ≤ xs.length
  · rw [Nat.min_eq_left h]
    exact List.take_of_length_le (by rw [List.length_drop]; omega)
  · rw [Nat.min_eq_right (by omega), List.drop_of_length_le (Nat.le_refl _), List.drop_of_length_le (by omega)]
    simp
/-- t[:n], t[n:] of a tuple -/
theorem w_slT (S : Same I H) (h1 : Dp K I x (.tuple ds)) (lo hi : Option Int) (es : List PyData)
    (hc : ∀ xs : List V, DpAll K I xs ds → DpAll K I (cutV xs lo hi) es) (hw : ∀ xs : List V, DpAll K I xs ds → DpAll K I xs ds →
      HT.sIx xs.length 0 lo = 0 ∧ HT.sIx xs.length xs.length hi = xs.length → ds = es)
    (q : ∀ I' H' v, Lf No I H I' H' → Dp K I' v (.tuple es) → Q v H') : rSlA K x lo hi H Q := by
  obtain ⟨a, xs, rfl, ha, da⟩ := Dp.tupRef h1
  refine ⟨a, xs, rfl, Same.seqT S ha, fun e => ?_, fun _ p hp => ?_⟩
  · have e2 := hw xs da da e
    subst e2
    exact q I H _ (Lf.refl S) h1
  · have f := Lf.put (M := No) (o := .tup (cutV xs lo hi)) S hp
    exact q _ _ _ f (.tup (ofT upd_same) (DpAll.up (hc xs da) f.ext))
theorem w_takeT {n : Int} (S : Same I H) (h1 : Dp K I x (.tuple ds)) (h0 : 0 ≤ n)
    (q : ∀ I' H' v, Lf No I H I' H' → Dp K I' v (.tuple (ds.take n.toNat)) → Q v H') : rSlA K x none (some n) H Q := by
  refine w_slT S h1 none (some n) (ds.take n.toNat) (fun xs h => ?_) (fun xs h _ e => ?_) q
  · rw [cut_take n h0]; exact DpAll.take _ h
  · have e2 := e.2
    obtain ⟨k, rfl⟩ : ∃ k : Nat, n = (k : Int) := ⟨n.toNat, by omega⟩
    rw [HT.sIx_nat] at e2
    have l := DpAll.length h
    rw [Int.toNat_natCast, List.take_of_length_le (by omega)]
theorem w_dropT {n : Int} (S : Same I H) (h1 : Dp K I x (.tuple ds)) (h0 : 0 ≤ n)
    (q : ∀ I' H' v, Lf No I H I' H' → Dp K I' v (.tuple (ds.drop n.toNat)) → Q v H') : rSlA K x (some n) none H Q := by
  refine w_slT S h1 (some n) none (ds.drop n.toNat) (fun xs h => ?_) (fun xs h _ e => ?_) q
  · rw [cut_drop n h0]; exact DpAll.drop _ h
  · have e2 := e.1
    obtain ⟨k, rfl⟩ : ∃ k : Nat, n = (k : Int) := ⟨n.toNat, by omega⟩
    rw [HT.sIx_nat] at e2
    have l := DpAll.length h
    rw [Int.toNat_natCast]
    by_cases hk : k = 0
    · subst hk; rfl
    · have : ds = [] := List.length_eq_zero_iff.mp (by omega)
      subst this
      simp
/-- xs[:n], xs[n:] of a list: a new list that stays -/
theorem w_takeL {n : Int} (S : Same I H) (h1 : Dp K I x (.list ds)) (h0 : 0 ≤ n)
    (q : ∀ I' H' v, Lf No I H I' H' → Dp K I' v (.list (ds.take n.toNat)) → Q v H') : rSlL K x none (some n) H Q := by
  obtain ⟨a, xs, rfl, ha, da⟩ := Dp.lstRef h1
  refine ⟨a, xs, rfl, S.seq ha, fun p hp => ?_⟩
  have f := Lf.put (M := No) (o := .lst (cutV xs none (some n))) S hp
  rw [cut_take n h0] at f ⊢
  exact q _ _ _ f (.lst (ofL upd_same) (DpAll.up (DpAll.take _ da) f.ext))
/-- a[i] of data -/
theorem w_ixD {n : Int} {d : PyData} (S : Same I H) (h1 : Dp K I x (.tuple ds) ∨ Dp K I x (.list ds)) (h0 : 0 ≤ n) (e : ds[n.toNat]? = some d)
    (q : ∀ v, Dp K I v d → Q v H) : rIx K x (.int n) H Q := by
  rcases h1 with h1 | h1
  · obtain ⟨a, xs, rfl, ha, da⟩ := Dp.tupRef h1
    obtain ⟨v, e1, e2⟩ := DpAll.get da e
    exact w_ixT (Same.seqT S ha) (atI_of h0 e1) (q v e2)
  · obtain ⟨a, xs, rfl, ha, da⟩ := Dp.lstRef h1
    obtain ⟨v, e1, e2⟩ := DpAll.get da e
    exact w_ixL (S.seq ha) (atI_of h0 e1) (q v e2)
/-- len(x) of data -/
theorem w_lenD (S : Same I H) (h1 : Dp K I x (.tuple ds) ∨ Dp K I x (.list ds)) (q : Q (.int ds.length) H) : rLenS K [x] H Q := by
  rcases h1 with h1 | h1
  · obtain ⟨a, xs, rfl, ha, da⟩ := Dp.tupRef h1
    rw [← DpAll.length da] at q
    exact w_lenT (Same.seqT S ha) q
  · obtain ⟨a, xs, rfl, ha, da⟩ := Dp.lstRef h1
    rw [← DpAll.length da] at q
    exact w_lenL (S.seq ha) q
/-- tuple(x) -/
theorem w_tupOfL (S : Same I H) (h : SqL K H p xs) (hd : DpAll K I xs ds)
    (q : ∀ I' H' q, Lf No I H I' H' → TupZ I' q xs → DpAll K I' xs ds → Q (.ref q) H') : kTupZ K (.ref p) H Q := by
  refine .inl ⟨p, xs, rfl, h, fun r o hr ho => ?_⟩
  have f := Lf.put (M := No) (o := .frz o (.tup xs)) S hr
  exact q _ _ _ f ⟨o, upd_same, ho⟩ (DpAll.up hd f.ext)
theorem w_tupOfD (S : Same I H) (h1 : Dp K I x (.tuple ds) ∨ Dp K I x (.list ds))
    (q : ∀ I' H' v, Lf No I H I' H' → Dp K I' v (.tuple ds) → Q v H') : kTupZ K x H Q := by
  rcases h1 with h1 | h1
  · obtain ⟨a, xs, rfl, ha, da⟩ := Dp.tupRef h1
    exact .inr ⟨a, xs, rfl, Same.seqT S ha, q I H _ (Lf.refl S) h1⟩
  · obtain ⟨a, xs, rfl, ha, da⟩ := Dp.lstRef h1
    exact w_tupOfL S (S.seq ha) da fun I' H' r f z dd => q I' H' _ f (.tup (TupZ.sq z) dd)
theorem TupZ.up {J : Hp} (h : TupZ I p xs) (e : Same I J) : TupZ J p xs := by
  obtain ⟨o, h, z⟩ := h
  exact ⟨o, e _ _ h, z⟩
theorem TupZ.dp {ns : List Int} (h : TupZ I p (ns.map V.int)) : Dp K I (.ref p) (.tuple (ns.map PyData.int)) := .tup (TupZ.sq h) (DpAll.ints ns)
/-- a == b, a != b of data -/
theorem w_eqD {d e : PyData} (h1 : Dp K H x d) (h2 : Dp K H y e) (s1 : SeqAt.shaped d = true) (s2 : SeqAt.shaped e = true) (q : Q (.bl (PyData.eqv d e)) H) :
    rEqD K x y H Q := ⟨d, e, h1, h2, s1, s2, q⟩
theorem w_neD {d e : PyData} (h1 : Dp K H x d) (h2 : Dp K H y e) (s1 : SeqAt.shaped d = true) (s2 : SeqAt.shaped e = true) (q : Q (.bl (!PyData.eqv d e)) H) :
    rNeD K x y H Q := ⟨d, e, h1, h2, s1, s2, q⟩
theorem canLayAll_ints : ∀ ns : List Int, PyData.canLayAll0 (ns.map PyData.int) = true
  | [] => rfl
  | n :: r => by
    show (PyData.canLay0 (.int n) && PyData.canLayAll0 (r.map PyData.int)) = true
    rw [canLayAll_ints r]; rfl
theorem depthAll_ints : ∀ ns : List Int, PyData.depthAll (ns.map PyData.int) = 0
  | [] => rfl
  | n :: r => by
    show max (PyData.depth (.int n)) (PyData.depthAll (r.map PyData.int)) = 0
    rw [depthAll_ints r]; rfl
theorem shaped_ints (ns : List Int) : SeqAt.shaped (.tuple (ns.map PyData.int)) = true := by
  unfold SeqAt.shaped
  rw [show PyData.canLay0 (.tuple (ns.map PyData.int)) = PyData.canLayAll0 (ns.map PyData.int) from rfl, canLayAll_ints]
  rw [show PyData.depth (.tuple (ns.map PyData.int)) = PyData.depthAll (ns.map PyData.int) + 1 from rfl, depthAll_ints]
  rfl
theorem shaped_intsL (ns : List Int) : SeqAt.shaped (.list (ns.map PyData.int)) = true := shaped_ints ns
theorem eqvAll_ints : ∀ ns ms : List Int, PyData.eqvAll (ns.map PyData.int) (ms.map PyData.int) = decide (ns = ms)
  | [], [] => rfl
  | [], _ :: _ => rfl
  | _ :: _, [] => rfl
  | n :: r, m :: t => by
    show ((n == m) && PyData.eqvAll (r.map PyData.int) (t.map PyData.int)) = decide (n :: r = m :: t)
    rw [eqvAll_ints r t]
    by_cases h : n = m
    · subst h; simp
    · simp [h]
/-- x in xs, ints -/
theorem inV_ints {n : Int} : ∀ ns : List Int, inV (.int n) (ns.map V.int) = decide (n ∈ ns)
  | [] => rfl
  | m :: r => by
    show (eqV (.int m) (.int n) || inV (.int n) (r.map V.int)) = decide (n ∈ m :: r)
    rw [inV_ints r]
    show ((m == n) || decide (n ∈ r)) = _
    by_cases h : m = n
    · subst h; simp
    · have h' : ¬ n = m := fun e => h e.symm
      simp [h, h']
theorem flat_ints (ns : List Int) : (ns.map V.int).all flatV = true := by simp [flatV]
theorem w_inInts {n : Int} {ns : List Int} {neg : Bool} (h : SqL K H p (ns.map V.int) ∨ SqT K H p (ns.map V.int)) (q : Q (.bl (if neg then !decide (n ∈ ns) else decide (n ∈ ns))) H) :
    rIn K neg (.int n) (.ref p) H Q := ⟨p, ns.map V.int, rfl, h, rfl, flat_ints ns, by rw [inV_ints]; exact q⟩
end

/-! ### errors with one or two fields -/
section
variable {K : PySem.W.Frag} {C : Addr} {f g : Str}
def spIni1 (C : Addr) (f : Str) : Sp := fun vs H Q _ => ∃ (a : Addr) (v : V), vs = [.ref a, v] ∧ H a = some (exo a C none) ∧
  ∀ d, H d = none → d ≠ a → Q .non (upd (upd H d (exd d [(f, v)])) a (exo a C (some d)))
def spIni2 (C : Addr) (f g : Str) : Sp := fun vs H Q _ => ∃ (a : Addr) (v w : V), vs = [.ref a, v, w] ∧ H a = some (exo a C none) ∧
  ∀ d, H d = none → d ≠ a → Q .non (upd (upd (upd H d (exd d [(f, v)])) a (exo a C (some d))) d (exd d [(g, w), (f, v)]))
theorem w_raise1 {H1 : Hp} {v : V} {Q : XK} (q : ∀ H' d, Same H1 H' → H' d = some (.xd [(f, v)]) → Q (.ref C) (some d) H') :
    [v].length ≤ 1000 ∧ ∀ a, H1 a = none → spIni1 C f (.ref a :: ([v] ++ [])) (upd H1 a (exo a C none))
      (fun x H2 => x = .non ∧ ∃ (d : Addr) (fs : List (Str × V)), H2 a = some (exo a C (some d)) ∧ H2 d = some (exd d fs) ∧ H1 d = none ∧
        Q (.ref C) (some d) (upd (del H2 a) d (.xd fs))) (fun _ _ _ => False) := by
  refine ⟨by show 1 ≤ 1000; decide, fun a ha => ⟨a, v, rfl, upd_same, fun d hd hda => ⟨rfl, d, [(f, v)], upd_same, ?_, ?_, ?_⟩⟩⟩
  · rw [upd_ne hda, upd_same]
  · rw [upd_ne hda] at hd; exact hd
  · rw [upd_ne hda] at hd
    refine q _ d (fun b z e => ?_) upd_same
    have ba : b ≠ a := ne_of_none e ha
    have bd : b ≠ d := ne_of_none e hd
    rw [upd_ne bd, del_ne ba, upd_ne ba, upd_ne bd, upd_ne ba]
    exact e
theorem w_raise2 {H1 : Hp} {v w : V} {Q : XK} (q : ∀ H' d, Same H1 H' → H' d = some (.xd [(g, w), (f, v)]) → Q (.ref C) (some d) H') :
    [v, w].length ≤ 1000 ∧ ∀ a, H1 a = none → spIni2 C f g (.ref a :: ([v, w] ++ [])) (upd H1 a (exo a C none))
      (fun x H2 => x = .non ∧ ∃ (d : Addr) (fs : List (Str × V)), H2 a = some (exo a C (some d)) ∧ H2 d = some (exd d fs) ∧ H1 d = none ∧
        Q (.ref C) (some d) (upd (del H2 a) d (.xd fs))) (fun _ _ _ => False) := by
  refine ⟨by show 2 ≤ 1000; decide, fun a ha => ⟨a, v, w, rfl, upd_same, fun d hd hda => ⟨rfl, d, [(g, w), (f, v)], ?_, upd_same, ?_, ?_⟩⟩⟩
  · rw [upd_ne hda.symm, upd_same]
  · rw [upd_ne hda] at hd; exact hd
  · rw [upd_ne hda] at hd
    refine q _ d (fun b z e => ?_) upd_same
    have ba : b ≠ a := ne_of_none e ha
    have bd : b ≠ d := ne_of_none e hd
    rw [upd_ne bd, del_ne ba, upd_ne bd, upd_ne ba, upd_ne bd, upd_ne ba]
    exact e
end

/-! ### loops -/
section
variable {K : PySem.W.Frag} {H : Hp} {p : Addr} {xs : List V} {g : TG} {tb : TS} {D : Ends} {σ : L2.St} {te : TE}
theorem qb {Q : VK} {b c : Bool} (q : Q (.bl b) H) (e : b = c) : Q (.bl c) H := e ▸ q
theorem w_gpair {i j : Nat} {T : Addr} {x y : V} {Q : L2.St → Hp → Prop} (e : H T = some (.tup [x, y])) (q : Q ((σ.set i (some x)).set j (some y)) H) :
    gTup K 2 (gCons (gName i) (gCons (gName j) gNil)) (.ref T) σ H Q := ⟨T, [x, y], rfl, ofT e, rfl, x, [y], rfl, y, [], rfl, rfl, q⟩
theorem w_gpairS {i j : Nat} {T : Addr} {x y : V} {Q : L2.St → Hp → Prop} (e : SqT K H T [x, y]) (q : Q ((σ.set i (some x)).set j (some y)) H) :
    gTup K 2 (gCons (gName i) (gCons (gName j) gNil)) (.ref T) σ H Q := ⟨T, [x, y], rfl, e, rfl, x, [y], rfl, y, [], rfl, rfl, q⟩
theorem w_forEnum (h : SqL K H p xs ∨ SqT K H p xs) (Pv : Nat → L2.St → Hp → Prop) (he : ∀ Q : VK, Q (.ref p) H → te σ H Q) (h0 : Pv 0 σ H)
    (hG : ∀ i σ H', i ≤ xs.length → Pv i σ H' → Same H H')
    (hs : ∀ i x T σ H', xs[i]? = some x → Pv i σ H' → H' T = none →
      g (.ref T) σ (upd H' T (.tup [.int (i : Nat), x])) fun σ2 H2 => tb { D with nx := Pv (i + 1), ct := Pv (i + 1), bk := D.nx } σ2 H2)
    (hd : ∀ σ H', Pv xs.length σ H' → D.nx σ H') : tFor (iEnumS K (tCons te tNil)) g tb D σ H := by
  have turn : ∀ i x σ H1 H', i < xs.length → Pv i σ H1 → YPair (fun i => some (.int (i : Nat))) (fun i => xs[i]?) i H1 x H' →
      g x σ H' fun σ2 H2 => tb { D with nx := Pv (i + 1), ct := Pv (i + 1), bk := D.nx } σ2 H2 := by
    intro i x σ H1 H' _ p1 y
    obtain ⟨T, u, v, rfl, hT, rfl, e1, e2⟩ := y
    cases e1
    exact hs i v T σ H1 e2 p1 hT
  cases h with
  | inl h => exact .inl (he _ ⟨p, xs, rfl, h, for_it walk_enum Pv h0 (fun i σ H' hi q => (hG i σ H' hi q).seq h) turn hd⟩)
  | inr h => exact .inr (he _ ⟨p, xs, rfl, h, for_it walk_enumT Pv h0 (fun i σ H' hi q => Same.seqT (hG i σ H' hi q) h) turn hd⟩)
theorem w_forL (h : SqL K H p xs) (Pv : Nat → L2.St → Hp → Prop) (he : ∀ Q : VK, Q (.ref p) H → te σ H Q) (h0 : Pv 0 σ H)
    (hG : ∀ i σ H', i ≤ xs.length → Pv i σ H' → SqL K H' p xs)
    (hs : ∀ i x σ H', xs[i]? = some x → Pv i σ H' → g x σ H' fun σ2 H2 => tb { D with nx := Pv (i + 1), ct := Pv (i + 1), bk := D.nx } σ2 H2)
    (hd : ∀ σ H', Pv xs.length σ H' → D.nx σ H') : tFor (iSeq K te) g tb D σ H :=
  .inl (he _ ⟨p, rfl, ⟨_, h⟩, for_list Pv h0 hG hs hd⟩)
theorem w_forT (h : SqT K H p xs) (Pv : Nat → L2.St → Hp → Prop) (he : ∀ Q : VK, Q (.ref p) H → te σ H Q) (h0 : Pv 0 σ H)
    (hG : ∀ i σ H', i ≤ xs.length → Pv i σ H' → SqT K H' p xs)
    (hs : ∀ i x σ H', xs[i]? = some x → Pv i σ H' → g x σ H' fun σ2 H2 => tb { D with nx := Pv (i + 1), ct := Pv (i + 1), bk := D.nx } σ2 H2)
    (hd : ∀ σ H', Pv xs.length σ H' → D.nx σ H') : tFor (iSeq K te) g tb D σ H :=
  .inr (he _ ⟨p, rfl, ⟨_, h⟩, for_tup Pv h0 hG hs hd⟩)
theorem w_forR1 {n : Int} (h0' : 0 ≤ n) (h1 : n < 2 ^ 62) (Pv : Nat → L2.St → Hp → Prop) (he : ∀ Q : List V → Hp → Prop, Q [.int n] H → (tCons te tNil) σ H Q) (h0 : Pv 0 σ H)
    (hs : ∀ i σ H', i < n.toNat → Pv i σ H' → g (.int (i : Nat)) σ H' fun σ2 H2 => tb { D with nx := Pv (i + 1), ct := Pv (i + 1), bk := D.nx } σ2 H2)
    (hd : ∀ σ H', Pv n.toNat σ H' → D.nx σ H') : tFor (iRng1 (tCons te tNil)) g tb D σ H := by
  unfold tFor iRng1
  apply he
  refine ⟨n, rfl, by omega, h1, for_range (lo := 0) (n := n.toNat) Pv h0 (fun i σ H' hi q => ?_) hd⟩
  rw [Int.zero_add]
  exact hs i σ H' hi q
theorem w_forR2 {m n : Int} {tf : TE} (h0' : 0 ≤ m) (hmn : m < 2 ^ 62) (h1 : n < 2 ^ 62) (h2 : -(2 ^ 62) ≤ n) (Pv : Nat → L2.St → Hp → Prop)
    (he : ∀ Q : List V → Hp → Prop, Q [.int m, .int n] H → (tCons te (tCons tf tNil)) σ H Q) (h0 : Pv 0 σ H)
    (hs : ∀ i σ H', i < (n - m).toNat → Pv i σ H' → g (.int (m + (i : Nat))) σ H' fun σ2 H2 => tb { D with nx := Pv (i + 1), ct := Pv (i + 1), bk := D.nx } σ2 H2)
    (hd : ∀ σ H', Pv (n - m).toNat σ H' → D.nx σ H') : tFor (iRng2 (tCons te (tCons tf tNil))) g tb D σ H := by
  unfold tFor iRng2
  apply he
  exact ⟨m, n, rfl, ⟨by omega, hmn, h2, h1⟩, for_range (lo := m) (n := (n - m).toNat) Pv h0 hs hd⟩
end

/-! ### comprehensions: Pv by the turn, the heap, and what the new list at E holds -/
section
variable {K : PySem.W.Frag} {H : Hp} {p : Addr} {xs : List V} {g : TG} {tt : TT} {te tl : TE} {σ : L2.St} {vs : List Nat} {Q : VK}
theorem w_lcL (h : SqL K H p xs) (he : ∀ Q : VK, Q (.ref p) H → tl σ H Q)
    (W : ∀ E : Addr, H E = none → ∃ Pv : Nat → Hp → Prop, Pv 0 (upd H E (.lst [])) ∧ (∀ i H', i ≤ xs.length → Pv i H' → SqL K H' p xs) ∧
      (∀ i x H', xs[i]? = some x → Pv i H' → g x (wipe σ vs) H' fun σ2 H2 => wipe σ2 vs = wipe σ vs ∧ tt σ2 H2 fun b H3 =>
        if b = true then te σ2 H3 fun y H4 => ∃ acc, H4 E = some (.lst acc) ∧ acc.length < sizeLine ∧ Pv (i + 1) (upd H4 E (.lst (acc ++ [y]))) else Pv (i + 1) H3) ∧
      (∀ H', Pv xs.length H' → Q (.ref E) H')) : tLc (iSeq K tl) g tt te vs σ H Q := by
  refine .inl (he _ ⟨p, rfl, ⟨_, h⟩, fun E hE => ?_⟩)
  obtain ⟨Pv, h0, hl, hs, hd⟩ := W E hE
  exact lc_list Pv h0 hl hs hd
theorem w_lcT (h : SqT K H p xs) (he : ∀ Q : VK, Q (.ref p) H → tl σ H Q)
    (W : ∀ E : Addr, H E = none → ∃ Pv : Nat → Hp → Prop, Pv 0 (upd H E (.lst [])) ∧ (∀ i H', i ≤ xs.length → Pv i H' → SqT K H' p xs) ∧
      (∀ i x H', xs[i]? = some x → Pv i H' → g x (wipe σ vs) H' fun σ2 H2 => wipe σ2 vs = wipe σ vs ∧ tt σ2 H2 fun b H3 =>
        if b = true then te σ2 H3 fun y H4 => ∃ acc, H4 E = some (.lst acc) ∧ acc.length < sizeLine ∧ Pv (i + 1) (upd H4 E (.lst (acc ++ [y]))) else Pv (i + 1) H3) ∧
      (∀ H', Pv xs.length H' → Q (.ref E) H')) : tLc (iSeq K tl) g tt te vs σ H Q := by
  refine .inr (he _ ⟨p, rfl, ⟨_, h⟩, fun E hE => ?_⟩)
  obtain ⟨Pv, h0, hl, hs, hd⟩ := W E hE
  exact lc_tup Pv h0 hl hs hd
theorem w_lcR1 {n : Int} (h0' : 0 ≤ n) (h1 : n < 2 ^ 62) (he : ∀ Q : List V → Hp → Prop, Q [.int n] H → (tCons tl tNil) σ H Q)
    (W : ∀ E : Addr, H E = none → ∃ Pv : Nat → Hp → Prop, Pv 0 (upd H E (.lst [])) ∧
      (∀ i H', i < n.toNat → Pv i H' → g (.int (i : Nat)) (wipe σ vs) H' fun σ2 H2 => wipe σ2 vs = wipe σ vs ∧ tt σ2 H2 fun b H3 =>
        if b = true then te σ2 H3 fun y H4 => ∃ acc, H4 E = some (.lst acc) ∧ acc.length < sizeLine ∧ Pv (i + 1) (upd H4 E (.lst (acc ++ [y]))) else Pv (i + 1) H3) ∧
      (∀ H', Pv n.toNat H' → Q (.ref E) H')) : tLc (iRng1 (tCons tl tNil)) g tt te vs σ H Q := by
  unfold tLc iRng1
  apply he
  refine ⟨n, rfl, by omega, h1, fun E hE => ?_⟩
  obtain ⟨Pv, h0, hs, hd⟩ := W E hE
  refine lc_range (lo := 0) (n := n.toNat) Pv h0 (fun i H' hi q => ?_) hd
  rw [Int.zero_add]
  exact hs i H' hi q
end

/-! ### slices of a list or a tuple -/
section
variable {X : Cx} {K : PySem.W.Frag}
def rSlU (K : PySem.W.Frag) : V → Option Int → Option Int → Hp → VK → Prop := fun x lo hi H Q => rSlA K x lo hi H Q ∨ rSlL K x lo hi H Q
theorem slU : SlR X (rSlU X.K) := SlR.or sl_tupA sl_list
/-- x[:n], a list or a tuple of ints -/
theorem w_slUInts {H : Hp} {Q : VK} {p : Addr} {xs : List V} {n : Int} (h : SqL K H p xs ∨ SqT K H p xs) (h0 : 0 ≤ n)
    (q : ∀ H' r, Same H H' → (SqL K H' r (xs.take n.toNat) ∨ SqT K H' r (xs.take n.toNat)) → Q (.ref r) H') : rSlU K (.ref p) none (some n) H Q := by
  cases h with
  | inl h =>
    refine .inr ⟨p, xs, rfl, h, fun r hr => ?_⟩
    rw [cut_take n h0]
    exact q _ r (same_new hr) (.inl (ofL upd_same))
  | inr h =>
    refine .inl ⟨p, xs, rfl, h, fun e => ?_, fun _ r hr => ?_⟩
    · have e2 := e.2
      obtain ⟨k, rfl⟩ : ∃ k : Nat, n = (k : Int) := ⟨n.toNat, by omega⟩
      rw [HT.sIx_nat] at e2
      rw [Int.toNat_natCast, List.take_of_length_le (by omega)] at q
      exact q H p (Same.refl H) (.inr h)
    · rw [cut_take n h0]
      exact q _ r (same_new hr) (.inr (ofT upd_same))
theorem w_tSl {r : V → Option Int → Option Int → Hp → VK → Prop} {te : TE} {tl th : TO} {σ : L2.St} {H : Hp} {Q : VK}
    (q : te σ H fun x H1 => tl σ H1 fun l H2 => th σ H2 fun u H3 => r x l u H3 Q) : tSl r te tl th σ H Q := q
theorem w_noPart {σ : L2.St} {H : Hp} {Q : Option Int → Hp → Prop} (q : Q none H) : tNoPart σ H Q := q
theorem w_part {te : TE} {σ : L2.St} {H : Hp} {Q : Option Int → Hp → Prop} (q : te σ H fun x H1 => ∃ i, x = .int i ∧ Q (some i) H1) : tPart te σ H Q := q
theorem w_ofInt {n : Int} {P : Int → Prop} (q : P n) : ∃ i, V.int n = .int i ∧ P i := ⟨n, rfl, q⟩
end

/-! ### a sequence, or none -/
def seqOf : PyData → Option (List PyData)
  | .list ds => some ds
  | .tuple ds => some ds
  | _ => none
theorem dp_seq {K : PySem.W.Frag} {H : Hp} {v : V} {d : PyData} (h : Dp K H v d) :
    (∃ p xs ds, v = .ref p ∧ (SqL K H p xs ∨ SqT K H p xs) ∧ DpAll K H xs ds ∧ seqOf d = some ds ∧ (dLst d || dTup d) = true) ∨ (seqOf d = none ∧ (dLst d || dTup d) = false) := by
  cases h with
  | lst h q => exact .inl ⟨_, _, _, rfl, .inl h, q, rfl, rfl⟩
  | tup h q => exact .inl ⟨_, _, _, rfl, .inr h, q, rfl, rfl⟩
  | _ => exact .inr ⟨rfl, rfl⟩
theorem drop_at {α : Type} {xs : List α} {i : Nat} {x : α} (h : xs[i]? = some x) : xs.drop i = x :: xs.drop (i + 1) := by
  obtain ⟨h1, h2⟩ := List.getElem?_eq_some_iff.mp h
  rw [List.drop_eq_getElem_cons h1, h2]
theorem take_at {α : Type} {xs : List α} {i : Nat} {x : α} (h : xs[i]? = some x) : xs.take (i + 1) = xs.take i ++ [x] := by
  rw [List.take_add_one, h]; rfl
theorem seq_up {K : PySem.W.Frag} {H H' : Hp} {p : Addr} {xs : List V} (h : SqL K H p xs ∨ SqT K H p xs) (s : Same H H') : SqL K H' p xs ∨ SqT K H' p xs :=
  h.elim (fun z => .inl (s.seq z)) fun z => .inr (Same.seqT s z)
/-- the first item that is no int of al, or stands earlier -/
def rf (al : List Int) : List Int → List PyData → Nat → Option Nat
  | seen, .int n :: r, i => if n ∈ al ∧ n ∉ seen then rf al (seen ++ [n]) r (i + 1) else some i
  | _, _ :: _, i => some i
  | _, [], _ => none
theorem rf_odd {al seen : List Int} {d : PyData} {r : List PyData} {i : Nat} (h : ∀ n, d ≠ .int n) : rf al seen (d :: r) i = some i := by
  cases d with
  | int n => exact absurd rfl (h n)
  | _ => rfl
theorem rf_int {al seen : List Int} {n : Int} {r : List PyData} {i : Nat} : rf al seen (.int n :: r) i = if n ∈ al ∧ n ∉ seen then rf al (seen ++ [n]) r (i + 1) else some i := rfl
theorem rf_none {al : List Int} : ∀ (ds : List PyData) (seen : List Int) (i : Nat), rf al seen ds i = none → seen.Nodup → ∃ ns : List Int, ds = ns.map .int ∧ (seen ++ ns).Nodup ∧ ∀ n ∈ ns, n ∈ al
  | [], seen, i, _, hs => ⟨[], rfl, by simpa using hs, by simp⟩
  | d :: r, seen, i, h, hs => by
    cases d with
    | int n =>
      rw [rf_int] at h
      by_cases c : n ∈ al ∧ n ∉ seen
      · rw [if_pos c] at h
        have hs' : (seen ++ [n]).Nodup := by
          rw [List.nodup_append]
          exact ⟨hs, by simp, by rintro a ha b hb rfl; simp at hb; subst hb; exact c.2 ha⟩
        obtain ⟨ns, e, h1, h2⟩ := rf_none r (seen ++ [n]) (i + 1) h hs'
        refine ⟨n :: ns, by rw [e]; rfl, by simpa using h1, fun m hm => ?_⟩
        rcases List.mem_cons.mp hm with rfl | hm
        · exact c.1
        · exact h2 m hm
      · rw [if_neg c] at h; cases h
    | _ => exact absurd h (by simp [rf])
theorem rf_ok {al : List Int} : ∀ (ns seen : List Int) (i : Nat), (seen ++ ns).Nodup → (∀ n ∈ ns, n ∈ al) → ∀ r, rf al seen (ns.map .int ++ r) i = rf al (seen ++ ns) r (i + ns.length)
  | [], seen, i, _, _, r => by simp
  | n :: ns, seen, i, h1, h2, r => by
    have c : n ∈ al ∧ n ∉ seen := by
      refine ⟨h2 n (by simp), fun hn => ?_⟩
      rw [List.nodup_append] at h1
      exact h1.2.2 n hn n (by simp) rfl
    show rf al seen (.int n :: (ns.map .int ++ r)) i = _
    rw [rf_int, if_pos c, rf_ok ns (seen ++ [n]) (i + 1) (by simpa using h1) (fun m hm => h2 m (by simp [hm])) r]
    rw [List.append_assoc, List.length_cons]
    rw [show i + 1 + ns.length = i + (ns.length + 1) by omega]
    rfl
section
variable {K : PySem.W.Frag} {H : Hp} {Q : VK} {p : Addr} {n : Int} {ns : List Int}
theorem w_inI (h : SqL K H p (ns.map V.int) ∨ SqT K H p (ns.map V.int)) (q : Q (.bl (decide (n ∈ ns))) H) : rIn K false (.int n) (.ref p) H Q := w_inInts h q
theorem w_ninI (h : SqL K H p (ns.map V.int) ∨ SqT K H p (ns.map V.int)) (q : Q (.bl (!decide (n ∈ ns))) H) : rIn K true (.int n) (.ref p) H Q := w_inInts h q
end
theorem w_mkO {C : Addr} {sp : Sp} {dvs : List V} {ta : TA} {σ : L2.St} {H : Hp} {Q : XK}
    (q : ta σ H fun vs H1 => vs.length ≤ 1000 ∧ ∀ a, H1 a = none → sp (.ref a :: (vs ++ dvs)) (upd H1 a (exo a C none))
      (fun v H2 => v = .non ∧ ∃ (d : Addr) (fs : List (Str × V)), H2 a = some (exo a C (some d)) ∧ H2 d = some (exd d fs) ∧ H1 d = none ∧ Q (.ref C) (some d) (upd (del H2 a) d (.xd fs))) (fun _ _ _ => False)) :
    tMkO C sp dvs ta σ H Q := q
theorem w_lstRg {te : L2.St → Hp → (Int → Int → Hp → Prop) → Prop} {σ : L2.St} {H : Hp} {Q : VK} (q : te σ H fun a b H1 => RgOk a b ∧ ∀ q, H1 q = none → Q (.ref q) (upd H1 q (.lst (rgV a b)))) : tLstRg te σ H Q := q
theorem w_tupRg {te : L2.St → Hp → (Int → Int → Hp → Prop) → Prop} {σ : L2.St} {H : Hp} {Q : VK} (q : te σ H fun a b H1 => RgOk a b ∧ ∀ q, H1 q = none → Q (.ref q) (upd H1 q (.tup (rgV a b)))) : tTupRg te σ H Q := q
theorem w_rg1 {ta : TE} {σ : L2.St} {H : Hp} {Q : Int → Int → Hp → Prop} (q : ta σ H fun x H1 => ∃ n, x = .int n ∧ Q 0 n H1) : tRg1 ta σ H Q := q
theorem w_rg2 {ta tb : TE} {σ : L2.St} {H : Hp} {Q : Int → Int → Hp → Prop} (q : ta σ H fun x H1 => tb σ H1 fun y H2 => ∃ i j, x = .int i ∧ y = .int j ∧ Q i j H2) : tRg2 ta tb σ H Q := q
theorem rgOk0 {m : Int} (h0 : 0 ≤ m) (h1 : m ≤ 16777216) : RgOk 0 m := RgOk.of_le (by omega) h1 (by omega) h0
end L3
/-! More readings. -/
namespace L3
open PySem PySem.Spec PyProof.Rows L2
section
variable {K : PySem.W.Frag} {I H : Hp} {Q : VK} {p : Addr} {xs : List V} {v : V} {n : Int}
theorem w_lenS (h : SqL K H p xs ∨ SqT K H p xs) (q : Q (.int xs.length) H) : rLenS K [.ref p] H Q := ⟨p, xs, rfl, h, q⟩
theorem w_ixS (h : SqL K H p xs ∨ SqT K H p xs) (h0 : 0 ≤ n) (e : xs[n.toNat]? = some v) (q : Q v H) : rIx K (.ref p) (.int n) H Q :=
  h.elim (fun z => w_ixL z (atI_of h0 e) q) fun z => w_ixT z (atI_of h0 e) q
theorem get_map {α β : Type} {f : α → β} {l : List α} {i : Nat} (h : i < l.length) : (l.map f)[i]? = some (f l[i]) := by simp [h]
end

/-! ### rules with the written part named (within a comprehension the context's own K is no plain name) -/
section
variable {X : Cx} {K : PySem.W.Frag}
theorem op_inK (h : X.K = K) : OpR X (compareOp .In) (rIn K false) := h ▸ op_in_seq
theorem op_ninK (h : X.K = K) : OpR X (compareOp .NotIn) (rIn K true) := h ▸ op_notIn_seq
theorem ix_K (h : X.K = K) : IxR X (rIx K) := h ▸ ix_seq
theorem call_lenK (h : X.K = K) : CallR X (.builtin "len") (rLenS K) := h ▸ call_lenS
theorem call_isiK' (h : X.K = K) : CallR X (.builtin "isinstance") (rIsi K) := h ▸ call_isi
theorem call_isiTK (h : X.K = K) : CallR X (.builtin "isinstance") (rIsiT K) := h ▸ call_isiT
theorem call_listK (h : X.K = K) : CallR X (.type "list") (rListOf K) := h ▸ call_listOf
theorem slUK (h : X.K = K) : SlR X (rSlU K) := h ▸ slU
theorem sl_listK (h : X.K = K) : SlR X (rSlL K) := h ▸ sl_list
theorem sl_tupK (h : X.K = K) : SlR X (rSlA K) := h ▸ sl_tupA
theorem op_catK (h : X.K = K) : OpR X (binaryOp .Add) (rCatA K) := h ▸ op_catA
theorem op_eqK (h : X.K = K) (hu : X.A.units + 64 < cLine) : OpR X (compareOp .Eq) (rEqD K) := h ▸ op_eqD hu
theorem op_neK (h : X.K = K) (hu : X.A.units + 64 < cLine) : OpR X (compareOp .NotEq) (rNeD K) := h ▸ op_neD hu
theorem op_inDK (h : X.K = K) (hu : X.A.units + 65 < cLine) : OpR X (compareOp .In) (rInD K) := h ▸ op_inD (by first | exact hu | omega)
theorem op_ninDK (h : X.K = K) (hu : X.A.units + 65 < cLine) : OpR X (compareOp .NotIn) (rNotInD K) := h ▸ op_notInD (by first | exact hu | omega)
theorem mt_indexK (h : X.K = K) : MtR X "list.index" (rIndex K) := h ▸ mt_index
theorem mt_indexTK (h : X.K = K) : MtR X "tuple.index" (rIndexT K) := h ▸ mt_indexT
theorem pi_seqK {tg l : Expr} {tl : TE} (h : X.K = K) (hl : PE X l tl) : PI X tg l (iSeq K tl) := h ▸ pi_seq hl
theorem pi_enumK {e : Expr} {ta : TA} {p pos tpos : Pos} {elts : List Expr} {kk : Nat} (h : X.K = K) (hg : Gl X "enumerate")
    (hm : X.mg "enumerate" = none) (ha : PA X [e] ta) (hs : starEach [e] X.env = [(false, eval e X.env)] := by rfl) :
    PI X (.Tuple elts kk tpos) (.Call (.Name "enumerate" p) [e] [] pos) (iEnumS K ta) := h ▸ pi_enumS hg hm ha hs
theorem pe_tupleK {a : Expr} {ta : TE} {p pos : Pos} (h : X.K = K) (hg : Gl X "tuple") (hm : X.mg "tuple" = none) (ha : PE X a ta)
    (na : starEach [a] X.env = (false, eval a X.env) :: starEach [] X.env := by rfl) :
    PE X (.Call (.Name "tuple" p) [a] [] pos) (tThen ta (kTupZ K)) := h ▸ pe_tupleZ hg hm ha na
end
theorem units65 {k : Nat} {A : Around} (hr : Room k A) : A.units + 65 < cLine := by have := hr.un; omega

/-! ### a comprehension of one name: Inv by the turn, what stays, the heap and the data made so far -/
theorem wipe1 (σ : L2.St) (i : Nat) (v : V) : (wipe σ [i]).set i (some v) = σ.set i (some v) := by
  show (σ.set i none).set i (some v) = _
  rw [List.set_set]
theorem wipe2 (σ : L2.St) (i : Nat) (v : V) : wipe (σ.set i (some v)) [i] = wipe σ [i] := by
  show (σ.set i (some v)).set i none = σ.set i none
  rw [List.set_set]
section
variable {K : PySem.W.Frag} {I H : Hp} {M : Addr → Prop} {J : It} {n : Nat} {G : Hp → Prop} {Y : Nat → Hp → V → Hp → Prop} {item : Nat → V} {i : Nat} {σ : L2.St} {tt : TT} {te : TE} {Q : VK}
structure CompOk (K : PySem.W.Frag) (I H : Hp) (M : Addr → Prop) (n : Nat) (item : Nat → V) (i : Nat) (σ : L2.St) (tt : TT) (te : TE) (Q : VK)
    (Inv : Nat → Hp → Hp → List PyData → Prop) (Mid : Nat → Bool → Hp → Hp → List PyData → Prop) : Prop where
  sub : Same I H
  hM : ∀ b, M b → H b ≠ none
  small : n < sizeLine
  i0 : Inv 0 I H []
  stab : ∀ k I' H' ds E o, H E = none → I' E = none → Inv k I' H' ds → Inv k I' (upd H' E o) ds
  test : ∀ k I1 H1 ds (R : Bool → Hp → Prop), k < n → Lf M I H I1 H1 → Inv k I1 H1 ds →
    (∀ b I2 H2, Lf M I1 H1 I2 H2 → Mid k b I2 H2 ds → R b H2) → tt (σ.set i (some (item k))) H1 R
  elt : ∀ k I2 H2 ds (R : VK), k < n → Lf M I H I2 H2 → Mid k true I2 H2 ds →
    (∀ v d I3 H3, Lf M I2 H2 I3 H3 → Dp K I3 v d → Inv (k + 1) I3 H3 (ds ++ [d]) → R v H3) → te (σ.set i (some (item k))) H2 R
  skip : ∀ k I2 H2 ds, k < n → Mid k false I2 H2 ds → Inv (k + 1) I2 H2 ds
  fin : ∀ I' H' E vs ds, Lf M I H I' H' → H E = none → I' E = none → H' E = some (.lst vs) → DpAll K I' vs ds → Inv n I' H' ds → Q (.ref E) H'
variable {Inv : Nat → Hp → Hp → List PyData → Prop} {Mid : Nat → Bool → Hp → Hp → List PyData → Prop}
theorem comp_core (w : Walk J n G Y) (hG : ∀ H', (∀ b o, ¬ M b → H b = some o → H' b = some o) → G H') (hY : ∀ k H x H', k < n → Y k H x H' → H' = H ∧ x = item k)
    (C : CompOk K I H M n item i σ tt te Q Inv Mid) (E : Addr) (hE : H E = none) :
    ∃ W : Nat → Nat → Hp → Prop, (∃ m, W 0 m (upd H E (.lst []))) ∧ ∀ k m H, W k m H →
      (J.stop k H ∧ Q (.ref E) H) ∨ (J.go k H ∧ ∃ Nx : Hp → Prop, (∀ H', Nx H' → ∃ m', m' < m ∧ W (k + 1) m' H') ∧ ∀ x H', J.yld k H x H' → gName i x (wipe σ [i]) H' fun σ2 H2 => wipe σ2 [i] = wipe σ [i] ∧ tt σ2 H2 fun b H3 =>
        if b = true then te σ2 H3 fun y H4 => ∃ acc, H4 E = some (.lst acc) ∧ acc.length < sizeLine ∧ Nx (upd H4 E (.lst (acc ++ [y]))) else Nx H3) := by
  have nM : ¬ M E := fun m => C.hM E m hE
  refine lc_it w (fun k H' => ∃ I' vs ds, Lf M I H I' H' ∧ I' E = none ∧ H' E = some (.lst vs) ∧ vs.length ≤ k ∧ DpAll K I' vs ds ∧ Inv k I' H' ds)
    ⟨I, [], [], (Lf.refl C.sub).trans (Lf.alloc C.sub hE), Same.sub C.sub hE, upd_same, Nat.le_refl _, .nil, C.stab 0 I H [] E _ hE (Same.sub C.sub hE) C.i0⟩
    (fun k H' _ h => ?_) (fun k x H1 H1' hk h y => ?_) (fun H' h => ?_)
  · obtain ⟨I', vs, ds, f, _⟩ := h
    exact hG H' f.keep
  · obtain ⟨I1, vs, ds, f, e1, e2, e3, e4, e5⟩ := h
    obtain ⟨rfl, rfl⟩ := hY k H1 x H1' hk y
    refine w_name ?_
    rw [wipe1]
    refine ⟨wipe2 _ _ _, C.test k I1 H1' ds _ hk f e5 fun b I2 H2 f2 hm => ?_⟩
    have e1' : I2 E = none := f2.off e1 (none_ne e2)
    have e2' : H2 E = some (.lst vs) := f2.keep _ _ nM e2
    cases b with
    | false =>
      rw [if_neg Bool.false_ne_true]
      exact ⟨I2, vs, ds, f.trans f2, e1', e2', by omega, DpAll.up e4 f2.ext, C.skip k I2 H2 ds hk hm⟩
    | true =>
      rw [if_pos rfl]
      refine C.elt k I2 H2 ds _ hk (f.trans f2) hm fun v d I3 H3 f3 hd hi => ?_
      have e1'' : I3 E = none := f3.off e1' (none_ne e2')
      have e2'' : H3 E = some (.lst vs) := f3.keep _ _ nM e2'
      have hsm := C.small
      refine ⟨vs, e2'', by omega, I3, vs ++ [v], ds ++ [d], Lf.set ((f.trans f2).trans f3) hE e2'' e1'', e1'', upd_same, ?_, ?_, ?_⟩
      · rw [List.length_append, List.length_singleton]; omega
      · exact DpAll.append (DpAll.up e4 (f2.ext.trans f3.ext)) (.cons hd .nil)
      · exact C.stab _ _ _ _ _ _ hE e1'' hi
  · obtain ⟨I', vs, ds, f, e1, e2, e3, e4, e5⟩ := h
    exact C.fin I' H' E vs ds f hE e1 e2 e4 e5
theorem w_compR {m : Int} {tl : TE} (h0 : 0 ≤ m) (h1 : m < 2 ^ 62) (he : ∀ Q : List V → Hp → Prop, Q [.int m] H → (tCons tl tNil) σ H Q)
    (C : CompOk K I H M m.toNat (fun k => .int (k : Nat)) i σ tt te Q Inv Mid) : tLc (iRng1 (tCons tl tNil)) (gName i) tt te [i] σ H Q := by
  unfold tLc iRng1
  apply he
  refine ⟨m, rfl, by omega, h1, fun E hE => comp_core (walk_range (lo := 0)) (fun _ _ => True.intro) (fun k H x H' _ y => ⟨y.1, ?_⟩) C E hE⟩
  rw [y.2]
  show V.int (0 + (k : Int)) = V.int (k : Int)
  rw [Int.zero_add]
theorem w_compL {p : Addr} {xs : List V} {tl : TE} (h : SqL K I p xs) (he : ∀ Q : VK, Q (.ref p) H → tl σ H Q) (nM : ¬ M p)
    (C : CompOk K I H M xs.length (fun k => xs.getD k .non) i σ tt te Q Inv Mid) : tLc (iSeq K tl) (gName i) tt te [i] σ H Q := by
  refine .inl (he _ ⟨p, rfl, ⟨xs, C.sub.seq h⟩, fun E hE => comp_core walk_list (fun H' k => ?_) (fun k H x H' hk y => ⟨y.1, ?_⟩) C E hE⟩)
  · rcases C.sub.seq h with (h | ⟨o, h⟩) | h
    · exact .inl (.inl (k _ _ nM h))
    · exact .inl (.inr ⟨o, k _ _ nM h⟩)
    · exact .inr h
  · rw [List.getD_eq_getElem?_getD, y.2]; rfl
theorem w_compT {p : Addr} {xs : List V} {tl : TE} (h : SqT K I p xs) (he : ∀ Q : VK, Q (.ref p) H → tl σ H Q) (nM : ¬ M p)
    (C : CompOk K I H M xs.length (fun k => xs.getD k .non) i σ tt te Q Inv Mid) : tLc (iSeq K tl) (gName i) tt te [i] σ H Q := by
  refine .inr (he _ ⟨p, rfl, ⟨xs, Same.seqT C.sub h⟩, fun E hE => comp_core walk_tup (fun H' k => ?_) (fun k H x H' hk y => ⟨y.1, ?_⟩) C E hE⟩)
  · rcases Same.seqT C.sub h with (h | ⟨o, h⟩) | h
    · exact .inl (.inl (k _ _ nM h))
    · exact .inl (.inr ⟨o, k _ _ nM h⟩)
    · exact .inr h
  · rw [List.getD_eq_getElem?_getD, y.2]; rfl
end
end L3
/-! Comprehensions whose test and element are known turn by turn; pops; index. -/
namespace L3
open PySem PySem.Spec PyProof.Rows L2
section
variable {K : PySem.W.Frag} {I H : Hp} {M : Addr → Prop} {n : Nat} {item : Nat → V} {i : Nat} {σ : L2.St} {tt : TT} {te : TE} {Q : VK}
variable {Inv : Nat → Hp → Hp → List PyData → Prop} {Mid : Nat → Bool → Hp → Hp → List PyData → Prop}
theorem w_compS {p : Addr} {xs : List V} {tl : TE} (h : SqL K I p xs ∨ SqT K I p xs) (he : ∀ Q : VK, Q (.ref p) H → tl σ H Q) (nM : ¬ M p)
    (C : CompOk K I H M xs.length (fun k => xs.getD k .non) i σ tt te Q Inv Mid) : tLc (iSeq K tl) (gName i) tt te [i] σ H Q :=
  h.elim (fun z => w_compL z he nM C) fun z => w_compT z he nM C
theorem CompOk.map (sub : Same I H) (hM : ∀ b, M b → H b ≠ none) (small : n < sizeLine) (i0 : Inv 0 I H [])
    (stab : ∀ k I' H' ds E o, H E = none → I' E = none → Inv k I' H' ds → Inv k I' (upd H' E o) ds)
    (elt : ∀ k I2 H2 ds (R : VK), k < n → Lf M I H I2 H2 → Inv k I2 H2 ds →
      (∀ v d I3 H3, Lf M I2 H2 I3 H3 → Dp K I3 v d → Inv (k + 1) I3 H3 (ds ++ [d]) → R v H3) → te (σ.set i (some (item k))) H2 R)
    (fin : ∀ I' H' E vs ds, Lf M I H I' H' → H E = none → I' E = none → H' E = some (.lst vs) → DpAll K I' vs ds → Inv n I' H' ds → Q (.ref E) H') :
    CompOk K I H M n item i σ tYes te Q Inv (fun k b I' H' ds => b = true ∧ Inv k I' H' ds) where
  sub := sub
  hM := hM
  small := small
  i0 := i0
  stab := stab
  test := fun k I1 H1 ds R _ f h q => q true I1 H1 (Lf.refl f.sub) ⟨rfl, h⟩
  elt := fun k I2 H2 ds R hk f h q => elt k I2 H2 ds R hk f h.2 q
  skip := fun k I2 H2 ds _ h => nomatch h.1
  fin := fin
theorem CompOk.pure (D : Nat → PyData) (sub : Same I H) (hM : ∀ b, M b → H b ≠ none) (small : n < sizeLine)
    (elt : ∀ k I2 H2 (R : VK), k < n → Lf M I H I2 H2 → (∀ v I3 H3, Lf M I2 H2 I3 H3 → Dp K I3 v (D k) → R v H3) → te (σ.set i (some (item k))) H2 R)
    (fin : ∀ I' H' E vs, Lf M I H I' H' → H E = none → I' E = none → H' E = some (.lst vs) → DpAll K I' vs ((List.range n).map D) → Q (.ref E) H') :
    CompOk K I H M n item i σ tYes te Q (fun k _ _ ds => ds = (List.range k).map D) (fun k b _ _ ds => b = true ∧ ds = (List.range k).map D) :=
  CompOk.map sub hM small rfl (fun _ _ _ _ _ _ _ _ h => h)
    (fun k I2 H2 ds R hk f h q => elt k I2 H2 R hk f fun v I3 H3 f3 d => q v (D k) I3 H3 f3 d (by rw [h, List.range_succ, List.map_append]; rfl))
    (fun I' H' E vs ds f e1 e2 e3 d h => fin I' H' E vs f e1 e2 e3 (h ▸ d))
theorem CompOk.filt (T : Nat → Bool) (D : Nat → PyData) (sub : Same I H) (hM : ∀ b, M b → H b ≠ none) (small : n < sizeLine)
    (test : ∀ k I1 H1 (R : Bool → Hp → Prop), k < n → Lf M I H I1 H1 → (∀ b I2 H2, b = T k → Lf M I1 H1 I2 H2 → R b H2) → tt (σ.set i (some (item k))) H1 R)
    (elt : ∀ k I2 H2 (R : VK), k < n → T k = true → Lf M I H I2 H2 → (∀ v I3 H3, Lf M I2 H2 I3 H3 → Dp K I3 v (D k) → R v H3) → te (σ.set i (some (item k))) H2 R)
    (fin : ∀ I' H' E vs, Lf M I H I' H' → H E = none → I' E = none → H' E = some (.lst vs) → DpAll K I' vs (((List.range n).filter T).map D) → Q (.ref E) H') :
    CompOk K I H M n item i σ tt te Q (fun k _ _ ds => ds = ((List.range k).filter T).map D) (fun k b _ _ ds => b = T k ∧ ds = ((List.range k).filter T).map D) where
  sub := sub
  hM := hM
  small := small
  i0 := rfl
  stab := fun _ _ _ _ _ _ _ _ h => h
  test := fun k I1 H1 ds R hk f h q => test k I1 H1 R hk f fun b I2 H2 e f2 => q b I2 H2 f2 ⟨e, h⟩
  elt := fun k I2 H2 ds R hk f h q => elt k I2 H2 R hk h.1.symm f fun v I3 H3 f3 d => q v (D k) I3 H3 f3 d (by
    rw [h.2, List.range_succ, List.filter_append, List.map_append, List.filter_cons_of_pos h.1.symm]; rfl)
  skip := fun k I2 H2 ds _ h => by
    rw [h.2, List.range_succ, List.filter_append, List.filter_cons_of_neg (by rw [← h.1]; simp)]; simp
  fin := fun I' H' E vs ds f e1 e2 e3 d h => fin I' H' E vs f e1 e2 e3 (h ▸ d)
end
section
variable {K : PySem.W.Frag} {H : Hp} {Q : VK} {p : Addr} {ns : List Int}
theorem seqIndex_nat {i n : Nat} (h : i < n) : seqIndex? (i : Int) n = some i := by
  have h' : ¬ (i : Int) < 0 := by omega
  unfold seqIndex?
  simp [h', h]
theorem erase_map {α β : Type} (f : α → β) : ∀ (l : List α) (j : Nat), (l.map f).eraseIdx j = (l.eraseIdx j).map f
  | [], _ => rfl
  | _ :: _, 0 => rfl
  | x :: l, j + 1 => by
    show f x :: (l.map f).eraseIdx j = f x :: (l.eraseIdx j).map f
    rw [erase_map f l j]
/-- left.pop(r) -/
theorem w_popInts {r : Int} (e : H p = some (.lst (ns.map V.int))) (h0 : 0 ≤ r) (h1 : r < ns.length) (l : ns.length < sizeLine)
    (q : ∀ (z : Int), ns[r.toNat]? = some z → Q (.int z) (upd H p (.lst ((ns.eraseIdx r.toNat).map V.int)))) :
    tyV K "list" (.ref p) H ∧ rPopAt (.ref p) [.int r] H Q := by
  obtain ⟨j, rfl⟩ : ∃ j : Nat, r = (j : Int) := ⟨r.toNat, by omega⟩
  have hj : j < ns.length := by omega
  rw [Int.toNat_natCast] at q
  have s : sizeLine ≤ 2 ^ 62 := by decide
  refine ⟨.inl ⟨rfl, _, ofL e⟩, p, ns.map V.int, (j : Int), j, .int ns[j], rfl, rfl, e, by omega, by omega, ?_, by simp [hj], ?_⟩
  · rw [List.length_map]; exact seqIndex_nat hj
  · have z := q ns[j] (by simp [hj])
    rw [erase_map]
    exact z
/-- t.index(n) of a tuple of distinct ints -/
theorem w_indexZ {n : Int} {j : Nat} (h : TupZ H p (ns.map V.int)) (e : ns[j]? = some n) (hno : ∀ m, m < j → ns[m]? ≠ some n) (q : Q (.int (j : Nat)) H) :
    (∃ a xs, V.ref p = .ref a ∧ TupZ H a xs) ∧ rIndexT K (.ref p) [.int n] H Q := by
  refine ⟨⟨p, _, rfl, h⟩, p, ns.map V.int, .int n, j, .int n, rfl, rfl, TupZ.sq h, rfl, flat_ints ns, by rw [List.getElem?_map, e]; rfl, beq_self_eq_true n, fun m z hm hz => ?_, q⟩
  rw [List.getElem?_map] at hz
  cases e2 : ns[m]? with
  | none => rw [e2] at hz; cases hz
  | some k =>
    rw [e2] at hz
    cases hz
    show (k == n) = false
    rw [beq_eq_false_iff_ne]
    intro e3
    exact hno m hm (e3 ▸ e2)
theorem map_range_get {α : Type} (f : Int → α) (ks : List Int) (g : Nat → Int) (hg : ∀ k, (h : k < ks.length) → g k = ks[k]) : (List.range ks.length).map (fun k => f (g k)) = ks.map f := by
  refine List.ext_getElem (by simp) fun i h1 h2 => ?_
  simp only [List.length_map, List.length_range] at h1
  simp [hg i h1]
end
section
variable {K : PySem.W.Frag} {I H : Hp} {p : Addr} {xs : List V} {g : TG} {tb : TS} {D : Ends} {σ : L2.St} {te : TE}
theorem w_forS (h : SqL K I p xs ∨ SqT K I p xs) (Pv : Nat → L2.St → Hp → Prop) (he : ∀ Q : VK, Q (.ref p) H → te σ H Q) (h0 : Pv 0 σ H)
    (hG : ∀ i σ H', i ≤ xs.length → Pv i σ H' → Same I H')
    (hs : ∀ i x σ H', xs[i]? = some x → Pv i σ H' → g x σ H' fun σ2 H2 => tb { D with nx := Pv (i + 1), ct := Pv (i + 1), bk := D.nx } σ2 H2)
    (hd : ∀ σ H', Pv xs.length σ H' → D.nx σ H') : tFor (iSeq K te) g tb D σ H := by
  have s := hG 0 σ H (Nat.zero_le _) h0
  rcases h with h | h
  · exact w_forL (s.seq h) Pv he h0 (fun i σ H' hi q => (hG i σ H' hi q).seq h) hs hd
  · exact w_forT (Same.seqT s h) Pv he h0 (fun i σ H' hi q => Same.seqT (hG i σ H' hi q) h) hs hd
end
section
variable {K : PySem.W.Frag} {H : Hp} {p : Addr} {xs : List V} {v : V}
theorem w_tyL {B : Prop} (h : H p = some (.lst xs)) (q : B) : tyV K "list" (.ref p) H ∧ B := ⟨.inl ⟨rfl, xs, ofL h⟩, q⟩
theorem w_append' {Q : VK} (h : H p = some (.lst xs)) (l : xs.length < sizeLine) (q : Q .non (upd H p (.lst (xs ++ [v])))) : rAppend (.ref p) [v] H Q := ⟨p, xs, v, rfl, rfl, h, l, q⟩
end
section
variable {K : PySem.W.Frag} {I H : Hp} {hd p : Addr} {o : HO}
theorem Hand.upd (h : Hand K I H hd) (n : I p = none) (ne : hd ≠ p) : Hand K I (upd H p o) hd := by
  obtain ⟨s, i, c, cells, pp, cur, tot, e, r⟩ := h
  exact ⟨Same.updI s n, i, c, cells, pp, cur, tot, by rw [upd_ne ne]; exact e, r⟩
theorem Hand.neOf (h : Hand K I H hd) (e : H p = none) : hd ≠ p := fun z => h.ne (z ▸ e)
end
theorem FnOk.none {P : Program} {w : World} {K : PySem.W.Frag} {mg : Str → Option Value} {base : Heap} {CX : CXT} {k : Nat} {f : Addr} {fd : FuncData} {ps : List Str} :
    FnOk P w K mg base CX k f fd ps (fun _ _ _ _ => False) := ⟨fun _ _ _ _ h => h.elim, fun _ _ _ _ _ _ _ _ _ _ _ _ _ h => h.elim⟩
section
variable {K : PySem.W.Frag} {I H : Hp} {p : Addr} {xs : List V} {g : TG} {tb : TS} {D : Ends} {σ : L2.St} {te : TE}
/-- enumerate of what stays, the rest of the heap may change -/
theorem w_forEnumI (h : SqL K I p xs ∨ SqT K I p xs) (Pv : Nat → L2.St → Hp → Prop) (he : ∀ Q : VK, Q (.ref p) H → te σ H Q) (h0 : Pv 0 σ H)
    (hG : ∀ i σ H', i ≤ xs.length → Pv i σ H' → Same I H')
    (hs : ∀ i x T σ H', xs[i]? = some x → Pv i σ H' → H' T = none →
      g (.ref T) σ (upd H' T (.tup [.int (i : Nat), x])) fun σ2 H2 => tb { D with nx := Pv (i + 1), ct := Pv (i + 1), bk := D.nx } σ2 H2)
    (hd : ∀ σ H', Pv xs.length σ H' → D.nx σ H') : tFor (iEnumS K (tCons te tNil)) g tb D σ H := by
  have turn : ∀ i x σ H1 H', i < xs.length → Pv i σ H1 → YPair (fun i => some (.int (i : Nat))) (fun i => xs[i]?) i H1 x H' →
      g x σ H' fun σ2 H2 => tb { D with nx := Pv (i + 1), ct := Pv (i + 1), bk := D.nx } σ2 H2 := by
    intro i x σ H1 H' _ p1 y
    obtain ⟨T, u, v, rfl, hT, rfl, e1, e2⟩ := y
    cases e1
    exact hs i v T σ H1 e2 p1 hT
  have s := hG 0 σ H (Nat.zero_le _) h0
  cases h with
  | inl h => exact .inl (he _ ⟨p, xs, rfl, s.seq h, for_it walk_enum Pv h0 (fun i σ H' hi q => (hG i σ H' hi q).seq h) turn hd⟩)
  | inr h => exact .inr (he _ ⟨p, xs, rfl, Same.seqT s h, for_it walk_enumT Pv h0 (fun i σ H' hi q => Same.seqT (hG i σ H' hi q) h) turn hd⟩)
end
section
variable {H : Hp} {σ : L2.St} {te : TE} {ti : TIp} {i : Nat} {v : V} {D : Ends} {Q : VK}
theorem w_aug (e : σ[i]? = some (some v)) (q : te σ H fun y H1 => ti v y H1 fun z H2 => D.nx (σ.set i (some z)) H2) : tAug i te ti D σ H := ⟨v, e, q⟩
theorem w_ipI {f : Int → Int → Int} {m n : Int} (q : Q (.int (f m n)) H) : ipI f (.int m) (.int n) H Q := ⟨m, n, rfl, rfl, q⟩
end
section
variable {p : Prop} [Decidable p] {A B : Prop}
theorem w_ifT (h : p) (q : A) : if decide p = true then A else B := by rw [if_pos (decide_eq_true h)]; exact q
theorem w_ifF (h : ¬ p) (q : B) : if decide p = true then A else B := by rw [if_neg (by simpa using h)]; exact q
theorem w_ifnT (h : ¬ p) (q : A) : if (!decide p) = true then A else B := by rw [if_pos (by simpa using h)]; exact q
theorem w_ifnF (h : p) (q : B) : if (!decide p) = true then A else B := by rw [if_neg (by simpa using h)]; exact q
end
/-- data of plain kinds, nested less than n deep -/
def plainD : Nat → PyData → Prop
  | 0, _ => False
  | n + 1, .tuple ds => ds.length ≤ 1000 ∧ ∀ d ∈ ds, plainD n d
  | _ + 1, .list _ => False
  | _ + 1, .dict _ => False
  | _ + 1, .str x => SeqAt.shaped (.str x) = true
  | _ + 1, _ => True
section
variable {K : PySem.W.Frag} {H : Hp} {σ : L2.St} {Q : VK}
theorem w_callS {sp : Sp} {E : L2.St → XK} {t : TA} (q : t σ H fun vs H1 => sp vs H1 Q (E σ)) : tCallS sp E t σ H Q := q
variable {Wout : WX} {D : Ends} {cls c : Value} {d : Option Addr} {i : Nat} {ts : Addr → Value → Option Addr → TS} {r : List Cl}
theorem w_hit (e : PySem.W.exmOne K cls c = some true) (q : ∀ a, H a = none → ts a cls d { nx := fun σ' H' => D.nx (σ'.set i none) H', rt := D.rt, bk := fun σ' H' => D.bk (σ'.set i none) H', ct := fun σ' H' => D.ct (σ'.set i none) H' } (σ.set i (some (.ref a))) H) :
    wMas K Wout D (⟨c, some i, ts⟩ :: r) cls d σ H := ⟨true, e, fun _ => q, fun h => nomatch h⟩
theorem w_miss (e : PySem.W.exmOne K cls c = some false) (q : wMas K Wout D r cls d σ H) : wMas K Wout D (⟨c, some i, ts⟩ :: r) cls d σ H := ⟨false, e, (fun h => nomatch h), fun _ => q⟩
theorem w_hit0 (e : PySem.W.exmOne K cls c = some true) (q : ∀ a, H a = none → ts a cls d D σ H) : wMas K Wout D (⟨c, none, ts⟩ :: r) cls d σ H := ⟨true, e, fun _ => q, fun h => nomatch h⟩
theorem w_miss0 (e : PySem.W.exmOne K cls c = some false) (q : wMas K Wout D r cls d σ H) : wMas K Wout D (⟨c, none, ts⟩ :: r) cls d σ H := ⟨false, e, (fun h => nomatch h), fun _ => q⟩
theorem w_xf1 {a C dd : Addr} {f : Str} {v : V} (h : H dd = some (.xd [(f, v)])) (q : Q v H) (e : σ[i]? = some (some (.ref a))) : tXf a (.ref C) (some dd) C f (tVar i) σ H Q :=
  ⟨.ref a, e, rfl, rfl, dd, [(f, v)], v, rfl, h, by simp [List.lookup], q⟩
end
section
variable {K : PySem.W.Frag} {I H : Hp} {xs : List V} {R : Addr → Prop}
/-- a new list, a new tuple that stays, its items known -/
theorem w_putL (S : Same I H) (l : xs.length ≤ sizeLine) (q : ∀ I' p, Lf No I H I' (upd H p (.lst xs)) → SqL K I' p xs → R p) : xs.length ≤ sizeLine ∧ ∀ p, H p = none → R p :=
  ⟨l, fun p hp => q (upd I p (.lst xs)) p (Lf.put S hp) (ofL upd_same)⟩
theorem w_putT (S : Same I H) (l : xs.length ≤ sizeLine) (q : ∀ I' p, Lf No I H I' (upd H p (.tup xs)) → SqT K I' p xs → R p) : xs.length ≤ sizeLine ∧ ∀ p, H p = none → R p :=
  ⟨l, fun p hp => q (upd I p (.tup xs)) p (Lf.put S hp) (ofT upd_same)⟩
end
theorem plain_told {s : Str} {ns : List Int} (hs : SeqAt.shaped (.str s) = true) (l : ns.length ≤ 1000) : plainD 5 (.tuple [.str s, .tuple (ns.map .int)]) := by
  refine ⟨by show 2 ≤ 1000; decide, fun d hd => ?_⟩
  rcases List.mem_cons.mp hd with rfl | hd
  · exact hs
  · rcases List.mem_cons.mp hd with rfl | hd
    · refine ⟨by rw [List.length_map]; exact l, fun d hd => ?_⟩
      obtain ⟨n, _, rfl⟩ := List.mem_map.mp hd
      exact True.intro
    · cases hd
theorem plain_pair {s : Str} {n : Int} (hs : SeqAt.shaped (.str s) = true) : plainD 5 (.tuple [.str s, .int n]) := by
  refine ⟨by show 2 ≤ 1000; decide, fun d hd => ?_⟩
  rcases List.mem_cons.mp hd with rfl | hd
  · exact hs
  · rcases List.mem_cons.mp hd with rfl | hd
    · exact True.intro
    · cases hd
end L3
/-! isinstance of a caught error of an own class that has fields. -/
namespace L3
open PySem PySem.Spec PySem.Calls PyProof.Rows L2 PySem.W
section
variable {prog : Program} {w : World} {A : Around} {E : Value → Shared → Prop} {K : Frag} {e D : Addr} {oe : Obj} {od : Option Obj}
theorem dataFound {C : Addr} {n : Str} {at' g : Value} (c : (clsIn K C).isSome = true) (f : findIn K (.ref C) n = some (some at')) (sp : specialIn K at' "__get__" = some (some g)) (tk : takesIn K at' = some true) :
    findObj K C od n = some (.bind g at') := by
  obtain ⟨cd, c⟩ := Option.isSome_iff_exists.mp c
  unfold findObj
  rw [c, Option.bind_some, f, Option.bind_some]
  simp [sp, tk]
theorem clsOfErr {Q : Option Value → Shared → Prop} {s : Shared} (C : ExcC K D) (X : K.In s.heap) (J : InstAt s.heap e oe D od) (q : Q (some (.ref D)) { s with toks := s.toks + 1 }) :
    wpAny (model prog w) A (getAttr? (.ref e) "__class__") Q E s := by
  have found : findObj K D od "__class__" = some (.bind (.builtin "getset_descriptor.__get__") (.builtin "object.__class__")) := dataFound (by obtain ⟨cd, hc, _⟩ := any_some C.hd; rw [hc]; rfl) C.ha C.hn C.ht
  obtain ⟨hp, gn, dr, tk, os⟩ := s
  have M0 := J.type (M := model prog w)
  have M1 := looks_findIn (M := model prog w) X C.hg
  have M2 := looks_findIn (M := model prog w) X C.hk
  have M3 := looks_find (M := model prog w) X J found
  have isExc : Looks (model prog w) hp (isInstance (.ref e) (.type "BaseException")) true := M0.andThen (looks_subIn X C.hs)
  have y0 : (false && onTheHeap (Value.builtin "BaseException.__getattribute__")) = false := rfl
  have y2 : (Value.builtin "BaseException.__getattribute__" == Value.builtin "object.__getattribute__") = false := by decide +kernel
  have y1 : (onTheHeap (Value.ref D) && Value.builtin "BaseException.__getattribute__" == Value.builtin "object.__getattribute__") = false := by rw [y2]; rfl
  unfold getAttr? getAttrBy? getAttrBy
  refine wpAny_bind (wpAny_mkText (wpAny_bind (wpAny_attempt (wpAny_holding (wpAny_bind (M0.at (wpAny_bind (M1.at ?_))))))))
  show wpAny _ _ (if (onTheHeap (Value.ref D) && Value.builtin "BaseException.__getattribute__" == Value.builtin "object.__getattribute__") = true then _ else _) _ _ _
  rw [y1, if_neg Bool.false_ne_true]
  unfold getAttrByItsOwn hookBefore
  refine wpAny_bind ?_
  rw [if_pos (show onTheHeap (Value.ref D) = true from rfl)]
  refine M2.at ?_
  refine wpAny_bind (wpAny_attempt (wpAny_holding ?_))
  unfold callGetattribute
  rw [y0, if_neg Bool.false_ne_true]
  unfold boundAndCalled
  rw [PySem.F.excAttr_ValueError.ga.bind (.ref e)]
  refine wpAny_bind (wpAny_pure ?_)
  show wpAny _ _ (call (.builtin "BaseException.__getattribute__") [.ref e, .str "__class__" tk]) _ _ _
  refine wpAny_call (codeAny_call_builtin PySem.F.excAttr_ValueError.ga.plain PySem.F.entry_bexc_ga ?_)
  refine @check_slot (model prog w) _ _ ⟨hp, gn, dr, tk + 1, os⟩ "BaseException.__getattribute__" "BaseException" "__getattribute__" (.ref e) [.str "__class__" tk] [] _ (by decide +kernel) (by decide +kernel) isExc (PySem.F.args_bexc_ga (.ref e) (.str "__class__" tk)) ?_
  unfold Builtin.«object.__getattribute__»
  refine wpAny_bind (wpAny_of_eq (a := ((Value.ref e : Value), [Value.str "__class__" tk])) (by first | rfl | (simp only [slotArgs]; rfl)) ?_)
  refine wpAny_bind (wpAny_pure (wpAny_bind (M0.at (wpAny_bind (M3.at ?_)))))
  show wpAny _ _ (holding [Value.builtin "object.__class__"] (call (.builtin "getset_descriptor.__get__") [.builtin "object.__class__", .ref e, .ref D]) >>= ret) _ _ _
  refine wpAny_bind (wpAny_holding (wpAny_call (class_get (s := ⟨hp, gn, dr, tk + 1, os⟩) (ox := oe) (od := od) X J C.hm ?_)))
  refine wpAny_pure ?_
  show wpAny _ _ (handedOut (.ref D)) _ _ _
  rw [handedOut_of (v := .ref D) rfl]
  first
    | exact wpAny_pure (wpAny_pure q)
    | exact wpAny_pure q
    | exact wpAny_pure (wpAny_bind (wpAny_pure (wpAny_pure q)))
theorem kitErr (C : ExcC K D) : KitX K (.ref e) (.ref D) (fun h => InstAt h e oe D od) where
  ty := fun _ _ _ J => J.type
  it := fun _ _ X _ => by
    obtain ⟨cdD, hcD, _⟩ := any_some C.hd
    unfold clsIn at hcD
    split at hcD
    · rename_i c' d' cd' sl' ho
      intro A' Q' E' s' k q
      unfold isType loadHead
      exact wpAny_bind (wpAny_loadPart (k _ _ (X _ _ ho)) (wpAny_pure q))
    · cases hcD
  ne := fun h tp dd its n sl X htp => by
    obtain ⟨cdD, hcD, _⟩ := any_some C.hd
    refine Bool.eq_false_iff.mpr fun q => ?_
    have z : D = tp := Value.ref.inj (beq_iff_eq.mp q)
    subst z
    unfold clsIn at hcD
    split at hcD
    · rename_i c' d' cd' sl' ho
      cases (X _ _ ho).symm.trans htp
    · cases hcD
  ca := fun X J k => clsOfErr C X J k
end
/-- isinstance(e, c), e the exception that the suite holds, of the class D, with the fields at d -/
def rIsF (K : PySem.W.Frag) (D a : Addr) (cls : Value) (d : Option Addr) : List V → Hp → VK → Prop := fun xs H Q =>
  cls = .ref D ∧ (∃ dd fs, d = some dd ∧ H dd = some (.xd fs)) ∧ ∃ (c : V) (cv : Value) (b : Bool), xs = [.ref a, c] ∧ (∀ u, RelV c u → u = cv) ∧ PySem.W.kitOne K (.ref D) cv = some b ∧ Q (.bl b) H
theorem call_isF {X : Cx} {a D : Addr} {cls : Value} {d : Option Addr} {oe : Obj} {pn : List (Addr × Obj)} (C : ExcC X.K D) (hz : Zc cls d oe) (hf : ∃ vs, oe.data = .fields vs) :
    CallR (X.suite a ((a, oe) :: pn)) (.builtin "isinstance") (rIsF X.K D a cls d) := by
  intro pins s σ H xs us Q I r h
  obtain ⟨rfl, ⟨dd, fs, rfl, hdd⟩, c, cv, b, rfl, hcv, e, q⟩ := h
  cases r with
  | cons rx rr =>
    cases rr with
    | cons rt rr =>
      cases rr
      cases rx
      have ec := hcv _ rt
      subst ec
      obtain ⟨hget, _⟩ := I.pin (a, oe) (List.mem_append.mpr (.inl List.mem_cons_self))
      obtain ⟨vs, hv⟩ := hf
      have hx : ObjOk X.prog X.w H s.heap dd (.xd fs) := I.hok dd _ hdd
      obtain ⟨mA, hns, hr⟩ := hx
      obtain ⟨od, ho, hl⟩ := lookIn_ns hns
      have J : PySem.W.InstAt s.heap a oe D (some od) := ⟨hget, hz.1, by unfold PySem.W.notCls; rw [hv] <;> rfl, by rw [hz.2]; exact ho⟩
      exact PySem.W.kia_one (kitErr C) I.kIn J e (fun z => nomatch z) fun tk => ⟨.bl b, H, I.kept (t' := tk) fun _ _ z => z, rfl, q⟩
theorem w_isF {K : PySem.W.Frag} {D C a dd : Addr} {f : Str} {v : V} {b : Bool} {H : Hp} {Q : VK} (hd : H dd = some (.xd [(f, v)])) (e : PySem.W.kitOne K (.ref D) (.ref C) = some b) (q : Q (.bl b) H) :
    rIsF K D a (.ref D) (some dd) [.ref a, .ref C] H Q := ⟨rfl, ⟨dd, _, rfl, hd⟩, .ref C, .ref C, b, rfl, fun u r => r, e, q⟩
section
variable {K : PySem.W.Frag} {I H : Hp} {hd p : Addr} {o : HO} {Q : VK} {σ : L2.St} {te0 te : TE} {tt : TT} {g : TG} {vs : List Nat} {tb : TS} {D : Ends}
theorem handFreeze (h : Hand K I H hd) (e : H p = some o) (n : I p = none) (ne : hd ≠ p) : Hand K (upd I p o) H hd := by
  obtain ⟨s, i, c, cells, pp, cur, tot, e2, hc, r⟩ := h
  have up : Same I (upd I p o) := fun b z q => by rw [upd_ne (fun h => by rw [h, n] at q; cases q)]; exact q
  refine ⟨fun b z q => ?_, by rw [upd_ne ne]; exact i, c, cells, pp, cur, tot, e2, up.seq hc, r⟩
  by_cases hb : b = p
  · subst hb
    rw [upd_same] at q
    rw [← q]
    exact e
  · rw [upd_ne hb] at q
    exact s b z q
/-- the count of turns is worked out first -/
theorem w_lcIter (q : te0 σ H fun x H1 => tLc (iRng1 (tCons (tC x) tNil)) g tt te vs σ H1 Q) : tLc (iRng1 (tCons te0 tNil)) g tt te vs σ H Q := q
theorem w_forIter (q : te0 σ H fun x H1 => tFor (iRng1 (tCons (tC x) tNil)) g tb D σ H1) : tFor (iRng1 (tCons te0 tNil)) g tb D σ H := q
end
theorem plain_tup {ns : List Int} (l : ns.length ≤ 1000) : plainD 5 (.tuple (ns.map .int)) := by
  refine ⟨by rw [List.length_map]; exact l, fun d hd => ?_⟩
  obtain ⟨n, _, rfl⟩ := List.mem_map.mp hd
  exact True.intro
/-- the first of a list, or None -/
def headD {α : Type} (f : α → PyData) : Option α → PyData
  | none => .none
  | some x => f x
section
variable {K : PySem.W.Frag} {I H : Hp} {b : Addr} {Q : VK} {σ : L2.St} {xs : List V} {i : Nat}
theorem w_firstOf {α : Type} {f : α → PyData} {L : List α} (e : σ[i]? = some (some (.ref b))) (h : H b = some (.lst xs)) (S : Same I H) (aX : DpAll K I xs (L.map f)) (q : ∀ x, Dp K I x (headD f L.head?) → Q x H) :
    ∃ k, TruV K (.ref b) H k ∧ (fun c H1 => if c = true then tOp (rIx K) (tVar i) (tC (.int 0)) σ H1 Q else tC .non σ H1 Q) k H := by
  cases L with
  | nil =>
    cases aX
    exact ⟨false, .inl ⟨[], ofL h, rfl⟩, q .non .non⟩
  | cons x L =>
    cases aX with
    | cons h1 h2 => exact ⟨true, .inl ⟨_, ofL h, rfl⟩, w_op (w_var e (w_c (w_ixL (ofL h) (atI_of (by decide) rfl) (q _ h1))))⟩
end
theorem kit_ownTy {K : PySem.W.Frag} {C : Addr} {T : String} {b : Bool} (m : PySem.W.kitMeta T = true) (s : PySem.W.subIn K (.ref C) (.type T) = some b) : PySem.W.kitOne K (.ref C) (.type T) = some b := by
  unfold PySem.W.kitOne
  rw [if_neg (show ¬ ((Value.ref C == Value.type T) = true) from fun h => by cases h)]
  show (if PySem.W.kitMeta T = true then PySem.W.subIn K (.ref C) (.type T) else none) = some b
  rw [if_pos m]
  exact s
theorem w_isFty {K : PySem.W.Frag} {D a dd : Addr} {T : String} {f : Str} {v : V} {b : Bool} {H : Hp} {Q : VK} (hd : H dd = some (.xd [(f, v)])) (e : PySem.W.kitOne K (.ref D) (.type T) = some b) (q : Q (.bl b) H) :
    rIsF K D a (.ref D) (some dd) [.ref a, .ty T] H Q := ⟨rfl, ⟨dd, _, rfl, hd⟩, .ty T, .type T, b, rfl, fun u r => r, e, q⟩
end L3
/-! for loops within a generator's body. -/
namespace L3
open PySem PySem.Spec PySem.Calls PyProof.Rows L2
section
variable {prog : Program} {w : World} {A : Around} {R : GenEnd} {Y : Protocol} {n : Nat} {s₀ : Shared} {c : Code} {fs : List Frame} {s : Shared} {env : Env}
  {K : Flow → Sem PySem.Fin} {J : Value → Sem PySem.Fin} {gd : Bool → Bool} {lv : List Value → List Value}
theorem seg_For {tg iter : Expr} {body : List Stmt} {pos : Pos} {M : Model} (hs : ∀ x, foldedSetIterable iter env x = pure x)
    (h : wpAny M (A.over c fs) (eval iter env) (fun x s1 => wpAny M (A.over c fs) (pyIter x) (fun it s2 =>
      ∀ p, Seg M A R Y n s₀ (.forLoop tg it body [] env) (M.den (.forLoop tg it body [] env))
        (.ret (fun r => ((match r with | .ok f => (.pure f : Sem Flow) | .error e => .raise e).onRaise (cameBack env)).wrap K J gd lv) none (gd false) (lv []) c p [] :: fs) s2)
      (fun e s' => Seg M A R Y n s₀ c (J e) fs s') s1) (fun e s' => Seg M A R Y n s₀ c (J e) fs s') s) :
    Seg M A R Y n s₀ c ((exec (.For tg iter body [] pos) env).wrap K J gd lv) fs s := by
  rw [exec_For]
  refine seg_at ?_
  show Seg M A R Y n s₀ c ((eval iter env >>= fun x0 => do
    let x ← foldedSetIterable iter env x0
    standAt iter.pos
    runOwn (.forLoop tg (← holding [x] (pyIter x)) body [] env) env).wrap K J gd lv) fs s
  refine seg_bind_wrap (wpAny_mono h (fun x s1 h1 => ?_) fun _ _ z => z)
  rw [hs x]
  refine seg_at ?_
  show Seg M A R Y n s₀ c ((holding [x] (pyIter x) >>= fun it => runOwn (.forLoop tg it body [] env) env).wrap K J gd lv) fs s1
  refine seg_bind_wrap (wpAny_holding (wpAny_mono h1 (fun it s2 h2 => ?_) fun _ _ z => z))
  exact seg_call h2
theorem seg_forLoop {tg : Expr} {it : Value} {body : List Stmt}
    (h : wpAny (model prog w) (A.over (.forLoop tg it body [] env) fs) (pyNext it) (fun r s1 => match r with
        | none => Seg (model prog w) A R Y n s₀ (.forLoop tg it body [] env) (.pure (.again (.block [] env))) fs s1
        | some v => wpAny (model prog w) (A.over (.forLoop tg it body [] env) fs) (letOwnedTupleGo tg it v) (fun _ s2 =>
            wpAny (model prog w) (A.over (.forLoop tg it body [] env) fs) (assign tg env v) (fun _ s3 =>
              Seg (model prog w) A R Y n s₀ (.forLoop tg it body [] env) ((execs body env).wrap (fun f => match f with
                | .next | .cont => .pure (.again (.forLoop tg it body [] env))
                | .brk => .pure (.done .next)
                | .ret v => .pure (.done (.ret v))) (fun e => (do noteFrame e env; theTreesLotGoes e : Sem Unit).wrap (fun _ => .raise e) .raise id id) id id) fs s3)
            (fun x s' => Seg (model prog w) A R Y n s₀ (.forLoop tg it body [] env) ((do noteFrame x env; theTreesLotGoes x : Sem Unit).wrap (fun _ => .raise x) .raise id id) fs s') s2)
            (fun x s' => Seg (model prog w) A R Y n s₀ (.forLoop tg it body [] env) ((do noteFrame x env; theTreesLotGoes x : Sem Unit).wrap (fun _ => .raise x) .raise id id) fs s') s1)
      (fun x s' => Seg (model prog w) A R Y n s₀ (.forLoop tg it body [] env) ((do noteFrame x env; theTreesLotGoes x : Sem Unit).wrap (fun _ => .raise x) .raise id id) fs s') s) :
    Seg (model prog w) A R Y n s₀ (.forLoop tg it body [] env) ((model prog w).den (.forLoop tg it body [] env)) fs s := by
  have hx : ∀ e : Value, ((do noteFrame e env; theTreesLotGoes e : Sem Unit).bind fun _ => (.raise e : Sem PySem.Fin)) = (do noteFrame e env; theTreesLotGoes e : Sem Unit).wrap (fun _ => .raise e) .raise id id := fun e => Sem.bind_eq_wrap _ _
  show Seg _ A R Y n s₀ _ ((forTurn tg it body [] env).onRaise (fun x => do noteFrame x env; theTreesLotGoes x)) fs s
  unfold forTurn
  rw [Sem.onRaise_eq_wrap]
  refine seg_at ?_
  show Seg (model prog w) A R Y n s₀ (.forLoop tg it body [] env) ((((pyNext it).onRaise fun _ => standAt { tg.pos with line := 0 }) >>= fun r => (match r with
      | none => again (.block [] env)
      | some v => do
        letOwnedTupleGo tg it v
        assign tg env v
        match ← execs body env with
        | .next | .cont => again (.forLoop tg it body [] env)
        | .brk => pure (.done .next)
        | .ret v => pure (.done (.ret v)) : Sem PySem.Fin)).wrap Sem.pure (fun e => (do noteFrame e env; theTreesLotGoes e : Sem Unit).bind fun _ => .raise e) id id) fs s
  refine seg_bind_wrap (wpAny_onRaise (wpAny_mono h (fun r s1 h1 => ?_) fun x s' z => wpAny_standAt ?_))
  · cases r with
    | none => exact h1
    | some v =>
      refine seg_bind_wrap (wpAny_mono h1 (fun _ s2 h2 => ?_) fun x s' z => ?_)
      · refine seg_bind_wrap (wpAny_mono h2 (fun _ s3 h3 => ?_) fun x s' z => ?_)
        · rw [Sem.bind_eq_wrap', Sem.wrap_wrap]
          exact Eq.mpr (congrArg (fun t => Seg (model prog w) A R Y n s₀ (.forLoop tg it body [] env) t fs s3)
            (Sem.wrap_congr (execs body env) id id (fun f => by cases f <;> rfl) (fun e => hx e))) h3
        · rw [hx]; exact z
      · rw [hx]; exact z
  · rw [hx]; exact z
end
section
variable {X : Cx}
def tGFor (wi : TI) (g : TG) (tb : TGn) : TGn := fun D ys σ H => wi σ H fun J H1 => ∃ W : Nat → Nat → List V → L2.St → Hp → Prop, (∃ m, W 0 m ys σ H1) ∧ ∀ i m ys σ H, W i m ys σ H →
  (J.stop i H ∧ D.nx ys σ H) ∨ (J.go i H ∧ ∃ N : List V → L2.St → Hp → Prop, (∀ ys' σ' H', N ys' σ' H' → ∃ m', m' < m ∧ W (i + 1) m' ys' σ' H') ∧
    ∀ x H', J.yld i H x H' → g x σ H' fun σ2 H2 => tb { D with nx := N, ct := N, bk := D.nx } ys σ2 H2)
theorem gs_for {tg iter : Expr} {body : List Stmt} {pos : Pos} {wi : TI} {g : TG} {tb : TGn} (hp : PassesOwn (model X.prog X.w) X.A X.env X.xe) (hc : X.calm = true) (hi : PI X tg iter wi) (hg : PG X tg g) (hb : GSs X body tb)
    (hs : ∀ x, foldedSetIterable iter X.env x = pure x := by intro _; rfl) : GS X (.For tg iter body [] pos) (tGFor wi g tb) := by
  refine ⟨fun A S ip R n ys s₀ c fs K J gd lv s σ H D gc hn k hI ht => ?_⟩
  obtain ⟨acc, cc, r, I⟩ := hI
  refine seg_For hs ?_
  rw [gc.over]
  have ex0 : ∀ x s', X.xe x s' → Seg (model X.prog X.w) A R (GY X S) n s₀ c (J x) fs s' := fun x s' hx => k.exc n s₀ x s' hx
  refine wpAny_mono (hi.run ((S, lstObj acc cc) :: ip) s σ H _ I ht) (fun v s1 h1 => wpAny_mono h1 (fun itv s2 h2 => ?_) ex0) ex0
  obtain ⟨it, fp, tn, Jt, H2, rfl, I2, T, st2, f2, W, ⟨m0, w0⟩, turn⟩ := h2
  intro p
  have stat : ∀ {acc' : Array Value} {cc' : Nat} {H' : Hp}, (∀ b ∈ fp, H' b = none) → ∀ b ∈ fp, FpOk X ((S, lstObj acc' cc') :: ip) H' b := by
    intro acc' cc' H' hn' b hb'
    obtain ⟨_, q1, q2, q3, q4, q5⟩ := f2 b hb'
    refine ⟨hn' b hb', q1, q2, q3, q4, fun p hp => ?_⟩
    rcases List.mem_append.mp hp with hp | hp
    · exact q5 p (List.mem_append_left _ hp)
    · rcases List.mem_cons.mp hp with rfl | hp
      · exact q5 (S, lstObj acc cc) (List.mem_append_right _ List.mem_cons_self)
      · exact q5 p (List.mem_append_right _ (List.mem_cons_of_mem _ hp))
  have offS : ∀ b ∈ fp, b ≠ S := fun b hb' z => (stat (acc' := acc) (cc' := cc) (fun b hb => (f2 b hb).1) b hb').2.2.2.2.2 (S, lstObj acc cc) (List.mem_append_right _ List.mem_cons_self) z.symm
  have loop : ∀ (m n : Nat) (ys : List V) (s₀ s : Shared) (σ : L2.St) (H : Hp) (i : Nat) (acc : Array Value) (cc : Nat), n + ys.length = sizeLine → W i m ys σ H → Vals ys acc.toList → Inv X ((S, lstObj acc cc) :: ip) σ H s →
      tn i s.heap → (∀ b ∈ fp, H b = none) →
      Seg (model X.prog X.w) A R (GY X S) n s₀ (.forLoop tg (.ref it) body [] X.env) ((model X.prog X.w).den (.forLoop tg (.ref it) body [] X.env))
        (.ret (fun r => ((match r with | .ok f => (.pure f : Sem Flow) | .error e => .raise e).onRaise (cameBack X.env)).wrap K J gd lv) none (gd false) (lv []) c p [] :: fs) s := by
    intro m
    induction m using Nat.strongRecOn with
    | ind m ih =>
      intro n ys s₀ s σ H i acc cc hn w r I st fr
      have gl := fun (kk : Result → Sem PySem.Fin) => gc_loop (k := kk) (c' := .forLoop tg (.ref it) body [] X.env) (l := lv []) (kp := []) (p := p) gc rfl rfl
      have ee : ∀ (n : Nat) (s₀ : Shared) (x : Value) (s' : Shared), X.xe x s' → Seg (model X.prog X.w) A R (GY X S) n s₀ (.forLoop tg (.ref it) body [] X.env)
          ((do noteFrame x X.env; theTreesLotGoes x : Sem Unit).wrap (fun _ => .raise x) .raise id id)
          (.ret (fun r => ((match r with | .ok f => (.pure f : Sem Flow) | .error e => .raise e).onRaise (cameBack X.env)).wrap K J gd lv) none (gd false) (lv []) c p [] :: fs) s' := fun n s₀ x s' hx => by
        refine seg_wrap ?_
        rw [(gl _).over]
        refine wpAny_bind (wpAny_mono (hp x s' hx) (fun _ s'' hcb => wpAny_theTreesLotGoes ?_) fun y s'' hcb => ?_)
        · exact seg_leaf (.error x) (seg_cameBack gc k hcb)
        · exact seg_leaf (.error y) (seg_cameBack gc k hcb)
      refine seg_forLoop ?_
      rw [(gl _).over]
      rcases turn i m ys σ H w with ⟨stop, qn⟩ | ⟨go, N, hN, step⟩
      · refine wpAny_mono (T.done X rfl rfl rfl hc i _ s σ H X.xe I (stat fr) st stop) (fun r1 s4 hr => ?_) fun x s' hx => ee n s₀ x s' hx
        obtain ⟨rfl, I4⟩ := hr
        refine seg_again rfl ?_
        exact seg_leaf (.ok .next) (k.ok n ys s₀ s4 .next hn ⟨σ, H, ⟨acc, cc, r, I4⟩, qn⟩)
      · refine wpAny_mono (T.item X rfl rfl rfl hc i _ s σ H X.xe I (stat fr) st go) (fun r1 s4 hr => ?_) fun x s' hx => ee n s₀ x s' hx
        obtain ⟨u, rfl, h4⟩ := hr
        refine wpAny_mono h4 (fun _ s5 h5 => ?_) fun x s' hx => ee n s₀ x s' hx
        obtain ⟨x, H5, I5, r5, y5, st5, fr5⟩ := h5
        have I5' := I5.pinned (stat fr5) (T.obj _ _ st5)
        refine wpAny_mono (hg.run _ s5 σ H5 x u _ I5' r5 (step x H5 y5)) (fun _ s6 h6 => ?_) fun x s' hx => ee n s₀ x s' hx
        obtain ⟨σ6, H6, I6, q6⟩ := h6
        have gb : GC X S (ip ++ pinsAt fp s5.heap) A (.forLoop tg (.ref it) body [] X.env)
            (.ret (fun r => ((match r with | .ok f => (.pure f : Sem Flow) | .error e => .raise e).onRaise (cameBack X.env)).wrap K J gd lv) none (gd false) (lv []) c p [] :: fs) id :=
          ⟨gc.pn, fun q hq => (List.mem_append.mp hq).elim (gc.ip q) fun z => offS _ (of_pinsAt z).1, gc.apart, (gl _).over, (gl _).split, (gl _).guard, rfl⟩
        have back : ∀ {σ7 : L2.St} {H7 : Hp} {s7 : Shared} {acc7 : Array Value} {cc7 : Nat}, Inv X ((S, lstObj acc7 cc7) :: (ip ++ pinsAt fp s5.heap)) σ7 H7 s7 →
            Inv X ((S, lstObj acc7 cc7) :: ip) σ7 H7 s7 ∧ tn (i + 1) s7.heap ∧ ∀ b ∈ fp, H7 b = none := by
          intro σ7 H7 s7 acc7 cc7 I7
          refine ⟨Inv.unpinned (pins := (S, lstObj acc7 cc7) :: ip) I7, T.keep _ _ _ st5 fun b hb' o e => ?_, fun b hb' => ?_⟩
          · exact (I7.pin (b, o) (List.mem_append_right _ (List.mem_cons_of_mem _ (List.mem_append_right _ (mem_pinsAt hb' e))))).1
          · obtain ⟨o, e, _⟩ := T.obj _ _ st5 b hb'
            exact (I7.pin (b, o) (List.mem_append_right _ (List.mem_cons_of_mem _ (List.mem_append_right _ (mem_pinsAt hb' e))))).2.1
        refine hb.run A S (ip ++ pinsAt fp s5.heap) R n ys s₀ _ _ _ _ id id s6 σ6 H6 { D with nx := N, ct := N, bk := D.nx } gb hn ⟨fun n' ys' s₀' s3 f hn' hf => ?_, fun n' s₀' x s3 hx => ee n' s₀' x s3 hx⟩ ⟨acc, cc, r, I6⟩ q6
        cases f with
        | next =>
          obtain ⟨σ3, H3, ⟨a3, c3, r3, I3⟩, n3⟩ := hf
          obtain ⟨m', hm, w3⟩ := hN ys' σ3 H3 n3
          obtain ⟨b1, b2, b3⟩ := back I3
          exact seg_again rfl (ih m' hm n' ys' s₀' s3 σ3 H3 (i + 1) a3 c3 hn' w3 r3 b1 b2 b3)
        | cont =>
          obtain ⟨σ3, H3, ⟨a3, c3, r3, I3⟩, n3⟩ := hf
          obtain ⟨m', hm, w3⟩ := hN ys' σ3 H3 n3
          obtain ⟨b1, b2, b3⟩ := back I3
          exact seg_again rfl (ih m' hm n' ys' s₀' s3 σ3 H3 (i + 1) a3 c3 hn' w3 r3 b1 b2 b3)
        | brk =>
          obtain ⟨σ3, H3, ⟨a3, c3, r3, I3⟩, n3⟩ := hf
          exact seg_leaf (.ok .next) (k.ok n' ys' s₀' s3 .next hn' ⟨σ3, H3, ⟨a3, c3, r3, (back I3).1⟩, n3⟩)
        | ret v =>
          obtain ⟨v3, σ3, H3, ⟨a3, c3, r3, I3⟩, rv, n3⟩ := hf
          exact seg_leaf (.ok (.ret v)) (k.ok n' ys' s₀' s3 (.ret v) hn' ⟨v3, σ3, H3, ⟨a3, c3, r3, (back I3).1⟩, rv, n3⟩)
  exact loop m0 n ys s₀ s2 σ H2 0 acc cc hn w0 r I2 st2 fun b hb' => (f2 b hb').1
end
/-! ### readings of a generator's body -/
section
variable {D : GEnds} {ys : List V} {σ : L2.St} {H : Hp}
theorem w_gThen {t u : TGn} (q : t { D with nx := fun ys' σ' H' => u D ys' σ' H' } ys σ H) : tGThen t u D ys σ H := q
theorem w_gPlain {t : TS} (q : t (D.at ys) σ H) : tPlain t D ys σ H := q
theorem w_g0 (q : D.nx ys σ H) : tG0 D ys σ H := q
theorem w_gYield {te : TE} (l : ys.length < sizeLine) (q : te σ H fun x H1 => D.nx (ys ++ [x]) σ H1) : tGYield te D ys σ H := ⟨l, q⟩
theorem w_gForIter {te0 : TE} {g : TG} {tb : TGn} (q : te0 σ H fun x H1 => tGFor (iRng1 (tCons (tC x) tNil)) g tb D ys σ H1) : tGFor (iRng1 (tCons te0 tNil)) g tb D ys σ H := q
theorem gfor_it {J : It} {n : Nat} {G : Hp → Prop} {Y : Nat → Hp → V → Hp → Prop} (w : Walk J n G Y) {g : TG} {tb : TGn} (Pv : Nat → List V → L2.St → Hp → Prop) (h0 : Pv 0 ys σ H) (hG : ∀ i ys σ H, i ≤ n → Pv i ys σ H → G H)
    (hs : ∀ i x ys σ H H', i < n → Pv i ys σ H → Y i H x H' → g x σ H' fun σ2 H2 => tb { D with nx := Pv (i + 1), ct := Pv (i + 1), bk := D.nx } ys σ2 H2) (hd : ∀ ys σ H, Pv n ys σ H → D.nx ys σ H) :
    ∃ W : Nat → Nat → List V → L2.St → Hp → Prop, (∃ m, W 0 m ys σ H) ∧ ∀ i m ys σ H, W i m ys σ H →
      (J.stop i H ∧ D.nx ys σ H) ∨ (J.go i H ∧ ∃ N : List V → L2.St → Hp → Prop, (∀ ys' σ' H', N ys' σ' H' → ∃ m', m' < m ∧ W (i + 1) m' ys' σ' H') ∧
        ∀ x H', J.yld i H x H' → g x σ H' fun σ2 H2 => tb { D with nx := N, ct := N, bk := D.nx } ys σ2 H2) := by
  refine ⟨fun i m ys σ H => m = n - i ∧ i ≤ n ∧ Pv i ys σ H, ⟨n, by simp, Nat.zero_le _, h0⟩, ?_⟩
  rintro i m ys σ H ⟨rfl, hi, p⟩
  have z := hG i ys σ H hi p
  by_cases hlt : i < n
  · exact .inr ⟨w.goes i H hlt z, Pv (i + 1), fun ys' σ' H' p' => ⟨n - (i + 1), by omega, rfl, hlt, p'⟩, fun x H' y => hs i x ys σ H H' hlt p (w.yields i H x H' hlt z y)⟩
  · obtain rfl : i = n := by omega
    exact .inl ⟨w.stops H z, hd ys σ H p⟩
theorem w_gForR1 {n : Int} {te : TE} {g : TG} {tb : TGn} (n0 : 0 ≤ n) (n1 : n < 2 ^ 62) (Pv : Nat → List V → L2.St → Hp → Prop) (he : ∀ Q : List V → Hp → Prop, Q [.int n] H → (tCons te tNil) σ H Q) (h0 : Pv 0 ys σ H)
    (hs : ∀ i ys σ H', i < n.toNat → Pv i ys σ H' → g (.int (i : Nat)) σ H' fun σ2 H2 => tb { D with nx := Pv (i + 1), ct := Pv (i + 1), bk := D.nx } ys σ2 H2)
    (hd : ∀ ys σ H', Pv n.toNat ys σ H' → D.nx ys σ H') : tGFor (iRng1 (tCons te tNil)) g tb D ys σ H := by
  unfold tGFor iRng1
  apply he
  refine ⟨n, rfl, by omega, n1, gfor_it (walk_range (lo := 0) (n := n.toNat)) Pv h0 (fun _ _ _ _ _ _ => True.intro) (fun i x ys σ H H' hi p y => ?_) hd⟩
  obtain ⟨rfl, rfl⟩ := y
  dsimp only
  rw [Int.zero_add]
  exact hs i ys σ H' hi p
end
/-! ### a generator def; list(f(e, ..)) of it -/
section
variable {P : Program} {w : World} {K : PySem.W.Frag} {mg : Str → Option Value} {base : Heap}
theorem gok {x qual : Str} {st : Stmt} {f : Addr} {fd : FuncData} {N ps : List Str} {k : Nat} {sp : SpG} (F : Fun K x qual st f fd) (S : GScope N ps (defScope st)) (len : ∀ vs H Q E, sp vs H Q E → vs.length = ps.length)
    (hbody : ∀ (cdv : Value) (A : Around) (outer : List Env) (s : Shared) (H : Hp) (vs : List V) (Q : List V → Hp → Prop) (E : XK) (pn : List (Addr × Obj)), Room k (A.deeper (envOfC qual (defScope st) s.heap.objs.size f cdv)) → sp vs H Q E →
      ∃ t, GSs (gcxOf P w K mg base N qual (defScope st) f cdv A outer s H E pn) (defBody st) t ∧ t { nx := fun ys _ H' => Q ys H', rt := fun ys v H' => v = .non ∧ Q ys H' } [] (start N vs) H) :
    GFn P w K mg base (k + 1) f fd ps sp := by
  obtain ⟨oc, od, kV, doc, pm, an, cdv, ct, osl, rfl, lk, hcd⟩ := F.ex
  exact gfn_of lk hcd S len fun A outer s H vs Q E pn hr hsp => hbody cdv A outer s H vs Q E pn hr hsp
variable {X : Cx} {k : Nat} {f : Addr} {fd : FuncData} {ps : List Str} {sp : SpG} {ds : List Value} {dvs : List V} {x nm : Str} {p p2 pos pos2 : Pos} {e : Expr} {es : List Expr} {t : TA}
/-- what may leave: no StopIteration, and what the caller's wish takes -/
def noStopE (K : PySem.W.Frag) (E : XK) : XK := fun cls d H => PySem.W.subIn K cls (.type "StopIteration") = some false ∧ E cls d H
def tListGS (K : PySem.W.Frag) (sp : SpG) (dvs : List V) (E : L2.St → XK) (t : TA) : TE := fun σ H Q => t σ H fun vs H1 => sp (vs ++ dvs) H1 (fun out H2 => ∀ p, H2 p = none → Q (.ref p) (upd H2 p (.lst out))) (noStopE K (E σ))
theorem pe_listGS {E : L2.St → XK} (F : GFn X.prog X.w X.K X.mg X.base k f fd ps sp) (hr : Room (k + 3) X.A) (hgx : Gl X x) (hmx : X.mg x = some (.ref f)) (hk : PySem.W.keepIn X.K (.ref f) = true) (hb : Binds X.K fd ps ds) (hd : Vals dvs ds)
    (hx : ∀ σ, PassesAt (L2.CX X.prog X.w) X σ (E σ)) (ha : PA X (e :: es) t) (hg : Gl X nm) (hmg : X.mg nm = none) (hv : bootBuiltins nm = some (.type "list")) (hnm : nm ≠ "__name__" := by decide) (hdb : (nm == ("__debug__" : Str)) = false := by decide)
    (hdx : (x == ("__debug__" : Str)) = false := by decide) (hex : starEach (e :: es) X.env = (false, eval e X.env) :: starEach es X.env := by rfl) (hpl : (backTo pos2 (starEach es X.env)).any (·.1) = false := by rfl)
    (he : starEach [.Call (.Name x p2) (e :: es) [] pos2] X.env = (false, eval (.Call (.Name x p2) (e :: es) [] pos2) X.env) :: starEach [] X.env := by rfl) :
    PE X (.Call (.Name nm p) [.Call (.Name x p2) (e :: es) [] pos2] [] pos) (tListGS X.K sp dvs E t) := by
  refine ⟨fun pins s σ H Q I hq => ?_⟩
  have G : PGen X k (.Call (.Name x p2) (e :: es) [] pos2) (tCallG sp dvs (noStopE X.K (E σ)) t) (noStopE X.K (E σ)) := pgen_call F ((hr.mono (by omega))) hgx hmx hk hb hd ha hdx hex hpl
  refine wpAny_Call_Name_kw (ld_blt I hg hmg hv ?_ hnm hdb)
  refine PyProof.Rows.callWith_type1 ?_ he rfl
  rw [he]
  show wpAny _ _ (spliced ((false, eval (.Call (.Name x p2) (e :: es) [] pos2) X.env) :: backTo pos (starEach [] X.env))) _ _ s
  refine Calls.spliced_cons (thn (G.run pins s σ H _ I hq) fun u s1 hh => ?_)
  obtain ⟨H1, sc, ex, I1, hex', hG⟩ := hh
  refine Calls.spliced_nil ?_
  have hsz : sc.heap.objs.size ≤ s1.heap.objs.size := by
    obtain ⟨a, g, c, _, y1, y2, _⟩ := hG
    exact Nat.le_trans y1 (Nat.le_of_lt y2)
  refine call_list_new hr I1.ok.frames hG (fun S s' acc c H' ys q0 q1 q2 hl q3 q4 q5 q6 q7 q8 => ?_) fun e' s' g hc => ?_
  · exact ⟨.ref S, upd H' S (.lst ys), I1.drained (Nat.le_trans hsz q0) hl q1 q2 hex' q3 q4 q5 q6 q7, rfl, q8 S q7⟩
  · have kin : X.K.In s'.heap := by
      obtain ⟨a, B, H', cls, d, _, fl, _, ub, _⟩ := id hc
      refine I1.ok.mod.kin.keeps fun b o eb => fl.1 b o (ub.keep b o (I1.bs b o eb).1 (I1.bs b o eb).2 fun hm => ?_)
      rcases List.mem_cons.mp (I1.stkSub b hm) with z | z
      · have y1 := Heap.lt_size eb
        have y2 := Nat.le_trans I1.ok.bsz I1.ok.above
        rw [z] at y1
        exact absurd (Nat.lt_of_lt_of_le y1 y2) (Nat.lt_irrefl _)
      · exact I1.ok.nofr eb z
    refine ⟨notStop_of (E := noStopE X.K (E σ)) (fun cls d H h => h.1) kin hc, hx σ pins H1 sc e' _ I1 ?_⟩
    obtain ⟨a, B, H', cls, d, z1, fl, z2, ub, z3, z4, z5, z6⟩ := hc
    exact ⟨a, B, H', cls, d, z1, fl, z2, ub, z3, z4, allBare_setGen z5 rfl, z6.2⟩
end
section
variable {tb : TS} {D : Ends} {σ : L2.St} {H : Hp}
/-- one turn of a while: Pv by a measure -/
theorem w_turn {Pv : Nat → L2.St → Hp → Prop} {m : Nat} (q : tb { D with nx := fun σ' H' => ∃ m', m' < m ∧ Pv m' σ' H', ct := fun σ' H' => ∃ m', m' < m ∧ Pv m' σ' H', bk := D.nx } σ H) :
    ∃ N : L2.St → Hp → Prop, (∀ σ' H', N σ' H' → ∃ m', m' < m ∧ Pv m' σ' H') ∧ tb { D with nx := N, ct := N, bk := D.nx } σ H := ⟨_, fun _ _ h => h, q⟩
end
section
variable {X : Cx} {K : PySem.W.Frag} {k : Nat} {f : Addr} {fd : FuncData} {ps : List Str} {sp : SpG} {ds : List Value} {dvs : List V} {x nm : Str} {p p2 pos pos2 : Pos} {e : Expr} {es : List Expr} {t : TA}
theorem pe_listGSK {E : L2.St → XK} (hK : X.K = K) (F : GFn X.prog X.w K X.mg X.base k f fd ps sp) (hr : Room (k + 3) X.A) (hgx : Gl X x) (hmx : X.mg x = some (.ref f)) (hk : PySem.W.keepIn K (.ref f) = true) (hb : Binds K fd ps ds) (hd : Vals dvs ds)
    (hx : ∀ σ, PassesAt (L2.CX X.prog X.w) X σ (E σ)) (ha : PA X (e :: es) t) (hg : Gl X nm) (hmg : X.mg nm = none) (hv : bootBuiltins nm = some (.type "list")) (hnm : nm ≠ "__name__" := by decide) (hdb : (nm == ("__debug__" : Str)) = false := by decide)
    (hdx : (x == ("__debug__" : Str)) = false := by decide) (hex : starEach (e :: es) X.env = (false, eval e X.env) :: starEach es X.env := by rfl) (hpl : (backTo pos2 (starEach es X.env)).any (·.1) = false := by rfl)
    (he : starEach [.Call (.Name x p2) (e :: es) [] pos2] X.env = (false, eval (.Call (.Name x p2) (e :: es) [] pos2) X.env) :: starEach [] X.env := by rfl) :
    PE X (.Call (.Name nm p) [.Call (.Name x p2) (e :: es) [] pos2] [] pos) (tListGS K sp dvs E t) := by
  subst hK
  exact pe_listGS F hr hgx hmx hk hb hd hx ha hg hmg hv hnm hdb hdx hex hpl he
theorem w_listGS {H : Hp} {σ : L2.St} {Q : VK} {E : L2.St → XK} (q : t σ H fun vs H1 => sp (vs ++ dvs) H1 (fun out H2 => ∀ p, H2 p = none → Q (.ref p) (upd H2 p (.lst out))) (noStopE K (E σ))) : tListGS K sp dvs E t σ H Q := q
/-- nothing may leave -/
theorem passAtNo {σ : L2.St} : PassesAt (L2.CX X.prog X.w) X σ ((fun _ => E0 : L2.St → XK) σ) := fun _ _ _ _ _ _ hc => by
  obtain ⟨a, B, H', cls, d, z1, fl, z2, ub, z3, z4, z5, z6⟩ := hc
  exact z6.elim
end
section
variable {K : PySem.W.Frag} {I H : Hp} {M : Addr → Prop} {i : Nat} {σ : L2.St} {tt : TT} {te te0 : TE} {Q : VK} {g : TG} {vs : List Nat} {p : Addr} {xs : List V}
variable {Inv : Nat → Hp → Hp → List PyData → Prop} {Mid : Nat → Bool → Hp → Hp → List PyData → Prop}
theorem w_lcIterL (q : te0 σ H fun x H1 => tLc (iList K (tC x)) g tt te vs σ H1 Q) : tLc (iSeq K te0) g tt te vs σ H Q := .inl q
theorem w_compL0 (h : SqL K I p xs) (nM : ¬ M p) (C : CompOk K I H M xs.length (fun k => xs.getD k .non) i σ tt te Q Inv Mid) : tLc (iList K (tC (.ref p))) (gName i) tt te [i] σ H Q := by
  refine ⟨p, rfl, ⟨xs, C.sub.seq h⟩, fun E hE => comp_core walk_list (fun H' k => ?_) (fun k H x H' hk y => ⟨y.1, ?_⟩) C E hE⟩
  · rcases C.sub.seq h with (h | ⟨o, h⟩) | h
    · exact .inl (.inl (k _ _ nM h))
    · exact .inl (.inr ⟨o, k _ _ nM h⟩)
    · exact .inr h
  · rw [List.getD_eq_getElem?_getD, y.2]; rfl
end
section
variable {K : PySem.W.Frag} {H : Hp} {p : Addr} {xs : List V} {g : TG} {tb : TS} {D : Ends} {σ : L2.St} {te0 : TE}
theorem w_forIterT (q : te0 σ H fun x H1 => tFor (iTup K (tC x)) g tb D σ H1) : tFor (iSeq K te0) g tb D σ H := .inr q
theorem w_forIterL (q : te0 σ H fun x H1 => tFor (iList K (tC x)) g tb D σ H1) : tFor (iSeq K te0) g tb D σ H := .inl q
theorem w_forT0 (h : SqT K H p xs) (Pv : Nat → L2.St → Hp → Prop) (h0 : Pv 0 σ H) (hG : ∀ i σ H', i ≤ xs.length → Pv i σ H' → SqT K H' p xs)
    (hs : ∀ i x σ H', xs[i]? = some x → Pv i σ H' → g x σ H' fun σ2 H2 => tb { D with nx := Pv (i + 1), ct := Pv (i + 1), bk := D.nx } σ2 H2)
    (hd : ∀ σ H', Pv xs.length σ H' → D.nx σ H') : tFor (iTup K (tC (.ref p))) g tb D σ H := ⟨p, rfl, ⟨_, h⟩, for_tup Pv h0 hG hs hd⟩
end
theorem w_callSD {H : Hp} {σ : L2.St} {Q : VK} {sp : Sp} {dvs : List V} {E : L2.St → XK} {t : TA} (q : t σ H fun vs H1 => sp (vs ++ dvs) H1 Q (E σ)) : tCallSD sp dvs E t σ H Q := q
end L3
/-! The pure layer, part 1: data without a heap, computations that may draw, and what a state of slots says of the heap. -/
namespace L4
open PySem PySem.Spec PyProof.Rows L2 L3

/-! ### data -/
inductive PV where
  | non | bl (b : Bool) | int (i : Int) | str (s : Str)
  | tup (xs : List PV) | lst (xs : List PV)
  | ins (C : Nat) (fs : List (Str × PV))
  | dK (ks : List Key) (ds : List PV) | dT (ks : List (List Key)) (ds : List PV)
  | hand
  | ty (n : String)
  | cls (c : Nat)
/-- it is no hand -/
def PV.nh : PV → Bool
  | .hand => false
  | _ => true
/-- an error: its class's number, its fields -/
structure Xc where
  c : Nat
  fs : List (Str × PV)
/-- what a name holds: nothing that is known, data that stay, a list of one's own (its items stay), a caught error, an instance of one's own (its fields' data stay) -/
inductive Sl where
  | no | fz (d : PV) | ow (xs : List PV) | xc (x : Xc) | oi (C : Nat) (fs : List (Str × PV)) | od (d : PV)
/-- an object of one's own that may be written, in any slot -/
def Sl.isO : Sl → Bool
  | .ow _ => true
  | .od _ => true
  | _ => false
abbrev S4 := List Sl
/-- a value in flight: data that stay, the list that the name i holds, a new list -/
inductive Fv where
  | fz (d : PV) | bw (i : Nat) | ow (xs : List PV) | nd (d : PV)
/-- what a def hands back -/
inductive Rv where
  | fz (d : PV) | ow (xs : List PV)

/-! ### computations that may draw -/
inductive T (α : Type) : Type 1 where
  | ret (a : α)
  | stuck
  | need (p : Prop) (k : T α)
  | draw (n : Int) (k : Int → T α)
namespace T
def bind {α β : Type} : T α → (α → T β) → T β
  | ret a, f => f a
  | stuck, _ => stuck
  | need p k, f => need p (k.bind f)
  | draw n k, f => draw n fun r => (k r).bind f
end T
def wp {α : Type} : T α → (α → Prop) → Prop
  | .ret a, Q => Q a
  | .stuck, _ => False
  | .need p k, Q => p ∧ wp k Q
  | .draw n k, Q => (0 < n ∧ n < 1073741824) ∧ ∀ r, 0 ≤ r → r < n → wp (k r) Q
section
variable {α β : Type}
theorem wp_bind {f : α → T β} {Q : β → Prop} : ∀ {t : T α}, wp (t.bind f) Q ↔ wp t fun a => wp (f a) Q
  | .ret a => Iff.rfl
  | .stuck => Iff.rfl
  | .need p k => by show (p ∧ wp (k.bind f) Q) ↔ (p ∧ _); rw [wp_bind]
  | .draw n k => by
    show (_ ∧ ∀ r, 0 ≤ r → r < n → wp ((k r).bind f) Q) ↔ (_ ∧ ∀ r, 0 ≤ r → r < n → wp (k r) fun a => wp (f a) Q)
    constructor
    · exact fun h => ⟨h.1, fun r h0 h1 => wp_bind.mp (h.2 r h0 h1)⟩
    · exact fun h => ⟨h.1, fun r h0 h1 => wp_bind.mpr (h.2 r h0 h1)⟩
theorem wp_mono {Q Q' : α → Prop} : ∀ {t : T α}, wp t Q → (∀ a, Q a → Q' a) → wp t Q'
  | .ret a, h, q => q a h
  | .stuck, h, _ => h
  | .need p k, h, q => ⟨h.1, wp_mono h.2 q⟩
  | .draw n k, h, q => ⟨h.1, fun r h0 h1 => wp_mono (h.2 r h0 h1) q⟩
theorem T.bind_assoc {γ : Type} {f : α → T β} {g : β → T γ} : ∀ {t : T α}, (t.bind f).bind g = t.bind fun a => (f a).bind g
  | .ret a => rfl
  | .stuck => rfl
  | .need p k => by show T.need p ((k.bind f).bind g) = T.need p (k.bind _); rw [T.bind_assoc]
  | .draw n k => by
    show T.draw n (fun r => ((k r).bind f).bind g) = T.draw n fun r => (k r).bind _
    congr 1
    funext r
    rw [T.bind_assoc]
end

/-! ### computations over the slots -/
inductive Out (α : Type) where
  | val (a : α) (s : S4)
  | exc (x : Xc) (s : S4)
abbrev M (α : Type) := S4 → T (Out α)
section
variable {α β γ : Type}
def M.ret (a : α) : M α := fun s => .ret (.val a s)
def M.stuck : M α := fun _ => .stuck
def M.raise (x : Xc) : M α := fun s => .ret (.exc x s)
def M.bind (m : M α) (f : α → M β) : M β := fun s => (m s).bind fun o => match o with
  | .val a s' => f a s'
  | .exc x s' => .ret (.exc x s')
def M.lift (t : T α) : M α := fun s => t.bind fun a => .ret (.val a s)
def oK (Q : α → S4 → Prop) (X : Xc → S4 → Prop) : Out α → Prop
  | .val a s' => Q a s'
  | .exc x s' => X x s'
def wpM (m : M α) (s : S4) (Q : α → S4 → Prop) (X : Xc → S4 → Prop) : Prop := wp (m s) (oK Q X)
theorem wpM_bind {m : M α} {f : α → M β} {s : S4} {Q : β → S4 → Prop} {X : Xc → S4 → Prop} : wpM (m.bind f) s Q X ↔ wpM m s (fun a s' => wpM (f a) s' Q X) X := by
  unfold wpM M.bind
  rw [wp_bind]
  constructor
  · exact fun h => wp_mono h fun o ho => by cases o <;> exact ho
  · exact fun h => wp_mono h fun o ho => by cases o <;> exact ho
theorem wpM_mono {m : M α} {s : S4} {Q Q' : α → S4 → Prop} {X X' : Xc → S4 → Prop} (h : wpM m s Q X) (hq : ∀ a s', Q a s' → Q' a s') (hx : ∀ x s', X x s' → X' x s') : wpM m s Q' X' :=
  wp_mono h fun o ho => by
    cases o with
    | val a s' => exact hq a s' ho
    | exc x s' => exact hx x s' ho
theorem wpM_lift {t : T α} {s : S4} {Q : α → S4 → Prop} {X : Xc → S4 → Prop} : wpM (M.lift t) s Q X ↔ wp t fun a => Q a s := by
  unfold wpM M.lift
  rw [wp_bind]
  rfl
theorem wpM_ret {a : α} {s : S4} {Q : α → S4 → Prop} {X : Xc → S4 → Prop} : wpM (M.ret a) s Q X ↔ Q a s := Iff.rfl
end

/-! ### data in the heap -/
mutual
inductive Dv (K : PySem.W.Frag) (ca : Nat → Addr) (H : Hp) : V → PV → Prop
  | non : Dv K ca H .non .non
  | bl (b : Bool) : Dv K ca H (.bl b) (.bl b)
  | int (i : Int) : Dv K ca H (.int i) (.int i)
  | str (x : Str) : Dv K ca H (.str x) (.str x)
  | lst {a : Addr} {xs : List V} {ds : List PV} : H a = some (.lst xs) → DvA K ca H xs ds → Dv K ca H (.ref a) (.lst ds)
  | tup {a : Addr} {xs : List V} {ds : List PV} : H a = some (.tup xs) → DvA K ca H xs ds → Dv K ca H (.ref a) (.tup ds)
  | ins {a dx : Addr} {C : Nat} {fs : List (Str × V)} {ds : List (Str × PV)} : H a = some (.ins (ca C) dx fs) → DvF K ca H fs ds → Dv K ca H (.ref a) (.ins C ds)
  | dK {a : Addr} {kvs : List (Key × V)} {ds : List PV} : H a = some (.dK kvs) → DvA K ca H (kvs.map (·.2)) ds → Dv K ca H (.ref a) (.dK (kvs.map (·.1)) ds)
  | dT {a : Addr} {kvs : List (List Key × V)} {ds : List PV} : H a = some (.dT kvs) → DvA K ca H (kvs.map (·.2)) ds → Dv K ca H (.ref a) (.dT (kvs.map (·.1)) ds)
  | ty (n : String) : Dv K ca H (.ty n) (.ty n)
  | cls (c : Nat) : Dv K ca H (.ref (ca c)) (.cls c)
inductive DvA (K : PySem.W.Frag) (ca : Nat → Addr) (H : Hp) : List V → List PV → Prop
  | nil : DvA K ca H [] []
  | cons {v : V} {vs : List V} {d : PV} {ds : List PV} : Dv K ca H v d → DvA K ca H vs ds → DvA K ca H (v :: vs) (d :: ds)
inductive DvF (K : PySem.W.Frag) (ca : Nat → Addr) (H : Hp) : List (Str × V) → List (Str × PV) → Prop
  | nil : DvF K ca H [] []
  | cons {f : Str} {v : V} {vs : List (Str × V)} {d : PV} {ds : List (Str × PV)} : Dv K ca H v d → DvF K ca H vs ds → DvF K ca H ((f, v) :: vs) ((f, d) :: ds)
end
section
variable {K : PySem.W.Frag} {ca : Nat → Addr} {I J : Hp}
mutual
theorem dvUp (e : Same I J) : ∀ (d : PV) (v : V), Dv K ca I v d → Dv K ca J v d
  | .non, _, .non => .non
  | .bl _, _, .bl b => .bl b
  | .int _, _, .int i => .int i
  | .str _, _, .str x => .str x
  | .lst ds, _, .lst h q => .lst (e _ _ h) (dvUpA e ds _ q)
  | .tup ds, _, .tup h q => .tup (e _ _ h) (dvUpA e ds _ q)
  | .ins C ds, _, .ins h q => .ins (e _ _ h) (dvUpF e ds _ q)
  | .dK _ ds, _, .dK h q => .dK (e _ _ h) (dvUpA e ds _ q)
  | .dT _ ds, _, .dT h q => .dT (e _ _ h) (dvUpA e ds _ q)
  | .ty _, _, .ty n => .ty n
  | .cls _, _, .cls c => .cls c
theorem dvUpA (e : Same I J) : ∀ (ds : List PV) (vs : List V), DvA K ca I vs ds → DvA K ca J vs ds
  | [], _, .nil => .nil
  | d :: ds, _, .cons h q => .cons (dvUp e d _ h) (dvUpA e ds _ q)
theorem dvUpF (e : Same I J) : ∀ (ds : List (Str × PV)) (vs : List (Str × V)), DvF K ca I vs ds → DvF K ca J vs ds
  | [], _, .nil => .nil
  | (f, d) :: ds, _, .cons h q => .cons (dvUp e d _ h) (dvUpF e ds _ q)
end
theorem Dv.up {v : V} {d : PV} (h : Dv K ca I v d) (e : Same I J) : Dv K ca J v d := dvUp e d v h
theorem DvA.up {vs : List V} {ds : List PV} (h : DvA K ca I vs ds) (e : Same I J) : DvA K ca J vs ds := dvUpA e ds vs h
theorem DvF.up {vs : List (Str × V)} {ds : List (Str × PV)} (h : DvF K ca I vs ds) (e : Same I J) : DvF K ca J vs ds := dvUpF e ds vs h
theorem DvA.append {vs ws : List V} {ds es : List PV} : DvA K ca I vs ds → DvA K ca I ws es → DvA K ca I (vs ++ ws) (ds ++ es)
  | .nil, q => q
  | .cons h t, q => .cons h (DvA.append t q)
theorem DvA.length : ∀ {vs : List V} {ds : List PV}, DvA K ca I vs ds → vs.length = ds.length
  | _, _, .nil => rfl
  | _, _, .cons _ t => by rw [List.length_cons, List.length_cons, DvA.length t]
theorem DvA.get : ∀ {vs : List V} {ds : List PV} {i : Nat} {d : PV}, DvA K ca I vs ds → ds[i]? = some d → ∃ v, vs[i]? = some v ∧ Dv K ca I v d
  | _, _, _, _, .nil, e => by simp at e
  | _, _, 0, _, .cons h _, e => by simp at e; subst e; exact ⟨_, rfl, h⟩
  | _, _, i + 1, d, .cons _ t, e => by
    obtain ⟨v, h1, h2⟩ := DvA.get (i := i) (d := d) t (by simpa using e)
    exact ⟨v, by simpa using h1, h2⟩
theorem DvA.getV : ∀ {vs : List V} {ds : List PV} {i : Nat} {v : V}, DvA K ca I vs ds → vs[i]? = some v → ∃ d, ds[i]? = some d ∧ Dv K ca I v d
  | _, _, _, _, .nil, e => by simp at e
  | _, _, 0, _, .cons h _, e => by simp at e; subst e; exact ⟨_, rfl, h⟩
  | _, _, i + 1, v, .cons _ t, e => by
    obtain ⟨d, h1, h2⟩ := DvA.getV (i := i) (v := v) t (by simpa using e)
    exact ⟨d, by simpa using h1, h2⟩
theorem DvA.take : ∀ {vs : List V} {ds : List PV} (n : Nat), DvA K ca I vs ds → DvA K ca I (vs.take n) (ds.take n)
  | _, _, 0, _ => .nil
  | _, _, _ + 1, .nil => .nil
  | _, _, n + 1, .cons h t => .cons h (DvA.take n t)
theorem DvA.drop : ∀ {vs : List V} {ds : List PV} (n : Nat), DvA K ca I vs ds → DvA K ca I (vs.drop n) (ds.drop n)
  | _, _, 0, h => h
  | _, _, _ + 1, .nil => .nil
  | _, _, n + 1, .cons _ t => DvA.drop n t
theorem DvA.set : ∀ {vs : List V} {ds : List PV} (n : Nat) {v : V} {d : PV}, DvA K ca I vs ds → Dv K ca I v d → DvA K ca I (vs.set n v) (ds.set n d)
  | _, _, _, _, _, .nil, _ => .nil
  | _, _, 0, _, _, .cons _ t, q => .cons q t
  | _, _, n + 1, _, _, .cons h t, q => .cons h (DvA.set n t q)
theorem DvA.erase : ∀ {vs : List V} {ds : List PV} (n : Nat), DvA K ca I vs ds → DvA K ca I (vs.eraseIdx n) (ds.eraseIdx n)
  | _, _, _, .nil => .nil
  | _, _, 0, .cons _ t => t
  | _, _, n + 1, .cons h t => .cons h (DvA.erase n t)
theorem DvA.reverse : ∀ {vs : List V} {ds : List PV}, DvA K ca I vs ds → DvA K ca I vs.reverse ds.reverse
  | _, _, .nil => .nil
  | _, _, .cons h t => by
    rw [List.reverse_cons, List.reverse_cons]
    exact DvA.append (DvA.reverse t) (.cons h .nil)
theorem DvA.ints : ∀ (ns : List Int), DvA K ca I (ns.map V.int) (ns.map PV.int)
  | [] => .nil
  | n :: ns => .cons (.int n) (DvA.ints ns)
theorem DvA.isInts : ∀ {vs : List V} {ns : List Int}, DvA K ca I vs (ns.map PV.int) → vs = ns.map V.int
  | _, [], .nil => rfl
  | _, n :: ns, .cons h t => by
    cases h
    rw [DvA.isInts t]
    rfl
theorem Dv.tupRef {v : V} {ds : List PV} (h : Dv K ca I v (.tup ds)) : ∃ a xs, v = .ref a ∧ SqT K I a xs ∧ DvA K ca I xs ds := by
  cases h with
  | tup h q => exact ⟨_, _, rfl, ofT h, q⟩
theorem Dv.tupStrict {v : V} {ds : List PV} (h : Dv K ca I v (.tup ds)) : ∃ a xs, v = .ref a ∧ I a = some (.tup xs) ∧ DvA K ca I xs ds := by
  cases h with
  | tup h q => exact ⟨_, _, rfl, h, q⟩
theorem Dv.lstRef {v : V} {ds : List PV} (h : Dv K ca I v (.lst ds)) : ∃ a xs, v = .ref a ∧ I a = some (.lst xs) ∧ DvA K ca I xs ds := by
  cases h with
  | lst h q => exact ⟨_, _, rfl, h, q⟩
end

/-! ### what the slots say -/
/-- where a def began: what stayed then, the heap; the hand (if there is one); objects that are being made (no name holds them) -/
structure Gh where
  I0 : Hp
  H0 : Hp
  h : Option Addr
  rs : List (Addr × List V)
  Im : Hp
  me : Option Addr
def Mo (h : Option Addr) : Addr → Prop := fun b => h = some b
def HandO (K : PySem.W.Frag) (I H : Hp) : Option Addr → Prop
  | none => Same I H
  | some a => Hand K I H a
/-- data, or the hand -/
def Dh (K : PySem.W.Frag) (ca : Nat → Addr) (h : Option Addr) (I : Hp) (v : V) (d : PV) : Prop := (d = .hand ∧ ∃ a, h = some a ∧ v = .ref a) ∨ Dv K ca I v d
abbrev Ex := Addr × Value × Option Addr
def XcOk (K : PySem.W.Frag) (ca : Nat → Addr) (I : Hp) (cls : Value) (dd : Option Addr) (x : Xc) : Prop :=
  cls = .ref (ca x.c) ∧ ((x.fs = [] ∧ dd = none) ∨ ∃ ad fs, dd = some ad ∧ I ad = some (.xd fs) ∧ DvF K ca I fs x.fs)
/-- a dict of one's own (its values stay) -/
inductive DicO (K : PySem.W.Frag) (ca : Nat → Addr) (I : Hp) : HO → PV → Prop
  | k {kvs : List (Key × V)} {ds : List PV} : DvA K ca I (kvs.map (·.2)) ds → DicO K ca I (.dK kvs) (.dK (kvs.map (·.1)) ds)
  | t {kvs : List (List Key × V)} {ds : List PV} : DvA K ca I (kvs.map (·.2)) ds → DicO K ca I (.dT kvs) (.dT (kvs.map (·.1)) ds)
theorem DicO.up {K : PySem.W.Frag} {ca : Nat → Addr} {I J : Hp} {o : HO} {d : PV} (h : DicO K ca I o d) (e : Same I J) : DicO K ca J o d := by
  cases h with
  | k q => exact .k (q.up e)
  | t q => exact .t (q.up e)
theorem DicO.dv {K : PySem.W.Frag} {ca : Nat → Addr} {I : Hp} {o : HO} {d : PV} {a : Addr} (h : DicO K ca I o d) (e : I a = some o) : Dv K ca I (.ref a) d := by
  cases h with
  | k q => exact .dK e q
  | t q => exact .dT e q
/-- an object that may be frozen: a list or a dict -/
def Fzo (o : HO) : Prop := (∀ C dx fs, o ≠ .ins C dx fs)
theorem DicO.fzo {K : PySem.W.Frag} {ca : Nat → Addr} {I : Hp} {o : HO} {d : PV} (h : DicO K ca I o d) : Fzo o := by
  cases h <;> exact fun _ _ _ z => by cases z
theorem fzoL {vs : List V} : Fzo (.lst vs) := fun _ _ _ z => by cases z
theorem Fzo.ne {o : HO} {H : Hp} {p q C dx : Addr} {fs : List (Str × V)} (f : Fzo o) (e : H p = some o) (e2 : H q = some (.ins C dx fs)) : q ≠ p := fun h => by
  rw [h, e] at e2
  exact f _ _ _ (Option.some.inj e2)
theorem DicO.neL {K : PySem.W.Frag} {ca : Nat → Addr} {I : Hp} {o : HO} {d : PV} {H : Hp} {p q : Addr} {vs : List V} (h : DicO K ca I o d) (e : H p = some o) (e2 : H q = some (.lst vs)) : q ≠ p := fun z => by
  rw [z, e] at e2
  cases h <;> cases e2
/-- the fields of the instance that is being made -/
structure OiD (K : PySem.W.Frag) (ca : Nat → Addr) (I : Hp) (me : Option Addr) (p : Addr) (vs : List (Str × V)) (fs : List (Str × PV)) : Prop where
  d : DvF K ca I vs fs
  me : me = some p
theorem OiD.up {K : PySem.W.Frag} {ca : Nat → Addr} {I J : Hp} {me : Option Addr} {p : Addr} {vs : List (Str × V)} {fs : List (Str × PV)} (h : OiD K ca I me p vs fs) (e : Same I J) : OiD K ca J me p vs fs := ⟨h.d.up e, h.me⟩
def SlOk (K : PySem.W.Frag) (ca : Nat → Addr) (ex : Ex) (g : Gh) (I H : Hp) : Sl → Option V → Prop
  | .no, _ => True
  | .fz d, v => ∃ u, v = some u ∧ Dh K ca g.h I u d
  | .ow xs, v => ∃ p vs, v = some (.ref p) ∧ I p = none ∧ g.H0 p = none ∧ g.h ≠ some p ∧ H p = some (.lst vs) ∧ DvA K ca I vs xs
  | .xc x, v => v = some (.ref ex.1) ∧ XcOk K ca I ex.2.1 ex.2.2 x
  | .oi C fs, v => ∃ p dx vs, v = some (.ref p) ∧ I p = none ∧ g.H0 p = none ∧ g.h ≠ some p ∧ H p = some (.ins (ca C) dx vs) ∧ OiD K ca I g.me p vs fs
  | .od d, v => ∃ p o, v = some (.ref p) ∧ I p = none ∧ g.H0 p = none ∧ g.h ≠ some p ∧ H p = some o ∧ DicO K ca I o d
structure Good (K : PySem.W.Frag) (ca : Nat → Addr) (ex : Ex) (g : Gh) (I H : Hp) (s : S4) (σ : L2.St) : Prop where
  s0 : Same g.I0 g.H0
  im : Same g.Im I
  lf : Lf (Mo g.h) g.I0 g.H0 I H
  hd : HandO K I H g.h
  len : s.length = σ.length
  at' : ∀ (i : Nat) (x : Sl) (v : Option V), s[i]? = some x → σ[i]? = some v → SlOk K ca ex g I H x v
  sep : ∀ (i j : Nat) (x y : Sl) (p : Addr), s[i]? = some x → s[j]? = some y → x.isO = true → y.isO = true → σ[i]? = some (some (.ref p)) → σ[j]? = some (some (.ref p)) → i = j
  res : ∀ q ∈ g.rs, I q.1 = none ∧ g.H0 q.1 = none ∧ g.h ≠ some q.1 ∧ H q.1 = some (.lst q.2) ∧ ∀ (i : Nat) (x : Sl), s[i]? = some x → x.isO = true → σ[i]? ≠ some (some (.ref q.1))
section
variable {K : PySem.W.Frag} {ca : Nat → Addr} {ex : Ex} {g : Gh} {I H I' H' : Hp} {s : S4} {σ : L2.St} {p : Addr}
theorem HandO.sub {h : Option Addr} (x : HandO K I H h) : Same I H := by
  cases h with
  | none => exact x
  | some a => exact Hand.sub x
theorem Good.sub (G : Good K ca ex g I H s σ) : Same I H := G.lf.sub
theorem HandO.to {h : Option Addr} (x : HandO K I H h) (f : Lf No I H I' H') : HandO K I' H' h := by
  cases h with
  | none => exact f.sub
  | some a => exact Hand.to x f (fun h => h)
theorem Dh.up {h : Option Addr} {v : V} {d : PV} (x : Dh K ca h I v d) (e : Same I I') : Dh K ca h I' v d := x.elim .inl fun q => .inr (q.up e)
theorem XcOk.up {cls : Value} {dd : Option Addr} {x : Xc} (h : XcOk K ca I cls dd x) (e : Same I I') : XcOk K ca I' cls dd x := by
  obtain ⟨h1, h2⟩ := h
  refine ⟨h1, h2.imp (fun z => z) ?_⟩
  rintro ⟨ad, fs, e1, e2, e3⟩
  exact ⟨ad, fs, e1, e _ _ e2, e3.up e⟩
/-- a step that may draw, and leaves the names' own lists -/
theorem Good.step (G : Good K ca ex g I H s σ) (f : Lf (Mo g.h) I H I' H') (hd : HandO K I' H' g.h) : Good K ca ex g I' H' s σ where
  s0 := G.s0
  im := G.im.trans f.ext
  lf := G.lf.trans f
  hd := hd
  len := G.len
  at' := fun i x v e1 e2 => by
    have z := G.at' i x v e1 e2
    cases x with
    | no => trivial
    | fz d =>
      obtain ⟨u, r, h⟩ := z
      exact ⟨u, r, h.up f.ext⟩
    | ow xs =>
      obtain ⟨p, vs, r, h1, h2, h3, h4, h5⟩ := z
      exact ⟨p, vs, r, f.off h1 (none_ne h4), h2, h3, f.keep p _ h3 h4, h5.up f.ext⟩
    | xc x => exact ⟨z.1, z.2.up f.ext⟩
    | oi C fs =>
      obtain ⟨p, dx, vs, r, h1, h2, h3, h4, h5⟩ := z
      exact ⟨p, dx, vs, r, f.off h1 (none_ne h4), h2, h3, f.keep p _ h3 h4, h5.up f.ext⟩
    | od d =>
      obtain ⟨p, o, r, h1, h2, h3, h4, h5⟩ := z
      exact ⟨p, o, r, f.off h1 (none_ne h4), h2, h3, f.keep p _ h3 h4, h5.up f.ext⟩
  sep := G.sep
  res := fun q hq => by
    obtain ⟨h1, h2, h3, h4, h5⟩ := G.res q hq
    exact ⟨f.off h1 (none_ne h4), h2, h3, f.keep _ _ h3 h4, h5⟩
theorem Good.stepNo (G : Good K ca ex g I H s σ) (f : Lf No I H I' H') : Good K ca ex g I' H' s σ := G.step f.any (G.hd.to f)
theorem same_updN {o : HO} (n : I p = none) : Same I (upd I p o) := fun b z q => by rw [upd_ne (fun h => by rw [h, n] at q; cases q)]; exact q
theorem HandO.freeze {h : Option Addr} {o : HO} (x : HandO K I H h) (n : I p = none) (ne : h ≠ some p) (e : H p = some o) : HandO K (upd I p o) H h := by
  cases h with
  | none =>
    intro b z q
    by_cases hb : b = p
    · subst hb; rw [upd_same] at q; rw [← q]; exact e
    · rw [upd_ne hb] at q; exact x b z q
  | some a => exact handFreeze x e n fun h => ne (by rw [h])
/-- a slot keeps what it says where an object off it is frozen -/
theorem SlOk.frz {x : Sl} {v : Option V} {o : HO} (z : SlOk K ca ex g I H x v) (n : I p = none) (off : ∀ q, v = some (.ref q) → x.isO = true → q ≠ p) (offi : ∀ q C dx fs, H q = some (.ins C dx fs) → q ≠ p) : SlOk K ca ex g (upd I p o) H x v := by
  have S : Same I (upd I p o) := same_updN n
  cases x with
  | no => trivial
  | fz d =>
    obtain ⟨u, r, h⟩ := z
    exact ⟨u, r, h.up S⟩
  | ow xs =>
    obtain ⟨q, vs, r, h1, h2, h3, h4, h5⟩ := z
    exact ⟨q, vs, r, by rw [upd_ne (off q r rfl)]; exact h1, h2, h3, h4, h5.up S⟩
  | xc x => exact ⟨z.1, z.2.up S⟩
  | oi C fs =>
    obtain ⟨q, dx, vs, r, h1, h2, h3, h4, h5⟩ := z
    exact ⟨q, dx, vs, r, by rw [upd_ne (offi q _ _ _ h4)]; exact h1, h2, h3, h4, h5.up S⟩
  | od d =>
    obtain ⟨q, o', r, h1, h2, h3, h4, h5⟩ := z
    exact ⟨q, o', r, by rw [upd_ne (off q r rfl)]; exact h1, h2, h3, h4, h5.up S⟩
/-- a slot keeps what it says where an object off it is written -/
theorem SlOk.wr {x : Sl} {v : Option V} {o : HO} (z : SlOk K ca ex g I H x v) (off : ∀ q, v = some (.ref q) → x.isO = true → q ≠ p) (offi : ∀ q C dx fs, H q = some (.ins C dx fs) → q ≠ p) : SlOk K ca ex g I (upd H p o) x v := by
  cases x with
  | no => trivial
  | fz d => exact z
  | ow xs =>
    obtain ⟨q, vs, r, h1, h2, h3, h4, h5⟩ := z
    exact ⟨q, vs, r, h1, h2, h3, by rw [upd_ne (off q r rfl)]; exact h4, h5⟩
  | xc x => exact z
  | oi C fs =>
    obtain ⟨q, dx, vs, r, h1, h2, h3, h4, h5⟩ := z
    exact ⟨q, dx, vs, r, h1, h2, h3, by rw [upd_ne (offi q _ _ _ h4)]; exact h4, h5⟩
  | od d =>
    obtain ⟨q, o', r, h1, h2, h3, h4, h5⟩ := z
    exact ⟨q, o', r, h1, h2, h3, by rw [upd_ne (off q r rfl)]; exact h4, h5⟩
/-- a list or dict of one's own, held by no name, stays from now on -/
theorem Good.freezeO {o : HO} (G : Good K ca ex g I H s σ) (fo : Fzo o) (n : I p = none) (h0 : g.H0 p = none) (ne : g.h ≠ some p) (e : H p = some o) (off : ∀ (i : Nat) (x : Sl), s[i]? = some x → x.isO = true → σ[i]? ≠ some (some (.ref p)))
    (offr : ∀ q ∈ g.rs, q.1 ≠ p) : Good K ca ex g (upd I p o) H s σ where
  s0 := G.s0
  im := G.im.trans (same_updN n)
  lf := G.lf.freeze G.s0 h0 e
  hd := G.hd.freeze n ne e
  len := G.len
  at' := fun i x v e1 e2 => (G.at' i x v e1 e2).frz n (fun q r ho h => off i x e1 ho (by rw [e2, r, h])) fun q C dx fs e3 => fo.ne e e3
  sep := G.sep
  res := fun q hq => by
    obtain ⟨h1, h2, h3, h4, h5⟩ := G.res q hq
    exact ⟨by rw [upd_ne (offr q hq)]; exact h1, h2, h3, h4, h5⟩
theorem Good.freeze {o : List V} (G : Good K ca ex g I H s σ) (n : I p = none) (h0 : g.H0 p = none) (ne : g.h ≠ some p) (e : H p = some (.lst o)) (off : ∀ (i : Nat) (x : Sl), s[i]? = some x → x.isO = true → σ[i]? ≠ some (some (.ref p)))
    (offr : ∀ q ∈ g.rs, q.1 ≠ p) : Good K ca ex g (upd I p (.lst o)) H s σ := G.freezeO fzoL n h0 ne e off offr
theorem get_set {α : Type} {l : List α} {i j : Nat} {x y : α} (h : (l.set i x)[j]? = some y) : (j = i ∧ y = x) ∨ (j ≠ i ∧ l[j]? = some y) := by
  by_cases e : j = i
  · subst e
    rw [List.getElem?_set] at h
    simp at h
    exact .inl ⟨rfl, h.2.symm⟩
  · rw [List.getElem?_set] at h
    rw [if_neg (fun z => e z.symm)] at h
    exact .inr ⟨e, h⟩
/-- the name i holds something else that is no object of one's own -/
theorem Good.setN (G : Good K ca ex g I H s σ) (i : Nat) {v : Option V} {y : Sl} (hy : y.isO = false) (h : SlOk K ca ex g I H y v) : Good K ca ex g I H (s.set i y) (σ.set i v) where
  s0 := G.s0
  im := G.im
  lf := G.lf
  hd := G.hd
  len := by rw [List.length_set, List.length_set]; exact G.len
  at' := fun j x w e1 e2 => by
    rcases get_set e1 with ⟨rfl, rfl⟩ | ⟨n1, e1⟩
    · rcases get_set e2 with ⟨_, rfl⟩ | ⟨n2, _⟩
      · exact h
      · exact absurd rfl n2
    · rcases get_set e2 with ⟨z, _⟩ | ⟨_, e2⟩
      · exact absurd z n1
      · exact G.at' j x w e1 e2
  sep := fun a b x1 x2 p e1 e2 o1 o2 e3 e4 => by
    rcases get_set e1 with ⟨_, z⟩ | ⟨n1, e1⟩
    · rw [z, hy] at o1; cases o1
    · rcases get_set e2 with ⟨_, z⟩ | ⟨n2, e2⟩
      · rw [z, hy] at o2; cases o2
      · rcases get_set e3 with ⟨z, _⟩ | ⟨_, e3⟩
        · exact absurd z n1
        · rcases get_set e4 with ⟨z, _⟩ | ⟨_, e4⟩
          · exact absurd z n2
          · exact G.sep a b x1 x2 p e1 e2 o1 o2 e3 e4
  res := fun q hq => by
    obtain ⟨h1, h2, h3, h4, h5⟩ := G.res q hq
    refine ⟨h1, h2, h3, h4, fun j xs e1 o1 e2 => ?_⟩
    rcases get_set e1 with ⟨_, z⟩ | ⟨n1, e1⟩
    · rw [z, hy] at o1; cases o1
    · rcases get_set e2 with ⟨z, _⟩ | ⟨_, e2⟩
      · exact absurd z n1
      · exact h5 j xs e1 o1 e2
theorem Good.setFz (G : Good K ca ex g I H s σ) (i : Nat) {v : V} {d : PV} (h : Dh K ca g.h I v d) : Good K ca ex g I H (s.set i (.fz d)) (σ.set i (some v)) := G.setN i rfl ⟨v, rfl, h⟩
theorem Good.setNo (G : Good K ca ex g I H s σ) (i : Nat) {v : Option V} : Good K ca ex g I H (s.set i .no) (σ.set i v) := G.setN i rfl trivial
/-- the name i holds an object of one's own that no name held -/
theorem Good.setO (G : Good K ca ex g I H s σ) (i : Nat) {p : Addr} {y : Sl} (h : SlOk K ca ex g I H y (some (.ref p)))
    (off : ∀ (i : Nat) (x : Sl), s[i]? = some x → x.isO = true → σ[i]? ≠ some (some (.ref p))) (offr : ∀ q ∈ g.rs, q.1 ≠ p) : Good K ca ex g I H (s.set i y) (σ.set i (some (.ref p))) where
  s0 := G.s0
  im := G.im
  lf := G.lf
  hd := G.hd
  len := by rw [List.length_set, List.length_set]; exact G.len
  at' := fun j x w e1 e2 => by
    rcases get_set e1 with ⟨rfl, rfl⟩ | ⟨n1, e1⟩
    · rcases get_set e2 with ⟨_, rfl⟩ | ⟨n2, _⟩
      · exact h
      · exact absurd rfl n2
    · rcases get_set e2 with ⟨z, _⟩ | ⟨_, e2⟩
      · exact absurd z n1
      · exact G.at' j x w e1 e2
  sep := fun a b x1 x2 q e1 e2 o1 o2 e3 e4 => by
    by_cases ha : a = i
    · by_cases hb : b = i
      · rw [ha, hb]
      · rcases get_set e2 with ⟨z, _⟩ | ⟨_, e2'⟩
        · exact absurd z hb
        · rcases get_set e4 with ⟨z, _⟩ | ⟨_, e4'⟩
          · exact absurd z hb
          · rcases get_set e3 with ⟨_, z⟩ | ⟨z, _⟩
            · cases z
              exact absurd e4' (off b x2 e2' o2)
            · exact absurd ha z
    · rcases get_set e1 with ⟨z, _⟩ | ⟨_, e1'⟩
      · exact absurd z ha
      · rcases get_set e3 with ⟨z, _⟩ | ⟨_, e3'⟩
        · exact absurd z ha
        · by_cases hb : b = i
          · rcases get_set e4 with ⟨_, z⟩ | ⟨z, _⟩
            · cases z
              exact absurd e3' (off a x1 e1' o1)
            · exact absurd hb z
          · rcases get_set e2 with ⟨z, _⟩ | ⟨_, e2'⟩
            · exact absurd z hb
            · rcases get_set e4 with ⟨z, _⟩ | ⟨_, e4'⟩
              · exact absurd z hb
              · exact G.sep a b x1 x2 q e1' e2' o1 o2 e3' e4'
  res := fun q hq => by
    obtain ⟨h1, h2, h3, h4, h5⟩ := G.res q hq
    refine ⟨h1, h2, h3, h4, fun j x e1 o1 e2 => ?_⟩
    by_cases hj : j = i
    · rcases get_set e2 with ⟨_, z⟩ | ⟨z, _⟩
      · cases z
        exact offr q hq rfl
      · exact absurd hj z
    · rcases get_set e1 with ⟨z, _⟩ | ⟨_, e1'⟩
      · exact absurd z hj
      · rcases get_set e2 with ⟨z, _⟩ | ⟨_, e2'⟩
        · exact absurd z hj
        · exact h5 j x e1' o1 e2'
theorem Good.setOw (G : Good K ca ex g I H s σ) (i : Nat) {p : Addr} {vs : List V} {xs : List PV} (n : I p = none) (h0 : g.H0 p = none) (ne : g.h ≠ some p) (e : H p = some (.lst vs)) (d : DvA K ca I vs xs)
    (off : ∀ (i : Nat) (x : Sl), s[i]? = some x → x.isO = true → σ[i]? ≠ some (some (.ref p))) (offr : ∀ q ∈ g.rs, q.1 ≠ p) : Good K ca ex g I H (s.set i (.ow xs)) (σ.set i (some (.ref p))) :=
  G.setO i ⟨p, vs, rfl, n, h0, ne, e, d⟩ off offr
/-- the own list of a name: where it stands -/
theorem Good.own (G : Good K ca ex g I H s σ) {i : Nat} {xs : List PV} {v : V} (e : s[i]? = some (.ow xs)) (hv : σ[i]? = some (some v)) :
    ∃ p vs, v = .ref p ∧ I p = none ∧ g.H0 p = none ∧ g.h ≠ some p ∧ H p = some (.lst vs) ∧ DvA K ca I vs xs := by
  obtain ⟨p, vs, r, h⟩ := G.at' i _ _ e hv
  cases r
  exact ⟨p, vs, rfl, h⟩
theorem Good.ownD (G : Good K ca ex g I H s σ) {i : Nat} {d : PV} {v : V} (e : s[i]? = some (.od d)) (hv : σ[i]? = some (some v)) :
    ∃ p o, v = .ref p ∧ I p = none ∧ g.H0 p = none ∧ g.h ≠ some p ∧ H p = some o ∧ DicO K ca I o d := by
  obtain ⟨p, o, r, h⟩ := G.at' i _ _ e hv
  cases r
  exact ⟨p, o, rfl, h⟩
/-- the own object of the name i becomes data that stay -/
theorem Good.frzO (G : Good K ca ex g I H s σ) {i : Nat} {x : Sl} {p : Addr} {o : HO} {d : PV} (ho : x.isO = true) (fo : Fzo o) (nr : ∀ q ∈ g.rs, q.1 ≠ p) (e : s[i]? = some x) (hv : σ[i]? = some (some (.ref p))) (h1 : I p = none) (h2 : g.H0 p = none) (h3 : g.h ≠ some p)
    (h4 : H p = some o) (h5 : Dv K ca (upd I p o) (.ref p) d) : Good K ca ex g (upd I p o) H (s.set i (.fz d)) σ := by
  refine ⟨G.s0, G.im.trans (same_updN h1), G.lf.freeze G.s0 h2 h4, G.hd.freeze h1 h3 h4, by rw [List.length_set]; exact G.len, fun j x' w e1 e2 => ?_, fun a b y z q e1 e2 o1 o2 e3 e4 => ?_, fun q hq => ?_⟩
  · rcases get_set e1 with ⟨rfl, rfl⟩ | ⟨n1, e1⟩
    · rw [hv] at e2
      cases e2
      exact ⟨_, rfl, .inr h5⟩
    · exact (G.at' j x' w e1 e2).frz h1 (fun q r o1 h => n1 (G.sep j i x' x p e1 e o1 ho (by rw [e2, r, h]) hv)) fun q C dx fs e3 => fo.ne h4 e3
  · rcases get_set e1 with ⟨_, z⟩ | ⟨n1, e1⟩
    · rw [z] at o1; cases o1
    · rcases get_set e2 with ⟨_, z⟩ | ⟨n2, e2⟩
      · rw [z] at o2; cases o2
      · exact G.sep a b y z q e1 e2 o1 o2 e3 e4
  · obtain ⟨g1, g2, g3, g4, g5⟩ := G.res q hq
    refine ⟨by rw [upd_ne (nr q hq)]; exact g1, g2, g3, g4, fun j y e1 o1 e2 => ?_⟩
    rcases get_set e1 with ⟨_, z⟩ | ⟨_, e1⟩
    · rw [z] at o1; cases o1
    · exact g5 j y e1 o1 e2
theorem Good.nr (G : Good K ca ex g I H s σ) {i : Nat} {x : Sl} {p : Addr} (ho : x.isO = true) (e : s[i]? = some x) (hv : σ[i]? = some (some (.ref p))) : ∀ q ∈ g.rs, q.1 ≠ p := fun q hq z => by
  obtain ⟨g1, g2, g3, g4, g5⟩ := G.res q hq
  exact g5 i x e ho (by rw [hv, z])
theorem Good.frzSlot (G : Good K ca ex g I H s σ) {i : Nat} {xs : List PV} {p : Addr} {vs : List V} (e : s[i]? = some (.ow xs)) (hv : σ[i]? = some (some (.ref p))) (h1 : I p = none) (h2 : g.H0 p = none) (h3 : g.h ≠ some p)
    (h4 : H p = some (.lst vs)) (h5 : DvA K ca I vs xs) : Good K ca ex g (upd I p (.lst vs)) H (s.set i (.fz (.lst xs))) σ :=
  G.frzO rfl fzoL (G.nr rfl e hv) e hv h1 h2 h3 h4 (.lst upd_same (h5.up (same_updN h1)))
theorem Good.frzDic (G : Good K ca ex g I H s σ) {i : Nat} {d : PV} {p : Addr} {o : HO} (e : s[i]? = some (.od d)) (hv : σ[i]? = some (some (.ref p))) (h1 : I p = none) (h2 : g.H0 p = none) (h3 : g.h ≠ some p)
    (h4 : H p = some o) (h5 : DicO K ca I o d) : Good K ca ex g (upd I p o) H (s.set i (.fz d)) σ :=
  G.frzO rfl h5.fzo (G.nr rfl e hv) e hv h1 h2 h3 h4 ((h5.up (same_updN h1)).dv upd_same)
/-- the own object of the name i is written -/
theorem Good.writeO (G : Good K ca ex g I H s σ) {i : Nat} {x y : Sl} {p : Addr} {o o' : HO} (ho : x.isO = true) (ho' : y.isO = true) (fo : Fzo o) (e : s[i]? = some x) (hv : σ[i]? = some (some (.ref p))) (h1 : I p = none) (h2 : g.H0 p = none) (h3 : g.h ≠ some p)
    (h4 : H p = some o) (h5 : SlOk K ca ex g I (upd H p o') y (some (.ref p))) : Good K ca ex g I (upd H p o') (s.set i y) σ := by
  refine ⟨G.s0, G.im, G.lf.set h2 h4 h1, ?_, by rw [List.length_set]; exact G.len, fun j x' w e1 e2 => ?_, fun a b x1 x2 q e1 e2 o1 o2 e3 e4 => ?_, fun q hq => ?_⟩
  · have hd := G.hd
    have h3' := h3
    revert hd h3'
    cases g.h with
    | none => exact fun hd _ => Same.updI hd h1
    | some a => exact fun hd ne => Hand.upd hd h1 fun z => ne (by rw [z])
  · rcases get_set e1 with ⟨rfl, rfl⟩ | ⟨n1, e1⟩
    · rw [hv] at e2
      cases e2
      exact h5
    · exact (G.at' j x' w e1 e2).wr (fun q r o1 h => n1 (G.sep j i x' x p e1 e o1 ho (by rw [e2, r, h]) hv)) fun q C dx fs e3 => fo.ne h4 e3
  · have key : ∀ {j : Nat} {z : Sl}, (s.set i y)[j]? = some z → z.isO = true → ∃ z', s[j]? = some z' ∧ z'.isO = true := fun {j z} h oz => by
      rcases get_set h with ⟨rfl, _⟩ | ⟨_, h⟩
      · exact ⟨_, e, ho⟩
      · exact ⟨_, h, oz⟩
    obtain ⟨y1, k1, p1⟩ := key e1 o1
    obtain ⟨y2, k2, p2⟩ := key e2 o2
    exact G.sep a b y1 y2 q k1 k2 p1 p2 e3 e4
  · obtain ⟨g1, g2, g3, g4, g5⟩ := G.res q hq
    have nq : q.1 ≠ p := G.nr ho e hv q hq
    refine ⟨g1, g2, g3, by rw [upd_ne nq]; exact g4, fun j z e1 oz e2 => ?_⟩
    rcases get_set e1 with ⟨rfl, _⟩ | ⟨_, e1⟩
    · exact g5 _ _ e ho e2
    · exact g5 j z e1 oz e2
theorem Good.write (G : Good K ca ex g I H s σ) {i : Nat} {xs ys : List PV} {p : Addr} {vs ws : List V} (e : s[i]? = some (.ow xs)) (hv : σ[i]? = some (some (.ref p))) (h1 : I p = none) (h2 : g.H0 p = none) (h3 : g.h ≠ some p)
    (h4 : H p = some (.lst vs)) (h5 : DvA K ca I ws ys) : Good K ca ex g I (upd H p (.lst ws)) (s.set i (.ow ys)) σ :=
  G.writeO (x := .ow xs) (y := .ow ys) rfl rfl fzoL e hv h1 h2 h3 h4 ⟨p, ws, rfl, h1, h2, h3, upd_same, h5⟩
theorem Good.writeD (G : Good K ca ex g I H s σ) {i : Nat} {d d' : PV} {p : Addr} {o o' : HO} (e : s[i]? = some (.od d)) (hv : σ[i]? = some (some (.ref p))) (h1 : I p = none) (h2 : g.H0 p = none) (h3 : g.h ≠ some p)
    (h4 : H p = some o) (h : DicO K ca I o d) (h5 : DicO K ca I o' d') : Good K ca ex g I (upd H p o') (s.set i (.od d')) σ :=
  G.writeO (x := .od d) (y := .od d') rfl rfl h.fzo e hv h1 h2 h3 h4 ⟨p, o', rfl, h1, h2, h3, upd_same, h5⟩
/-- an object that is being made is written -/
theorem Good.making {o : HO} (G : Good K ca ex g I H s σ) (n : I p = none) (h0 : g.H0 p = none) (ne : g.h ≠ some p) {u : List V} (e : H p = some (.lst u)) (off : ∀ (i : Nat) (x : Sl), s[i]? = some x → x.isO = true → σ[i]? ≠ some (some (.ref p))) (offr : ∀ q ∈ g.rs, q.1 ≠ p) :
    Good K ca ex g I (upd H p o) s σ := by
  refine ⟨G.s0, G.im, G.lf.set h0 e n, ?_, G.len, fun j x w e1 e2 => ?_, G.sep, fun q hq => ?_⟩
  · have hd := G.hd
    have ne' := ne
    revert hd ne'
    cases g.h with
    | none => exact fun hd _ => Same.updI hd n
    | some a => exact fun hd ne => Hand.upd hd n fun z => ne (by rw [z])
  · exact (G.at' j x w e1 e2).wr (fun q r o1 h => off j x e1 o1 (by rw [e2, r, h])) fun q C dx fs e3 => fzoL.ne e e3
  · obtain ⟨g1, g2, g3, g4, g5⟩ := G.res q hq
    exact ⟨g1, g2, g3, by rw [upd_ne (offr q hq)]; exact g4, g5⟩
end
end L4
/-! The pure layer, part 2: a reading is met by a pure computation (Rt, Rb, Ra, Rs, ..). -/
namespace L4
open PySem PySem.Spec PyProof.Rows L2 L3

/-! ### values in flight -/
section
variable (K : PySem.W.Frag) (ca : Nat → Addr)
/-- settled: data that stay, or the value of the name i -/
def Vs (g : Gh) (I : Hp) (σ : L2.St) (v : V) : Fv → Prop
  | .fz d => Dh K ca g.h I v d
  | .bw i => σ[i]? = some (some v)
  | .ow _ => False
  | .nd _ => False
def Vo (g : Gh) (I H : Hp) (s : S4) (σ : L2.St) (v : V) : Fv → Prop
  | .fz d => Dh K ca g.h I v d
  | .bw i => σ[i]? = some (some v)
  | .ow xs => ∃ p vs, v = .ref p ∧ I p = none ∧ g.H0 p = none ∧ g.h ≠ some p ∧ H p = some (.lst vs) ∧ DvA K ca I vs xs ∧ (∀ (i : Nat) (y : Sl), s[i]? = some y → y.isO = true → σ[i]? ≠ some (some (.ref p))) ∧ ∀ q ∈ g.rs, q.1 ≠ p
  | .nd d => ∃ p o, v = .ref p ∧ I p = none ∧ g.H0 p = none ∧ g.h ≠ some p ∧ H p = some o ∧ DicO K ca I o d ∧ (∀ (i : Nat) (y : Sl), s[i]? = some y → y.isO = true → σ[i]? ≠ some (some (.ref p))) ∧ ∀ q ∈ g.rs, q.1 ≠ p
inductive VsA (g : Gh) (I : Hp) (σ : L2.St) : List V → List Fv → Prop
  | nil : VsA g I σ [] []
  | cons {v : V} {vs : List V} {x : Fv} {xs : List Fv} : Vs K ca g I σ v x → VsA g I σ vs xs → VsA g I σ (v :: vs) (x :: xs)
/-- data as they are now: they stay, or the list (the dict) is one's own (its items stay) -/
inductive Vw (I H : Hp) : V → PV → Prop
  | s {v : V} {d : PV} : Dv K ca I v d → Vw I H v d
  | l {p : Addr} {vs : List V} {xs : List PV} : I p = none → H p = some (.lst vs) → DvA K ca I vs xs → Vw I H (.ref p) (.lst xs)
  | d {p : Addr} {o : HO} {d : PV} : I p = none → H p = some o → DicO K ca I o d → Vw I H (.ref p) d
variable (W : WX) (ex : Ex)
def kE (g : Gh) (I : Hp) (σ : L2.St) (Q : VK) (x : Fv) (s' : S4) : Prop := ∀ I' H' v, Same I I' → Good K ca ex g I' H' s' σ → Vo K ca g I' H' s' σ v x → Q v H'
def kX (g : Gh) (σ : L2.St) (x : Xc) (s' : S4) : Prop := ∀ I' H' cls dd, Good K ca ex g I' H' s' σ → XcOk K ca I' cls dd x → W cls dd σ H'
def kB (g : Gh) (I : Hp) (σ : L2.St) (Q : Bool → Hp → Prop) (b : Bool) (s' : S4) : Prop := ∀ I' H', Same I I' → Good K ca ex g I' H' s' σ → Q b H'
def kA (g : Gh) (I : Hp) (σ : L2.St) (Q : List V → Hp → Prop) (xs : List Fv) (s' : S4) : Prop := ∀ I' H' vs, Same I I' → Good K ca ex g I' H' s' σ → VsA K ca g I' σ vs xs → Q vs H'
/-- an expression's reading is met -/
def Rt (t : TE) (f : M Fv) : Prop := ∀ (σ : L2.St) (H : Hp) (Q : VK) (g : Gh) (I : Hp) (s : S4), Good K ca ex g I H s σ → wpM f s (kE K ca ex g I σ Q) (kX K ca W ex g σ) → t σ H Q
def Rb (t : TT) (f : M Bool) : Prop := ∀ (σ : L2.St) (H : Hp) (Q : Bool → Hp → Prop) (g : Gh) (I : Hp) (s : S4), Good K ca ex g I H s σ → wpM f s (kB K ca ex g I σ Q) (kX K ca W ex g σ) → t σ H Q
def Ra (t : TA) (f : M (List Fv)) : Prop := ∀ (σ : L2.St) (H : Hp) (Q : List V → Hp → Prop) (g : Gh) (I : Hp) (s : S4), Good K ca ex g I H s σ → wpM f s (kA K ca ex g I σ Q) (kX K ca W ex g σ) → t σ H Q
end
def setl (f : M Fv) : M Fv := f.bind fun x => match x with
  | .ow xs => M.ret (.fz (.lst xs))
  | .fz d => M.ret (.fz d)
  | .bw i => M.ret (.bw i)
  | .nd d => M.ret (.fz d)
/-- the data that an own object (or one frozen since) holds -/
def lstOf : Option Sl → Option PV
  | some (.ow xs) => some (.lst xs)
  | some (.od d) => some d
  | some (.fz (.lst xs)) => some (.lst xs)
  | some (.fz (.dK ks ds)) => some (.dK ks ds)
  | some (.fz (.dT ks ds)) => some (.dT ks ds)
  | _ => none
def bwV (k : PV → T (Out PV)) : Option PV → T (Out PV)
  | some d => k d
  | none => .stuck
/-- the data as they are now -/
def vw : Fv → M PV
  | .fz d => fun s => if d.nh then .ret (.val d s) else .stuck
  | .bw i => fun s => bwV (fun d => .ret (.val d s)) (lstOf s[i]?)
  | .ow _ => M.stuck
  | .nd _ => M.stuck
/-- the data, from now on they stay -/
def frz : Fv → M PV
  | .fz d => M.ret d
  | .bw i => fun s => bwV (fun d => .ret (.val d (s.set i (.fz d)))) (lstOf s[i]?)
  | .ow xs => M.ret (.lst xs)
  | .nd d => M.ret d
def frzD (x : Fv) : M PV := (frz x).bind fun d s => if d.nh then .ret (.val d s) else .stuck
section
variable {K : PySem.W.Frag} {ca : Nat → Addr} {W : WX} {ex : Ex} {g : Gh} {I H I' H' : Hp} {s : S4} {σ : L2.St} {v : V} {x : Fv}
theorem Dv.nh {d : PV} (h : Dv K ca I v d) : d.nh = true := by cases h <;> rfl
theorem Vs.up (h : Vs K ca g I σ v x) (S : Same I I') : Vs K ca g I' σ v x := by
  cases x with
  | fz d => exact Dh.up h S
  | bw i => exact h
  | ow xs => exact h
  | nd d => exact h
theorem VsA.up : ∀ {vs : List V} {xs : List Fv}, VsA K ca g I σ vs xs → Same I I' → VsA K ca g I' σ vs xs
  | _, _, .nil, _ => .nil
  | _, _, .cons h t, S => .cons (h.up S) (VsA.up t S)
theorem Vw.dv {d : PV} (h : Vw K ca I H v d) (S : Same I H) : Dv K ca H v d := by
  cases h with
  | s h => exact h.up S
  | l _ h1 h2 => exact .lst h1 (h2.up S)
  | d _ h1 h2 => exact (h2.up S).dv h1
theorem Good.slot (G : Good K ca ex g I H s σ) {i : Nat} {x : Sl} (e : s[i]? = some x) : ∃ v, σ[i]? = some v ∧ SlOk K ca ex g I H x v := by
  have hi : i < σ.length := by rw [← G.len]; exact (List.getElem?_eq_some_iff.mp e).1
  exact ⟨σ[i], List.getElem?_eq_getElem hi, G.at' i x _ e (List.getElem?_eq_getElem hi)⟩
theorem lstOf_some {o : Option Sl} {d : PV} (h : lstOf o = some d) : (∃ xs, d = .lst xs ∧ o = some (.ow xs)) ∨ o = some (.od d) ∨ (o = some (.fz d) ∧ d ≠ .hand) := by
  cases o with
  | none => cases h
  | some x =>
    cases x with
    | ow ys => cases h; exact .inl ⟨_, rfl, rfl⟩
    | od d => cases h; exact .inr (.inl rfl)
    | fz d =>
      cases d with
      | lst ys => cases h; exact .inr (.inr ⟨rfl, fun z => by cases z⟩)
      | dK ks ys => cases h; exact .inr (.inr ⟨rfl, fun z => by cases z⟩)
      | dT ks ys => cases h; exact .inr (.inr ⟨rfl, fun z => by cases z⟩)
      | _ => cases h
    | _ => cases h
theorem vw_ok {d : PV} {Q : PV → S4 → Prop} {X : Xc → S4 → Prop} (G : Good K ca ex g I H s σ) (h : Vs K ca g I σ v x) (w : wpM (vw x) s Q X) : ∃ d, Vw K ca I H v d ∧ Q d s := by
  cases x with
  | fz d =>
    have w : wp (if d.nh = true then .ret (.val d s) else .stuck) (oK Q X) := w
    rcases h with ⟨rfl, _⟩ | h
    · exact w.elim
    · rw [if_pos h.nh] at w
      exact ⟨d, .s h, w⟩
  | bw i =>
    have h : σ[i]? = some (some v) := h
    have w : wp (bwV (fun d => .ret (.val d s)) (lstOf s[i]?)) _ := w
    cases e : lstOf s[i]? with
    | none => rw [e] at w; exact w.elim
    | some xs =>
      rw [e] at w
      rcases lstOf_some e with ⟨ys, rfl, e9⟩ | e9 | ⟨e9, nh⟩
      · obtain ⟨p, vs, rfl, h1, h2, h3, h4, h5⟩ := G.own e9 h
        exact ⟨_, .l h1 h4 h5, w⟩
      · obtain ⟨p, o, rfl, h1, h2, h3, h4, h5⟩ := G.ownD e9 h
        exact ⟨_, .d h1 h4 h5, w⟩
      · obtain ⟨u, e1, e2⟩ := G.at' i _ _ e9 h
        cases e1
        rcases e2 with ⟨z, _⟩ | e2
        · exact absurd z nh
        · exact ⟨_, .s e2, w⟩
  | ow xs => exact h.elim
  | nd d => exact h.elim
theorem frz_ok {Q : PV → S4 → Prop} {X : Xc → S4 → Prop} (G : Good K ca ex g I H s σ) (h : Vo K ca g I H s σ v x) (w : wpM (frz x) s Q X) : ∃ d I' s', Same I I' ∧ Good K ca ex g I' H s' σ ∧ Dh K ca g.h I' v d ∧ Q d s' := by
  cases x with
  | fz d => exact ⟨d, I, s, Same.refl I, G, h, w⟩
  | bw i =>
    have h : σ[i]? = some (some v) := h
    have w : wp (bwV (fun d => .ret (.val d (s.set i (.fz d)))) (lstOf s[i]?)) _ := w
    cases e : lstOf s[i]? with
    | none => rw [e] at w; exact w.elim
    | some xs =>
      rw [e] at w
      rcases lstOf_some e with ⟨ys, rfl, e9⟩ | e9 | ⟨e9, nh⟩
      · obtain ⟨p, vs, rfl, h1, h2, h3, h4, h5⟩ := G.own e9 h
        exact ⟨_, _, _, same_updN h1, G.frzSlot e9 h h1 h2 h3 h4 h5, .inr (.lst upd_same (h5.up (same_updN h1))), w⟩
      · obtain ⟨p, o, rfl, h1, h2, h3, h4, h5⟩ := G.ownD e9 h
        exact ⟨_, _, _, same_updN h1, G.frzDic e9 h h1 h2 h3 h4 h5, .inr ((h5.up (same_updN h1)).dv upd_same), w⟩
      · obtain ⟨u, e1, e2⟩ := G.at' i _ _ e9 h
        cases e1
        have es : s.set i (.fz xs) = s := by
          obtain ⟨hi, e3⟩ := List.getElem?_eq_some_iff.mp e9
          rw [← e3]
          exact List.set_getElem_self hi
        exact ⟨_, I, _, Same.refl I, by rw [es]; exact G, e2, w⟩
  | ow xs =>
    obtain ⟨p, vs, rfl, h1, h2, h3, h4, h5, h6, h7⟩ := h
    exact ⟨_, _, s, same_updN h1, G.freeze h1 h2 h3 h4 h6 h7, .inr (.lst upd_same (h5.up (same_updN h1))), w⟩
  | nd d =>
    obtain ⟨p, o, rfl, h1, h2, h3, h4, h5, h6, h7⟩ := h
    exact ⟨_, _, s, same_updN h1, G.freezeO h5.fzo h1 h2 h3 h4 h6 h7, .inr ((h5.up (same_updN h1)).dv upd_same), w⟩
theorem Vs.vo (h : Vs K ca g I σ v x) : Vo K ca g I H s σ v x := by
  cases x with
  | fz d => exact h
  | bw i => exact h
  | ow xs => exact h.elim
  | nd d => exact h.elim
theorem frzD_ok {Q : PV → S4 → Prop} {X : Xc → S4 → Prop} (G : Good K ca ex g I H s σ) (h : Vo K ca g I H s σ v x) (w : wpM (frzD x) s Q X) : ∃ d I' s', Same I I' ∧ Good K ca ex g I' H s' σ ∧ Dv K ca I' v d ∧ Q d s' := by
  obtain ⟨d, I', s', S, G', hd, q⟩ := frz_ok G h (wpM_bind.mp w)
  have q : wp (if d.nh = true then .ret (.val d s') else .stuck) (oK Q X) := q
  rcases hd with ⟨rfl, _⟩ | hd
  · exact q.elim
  · rw [if_pos hd.nh] at q
    exact ⟨d, I', s', S, G', hd, q⟩
theorem kX_up {x : Xc} {s' : S4} (h : kX K ca W ex g σ x s') : kX K ca W ex g σ x s' := h
/-- settled at once -/
theorem r_setl {t : TE} {f : M Fv} (h : Rt K ca W ex t f) : Rt K ca W ex t (setl f) := by
  intro σ H Q g I s G w
  refine h σ H Q g I s G (wpM_mono (wpM_bind.mp w) (fun x s' z => ?_) fun _ _ z => z)
  intro I' H' v S G' V
  cases x with
  | fz d => exact z I' H' v S G' V
  | bw i => exact z I' H' v S G' V
  | ow xs =>
    obtain ⟨p, vs, rfl, h1, h2, h3, h4, h5, h6, h7⟩ := V
    exact z _ H' _ (S.trans (same_updN h1)) (G'.freeze h1 h2 h3 h4 h6 h7) (.inr (.lst upd_same (h5.up (same_updN h1))))
  | nd d =>
    obtain ⟨p, o, rfl, h1, h2, h3, h4, h5, h6, h7⟩ := V
    exact z _ H' _ (S.trans (same_updN h1)) (G'.freezeO h5.fzo h1 h2 h3 h4 h6 h7) (.inr ((h5.up (same_updN h1)).dv upd_same))
/-- an expression's settled value, then the rest -/
theorem run_setlX {t : TE} {f : M Fv} {α : Type} {k : Fv → M α} {Q : α → S4 → Prop} {X : Xc → S4 → Prop} {R : VK} (h : Rt K ca W ex t f) (G : Good K ca ex g I H s σ) (hX : ∀ x s', X x s' → kX K ca W ex g σ x s') (w : wpM ((setl f).bind k) s Q X)
    (q : ∀ x s' I' H' v, Same I I' → Good K ca ex g I' H' s' σ → Vs K ca g I' σ v x → wpM (k x) s' Q X → R v H') : t σ H R := by
  refine r_setl h σ H R g I s G ?_
  have w2 := wpM_bind.mp w
  unfold setl at w2 ⊢
  refine wpM_bind.mpr (wpM_mono (wpM_bind.mp w2) (fun x s' z => ?_) hX)
  cases x with
  | fz d => exact fun I' H' v S G' V => q (.fz d) s' I' H' v S G' V z
  | bw i => exact fun I' H' v S G' V => q (.bw i) s' I' H' v S G' V z
  | ow xs => exact fun I' H' v S G' V => q (.fz (.lst xs)) s' I' H' v S G' V z
  | nd d => exact fun I' H' v S G' V => q (.fz d) s' I' H' v S G' V z
theorem run_setl {t : TE} {f : M Fv} {α : Type} {k : Fv → M α} {Q : α → S4 → Prop} {R : VK} (h : Rt K ca W ex t f) (G : Good K ca ex g I H s σ) (w : wpM ((setl f).bind k) s Q (kX K ca W ex g σ))
    (q : ∀ x s' I' H' v, Same I I' → Good K ca ex g I' H' s' σ → Vs K ca g I' σ v x → wpM (k x) s' Q (kX K ca W ex g σ) → R v H') : t σ H R := run_setlX h G (fun _ _ z => z) w q
/-! ### constants and names -/
theorem r_cD {u : V} {d : PV} (h : ∀ I, Dv K ca I u d) : Rt K ca W ex (tC u) (M.ret (.fz d)) := fun σ H Q g I s G w => w I H u (Same.refl I) G (.inr (h I))
theorem r_int {n : Int} : Rt K ca W ex (tC (.int n)) (M.ret (.fz (.int n))) := r_cD fun _ => .int n
theorem r_bl {b : Bool} : Rt K ca W ex (tC (.bl b)) (M.ret (.fz (.bl b))) := r_cD fun _ => .bl b
theorem r_non : Rt K ca W ex (tC .non) (M.ret (.fz .non)) := r_cD fun _ => .non
theorem r_str {z : Str} : Rt K ca W ex (tC (.str z)) (M.ret (.fz (.str z))) := r_cD fun _ => .str z
end
def varM (i : Nat) : M Fv := fun s => match s[i]? with
  | some (.fz d) => .ret (.val (.fz d) s)
  | some (.ow _) => .ret (.val (.bw i) s)
  | some (.oi _ _) => .ret (.val (.bw i) s)
  | some (.od _) => .ret (.val (.bw i) s)
  | _ => .stuck
section
variable {K : PySem.W.Frag} {ca : Nat → Addr} {W : WX} {ex : Ex} {g : Gh} {I H I' H' : Hp} {s : S4} {σ : L2.St} {v : V} {x : Fv}
theorem r_var {i : Nat} : Rt K ca W ex (tVar i) (varM i) := by
  intro σ H Q g I s G w
  unfold wpM varM at w
  split at w
  · rename_i d e
    obtain ⟨w', e1, u, rfl, h⟩ := G.slot e
    exact ⟨u, e1, w I H u (Same.refl I) G h⟩
  · rename_i xs e
    obtain ⟨w', e1, p, vs, rfl, h⟩ := G.slot e
    exact ⟨_, e1, w I H _ (Same.refl I) G e1⟩
  · rename_i C fs e
    obtain ⟨w', e1, p, dx, vs, rfl, h⟩ := G.slot e
    exact ⟨_, e1, w I H _ (Same.refl I) G e1⟩
  · rename_i d e
    obtain ⟨w', e1, p, o, rfl, h⟩ := G.slot e
    exact ⟨_, e1, w I H _ (Same.refl I) G e1⟩
  · exact w.elim
end
/-! ### operators -/
section
variable (K : PySem.W.Frag) (ca : Nat → Addr)
def kO (I H : Hp) (Q : VK) : Rv → Prop
  | .fz c => ∀ I' H' v, Lf No I H I' H' → Dv K ca I' v c → Q v H'
  | .ow xs => ∀ I' H' p vs, Lf No I H I' H' → H p = none → I' p = none → H' p = some (.lst vs) → DvA K ca I' vs xs → Q (.ref p) H'
def OpOk (r : R2) (f : PV → PV → T Rv) : Prop := ∀ (I H : Hp) (x y : V) (d e : PV) (Q : VK), Same I H → Vw K ca I H x d → Vw K ca I H y e → wp (f d e) (kO K ca I H Q) → r x y H Q
def UnOk (r : V → Hp → VK → Prop) (f : PV → T Rv) : Prop := ∀ (I H : Hp) (x : V) (d : PV) (Q : VK), Same I H → Vw K ca I H x d → wp (f d) (kO K ca I H Q) → r x H Q
inductive VwA (I H : Hp) : List V → List PV → Prop
  | nil : VwA I H [] []
  | cons {v : V} {vs : List V} {d : PV} {ds : List PV} : Vw K ca I H v d → VwA I H vs ds → VwA I H (v :: vs) (d :: ds)
def CbOk (r : List V → Hp → VK → Prop) (f : List PV → T Rv) : Prop := ∀ (I H : Hp) (xs : List V) (ds : List PV) (Q : VK), Same I H → VwA K ca I H xs ds → wp (f ds) (kO K ca I H Q) → r xs H Q
end
def Rv.fv : Rv → Fv
  | .fz d => .fz d
  | .ow xs => .ow xs
def liftR (t : T Rv) : M Fv := fun s => t.bind fun a => .ret (.val a.fv s)
def opM (f : PV → PV → T Rv) (fa fb : M Fv) : M Fv := (setl fa).bind fun x => (setl fb).bind fun y => (vw x).bind fun d => (vw y).bind fun e => liftR (f d e)
def unM (f : PV → T Rv) (fa : M Fv) : M Fv := (setl fa).bind fun x => (vw x).bind fun d => liftR (f d)
def vwA : List Fv → M (List PV)
  | [] => M.ret []
  | x :: xs => (vw x).bind fun d => (vwA xs).bind fun ds => M.ret (d :: ds)
def cbM (f : List PV → T Rv) (fa : M (List Fv)) : M Fv := fa.bind fun xs => (vwA xs).bind fun ds => liftR (f ds)
section
variable {K : PySem.W.Frag} {ca : Nat → Addr} {W : WX} {ex : Ex} {g : Gh} {I H I' H' : Hp} {s : S4} {σ : L2.St} {v : V} {x : Fv}
theorem wpM_liftR {t : T Rv} {Q : Fv → S4 → Prop} {X : Xc → S4 → Prop} : wpM (liftR t) s Q X ↔ wp t fun a => Q a.fv s := by
  unfold wpM liftR
  rw [wp_bind]
  rfl
theorem Good.new (G : Good K ca ex g I H s σ) {p : Addr} (hp : H p = none) : g.H0 p = none ∧ g.h ≠ some p ∧ (∀ (i : Nat) (y : Sl), s[i]? = some y → y.isO = true → σ[i]? ≠ some (some (.ref p))) ∧ ∀ q ∈ g.rs, q.1 ≠ p := by
  refine ⟨G.lf.free hp, fun z => ?_, fun i y e1 oy e2 => ?_, fun q hq z => by have h := (G.res q hq).2.2.2.1; rw [z, hp] at h; cases h⟩
  · have hd := G.hd
    rw [z] at hd
    exact Hand.ne hd hp
  · cases y with
    | ow ys =>
      obtain ⟨q, ws, r, _, _, _, h4, _⟩ := G.own e1 e2
      cases r
      rw [hp] at h4
      cases h4
    | od d =>
      obtain ⟨q, o, r, _, _, _, h4, _⟩ := G.ownD e1 e2
      cases r
      rw [hp] at h4
      cases h4
    | _ => cases oy
theorem kE_of {Q : VK} (G : Good K ca ex g I H s σ) {y : Rv} (w : kE K ca ex g I σ Q y.fv s) : kO K ca I H Q y := by
  cases y with
  | fz c => exact fun I' H' v f d => w I' H' v f.ext (G.stepNo f) (.inr d)
  | ow xs =>
    intro I' H' p vs f hp ip hv d
    obtain ⟨h0, ne, off⟩ := G.new hp
    exact w I' H' _ f.ext (G.stepNo f) ⟨p, vs, rfl, ip, h0, ne, hv, d, off⟩
theorem kE_up {Q : VK} {y : Fv} {s' : S4} (S : Same I I') (w : kE K ca ex g I σ Q y s') : kE K ca ex g I' σ Q y s' := fun J H v S' G V => w J H v (S.trans S') G V
theorem r_op {r : R2} {f : PV → PV → T Rv} {ta tb : TE} {fa fb : M Fv} (o : OpOk K ca r f) (ha : Rt K ca W ex ta fa) (hb : Rt K ca W ex tb fb) : Rt K ca W ex (tOp r ta tb) (opM f fa fb) := by
  intro σ H Q g I s G w
  show ta σ H fun x H1 => tb σ H1 fun y H2 => r x y H2 Q
  refine run_setl ha G w fun x s1 I1 H1 v S1 G1 V1 w1 => ?_
  refine run_setl hb G1 w1 fun y s2 I2 H2 u S2 G2 V2 w2 => ?_
  obtain ⟨d, vd, w3⟩ := vw_ok (d := .non) G2 (V1.up S2) (wpM_bind.mp w2)
  obtain ⟨e, ve, w4⟩ := vw_ok (d := .non) G2 V2 (wpM_bind.mp w3)
  exact o I2 H2 v u d e Q G2.sub vd ve (wp_mono (wpM_liftR.mp w4) fun a z => kE_of G2 (kE_up (S1.trans S2) z))
theorem r_un {r : V → Hp → VK → Prop} {f : PV → T Rv} {ta : TE} {fa : M Fv} (o : UnOk K ca r f) (ha : Rt K ca W ex ta fa) : Rt K ca W ex (tUn r ta) (unM f fa) := by
  intro σ H Q g I s G w
  show ta σ H fun x H1 => r x H1 Q
  refine run_setl ha G w fun x s1 I1 H1 v S1 G1 V1 w1 => ?_
  obtain ⟨d, vd, w3⟩ := vw_ok (d := .non) G1 V1 (wpM_bind.mp w1)
  exact o I1 H1 v d Q G1.sub vd (wp_mono (wpM_liftR.mp w3) fun a z => kE_of G1 (kE_up S1 z))
theorem r_thn {r : V → Hp → VK → Prop} {f : PV → T Rv} {ta : TE} {fa : M Fv} (o : UnOk K ca r f) (ha : Rt K ca W ex ta fa) : Rt K ca W ex (tThen ta r) (unM f fa) := r_un o ha
/-! ### arguments -/
theorem ra_nil : Ra K ca W ex tNil (M.ret []) := fun σ H Q g I s G w => w I H [] (Same.refl I) G .nil
theorem ra_cons {ta : TE} {tr : TA} {fa : M Fv} {fr : M (List Fv)} (ha : Rt K ca W ex ta fa) (hr : Ra K ca W ex tr fr) : Ra K ca W ex (tCons ta tr) ((setl fa).bind fun x => fr.bind fun xs => M.ret (x :: xs)) := by
  intro σ H Q g I s G w
  refine run_setl ha G w fun x s1 I1 H1 v S1 G1 V1 w1 => ?_
  refine hr σ H1 _ g I1 s1 G1 (wpM_mono (wpM_bind.mp w1) (fun xs s2 z => ?_) fun _ _ z => z)
  exact fun I2 H2 vs S2 G2 V2 => z I2 H2 _ (S1.trans S2) G2 (.cons (V1.up S2) V2)
theorem vwA_ok : ∀ {xs : List Fv} {vs : List V} {Q : List PV → S4 → Prop} {X : Xc → S4 → Prop}, Good K ca ex g I H s σ → VsA K ca g I σ vs xs → wpM (vwA xs) s Q X → ∃ ds, VwA K ca I H vs ds ∧ Q ds s
  | _, _, _, _, G, .nil, w => ⟨[], .nil, w⟩
  | _, _, _, _, G, .cons h t, w => by
    obtain ⟨d, vd, w1⟩ := vw_ok (d := .non) G h (wpM_bind.mp w)
    obtain ⟨ds, vds, w2⟩ := vwA_ok G t (wpM_bind.mp w1)
    exact ⟨d :: ds, .cons vd vds, w2⟩
theorem r_cb {r : List V → Hp → VK → Prop} {f : List PV → T Rv} {t : TA} {fa : M (List Fv)} (o : CbOk K ca r f) (ha : Ra K ca W ex t fa) : Rt K ca W ex (tCB r t) (cbM f fa) := by
  intro σ H Q g I s G w
  refine ha σ H _ g I s G (wpM_mono (wpM_bind.mp w) (fun xs s1 z => ?_) fun _ _ z => z)
  intro I1 H1 vs S1 G1 V1
  obtain ⟨ds, vds, w2⟩ := vwA_ok G1 V1 (wpM_bind.mp z)
  exact o I1 H1 vs ds Q G1.sub vds (wp_mono (wpM_liftR.mp w2) fun a z => kE_of G1 (kE_up S1 z))
/-! ### displays -/
end
def frzA : List Fv → M (List PV)
  | [] => M.ret []
  | x :: xs => (frzD x).bind fun d => (frzA xs).bind fun ds => M.ret (d :: ds)
def tupM (fa : M (List Fv)) : M Fv := fa.bind fun xs => (frzA xs).bind fun ds => liftR (.need (ds.length ≤ 16777216) (.ret (.fz (.tup ds))))
def lstM (fa : M (List Fv)) : M Fv := fa.bind fun xs => (frzA xs).bind fun ds => liftR (.need (ds.length ≤ 16777216) (.ret (.ow ds)))
section
variable {K : PySem.W.Frag} {ca : Nat → Addr} {W : WX} {ex : Ex} {g : Gh} {I H I' H' : Hp} {s : S4} {σ : L2.St} {v : V} {x : Fv}
theorem frzA_ok : ∀ {xs : List Fv} {vs : List V} {I : Hp} {s : S4} {Q : List PV → S4 → Prop} {X : Xc → S4 → Prop}, Good K ca ex g I H s σ → VsA K ca g I σ vs xs → wpM (frzA xs) s Q X →
    ∃ ds I' s', Same I I' ∧ Good K ca ex g I' H s' σ ∧ DvA K ca I' vs ds ∧ Q ds s'
  | _, _, I, s, _, _, G, .nil, w => ⟨[], I, s, Same.refl I, G, .nil, w⟩
  | _, _, I, s, _, _, G, .cons h t, w => by
    obtain ⟨d, I1, s1, S1, G1, d1, w1⟩ := frzD_ok G h.vo (wpM_bind.mp w)
    obtain ⟨ds, I2, s2, S2, G2, d2, w2⟩ := frzA_ok G1 (t.up S1) (wpM_bind.mp w1)
    exact ⟨d :: ds, I2, s2, S1.trans S2, G2, .cons (d1.up S2) d2, w2⟩
theorem line_eq : sizeLine = 16777216 := sizeLine_eq
theorem r_tup {t : TA} {fa : M (List Fv)} (ha : Ra K ca W ex t fa) : Rt K ca W ex (tTup t) (tupM fa) := by
  intro σ H Q g I s G w
  refine ha σ H _ g I s G (wpM_mono (wpM_bind.mp w) (fun xs s1 z => ?_) fun _ _ z => z)
  intro I1 H1 vs S1 G1 V1
  obtain ⟨ds, I2, s2, S2, G2, d2, w2⟩ := frzA_ok G1 V1 (wpM_bind.mp z)
  obtain ⟨l, w3⟩ := wpM_liftR.mp w2
  refine ⟨by rw [d2.length, line_eq]; exact l, fun p hp => ?_⟩
  have f : Lf No I2 H1 (upd I2 p (.tup vs)) (upd H1 p (.tup vs)) := Lf.put G2.sub hp
  exact w3 _ _ _ ((S1.trans S2).trans f.ext) (G2.stepNo f) (.inr (.tup upd_same (d2.up f.ext)))
theorem r_lst {t : TA} {fa : M (List Fv)} (ha : Ra K ca W ex t fa) : Rt K ca W ex (tLst t) (lstM fa) := by
  intro σ H Q g I s G w
  refine ha σ H _ g I s G (wpM_mono (wpM_bind.mp w) (fun xs s1 z => ?_) fun _ _ z => z)
  intro I1 H1 vs S1 G1 V1
  obtain ⟨ds, I2, s2, S2, G2, d2, w2⟩ := frzA_ok G1 V1 (wpM_bind.mp z)
  obtain ⟨l, w3⟩ := wpM_liftR.mp w2
  refine ⟨by rw [d2.length, line_eq]; exact l, fun p hp => ?_⟩
  have f : Lf No I2 H1 I2 (upd H1 p (.lst vs)) := Lf.alloc G2.sub hp
  obtain ⟨h0, ne, off⟩ := G2.new hp
  exact w3 _ _ _ (S1.trans S2) (G2.stepNo f) ⟨p, vs, rfl, Same.sub G2.sub hp, h0, ne, upd_same, d2, off⟩
end
/-! ### tests -/
def testM (f : M Fv) : M Bool := (setl f).bind fun x => (vw x).bind fun d => match d with
  | .bl b => M.ret b
  | _ => M.stuck
def andM (f g : M Bool) : M Bool := f.bind fun b => if b then g else M.ret false
def orM (f g : M Bool) : M Bool := f.bind fun b => if b then M.ret true else g
def notM (f : M Bool) : M Bool := f.bind fun b => M.ret (!b)
def truV : PV → T Bool
  | .non => .ret false
  | .bl b => .ret b
  | .int i => .ret (i != 0)
  | .str y => .need (y.length ≤ 16777216) (.ret ((y.length : Int) != 0))
  | .tup xs => .ret (!xs.isEmpty)
  | .lst xs => .ret (!xs.isEmpty)
  | .dK ks _ => .ret (!ks.isEmpty)
  | _ => .stuck
def truM (f : M Fv) : M Bool := (setl f).bind fun x => (vw x).bind fun d => M.lift (truV d)
def iteM {α : Type} (c : M Bool) (f h : M α) : M α := c.bind fun b => if b then f else h
def blM (f : M Bool) : M Fv := f.bind fun b => M.ret (.fz (.bl b))
section
variable {K : PySem.W.Frag} {ca : Nat → Addr} {W : WX} {ex : Ex} {g : Gh} {I H I' H' : Hp} {s : S4} {σ : L2.St} {v : V} {x : Fv}
theorem vw_bl {b : Bool} (h : Vw K ca I H v (.bl b)) : v = .bl b := by
  cases h with
  | s h => cases h; rfl
  | d _ _ h => cases h
theorem kB_up {Q : Bool → Hp → Prop} {b : Bool} {s' : S4} (S : Same I I') (w : kB K ca ex g I σ Q b s') : kB K ca ex g I' σ Q b s' := fun J H S' G => w J H (S.trans S') G
theorem r_test {t : TE} {f : M Fv} (h : Rt K ca W ex t f) : Rb K ca W ex (tTest t) (testM f) := by
  intro σ H Q g I s G w
  refine run_setl h G w fun x s1 I1 H1 v S1 G1 V1 w1 => ?_
  obtain ⟨d, vd, w3⟩ := vw_ok (d := .non) G1 V1 (wpM_bind.mp w1)
  cases d with
  | bl b => exact ⟨b, vw_bl vd, w3 I1 H1 S1 G1⟩
  | _ => exact w3.elim
theorem r_tB {t : TE} {f : M Fv} (h : Rt K ca W ex t f) : Rb K ca W ex (tB t) (testM f) := r_test h
theorem r_and {t u : TT} {f h : M Bool} (ht : Rb K ca W ex t f) (hu : Rb K ca W ex u h) : Rb K ca W ex (tAnd t u) (andM f h) := by
  intro σ H Q g I s G w
  refine ht σ H _ g I s G (wpM_mono (wpM_bind.mp w) (fun b s1 z => ?_) fun _ _ z => z)
  intro I1 H1 S1 G1
  cases b with
  | true =>
    rw [if_pos rfl]
    exact hu σ H1 _ g I1 s1 G1 (wpM_mono z (fun b s2 z => kB_up S1 z) fun _ _ z => z)
  | false => exact z I1 H1 S1 G1
theorem r_or {t u : TT} {f h : M Bool} (ht : Rb K ca W ex t f) (hu : Rb K ca W ex u h) : Rb K ca W ex (tOr t u) (orM f h) := by
  intro σ H Q g I s G w
  refine ht σ H _ g I s G (wpM_mono (wpM_bind.mp w) (fun b s1 z => ?_) fun _ _ z => z)
  intro I1 H1 S1 G1
  cases b with
  | false =>
    rw [if_neg Bool.false_ne_true]
    exact hu σ H1 _ g I1 s1 G1 (wpM_mono z (fun b s2 z => kB_up S1 z) fun _ _ z => z)
  | true => exact z I1 H1 S1 G1
theorem r_not {t : TT} {f : M Bool} (ht : Rb K ca W ex t f) : Rb K ca W ex (tNot t) (notM f) := by
  intro σ H Q g I s G w
  refine ht σ H _ g I s G (wpM_mono (wpM_bind.mp w) (fun b s1 z => ?_) fun _ _ z => z)
  exact fun I1 H1 S1 G1 => z I1 H1 S1 G1
theorem r_yes : Rb K ca W ex tYes (M.ret true) := fun σ H Q g I s G w => w I H (Same.refl I) G
theorem tru_of {d : PV} {R : Bool → Prop} (S : Same I H) (h : Vw K ca I H v d) (w : wp (truV d) R) : ∃ k, TruV K v H k ∧ R k := by
  have ie : ∀ {vs : List V} {ds : List PV}, DvA K ca I vs ds → vs.isEmpty = ds.isEmpty := fun q => by cases q <;> rfl
  have em : ∀ {kvs : List (Key × V)}, (kvs.map (·.1)).isEmpty = kvs.isEmpty := fun {kvs} => by cases kvs <;> rfl
  cases h with
  | s h =>
    cases h with
    | non => exact ⟨_, rfl, w⟩
    | bl b => exact ⟨_, rfl, w⟩
    | int i => exact ⟨_, rfl, w⟩
    | str y => exact ⟨_, ⟨by rw [line_eq]; exact w.1, rfl⟩, w.2⟩
    | lst h q => exact ⟨_, .inl ⟨_, ofL (S _ _ h), by rw [ie q]⟩, w⟩
    | tup h q => exact ⟨_, .inr (.inl ⟨_, ofT (S _ _ h), by rw [ie q]⟩), w⟩
    | dK h q => exact ⟨_, .inr (.inr ⟨_, S _ _ h, by rw [em]⟩), w⟩
    | dT h q => exact w.elim
    | ins _ _ => exact w.elim
    | ty _ => exact w.elim
    | cls _ => exact w.elim
  | l _ h1 h2 => exact ⟨_, .inl ⟨_, ofL h1, by rw [ie h2]⟩, w⟩
  | d _ h1 h2 =>
    cases h2 with
    | k q => exact ⟨_, .inr (.inr ⟨_, h1, by rw [em]⟩), w⟩
    | t q => exact w.elim
theorem r_tru {t : TE} {f : M Fv} (h : Rt K ca W ex t f) : Rb K ca W ex (fun σ H Q => t σ H fun x H' => ∃ k, TruV K x H' k ∧ Q k H') (truM f) := by
  intro σ H Q g I s G w
  refine run_setl h G w fun x s1 I1 H1 v S1 G1 V1 w1 => ?_
  obtain ⟨d, vd, w3⟩ := vw_ok (d := .non) G1 V1 (wpM_bind.mp w1)
  exact tru_of G1.sub vd (wp_mono (wpM_lift.mp w3) fun b z => z I1 H1 S1 G1)
theorem kE_up' {Q : VK} {y : Fv} {s' : S4} (S : Same I I') (w : kE K ca ex g I σ Q y s') : kE K ca ex g I' σ Q y s' := kE_up S w
theorem r_if {c : TT} {ta tb : TE} {fc : M Bool} {fa fb : M Fv} (hc : Rb K ca W ex c fc) (ha : Rt K ca W ex ta fa) (hb : Rt K ca W ex tb fb) : Rt K ca W ex (tIf c ta tb) (iteM fc fa fb) := by
  intro σ H Q g I s G w
  refine hc σ H _ g I s G (wpM_mono (wpM_bind.mp w) (fun b s1 z => ?_) fun _ _ z => z)
  intro I1 H1 S1 G1
  cases b with
  | true =>
    rw [if_pos rfl]
    exact ha σ H1 _ g I1 s1 G1 (wpM_mono z (fun b s2 z => kE_up S1 z) fun _ _ z => z)
  | false =>
    rw [if_neg Bool.false_ne_true]
    exact hb σ H1 _ g I1 s1 G1 (wpM_mono z (fun b s2 z => kE_up S1 z) fun _ _ z => z)
theorem bl_of {t : TE} {f : M Fv} {σ : L2.St} {H : Hp} {g : Gh} {I : Hp} {s : S4} {R : Bool → Hp → Prop} {α : Type} {k : Bool → M α} {Q : α → S4 → Prop} (h : Rt K ca W ex t f) (G : Good K ca ex g I H s σ) (w : wpM ((testM f).bind k) s Q (kX K ca W ex g σ))
    (q : ∀ b s' I' H', Same I I' → Good K ca ex g I' H' s' σ → wpM (k b) s' Q (kX K ca W ex g σ) → R b H') : t σ H fun x H' => ∃ c, x = .bl c ∧ R c H' := by
  have w' := wpM_bind.mp (wpM_bind.mp w)
  refine run_setl (Q := fun b s' => wpM (k b) s' Q (kX K ca W ex g σ)) (k := fun x => (vw x).bind fun d => match d with | .bl b => M.ret b | _ => M.stuck) h G (wpM_bind.mpr w') fun x s1 I1 H1 v S1 G1 V1 w1 => ?_
  obtain ⟨d, vd, w3⟩ := vw_ok (d := .non) G1 V1 (wpM_bind.mp w1)
  cases d with
  | bl b => exact ⟨b, vw_bl vd, q b s1 I1 H1 S1 G1 w3⟩
  | _ => exact w3.elim
theorem r_andV {ta tb : TE} {fa fb : M Fv} (ha : Rt K ca W ex ta fa) (hb : Rt K ca W ex tb fb) : Rt K ca W ex (tAndV ta tb) (iteM (testM fa) fb (M.ret (.fz (.bl false)))) := by
  intro σ H Q g I s G w
  refine bl_of ha G w fun b s1 I1 H1 S1 G1 w1 => ?_
  cases b with
  | true =>
    rw [if_pos rfl]
    exact hb σ H1 _ g I1 s1 G1 (wpM_mono w1 (fun b s2 z => kE_up S1 z) fun _ _ z => z)
  | false => exact w1 I1 H1 _ S1 G1 (.inr (.bl false))
theorem r_orV {ta tb : TE} {fa fb : M Fv} (ha : Rt K ca W ex ta fa) (hb : Rt K ca W ex tb fb) : Rt K ca W ex (tOrV ta tb) (iteM (testM fa) (M.ret (.fz (.bl true))) fb) := by
  intro σ H Q g I s G w
  refine bl_of ha G w fun b s1 I1 H1 S1 G1 w1 => ?_
  cases b with
  | false =>
    rw [if_neg Bool.false_ne_true]
    exact hb σ H1 _ g I1 s1 G1 (wpM_mono w1 (fun b s2 z => kE_up S1 z) fun _ _ z => z)
  | true => exact w1 I1 H1 _ S1 G1 (.inr (.bl true))
theorem r_notV {ta : TE} {fa : M Fv} (ha : Rt K ca W ex ta fa) : Rt K ca W ex (tNotV ta) (blM (notM (testM fa))) := by
  intro σ H Q g I s G w
  show ta σ H fun x H1 => ∃ c, x = .bl c ∧ Q (.bl (!c)) H1
  refine bl_of (k := fun b => M.ret (Fv.fz (PV.bl (!b)))) (Q := kE K ca ex g I σ Q) ha G ?_ fun b s1 I1 H1 S1 G1 w1 => w1 I1 H1 _ S1 G1 (.inr (.bl _))
  have w1 := wpM_bind.mp (wpM_bind.mp w)
  exact wpM_bind.mpr w1
end
end L4
/-! The pure layer, part 3: statements, targets, calls, a def's promise by its pure computation. -/
namespace L4
open PySem PySem.Spec PyProof.Rows L2 L3

inductive Fl where
  | nx | rt (r : Rv) | bk | ct
section
variable (K : PySem.W.Frag) (ca : Nat → Addr) (W : WX) (ex : Ex)
def kR (g : Gh) (R : VK) : Rv → Prop
  | .fz d => ∀ I' H' v, Lf (Mo g.h) g.I0 g.H0 I' H' → HandO K I' H' g.h → Dv K ca I' v d → R v H'
  | .ow xs => ∀ I' H' p vs, Lf (Mo g.h) g.I0 g.H0 I' H' → HandO K I' H' g.h → g.H0 p = none → I' p = none → H' p = some (.lst vs) → DvA K ca I' vs xs → R (.ref p) H'
def kS (g : Gh) (I : Hp) (D : Ends) (o : Fl) (s' : S4) : Prop := match o with
  | .nx => ∀ I' H' σ', Same I I' → Good K ca ex g I' H' s' σ' → D.nx σ' H'
  | .bk => ∀ I' H' σ', Same I I' → Good K ca ex g I' H' s' σ' → D.bk σ' H'
  | .ct => ∀ I' H' σ', Same I I' → Good K ca ex g I' H' s' σ' → D.ct σ' H'
  | .rt r => kR K ca g D.rt r
def kXs (g : Gh) (x : Xc) (s' : S4) : Prop := ∀ I' H' σ' cls dd, Good K ca ex g I' H' s' σ' → XcOk K ca I' cls dd x → W cls dd σ' H'
/-- a statement's reading is met -/
def Rs (t : TS) (F : M Fl) : Prop := ∀ (D : Ends) (σ : L2.St) (H : Hp) (g : Gh) (I : Hp) (s : S4), Good K ca ex g I H s σ → wpM F s (kS K ca ex g I D) (kXs K ca W ex g) → t D σ H
/-- a target's reading is met -/
def Rg (t : TG) (F : Fv → M Unit) : Prop := ∀ (σ : L2.St) (H : Hp) (Q : L2.St → Hp → Prop) (g : Gh) (I : Hp) (s : S4) (v : V) (x : Fv), Good K ca ex g I H s σ → Vo K ca g I H s σ v x →
  wpM (F x) s (fun _ s' => ∀ I' H' σ', Same I I' → Good K ca ex g I' H' s' σ' → Q σ' H') (kXs K ca W ex g) → t v σ H Q
end
section
variable {K : PySem.W.Frag} {ca : Nat → Addr} {W : WX} {ex : Ex} {g : Gh} {I H I' H' : Hp} {s : S4} {σ : L2.St} {v : V} {x : Fv}
theorem kS_up {D : Ends} {o : Fl} {s' : S4} (S : Same I I') (w : kS K ca ex g I D o s') : kS K ca ex g I' D o s' := by
  cases o with
  | nx => exact fun J H' σ' S' G' => w J H' σ' (S.trans S') G'
  | bk => exact fun J H' σ' S' G' => w J H' σ' (S.trans S') G'
  | ct => exact fun J H' σ' S' G' => w J H' σ' (S.trans S') G'
  | rt r => exact w
theorem kX_of {y : Xc} {s' : S4} (w : kXs K ca W ex g y s') : kX K ca W ex g σ y s' := fun I' H' cls dd G x => w I' H' σ cls dd G x
end
def seqM (F G : M Fl) : M Fl := F.bind fun o => match o with
  | .nx => G
  | .rt r => M.ret (.rt r)
  | .bk => M.ret .bk
  | .ct => M.ret .ct
def nxM (f : M Unit) : M Fl := f.bind fun _ => M.ret .nx
def asgM (f : M Fv) (t : Fv → M Unit) : M Fl := f.bind fun x => (t x).bind fun _ => M.ret .nx
def rtS (s : S4) (i : Nat) : Option Sl → T (Out Fl)
  | some (.ow xs) => .ret (.val (.rt (.ow xs)) (s.set i .no))
  | some (.fz (.lst xs)) => .ret (.val (.rt (.fz (.lst xs))) s)
  | some (.fz (.dK ks ds)) => .ret (.val (.rt (.fz (.dK ks ds))) s)
  | some (.fz (.dT ks ds)) => .ret (.val (.rt (.fz (.dT ks ds))) s)
  | some (.od d) => .ret (.val (.rt (.fz d)) (s.set i (.fz d)))
  | _ => .stuck
def rtv (x : Fv) : M Fl := match x with
  | .fz d => fun s => if d.nh then .ret (.val (.rt (.fz d)) s) else .stuck
  | .ow xs => M.ret (.rt (.ow xs))
  | .bw i => fun s => rtS s i s[i]?
  | .nd d => M.ret (.rt (.fz d))
def rtM (f : M Fv) : M Fl := f.bind rtv
def dropM (f : M Fv) : M Fl := f.bind fun _ => M.ret .nx
def setM (i : Nat) : Fv → M Unit
  | .fz d => fun s => .ret (.val () (s.set i (.fz d)))
  | .ow xs => fun s => .ret (.val () (s.set i (.ow xs)))
  | .nd d => fun s => .ret (.val () (s.set i (.od d)))
  | .bw j => (frz (.bw j)).bind fun d => fun s => .ret (.val () (s.set i (.fz d)))
section
variable {K : PySem.W.Frag} {ca : Nat → Addr} {W : WX} {ex : Ex} {g : Gh} {I H I' H' : Hp} {s : S4} {σ : L2.St} {v : V} {x : Fv}
theorem rs_seq {t u : TS} {F G : M Fl} (ht : Rs K ca W ex t F) (hu : Rs K ca W ex u G) : Rs K ca W ex (tSeq t u) (seqM F G) := by
  intro D σ H g I s Gd w
  refine ht { D with nx := u D } σ H g I s Gd (wpM_mono (wpM_bind.mp w) (fun o s1 z => ?_) fun _ _ z => z)
  cases o with
  | nx => exact fun I' H' σ' S' G' => hu D σ' H' g I' s1 G' (wpM_mono z (fun _ _ z => kS_up S' z) fun _ _ z => z)
  | rt r => exact z
  | bk => exact z
  | ct => exact z
theorem rs_next : Rs K ca W ex tNext (M.ret .nx) := fun D σ H g I s G w => w I H σ (Same.refl I) G
theorem rs_pass {t : TS} (e : t = tNext) : Rs K ca W ex t (M.ret .nx) := e ▸ rs_next
theorem rs_bk : Rs K ca W ex tBreak (M.ret .bk) := fun D σ H g I s G w => w I H σ (Same.refl I) G
theorem rs_ct : Rs K ca W ex tCont (M.ret .ct) := fun D σ H g I s G w => w I H σ (Same.refl I) G
theorem rs_drop {te : TE} {f : M Fv} (h : Rt K ca W ex te f) : Rs K ca W ex (tDrop te) (dropM f) := by
  intro D σ H g I s G w
  refine h σ H _ g I s G (wpM_mono (wpM_bind.mp w) (fun x s1 z => ?_) fun _ _ z => kX_of z)
  exact fun I' H' v S G' V => z I' H' σ S G'
theorem rs_asg {te : TE} {tg : TG} {f : M Fv} {F : Fv → M Unit} (h : Rt K ca W ex te f) (hg : Rg K ca W ex tg F) : Rs K ca W ex (tAsg te tg) (asgM f F) := by
  intro D σ H g I s G w
  refine h σ H _ g I s G (wpM_mono (wpM_bind.mp w) (fun x s1 z => ?_) fun _ _ z => kX_of z)
  intro I' H' v S G' V
  exact hg σ H' D.nx g I' s1 v x G' V (wpM_mono (wpM_bind.mp z) (fun _ s2 z2 => fun I2 H2 σ2 S2 G2 => z2 I2 H2 σ2 (S.trans S2) G2) fun _ _ z => z)
theorem Vo.ofDv {d : PV} (h : Dv K ca I v d) : Vo K ca g I H s σ v (.fz d) := Or.inr h
theorem rg_name {i : Nat} : Rg K ca W ex (gName i) (setM i) := by
  intro σ H Q g I s v x G V w
  cases x with
  | fz d => exact w I H _ (Same.refl I) (G.setFz i V)
  | ow xs =>
    obtain ⟨p, vs, rfl, h1, h2, h3, h4, h5, h6⟩ := V
    exact w I H _ (Same.refl I) (G.setOw i h1 h2 h3 h4 h5 h6.1 h6.2)
  | nd d =>
    obtain ⟨p, o, rfl, h1, h2, h3, h4, h5, h6⟩ := V
    exact w I H _ (Same.refl I) (G.setO i ⟨p, o, rfl, h1, h2, h3, h4, h5⟩ h6.1 h6.2)
  | bw j =>
    obtain ⟨d, I1, s1, S1, G1, hd, q⟩ := frz_ok G V (wpM_bind.mp w)
    exact q I1 H _ S1 (G1.setFz i hd)
theorem rs_rt {te : TE} {f : M Fv} (h : Rt K ca W ex te f) : Rs K ca W ex (tRet te) (rtM f) := by
  intro D σ H g I s G w
  refine h σ H _ g I s G (wpM_mono (wpM_bind.mp w) (fun x s1 z => ?_) fun _ _ z => kX_of z)
  intro I' H' v S G' V
  cases x with
  | fz d =>
    have z : wp (if d.nh = true then T.ret (.val (Fl.rt (.fz d)) s1) else .stuck) (oK (kS K ca ex g I D) (kXs K ca W ex g)) := z
    rcases V with ⟨rfl, _⟩ | V
    · exact z.elim
    · rw [if_pos V.nh] at z
      exact z I' H' v G'.lf G'.hd V
  | ow xs =>
    obtain ⟨p, vs, rfl, h1, h2, h3, h4, h5, h6⟩ := V
    exact z I' H' p vs G'.lf G'.hd h2 h1 h4 h5
  | nd d =>
    obtain ⟨p, o, rfl, h1, h2, h3, h4, h5, h6⟩ := V
    have G2 := G'.freezeO h5.fzo h1 h2 h3 h4 h6.1 h6.2
    exact z _ H' _ G2.lf G2.hd ((h5.up (same_updN h1)).dv upd_same)
  | bw i =>
    have V : σ[i]? = some (some v) := V
    have z : wp (rtS s1 i s1[i]?) (oK (kS K ca ex g I D) (kXs K ca W ex g)) := z
    cases e : s1[i]? with
    | none => rw [e] at z; exact z.elim
    | some y =>
      rw [e] at z
      cases y with
      | ow xs =>
        obtain ⟨p, vs, rfl, h1, h2, h3, h4, h5⟩ := G'.own e V
        exact z I' H' p vs G'.lf G'.hd h2 h1 h4 h5
      | fz d =>
        obtain ⟨u, e1, e2⟩ := G'.at' i _ _ e V
        cases e1
        cases d with
        | lst xs =>
          rcases e2 with ⟨y, _⟩ | e2
          · cases y
          · exact z I' H' v G'.lf G'.hd e2
        | dK ks ds =>
          rcases e2 with ⟨y, _⟩ | e2
          · cases y
          · exact z I' H' v G'.lf G'.hd e2
        | dT ks ds =>
          rcases e2 with ⟨y, _⟩ | e2
          · cases y
          · exact z I' H' v G'.lf G'.hd e2
        | _ => exact z.elim
      | od d =>
        obtain ⟨p, o, rfl, h1, h2, h3, h4, h5⟩ := G'.ownD e V
        have G2 := G'.frzDic e V h1 h2 h3 h4 h5
        exact z _ H' _ G2.lf G2.hd ((h5.up (same_updN h1)).dv upd_same)
      | _ => exact z.elim
theorem rs_rtN : Rs K ca W ex tRetN (M.ret (.rt (.fz .non))) := fun D σ H g I s G w => w I H .non G.lf G.hd .non
theorem rs_if {c : TT} {t u : TS} {fc : M Bool} {F G : M Fl} (hc : Rb K ca W ex c fc) (ht : Rs K ca W ex t F) (hu : Rs K ca W ex u G) : Rs K ca W ex (tIfS c t u) (iteM fc F G) := by
  intro D σ H g I s Gd w
  refine hc σ H _ g I s Gd (wpM_mono (wpM_bind.mp w) (fun b s1 z => ?_) fun _ _ z => kX_of z)
  intro I1 H1 S1 G1
  cases b with
  | true =>
    rw [if_pos rfl]
    exact ht D σ H1 g I1 s1 G1 (wpM_mono z (fun _ _ z => kS_up S1 z) fun _ _ z => z)
  | false =>
    rw [if_neg Bool.false_ne_true]
    exact hu D σ H1 g I1 s1 G1 (wpM_mono z (fun _ _ z => kS_up S1 z) fun _ _ z => z)
end
/-! ### targets of several parts -/
def tgsM : List (Fv → M Unit) → List PV → M Unit
  | [], [] => M.ret ()
  | f :: fs, d :: ds => (f (.fz d)).bind fun _ => tgsM fs ds
  | _, _ => M.stuck
def tupT (fs : List (Fv → M Unit)) (x : Fv) : M Unit := (frzD x).bind fun d => match d with
  | .tup ds => tgsM fs ds
  | _ => M.stuck
section
variable {K : PySem.W.Frag} {ca : Nat → Addr} {W : WX} {ex : Ex} {g : Gh} {I H I' H' : Hp} {s : S4} {σ : L2.St} {v : V} {x : Fv}
def Rgs (K : PySem.W.Frag) (ca : Nat → Addr) (W : WX) (ex : Ex) (n : Nat) (t : TGs) (fs : List (Fv → M Unit)) : Prop := fs.length = n ∧ ∀ (σ : L2.St) (H : Hp) (Q : L2.St → Hp → Prop) (g : Gh) (I : Hp) (s : S4) (vs : List V) (ds : List PV),
  Good K ca ex g I H s σ → DvA K ca I vs ds → wpM (tgsM fs ds) s (fun _ s' => ∀ I' H' σ', Same I I' → Good K ca ex g I' H' s' σ' → Q σ' H') (kXs K ca W ex g) → t vs σ H Q
theorem rgs_nil : Rgs K ca W ex 0 gNil [] := by
  refine ⟨rfl, fun σ H Q g I s vs ds G d w => ?_⟩
  cases d with
  | nil => exact ⟨rfl, w I H σ (Same.refl I) G⟩
  | cons _ _ => exact w.elim
theorem rgs_cons {n : Nat} {t : TG} {u : TGs} {f : Fv → M Unit} {fs : List (Fv → M Unit)} (ht : Rg K ca W ex t f) (hu : Rgs K ca W ex n u fs) : Rgs K ca W ex (n + 1) (gCons t u) (f :: fs) := by
  refine ⟨by rw [List.length_cons, hu.1], fun σ H Q g I s vs ds G d w => ?_⟩
  cases d with
  | nil => exact w.elim
  | cons h t' =>
    refine ⟨_, _, rfl, ht σ H _ g I s _ _ G (Vo.ofDv h) (wpM_mono (wpM_bind.mp w) (fun _ s1 z => ?_) fun _ _ z => z)⟩
    exact fun I1 H1 σ1 S1 G1 => hu.2 σ1 H1 Q g I1 s1 _ _ G1 (t'.up S1) (wpM_mono z (fun _ s2 z2 => fun I2 H2 σ2 S2 G2 => z2 I2 H2 σ2 (S1.trans S2) G2) fun _ _ z => z)
theorem tgsM_len : ∀ {fs : List (Fv → M Unit)} {ds : List PV} {s : S4} {Q : Unit → S4 → Prop} {X : Xc → S4 → Prop}, wpM (tgsM fs ds) s Q X → (∀ x s, ¬ X x s) → fs.length = ds.length
  | [], [], _, _, _, _, _ => rfl
  | _ :: _, [], _, _, _, w, _ => w.elim
  | [], _ :: _, _, _, _, w, _ => w.elim
  | f :: fs, d :: ds, s, Q, X, w, hX => by
    rw [List.length_cons, List.length_cons]
    congr 1
    have w2 := wpM_bind.mp w
    have : ∃ s', wpM (tgsM fs ds) s' Q X := by
      have key : ∀ {t : T (Out Unit)}, wp t (oK (fun _ s' => wpM (tgsM fs ds) s' Q X) X) → ∃ s', wpM (tgsM fs ds) s' Q X := by
        intro t
        induction t with
        | ret o =>
          intro h
          cases o with
          | val _ s' => exact ⟨s', h⟩
          | exc x s' => exact (hX x s' h).elim
        | stuck => exact fun h => h.elim
        | need p k ih => exact fun h => ih h.2
        | draw n k ih => exact fun h => ih 0 (h.2 0 (by omega) h.1.1)
      exact key w2
    obtain ⟨s', h⟩ := this
    exact tgsM_len h hX
theorem rg_tup {n : Nat} {t : TGs} {fs : List (Fv → M Unit)} (ht : Rgs K ca W ex n t fs) : Rg K ca W ex (gTup K n t) (fun x => (frzD x).bind fun d => match d with
    | .tup ds => fun s => .need (ds.length = n) (tgsM fs ds s)
    | _ => M.stuck) := by
  intro σ H Q g I s v x G V w
  obtain ⟨d, I1, s1, S1, G1, hd, q⟩ := frzD_ok G V (wpM_bind.mp w)
  cases d with
  | tup ds =>
    obtain ⟨a, xs, rfl, ha, hx⟩ := hd.tupRef
    obtain ⟨l, q⟩ := q
    refine ⟨a, xs, rfl, Same.seqT G1.sub ha, by rw [hx.length]; exact l, ?_⟩
    exact ht.2 σ H Q g I1 s1 _ _ G1 hx (wpM_mono q (fun _ s2 z => fun I2 H2 σ2 S2 G2 => z I2 H2 σ2 (S1.trans S2) G2) fun _ _ z => z)
  | _ => exact q.elim
end
def tupTg (n : Nat) (fs : List (Fv → M Unit)) (x : Fv) : M Unit := (frzD x).bind fun d => match d with
  | .tup ds => fun s => .need (ds.length = n) (tgsM fs ds s)
  | _ => M.stuck
/-! ### dicts by their keys -/
def keyK : PV → Option Key
  | .int n => some (.inl n)
  | .str x => some (.inr x)
  | _ => none
def keyA : List PV → Option (List Key)
  | [] => some []
  | d :: ds => match keyK d, keyA ds with
    | some k, some ks => some (k :: ks)
    | _, _ => none
def keyT : PV → Option (List Key)
  | .tup ds => keyA ds
  | _ => none
section
variable {κ : Type} [DecidableEq κ]
def getZ (k : κ) : List κ → List PV → Option PV
  | j :: ks, d :: ds => if j = k then some d else getZ k ks ds
  | _, _ => none
def setZ (k : κ) (e : PV) : List κ → List PV → List PV
  | j :: ks, d :: ds => (if j = k then e else d) :: setZ k e ks ds
  | _, _ => []
def putZk (k : κ) (ks : List κ) : List κ := if (ks.any fun j => decide (j = k)) = true then ks else ks ++ [k]
def putZd (k : κ) (e : PV) (ks : List κ) (ds : List PV) : List PV := if (ks.any fun j => decide (j = k)) = true then setZ k e ks ds else ds ++ [e]
variable {K : PySem.W.Frag} {ca : Nat → Addr} {I : Hp}
theorem get_dv {k : κ} : ∀ {kvs : List (κ × V)} {ds : List PV}, DvA K ca I (kvs.map (·.2)) ds → match getZ k (kvs.map (·.1)) ds with
    | some d => ∃ v, valV kvs k = some v ∧ Dv K ca I v d
    | none => valV kvs k = none
  | [], _, .nil => rfl
  | p :: kvs, _, .cons (d := d) (ds := ds) h t => by
    show match (if p.1 = k then some d else getZ k (kvs.map (·.1)) ds) with
      | some d => ∃ v, valV (p :: kvs) k = some v ∧ Dv K ca I v d
      | none => valV (p :: kvs) k = none
    by_cases e : p.1 = k
    · rw [if_pos e]
      exact ⟨p.2, valV_pos e, h⟩
    · rw [if_neg e]
      have ih := get_dv (k := k) t
      rw [valV_neg e]
      exact ih
theorem set_dv {k : κ} {v : V} {e : PV} (he : Dv K ca I v e) : ∀ {kvs : List (κ × V)} {ds : List PV}, DvA K ca I (kvs.map (·.2)) ds → DvA K ca I ((kvs.map fun kv => if kv.1 = k then (kv.1, v) else kv).map (·.2)) (setZ k e (kvs.map (·.1)) ds)
  | [], _, .nil => .nil
  | p :: kvs, _, .cons (d := d) (ds := ds) h t => by
    show DvA K ca I ((if p.1 = k then (p.1, v) else p).2 :: _) ((if p.1 = k then e else d) :: _)
    refine .cons ?_ (set_dv he t)
    by_cases q : p.1 = k
    · rw [if_pos q, if_pos q]; exact he
    · rw [if_neg q, if_neg q]; exact h
theorem put_fst {k : κ} {v : V} {kvs : List (κ × V)} : (putK kvs k v).map (·.1) = putZk k (kvs.map (·.1)) := by
  unfold putK putZk
  rw [List.any_map]
  show List.map _ (if (kvs.any fun kv => decide (kv.1 = k)) = true then _ else _) = if (kvs.any fun kv => decide (kv.1 = k)) = true then _ else _
  split
  · rw [List.map_map]
    apply List.map_congr_left
    intro p _
    show (if p.1 = k then (p.1, v) else p).1 = p.1
    split <;> rfl
  · rw [List.map_append]
    rfl
theorem put_dv {k : κ} {v : V} {e : PV} {kvs : List (κ × V)} {ds : List PV} (he : Dv K ca I v e) (h : DvA K ca I (kvs.map (·.2)) ds) : DvA K ca I ((putK kvs k v).map (·.2)) (putZd k e (kvs.map (·.1)) ds) := by
  unfold putK putZd
  rw [List.any_map]
  show DvA K ca I (List.map _ (if (kvs.any fun kv => decide (kv.1 = k)) = true then _ else _)) (if (kvs.any fun kv => decide (kv.1 = k)) = true then _ else _)
  split
  · exact set_dv he h
  · rw [List.map_append]
    exact DvA.append h (.cons he .nil)
theorem keyK_dv {v : V} {d : PV} {k : Key} (e : keyK d = some k) (h : Dv K ca I v d) : v = kV k := by
  cases h <;> first | (cases e; rfl) | cases e
theorem keyA_dv : ∀ {vs : List V} {ds : List PV} {ks : List Key}, keyA ds = some ks → DvA K ca I vs ds → vs = ks.map kV
  | _, [], _, e, .nil => by cases e; rfl
  | _, d :: ds, ks, e, .cons h t => by
    unfold keyA at e
    cases e1 : keyK d with
    | none => rw [e1] at e; cases e
    | some k =>
      cases e2 : keyA ds with
      | none => rw [e1, e2] at e; cases e
      | some r =>
        rw [e1, e2] at e
        cases e
        rw [keyK_dv e1 h, keyA_dv e2 t]
        rfl
theorem keyT_dv {v : V} {d : PV} {ks : List Key} (e : keyT d = some ks) (h : Dv K ca I v d) : ∃ b, v = .ref b ∧ I b = some (.tup (ks.map kV)) := by
  cases d with
  | tup ds =>
    obtain ⟨a, xs, rfl, ha, hx⟩ := h.tupStrict
    exact ⟨a, rfl, by rw [ha, keyA_dv e hx]⟩
  | _ => cases e
end
def rSetU : TSet := fun o i v H Q => rSetL o i v H Q ∨ rSetD o i v H Q
theorem set_U {X : Cx} (hu : X.A.units + 1 < cLine) : PSet X rSetU := by
  intro pins s σ H o i v ov iv u Q I ro ri rv h
  rcases h with h | h
  · exact set_list pins s σ H o i v ov iv u Q I ro ri rv h
  · exact set_dict hu pins s σ H o i v ov iv u Q I ro ri rv h
/-! ### x[i] = e -/
def stN (s : S4) (j : Nat) (xs : List PV) (d : PV) : Option Nat → T (Out Unit)
  | some m => .ret (.val () (s.set j (.ow (xs.set m d))))
  | none => .stuck
def stL (s : S4) (j : Nat) (xs : List PV) (d : PV) : PV → T (Out Unit)
  | .int n => stN s j xs d (ixN xs.length n)
  | _ => .stuck
def stK (s : S4) (j : Nat) (ks : List Key) (ds : List PV) (d : PV) : Option Key → T (Out Unit)
  | some q => .need (ks.length < 16777216) (.ret (.val () (s.set j (.od (.dK (putZk q ks) (putZd q d ks ds))))))
  | none => .stuck
def stT (s : S4) (j : Nat) (ks : List (List Key)) (ds : List PV) (d : PV) : Option (List Key) → T (Out Unit)
  | some q => .need (ks.length < 16777216) (.ret (.val () (s.set j (.od (.dT (putZk q ks) (putZd q d ks ds))))))
  | none => .stuck
def stS (s : S4) (j : Nat) (k : PV) (d : PV) : Option Sl → T (Out Unit)
  | some (.ow xs) => stL s j xs d k
  | some (.od (.dK ks ds)) => stK s j ks ds d (keyK k)
  | some (.od (.dT ks ds)) => stT s j ks ds d (keyT k)
  | _ => .stuck
def stO (k d : PV) : Fv → M Unit
  | .bw j => fun s => stS s j k d s[j]?
  | _ => M.stuck
def storeM (fo fi : M Fv) (x : Fv) : M Unit := (frzD x).bind fun d => (setl fo).bind fun o => (setl fi).bind fun i => (vw i).bind fun k => stO k d o
section
variable {K : PySem.W.Frag} {ca : Nat → Addr} {W : WX} {ex : Ex} {g : Gh} {I H I' H' : Hp} {s : S4} {σ : L2.St} {v : V} {x : Fv}
theorem run_setlS {t : TE} {f : M Fv} {α : Type} {k : Fv → M α} {Q : α → S4 → Prop} {R : VK} (h : Rt K ca W ex t f) (G : Good K ca ex g I H s σ) (w : wpM ((setl f).bind k) s Q (kXs K ca W ex g))
    (q : ∀ x s' I' H' v, Same I I' → Good K ca ex g I' H' s' σ → Vs K ca g I' σ v x → wpM (k x) s' Q (kXs K ca W ex g) → R v H') : t σ H R := run_setlX h G (fun _ _ z => kX_of z) w q
theorem vw_int {n : Int} (h : Vw K ca I H v (.int n)) : v = .int n := by
  cases h with
  | s h => cases h; rfl
  | d _ _ h => cases h
theorem keyK_vw {d : PV} {k : Key} (e : keyK d = some k) (h : Vw K ca I H v d) : v = kV k := by
  cases h with
  | s h => exact keyK_dv e h
  | l _ _ _ => cases e
  | d _ _ h => cases h <;> cases e
theorem keyT_vw {d : PV} {k : List Key} (S : Same I H) (e : keyT d = some k) (h : Vw K ca I H v d) : ∃ b, v = .ref b ∧ H b = some (.tup (k.map kV)) := by
  cases h with
  | s h =>
    obtain ⟨b, e1, e2⟩ := keyT_dv e h
    exact ⟨b, e1, S _ _ e2⟩
  | l _ _ _ => cases e
  | d _ _ h => cases h <;> cases e
theorem rg_sub {to ti : TE} {fo fi : M Fv} (ho : Rt K ca W ex to fo) (hi : Rt K ca W ex ti fi) : Rg K ca W ex (gSub to ti rSetU) (storeM fo fi) := by
  intro σ H Q g I s v x G V w
  obtain ⟨d, I1, s1, S1, G1, hd, w1⟩ := frzD_ok G V (wpM_bind.mp w)
  refine run_setlS ho G1 w1 fun o s2 I2 H2 vo S2 G2 V2 w2 => ?_
  refine run_setlS hi G2 w2 fun i s3 I3 H3 vi S3 G3 V3 w3 => ?_
  obtain ⟨k, vk, w4⟩ := vw_ok (d := .non) G3 V3 (wpM_bind.mp w3)
  have V2' := V2.up S3
  have hd' := (hd.up S2).up S3
  have SS := (S1.trans S2).trans S3
  have line : sizeLine = 16777216 := sizeLine_eq
  cases o with
  | bw j =>
    have V2' : σ[j]? = some (some vo) := V2'
    have w4 : wp (stS s3 j k d s3[j]?) (oK (fun _ s' => ∀ I' H' σ', Same I I' → Good K ca ex g I' H' s' σ' → Q σ' H') (kXs K ca W ex g)) := w4
    cases e : s3[j]? with
    | none => rw [e] at w4; exact w4.elim
    | some y =>
      rw [e] at w4
      cases y with
      | ow xs =>
        obtain ⟨p, vs, rfl, h1, h2, h3, h4, h5⟩ := G3.own e V2'
        cases k with
        | int n =>
          obtain rfl := vw_int vk
          have w4 : wp (stN s3 j xs d (ixN xs.length n)) (oK (fun _ s' => ∀ I' H' σ', Same I I' → Good K ca ex g I' H' s' σ' → Q σ' H') (kXs K ca W ex g)) := w4
          cases e2 : ixN xs.length n with
          | none => rw [e2] at w4; exact w4.elim
          | some m =>
            rw [e2] at w4
            exact .inl ⟨p, vs, n, m, rfl, rfl, h4, by rw [h5.length]; exact e2, w4 _ _ _ SS (G3.write e V2' h1 h2 h3 h4 (h5.set m hd'))⟩
        | _ => exact w4.elim
      | od d0 =>
        obtain ⟨p, o, rfl, h1, h2, h3, h4, h5⟩ := G3.ownD e V2'
        cases h5 with
        | @k kvs ds q =>
          have w4 : wp (stK s3 j (kvs.map (·.1)) ds d (keyK k)) (oK (fun _ s' => ∀ I' H' σ', Same I I' → Good K ca ex g I' H' s' σ' → Q σ' H') (kXs K ca W ex g)) := w4
          cases e2 : keyK k with
          | none => rw [e2] at w4; exact w4.elim
          | some kk =>
            rw [e2] at w4
            obtain ⟨l, w5⟩ := w4
            obtain rfl := keyK_vw e2 vk
            rw [List.length_map] at l
            refine .inr ⟨p, _, rfl, DPut.k h4 (by rw [line]; exact l), w5 _ _ _ SS (G3.writeD e V2' h1 h2 h3 h4 (.k q) ?_)⟩
            rw [← put_fst (v := v)]
            exact .k (put_dv hd' q)
        | @t kvs ds q =>
          have w4 : wp (stT s3 j (kvs.map (·.1)) ds d (keyT k)) (oK (fun _ s' => ∀ I' H' σ', Same I I' → Good K ca ex g I' H' s' σ' → Q σ' H') (kXs K ca W ex g)) := w4
          cases e2 : keyT k with
          | none => rw [e2] at w4; exact w4.elim
          | some kk =>
            rw [e2] at w4
            obtain ⟨l, w5⟩ := w4
            obtain ⟨b, rfl, hb⟩ := keyT_vw G3.sub e2 vk
            rw [List.length_map] at l
            refine .inr ⟨p, _, rfl, DPut.t h4 hb (by rw [line]; exact l), w5 _ _ _ SS (G3.writeD e V2' h1 h2 h3 h4 (.t q) ?_)⟩
            rw [← put_fst (v := v)]
            exact .t (put_dv hd' q)
      | _ => exact w4.elim
  | _ => exact w4.elim
end
/-! ### calls -/
/-- the parameter is the hand, or data -/
def DhA (K : PySem.W.Frag) (ca : Nat → Addr) (h : Option Addr) (I : Hp) : List V → List PV → Prop
  | [], [] => True
  | v :: vs, d :: ds => Dh K ca h I v d ∧ DhA K ca h I vs ds
  | _, _ => False
abbrev Den := List PV → T (Except Xc Rv)
def kC (K : PySem.W.Frag) (ca : Nat → Addr) (I H : Hp) (h : Option Addr) (Q : VK) (E : XK) : Except Xc Rv → Prop
  | .ok (.fz d) => ∀ I' H' v, Lf (Mo h) I H I' H' → HandO K I' H' h → Dv K ca I' v d → Q v H'
  | .ok (.ow xs) => ∀ I' H' p vs, Lf (Mo h) I H I' H' → HandO K I' H' h → H p = none → I' p = none → H' p = some (.lst vs) → DvA K ca I' vs xs → Q (.ref p) H'
  | .error x => ∀ I' H' cls dd, Lf (Mo h) I H I' H' → HandO K I' H' h → XcOk K ca I' cls dd x → E cls dd H'
/-- a def's promise: what its pure computation gives -/
def spD (K : PySem.W.Frag) (ca : Nat → Addr) (n : Nat) (den : Den) : Sp := fun vs H Q E => ∃ (I : Hp) (h : Option Addr) (ds : List PV), ds.length = n ∧ HandO K I H h ∧ DhA K ca h I vs ds ∧ wp (den ds) (kC K ca I H h Q E)
section
variable {K : PySem.W.Frag} {ca : Nat → Addr} {W : WX} {ex : Ex} {g : Gh} {I H I' H' : Hp} {s : S4} {σ : L2.St} {v : V} {x : Fv}
theorem DhA.length {h : Option Addr} : ∀ {vs : List V} {ds : List PV}, DhA K ca h I vs ds → vs.length = ds.length
  | [], [], _ => rfl
  | _ :: _, _ :: _, x => by rw [List.length_cons, List.length_cons, DhA.length x.2]
  | [], _ :: _, x => x.elim
  | _ :: _, [], x => x.elim
theorem DhA.append {h : Option Addr} : ∀ {vs ws : List V} {ds es : List PV}, DhA K ca h I vs ds → DhA K ca h I ws es → DhA K ca h I (vs ++ ws) (ds ++ es)
  | [], _, [], _, _, q => q
  | _ :: _, _, _ :: _, _, x, q => ⟨x.1, DhA.append x.2 q⟩
  | [], _, _ :: _, _, x, _ => x.elim
  | _ :: _, _, [], _, x, _ => x.elim
theorem spD_len {n : Nat} {den : Den} (vs : List V) (H : Hp) (Q : VK) (E : XK) (h : spD K ca n den vs H Q E) : vs.length = n := by
  obtain ⟨I, h, ds, l, _, d, _⟩ := h
  rw [d.length, l]
end
def frzC : List Fv → M (List PV)
  | [] => M.ret []
  | x :: xs => (frz x).bind fun d => (frzC xs).bind fun ds => M.ret (d :: ds)
def outM (t : T (Except Xc Rv)) : M Fv := fun s => t.bind fun r => match r with
  | .ok a => .ret (.val a.fv s)
  | .error x => .ret (.exc x s)
def noExc (den : Den) : Den := fun ds => (den ds).bind fun r => match r with
  | .ok a => .ret (.ok a)
  | .error _ => .stuck
def callM (den : Den) (dds : List PV) (fa : M (List Fv)) : M Fv := fa.bind fun xs => (frzC xs).bind fun ds => outM (den (ds ++ dds))
section
variable {K : PySem.W.Frag} {ca : Nat → Addr} {W : WX} {ex : Ex} {g : Gh} {I H I' H' : Hp} {s : S4} {σ : L2.St} {v : V} {x : Fv}
theorem frzC_ok : ∀ {xs : List Fv} {vs : List V} {I : Hp} {s : S4} {Q : List PV → S4 → Prop} {X : Xc → S4 → Prop}, Good K ca ex g I H s σ → VsA K ca g I σ vs xs → wpM (frzC xs) s Q X →
    ∃ ds I' s', Same I I' ∧ Good K ca ex g I' H s' σ ∧ DhA K ca g.h I' vs ds ∧ Q ds s'
  | _, _, I, s, _, _, G, .nil, w => ⟨[], I, s, Same.refl I, G, trivial, w⟩
  | _, _, I, s, _, _, G, .cons h t, w => by
    obtain ⟨d, I1, s1, S1, G1, d1, w1⟩ := frz_ok G h.vo (wpM_bind.mp w)
    obtain ⟨ds, I2, s2, S2, G2, d2, w2⟩ := frzC_ok G1 (t.up S1) (wpM_bind.mp w1)
    exact ⟨d :: ds, I2, s2, S1.trans S2, G2, ⟨d1.up S2, d2⟩, w2⟩
theorem wpM_outM {t : T (Except Xc Rv)} {Q : Fv → S4 → Prop} {X : Xc → S4 → Prop} : wpM (outM t) s Q X ↔ wp t fun r => match r with
    | .ok a => Q a.fv s
    | .error x => X x s := by
  unfold wpM outM
  rw [wp_bind]
  constructor
  · exact fun h => wp_mono h fun r z => by cases r <;> exact z
  · exact fun h => wp_mono h fun r z => by cases r <;> exact z
theorem callee {n : Nat} {den : Den} {vs : List V} {ds : List PV} {Q : VK} {E : XK} (G : Good K ca ex g I H s σ) (l : ds.length = n) (d : DhA K ca g.h I vs ds) (hE : ∀ cls dd H', W cls dd σ H' → E cls dd H')
    (w : wpM (outM (den ds)) s (kE K ca ex g I σ Q) (kX K ca W ex g σ)) : spD K ca n den vs H Q E := by
  refine ⟨I, g.h, ds, l, G.hd, d, wp_mono (wpM_outM.mp w) fun r z => ?_⟩
  cases r with
  | ok a =>
    cases a with
    | fz c => exact fun I' H' v f hd dv => z I' H' v f.ext (G.step f hd) (.inr dv)
    | ow xs =>
      intro I' H' p vs f hd hp ip hv dv
      obtain ⟨h0, ne, off⟩ := G.new hp
      exact z I' H' _ f.ext (G.step f hd) ⟨p, vs, rfl, ip, h0, ne, hv, dv, off⟩
  | error x => exact fun I' H' cls dd f hd xo => hE _ _ _ (z I' H' cls dd (G.step f hd) xo)
theorem run_call {n : Nat} {den : Den} {dvs : List V} {dds : List PV} {t : TA} {fa : M (List Fv)} {Q : VK} {E : XK} {σ : L2.St} {H : Hp} {g : Gh} {I : Hp} {s : S4} (hd : ∀ h I, DhA K ca h I dvs dds) (ha : Ra K ca W ex t fa) (hE : ∀ cls dd H', W cls dd σ H' → E cls dd H') (G : Good K ca ex g I H s σ)
    (w : wpM (fa.bind fun xs => (frzC xs).bind fun ds => fun s => .need ((ds ++ dds).length = n) (outM (den (ds ++ dds)) s)) s (kE K ca ex g I σ Q) (kX K ca W ex g σ)) : t σ H fun vs H1 => spD K ca n den (vs ++ dvs) H1 Q E := by
  refine ha σ H _ g I s G (wpM_mono (wpM_bind.mp w) (fun xs s1 z => ?_) fun _ _ z => z)
  intro I1 H1 vs S1 G1 V1
  obtain ⟨ds, I2, s2, S2, G2, d2, w2⟩ := frzC_ok G1 V1 (wpM_bind.mp z)
  obtain ⟨l, w3⟩ := w2
  exact callee G2 l (d2.append (hd _ _)) hE (wpM_mono w3 (fun y s' z => kE_up (S1.trans S2) z) fun _ _ z => z)
end
end L4
/-! The pure layer, part 4: a def by its pure computation; calls; loops; comprehensions. -/
namespace L4
open PySem PySem.Spec PyProof.Rows L2 L3

/-! ### a def -/
def endK : Out Fl → T (Except Xc Rv)
  | .val .nx _ => .ret (.ok (.fz .non))
  | .val (.rt r) _ => .ret (.ok r)
  | .val .bk _ => .stuck
  | .val .ct _ => .stuck
  | .exc x _ => .ret (.error x)
/-- what the def with N names and this body gives -/
def denOf (N : Nat) (F : M Fl) : Den := fun ds => (F (ds.map Sl.fz ++ List.replicate (N - ds.length) .no)).bind endK
section
variable {K : PySem.W.Frag} {ca : Nat → Addr} {W : WX} {ex : Ex} {g : Gh} {I H I' H' : Hp} {s : S4} {σ : L2.St} {v : V} {x : Fv}
theorem DhA.get : ∀ {vs : List V} {ds : List PV} {h : Option Addr} {i : Nat} {d : PV}, DhA K ca h I vs ds → ds[i]? = some d → ∃ v, vs[i]? = some v ∧ Dh K ca h I v d
  | [], [], _, _, _, _, e => by simp at e
  | v :: vs, d :: ds, _, 0, _, x, e => by simp at e; subst e; exact ⟨v, rfl, x.1⟩
  | v :: vs, d :: ds, h, i + 1, d', x, e => by
    obtain ⟨w, h1, h2⟩ := DhA.get (i := i) (d := d') x.2 (by simpa using e)
    exact ⟨w, by simpa using h1, h2⟩
  | [], _ :: _, _, _, _, x, _ => x.elim
  | _ :: _, [], _, _, _, x, _ => x.elim
theorem good_start {N : List Str} {vs : List V} {ds : List PV} {h : Option Addr} (hd : HandO K I H h) (d : DhA K ca h I vs ds) : Good K ca ex ⟨I, H, h, [], I, none⟩ I H (ds.map Sl.fz ++ List.replicate (N.length - ds.length) .no) (L2.start N vs) where
  s0 := hd.sub
  im := Same.refl I
  lf := Lf.refl hd.sub
  hd := hd
  len := by
    unfold L2.start
    rw [List.length_append, List.length_append, List.length_map, List.length_map, List.length_replicate, List.length_replicate, d.length]
  at' := fun i x v e1 e2 => by
    by_cases hi : i < ds.length
    · rw [List.getElem?_append_left (by rw [List.length_map]; exact hi), List.getElem?_map] at e1
      have hv : i < vs.length := by rw [d.length]; exact hi
      unfold L2.start at e2
      rw [List.getElem?_append_left (by rw [List.length_map]; exact hv), List.getElem?_map] at e2
      rw [List.getElem?_eq_getElem hi] at e1
      cases e1
      obtain ⟨w, h1, h2⟩ := d.get (List.getElem?_eq_getElem hi)
      rw [h1] at e2
      cases e2
      exact ⟨w, rfl, h2⟩
    · rw [List.getElem?_append_right (by rw [List.length_map]; omega)] at e1
      have := (List.getElem?_eq_some_iff.mp e1).2
      rw [List.getElem_replicate] at this
      rw [← this]
      trivial
  sep := fun i j x y p e1 _ o1 _ _ _ => by
    have hm := List.mem_of_getElem? e1
    rcases List.mem_append.mp hm with hm | hm
    · obtain ⟨d, _, z⟩ := List.mem_map.mp hm
      rw [← z] at o1
      cases o1
    · have z := (List.mem_replicate.mp hm).2
      rw [z] at o1
      cases o1
  res := fun q hq => by cases hq
theorem def_run {N : List Str} {n : Nat} {F : M Fl} {t : TS} {vs : List V} {Q : VK} {E : XK} (hF : Rs K ca W ex t F) (hW : ∀ cls dd σ H, E cls dd H → W cls dd σ H) (h : spD K ca n (denOf N.length F) vs H Q E) :
    t { nx := fun _ H' => Q .non H', rt := Q } (L2.start N vs) H := by
  obtain ⟨I, h, ds, l, hd, d, w⟩ := h
  refine hF _ _ H ⟨I, H, h, [], I, none⟩ I _ (good_start (ex := ex) (N := N) hd d) ?_
  unfold denOf at w
  rw [wp_bind] at w
  refine wp_mono w fun o z => ?_
  cases o with
  | val a s' =>
    cases a with
    | nx => exact fun I' H' σ' _ G' => z I' H' .non G'.lf G'.hd .non
    | rt r =>
      cases r with
      | fz d => exact fun I' H' v f hd dv => z I' H' v f hd dv
      | ow xs => exact fun I' H' p vs f hd h0 hp hv dv => z I' H' p vs f hd h0 hp hv dv
    | bk => exact z.elim
    | ct => exact z.elim
  | exc x s' => exact fun I' H' σ' cls dd G' xo => hW _ _ _ _ (z I' H' cls dd G'.lf G'.hd xo)
theorem wp_noExc {den : Den} {ds : List PV} {Q : Except Xc Rv → Prop} : wp (noExc den ds) Q ↔ wp (den ds) fun r => match r with
    | .ok a => Q (.ok a)
    | .error _ => False := by
  unfold noExc
  rw [wp_bind]
  constructor
  · exact fun h => wp_mono h fun r z => by cases r <;> exact z
  · exact fun h => wp_mono h fun r z => by cases r <;> exact z
/-- a def that lets nothing out -/
theorem def_run0 {N : List Str} {n : Nat} {F : M Fl} {t : TS} {vs : List V} {Q : VK} {E : XK} (hF : Rs K ca (fun _ _ _ _ => False) ex t F) (h : spD K ca n (noExc (denOf N.length F)) vs H Q E) :
    t { nx := fun _ H' => Q .non H', rt := Q } (L2.start N vs) H := by
  refine def_run (n := n) (E := fun _ _ _ => False) hF (fun _ _ _ _ h => h) ?_
  obtain ⟨I, h, ds, l, hd, d, w⟩ := h
  refine ⟨I, h, ds, l, hd, d, wp_mono (wp_noExc.mp w) fun r z => ?_⟩
  cases r with
  | ok a => cases a <;> exact z
  | error x => exact z.elim
end

/-! ### calls -/
def callN (n : Nat) (den : Den) (dds : List PV) (fa : M (List Fv)) : M Fv := fa.bind fun xs => (frzC xs).bind fun ds => fun s => .need ((ds ++ dds).length = n) (outM (den (ds ++ dds)) s)
section
variable {K : PySem.W.Frag} {ca : Nat → Addr} {W : WX} {ex : Ex} {g : Gh} {I H I' H' : Hp} {s : S4} {σ : L2.St} {v : V} {x : Fv} {n : Nat} {den : Den} {dvs : List V} {dds : List PV} {t : TA} {fa : M (List Fv)}
theorem r_call {E : XK} (hd : ∀ h I, DhA K ca h I dvs dds) (hE : ∀ cls dd σ H', W cls dd σ H' → E cls dd H') (ha : Ra K ca W ex t fa) : Rt K ca W ex (tCall (spD K ca n den) dvs E t) (callN n den dds fa) :=
  fun σ H Q g I s G w => run_call hd ha (fun cls dd H' => hE cls dd σ H') G w
theorem r_callSD {E : L2.St → XK} (hd : ∀ h I, DhA K ca h I dvs dds) (hE : ∀ cls dd σ H', W cls dd σ H' → E σ cls dd H') (ha : Ra K ca W ex t fa) : Rt K ca W ex (tCallSD (spD K ca n den) dvs E t) (callN n den dds fa) :=
  fun σ H Q g I s G w => run_call hd ha (fun cls dd H' => hE cls dd σ H') G w
theorem r_callS {E : L2.St → XK} (hE : ∀ cls dd σ H', W cls dd σ H' → E σ cls dd H') (ha : Ra K ca W ex t fa) : Rt K ca W ex (tCallS (spD K ca n den) E t) (callN n den [] fa) := by
  intro σ H Q g I s G w
  have z := run_call (dvs := []) (dds := []) (E := E σ) (Q := Q) (fun _ _ => trivial) ha (fun cls dd H' => hE cls dd σ H') G w
  simp only [List.append_nil] at z
  exact z
/-- of a def that lets nothing out -/
theorem r_call0 {E : XK} (hd : ∀ h I, DhA K ca h I dvs dds) (ha : Ra K ca W ex t fa) : Rt K ca W ex (tCall (spD K ca n (noExc den)) dvs E t) (callN n (noExc den) dds fa) := by
  intro σ H Q g I s G w
  have imp : ∀ vs H1, spD K ca n (noExc den) (vs ++ dvs) H1 Q (fun cls dd H' => W cls dd σ H') → spD K ca n (noExc den) (vs ++ dvs) H1 Q E := by
    rintro vs H1 ⟨I, h, ds, l, hd, d, w⟩
    refine ⟨I, h, ds, l, hd, d, wp_noExc.mpr (wp_mono (wp_noExc.mp w) fun r z => ?_)⟩
    cases r with
    | ok a => cases a <;> exact z
    | error x => exact z
  have z := run_call (E := fun cls dd H' => W cls dd σ H') (Q := Q) hd ha (fun cls dd H' h => h) G w
  have mono : ∀ {R R' : List V → Hp → Prop}, (∀ vs H1, R vs H1 → R' vs H1) → wpM (fa.bind fun xs => (frzC xs).bind fun ds => fun s => .need ((ds ++ dds).length = n) (outM (noExc den (ds ++ dds)) s)) s (kE K ca ex g I σ Q) (kX K ca W ex g σ) → True := fun _ _ => trivial
  refine ha σ H _ g I s G (wpM_mono (wpM_bind.mp w) (fun xs s1 z => ?_) fun _ _ z => z)
  intro I1 H1 vs S1 G1 V1
  obtain ⟨ds, I2, s2, S2, G2, d2, w2⟩ := frzC_ok G1 V1 (wpM_bind.mp z)
  obtain ⟨l, w3⟩ := w2
  exact imp vs H1 (callee G2 l (d2.append (hd _ _)) (fun _ _ _ h => h) (wpM_mono w3 (fun y s' z => kE_up (S1.trans S2) z) fun _ _ z => z))
end

/-! ### what is walked -/
structure WalksD (K : PySem.W.Frag) (ca : Nat → Addr) (J : It) (I : Hp) (ds : List PV) : Prop where
  goes : ∀ i H, Same I H → i < ds.length → J.go i H
  stops : ∀ H, Same I H → J.stop ds.length H
  yields : ∀ (i : Nat) H x H' (d : PV), Same I H → ds[i]? = some d → J.yld i H x H' → (H' = H ∧ Dv K ca I x d) ∨ (∃ T vs es, x = .ref T ∧ H T = none ∧ H' = upd H T (.tup vs) ∧ DvA K ca I vs es ∧ d = .tup es)
def Ri (K : PySem.W.Frag) (ca : Nat → Addr) (W : WX) (ex : Ex) (t : TI) (f : M (List PV)) : Prop := ∀ (σ : L2.St) (H : Hp) (R : It → Hp → Prop) (g : Gh) (I : Hp) (s : S4), Good K ca ex g I H s σ →
  wpM f s (fun ds s' => ∀ I' H' J, Same I I' → Good K ca ex g I' H' s' σ → WalksD K ca J I' ds → R J H') (kX K ca W ex g σ) → t σ H R
def forL (tg : Fv → M Unit) (body : M Fl) : List PV → M Fl
  | [] => M.ret .nx
  | d :: ds => (tg (.fz d)).bind fun _ => body.bind fun o => match o with
    | .nx => forL tg body ds
    | .ct => forL tg body ds
    | .bk => M.ret .nx
    | .rt r => M.ret (.rt r)
def forM (src : M (List PV)) (tg : Fv → M Unit) (body : M Fl) : M Fl := src.bind (forL tg body)
section
variable {K : PySem.W.Frag} {ca : Nat → Addr} {W : WX} {ex : Ex} {g : Gh} {I H I' H' : Hp} {s : S4} {σ : L2.St} {v : V} {x : Fv}
theorem WalksD.item {J : It} {I1 : Hp} {ds : List PV} {i : Nat} {x : V} {d : PV} (w : WalksD K ca J I ds) (S : Same I I1) (G : Good K ca ex g I1 H s σ) (e : ds[i]? = some d) (y : J.yld i H x H') :
    ∃ I2, Same I1 I2 ∧ Good K ca ex g I2 H' s σ ∧ Dv K ca I2 x d ∧ Lf No I1 H I2 H' := by
  rcases w.yields i H x H' d (S.trans G.sub) e y with ⟨rfl, h⟩ | ⟨T, vs, es, rfl, hT, rfl, h, rfl⟩
  · exact ⟨I1, Same.refl _, G, h.up S, Lf.refl G.sub⟩
  · have f : Lf No I1 H (upd I1 T (.tup vs)) (upd H T (.tup vs)) := Lf.put G.sub hT
    exact ⟨_, f.ext, G.stepNo f, .tup upd_same ((h.up S).up f.ext), f⟩
theorem rs_for {wi : TI} {tg : TG} {tb : TS} {src : M (List PV)} {Ft : Fv → M Unit} {Fb : M Fl} (hi : Ri K ca W ex wi src) (hg : Rg K ca W ex tg Ft) (hb : Rs K ca W ex tb Fb) : Rs K ca W ex (tFor wi tg tb) (forM src Ft Fb) := by
  intro D σ H g I s G w
  refine hi σ H _ g I s G (wpM_mono (wpM_bind.mp w) (fun ds s1 z => ?_) fun _ _ z => kX_of z)
  intro I' H' J S G' wk
  refine ⟨fun i m σ H => m = ds.length - i ∧ i ≤ ds.length ∧ ∃ I1 s1, Same I' I1 ∧ Good K ca ex g I1 H s1 σ ∧ wpM (forL Ft Fb (ds.drop i)) s1 (kS K ca ex g I1 D) (kXs K ca W ex g),
    ⟨ds.length, rfl, Nat.zero_le _, I', s1, Same.refl _, G', by rw [List.drop_zero]; exact wpM_mono z (fun _ _ z => kS_up S z) fun _ _ z => z⟩, ?_⟩
  rintro i m σ H ⟨rfl, hi, I1, s1, S1, G1, w1⟩
  by_cases hlt : i < ds.length
  · refine .inr ⟨wk.goes i H (S1.trans G1.sub) hlt, fun σ' H' => ∃ I2 s2, Same I' I2 ∧ Good K ca ex g I2 H' s2 σ' ∧ wpM (forL Ft Fb (ds.drop (i + 1))) s2 (kS K ca ex g I2 D) (kXs K ca W ex g), fun σ' H' h => ⟨ds.length - (i + 1), by omega, rfl, hlt, h⟩, fun x H' y => ?_⟩
    rw [List.drop_eq_getElem_cons hlt] at w1
    obtain ⟨I2, S2, G2, dv, _⟩ := wk.item S1 G1 (List.getElem?_eq_getElem hlt) y
    refine hg σ H' _ g I2 s1 x _ G2 (Vo.ofDv dv) (wpM_mono (wpM_bind.mp w1) (fun _ s2 z => ?_) fun _ _ z => z)
    intro I3 H3 σ3 S3 G3
    refine hb _ σ3 H3 g I3 s2 G3 (wpM_mono (wpM_bind.mp z) (fun o s4 z => ?_) fun _ _ z => z)
    have S13 := (S1.trans S2).trans S3
    have go : wpM (forL Ft Fb (ds.drop (i + 1))) s4 (kS K ca ex g I1 D) (kXs K ca W ex g) → ∀ I4 H4 σ4, Same I3 I4 → Good K ca ex g I4 H4 s4 σ4 → ∃ I2 s2, Same I' I2 ∧ Good K ca ex g I2 H4 s2 σ4 ∧ wpM (forL Ft Fb (ds.drop (i + 1))) s2 (kS K ca ex g I2 D) (kXs K ca W ex g) :=
      fun z I4 H4 σ4 S4 G4 => ⟨I4, s4, S13.trans S4, G4, wpM_mono z (fun _ _ z => kS_up ((S2.trans S3).trans S4) z) fun _ _ z => z⟩
    cases o with
    | nx => exact go z
    | ct => exact go z
    | bk => exact fun I4 H4 σ4 S4 G4 => z I4 H4 σ4 ((S2.trans S3).trans S4) G4
    | rt r => exact z
  · obtain rfl : i = ds.length := by omega
    rw [List.drop_length] at w1
    exact .inl ⟨wk.stops H (S1.trans G1.sub), w1 I1 H σ (Same.refl _) G1⟩
end
/-! ### while -/
def whileM (c : M Bool) (body : M Fl) : Nat → M Fl
  | 0 => M.stuck
  | k + 1 => c.bind fun b => if b then body.bind fun o => match o with
    | .nx => whileM c body k
    | .ct => whileM c body k
    | .bk => M.ret .nx
    | .rt r => M.ret (.rt r)
    else M.ret .nx
section
variable {K : PySem.W.Frag} {ca : Nat → Addr} {W : WX} {ex : Ex} {g : Gh} {I H I' H' : Hp} {s : S4} {σ : L2.St} {v : V} {x : Fv}
theorem rs_while {c : TT} {tb : TS} {fc : M Bool} {Fb : M Fl} {k : Nat} (hc : Rb K ca W ex c fc) (hb : Rs K ca W ex tb Fb) : Rs K ca W ex (tWhile c tb) (whileM fc Fb k) := by
  intro D σ H g I s G w
  refine ⟨fun m σ H => ∃ I1 s1, Good K ca ex g I1 H s1 σ ∧ wpM (whileM fc Fb m) s1 (kS K ca ex g I1 D) (kXs K ca W ex g), ⟨k, I, s, G, w⟩, ?_⟩
  rintro m σ H ⟨I1, s1, G1, w1⟩
  cases m with
  | zero => exact w1.elim
  | succ m =>
    refine hc σ H _ g I1 s1 G1 (wpM_mono (wpM_bind.mp w1) (fun b s2 z => ?_) fun _ _ z => kX_of z)
    intro I2 H2 S2 G2
    cases b with
    | false =>
      rw [if_neg Bool.false_ne_true]
      exact z I2 H2 σ S2 G2
    | true =>
      rw [if_pos rfl]
      refine ⟨fun σ' H' => ∃ I1 s1, Good K ca ex g I1 H' s1 σ' ∧ wpM (whileM fc Fb m) s1 (kS K ca ex g I1 D) (kXs K ca W ex g), fun σ' H' h => ⟨m, Nat.lt_succ_self m, h⟩, ?_⟩
      refine hb _ σ H2 g I2 s2 G2 (wpM_mono (wpM_bind.mp z) (fun o s3 z => ?_) fun _ _ z => z)
      have go : wpM (whileM fc Fb m) s3 (kS K ca ex g I1 D) (kXs K ca W ex g) → ∀ I4 H4 σ4, Same I2 I4 → Good K ca ex g I4 H4 s3 σ4 → ∃ I1 s1, Good K ca ex g I1 H4 s1 σ4 ∧ wpM (whileM fc Fb m) s1 (kS K ca ex g I1 D) (kXs K ca W ex g) :=
        fun z I4 H4 σ4 S4 G4 => ⟨I4, s3, G4, wpM_mono z (fun _ _ z => kS_up (S2.trans S4) z) fun _ _ z => z⟩
      cases o with
      | nx => exact go z
      | ct => exact go z
      | bk => exact fun I4 H4 σ4 S4 G4 => z I4 H4 σ4 (S2.trans S4) G4
      | rt r => exact z
end
/-! ### comprehensions -/
def wipeS (s : S4) : List Nat → S4
  | [] => s
  | v :: vs => (wipeS s vs).set v .no
def lcL (vs : List Nat) (tg : Fv → M Unit) (test : M Bool) (elt : M Fv) : List PV → List PV → M (List PV)
  | [], acc => M.ret acc
  | d :: ds, acc => (tg (.fz d)).bind fun _ => test.bind fun b => if b then (setl elt).bind fun x => (frzD x).bind fun e => fun s => .need (acc.length < 16777216) (lcL vs tg test elt ds (acc ++ [e]) (wipeS s vs))
    else fun s => lcL vs tg test elt ds acc (wipeS s vs)
def noX {α : Type} (m : M α) : M α := fun s => (m s).bind fun o => match o with
  | .val a s' => .ret (.val a s')
  | .exc _ _ => .stuck
def lcM (vs : List Nat) (src : M (List PV)) (tg : Fv → M Unit) (test : M Bool) (elt : M Fv) : M Fv := src.bind fun ds => fun s => (noX (lcL vs tg test elt ds [])).bind (fun acc => M.ret (.ow acc)) (wipeS s vs)
/-- a target that touches the names vs alone -/
def Rgv (K : PySem.W.Frag) (ca : Nat → Addr) (W : WX) (ex : Ex) (vs : List Nat) (t : TG) (F : Fv → M Unit) : Prop := ∀ (σ : L2.St) (H : Hp) (Q : L2.St → Hp → Prop) (g : Gh) (I : Hp) (s : S4) (v : V) (x : Fv), Good K ca ex g I H s σ → Vo K ca g I H s σ v x →
  wpM (F x) s (fun _ s' => ∀ I' H' σ', Same I I' → Good K ca ex g I' H' s' σ' → wipe σ' vs = wipe σ vs → Q σ' H') (kXs K ca W ex g) → t v σ H Q
section
variable {K : PySem.W.Frag} {ca : Nat → Addr} {W : WX} {ex : Ex} {g : Gh} {I H I' H' : Hp} {s : S4} {σ : L2.St} {v : V} {x : Fv}
theorem Good.wipe (G : Good K ca ex g I H s σ) : ∀ vs : List Nat, Good K ca ex g I H (wipeS s vs) (L2.wipe σ vs)
  | [] => G
  | v :: vs => (Good.wipe G vs).setNo v
theorem wipeS_len (s : S4) : ∀ vs : List Nat, (wipeS s vs).length = s.length
  | [] => rfl
  | v :: vs => by
    show ((wipeS s vs).set v .no).length = _
    rw [List.length_set, wipeS_len s vs]
theorem wipeS_mem {s : S4} {i : Nat} : ∀ {vs : List Nat}, i ∈ vs → ∀ x, (wipeS s vs)[i]? = some x → x = .no
  | v :: vs, h, x, e => by
    rcases get_set (show ((wipeS s vs).set v .no)[i]? = some x from e) with ⟨_, z⟩ | ⟨n, e⟩
    · exact z
    · rcases List.mem_cons.mp h with h | h
      · exact absurd h n
      · exact wipeS_mem h x e
theorem wipe_not {σ : L2.St} {i : Nat} : ∀ {vs : List Nat}, i ∉ vs → (L2.wipe σ vs)[i]? = σ[i]?
  | [], _ => rfl
  | v :: vs, h => by
    show ((L2.wipe σ vs).set v none)[i]? = _
    rw [List.getElem?_set_ne (fun z => h (by rw [z]; exact List.mem_cons_self))]
    exact wipe_not fun z => h (List.mem_cons_of_mem _ z)
/-- behind a comprehension: its own names are not known -/
theorem Good.unwipe {vs : List Nat} (G : Good K ca ex g I H (wipeS s vs) (L2.wipe σ vs)) : Good K ca ex g I H (wipeS s vs) σ where
  s0 := G.s0
  im := G.im
  lf := G.lf
  hd := G.hd
  len := by rw [G.len, L2.wipe_length]
  at' := fun i x v e1 e2 => by
    by_cases hi : i ∈ vs
    · rw [wipeS_mem hi x e1]; trivial
    · exact G.at' i x v e1 (by rw [wipe_not hi]; exact e2)
  sep := fun i j x y p e1 e2 o1 o2 e3 e4 => by
    have ni : i ∉ vs := fun h => by have := wipeS_mem h _ e1; rw [this] at o1; cases o1
    have nj : j ∉ vs := fun h => by have := wipeS_mem h _ e2; rw [this] at o2; cases o2
    exact G.sep i j x y p e1 e2 o1 o2 (by rw [wipe_not ni]; exact e3) (by rw [wipe_not nj]; exact e4)
  res := fun q hq => by
    obtain ⟨h1, h2, h3, h4, h5⟩ := G.res q hq
    refine ⟨h1, h2, h3, h4, fun i x e1 o1 e2 => ?_⟩
    have ni : i ∉ vs := fun h => by have := wipeS_mem h _ e1; rw [this] at o1; cases o1
    exact h5 i x e1 o1 (by rw [wipe_not ni]; exact e2)
theorem wipe_set {σ : L2.St} {i : Nat} {y : Option V} : ∀ {vs : List Nat}, i ∈ vs → L2.wipe (σ.set i y) vs = L2.wipe σ vs
  | v :: vs, h => by
    show (L2.wipe (σ.set i y) vs).set v none = (L2.wipe σ vs).set v none
    by_cases hi : i ∈ vs
    · rw [wipe_set hi]
    · have hv : i = v := (List.mem_cons.mp h).resolve_right hi
      subst hv
      have key : ∀ {ws : List Nat} {σ : L2.St}, i ∉ ws → L2.wipe (σ.set i y) ws = (L2.wipe σ ws).set i y := by
        intro ws
        induction ws with
        | nil => intro σ _; rfl
        | cons w ws ih =>
          intro σ hn
          have h1 : i ≠ w := fun z => hn (by rw [z]; exact List.mem_cons_self)
          show (L2.wipe (σ.set i y) ws).set w none = ((L2.wipe σ ws).set w none).set i y
          rw [ih fun z => hn (List.mem_cons_of_mem _ z), List.set_comm _ _ h1]
      rw [key hi, List.set_set]
theorem rgv_name {vs : List Nat} {i : Nat} (h : i ∈ vs) : Rgv K ca W ex vs (gName i) (setM i) := by
  intro σ H Q g I s v x G V w
  cases x with
  | fz d => exact w I H _ (Same.refl I) (G.setFz i V) (wipe_set h)
  | ow xs =>
    obtain ⟨p, vs, rfl, h1, h2, h3, h4, h5, h6⟩ := V
    exact w I H _ (Same.refl I) (G.setOw i h1 h2 h3 h4 h5 h6.1 h6.2) (wipe_set h)
  | nd d =>
    obtain ⟨p, o, rfl, h1, h2, h3, h4, h5, h6⟩ := V
    exact w I H _ (Same.refl I) (G.setO i ⟨p, o, rfl, h1, h2, h3, h4, h5⟩ h6.1 h6.2) (wipe_set h)
  | bw j =>
    obtain ⟨d, I1, s1, S1, G1, hd, q⟩ := frz_ok G V (wpM_bind.mp w)
    exact q I1 H _ S1 (G1.setFz i hd) (wipe_set h)
def Rgvs (K : PySem.W.Frag) (ca : Nat → Addr) (W : WX) (ex : Ex) (ws : List Nat) (n : Nat) (t : TGs) (fs : List (Fv → M Unit)) : Prop := ∀ (σ : L2.St) (H : Hp) (Q : L2.St → Hp → Prop) (g : Gh) (I : Hp) (s : S4) (vs : List V) (ds : List PV),
  Good K ca ex g I H s σ → DvA K ca I vs ds → wpM (tgsM fs ds) s (fun _ s' => ∀ I' H' σ', Same I I' → Good K ca ex g I' H' s' σ' → wipe σ' ws = wipe σ ws → Q σ' H') (kXs K ca W ex g) → t vs σ H Q
theorem rgvs_nil {ws : List Nat} : Rgvs K ca W ex ws 0 gNil [] := by
  intro σ H Q g I s vs ds G d w
  cases d with
  | nil => exact ⟨rfl, w I H σ (Same.refl I) G rfl⟩
  | cons _ _ => exact w.elim
theorem rgvs_cons {ws : List Nat} {n : Nat} {t : TG} {u : TGs} {f : Fv → M Unit} {fs : List (Fv → M Unit)} (ht : Rgv K ca W ex ws t f) (hu : Rgvs K ca W ex ws n u fs) : Rgvs K ca W ex ws (n + 1) (gCons t u) (f :: fs) := by
  intro σ H Q g I s vs ds G d w
  cases d with
  | nil => exact w.elim
  | cons h t' =>
    refine ⟨_, _, rfl, ht σ H _ g I s _ _ G (Vo.ofDv h) (wpM_mono (wpM_bind.mp w) (fun _ s1 z => ?_) fun _ _ z => z)⟩
    exact fun I1 H1 σ1 S1 G1 e1 => hu σ1 H1 Q g I1 s1 _ _ G1 (t'.up S1) (wpM_mono z (fun _ s2 z2 => fun I2 H2 σ2 S2 G2 e2 => z2 I2 H2 σ2 (S1.trans S2) G2 (e2.trans e1)) fun _ _ z => z)
theorem rgv_tup {ws : List Nat} {n : Nat} {t : TGs} {fs : List (Fv → M Unit)} (ht : Rgvs K ca W ex ws n t fs) : Rgv K ca W ex ws (gTup K n t) (tupTg n fs) := by
  intro σ H Q g I s v x G V w
  obtain ⟨d, I1, s1, S1, G1, hd, q⟩ := frzD_ok G V (wpM_bind.mp w)
  cases d with
  | tup ds =>
    obtain ⟨a, xs, rfl, ha, hx⟩ := hd.tupRef
    obtain ⟨l, q⟩ := q
    refine ⟨a, xs, rfl, Same.seqT G1.sub ha, by rw [hx.length]; exact l, ?_⟩
    exact ht σ H Q g I1 s1 _ _ G1 hx (wpM_mono q (fun _ s2 z => fun I2 H2 σ2 S2 G2 e => z I2 H2 σ2 (S1.trans S2) G2 e) fun _ _ z => z)
  | _ => exact q.elim
theorem Good.unres {q : Addr × List V} (G : Good K ca ex { g with rs := q :: g.rs } I H s σ) : Good K ca ex g I H s σ :=
  ⟨G.s0, G.im, G.lf, G.hd, G.len, fun i x v e1 e2 => by
    have z := G.at' i x v e1 e2
    cases x <;> exact z, G.sep, fun r hr => G.res r (List.mem_cons_of_mem _ hr)⟩
theorem Good.addRes {p : Addr} {o : List V} (G : Good K ca ex g I H s σ) (n : I p = none) (h0 : g.H0 p = none) (ne : g.h ≠ some p) (e : H p = some (.lst o)) (off : ∀ (i : Nat) (x : Sl), s[i]? = some x → x.isO = true → σ[i]? ≠ some (some (.ref p))) :
    Good K ca ex { g with rs := (p, o) :: g.rs } I H s σ :=
  ⟨G.s0, G.im, G.lf, G.hd, G.len, fun i x v e1 e2 => by
    have z := G.at' i x v e1 e2
    cases x <;> exact z, G.sep, fun r hr => by
    rcases List.mem_cons.mp hr with rfl | hr
    · exact ⟨n, h0, ne, e, off⟩
    · exact G.res r hr⟩
theorem wpM_noX {α : Type} {m : M α} {s : S4} {Q : α → S4 → Prop} {X : Xc → S4 → Prop} : wpM (noX m) s Q X ↔ wpM m s Q fun _ _ => False := by
  unfold wpM noX
  rw [wp_bind]
  constructor
  · exact fun h => wp_mono h fun r z => by cases r <;> exact z
  · exact fun h => wp_mono h fun r z => by cases r <;> exact z
theorem wipe_idem {σ : L2.St} : ∀ {vs : List Nat}, L2.wipe (L2.wipe σ vs) vs = L2.wipe σ vs := by
  intro vs
  have key : ∀ ws : List Nat, (∀ w ∈ ws, w ∈ vs) → L2.wipe (L2.wipe σ vs) ws = L2.wipe σ vs := by
    intro ws
    induction ws with
    | nil => intro _; rfl
    | cons w ws ih =>
      intro h
      show (L2.wipe (L2.wipe σ vs) ws).set w none = _
      rw [ih fun x hx => h x (List.mem_cons_of_mem _ hx)]
      have hw := h w List.mem_cons_self
      have wn : ∀ {us : List Nat}, w ∈ us → (L2.wipe σ us).set w none = L2.wipe σ us := by
        intro us
        induction us with
        | nil => intro h; cases h
        | cons u us ih2 =>
          intro hu
          show ((L2.wipe σ us).set u none).set w none = (L2.wipe σ us).set u none
          by_cases e : w = u
          · rw [e, List.set_set]
          · rw [List.set_comm _ _ (fun z => e z.symm), ih2 ((List.mem_cons.mp hu).resolve_left e)]
      exact wn hw
  exact key vs fun _ h => h
theorem r_lc {wi : TI} {tg : TG} {tt : TT} {te : TE} {vs : List Nat} {src : M (List PV)} {Ft : Fv → M Unit} {Fc : M Bool} {Fe : M Fv} (hi : Ri K ca W ex wi src) (hg : Rgv K ca (fun _ _ _ _ => False) ex vs tg Ft)
    (ht : Rb K ca (fun _ _ _ _ => False) ex tt Fc) (he : Rt K ca (fun _ _ _ _ => False) ex te Fe) : Rt K ca W ex (tLc wi tg tt te vs) (lcM vs src Ft Fc Fe) := by
  intro σ H Q g I s G w
  refine hi σ H _ g I s G (wpM_mono (wpM_bind.mp w) (fun ds s1 z => ?_) fun _ _ z => z)
  intro I' H' J S G' wk D hD
  have z1 : wpM ((noX (lcL vs Ft Fc Fe ds [])).bind (fun acc => M.ret (.ow acc))) (wipeS s1 vs) (kE K ca ex g I σ Q) (kX K ca W ex g σ) := z
  have z2 := wpM_noX.mp (wpM_bind.mp z1)
  obtain ⟨h0, ne, off, offr⟩ := G'.new hD
  have line : sizeLine = 16777216 := sizeLine_eq
  have fX : ∀ {g' : Gh} {σ' : L2.St} {x : Xc} {s' : S4}, (fun (_ : Xc) (_ : S4) => False) x s' → kXs K ca (fun _ _ _ _ => False) ex g' x s' := fun h => h.elim
  have fX2 : ∀ {g' : Gh} {σ' : L2.St} {x : Xc} {s' : S4}, (fun (_ : Xc) (_ : S4) => False) x s' → kX K ca (fun _ _ _ _ => False) ex g' σ' x s' := fun h => h.elim
  refine ⟨fun i m H => m = ds.length - i ∧ i ≤ ds.length ∧ ∃ I1 s1 acc vs', Same I' I1 ∧ Good K ca ex { g with rs := (D, vs') :: g.rs } I1 H (wipeS s1 vs) (L2.wipe σ vs) ∧ DvA K ca I1 vs' acc ∧
      wpM (lcL vs Ft Fc Fe (ds.drop i) acc) (wipeS s1 vs) (fun acc s' => kE K ca ex g I σ Q (.ow acc) s') (fun _ _ => False), ⟨ds.length, rfl, Nat.zero_le _, I', s1, [], [], Same.refl _, ?_, .nil, by rw [List.drop_zero]; exact z2⟩, ?_⟩
  · have f : Lf No I' H' I' (upd H' D (.lst [])) := Lf.alloc G'.sub hD
    refine Good.addRes ((G'.stepNo f).wipe vs) (Same.sub G'.sub hD) h0 ne upd_same fun i x e1 o1 e2 => ?_
    have ni : i ∉ vs := fun h => by have := wipeS_mem h _ e1; rw [this] at o1; cases o1
    rw [wipe_not ni] at e2
    have e1' : s1[i]? = some x := by
      have key : ∀ {ws : List Nat}, i ∉ ws → (wipeS s1 ws)[i]? = s1[i]? := by
        intro ws
        induction ws with
        | nil => intro _; rfl
        | cons w ws ih =>
          intro h
          show ((wipeS s1 ws).set w .no)[i]? = _
          rw [List.getElem?_set_ne (fun z => h (by rw [z]; exact List.mem_cons_self))]
          exact ih fun z => h (List.mem_cons_of_mem _ z)
      rw [← key ni]; exact e1
    exact off i x e1' o1 e2
  · rintro i m H ⟨rfl, hi, I1, s2, acc, vs', S1, G1, da, w1⟩
    have r1 := G1.res _ List.mem_cons_self
    by_cases hlt : i < ds.length
    · refine .inr ⟨wk.goes i H (S1.trans G1.sub) hlt, fun H => ∃ I1 s1 acc vs', Same I' I1 ∧ Good K ca ex { g with rs := (D, vs') :: g.rs } I1 H (wipeS s1 vs) (L2.wipe σ vs) ∧ DvA K ca I1 vs' acc ∧
        wpM (lcL vs Ft Fc Fe (ds.drop (i + 1)) acc) (wipeS s1 vs) (fun acc s' => kE K ca ex g I σ Q (.ow acc) s') (fun _ _ => False), fun H' h => ⟨ds.length - (i + 1), by omega, rfl, hlt, h⟩, fun x H2 y => ?_⟩
      rw [List.drop_eq_getElem_cons hlt] at w1
      obtain ⟨I2, S2, G2, dv, _⟩ := wk.item S1 G1 (List.getElem?_eq_getElem hlt) y
      refine hg _ H2 _ _ I2 _ x _ G2 (Vo.ofDv dv) (wpM_mono (wpM_bind.mp w1) (fun _ s3 z => ?_) fun _ _ z => z.elim)
      intro I3 H3 σ3 S3 G3 ew
      have ew' : L2.wipe σ3 vs = L2.wipe σ vs := ew.trans wipe_idem
      refine ⟨ew', ht σ3 H3 _ _ I3 s3 G3 (wpM_mono (wpM_bind.mp z) (fun b s4 z => ?_) fun _ _ z => z.elim)⟩
      intro I4 H4 S4 G4
      have SS := ((S1.trans S2).trans S3).trans S4
      cases b with
      | false =>
        rw [if_neg Bool.false_ne_true]
        exact ⟨I4, s4, acc, vs', SS, by rw [← ew']; exact G4.wipe vs, da.up ((S2.trans S3).trans S4), z⟩
      | true =>
        rw [if_pos rfl]
        refine run_setlX he G4 (fun _ _ z => z.elim) z fun x5 s5 I5 H5 y5 S5 G5 V5 z5 => ?_
        obtain ⟨e, I6, s6, S6, G6, de, z6⟩ := frzD_ok G5 V5.vo (wpM_bind.mp z5)
        obtain ⟨l6, z7⟩ := z6
        obtain ⟨q1, q2, q3, q4, q5⟩ := G6.res _ List.mem_cons_self
        have G7 := G6.unres.making (o := .lst (vs' ++ [y5])) q1 q2 q3 q4 q5 offr
        refine ⟨vs', q4, by rw [da.length, line]; exact l6, I6, s6, acc ++ [e], vs' ++ [y5], (SS.trans S5).trans S6, ?_, DvA.append (da.up ((((S2.trans S3).trans S4).trans S5).trans S6)) (.cons de .nil), ?_⟩
        · rw [← ew']
          exact (G7.addRes q1 q2 q3 upd_same q5).wipe vs
        · exact wpM_mono z7 (fun _ _ z => z) (fun _ _ z => z)
    · obtain rfl : i = ds.length := by omega
      rw [List.drop_length] at w1
      refine .inl ⟨wk.stops H (S1.trans G1.sub), ?_⟩
      obtain ⟨q1, q2, q3, q4, q5⟩ := r1
      refine w1 I1 H (.ref D) (S.trans S1) G1.unres.unwipe ⟨D, vs', rfl, q1, q2, q3, q4, da, fun i y e1 o1 e2 => ?_, offr⟩
      have ni : i ∉ vs := fun h => by have := wipeS_mem h _ e1; rw [this] at o1; cases o1
      exact q5 i y e1 o1 (by rw [wipe_not ni]; exact e2)
end
end L4
/-! The pure layer, part 5: operators, built-in calls, what is walked, methods of lists, draws, errors. -/
namespace L4
open PySem PySem.Spec PyProof.Rows L2 L3

/-! ### data as the library's plain data -/
mutual
def PV.pd : PV → PyData
  | .non => .none
  | .bl b => .bool b
  | .int i => .int i
  | .str s => .str s
  | .tup xs => .tuple (pdA xs)
  | .lst xs => .list (pdA xs)
  | .ins _ _ => .none
  | .dK _ _ => .dict []
  | .dT _ _ => .dict []
  | .hand => .none
  | .ty _ => .none
  | .cls _ => .none
def pdA : List PV → List PyData
  | [] => []
  | x :: xs => x.pd :: pdA xs
end
mutual
/-- plain data: no instances, strings that can be laid -/
def PV.plain : PV → Bool
  | .non => true
  | .bl _ => true
  | .int _ => true
  | .str s => PySem.PyData.strOk s
  | .tup xs => plainA xs
  | .lst xs => plainA xs
  | _ => false
def plainA : List PV → Bool
  | [] => true
  | x :: xs => x.plain && plainA xs
end
mutual
def PV.deep : PV → Nat
  | .tup xs => deepA xs + 1
  | .lst xs => deepA xs + 1
  | _ => 0
def deepA : List PV → Nat
  | [] => 0
  | x :: xs => max x.deep (deepA xs)
end
mutual
def PV.eqv : PV → PV → Bool
  | .non, .non => true
  | .bl a, .bl b => a == b
  | .bl a, .int j => (if a then 1 else 0) == j
  | .int i, .bl b => i == (if b then 1 else 0)
  | .int i, .int j => i == j
  | .str x, .str y => x == y
  | .lst xs, .lst ys => eqvA xs ys
  | .tup xs, .tup ys => eqvA xs ys
  | _, _ => false
def eqvA : List PV → List PV → Bool
  | [], [] => true
  | x :: xs, y :: ys => PV.eqv x y && eqvA xs ys
  | _, _ => false
end
def okD (d : PV) : Prop := d.plain = true ∧ d.deep ≤ 64
section
variable {K : PySem.W.Frag} {ca : Nat → Addr} {W : WX} {ex : Ex} {g : Gh} {I H I' H' : Hp} {s : S4} {σ : L2.St} {v : V} {x : Fv}
mutual
theorem pd_lay : ∀ d : PV, d.plain = true → d.pd.canLay0 = true
  | .non, _ => rfl
  | .bl _, _ => rfl
  | .int _, _ => rfl
  | .str s, h => h
  | .tup xs, h => pd_layA xs h
  | .lst xs, h => pd_layA xs h
  | .ins _ _, h => by cases h
  | .dK _ _, h => by cases h
  | .dT _ _, h => by cases h
  | .hand, h => by cases h
  | .ty _, h => by cases h
  | .cls _, h => by cases h
theorem pd_layA : ∀ ds : List PV, plainA ds = true → PyData.canLayAll0 (pdA ds) = true
  | [], _ => rfl
  | d :: ds, h => by
    have h' := (Bool.and_eq_true_iff.mp (show (d.plain && plainA ds) = true from h))
    show (d.pd.canLay0 && PyData.canLayAll0 (pdA ds)) = true
    rw [pd_lay d h'.1, pd_layA ds h'.2]
    rfl
end
mutual
theorem pd_depth : ∀ d : PV, d.plain = true → d.pd.depth = d.deep
  | .non, _ => rfl
  | .bl _, _ => rfl
  | .int _, _ => rfl
  | .str s, h => rfl
  | .tup xs, h => by show PyData.depthAll (pdA xs) + 1 = deepA xs + 1; rw [pd_depthA xs h]
  | .lst xs, h => by show PyData.depthAll (pdA xs) + 1 = deepA xs + 1; rw [pd_depthA xs h]
  | .ins _ _, h => by cases h
  | .dK _ _, h => by cases h
  | .dT _ _, h => by cases h
  | .hand, h => by cases h
  | .ty _, h => by cases h
  | .cls _, h => by cases h
theorem pd_depthA : ∀ ds : List PV, plainA ds = true → PyData.depthAll (pdA ds) = deepA ds
  | [], _ => rfl
  | d :: ds, h => by
    have h' := (Bool.and_eq_true_iff.mp (show (d.plain && plainA ds) = true from h))
    show max d.pd.depth (PyData.depthAll (pdA ds)) = max d.deep (deepA ds)
    rw [pd_depth d h'.1, pd_depthA ds h'.2]
end
mutual
theorem pd_eqv : ∀ d e : PV, d.plain = true → e.plain = true → PyData.eqv d.pd e.pd = PV.eqv d e
  | .tup xs, .tup ys, h, k => pd_eqvA xs ys h k
  | .lst xs, .lst ys, h, k => pd_eqvA xs ys h k
  | .non, e, _, k => by cases e <;> first | rfl | cases k
  | .bl a, e, _, k => by cases e <;> first | rfl | cases k
  | .int a, e, _, k => by cases e <;> first | rfl | cases k
  | .str a, e, _, k => by cases e <;> first | rfl | cases k
  | .tup xs, .non, _, _ => rfl
  | .tup xs, .bl _, _, _ => rfl
  | .tup xs, .int _, _, _ => rfl
  | .tup xs, .str _, _, _ => rfl
  | .tup xs, .lst _, _, _ => rfl
  | .tup xs, .ins _ _, _, k => by cases k
  | .tup xs, .dK _ _, _, k => by cases k
  | .tup xs, .dT _ _, _, k => by cases k
  | .tup xs, .hand, _, k => by cases k
  | .tup xs, .ty _, _, k => by cases k
  | .tup xs, .cls _, _, k => by cases k
  | .lst xs, .non, _, _ => rfl
  | .lst xs, .bl _, _, _ => rfl
  | .lst xs, .int _, _, _ => rfl
  | .lst xs, .str _, _, _ => rfl
  | .lst xs, .tup _, _, _ => rfl
  | .lst xs, .ins _ _, _, k => by cases k
  | .lst xs, .dK _ _, _, k => by cases k
  | .lst xs, .dT _ _, _, k => by cases k
  | .lst xs, .hand, _, k => by cases k
  | .lst xs, .ty _, _, k => by cases k
  | .lst xs, .cls _, _, k => by cases k
  | .ins _ _, _, h, _ => by cases h
  | .dK _ _, _, h, _ => by cases h
  | .dT _ _, _, h, _ => by cases h
  | .hand, _, h, _ => by cases h
  | .ty _, _, h, _ => by cases h
  | .cls _, _, h, _ => by cases h
theorem pd_eqvA : ∀ ds es : List PV, plainA ds = true → plainA es = true → PyData.eqvAll (pdA ds) (pdA es) = eqvA ds es
  | [], [], _, _ => rfl
  | [], _ :: _, _, _ => rfl
  | _ :: _, [], _, _ => rfl
  | d :: ds, e :: es, h, k => by
    have h' := (Bool.and_eq_true_iff.mp (show (d.plain && plainA ds) = true from h))
    have k' := (Bool.and_eq_true_iff.mp (show (e.plain && plainA es) = true from k))
    show (PyData.eqv d.pd e.pd && PyData.eqvAll (pdA ds) (pdA es)) = (PV.eqv d e && eqvA ds es)
    rw [pd_eqv d e h'.1 k'.1, pd_eqvA ds es h'.2 k'.2]
end
theorem okD.shaped {d : PV} (h : okD d) : SeqAt.shaped d.pd = true := by
  unfold SeqAt.shaped
  rw [pd_lay d h.1, pd_depth d h.1, decide_eq_true h.2]
  rfl
mutual
theorem dv_dp : ∀ (d : PV) (v : V), d.plain = true → Dv K ca H v d → Dp K H v d.pd
  | .non, _, _, .non => .non
  | .bl _, _, _, .bl b => .bl b
  | .int _, _, _, .int i => .int i
  | .str _, _, _, .str x => .str x
  | .tup ds, _, h, .tup q r => .tup (ofT q) (dv_dpA ds _ h r)
  | .lst ds, _, h, .lst q r => .lst (ofL q) (dv_dpA ds _ h r)
  | .ins _ _, _, h, _ => by cases h
  | .dK _ _, _, h, _ => by cases h
  | .dT _ _, _, h, _ => by cases h
  | .hand, _, h, _ => by cases h
  | .ty _, _, h, _ => by cases h
  | .cls _, _, h, _ => by cases h
theorem dv_dpA : ∀ (ds : List PV) (vs : List V), plainA ds = true → DvA K ca H vs ds → DpAll K H vs (pdA ds)
  | [], _, _, .nil => .nil
  | d :: ds, _, h, .cons q r => by
    have h' := (Bool.and_eq_true_iff.mp (show (d.plain && plainA ds) = true from h))
    exact .cons (dv_dp d _ h'.1 q) (dv_dpA ds _ h'.2 r)
end
end

/-! ### operators -/
section
variable {X : Cx} {K : PySem.W.Frag} {ca : Nat → Addr} {I H : Hp} {x y : V} {d e : PV} {Q : VK}
theorem kO_fz {c : PV} {v : V} (S : Same I H) (k : kO K ca I H Q (.fz c)) (h : Dv K ca I v c) : Q v H := k I H v (Lf.refl S) h
theorem kO_int {n : Int} (S : Same I H) (k : kO K ca I H Q (.fz (.int n))) : Q (.int n) H := kO_fz S k (.int n)
theorem kO_bl {n : Bool} (S : Same I H) (k : kO K ca I H Q (.fz (.bl n))) : Q (.bl n) H := kO_fz S k (.bl n)
theorem kO_new {vs : List V} {ds : List PV} {p : Addr} (S : Same I H) (k : kO K ca I H Q (.ow ds)) (h : DvA K ca I vs ds) (hp : H p = none) : Q (.ref p) (upd H p (.lst vs)) :=
  k I _ p vs (Lf.alloc S hp) hp (Same.sub S hp) upd_same h
theorem kO_tup {vs : List V} {ds : List PV} {p : Addr} (S : Same I H) (k : kO K ca I H Q (.fz (.tup ds))) (h : DvA K ca I vs ds) (hp : H p = none) : Q (.ref p) (upd H p (.tup vs)) := by
  have f : Lf No I H (upd I p (.tup vs)) (upd H p (.tup vs)) := Lf.put S hp
  exact k _ _ _ f (.tup upd_same (h.up f.ext))
theorem Vw.int {n : Int} (h : Vw K ca I H x (.int n)) : x = .int n := vw_int h
theorem Vw.str {n : Str} (h : Vw K ca I H x (.str n)) : x = .str n := by
  cases h with
  | s h => cases h; rfl
  | d _ _ h => cases h
theorem Vw.bl {n : Bool} (h : Vw K ca I H x (.bl n)) : x = .bl n := vw_bl h
theorem Vw.non (h : Vw K ca I H x .non) : x = .non := by
  cases h with
  | s h => cases h; rfl
  | d _ _ h => cases h
theorem Vw.dvT {ds : List PV} (h : Vw K ca I H x (.tup ds)) : Dv K ca I x (.tup ds) := by
  cases h with
  | s h => exact h
  | d _ _ h => cases h
theorem Vw.tup {ds : List PV} (S : Same I H) (h : Vw K ca I H x (.tup ds)) : ∃ a xs, x = .ref a ∧ SqT K H a xs ∧ DvA K ca I xs ds := by
  obtain ⟨a, xs, rfl, h1, h2⟩ := h.dvT.tupRef
  exact ⟨a, xs, rfl, Same.seqT S h1, h2⟩
theorem Vw.lst {ds : List PV} (S : Same I H) (h : Vw K ca I H x (.lst ds)) : ∃ a xs, x = .ref a ∧ H a = some (.lst xs) ∧ DvA K ca I xs ds := by
  cases h with
  | s h =>
    obtain ⟨a, xs, rfl, h1, h2⟩ := h.lstRef
    exact ⟨a, xs, rfl, S _ _ h1, h2⟩
  | l _ h1 h2 => exact ⟨_, _, rfl, h1, h2⟩
  | d _ _ h => cases h
/-- of two ints -/
def p2I (f : Int → Int → PV) (d e : PV) : T Rv := match d, e with
  | .int i, .int j => .ret (.fz (f i j))
  | _, _ => .stuck
def p2C (C : Int → Int → Prop) (f : Int → Int → PV) (d e : PV) : T Rv := match d, e with
  | .int i, .int j => .need (C i j) (.ret (.fz (f i j)))
  | _, _ => .stuck
theorem o_rI0 {f : Int → Int → V} {f' : Int → Int → PV} (hf : ∀ i j I, Dv K ca I (f i j) (f' i j)) : OpOk K ca (rI0 f) (p2I f') := by
  intro I H x y d e Q S hx hy w
  cases d with
  | int i =>
    cases e with
    | int j => exact ⟨i, j, hx.int, hy.int, kO_fz S w (hf i j I)⟩
    | _ => exact w.elim
  | _ => exact w.elim
theorem o_rI {C : Int → Int → Prop} {f : Int → Int → V} {f' : Int → Int → PV} (hf : ∀ i j I, Dv K ca I (f i j) (f' i j)) : OpOk K ca (rI C f) (p2C C f') := by
  intro I H x y d e Q S hx hy w
  cases d with
  | int i =>
    cases e with
    | int j => exact ⟨i, j, hx.int, hy.int, w.1, kO_fz S w.2 (hf i j I)⟩
    | _ => exact w.elim
  | _ => exact w.elim
def subP := p2I fun i j => .int (i - j)
def ltP := p2I fun i j => .bl (decide (i < j))
def leP := p2I fun i j => .bl (decide (i ≤ j))
def gtP := p2I fun i j => .bl (decide (j < i))
def geP := p2I fun i j => .bl (decide (j ≤ i))
def fdivP := p2C CDiv fun i j => .int (i / j)
def modP := p2C (fun _ j => 0 < j) fun i j => .int (i % j)
def powP := p2C CPow fun i j => .int (i ^ j.toNat)
def shlP := p2C CPow fun i j => .int (i * 2 ^ j.toNat)
def shrP := p2C (fun _ j => 0 ≤ j) fun i j => .int (i / 2 ^ j.toNat)
def bandP := p2I fun i j => .int (Builtin.bitAnd i j)
def borP := p2I fun i j => .int (Builtin.bitOr i j)
def bxorP := p2I fun i j => .int (Builtin.bitXor i j)
/-- + -/
def rCatS : R2 := fun x y H Q => ∃ i j, x = .str i ∧ y = .str j ∧ i.length + j.length ≤ sizeLine ∧ Q (.str (i ++ j)) H
def rAddU (K : PySem.W.Frag) : R2 := fun x y H Q => rI0 (fun i j => .int (i + j)) x y H Q ∨ rCatA K x y H Q ∨ rCat x y H Q ∨ rCatS x y H Q
theorem op_addU (h : X.K = K) : OpR X (binaryOp .Add) (rAddU K) := by
  subst h
  intro pins s σ H x y v u Q I rx ry h
  rcases h with h | h | h | h
  · exact op_add pins s σ H x y v u Q I rx ry h
  · exact op_catA pins s σ H x y v u Q I rx ry h
  · exact op_cat pins s σ H x y v u Q I rx ry h
  · exact op_add_str pins s σ H x y v u Q I rx ry h
def addP (d e : PV) : T Rv := match d, e with
  | .int i, .int j => .ret (.fz (.int (i + j)))
  | .tup xs, .tup ys => .need (xs.length + ys.length ≤ 16777216) (.ret (.fz (.tup (xs ++ ys))))
  | .lst xs, .lst ys => .need (xs.length + ys.length ≤ 16777216) (.ret (.ow (xs ++ ys)))
  | .str a, .str b => .need (a.length + b.length ≤ 16777216) (.ret (.fz (.str (a ++ b))))
  | _, _ => .stuck
theorem o_add : OpOk K ca (rAddU K) addP := by
  intro I H x y d e Q S hx hy w
  have line : sizeLine = 16777216 := sizeLine_eq
  cases d with
  | int i =>
    cases e with
    | int j => exact .inl ⟨i, j, hx.int, hy.int, kO_int S w⟩
    | _ => exact w.elim
  | tup xs =>
    cases e with
    | tup ys =>
      obtain ⟨a, vs, rfl, ha, da⟩ := Vw.tup S hx
      obtain ⟨b, ws, rfl, hb, db⟩ := Vw.tup S hy
      have la := da.length
      have lb := db.length
      refine .inr (.inl ⟨a, b, vs, ws, rfl, rfl, ha, hb, by rw [la, lb, line]; exact w.1, fun e => ?_, fun _ e => ?_, fun _ _ p hp => kO_tup S w.2 (DvA.append da db) hp⟩)
      · subst e
        have e2 : xs = [] := List.length_eq_zero_iff.mp la.symm
        subst e2
        exact kO_fz S w.2 hy.dvT
      · subst e
        have e2 : ys = [] := List.length_eq_zero_iff.mp lb.symm
        subst e2
        exact kO_fz S w.2 (by rw [List.append_nil]; exact hx.dvT)
    | _ => exact w.elim
  | lst xs =>
    cases e with
    | lst ys =>
      obtain ⟨a, vs, rfl, ha, da⟩ := Vw.lst S hx
      obtain ⟨b, ws, rfl, hb, db⟩ := Vw.lst S hy
      exact .inr (.inr (.inl ⟨a, b, vs, ws, rfl, rfl, ha, hb, by rw [da.length, db.length, line]; exact w.1, fun p hp => kO_new S w.2 (DvA.append da db) hp⟩))
    | _ => exact w.elim
  | str a =>
    cases e with
    | str b => exact .inr (.inr (.inr ⟨a, b, hx.str, hy.str, by rw [line]; exact w.1, kO_fz S w.2 (.str _)⟩))
    | _ => exact w.elim
  | _ => exact w.elim
/-- * -/
def CMulU (i j : Int) : Prop := CMul i j ∨ CMulW i j
def rMulU : R2 := fun x y H Q => rI CMulU (fun i j => .int (i * j)) x y H Q ∨ rRep x y H Q
theorem op_mulU : OpR X (binaryOp .Mult) rMulU := by
  intro pins s σ H x y v u Q I rx ry h
  rcases h with ⟨i, j, rfl, rfl, c, q⟩ | h
  · rcases c with c | c
    · exact op_mul pins s σ H _ _ v u Q I rx ry ⟨i, j, rfl, rfl, c, q⟩
    · exact op_mulW pins s σ H _ _ v u Q I rx ry ⟨i, j, rfl, rfl, c, q⟩
  · exact op_rep pins s σ H x y v u Q I rx ry h
def mulP (d e : PV) : T Rv := match d, e with
  | .int i, .int j => .need (CMulU i j) (.ret (.fz (.int (i * j))))
  | .lst xs, .int k => .need (-(2 ^ 63) ≤ k ∧ k < 2 ^ 63 ∧ xs.length * k.toNat ≤ 16777216) (.ret (.ow (List.replicate k.toNat xs).flatten))
  | _, _ => .stuck
theorem DvA.rep {vs : List V} {ds : List PV} (h : DvA K ca I vs ds) : ∀ n : Nat, DvA K ca I (List.replicate n vs).flatten (List.replicate n ds).flatten
  | 0 => .nil
  | n + 1 => by
    rw [List.replicate_succ, List.replicate_succ, List.flatten_cons, List.flatten_cons]
    exact DvA.append h (DvA.rep h n)
theorem o_mul : OpOk K ca rMulU mulP := by
  intro I H x y d e Q S hx hy w
  have line : sizeLine = 16777216 := sizeLine_eq
  cases d with
  | int i =>
    cases e with
    | int j => exact .inl ⟨i, j, hx.int, hy.int, w.1, kO_int S w.2⟩
    | _ => exact w.elim
  | lst xs =>
    cases e with
    | int k =>
      obtain ⟨a, vs, rfl, ha, da⟩ := Vw.lst S hx
      exact .inr ⟨a, k, vs, rfl, hy.int, ha, w.1.1, w.1.2.1, by rw [da.length, line]; exact w.1.2.2, fun p hp => kO_new S w.2 (da.rep _) hp⟩
    | _ => exact w.elim
  | _ => exact w.elim
/-- == and != -/
def eqP (d e : PV) : T Rv := .need (okD d ∧ okD e) (.ret (.fz (.bl (PV.eqv d e))))
def neP (d e : PV) : T Rv := .need (okD d ∧ okD e) (.ret (.fz (.bl (!PV.eqv d e))))
theorem o_eq : OpOk K ca (rEqD K) eqP := by
  intro I H x y d e Q S hx hy w
  refine ⟨d.pd, e.pd, dv_dp d _ w.1.1.1 (hx.dv S), dv_dp e _ w.1.2.1 (hy.dv S), w.1.1.shaped, w.1.2.shaped, ?_⟩
  rw [pd_eqv d e w.1.1.1 w.1.2.1]
  exact kO_bl S w.2
theorem o_ne : OpOk K ca (rNeD K) neP := by
  intro I H x y d e Q S hx hy w
  refine ⟨d.pd, e.pd, dv_dp d _ w.1.1.1 (hx.dv S), dv_dp e _ w.1.2.1 (hy.dv S), w.1.1.shaped, w.1.2.shaped, ?_⟩
  rw [pd_eqv d e w.1.1.1 w.1.2.1]
  exact kO_bl S w.2
/-- is None, is True .. -/
def isNonD : PV → Bool
  | .non => true
  | _ => false
theorem vw_isNon (h : Vw K ca I H x d) : decide (x = .non) = isNonD d := by
  cases h with
  | s h => cases h <;> rfl
  | l _ _ _ => rfl
  | d _ _ h => cases h <;> rfl
def isNP (d e : PV) : T Rv := match e with
  | .non => .ret (.fz (.bl (isNonD d)))
  | _ => .stuck
def notNP (d e : PV) : T Rv := match e with
  | .non => .ret (.fz (.bl (!isNonD d)))
  | _ => .stuck
theorem o_isN : OpOk K ca rIsN' isNP := by
  intro I H x y d e Q S hx hy w
  cases e with
  | non => exact ⟨hy.non, by rw [vw_isNon hx]; exact kO_bl S w⟩
  | _ => exact w.elim
theorem o_notN : OpOk K ca rNotN' notNP := by
  intro I H x y d e Q S hx hy w
  cases e with
  | non => exact ⟨hy.non, by rw [vw_isNon hx]; exact kO_bl S w⟩
  | _ => exact w.elim
def isBlD (d : PV) (b : Bool) : Bool := match d with
  | .bl c => decide (c = b)
  | _ => false
theorem vw_isBl {b : Bool} (h : Vw K ca I H x d) : decide (x = .bl b) = isBlD d b := by
  cases h with
  | s h =>
    cases h with
    | bl c => simp [isBlD]
    | _ => rfl
  | l _ _ _ => rfl
  | d _ _ h => cases h <;> rfl
def isBP (d e : PV) : T Rv := match e with
  | .bl b => .ret (.fz (.bl (isBlD d b)))
  | _ => .stuck
theorem o_isB : OpOk K ca L3.rIsB isBP := by
  intro I H x y d e Q S hx hy w
  cases e with
  | bl b => exact ⟨b, hy.bl, by rw [vw_isBl hx]; exact kO_bl S w⟩
  | _ => exact w.elim
/-- - and ~ -/
def negP (d : PV) : T Rv := match d with
  | .int i => .ret (.fz (.int (-i)))
  | _ => .stuck
def invP (d : PV) : T Rv := match d with
  | .int i => .ret (.fz (.int (Builtin.bitNot i)))
  | _ => .stuck
theorem o_neg : UnOk K ca (rU fun i => .int (-i)) negP := by
  intro I H x d Q S hx w
  cases d with
  | int i => exact ⟨i, hx.int, kO_int S w⟩
  | _ => exact w.elim
theorem o_inv : UnOk K ca (rU fun i => .int (Builtin.bitNot i)) invP := by
  intro I H x d Q S hx w
  cases d with
  | int i => exact ⟨i, hx.int, kO_int S w⟩
  | _ => exact w.elim
/-- in, not in -/
def flatD : PV → Bool
  | .non => true
  | .bl _ => true
  | .int _ => true
  | .str _ => true
  | _ => false
def inD (d : PV) (xs : List PV) : Bool := xs.any fun z => PV.eqv z d
def rInDic : R2 := fun x y H Q => ∃ a o, y = .ref a ∧ DGet H a x o ∧ Q (.bl o.isSome) H
def rNinDic : R2 := fun x y H Q => ∃ a o, y = .ref a ∧ DGet H a x o ∧ Q (.bl (!o.isSome)) H
theorem op_inDic (hu : X.A.units + 1 < cLine) : OpR X (compareOp .In) rInDic := by
  intro pins s σ H x y v u Q I rx ry h
  obtain ⟨a, o, rfl, g, q⟩ := h
  cases ry
  exact d_in hu I g rx fun s3 I3 => ⟨.bl o.isSome, H, I3, rfl, q⟩
theorem op_ninDic (hu : X.A.units + 1 < cLine) : OpR X (compareOp .NotIn) rNinDic := by
  intro pins s σ H x y v u Q I rx ry h
  obtain ⟨a, o, rfl, g, q⟩ := h
  cases ry
  exact d_notIn hu I g rx fun s3 I3 => ⟨.bl (!o.isSome), H, I3, rfl, q⟩
def rIxDic : R2 := fun x y H Q => ∃ a v, x = .ref a ∧ DGet H a y (some v) ∧ Q v H
theorem ix_dic (hu : X.A.units + 1 < cLine) : IxR X rIxDic := by
  intro value slice pins s σ H x y v u Q I rx ry h hs
  obtain ⟨a, z, rfl, g, q⟩ := h
  cases rx
  have hT := dict_typeIs I g
  unfold subscriptTail
  refine wpAny_bind ?_
  rw [getitemInPython_of_ne hT.not_modules]
  refine wpAny_bind (wpAny_specialOf hT PySem.F.slot_dict_getitem.lookup ?_)
  have fin : wpAny (model X.prog X.w) X.A (subscripted slice false (.ref a) u) (fun r s₃ => wpAny (model X.prog X.w) X.A (letTemporaryGo value (.ref a) r >>= fun _ => pure r) (EP X pins σ Q) X.xe s₃) X.xe s := by
    rw [hs]
    exact wpAny_operating (d_getItem hu I g ry fun w' s3 I3 rw' => wpAny_bind (wpAny_letTemporaryGo (wpAny_pure ⟨z, H, I3, rw', q⟩)))
  first
    | exact wpAny_pure (wpAny_bind fin)
    | exact wpAny_bind (wpAny_pure (wpAny_bind fin))
    | exact wpAny_bind fin
def rIxU (K : PySem.W.Frag) : R2 := fun x y H Q => rIx K x y H Q ∨ rIxDic x y H Q
theorem ix_U (h : X.K = K) (hu : X.A.units + 1 < cLine) : IxR X (rIxU K) := by
  intro value slice pins s σ H x y v u Q I rx ry hh hs
  rcases hh with hh | hh
  · exact ix_K h value slice pins s σ H x y v u Q I rx ry hh hs
  · exact ix_dic hu value slice pins s σ H x y v u Q I rx ry hh hs
def rInU (K : PySem.W.Frag) : R2 := fun x y H Q => rIn K false x y H Q ∨ rInD K x y H Q ∨ rInDic x y H Q
def rNinU (K : PySem.W.Frag) : R2 := fun x y H Q => rIn K true x y H Q ∨ rNotInD K x y H Q ∨ rNinDic x y H Q
theorem op_inU (h : X.K = K) (hu : X.A.units + 65 < cLine) : OpR X (compareOp .In) (rInU K) := by
  intro pins s σ H x y v u Q I rx ry hh
  rcases hh with hh | hh | hh
  · exact op_inK h pins s σ H x y v u Q I rx ry hh
  · exact op_inDK h hu pins s σ H x y v u Q I rx ry hh
  · exact op_inDic (by omega) pins s σ H x y v u Q I rx ry hh
theorem op_ninU (h : X.K = K) (hu : X.A.units + 65 < cLine) : OpR X (compareOp .NotIn) (rNinU K) := by
  intro pins s σ H x y v u Q I rx ry hh
  rcases hh with hh | hh | hh
  · exact op_ninK h pins s σ H x y v u Q I rx ry hh
  · exact op_ninDK h hu pins s σ H x y v u Q I rx ry hh
  · exact op_ninDic (by omega) pins s σ H x y v u Q I rx ry hh
def seqItems : PV → Option (List PV)
  | .tup xs => some xs
  | .lst xs => some xs
  | _ => none
def gotK (f : Option PV → T Rv) {κ : Type} [DecidableEq κ] (ks : List κ) (ds : List PV) : Option κ → T Rv
  | some k => f (getZ k ks ds)
  | none => .stuck
/-- what a dict gives for a key -/
def dicP (f : Option PV → T Rv) (d e : PV) : T Rv := match d with
  | .dK ks ds => gotK f ks ds (keyK e)
  | .dT ks ds => gotK f ks ds (keyT e)
  | _ => .stuck
theorem dic_got {f : Option PV → T Rv} {R : Rv → Prop} (S : Same I H) (hx : Vw K ca I H x d) (hy : Vw K ca I H y e) (w : wp (dicP f d e) R) : ∃ a o po, x = .ref a ∧ DGet H a y o ∧ wp (f po) R ∧ (match po with
    | some c => ∃ v, o = some v ∧ Dv K ca I v c
    | none => o = none) := by
  have key : ∀ {p : Addr} {o : HO}, H p = some o → DicO K ca I o d → ∃ a oo po, V.ref p = .ref a ∧ DGet H a y oo ∧ wp (f po) R ∧ (match po with
      | some c => ∃ v, oo = some v ∧ Dv K ca I v c
      | none => oo = none) := by
    intro p o hp h
    cases h with
    | @k kvs ds q =>
      have w : wp (gotK f (kvs.map (·.1)) ds (keyK e)) R := w
      cases e2 : keyK e with
      | none => rw [e2] at w; exact w.elim
      | some kk =>
        rw [e2] at w
        obtain rfl := keyK_vw e2 hy
        have g := get_dv (k := kk) q
        refine ⟨p, _, _, rfl, DGet.k hp, w, ?_⟩
        cases e3 : getZ kk (kvs.map (·.1)) ds with
        | none => rw [e3] at g; exact g
        | some c => rw [e3] at g; exact g
    | @t kvs ds q =>
      have w : wp (gotK f (kvs.map (·.1)) ds (keyT e)) R := w
      cases e2 : keyT e with
      | none => rw [e2] at w; exact w.elim
      | some kk =>
        rw [e2] at w
        obtain ⟨b, rfl, hb⟩ := keyT_vw S e2 hy
        have g := get_dv (k := kk) q
        refine ⟨p, _, _, rfl, DGet.t hp hb, w, ?_⟩
        cases e3 : getZ kk (kvs.map (·.1)) ds with
        | none => rw [e3] at g; exact g
        | some c => rw [e3] at g; exact g
  cases hx with
  | s hx =>
    cases hx with
    | dK h q => exact key (S _ _ h) (.k q)
    | dT h q => exact key (S _ _ h) (.t q)
    | _ => exact w.elim
  | l _ _ _ => exact w.elim
  | d _ h1 h2 => exact key h1 h2
/-- flat data in a sequence of flat data; any data in a list; a key in a dict -/
def inP (d e : PV) : T Rv := match e with
  | .tup xs => .need (flatD d = true ∧ xs.all flatD = true) (.ret (.fz (.bl (inD d xs))))
  | .lst xs => .need (okD d ∧ okD (.lst xs)) (.ret (.fz (.bl (inD d xs))))
  | .dK ks ds => dicP (fun o => .ret (.fz (.bl o.isSome))) (.dK ks ds) d
  | .dT ks ds => dicP (fun o => .ret (.fz (.bl o.isSome))) (.dT ks ds) d
  | _ => .stuck
def ninP (d e : PV) : T Rv := match e with
  | .tup xs => .need (flatD d = true ∧ xs.all flatD = true) (.ret (.fz (.bl (!inD d xs))))
  | .lst xs => .need (okD d ∧ okD (.lst xs)) (.ret (.fz (.bl (!inD d xs))))
  | .dK ks ds => dicP (fun o => .ret (.fz (.bl (!o.isSome)))) (.dK ks ds) d
  | .dT ks ds => dicP (fun o => .ret (.fz (.bl (!o.isSome)))) (.dT ks ds) d
  | _ => .stuck
theorem flat_dv (h : Dv K ca I x d) (f : flatD d = true) : flatV x = true := by
  cases h <;> first | rfl | cases f
theorem eqV_dv {z : V} {c : PV} (h : Dv K ca I z c) (f : flatD c = true) (hx : Dv K ca I x d) (fx : flatD d = true) : eqV z x = PV.eqv c d := by
  cases h <;> first | (cases f; done) | (cases hx <;> first | (cases fx; done) | rfl)
theorem inV_dv {vs : List V} {ds : List PV} (hx : Dv K ca I x d) (fx : flatD d = true) : DvA K ca I vs ds → ds.all flatD = true → vs.all flatV = true ∧ inV x vs = inD d ds
  | .nil, _ => ⟨rfl, rfl⟩
  | @DvA.cons _ _ _ z vs c ds h t, f => by
    have f' := Bool.and_eq_true_iff.mp (show (flatD c && ds.all flatD) = true from f)
    obtain ⟨h1, h2⟩ := inV_dv hx fx t f'.2
    refine ⟨?_, ?_⟩
    · show (flatV z && vs.all flatV) = true
      rw [flat_dv h f'.1, h1]
      rfl
    · show (eqV z x || inV x vs) = (PV.eqv c d || inD d ds)
      rw [eqV_dv h f'.1 hx fx, h2]
theorem pd_any {d : PV} (hd : d.plain = true) : ∀ {ds : List PV}, plainA ds = true → ((pdA ds).any fun z => PyData.eqv z d.pd) = inD d ds
  | [], _ => rfl
  | c :: ds, h => by
    have h' := (Bool.and_eq_true_iff.mp (show (c.plain && plainA ds) = true from h))
    show (PyData.eqv c.pd d.pd || (pdA ds).any fun z => PyData.eqv z d.pd) = (PV.eqv c d || inD d ds)
    rw [pd_eqv c d h'.1 hd, pd_any hd h'.2]
theorem vw_flat (S : Same I H) (h : Vw K ca I H x d) (f : flatD d = true) : Dv K ca I x d := by
  cases h with
  | s h => exact h
  | l _ _ _ => cases f
  | d _ _ h => cases h <;> cases f
theorem o_in : OpOk K ca (rInU K) inP := by
  intro I H x y d e Q S hx hy w
  cases e with
  | tup xs =>
    obtain ⟨a, vs, rfl, ha, da⟩ := Vw.tup S hy
    have hx' := vw_flat S hx w.1.1
    obtain ⟨f1, f2⟩ := inV_dv hx' w.1.1 da w.1.2
    refine .inl ⟨a, vs, rfl, .inr ha, flat_dv hx' w.1.1, f1, ?_⟩
    rw [f2]
    exact kO_bl S w.2
  | lst xs =>
    refine .inr (.inl ⟨d.pd, pdA xs, dv_dp d _ w.1.1.1 (hx.dv S), dv_dp (.lst xs) _ w.1.2.1 (hy.dv S), w.1.1.shaped, w.1.2.shaped, ?_⟩)
    rw [pd_any w.1.1.1 w.1.2.1]
    exact kO_bl S w.2
  | dK ks ds =>
    have w : wp (dicP (fun o => .ret (.fz (.bl (o.isSome)))) (.dK ks ds) d) (kO K ca I H Q) := w
    obtain ⟨a, o, po, rfl, g, w, r⟩ := dic_got S hy hx w
    refine .inr (.inr ⟨a, o, rfl, g, ?_⟩)
    have e : o.isSome = po.isSome := by
      cases po with
      | some c => obtain ⟨v, rfl, _⟩ := r; rfl
      | none => cases r; rfl
    rw [e]
    exact kO_bl S w
  | dT ks ds =>
    have w : wp (dicP (fun o => .ret (.fz (.bl (o.isSome)))) (.dT ks ds) d) (kO K ca I H Q) := w
    obtain ⟨a, o, po, rfl, g, w, r⟩ := dic_got S hy hx w
    refine .inr (.inr ⟨a, o, rfl, g, ?_⟩)
    have e : o.isSome = po.isSome := by
      cases po with
      | some c => obtain ⟨v, rfl, _⟩ := r; rfl
      | none => cases r; rfl
    rw [e]
    exact kO_bl S w
  | _ => exact w.elim
theorem o_nin : OpOk K ca (rNinU K) ninP := by
  intro I H x y d e Q S hx hy w
  cases e with
  | tup xs =>
    obtain ⟨a, vs, rfl, ha, da⟩ := Vw.tup S hy
    have hx' := vw_flat S hx w.1.1
    obtain ⟨f1, f2⟩ := inV_dv hx' w.1.1 da w.1.2
    refine .inl ⟨a, vs, rfl, .inr ha, flat_dv hx' w.1.1, f1, ?_⟩
    show Q (.bl (!inV x vs)) H
    rw [f2]
    exact kO_bl S w.2
  | lst xs =>
    refine .inr (.inl ⟨d.pd, pdA xs, dv_dp d _ w.1.1.1 (hx.dv S), dv_dp (.lst xs) _ w.1.2.1 (hy.dv S), w.1.1.shaped, w.1.2.shaped, ?_⟩)
    rw [pd_any w.1.1.1 w.1.2.1]
    exact kO_bl S w.2
  | dK ks ds =>
    have w : wp (dicP (fun o => .ret (.fz (.bl (!o.isSome)))) (.dK ks ds) d) (kO K ca I H Q) := w
    obtain ⟨a, o, po, rfl, g, w, r⟩ := dic_got S hy hx w
    refine .inr (.inr ⟨a, o, rfl, g, ?_⟩)
    have e : o.isSome = po.isSome := by
      cases po with
      | some c => obtain ⟨v, rfl, _⟩ := r; rfl
      | none => cases r; rfl
    rw [e]
    exact kO_bl S w
  | dT ks ds =>
    have w : wp (dicP (fun o => .ret (.fz (.bl (!o.isSome)))) (.dT ks ds) d) (kO K ca I H Q) := w
    obtain ⟨a, o, po, rfl, g, w, r⟩ := dic_got S hy hx w
    refine .inr (.inr ⟨a, o, rfl, g, ?_⟩)
    have e : o.isSome = po.isSome := by
      cases po with
      | some c => obtain ⟨v, rfl, _⟩ := r; rfl
      | none => cases r; rfl
    rw [e]
    exact kO_bl S w
  | _ => exact w.elim
/-- x[i] -/
def itP : Option PV → T Rv
  | some c => .ret (.fz c)
  | none => .stuck
def strAt (z : Str) (i : Int) : Option PV := (atI z.cps.toList i).map fun c => .str ⟨#[c]⟩
def ixP (d e : PV) : T Rv := match d, e with
  | .tup xs, .int i => itP (atI xs i)
  | .lst xs, .int i => itP (atI xs i)
  | .str z, .int i => .need (z.length ≤ 16777216) (itP (strAt z i))
  | .dK ks ds, k => dicP itP (.dK ks ds) k
  | .dT ks ds, k => dicP itP (.dT ks ds) k
  | _, _ => .stuck
theorem atI_dv {vs : List V} {ds : List PV} {i : Int} {c : PV} (h : DvA K ca I vs ds) (e : atI ds i = some c) : ∃ v, atI vs i = some v ∧ Dv K ca I v c := by
  unfold atI at e ⊢
  rw [h.length]
  cases e2 : ixN ds.length i with
  | none => rw [e2] at e; cases e
  | some j =>
    rw [e2] at e
    exact h.get e
theorem o_ix : OpOk K ca (rIxU K) ixP := by
  intro I H x y d e Q S hx hy w
  have line : sizeLine = 16777216 := sizeLine_eq
  cases d with
  | tup xs =>
    cases e with
    | int i =>
      have w : wp (itP (atI xs i)) (kO K ca I H Q) := w
      obtain ⟨a, vs, rfl, ha, da⟩ := Vw.tup S hx
      cases e2 : atI xs i with
      | none => rw [e2] at w; exact w.elim
      | some c =>
        rw [e2] at w
        obtain ⟨v, e3, dv⟩ := atI_dv da e2
        exact .inl (.inr (.inl ⟨a, vs, i, v, rfl, hy.int, ha, e3, kO_fz S w dv⟩))
    | _ => exact w.elim
  | lst xs =>
    cases e with
    | int i =>
      have w : wp (itP (atI xs i)) (kO K ca I H Q) := w
      obtain ⟨a, vs, rfl, ha, da⟩ := Vw.lst S hx
      cases e2 : atI xs i with
      | none => rw [e2] at w; exact w.elim
      | some c =>
        rw [e2] at w
        obtain ⟨v, e3, dv⟩ := atI_dv da e2
        exact .inl (.inl ⟨a, vs, i, v, rfl, hy.int, ofL ha, e3, kO_fz S w dv⟩)
    | _ => exact w.elim
  | str z =>
    cases e with
    | int i =>
      obtain ⟨l, w⟩ := w
      unfold strAt at w
      cases e2 : atI z.cps.toList i with
      | none => rw [e2] at w; exact w.elim
      | some c =>
        rw [e2] at w
        exact .inl (.inr (.inr ⟨z, i, c, hx.str, hy.int, by rw [line]; exact l, e2, kO_fz S w (.str _)⟩))
    | _ => exact w.elim
  | dK ks ds =>
    have w : wp (dicP itP (.dK ks ds) e) (kO K ca I H Q) := w
    obtain ⟨a, o, po, rfl, g, w, r⟩ := dic_got S hx hy w
    cases po with
    | none => exact w.elim
    | some c =>
      obtain ⟨v, rfl, dv⟩ := r
      exact .inr ⟨a, v, rfl, g, kO_fz S w dv⟩
  | dT ks ds =>
    have w : wp (dicP itP (.dT ks ds) e) (kO K ca I H Q) := w
    obtain ⟨a, o, po, rfl, g, w, r⟩ := dic_got S hx hy w
    cases po with
    | none => exact w.elim
    | some c =>
      obtain ⟨v, rfl, dv⟩ := r
      exact .inr ⟨a, v, rfl, g, kO_fz S w dv⟩
  | _ => exact w.elim
end
end L4
/-! The pure layer, part 6: slices, built-in calls, what is walked, methods of lists, draws. -/
namespace L4
open PySem PySem.Spec PyProof.Rows L2 L3

/-! ### slices -/
def cutP (xs : List PV) (lo hi : Option Int) : List PV := (xs.drop (HT.sIx xs.length 0 lo)).take (HT.sIx xs.length xs.length hi - HT.sIx xs.length 0 lo)
def slP (d : PV) (lo hi : Option Int) : T Rv := match d with
  | .tup xs => .ret (.fz (.tup (cutP xs lo hi)))
  | .lst xs => .ret (.ow (cutP xs lo hi))
  | _ => .stuck
def partM (f : M Fv) : M (Option Int) := (setl f).bind fun x => (vw x).bind fun d => match d with
  | .int i => M.ret (some i)
  | _ => M.stuck
def slM (f : M Fv) (fl fh : M (Option Int)) : M Fv := (setl f).bind fun x => fl.bind fun lo => fh.bind fun hi => (vw x).bind fun d => liftR (slP d lo hi)
section
variable {X : Cx} {K : PySem.W.Frag} {ca : Nat → Addr} {W : WX} {ex : Ex} {g : Gh} {I H I' H' : Hp} {s : S4} {σ : L2.St} {v : V} {x : Fv}
def kP (g : Gh) (K : PySem.W.Frag) (ca : Nat → Addr) (ex : Ex) (I : Hp) (σ : L2.St) (Q : Option Int → Hp → Prop) (b : Option Int) (s' : S4) : Prop := ∀ I' H', Same I I' → Good K ca ex g I' H' s' σ → Q b H'
def Ro (K : PySem.W.Frag) (ca : Nat → Addr) (W : WX) (ex : Ex) (t : TO) (f : M (Option Int)) : Prop := ∀ (σ : L2.St) (H : Hp) (Q : Option Int → Hp → Prop) (g : Gh) (I : Hp) (s : S4), Good K ca ex g I H s σ → wpM f s (kP g K ca ex I σ Q) (kX K ca W ex g σ) → t σ H Q
theorem ro_no : Ro K ca W ex tNoPart (M.ret none) := fun σ H Q g I s G w => w I H (Same.refl I) G
theorem ro_part {te : TE} {f : M Fv} (h : Rt K ca W ex te f) : Ro K ca W ex (tPart te) (partM f) := by
  intro σ H Q g I s G w
  refine run_setl h G w fun x s1 I1 H1 v S1 G1 V1 w1 => ?_
  obtain ⟨d, vd, w3⟩ := vw_ok (d := .non) G1 V1 (wpM_bind.mp w1)
  cases d with
  | int i => exact ⟨i, vw_int vd, w3 I1 H1 S1 G1⟩
  | _ => exact w3.elim
def SlOkR (K : PySem.W.Frag) (ca : Nat → Addr) (r : V → Option Int → Option Int → Hp → VK → Prop) (f : PV → Option Int → Option Int → T Rv) : Prop := ∀ (I H : Hp) (x : V) (d : PV) (lo hi : Option Int) (Q : VK), Same I H → Vw K ca I H x d → wp (f d lo hi) (kO K ca I H Q) → r x lo hi H Q
theorem cut_whole {xs : List PV} {lo hi : Option Int} (h : HT.sIx xs.length 0 lo = 0 ∧ HT.sIx xs.length xs.length hi = xs.length) : cutP xs lo hi = xs := by
  unfold cutP
  rw [h.1, h.2, List.drop_zero, Nat.sub_zero, List.take_length]
theorem DvA.cut {vs : List V} {ds : List PV} (h : DvA K ca I vs ds) (lo hi : Option Int) : DvA K ca I (cutV vs lo hi) (cutP ds lo hi) := by
  unfold cutV cutP
  rw [h.length]
  exact DvA.take _ (DvA.drop _ h)
theorem o_sl : SlOkR K ca (rSlU K) slP := by
  intro I H x d lo hi Q S hx w
  cases d with
  | tup xs =>
    obtain ⟨a, vs, rfl, ha, da⟩ := Vw.tup S hx
    refine .inl ⟨a, vs, rfl, ha, fun e => ?_, fun _ p hp => kO_tup S w (da.cut lo hi) hp⟩
    rw [da.length] at e
    exact kO_fz S w (by rw [cut_whole e]; exact hx.dvT)
  | lst xs =>
    obtain ⟨a, vs, rfl, ha, da⟩ := Vw.lst S hx
    exact .inr ⟨a, vs, rfl, ofL ha, fun p hp => kO_new S w (da.cut lo hi) hp⟩
  | _ => exact w.elim
theorem r_sl {r : V → Option Int → Option Int → Hp → VK → Prop} {f : PV → Option Int → Option Int → T Rv} {te : TE} {tl th : TO} {fe : M Fv} {fl fh : M (Option Int)} (o : SlOkR K ca r f) (he : Rt K ca W ex te fe) (hl : Ro K ca W ex tl fl) (hh : Ro K ca W ex th fh) :
    Rt K ca W ex (tSl r te tl th) ((setl fe).bind fun x => fl.bind fun lo => fh.bind fun hi => (vw x).bind fun d => liftR (f d lo hi)) := by
  intro σ H Q g I s G w
  show te σ H fun x H1 => tl σ H1 fun l H2 => th σ H2 fun u H3 => r x l u H3 Q
  refine run_setl he G w fun x s1 I1 H1 v S1 G1 V1 w1 => ?_
  refine hl σ H1 _ g I1 s1 G1 (wpM_mono (wpM_bind.mp w1) (fun lo s2 z => ?_) fun _ _ z => z)
  intro I2 H2 S2 G2
  refine hh σ H2 _ g I2 s2 G2 (wpM_mono (wpM_bind.mp z) (fun hi s3 z => ?_) fun _ _ z => z)
  intro I3 H3 S3 G3
  obtain ⟨d, vd, w4⟩ := vw_ok (d := .non) G3 (V1.up (S2.trans S3)) (wpM_bind.mp z)
  exact o I3 H3 v d lo hi Q G3.sub vd (wp_mono (wpM_liftR.mp w4) fun a z => kE_of G3 (kE_up ((S1.trans S2).trans S3) z))
theorem cutP_take {xs : List PV} {n : Int} (h0 : 0 ≤ n) : cutP xs none (some n) = xs.take n.toNat := by
  obtain ⟨k, rfl⟩ : ∃ k : Nat, n = (k : Int) := ⟨n.toNat, by omega⟩
  unfold cutP
  rw [HT.sIx_none, HT.sIx_nat, List.drop_zero, Nat.sub_zero, Int.toNat_natCast]
  by_cases h : k ≤ xs.length
  · rw [Nat.min_eq_left h]
  · rw [Nat.min_eq_right (by omega), List.take_of_length_le (Nat.le_refl _), List.take_of_length_le (by omega)]
theorem cutP_drop {xs : List PV} {n : Int} (h0 : 0 ≤ n) : cutP xs (some n) none = xs.drop n.toNat := by
  obtain ⟨k, rfl⟩ : ∃ k : Nat, n = (k : Int) := ⟨n.toNat, by omega⟩
  unfold cutP
  rw [HT.sIx_none, HT.sIx_nat, Int.toNat_natCast]
  by_cases h : k ≤ xs.length
  · rw [Nat.min_eq_left h]
    exact List.take_of_length_le (by rw [List.length_drop]; omega)
  · rw [Nat.min_eq_right (by omega), List.drop_of_length_le (Nat.le_refl _), List.drop_of_length_le (by omega)]
    simp
end

/-! ### built-in calls -/
def lenP (ds : List PV) : T Rv := match ds with
  | [.tup xs] => .ret (.fz (.int xs.length))
  | [.lst xs] => .ret (.fz (.int xs.length))
  | _ => .stuck
def int1P (ds : List PV) : T Rv := match ds with
  | [.int i] => .ret (.fz (.int i))
  | _ => .stuck
def absP (ds : List PV) : T Rv := match ds with
  | [.int i] => .ret (.fz (.int (if i < 0 then -i else i)))
  | _ => .stuck
def listP (ds : List PV) : T Rv := match ds with
  | [.tup xs] => .ret (.ow xs)
  | [.lst xs] => .ret (.ow xs)
  | _ => .stuck
def tupleP (d : PV) : T Rv := match d with
  | .tup xs => .ret (.fz (.tup xs))
  | .lst xs => .ret (.fz (.tup xs))
  | _ => .stuck
def asInts : List PV → Option (List Int)
  | [] => some []
  | .int i :: r => (asInts r).map fun ns => i :: ns
  | _ => none
def asBools : List PV → Option (List Bool)
  | [] => some []
  | .bl i :: r => (asBools r).map fun ns => i :: ns
  | _ => none
def sumK : Option (List Int) → T Rv
  | some ns => .ret (.fz (.int ns.sum))
  | none => .stuck
def sumP (ds : List PV) : T Rv := match ds with
  | [.lst xs] => sumK (asInts xs)
  | _ => .stuck
def anyK (f : List Bool → Bool) : Option (List Bool) → T Rv
  | some ns => .ret (.fz (.bl (f ns)))
  | none => .stuck
def anyP (ds : List PV) : T Rv := match ds with
  | [.lst xs] => anyK (fun bs => bs.any id) (asBools xs)
  | _ => .stuck
def allP (ds : List PV) : T Rv := match ds with
  | [.lst xs] => anyK (fun bs => bs.all id) (asBools xs)
  | _ => .stuck
def maxL : List Int → Option Int
  | [] => none
  | n :: ns => some (ns.foldl max n)
def minL : List Int → Option Int
  | [] => none
  | n :: ns => some (ns.foldl min n)
def mxK : Option Int → T Rv
  | some n => .ret (.fz (.int n))
  | none => .stuck
def maxP (ds : List PV) : T Rv := match ds with
  | [.lst xs] => mxK ((asInts xs).bind maxL)
  | _ => .stuck
def minP (ds : List PV) : T Rv := match ds with
  | [.lst xs] => mxK ((asInts xs).bind minL)
  | _ => .stuck
/-- isinstance with a built-in type -/
def basicD : PV → Bool
  | .non => true
  | .bl _ => true
  | .int _ => true
  | .str _ => true
  | .tup _ => true
  | .lst _ => true
  | .dK _ _ => true
  | .dT _ _ => true
  | _ => false
def tyB (n : String) (d : PV) : Option Bool :=
  if basicD d = false then none
  else if n = "int" then some (match d with | .int _ => true | .bl _ => true | _ => false)
  else if n = "bool" then some (match d with | .bl _ => true | _ => false)
  else if n = "str" then some (match d with | .str _ => true | _ => false)
  else if n = "tuple" then some (match d with | .tup _ => true | _ => false)
  else if n = "list" then some (match d with | .lst _ => true | _ => false)
  else none
def blK : Option Bool → T Rv
  | some b => .ret (.fz (.bl b))
  | none => .stuck
def isiP (ds : List PV) : T Rv := match ds with
  | [d, .ty n] => blK (tyB n d)
  | _ => .stuck
section
variable {X : Cx} {K : PySem.W.Frag} {ca : Nat → Addr} {W : WX} {ex : Ex} {g : Gh} {I H I' H' : Hp} {s : S4} {σ : L2.St} {v : V} {x : Fv}
theorem VwA.one {vs : List V} {d : PV} (h : VwA K ca I H vs [d]) : ∃ v, vs = [v] ∧ Vw K ca I H v d := by
  cases h with
  | cons h t => cases t; exact ⟨_, rfl, h⟩
theorem VwA.two {vs : List V} {d e : PV} (h : VwA K ca I H vs [d, e]) : ∃ v w, vs = [v, w] ∧ Vw K ca I H v d ∧ Vw K ca I H w e := by
  cases h with
  | cons h t =>
    cases t with
    | cons h2 t => cases t; exact ⟨_, _, rfl, h, h2⟩
theorem o_len : CbOk K ca (rLenS K) lenP := by
  intro I H xs ds Q S h w
  match ds, h, w with
  | [.tup zs], h, w =>
    obtain ⟨v, rfl, hv⟩ := h.one
    obtain ⟨a, vs, rfl, ha, da⟩ := Vw.tup S hv
    exact ⟨a, vs, rfl, .inr ha, by rw [da.length]; exact kO_int S w⟩
  | [.lst zs], h, w =>
    obtain ⟨v, rfl, hv⟩ := h.one
    obtain ⟨a, vs, rfl, ha, da⟩ := Vw.lst S hv
    exact ⟨a, vs, rfl, .inl (ofL ha), by rw [da.length]; exact kO_int S w⟩
theorem o_int1 : CbOk K ca rInt1 int1P := by
  intro I H xs ds Q S h w
  match ds, h, w with
  | [.int i], h, w =>
    obtain ⟨v, rfl, hv⟩ := h.one
    exact ⟨i, by rw [hv.int], kO_int S w⟩
theorem o_abs : CbOk K ca rAbsI absP := by
  intro I H xs ds Q S h w
  match ds, h, w with
  | [.int i], h, w =>
    obtain ⟨v, rfl, hv⟩ := h.one
    exact ⟨i, by rw [hv.int], kO_int S w⟩
theorem o_list : CbOk K ca (rListOf K) listP := by
  intro I H xs ds Q S h w
  match ds, h, w with
  | [.tup zs], h, w =>
    obtain ⟨v, rfl, hv⟩ := h.one
    obtain ⟨a, vs, rfl, ha, da⟩ := Vw.tup S hv
    exact ⟨a, vs, rfl, .inr ha, fun p hp => kO_new S w da hp⟩
  | [.lst zs], h, w =>
    obtain ⟨v, rfl, hv⟩ := h.one
    obtain ⟨a, vs, rfl, ha, da⟩ := Vw.lst S hv
    exact ⟨a, vs, rfl, .inl (ofL ha), fun p hp => kO_new S w da hp⟩
theorem o_tuple : UnOk K ca (kTup K) tupleP := by
  intro I H x d Q S hx w
  cases d with
  | tup zs =>
    obtain ⟨a, vs, rfl, ha, da⟩ := Vw.tup S hx
    exact .inr ⟨a, vs, rfl, ha, kO_fz S w hx.dvT⟩
  | lst zs =>
    obtain ⟨a, vs, rfl, ha, da⟩ := Vw.lst S hx
    refine .inl ⟨a, vs, rfl, ofL ha, fun q hq => ?_⟩
    exact kO_tup S w da hq
  | _ => exact w.elim
theorem asInts_ok : ∀ {ds : List PV} {ns : List Int}, asInts ds = some ns → ds = ns.map PV.int
  | [], _, h => by cases h; rfl
  | .int i :: r, ns, h => by
    unfold asInts at h
    cases e : asInts r with
    | none => rw [e] at h; cases h
    | some ms =>
      rw [e] at h
      cases h
      rw [asInts_ok e]
      rfl
theorem asInts_map : ∀ ns : List Int, asInts (ns.map PV.int) = some ns
  | [] => rfl
  | n :: ns => by show (asInts (ns.map PV.int)).map _ = _; rw [asInts_map ns]; rfl
theorem asBools_ok : ∀ {ds : List PV} {ns : List Bool}, asBools ds = some ns → ds = ns.map PV.bl
  | [], _, h => by cases h; rfl
  | .bl i :: r, ns, h => by
    unfold asBools at h
    cases e : asBools r with
    | none => rw [e] at h; cases h
    | some ms =>
      rw [e] at h
      cases h
      rw [asBools_ok e]
      rfl
theorem asBools_map : ∀ ns : List Bool, asBools (ns.map PV.bl) = some ns
  | [] => rfl
  | n :: ns => by show (asBools (ns.map PV.bl)).map _ = _; rw [asBools_map ns]; rfl
theorem DvA.isBools : ∀ {vs : List V} {ns : List Bool}, DvA K ca I vs (ns.map PV.bl) → vs = ns.map V.bl
  | _, [], .nil => rfl
  | _, n :: ns, .cons h t => by
    cases h
    rw [DvA.isBools t]
    rfl
theorem o_sum : CbOk K ca (rSum K) sumP := by
  intro I H xs ds Q S h w
  match ds, h, w with
  | [.lst zs], h, w =>
    have w : wp (sumK (asInts zs)) (kO K ca I H Q) := w
    obtain ⟨v, rfl, hv⟩ := h.one
    obtain ⟨a, vs, rfl, ha, da⟩ := Vw.lst S hv
    cases e : asInts zs with
    | none => rw [e] at w; exact w.elim
    | some ns =>
      rw [e] at w
      rw [asInts_ok e] at da
      rw [da.isInts] at ha
      exact ⟨a, ns, rfl, ofL ha, kO_int S w⟩
theorem o_any : CbOk K ca (rAny K) anyP := by
  intro I H xs ds Q S h w
  match ds, h, w with
  | [.lst zs], h, w =>
    have w : wp (anyK (fun bs => bs.any id) (asBools zs)) (kO K ca I H Q) := w
    obtain ⟨v, rfl, hv⟩ := h.one
    obtain ⟨a, vs, rfl, ha, da⟩ := Vw.lst S hv
    cases e : asBools zs with
    | none => rw [e] at w; exact w.elim
    | some ns =>
      rw [e] at w
      rw [asBools_ok e] at da
      rw [da.isBools] at ha
      exact ⟨a, ns, rfl, ofL ha, kO_bl S w⟩
theorem o_all : CbOk K ca (rAll K) allP := by
  intro I H xs ds Q S h w
  match ds, h, w with
  | [.lst zs], h, w =>
    have w : wp (anyK (fun bs => bs.all id) (asBools zs)) (kO K ca I H Q) := w
    obtain ⟨v, rfl, hv⟩ := h.one
    obtain ⟨a, vs, rfl, ha, da⟩ := Vw.lst S hv
    cases e : asBools zs with
    | none => rw [e] at w; exact w.elim
    | some ns =>
      rw [e] at w
      rw [asBools_ok e] at da
      rw [da.isBools] at ha
      exact ⟨a, ns, rfl, ofL ha, kO_bl S w⟩
theorem foldl_max : ∀ (ns : List Int) (n : Int), (ns.foldl max n = n ∨ ns.foldl max n ∈ ns) ∧ n ≤ ns.foldl max n ∧ ∀ y ∈ ns, y ≤ ns.foldl max n
  | [], n => ⟨.inl rfl, Int.le_refl _, by simp⟩
  | m :: ns, n => by
    obtain ⟨h1, h2, h3⟩ := foldl_max ns (max n m)
    show (ns.foldl max (max n m) = n ∨ ns.foldl max (max n m) ∈ m :: ns) ∧ n ≤ ns.foldl max (max n m) ∧ ∀ y ∈ m :: ns, y ≤ ns.foldl max (max n m)
    refine ⟨?_, by omega, fun y hy => ?_⟩
    · rcases h1 with h1 | h1
      · by_cases c : m ≤ n
        · left; omega
        · right; rw [h1]; have : max n m = m := by omega
          rw [this]; exact List.mem_cons_self
      · exact .inr (List.mem_cons_of_mem _ h1)
    · rcases List.mem_cons.mp hy with rfl | hy
      · omega
      · exact h3 y hy
theorem foldl_min : ∀ (ns : List Int) (n : Int), (ns.foldl min n = n ∨ ns.foldl min n ∈ ns) ∧ ns.foldl min n ≤ n ∧ ∀ y ∈ ns, ns.foldl min n ≤ y
  | [], n => ⟨.inl rfl, Int.le_refl _, by simp⟩
  | m :: ns, n => by
    obtain ⟨h1, h2, h3⟩ := foldl_min ns (min n m)
    show (ns.foldl min (min n m) = n ∨ ns.foldl min (min n m) ∈ m :: ns) ∧ ns.foldl min (min n m) ≤ n ∧ ∀ y ∈ m :: ns, ns.foldl min (min n m) ≤ y
    refine ⟨?_, by omega, fun y hy => ?_⟩
    · rcases h1 with h1 | h1
      · by_cases c : n ≤ m
        · left; omega
        · right; rw [h1]; have : min n m = m := by omega
          rw [this]; exact List.mem_cons_self
      · exact .inr (List.mem_cons_of_mem _ h1)
    · rcases List.mem_cons.mp hy with rfl | hy
      · omega
      · exact h3 y hy
theorem maxL_ok {ns : List Int} {m : Int} (h : maxL ns = some m) : m ∈ ns ∧ ∀ y ∈ ns, y ≤ m := by
  cases ns with
  | nil => cases h
  | cons n ns =>
    cases h
    obtain ⟨h1, h2, h3⟩ := foldl_max ns n
    refine ⟨h1.elim (fun e => by rw [e]; exact List.mem_cons_self) (List.mem_cons_of_mem _), fun y hy => ?_⟩
    rcases List.mem_cons.mp hy with rfl | hy
    · exact h2
    · exact h3 y hy
theorem minL_ok {ns : List Int} {m : Int} (h : minL ns = some m) : m ∈ ns ∧ ∀ y ∈ ns, m ≤ y := by
  cases ns with
  | nil => cases h
  | cons n ns =>
    cases h
    obtain ⟨h1, h2, h3⟩ := foldl_min ns n
    refine ⟨h1.elim (fun e => by rw [e]; exact List.mem_cons_self) (List.mem_cons_of_mem _), fun y hy => ?_⟩
    rcases List.mem_cons.mp hy with rfl | hy
    · exact h2
    · exact h3 y hy
theorem o_max : CbOk K ca (rMax K) maxP := by
  intro I H xs ds Q S h w
  match ds, h, w with
  | [.lst zs], h, w =>
    have w : wp (mxK ((asInts zs).bind maxL)) (kO K ca I H Q) := w
    obtain ⟨v, rfl, hv⟩ := h.one
    obtain ⟨a, vs, rfl, ha, da⟩ := Vw.lst S hv
    cases e : asInts zs with
    | none => rw [e] at w; exact w.elim
    | some ns =>
      rw [e, Option.bind_some] at w
      rw [asInts_ok e] at da
      rw [da.isInts] at ha
      cases e2 : maxL ns with
      | none => rw [e2] at w; exact w.elim
      | some m =>
        rw [e2] at w
        obtain ⟨k1, k2⟩ := maxL_ok e2
        refine ⟨a, ns, rfl, ofL ha, List.length_pos_of_mem k1, fun m' h1 h2 => ?_⟩
        have : m' = m := Int.le_antisymm (k2 m' h1) (h2 m k1)
        subst this
        exact kO_int S w
theorem o_min : CbOk K ca (rMin K) minP := by
  intro I H xs ds Q S h w
  match ds, h, w with
  | [.lst zs], h, w =>
    have w : wp (mxK ((asInts zs).bind minL)) (kO K ca I H Q) := w
    obtain ⟨v, rfl, hv⟩ := h.one
    obtain ⟨a, vs, rfl, ha, da⟩ := Vw.lst S hv
    cases e : asInts zs with
    | none => rw [e] at w; exact w.elim
    | some ns =>
      rw [e, Option.bind_some] at w
      rw [asInts_ok e] at da
      rw [da.isInts] at ha
      cases e2 : minL ns with
      | none => rw [e2] at w; exact w.elim
      | some m =>
        rw [e2] at w
        obtain ⟨k1, k2⟩ := minL_ok e2
        refine ⟨a, ns, rfl, ofL ha, List.length_pos_of_mem k1, fun m' h1 h2 => ?_⟩
        have : m' = m := Int.le_antisymm (h2 m k1) (k2 m' h1)
        subst this
        exact kO_int S w
theorem vw_ty {d : PV} {x : V} (S : Same I H) (h : Vw K ca I H x d) (b : basicD d = true) : TyX K H x (.type (tyD d.pd)) := by
  have h' := h.dv S
  cases h' with
  | non => exact .base .non
  | bl c => exact .base (.bl c)
  | int i => exact .base (.int i)
  | str x => exact .base (.str x)
  | lst h2 _ => exact SqL.tyx (ofL h2)
  | tup h2 _ => exact SqT.tyx (ofT h2)
  | dK h2 _ => exact .base (.dK h2)
  | dT h2 _ => exact .base (.dT h2)
  | _ => cases b
theorem tyB_kit {n : String} {d : PV} {b : Bool} (e : tyB n d = some b) : basicD d = true ∧ PySem.W.kitOne K (.type (tyD d.pd)) (.type n) = some b := by
  unfold tyB at e
  by_cases hb : basicD d = false
  · rw [if_pos hb] at e; cases e
  · rw [if_neg hb] at e
    refine ⟨by simpa using hb, ?_⟩
    by_cases h1 : n = "int"
    · subst h1
      rw [if_pos rfl] at e
      rw [kit_int]
      cases d <;> first | exact e | exact absurd rfl hb
    · rw [if_neg h1] at e
      by_cases h2 : n = "bool"
      · subst h2
        rw [if_pos rfl] at e
        rw [kit_bool]
        cases d <;> first | exact e | exact absurd rfl hb
      · rw [if_neg h2] at e
        by_cases h3 : n = "str"
        · subst h3
          rw [if_pos rfl] at e
          rw [kit_str]
          cases d <;> first | exact e | exact absurd rfl hb
        · rw [if_neg h3] at e
          by_cases h4 : n = "tuple"
          · subst h4
            rw [if_pos rfl] at e
            rw [kit_tup]
            cases d <;> first | exact e | exact absurd rfl hb
          · rw [if_neg h4] at e
            by_cases h5 : n = "list"
            · subst h5
              rw [if_pos rfl] at e
              rw [kit_lst]
              cases d <;> first | exact e | exact absurd rfl hb
            · rw [if_neg h5] at e; cases e
theorem vw_tyv {n : String} {x : V} (h : Vw K ca I H x (.ty n)) : x = .ty n := by
  cases h with
  | s h => cases h; rfl
  | d _ _ h => cases h
theorem o_isi : CbOk K ca (rIsi K) isiP := by
  intro I H xs ds Q S h w
  match ds, h, w with
  | [d, .ty n], h, w =>
    have w : wp (blK (tyB n d)) (kO K ca I H Q) := w
    obtain ⟨v, u, rfl, hv, hu⟩ := h.two
    obtain rfl := vw_tyv hu
    cases e : tyB n d with
    | none => rw [e] at w; exact w.elim
    | some b =>
      rw [e] at w
      obtain ⟨e1, e2⟩ := tyB_kit (K := K) e
      exact ⟨v, .ty n, _, .type n, b, rfl, .ty n, vw_ty S hv e1, e2, kO_bl S w⟩
end
/-- isinstance(x, (t1, t2)) -/
def orO : Option Bool → Option Bool → Option Bool
  | some a, some b => some (a || b)
  | _, _ => none
def isi2M (n1 n2 : String) (f : M Fv) : M Fv := (setl f).bind fun x => (vw x).bind fun d => liftR (blK (orO (tyB n1 d) (tyB n2 d)))
section
variable {X : Cx} {K : PySem.W.Frag} {ca : Nat → Addr} {W : WX} {ex : Ex} {g : Gh} {I H I' H' : Hp} {s : S4} {σ : L2.St} {v : V} {x : Fv}
theorem r_isi2 {te : TE} {f : M Fv} {n1 n2 : String} (h : Rt K ca W ex te f) : Rt K ca W ex (tCB (rIsiT K) (tCons te (tCons (tTup (tCons (tC (.ty n1)) (tCons (tC (.ty n2)) tNil))) tNil))) (isi2M n1 n2 f) := by
  intro σ H Q g I s G w
  show te σ H fun x H1 => [V.ty n1, V.ty n2].length ≤ sizeLine ∧ ∀ p, H1 p = none → rIsiT K [x, .ref p] (upd H1 p (.tup [.ty n1, .ty n2])) Q
  refine run_setl h G w fun x s1 I1 H1 v S1 G1 V1 w1 => ?_
  obtain ⟨d, vd, w3⟩ := vw_ok (d := .non) G1 V1 (wpM_bind.mp w1)
  have w4 := wpM_liftR.mp w3
  refine ⟨by rw [sizeLine_eq]; show 2 ≤ 16777216; decide, fun p hp => ?_⟩
  cases e1 : tyB n1 d with
  | none => rw [e1] at w4; exact w4.elim
  | some b1 =>
    cases e2 : tyB n2 d with
    | none => rw [e1, e2] at w4; exact w4.elim
    | some b2 =>
      rw [e1, e2] at w4
      obtain ⟨hb, k1⟩ := tyB_kit (K := K) e1
      obtain ⟨_, k2⟩ := tyB_kit (K := K) e2
      have f : Lf No I1 H1 I1 (upd H1 p (.tup [.ty n1, .ty n2])) := Lf.alloc G1.sub hp
      have ty : TyX K (upd H1 p (.tup [.ty n1, .ty n2])) v (.type (tyD d.pd)) := by
        refine vw_ty (ca := ca) (I := H1) (fun b o q => by rw [upd_ne (ne_of_none q hp)]; exact q) (.s (vd.dv G1.sub)) hb
      refine ⟨v, p, [.ty n1, .ty n2], _, [.type n1, .type n2], b1 || b2, rfl, upd_same, .cons (.ty _) (.cons (.ty _) .nil), ty, ?_, ?_⟩
      · unfold PySem.W.kitAny
        rw [k1]
        cases b1 with
        | true => rfl
        | false =>
          unfold PySem.W.kitAny
          rw [k2]
          cases b2 <;> rfl
      · exact w4 I1 _ _ S1 (G1.stepNo f) (.inr (.bl _))
end
/-! ### list(range(..)), tuple(range(..)) -/
def rgD (a b : Int) : List PV := (List.range (b - a).toNat).map fun i => PV.int (a + (i : Nat))
def rg1M (tup : Bool) (f : M Fv) : M Fv := (setl f).bind fun x => (vw x).bind fun d => match d with
  | .int n => liftR (.need (RgOk 0 n) (.ret (if tup then .fz (.tup (rgD 0 n)) else .ow (rgD 0 n))))
  | _ => M.stuck
def rg2M (tup : Bool) (f h : M Fv) : M Fv := (setl f).bind fun x => (setl h).bind fun y => (vw x).bind fun d => (vw y).bind fun e => match d, e with
  | .int m, .int n => liftR (.need (RgOk m n) (.ret (if tup then .fz (.tup (rgD m n)) else .ow (rgD m n))))
  | _, _ => M.stuck
section
variable {X : Cx} {K : PySem.W.Frag} {ca : Nat → Addr} {W : WX} {ex : Ex} {g : Gh} {I H I' H' : Hp} {s : S4} {σ : L2.St} {v : V} {x : Fv}
theorem rgV_dv {a b : Int} : DvA K ca I (rgV a b) (rgD a b) := by
  unfold rgV rgD
  generalize List.range (b - a).toNat = l
  induction l with
  | nil => exact .nil
  | cons i l ih => exact .cons (.int _) ih
theorem r_lstRg1 {te : TE} {f : M Fv} (h : Rt K ca W ex te f) : Rt K ca W ex (tLstRg (tRg1 te)) (rg1M false f) := by
  intro σ H Q g I s G w
  show te σ H fun x H1 => ∃ n, x = .int n ∧ RgOk 0 n ∧ ∀ q, H1 q = none → Q (.ref q) (upd H1 q (.lst (rgV 0 n)))
  refine run_setl h G w fun x s1 I1 H1 v S1 G1 V1 w1 => ?_
  obtain ⟨d, vd, w3⟩ := vw_ok (d := .non) G1 V1 (wpM_bind.mp w1)
  cases d with
  | int n =>
    obtain ⟨l, w4⟩ := wpM_liftR.mp w3
    exact ⟨n, vw_int vd, l, fun p hp => kO_new G1.sub (kE_of G1 (kE_up S1 w4)) rgV_dv hp⟩
  | _ => exact w3.elim
theorem r_tupRg1 {te : TE} {f : M Fv} (h : Rt K ca W ex te f) : Rt K ca W ex (tTupRg (tRg1 te)) (rg1M true f) := by
  intro σ H Q g I s G w
  show te σ H fun x H1 => ∃ n, x = .int n ∧ RgOk 0 n ∧ ∀ q, H1 q = none → Q (.ref q) (upd H1 q (.tup (rgV 0 n)))
  refine run_setl h G w fun x s1 I1 H1 v S1 G1 V1 w1 => ?_
  obtain ⟨d, vd, w3⟩ := vw_ok (d := .non) G1 V1 (wpM_bind.mp w1)
  cases d with
  | int n =>
    obtain ⟨l, w4⟩ := wpM_liftR.mp w3
    exact ⟨n, vw_int vd, l, fun p hp => kO_tup G1.sub (kE_of G1 (y := .fz _) (kE_up S1 w4)) rgV_dv hp⟩
  | _ => exact w3.elim
theorem r_lstRg2 {te tf : TE} {f h : M Fv} (hf : Rt K ca W ex te f) (hh : Rt K ca W ex tf h) : Rt K ca W ex (tLstRg (tRg2 te tf)) (rg2M false f h) := by
  intro σ H Q g I s G w
  show te σ H fun x H1 => tf σ H1 fun y H2 => ∃ i j, x = .int i ∧ y = .int j ∧ RgOk i j ∧ ∀ q, H2 q = none → Q (.ref q) (upd H2 q (.lst (rgV i j)))
  refine run_setl hf G w fun x s1 I1 H1 v S1 G1 V1 w1 => ?_
  refine run_setl hh G1 w1 fun y s2 I2 H2 u S2 G2 V2 w2 => ?_
  obtain ⟨d, vd, w3⟩ := vw_ok (d := .non) G2 (V1.up S2) (wpM_bind.mp w2)
  obtain ⟨e, ve, w4⟩ := vw_ok (d := .non) G2 V2 (wpM_bind.mp w3)
  cases d with
  | int m =>
    cases e with
    | int n =>
      obtain ⟨l, w5⟩ := wpM_liftR.mp w4
      exact ⟨m, n, vw_int vd, vw_int ve, l, fun p hp => kO_new G2.sub (kE_of G2 (kE_up (S1.trans S2) w5)) rgV_dv hp⟩
    | _ => exact w4.elim
  | _ => exact w4.elim
theorem r_tupRg2 {te tf : TE} {f h : M Fv} (hf : Rt K ca W ex te f) (hh : Rt K ca W ex tf h) : Rt K ca W ex (tTupRg (tRg2 te tf)) (rg2M true f h) := by
  intro σ H Q g I s G w
  show te σ H fun x H1 => tf σ H1 fun y H2 => ∃ i j, x = .int i ∧ y = .int j ∧ RgOk i j ∧ ∀ q, H2 q = none → Q (.ref q) (upd H2 q (.tup (rgV i j)))
  refine run_setl hf G w fun x s1 I1 H1 v S1 G1 V1 w1 => ?_
  refine run_setl hh G1 w1 fun y s2 I2 H2 u S2 G2 V2 w2 => ?_
  obtain ⟨d, vd, w3⟩ := vw_ok (d := .non) G2 (V1.up S2) (wpM_bind.mp w2)
  obtain ⟨e, ve, w4⟩ := vw_ok (d := .non) G2 V2 (wpM_bind.mp w3)
  cases d with
  | int m =>
    cases e with
    | int n =>
      obtain ⟨l, w5⟩ := wpM_liftR.mp w4
      exact ⟨m, n, vw_int vd, vw_int ve, l, fun p hp => kO_tup G2.sub (kE_of G2 (y := .fz _) (kE_up (S1.trans S2) w5)) rgV_dv hp⟩
    | _ => exact w4.elim
  | _ => exact w4.elim
end
end L4
/-! The pure layer, part 7: what is walked, methods of lists, draws, errors raised and caught. -/
namespace L4
open PySem PySem.Spec PyProof.Rows L2 L3

/-! ### a list or a tuple walked, told behind the value -/
def iSq (K : PySem.W.Frag) (tl : TE) : TI := fun σ H R => tl σ H fun x H1 => (∃ a, x = .ref a ∧ (∃ xs, SqL K H1 a xs) ∧ R (Itl K a) H1) ∨ (∃ a, x = .ref a ∧ (∃ xs, SqT K H1 a xs) ∧ R (Itt K a) H1)
theorem pi_sq {X : Cx} {tg l : Expr} {tl : TE} (hl : PE X l tl) : PI X tg l (iSq X.K tl) := by
  refine ⟨fun pins s σ H R I h => ?_⟩
  refine thn (hl.run pins s σ H _ I h) fun v s1 ⟨x, H1, I1, r1, q1⟩ => ?_
  rcases q1 with ⟨a, e, ⟨xs, hq⟩, q⟩ | ⟨a, e, ⟨xs, hq⟩, q⟩
  · subst e
    cases r1
    obtain ⟨its, rv, p, hz⟩ := I1.list hq
    refine wpAny_pyIter_list p.isList ?_
    refine ⟨s1.heap.objs.size, [s1.heap.objs.size], _, _, H1, rfl, I1.kept (t' := s1.toks) fun b o e => Heap.get?_push_of_some _ e, turn_list a _, ⟨_, Heap.get?_push_size _ rfl, rfl, rfl⟩, fun b hb => ?_, q⟩
    have e : b = s1.heap.objs.size := by simpa using hb
    subst e
    exact I1.fpOk (Nat.le_refl _) (I1.hok.fresh (Nat.le_refl _))
  · subst e
    cases r1
    obtain ⟨its, rv, p, hz⟩ := I1.tuple hq
    refine wpAny_pyIter_tuple (show s1.heap.IsTuple a its.toArray from p) ?_
    refine ⟨s1.heap.objs.size, [s1.heap.objs.size], _, _, H1, rfl, I1.kept (t' := s1.toks) fun b o e => Heap.get?_push_of_some _ e, turn_tuple a _, ⟨_, Heap.get?_push_size _ rfl, rfl, rfl⟩, fun b hb => ?_, q⟩
    have e : b = s1.heap.objs.size := by simpa using hb
    subst e
    exact I1.fpOk (Nat.le_refl _) (I1.hok.fresh (Nat.le_refl _))
def iEnumQ (K : PySem.W.Frag) (ta : TA) : TI := fun σ H R => ta σ H fun vs H1 => (∃ a xs, vs = [.ref a] ∧ SqL K H1 a xs ∧ R (Ite K a) H1) ∨ (∃ a xs, vs = [.ref a] ∧ SqT K H1 a xs ∧ R (IteT K a) H1)
theorem pi_enumQ {X : Cx} {e : Expr} {ta : TA} {p pos tpos : Pos} {elts : List Expr} {kk : Nat} (hg : Gl X "enumerate") (hm : X.mg "enumerate" = none) (ha : PA X [e] ta) (hs : starEach [e] X.env = [(false, eval e X.env)] := by rfl) :
    PI X (.Tuple elts kk tpos) (.Call (.Name "enumerate" p) [e] [] pos) (iEnumQ X.K ta) := by
  refine ⟨fun pins s σ H R I h => ?_⟩
  refine Call_ (ld_blt I hg hm boot_enumerate (PyProof.Rows.callWith_type1 (thn (ha.run pos pins s σ H _ I h) fun us s1 ⟨vs, H1, I1, r1, q1⟩ => ?_) hs rfl))
  rcases q1 with ⟨a, xs, ex, hq, q⟩ | ⟨a, xs, ex, hq, q⟩
  · subst ex
    cases r1 with
    | cons r rr =>
      cases rr
      cases r
      obtain ⟨its, rv, p', hz⟩ := I1.list hq
      refine call_enumerate_list p'.isList fun h' he hit hsz hk => wpAny_pyIter_enum he ?_
      have I2 : Inv X pins σ H1 { s1 with heap := h' } := I1.kept (t' := s1.toks) hk
      refine ⟨s1.heap.objs.size + 1, [s1.heap.objs.size + 1, s1.heap.objs.size], _, _, H1, rfl, I2, turn_enum a (s1.heap.objs.size + 1) s1.heap.objs.size, ⟨⟨.none, he⟩, hit, Nat.succ_ne_self _⟩, fun b hb => ?_, q⟩
      have e' : b = s1.heap.objs.size + 1 ∨ b = s1.heap.objs.size := by simpa using hb
      have hle : s1.heap.objs.size ≤ b := by
        rcases e' with z | z
        · rw [z]; exact Nat.le_add_right _ _
        · rw [z]; exact Nat.le_refl _
      exact I1.fpOk hle (I1.hok.fresh hle)
  · subst ex
    cases r1 with
    | cons r rr =>
      cases rr
      cases r
      obtain ⟨its, rv, p', hz⟩ := I1.tuple hq
      refine call_enum_tup (show s1.heap.IsTuple a its.toArray from p') fun h' he hit hsz hk => wpAny_pyIter_enum he ?_
      have I2 : Inv X pins σ H1 { s1 with heap := h' } := I1.kept (t' := s1.toks) hk
      refine ⟨s1.heap.objs.size + 1, [s1.heap.objs.size + 1, s1.heap.objs.size], _, _, H1, rfl, I2,
        turn_enumT a (s1.heap.objs.size + 1) s1.heap.objs.size, ⟨⟨.none, he⟩, hit, Nat.succ_ne_self _⟩, fun b hb => ?_, q⟩
      have e' : b = s1.heap.objs.size + 1 ∨ b = s1.heap.objs.size := by simpa using hb
      have hle : s1.heap.objs.size ≤ b := by
        rcases e' with z | z
        · rw [z]; exact Nat.le_add_right _ _
        · rw [z]; exact Nat.le_refl _
      exact I1.fpOk hle (I1.hok.fresh hle)
theorem pi_sqK {X : Cx} {K : PySem.W.Frag} {tg l : Expr} {tl : TE} (h : X.K = K) (hl : PE X l tl) : PI X tg l (iSq K tl) := h ▸ pi_sq hl
theorem pi_enumQK {X : Cx} {K : PySem.W.Frag} {e : Expr} {ta : TA} {p pos tpos : Pos} {elts : List Expr} {kk : Nat} (h : X.K = K) (hg : Gl X "enumerate") (hm : X.mg "enumerate" = none) (ha : PA X [e] ta)
    (hs : starEach [e] X.env = [(false, eval e X.env)] := by rfl) : PI X (.Tuple elts kk tpos) (.Call (.Name "enumerate" p) [e] [] pos) (iEnumQ K ta) := h ▸ pi_enumQ hg hm ha hs

/-! ### what is walked, in pure words -/
def rngS (ds : List PV) : M (List PV) := match ds with
  | [.int n] => fun s => .need (n < 2 ^ 62 ∧ -(2 ^ 62) ≤ n) (.ret (.val (rgD 0 n) s))
  | [.int m, .int n] => fun s => .need (-(2 ^ 62) ≤ m ∧ m < 2 ^ 62 ∧ -(2 ^ 62) ≤ n ∧ n < 2 ^ 62) (.ret (.val (rgD m n) s))
  | _ => M.stuck
def rngM (fa : M (List Fv)) : M (List PV) := fa.bind fun xs => (vwA xs).bind rngS
def itemsM (d : PV) : M (List PV) := match d with
  | .lst xs => M.ret xs
  | .tup xs => M.ret xs
  | _ => M.stuck
def seqS (f : M Fv) : M (List PV) := f.bind fun x => (frzD x).bind itemsM
def enumD : Nat → List PV → List PV
  | _, [] => []
  | i, d :: ds => .tup [.int (i : Nat), d] :: enumD (i + 1) ds
def one1 (ds : List PV) : M PV := match ds with
  | [d] => M.ret d
  | _ => M.stuck
def enumM (fa : M (List Fv)) : M (List PV) := fa.bind fun xs => (frzA xs).bind fun ds => (one1 ds).bind fun d => (itemsM d).bind fun es => M.ret (enumD 0 es)
section
variable {X : Cx} {K : PySem.W.Frag} {ca : Nat → Addr} {W : WX} {ex : Ex} {g : Gh} {I H I' H' : Hp} {s : S4} {σ : L2.St} {v : V} {x : Fv}
theorem rgD_len {a b : Int} : (rgD a b).length = (b - a).toNat := by unfold rgD; rw [List.length_map, List.length_range]
theorem walks_rg {m n : Int} : WalksD K ca (Itr m (n - m).toNat) I (rgD m n) where
  goes := fun i H _ hi => by rw [rgD_len] at hi; exact hi
  stops := fun H _ => by rw [rgD_len]; exact Nat.le_refl _
  yields := fun i H x H' d _ e y => by
    refine .inl ⟨y.1, ?_⟩
    rw [y.2]
    unfold rgD at e
    rw [List.getElem?_map] at e
    have hi : i < (n - m).toNat := by
      cases q : (List.range (n - m).toNat)[i]? with
      | none => rw [q] at e; cases e
      | some j => simpa using (List.getElem?_eq_some_iff.mp q).1
    rw [List.getElem?_range hi] at e
    cases e
    exact .int _
theorem walks_lst {a : Addr} {vs : List V} {ds : List PV} (h : I a = some (.lst vs)) (d : DvA K ca I vs ds) : WalksD K ca (Itl K a) I ds where
  goes := fun i H S hi => ⟨vs, vs[i]'(by rw [d.length]; exact hi), ofL (S _ _ h), List.getElem?_eq_getElem _⟩
  stops := fun H S => ⟨vs, ofL (S _ _ h), by rw [d.length]; exact Nat.le_refl _⟩
  yields := fun i H x H' c S e y => by
    obtain ⟨v, e1, e2⟩ := d.get e
    have := y.2 vs (ofL (S _ _ h))
    rw [this] at e1
    cases e1
    exact .inl ⟨y.1, e2⟩
theorem walks_tup {a : Addr} {vs : List V} {ds : List PV} (h : SqT K I a vs) (d : DvA K ca I vs ds) : WalksD K ca (Itt K a) I ds where
  goes := fun i H S hi => ⟨vs, vs[i]'(by rw [d.length]; exact hi), Same.seqT S h, List.getElem?_eq_getElem _⟩
  stops := fun H S => ⟨vs, Same.seqT S h, by rw [d.length]; exact Nat.le_refl _⟩
  yields := fun i H x H' c S e y => by
    obtain ⟨v, e1, e2⟩ := d.get e
    have := y.2 vs (Same.seqT S h)
    rw [this] at e1
    cases e1
    exact .inl ⟨y.1, e2⟩
theorem enumD_len : ∀ (ds : List PV) (k : Nat), (enumD k ds).length = ds.length
  | [], _ => rfl
  | d :: ds, k => by show (enumD (k + 1) ds).length + 1 = ds.length + 1; rw [enumD_len]
theorem enumD_get : ∀ {ds : List PV} {k i : Nat} {e : PV}, (enumD k ds)[i]? = some e → ∃ d, ds[i]? = some d ∧ e = .tup [.int ((k + i : Nat) : Int), d]
  | [], _, _, _, h => by cases h
  | d :: ds, k, 0, e, h => by cases h; exact ⟨d, rfl, rfl⟩
  | d :: ds, k, i + 1, e, h => by
    obtain ⟨c, h1, h2⟩ := enumD_get (ds := ds) (k := k + 1) (i := i) (e := e) h
    exact ⟨c, h1, by rw [h2, show k + 1 + i = k + (i + 1) by omega]⟩
theorem walks_enumL {a : Addr} {vs : List V} {ds : List PV} (h : I a = some (.lst vs)) (d : DvA K ca I vs ds) : WalksD K ca (Ite K a) I (enumD 0 ds) := by
  have wk : Walk (Ite K a) vs.length (fun H => SqL K H a vs) (YPair (fun i => some (.int (i : Nat))) (fun i => vs[i]?)) := walk_enum
  refine ⟨fun i H S hi => wk.goes i H (by rw [enumD_len] at hi; rw [d.length]; exact hi) (ofL (S _ _ h)), fun H S => by rw [enumD_len, ← d.length]; exact wk.stops H (ofL (S _ _ h)), fun i H x H' c S e y => ?_⟩
  obtain ⟨c', e1, rfl⟩ := enumD_get e
  have hi : i < vs.length := by rw [d.length]; exact (List.getElem?_eq_some_iff.mp e1).1
  obtain ⟨T, u, v, rfl, hT, rfl, q1, q2⟩ := wk.yields i H x H' hi (ofL (S _ _ h)) y
  cases q1
  obtain ⟨v', e2, e3⟩ := d.get e1
  cases (show some v = some v' from q2.symm.trans e2)
  exact .inr ⟨T, _, _, rfl, hT, rfl, .cons (.int _) (.cons e3 .nil), by rw [Nat.zero_add]⟩
theorem walks_enumT {a : Addr} {vs : List V} {ds : List PV} (h : SqT K I a vs) (d : DvA K ca I vs ds) : WalksD K ca (IteT K a) I (enumD 0 ds) := by
  have wk : Walk (IteT K a) vs.length (fun H => SqT K H a vs) (YPair (fun i => some (.int (i : Nat))) (fun i => vs[i]?)) := walk_enumT
  refine ⟨fun i H S hi => wk.goes i H (by rw [enumD_len] at hi; rw [d.length]; exact hi) (Same.seqT S h), fun H S => by rw [enumD_len, ← d.length]; exact wk.stops H (Same.seqT S h), fun i H x H' c S e y => ?_⟩
  obtain ⟨c', e1, rfl⟩ := enumD_get e
  have hi : i < vs.length := by rw [d.length]; exact (List.getElem?_eq_some_iff.mp e1).1
  obtain ⟨T, u, v, rfl, hT, rfl, q1, q2⟩ := wk.yields i H x H' hi (Same.seqT S h) y
  cases q1
  obtain ⟨v', e2, e3⟩ := d.get e1
  cases (show some v = some v' from q2.symm.trans e2)
  exact .inr ⟨T, _, _, rfl, hT, rfl, .cons (.int _) (.cons e3 .nil), by rw [Nat.zero_add]⟩
theorem ri_rng1 {ta : TA} {fa : M (List Fv)} (ha : Ra K ca W ex ta fa) : Ri K ca W ex (iRng1 ta) ((fa.bind fun xs => (vwA xs).bind fun ds => match ds with
    | [.int n] => fun s => .need (n < 2 ^ 62 ∧ -(2 ^ 62) ≤ n) (.ret (.val (rgD 0 n) s))
    | _ => M.stuck)) := by
  intro σ H R g I s G w
  refine ha σ H _ g I s G (wpM_mono (wpM_bind.mp w) (fun xs s1 z => ?_) fun _ _ z => z)
  intro I1 H1 vs S1 G1 V1
  obtain ⟨ds, vds, w2⟩ := vwA_ok G1 V1 (wpM_bind.mp z)
  match ds, vds, w2 with
  | [.int n], vds, w2 =>
    obtain ⟨v, rfl, hv⟩ := vds.one
    obtain ⟨l, w3⟩ := w2
    refine ⟨n, by rw [hv.int], l.2, l.1, w3 I1 H1 _ S1 G1 ?_⟩
    have z := walks_rg (K := K) (ca := ca) (I := I1) (m := 0) (n := n)
    rw [Int.sub_zero] at z
    exact z
theorem ri_rng2 {ta : TA} {fa : M (List Fv)} (ha : Ra K ca W ex ta fa) : Ri K ca W ex (iRng2 ta) ((fa.bind fun xs => (vwA xs).bind fun ds => match ds with
    | [.int m, .int n] => fun s => .need (-(2 ^ 62) ≤ m ∧ m < 2 ^ 62 ∧ -(2 ^ 62) ≤ n ∧ n < 2 ^ 62) (.ret (.val (rgD m n) s))
    | _ => M.stuck)) := by
  intro σ H R g I s G w
  refine ha σ H _ g I s G (wpM_mono (wpM_bind.mp w) (fun xs s1 z => ?_) fun _ _ z => z)
  intro I1 H1 vs S1 G1 V1
  obtain ⟨ds, vds, w2⟩ := vwA_ok G1 V1 (wpM_bind.mp z)
  match ds, vds, w2 with
  | [.int m, .int n], vds, w2 =>
    obtain ⟨v, u, rfl, hv, hu⟩ := vds.two
    obtain ⟨l, w3⟩ := w2
    exact ⟨m, n, by rw [hv.int, hu.int], l, w3 I1 H1 _ S1 G1 walks_rg⟩
theorem ri_sq {tl : TE} {f : M Fv} (h : Rt K ca W ex tl f) : Ri K ca W ex (iSq K tl) (seqS f) := by
  intro σ H R g I s G w
  refine h σ H _ g I s G (wpM_mono (wpM_bind.mp w) (fun x s1 z => ?_) fun _ _ z => z)
  intro I1 H1 v S1 G1 V1
  obtain ⟨d, I2, s2, S2, G2, hd, q⟩ := frzD_ok G1 V1 (wpM_bind.mp z)
  cases d with
  | lst ds =>
    obtain ⟨a, vs, rfl, ha, da⟩ := hd.lstRef
    exact .inl ⟨a, rfl, ⟨vs, ofL (G2.sub _ _ ha)⟩, q I2 H1 _ (S1.trans S2) G2 (walks_lst ha da)⟩
  | tup ds =>
    obtain ⟨a, vs, rfl, ha, da⟩ := hd.tupRef
    exact .inr ⟨a, rfl, ⟨vs, Same.seqT G2.sub ha⟩, q I2 H1 _ (S1.trans S2) G2 (walks_tup ha da)⟩
  | _ => exact q.elim
theorem ri_enum {te : TE} {f : M Fv} (h : Rt K ca W ex te f) : Ri K ca W ex (iEnumQ K (tCons te tNil)) (f.bind fun x => (frzD x).bind fun d => (itemsM d).bind fun es => M.ret (enumD 0 es)) := by
  intro σ H R g I s G w
  show te σ H fun x H1 => (∃ a xs, [x] = [.ref a] ∧ SqL K H1 a xs ∧ R (Ite K a) H1) ∨ (∃ a xs, [x] = [.ref a] ∧ SqT K H1 a xs ∧ R (IteT K a) H1)
  refine h σ H _ g I s G (wpM_mono (wpM_bind.mp w) (fun x s1 z => ?_) fun _ _ z => z)
  intro I1 H1 v S1 G1 V1
  obtain ⟨d, I2, s2, S2, G2, hd, q⟩ := frzD_ok G1 V1 (wpM_bind.mp z)
  cases d with
  | lst ds =>
    obtain ⟨a, vs, rfl, ha, da⟩ := hd.lstRef
    exact .inl ⟨a, vs, rfl, ofL (G2.sub _ _ ha), q I2 H1 _ (S1.trans S2) G2 (walks_enumL ha da)⟩
  | tup ds =>
    obtain ⟨a, vs, rfl, ha, da⟩ := hd.tupRef
    exact .inr ⟨a, vs, rfl, Same.seqT G2.sub ha, q I2 H1 _ (S1.trans S2) G2 (walks_enumT ha da)⟩
  | _ => exact q.elim
end
/-- range(n), range(m, n) as sources -/
def rng1M (fa : M (List Fv)) : M (List PV) := fa.bind fun xs => (vwA xs).bind fun ds => match ds with
  | [.int n] => fun s => .need (n < 2 ^ 62 ∧ -(2 ^ 62) ≤ n) (.ret (.val (rgD 0 n) s))
  | _ => M.stuck
def rng2M (fa : M (List Fv)) : M (List PV) := fa.bind fun xs => (vwA xs).bind fun ds => match ds with
  | [.int m, .int n] => fun s => .need (-(2 ^ 62) ≤ m ∧ m < 2 ^ 62 ∧ -(2 ^ 62) ≤ n ∧ n < 2 ^ 62) (.ret (.val (rgD m n) s))
  | _ => M.stuck
def enum1M (f : M Fv) : M (List PV) := f.bind fun x => (frzD x).bind fun d => (itemsM d).bind fun es => M.ret (enumD 0 es)

/-! ### methods that write a list of one's own -/
def MutOk (K : PySem.W.Frag) (ca : Nat → Addr) (r : V → List V → Hp → VK → Prop) (f : List PV → List PV → T (PV × List PV)) : Prop := ∀ (I H : Hp) (p : Addr) (vs as : List V) (xs ds : List PV) (Q : VK), Same I H → I p = none → H p = some (.lst vs) → DvA K ca I vs xs → DvA K ca I as ds →
  wp (f xs ds) (fun r => ∀ v ws, Dv K ca I v r.1 → DvA K ca I ws r.2 → Q v (upd H p (.lst ws))) → r (.ref p) as H Q
def bmS (s : S4) (j : Nat) (f : List PV → List PV → T (PV × List PV)) (ds : List PV) : Option Sl → T (Out Fv)
  | some (.ow xs) => (f xs ds).bind fun r => .ret (.val (.fz r.1) (s.set j (.ow r.2)))
  | _ => .stuck
def bmK (f : List PV → List PV → T (PV × List PV)) (o : Fv) (ds : List PV) : M Fv := match o with
  | .bw j => fun s => bmS s j f ds s[j]?
  | _ => M.stuck
def isLst (d : PV) : M Unit := match d with
  | .lst _ => M.ret ()
  | _ => M.stuck
def bmM (f : List PV → List PV → T (PV × List PV)) (fo : M Fv) (fa : M (List Fv)) : M Fv := (setl fo).bind fun o => (vw o).bind fun d => (isLst d).bind fun _ => fa.bind fun xs => (frzA xs).bind fun ds => bmK f o ds
def appendP (xs ds : List PV) : T (PV × List PV) := match ds with
  | [d] => .need (xs.length < 16777216) (.ret (.non, xs ++ [d]))
  | _ => .stuck
def extendP (xs ds : List PV) : T (PV × List PV) := match ds with
  | [.lst ys] => .need (xs.length + ys.length ≤ 16777216) (.ret (.non, xs ++ ys))
  | _ => .stuck
def popK (xs : List PV) (k : Nat) : Option PV → T (PV × List PV)
  | some d => .ret (d, xs.eraseIdx k)
  | none => .stuck
def popAt (xs : List PV) : Option Nat → T (PV × List PV)
  | some k => popK xs k xs[k]?
  | none => .stuck
def popAtP (xs ds : List PV) : T (PV × List PV) := match ds with
  | [.int i] => .need (-(2 ^ 63) ≤ i ∧ i < 2 ^ 63) (popAt xs (seqIndex? i xs.length))
  | _ => .stuck
def popL (xs : List PV) : Option PV → T (PV × List PV)
  | some d => .ret (d, xs.dropLast)
  | none => .stuck
def popP (xs ds : List PV) : T (PV × List PV) := match ds with
  | [] => popL xs xs[xs.length - 1]?
  | _ => .stuck
def reverseP (xs ds : List PV) : T (PV × List PV) := match ds with
  | [] => .ret (.non, xs.reverse)
  | _ => .stuck
def clearP (xs ds : List PV) : T (PV × List PV) := match ds with
  | [] => .ret (.non, [])
  | _ => .stuck
section
variable {X : Cx} {K : PySem.W.Frag} {ca : Nat → Addr} {W : WX} {ex : Ex} {g : Gh} {I H I' H' : Hp} {s : S4} {σ : L2.St} {v : V} {x : Fv}
theorem r_bm {r : V → List V → Hp → VK → Prop} {f : List PV → List PV → T (PV × List PV)} {to : TE} {t : TA} {fo : M Fv} {fa : M (List Fv)} (o : MutOk K ca r f) (ho : Rt K ca W ex to fo) (ha : Ra K ca W ex t fa) : Rt K ca W ex (tBM K "list" r to t) (bmM f fo fa) := by
  intro σ H Q g I s G w
  show to σ H fun x H1 => tyV K "list" x H1 ∧ t σ H1 fun xs H2 => r x xs H2 Q
  refine run_setl ho G w fun x s1 I1 H1 v S1 G1 V1 w1 => ?_
  obtain ⟨d, vd, w2⟩ := vw_ok (d := .non) G1 V1 (wpM_bind.mp w1)
  cases d with
  | lst zs =>
    obtain ⟨a, vs, rfl, hv, da⟩ := Vw.lst G1.sub vd
    refine ⟨.inl ⟨rfl, vs, ofL hv⟩, ha σ H1 _ g I1 s1 G1 (wpM_mono (wpM_bind.mp (show wpM (fa.bind fun xs => (frzA xs).bind fun ds => bmK f x ds) s1 _ _ from w2)) (fun xs s2 z => ?_) fun _ _ z => z)⟩
    intro I2 H2 as S2 G2 V2
    obtain ⟨ds, I3, s3, S3, G3, d3, w3⟩ := frzA_ok G2 V2 (wpM_bind.mp z)
    have V3 := V1.up (S2.trans S3)
    cases x with
    | bw j =>
      have V3 : σ[j]? = some (some (V.ref a)) := V3
      have w3 : wp (bmS s3 j f ds s3[j]?) (oK (kE K ca ex g I σ Q) (kX K ca W ex g σ)) := w3
      cases e : s3[j]? with
      | none => rw [e] at w3; exact w3.elim
      | some y =>
        rw [e] at w3
        cases y with
        | ow xs =>
          obtain ⟨p, ws, ep, h1, h2, h3, h4, h5⟩ := G3.own e V3
          cases ep
          refine o I3 H2 a ws as xs ds Q G3.sub h1 h4 h5 d3 (wp_mono (wp_bind.mp w3) fun r z => ?_)
          exact fun v us dv du => z I3 _ v ((S1.trans S2).trans S3) (G3.write e V3 h1 h2 h3 h4 du) (.inr dv)
        | _ => exact w3.elim
    | _ => exact w3.elim
  | _ => exact w2.elim
theorem r_bm0 {r : V → List V → Hp → VK → Prop} {f : List PV → List PV → T (PV × List PV)} {to : TE} {fo : M Fv} (o : MutOk K ca r f) (ho : Rt K ca W ex to fo) : Rt K ca W ex (tBM0 K "list" r to) (bmM f fo (M.ret [])) :=
  r_bm (t := tNil) o ho ra_nil
theorem o_append : MutOk K ca rAppend appendP := by
  intro I H p vs as xs ds Q S hp hv dx da w
  match ds, da, w with
  | [d], .cons h .nil, w => exact ⟨p, vs, _, rfl, rfl, hv, by rw [dx.length, sizeLine_eq]; exact w.1, w.2 _ _ .non (DvA.append dx (.cons h .nil))⟩
theorem o_extend : MutOk K ca rExtend extendP := by
  intro I H p vs as xs ds Q S hp hv dx da w
  match ds, da, w with
  | [.lst ys], .cons h .nil, w =>
    obtain ⟨b, us, rfl, hb, db⟩ := h.lstRef
    exact ⟨p, b, vs, us, rfl, rfl, hv, S _ _ hb, by rw [dx.length, db.length, sizeLine_eq]; exact w.1, w.2 _ _ .non (DvA.append dx db)⟩
theorem o_popAt : MutOk K ca rPopAt popAtP := by
  intro I H p vs as xs ds Q S hp hv dx da w
  match ds, da, w with
  | [.int i], .cons h .nil, w =>
    obtain ⟨l, w⟩ := w
    cases h
    cases e : seqIndex? i xs.length with
    | none => rw [e] at w; exact w.elim
    | some k =>
      rw [e] at w
      have w : wp (popK xs k xs[k]?) _ := w
      cases e2 : xs[k]? with
      | none => rw [e2] at w; exact w.elim
      | some d =>
        rw [e2] at w
        obtain ⟨u, e3, du⟩ := dx.get e2
        exact ⟨p, vs, i, k, u, rfl, rfl, hv, l.1, l.2, by rw [dx.length]; exact e, e3, w u _ du (dx.erase k)⟩
theorem DvA.dropLast : ∀ {vs : List V} {ds : List PV}, DvA K ca I vs ds → DvA K ca I vs.dropLast ds.dropLast
  | _, _, .nil => .nil
  | _, _, .cons _ .nil => .nil
  | _, _, .cons h (.cons h2 t) => .cons h (DvA.dropLast (.cons h2 t))
theorem o_pop : MutOk K ca rPop popP := by
  intro I H p vs as xs ds Q S hp hv dx da w
  match ds, da, w with
  | [], .nil, w =>
    have w : wp (popL xs xs[xs.length - 1]?) _ := w
    cases e2 : xs[xs.length - 1]? with
    | none => rw [e2] at w; exact w.elim
    | some d =>
      rw [e2] at w
      obtain ⟨u, e3, du⟩ := dx.get e2
      exact ⟨p, vs, u, rfl, rfl, hv, by rw [dx.length]; exact e3, w u _ du dx.dropLast⟩
theorem o_reverse : MutOk K ca rReverse reverseP := by
  intro I H p vs as xs ds Q S hp hv dx da w
  match ds, da, w with
  | [], .nil, w => exact ⟨p, vs, rfl, rfl, hv, w _ _ .non dx.reverse⟩
theorem o_clear : MutOk K ca rClear clearP := by
  intro I H p vs as xs ds Q S hp hv dx da w
  match ds, da, w with
  | [], .nil, w => exact ⟨p, vs, rfl, rfl, hv, w _ _ .non .nil⟩
end
/-! ### x.index(y) -/
def findD (d : PV) : List PV → Nat → Option Nat
  | [], _ => none
  | z :: zs, i => if PV.eqv z d then some i else findD d zs (i + 1)
def natK : Option Nat → T Rv
  | some j => .ret (.fz (.int (j : Nat)))
  | none => .stuck
def indexP (o d : PV) : T Rv := match o with
  | .lst xs => .need (flatD d = true ∧ xs.all flatD = true) (natK (findD d xs 0))
  | _ => .stuck
def indexM (fo : M Fv) (fa : M Fv) : M Fv := (setl fo).bind fun o => (vw o).bind fun d => (isLst d).bind fun _ => (setl fa).bind fun y => (vw o).bind fun c => (vw y).bind fun e => liftR (indexP c e)
section
variable {X : Cx} {K : PySem.W.Frag} {ca : Nat → Addr} {W : WX} {ex : Ex} {g : Gh} {I H I' H' : Hp} {s : S4} {σ : L2.St} {v : V} {x : Fv}
theorem findD_ok {d : PV} : ∀ {zs : List PV} {i j : Nat}, findD d zs i = some j → ∃ k z, j = i + k ∧ zs[k]? = some z ∧ PV.eqv z d = true ∧ ∀ m z', m < k → zs[m]? = some z' → PV.eqv z' d = false
  | z :: zs, i, j, h => by
    unfold findD at h
    by_cases c : PV.eqv z d = true
    · rw [if_pos c] at h
      cases h
      exact ⟨0, z, rfl, rfl, c, fun m z' hm _ => absurd hm (Nat.not_lt_zero _)⟩
    · rw [if_neg c] at h
      obtain ⟨k, y, e1, e2, e3, e4⟩ := findD_ok h
      refine ⟨k + 1, y, by omega, e2, e3, fun m z' hm hz => ?_⟩
      cases m with
      | zero => cases hz; simpa using c
      | succ m => exact e4 m z' (by omega) hz
theorem r_index {to te : TE} {fo fa : M Fv} (ho : Rt K ca W ex to fo) (ha : Rt K ca W ex te fa) : Rt K ca W ex (tBM K "list" (rIndex K) to (tCons te tNil)) (indexM fo fa) := by
  intro σ H Q g I s G w
  show to σ H fun x H1 => tyV K "list" x H1 ∧ te σ H1 fun y H2 => rIndex K x [y] H2 Q
  refine run_setl ho G w fun x s1 I1 H1 v S1 G1 V1 w1 => ?_
  obtain ⟨d, vd, w2⟩ := vw_ok (d := .non) G1 V1 (wpM_bind.mp w1)
  cases d with
  | lst zs =>
    obtain ⟨a, vs, rfl, hv, da⟩ := Vw.lst G1.sub vd
    refine ⟨.inl ⟨rfl, vs, ofL hv⟩, ?_⟩
    refine run_setl (Q := kE K ca ex g I σ Q) ha G1 w2 fun y s2 I2 H2 u S2 G2 V2 w3 => ?_
    obtain ⟨c, vc, w4⟩ := vw_ok (d := .non) G2 (V1.up S2) (wpM_bind.mp w3)
    obtain ⟨e, ve, w5⟩ := vw_ok (d := .non) G2 V2 (wpM_bind.mp w4)
    have w6 := wpM_liftR.mp w5
    cases c with
    | lst xs =>
      obtain ⟨a2, ws, ea, hw, dw⟩ := Vw.lst G2.sub vc
      cases ea
      obtain ⟨l, w7⟩ := w6
      cases e1 : findD e xs 0 with
      | none => rw [e1] at w7; exact w7.elim
      | some j =>
        rw [e1] at w7
        obtain ⟨k, z, e2, e3, e4, e5⟩ := findD_ok e1
        rw [Nat.zero_add] at e2
        subst e2
        have dy := vw_flat G2.sub ve l.1
        have fl : ∀ {m : Nat} {c : PV}, xs[m]? = some c → flatD c = true := fun h => List.all_eq_true.mp l.2 _ (List.mem_of_getElem? h)
        obtain ⟨z2, e6, dz⟩ := dw.get e3
        refine ⟨a, ws, u, j, z2, rfl, rfl, ofL hw, flat_dv dy l.1, (inV_dv dy l.1 dw l.2).1, e6, by rw [eqV_dv dz (fl e3) dy l.1]; exact e4, fun m z' hm hz => ?_, ?_⟩
        · obtain ⟨c', e7, dc⟩ := dw.getV hz
          rw [eqV_dv dc (fl e7) dy l.1]
          exact e5 m c' hm e7
        · exact kO_int G2.sub (kE_of G2 (y := .fz _) (kE_up (S1.trans S2) w7))
    | _ => exact w6.elim
  | _ => exact w2.elim
end
/-! ### a drawn number -/
def drawM (fh fn : M Fv) : M Fv := (setl fh).bind fun x => (setl fn).bind fun y => (vw y).bind fun d => match x, d with
  | .fz .hand, .int n => fun s => .draw n fun r => .ret (.val (.fz (.int r)) s)
  | _, _ => M.stuck
section
variable {X : Cx} {K : PySem.W.Frag} {ca : Nat → Addr} {W : WX} {ex : Ex} {g : Gh} {I H I' H' : Hp} {s : S4} {σ : L2.St} {v : V} {x : Fv}
theorem r_draw {th tn : TE} {fh fn : M Fv} {E : XK} (hh : Rt K ca W ex th fh) (hn : Rt K ca W ex tn fn) : Rt K ca W ex (tCall (spDraw K) [] E (tCons th (tCons tn tNil))) (drawM fh fn) := by
  intro σ H Q g I s G w
  show th σ H fun x H1 => tn σ H1 fun y H2 => spDraw K [x, y] H2 Q E
  refine run_setl hh G w fun x s1 I1 H1 v S1 G1 V1 w1 => ?_
  refine run_setl hn G1 w1 fun y s2 I2 H2 u S2 G2 V2 w2 => ?_
  obtain ⟨d, vd, w3⟩ := vw_ok (d := .non) G2 V2 (wpM_bind.mp w2)
  have V1' := V1.up S2
  cases x with
  | fz c =>
    cases c with
    | hand =>
      cases d with
      | int n =>
        obtain rfl := vw_int vd
        obtain ⟨_, a, ea, rfl⟩ := (V1' : Dh K ca g.h I2 v .hand).resolve_right (fun z => nomatch z)
        obtain ⟨⟨n0, n1⟩, w4⟩ := w3
        have hd := G2.hd
        rw [ea] at hd
        refine ⟨I2, a, n, rfl, hd, n0, n1, fun H' r f hh' r0 r1 => ?_⟩
        have f' : Lf (Mo g.h) I2 H2 I2 H' := f.mono fun b hb => by rw [hb]; exact ea
        exact w4 r r0 r1 I2 H' _ (S1.trans S2) (G2.step f' (by rw [ea]; exact hh')) (.inr (.int r))
      | _ => exact w3.elim
    | _ => cases d <;> exact w3.elim
  | bw i => cases d <;> exact w3.elim
  | ow xs => cases d <;> exact w3.elim
  | nd e => cases d <;> exact w3.elim
end
end L4
/-! The pure layer, part 8: errors raised and caught, x += n, a, b = c, d. -/
namespace L4
open PySem PySem.Spec PyProof.Rows L2 L3

/-! ### raise -/
/-- an own error's __init__ that keeps its arguments by these names -/
def spIniN (C : Addr) (names : List Str) : Sp := fun vs H Q _ => ∃ (a : Addr) (vals : List V), vs = .ref a :: vals ∧ vals.length = names.length ∧ H a = some (exo a C none) ∧
  ∀ d, H d = none → d ≠ a → ∀ H', H' a = some (exo a C (some d)) → H' d = some (exd d (names.zip vals).reverse) → (∀ b, b ≠ a → b ≠ d → H' b = H b) → Q .non H'
def raiseM (c : Nat) (names : List Str) (fa : M (List Fv)) : M Fl := fa.bind fun xs => (frzA xs).bind fun ds => fun s => .need (ds.length = names.length ∧ ds.length ≤ 900) (.ret (.exc ⟨c, (names.zip ds).reverse⟩ s))
def raise0M (c : Nat) : M Fl := fun s => .ret (.exc ⟨c, []⟩ s)
section
variable {X : Cx} {K : PySem.W.Frag} {ca : Nat → Addr} {W : WX} {ex : Ex} {g : Gh} {I H I' H' : Hp} {s : S4} {σ : L2.St} {v : V} {x : Fv}
theorem DvA.zip : ∀ {names : List Str} {vs : List V} {ds : List PV}, DvA K ca I vs ds → DvF K ca I (names.zip vs) (names.zip ds)
  | [], _, _, _ => by rw [List.zip_nil_left, List.zip_nil_left]; exact .nil
  | _ :: _, _, _, .nil => .nil
  | n :: ns, _, _, .cons h t => .cons h (DvA.zip t)
theorem DvF.append : ∀ {vs ws : List (Str × V)} {ds es : List (Str × PV)}, DvF K ca I vs ds → DvF K ca I ws es → DvF K ca I (vs ++ ws) (ds ++ es)
  | _, _, _, _, .nil, q => q
  | _, _, _, _, .cons h t, q => .cons h (DvF.append t q)
theorem DvF.reverse : ∀ {vs : List (Str × V)} {ds : List (Str × PV)}, DvF K ca I vs ds → DvF K ca I vs.reverse ds.reverse
  | _, _, .nil => .nil
  | _, _, .cons h t => by
    rw [List.reverse_cons, List.reverse_cons]
    exact DvF.append (DvF.reverse t) (.cons h .nil)
theorem DvF.look : ∀ {vs : List (Str × V)} {ds : List (Str × PV)} {f : Str} {d : PV}, DvF K ca I vs ds → ds.lookup f = some d → ∃ v, vs.lookup f = some v ∧ Dv K ca I v d
  | _, _, _, _, .nil, e => by cases e
  | _, _, f, d, @DvF.cons _ _ _ f' v vs d' ds h t, e => by
    rw [List.lookup_cons] at e ⊢
    cases c : (f == f') with
    | true =>
      rw [c] at e
      cases e
      exact ⟨v, rfl, h⟩
    | false =>
      rw [c] at e
      exact DvF.look t e
theorem rs_raise {c : Nat} {names : List Str} {ta : TA} {fa : M (List Fv)} (ha : Ra K ca W ex ta fa) : Rs K ca W ex (fun _ σ H => tMkO (ca c) (spIniN (ca c) names) [] ta σ H fun cls d H' => W cls d σ H') (raiseM c names fa) := by
  intro D σ H g I s G w
  refine ha σ H _ g I s G (wpM_mono (wpM_bind.mp w) (fun xs s1 z => ?_) fun _ _ z => kX_of z)
  intro I1 H1 vs S1 G1 V1
  obtain ⟨ds, I2, s2, S2, G2, d2, w2⟩ := frzA_ok G1 V1 (wpM_bind.mp z)
  obtain ⟨⟨l1, l2⟩, w3⟩ := w2
  have hl : vs.length = names.length := by rw [d2.length, l1]
  refine ⟨by rw [d2.length]; omega, fun a ha => ⟨a, vs, by rw [List.append_nil], hl, upd_same, fun d hd hda H' e1 e2 e3 => ?_⟩⟩
  have hd1 : H1 d = none := by rw [upd_ne hda] at hd; exact hd
  refine ⟨rfl, d, (names.zip vs).reverse, e1, e2, hd1, ?_⟩
  have e4 : ∀ b, b ≠ d → b ≠ a → (upd (del H' a) d (HO.xd (names.zip vs).reverse)) b = H1 b := fun b h1 h2 => by
    rw [upd_ne h1, del_ne h2, e3 b h2 h1, upd_ne h2]
  have f : Lf No I2 H1 (upd I2 d (HO.xd (names.zip vs).reverse)) (upd (del H' a) d (HO.xd (names.zip vs).reverse)) := by
    refine ⟨same_updN (Same.sub G2.sub hd1), fun b o q => ?_, fun b q => ?_, fun b o _ q => ?_, fun b q => ?_⟩
    · by_cases hb : b = d
      · subst hb; rw [upd_same] at q ⊢; exact q
      · rw [upd_ne hb] at q
        have q' := G2.sub _ _ q
        rw [e4 b hb (ne_of_none q' ha)]
        exact q'
    · by_cases hb : b = d
      · subst hb; exact .inr hd1
      · rw [upd_ne hb] at q; exact .inl q
    · rw [e4 b (ne_of_none q hd1) (ne_of_none q ha)]; exact q
    · have nb : b ≠ d := fun z => q (by rw [z]; exact hd1)
      have na : b ≠ a := fun z => q (by rw [z]; exact ha)
      rw [e4 b nb na]
      exact q
  exact w3 _ _ σ _ _ (G2.stepNo f) ⟨rfl, .inr ⟨d, _, rfl, upd_same, (DvA.zip d2).reverse.up f.ext⟩⟩
theorem rs_raise0 {c : Nat} : Rs K ca W ex (fun _ σ H => (fun _ H Q => Q (.ref (ca c)) none H : L2.St → Hp → XK → Prop) σ H fun cls d H' => W cls d σ H') (raise0M c) :=
  fun D σ H g I s G w => w I H σ _ _ G ⟨rfl, .inl ⟨rfl, rfl⟩⟩
end
/-! ### try -/
def noXc : S4 → Bool
  | [] => true
  | .xc _ :: _ => false
  | _ :: r => noXc r
def cleanK (i : Nat) : Out Fl → T (Out Fl)
  | .val .nx s => .need (noXc (s.set i .no) = true) (.ret (.val .nx (s.set i .no)))
  | .val .bk s => .need (noXc (s.set i .no) = true) (.ret (.val .bk (s.set i .no)))
  | .val .ct s => .need (noXc (s.set i .no) = true) (.ret (.val .ct (s.set i .no)))
  | .val (.rt r) s => .ret (.val (.rt r) s)
  | .exc _ _ => .stuck
def bareK : Out Fl → T (Out Fl)
  | .val .nx s => .need (noXc s = true) (.ret (.val .nx s))
  | .val .bk s => .need (noXc s = true) (.ret (.val .bk s))
  | .val .ct s => .need (noXc s = true) (.ret (.val .ct s))
  | .val (.rt r) s => .ret (.val (.rt r) s)
  | .exc _ _ => .stuck
/-- one clause: the class's number, the name's slot, the suite -/
structure Hd where
  c : Nat
  i : Option Nat
  F : M Fl
def hdM (sub : Nat → Nat → Bool) : List Hd → Xc → S4 → T (Out Fl)
  | [], x, s => .ret (.exc x s)
  | ⟨c, some i, F⟩ :: r, x, s => .need (sub x.c x.c = true) (if sub x.c c then .need (noXc s = true) ((F (s.set i (.xc x))).bind (cleanK i)) else hdM sub r x s)
  | ⟨c, none, F⟩ :: r, x, s => .need (sub x.c x.c = true) (if sub x.c c then .need (noXc s = true) ((F s).bind bareK) else hdM sub r x s)
def tryK (sub : Nat → Nat → Bool) (l : List Hd) : Out Fl → T (Out Fl)
  | .val a s => .ret (.val a s)
  | .exc x s => hdM sub l x s
def tryM (sub : Nat → Nat → Bool) (body : M Fl) (l : List Hd) : M Fl := fun s => (body s).bind (tryK sub l)
def xfK (c : Nat) (f : Str) (s : S4) : Option Sl → T (Out Fv)
  | some (.xc x) => .need (x.c = c) (match x.fs.lookup f with
    | some d => .ret (.val (.fz d) s)
    | none => .stuck)
  | _ => .stuck
/-- e.f of the caught error -/
def xfM (c i : Nat) (f : Str) : M Fv := fun s => xfK c f s s[i]?
inductive HdsOk (K : PySem.W.Frag) (ca : Nat → Addr) (sub : Nat → Nat → Bool) : List Cl → List Hd → Prop
  | nil : HdsOk K ca sub [] []
  | cons {c i : Nat} {ts : Addr → Value → Option Addr → TS} {F : M Fl} {l : List Cl} {hs : List Hd} (hc : ∀ n, sub n n = true → PySem.W.exmOne K (.ref (ca n)) (.ref (ca c)) = some (sub n c))
      (hF : ∀ a cls d, Rs K ca (fun _ _ _ _ => False) (a, cls, d) (ts a cls d) F) (r : HdsOk K ca sub l hs) : HdsOk K ca sub (⟨.ref (ca c), some i, ts⟩ :: l) (⟨c, some i, F⟩ :: hs)
  | bare {c : Nat} {ts : Addr → Value → Option Addr → TS} {F : M Fl} {l : List Cl} {hs : List Hd} (hc : ∀ n, sub n n = true → PySem.W.exmOne K (.ref (ca n)) (.ref (ca c)) = some (sub n c))
      (hF : ∀ a cls d, Rs K ca (fun _ _ _ _ => False) (a, cls, d) (ts a cls d) F) (r : HdsOk K ca sub l hs) : HdsOk K ca sub (⟨.ref (ca c), none, ts⟩ :: l) (⟨c, none, F⟩ :: hs)
section
variable {X : Cx} {K : PySem.W.Frag} {ca : Nat → Addr} {W : WX} {ex ex' : Ex} {g : Gh} {I H I' H' : Hp} {s : S4} {σ : L2.St} {v : V} {x : Fv}
theorem noXc_get : ∀ {s : S4} {i : Nat} {x : Xc}, noXc s = true → s[i]? ≠ some (.xc x)
  | [], _, _, _, e => by cases e
  | y :: r, 0, x, h, e => by
    cases e
    cases h
  | y :: r, i + 1, x, h, e => by
    have h' : noXc r = true := by cases y <;> first | exact h | cases h
    exact noXc_get h' (show r[i]? = some (.xc x) from e)
theorem Good.reEx (G : Good K ca ex g I H s σ) (h : noXc s = true) : Good K ca ex' g I H s σ :=
  ⟨G.s0, G.im, G.lf, G.hd, G.len, fun i x v e1 e2 => by
    have z := G.at' i x v e1 e2
    cases x with
    | xc y => exact absurd e1 (noXc_get h)
    | _ => exact z, G.sep, G.res⟩
theorem Good.setXc (G : Good K ca ex g I H s σ) (h : noXc s = true) (i : Nat) {a : Addr} {cls : Value} {dd : Option Addr} {x : Xc} (xo : XcOk K ca I cls dd x) : Good K ca (a, cls, dd) g I H (s.set i (.xc x)) (σ.set i (some (.ref a))) :=
  (G.reEx (ex' := (a, cls, dd)) h).setN i rfl ⟨rfl, xo⟩
theorem hds_ok {sub : Nat → Nat → Bool} {D : Ends} : ∀ {l : List Cl} {hs : List Hd}, HdsOk K ca sub l hs → ∀ {x : Xc} {s' : S4}, wp (hdM sub hs x s') (oK (kS K ca ex g I D) (kXs K ca W ex g)) →
    ∀ I' H' σ' cls dd, Same I I' → Good K ca ex g I' H' s' σ' → XcOk K ca I' cls dd x → wMas K W D l cls dd σ' H' := by
  intro l hs hk
  induction hk with
  | nil => exact fun w I' H' σ' cls dd S G xo => w I' H' σ' cls dd G xo
  | @cons c i ts F l hs hc hF r ih =>
    intro x s' w I' H' σ' cls dd S G xo
    have ec : cls = .ref (ca x.c) := xo.1
    obtain ⟨hsb, w⟩ := w
    refine ⟨sub x.c c, by rw [ec]; exact hc x.c hsb, fun hb a ha => ?_, fun hb => ?_⟩
    · have w : wp (if sub x.c c = true then .need (noXc s' = true) ((F (s'.set i (.xc x))).bind (cleanK i)) else hdM sub hs x s') (oK (kS K ca ex g I D) (kXs K ca W ex g)) := w
      rw [if_pos hb] at w
      obtain ⟨nx, w⟩ := w
      refine hF a cls dd _ _ H' g I' _ (G.setXc nx i xo) (wp_mono (wp_bind.mp w) fun o z => ?_)
      have back : ∀ {s2 : S4} {σ2 : L2.St} {I2 H2 : Hp}, noXc (s2.set i .no) = true → Good K ca (a, cls, dd) g I2 H2 s2 σ2 → Good K ca ex g I2 H2 (s2.set i .no) (σ2.set i none) := fun h G2 => (G2.setNo i).reEx h
      cases o with
      | val f s2 =>
        cases f with
        | nx => exact fun I2 H2 σ2 S2 G2 => z.2 I2 H2 _ (S.trans S2) (back z.1 G2)
        | bk => exact fun I2 H2 σ2 S2 G2 => z.2 I2 H2 _ (S.trans S2) (back z.1 G2)
        | ct => exact fun I2 H2 σ2 S2 G2 => z.2 I2 H2 _ (S.trans S2) (back z.1 G2)
        | rt r => exact z
      | exc y s2 => exact z.elim
    · have w : wp (if sub x.c c = true then .need (noXc s' = true) ((F (s'.set i (.xc x))).bind (cleanK i)) else hdM sub hs x s') (oK (kS K ca ex g I D) (kXs K ca W ex g)) := w
      rw [if_neg (by rw [hb]; exact Bool.false_ne_true)] at w
      exact ih w I' H' σ' cls dd S G xo
  | @bare c ts F l hs hc hF r ih =>
    intro x s' w I' H' σ' cls dd S G xo
    have ec : cls = .ref (ca x.c) := xo.1
    obtain ⟨hsb, w⟩ := w
    refine ⟨sub x.c c, by rw [ec]; exact hc x.c hsb, fun hb a ha => ?_, fun hb => ?_⟩
    · have w : wp (if sub x.c c = true then .need (noXc s' = true) ((F s').bind bareK) else hdM sub hs x s') (oK (kS K ca ex g I D) (kXs K ca W ex g)) := w
      rw [if_pos hb] at w
      obtain ⟨nx, w⟩ := w
      refine hF a cls dd _ _ H' g I' _ (G.reEx nx) (wp_mono (wp_bind.mp w) fun o z => ?_)
      cases o with
      | val f s2 =>
        cases f with
        | nx => exact fun I2 H2 σ2 S2 G2 => z.2 I2 H2 _ (S.trans S2) (G2.reEx z.1)
        | bk => exact fun I2 H2 σ2 S2 G2 => z.2 I2 H2 _ (S.trans S2) (G2.reEx z.1)
        | ct => exact fun I2 H2 σ2 S2 G2 => z.2 I2 H2 _ (S.trans S2) (G2.reEx z.1)
        | rt r => exact z
      | exc y s2 => exact z.elim
    · have w : wp (if sub x.c c = true then .need (noXc s' = true) ((F s').bind bareK) else hdM sub hs x s') (oK (kS K ca ex g I D) (kXs K ca W ex g)) := w
      rw [if_neg (by rw [hb]; exact Bool.false_ne_true)] at w
      exact ih w I' H' σ' cls dd S G xo
theorem Good.reIm {Im : Hp} (G : Good K ca ex g I H s σ) (S : Same Im I) : Good K ca ex { g with Im := Im } I H s σ :=
  ⟨G.s0, S, G.lf, G.hd, G.len, fun i x v e1 e2 => by
    have z := G.at' i x v e1 e2
    cases x <;> exact z, G.sep, G.res⟩
theorem Good.unIm {Im : Hp} (G : Good K ca ex { g with Im := Im } I H s σ) (S : Same g.Im I) : Good K ca ex g I H s σ :=
  ⟨G.s0, S, G.lf, G.hd, G.len, fun i x v e1 e2 => by
    have z := G.at' i x v e1 e2
    cases x <;> exact z, G.sep, G.res⟩
theorem rs_try {sub : Nat → Nat → Bool} {tb : WX → TS} {Fb : M Fl} {l : List Cl} {hs : List Hd} (hb : ∀ W', Rs K ca W' ex (tb W') Fb) (hh : HdsOk K ca sub l hs) : Rs K ca W ex (fun D σ H => tb (wMas K W D l) D σ H) (tryM sub Fb hs) := by
  intro D σ H g I s G w
  have S0 := G.im
  refine hb _ D σ H { g with Im := I } I s (G.reIm (Same.refl I)) (wp_mono (wp_bind.mp w) fun o z => ?_)
  cases o with
  | val a s' =>
    cases a with
    | nx => exact fun I' H' σ' S' G' => z I' H' σ' S' (G'.unIm (S0.trans S'))
    | bk => exact fun I' H' σ' S' G' => z I' H' σ' S' (G'.unIm (S0.trans S'))
    | ct => exact fun I' H' σ' S' G' => z I' H' σ' S' (G'.unIm (S0.trans S'))
    | rt r => cases r <;> exact z
  | exc x s' => exact fun I' H' σ' cls dd G' xo => hds_ok hh z I' H' σ' cls dd G'.im (G'.unIm (S0.trans G'.im)) xo
theorem r_xf {a : Addr} {cls : Value} {d : Option Addr} {c i : Nat} {f : Str} : Rt K ca W (a, cls, d) (tXf a cls d (ca c) f (tVar i)) (xfM c i f) := by
  intro σ H Q g I s G w
  have w : wp (xfK c f s s[i]?) (oK (kE K ca (a, cls, d) g I σ Q) (kX K ca W (a, cls, d) g σ)) := w
  cases e : s[i]? with
  | none => rw [e] at w; exact w.elim
  | some y =>
    rw [e] at w
    cases y with
    | xc x =>
      obtain ⟨hc, w⟩ := w
      obtain ⟨u, e1, e2, xo⟩ := G.slot e
      obtain ⟨k1, k2⟩ := xo
      have k1 : cls = .ref (ca x.c) := k1
      cases e3 : x.fs.lookup f with
      | none => rw [e3] at w; exact w.elim
      | some dd =>
        rw [e3] at w
        rcases k2 with ⟨k2, _⟩ | ⟨ad, fs, k2, k3, k4⟩
        · rw [k2] at e3; cases e3
        · obtain ⟨v, e4, dv⟩ := k4.look e3
          exact ⟨.ref a, by rw [e1, e2], rfl, by rw [k1, hc], ad, fs, v, k2, G.sub _ _ k3, e4, w I H v (Same.refl I) G (.inr dv)⟩
    | _ => exact w.elim
end
/-! ### x += e, a, b = c, d -/
def augM (f : PV → PV → T Rv) (i : Nat) (fe : M Fv) : M Fl := (varM i).bind fun x => (setl fe).bind fun y => (vw x).bind fun d => (vw y).bind fun e => (liftR (f d e)).bind fun r => (setM i r).bind fun _ => M.ret .nx
def parM (i j : Nat) (fa : M (List Fv)) : M Fl := fa.bind fun xs => (frzA xs).bind fun ds => match ds with
  | [d, e] => fun s => .ret (.val .nx ((s.set i (.fz d)).set j (.fz e)))
  | _ => M.stuck
section
variable {X : Cx} {K : PySem.W.Frag} {ca : Nat → Addr} {W : WX} {ex ex' : Ex} {g : Gh} {I H I' H' : Hp} {s : S4} {σ : L2.St} {v : V} {x : Fv}
theorem rs_augI {h : Int → Int → Int} {i : Nat} {te : TE} {fe : M Fv} (he : Rt K ca W ex te fe) : Rs K ca W ex (tAug i te (ipI h)) (augM (p2I fun m n => .int (h m n)) i fe) := by
  intro D σ H g I s G w
  have w1 := wpM_bind.mp w
  have w1 : wp (varM i s) (oK (fun x s' => wpM ((setl fe).bind fun y => (vw x).bind fun d => (vw y).bind fun e => (liftR (p2I (fun m n => .int (h m n)) d e)).bind fun r => (setM i r).bind fun _ => M.ret .nx) s' (kS K ca ex g I D) (kXs K ca W ex g)) (kXs K ca W ex g)) := w1
  unfold varM at w1
  cases e : s[i]? with
  | none => rw [e] at w1; exact w1.elim
  | some y =>
    rw [e] at w1
    obtain ⟨u, e1, e2⟩ := G.slot e
    have go : ∀ {x : Fv} {v : V}, Vs K ca g I σ v x → σ[i]? = some (some v) → wpM ((setl fe).bind fun y => (vw x).bind fun d => (vw y).bind fun e => (liftR (p2I (fun m n => .int (h m n)) d e)).bind fun r => (setM i r).bind fun _ => M.ret .nx) s (kS K ca ex g I D) (kXs K ca W ex g) → tAug i te (ipI h) D σ H := by
      intro x v V0 hv w2
      refine ⟨v, hv, ?_⟩
      refine run_setlS he G w2 fun y s1 I1 H1 u S1 G1 V1 w3 => ?_
      obtain ⟨d, vd, w4⟩ := vw_ok (d := .non) G1 (V0.up S1) (wpM_bind.mp w3)
      obtain ⟨e, ve, w5⟩ := vw_ok (d := .non) G1 V1 (wpM_bind.mp w4)
      have w6 := wpM_liftR.mp (wpM_bind.mp w5)
      cases d with
      | int m =>
        cases e with
        | int n => exact ⟨m, n, vw_int vd, vw_int ve, w6 I1 H1 _ S1 (G1.setFz i (.inr (.int _)))⟩
        | _ => exact w6.elim
      | _ => exact w6.elim
    cases y with
    | fz d =>
      obtain ⟨v, rfl, hd⟩ := e2
      exact go (x := .fz d) hd e1 w1
    | ow xs =>
      obtain ⟨p, vs, rfl, _⟩ := e2
      exact go (x := .bw i) e1 e1 w1
    | oi C fs =>
      obtain ⟨p, dx, vs, rfl, _⟩ := e2
      exact go (x := .bw i) e1 e1 w1
    | od d =>
      obtain ⟨p, o, rfl, _⟩ := e2
      exact go (x := .bw i) e1 e1 w1
    | _ => exact w1.elim
theorem rs_par {i j : Nat} {ta : TA} {fa : M (List Fv)} (ha : Ra K ca W ex ta fa) : Rs K ca W ex (tPar i j ta) (parM i j fa) := by
  intro D σ H g I s G w
  refine ha σ H _ g I s G (wpM_mono (wpM_bind.mp w) (fun xs s1 z => ?_) fun _ _ z => kX_of z)
  intro I1 H1 vs S1 G1 V1
  obtain ⟨ds, I2, s2, S2, G2, d2, w2⟩ := frzA_ok G1 V1 (wpM_bind.mp z)
  match ds, d2, w2 with
  | [d, e], .cons h1 (.cons h2 .nil), w2 => exact ⟨_, _, rfl, w2 I2 H1 _ (S1.trans S2) ((G2.setFz i (.inr h1)).setFz j (.inr h2))⟩
end
end L4
/-! The pure layer, part 9: chains, x and y by truth, targets, the law's own def, isinstance of a caught error. -/
namespace L4
open PySem PySem.Spec PyProof.Rows L2 L3
section
variable {K : PySem.W.Frag} {ca : Nat → Addr}
theorem o_sub : OpOk K ca (rI0 fun i j => .int (i - j)) subP := o_rI0 fun _ _ _ => .int _
theorem o_lt : OpOk K ca (rI0 fun i j => .bl (decide (i < j))) ltP := o_rI0 fun _ _ _ => .bl _
theorem o_le : OpOk K ca (rI0 fun i j => .bl (decide (i ≤ j))) leP := o_rI0 fun _ _ _ => .bl _
theorem o_gt : OpOk K ca (rI0 fun i j => .bl (decide (j < i))) gtP := o_rI0 fun _ _ _ => .bl _
theorem o_ge : OpOk K ca (rI0 fun i j => .bl (decide (j ≤ i))) geP := o_rI0 fun _ _ _ => .bl _
theorem o_fdiv : OpOk K ca (rI CDiv fun i j => .int (i / j)) fdivP := o_rI fun _ _ _ => .int _
theorem o_mod : OpOk K ca (rI (fun _ j => 0 < j) fun i j => .int (i % j)) modP := o_rI fun _ _ _ => .int _
theorem o_pow : OpOk K ca (rI CPow fun i j => .int (i ^ j.toNat)) powP := o_rI fun _ _ _ => .int _
theorem o_shl : OpOk K ca (rI CPow fun i j => .int (i * 2 ^ j.toNat)) shlP := o_rI fun _ _ _ => .int _
theorem o_shr : OpOk K ca (rI (fun _ j => 0 ≤ j) fun i j => .int (i / 2 ^ j.toNat)) shrP := o_rI fun _ _ _ => .int _
theorem o_band : OpOk K ca (rI0 fun i j => .int (Builtin.bitAnd i j)) bandP := o_rI0 fun _ _ _ => .int _
theorem o_bor : OpOk K ca (rI0 fun i j => .int (Builtin.bitOr i j)) borP := o_rI0 fun _ _ _ => .int _
theorem o_bxor : OpOk K ca (rI0 fun i j => .int (Builtin.bitXor i j)) bxorP := o_rI0 fun _ _ _ => .int _
end
def chainK (f : PV → PV → T Rv) (y : Fv) (fc : M Fv) : Fv → M Fv
  | .fz (.bl b) => if b then (setl fc).bind fun z => (vw y).bind fun e => (vw z).bind fun c => liftR (f e c) else M.ret (.fz (.bl false))
  | _ => M.stuck
def chainM (f f' : PV → PV → T Rv) (fa fb fc : M Fv) : M Fv := (setl fa).bind fun x => (setl fb).bind fun y => (vw x).bind fun d => (vw y).bind fun e => (liftR (f d e)).bind (chainK f' y fc)
def andT (fa fb : M Fv) : M Fv := (setl fa).bind fun x => (vw x).bind fun d => (M.lift (truV d)).bind fun k => if k then fb else M.ret x
def orT (fa fb : M Fv) : M Fv := (setl fa).bind fun x => (vw x).bind fun d => (M.lift (truV d)).bind fun k => if k then M.ret x else fb
def notT (fa : M Fv) : M Fv := (setl fa).bind fun x => (vw x).bind fun d => (M.lift (truV d)).bind fun k => M.ret (.fz (.bl (!k)))
section
variable {X : Cx} {K : PySem.W.Frag} {ca : Nat → Addr} {W : WX} {ex ex' : Ex} {g : Gh} {I H I' H' : Hp} {s : S4} {σ : L2.St} {v : V} {x : Fv}
theorem r_chain {r r' : R2} {f f' : PV → PV → T Rv} {ta tb tc : TE} {fa fb fc : M Fv} (o : OpOk K ca r f) (o' : OpOk K ca r' f') (ha : Rt K ca W ex ta fa) (hb : Rt K ca W ex tb fb) (hc : Rt K ca W ex tc fc) : Rt K ca W ex (tChain r r' ta tb tc) (chainM f f' fa fb fc) := by
  intro σ H Q g I s G w
  show ta σ H fun x H1 => tb σ H1 fun y H2 => r x y H2 fun z H3 => ∃ k, z = .bl k ∧ (if k = true then tc σ H3 fun w' H4 => r' y w' H4 Q else Q (.bl false) H3)
  refine run_setl ha G w fun x s1 I1 H1 v S1 G1 V1 w1 => ?_
  refine run_setl hb G1 w1 fun y s2 I2 H2 u S2 G2 V2 w2 => ?_
  obtain ⟨d, vd, w3⟩ := vw_ok (d := .non) G2 (V1.up S2) (wpM_bind.mp w2)
  obtain ⟨e, ve, w4⟩ := vw_ok (d := .non) G2 V2 (wpM_bind.mp w3)
  refine o I2 H2 v u d e _ G2.sub vd ve (wp_mono (wpM_liftR.mp (wpM_bind.mp w4)) fun a z => ?_)
  cases a with
  | fz c =>
    cases c with
    | bl k =>
      intro I3 H3 v3 f3 d3
      cases d3
      refine ⟨k, rfl, ?_⟩
      have G3 := G2.stepNo f3
      have SS := (S1.trans S2).trans f3.ext
      have z : wpM (if k then (setl fc).bind fun z => (vw y).bind fun e => (vw z).bind fun c => liftR (f' e c) else M.ret (.fz (.bl false))) s2 (kE K ca ex g I σ Q) (kX K ca W ex g σ) := z
      cases k with
      | true =>
        rw [if_pos rfl]
        rw [if_pos rfl] at z
        refine run_setl hc G3 z fun w s4 I4 H4 t S4 G4 V4 w5 => ?_
        obtain ⟨e', ve', w6⟩ := vw_ok (d := .non) G4 ((V2.up f3.ext).up S4) (wpM_bind.mp w5)
        obtain ⟨c, vc, w7⟩ := vw_ok (d := .non) G4 V4 (wpM_bind.mp w6)
        exact o' I4 H4 u t e' c Q G4.sub ve' vc (wp_mono (wpM_liftR.mp w7) fun a z => kE_of G4 (kE_up (SS.trans S4) z))
      | false =>
        rw [if_neg Bool.false_ne_true]
        exact z I3 H3 _ SS G3 (.inr (.bl false))
    | _ => exact z.elim
  | ow xs => exact z.elim
theorem r_andT {ta tb : TE} {fa fb : M Fv} (ha : Rt K ca W ex ta fa) (hb : Rt K ca W ex tb fb) : Rt K ca W ex (tAndT K ta tb) (andT fa fb) := by
  intro σ H Q g I s G w
  show ta σ H fun x H1 => ∃ k, TruV K x H1 k ∧ if k = true then tb σ H1 Q else Q x H1
  refine run_setl ha G w fun x s1 I1 H1 v S1 G1 V1 w1 => ?_
  obtain ⟨d, vd, w3⟩ := vw_ok (d := .non) G1 V1 (wpM_bind.mp w1)
  refine tru_of G1.sub vd (wp_mono (wpM_lift.mp (wpM_bind.mp w3)) fun k z => ?_)
  cases k with
  | true =>
    rw [if_pos rfl]
    exact hb σ H1 _ g I1 s1 G1 (wpM_mono z (fun b s2 z => kE_up S1 z) fun _ _ z => z)
  | false =>
    rw [if_neg Bool.false_ne_true]
    exact z I1 H1 v S1 G1 V1.vo
theorem r_orT {ta tb : TE} {fa fb : M Fv} (ha : Rt K ca W ex ta fa) (hb : Rt K ca W ex tb fb) : Rt K ca W ex (tOrT K ta tb) (orT fa fb) := by
  intro σ H Q g I s G w
  show ta σ H fun x H1 => ∃ k, TruV K x H1 k ∧ if k = true then Q x H1 else tb σ H1 Q
  refine run_setl ha G w fun x s1 I1 H1 v S1 G1 V1 w1 => ?_
  obtain ⟨d, vd, w3⟩ := vw_ok (d := .non) G1 V1 (wpM_bind.mp w1)
  refine tru_of G1.sub vd (wp_mono (wpM_lift.mp (wpM_bind.mp w3)) fun k z => ?_)
  cases k with
  | false =>
    rw [if_neg Bool.false_ne_true]
    exact hb σ H1 _ g I1 s1 G1 (wpM_mono z (fun b s2 z => kE_up S1 z) fun _ _ z => z)
  | true =>
    rw [if_pos rfl]
    exact z I1 H1 v S1 G1 V1.vo
theorem r_notT {ta : TE} {fa : M Fv} (ha : Rt K ca W ex ta fa) : Rt K ca W ex (tNotT K ta) (notT fa) := by
  intro σ H Q g I s G w
  show ta σ H fun x H1 => ∃ k, TruV K x H1 k ∧ Q (.bl (!k)) H1
  refine run_setl ha G w fun x s1 I1 H1 v S1 G1 V1 w1 => ?_
  obtain ⟨d, vd, w3⟩ := vw_ok (d := .non) G1 V1 (wpM_bind.mp w1)
  exact tru_of G1.sub vd (wp_mono (wpM_lift.mp (wpM_bind.mp w3)) fun k z => z I1 H1 _ S1 G1 (.inr (.bl _)))
theorem rg_tupT {n : Nat} {t : TGs} {fs : List (Fv → M Unit)} (ht : Rgs K ca W ex n t fs) : Rg K ca W ex (gTup K n t) (tupTg n fs) := by
  intro σ H Q g I s v x G V w
  obtain ⟨d, I1, s1, S1, G1, hd, q⟩ := frzD_ok G V (wpM_bind.mp w)
  cases d with
  | tup ds =>
    obtain ⟨a, xs, rfl, ha, hx⟩ := hd.tupRef
    obtain ⟨l, q⟩ := q
    refine ⟨a, xs, rfl, Same.seqT G1.sub ha, by rw [hx.length]; exact l, ?_⟩
    exact ht.2 σ H Q g I1 s1 _ _ G1 hx (wpM_mono q (fun _ s2 z => fun I2 H2 σ2 S2 G2 => z I2 H2 σ2 (S1.trans S2) G2) fun _ _ z => z)
  | _ => exact q.elim
theorem r_rng1 {ta : TA} {fa : M (List Fv)} (ha : Ra K ca W ex ta fa) : Ri K ca W ex (iRng1 ta) (rng1M fa) := by
  intro σ H R g I s G w
  refine ha σ H _ g I s G (wpM_mono (wpM_bind.mp w) (fun xs s1 z => ?_) fun _ _ z => z)
  intro I1 H1 vs S1 G1 V1
  obtain ⟨ds, vds, w2⟩ := vwA_ok G1 V1 (wpM_bind.mp z)
  match ds, vds, w2 with
  | [.int n], vds, w2 =>
    obtain ⟨v, rfl, hv⟩ := vds.one
    obtain ⟨l, w3⟩ := w2
    refine ⟨n, by rw [hv.int], l.2, l.1, w3 I1 H1 _ S1 G1 ?_⟩
    have z := walks_rg (K := K) (ca := ca) (I := I1) (m := 0) (n := n)
    rw [Int.sub_zero] at z
    exact z
theorem r_rng2 {ta : TA} {fa : M (List Fv)} (ha : Ra K ca W ex ta fa) : Ri K ca W ex (iRng2 ta) (rng2M fa) := by
  intro σ H R g I s G w
  refine ha σ H _ g I s G (wpM_mono (wpM_bind.mp w) (fun xs s1 z => ?_) fun _ _ z => z)
  intro I1 H1 vs S1 G1 V1
  obtain ⟨ds, vds, w2⟩ := vwA_ok G1 V1 (wpM_bind.mp z)
  match ds, vds, w2 with
  | [.int m, .int n], vds, w2 =>
    obtain ⟨v, u, rfl, hv, hu⟩ := vds.two
    obtain ⟨l, w3⟩ := w2
    exact ⟨m, n, by rw [hv.int, hu.int], l, w3 I1 H1 _ S1 G1 walks_rg⟩
theorem r_enum1 {te : TE} {f : M Fv} (h : Rt K ca W ex te f) : Ri K ca W ex (iEnumQ K (tCons te tNil)) (enum1M f) := by
  intro σ H R g I s G w
  show te σ H fun x H1 => (∃ a xs, [x] = [.ref a] ∧ SqL K H1 a xs ∧ R (Ite K a) H1) ∨ (∃ a xs, [x] = [.ref a] ∧ SqT K H1 a xs ∧ R (IteT K a) H1)
  refine h σ H _ g I s G (wpM_mono (wpM_bind.mp w) (fun x s1 z => ?_) fun _ _ z => z)
  intro I1 H1 v S1 G1 V1
  obtain ⟨d, I2, s2, S2, G2, hd, q⟩ := frzD_ok G1 V1 (wpM_bind.mp z)
  cases d with
  | lst ds =>
    obtain ⟨a, vs, rfl, ha, da⟩ := hd.lstRef
    exact .inl ⟨a, vs, rfl, ofL (G2.sub _ _ ha), q I2 H1 _ (S1.trans S2) G2 (walks_enumL ha da)⟩
  | tup ds =>
    obtain ⟨a, vs, rfl, ha, da⟩ := hd.tupRef
    exact .inr ⟨a, vs, rfl, Same.seqT G2.sub ha, q I2 H1 _ (S1.trans S2) G2 (walks_enumT ha da)⟩
  | _ => exact q.elim
theorem r_slc {te : TE} {tl th : TO} {fe : M Fv} {fl fh : M (Option Int)} (he : Rt K ca W ex te fe) (hl : Ro K ca W ex tl fl) (hh : Ro K ca W ex th fh) : Rt K ca W ex (tSl (rSlU K) te tl th) (slM fe fl fh) := r_sl o_sl he hl hh
end
/-- isinstance(e, C) of the caught error -/
def xisK (D : Nat) (b : Bool) (s : S4) : Option Sl → T (Out Fv)
  | some (.xc x) => .need (x.c = D ∧ x.fs ≠ []) (.ret (.val (.fz (.bl b)) s))
  | _ => .stuck
def xisM (D : Nat) (b : Bool) (i : Nat) : M Fv := fun s => xisK D b s s[i]?
section
variable {X : Cx} {K : PySem.W.Frag} {ca : Nat → Addr} {W : WX} {ex ex' : Ex} {g : Gh} {I H I' H' : Hp} {s : S4} {σ : L2.St} {v : V} {x : Fv}
theorem r_isF {a : Addr} {cls : Value} {d : Option Addr} {D i : Nat} {b : Bool} {c : V} {cv : Value} (hcv : ∀ u, RelV c u → u = cv) (e : PySem.W.kitOne K (.ref (ca D)) cv = some b) : Rt K ca W (a, cls, d) (tCB (rIsF K (ca D) a cls d) (tCons (tVar i) (tCons (tC c) tNil))) (xisM D b i) := by
  intro σ H Q g I s G w
  have w : wp (xisK D b s s[i]?) (oK (kE K ca (a, cls, d) g I σ Q) (kX K ca W (a, cls, d) g σ)) := w
  cases e1 : s[i]? with
  | none => rw [e1] at w; exact w.elim
  | some y =>
    rw [e1] at w
    cases y with
    | xc x =>
      obtain ⟨⟨hc, hf⟩, w⟩ := w
      obtain ⟨u, e2, e3, xo⟩ := G.slot e1
      obtain ⟨k1, k2⟩ := xo
      have k1 : cls = .ref (ca x.c) := k1
      rcases k2 with ⟨k2, _⟩ | ⟨ad, fs, k2, k3, k4⟩
      · exact absurd k2 hf
      · have k2 : d = some ad := k2
        exact ⟨.ref a, by rw [e2, e3], by rw [k1, hc], ⟨ad, fs, k2, G.sub _ _ k3⟩, c, cv, b, rfl, hcv, e, w I H _ (Same.refl I) G (.inr (.bl b))⟩
    | _ => exact w.elim
/-- the law's def: the hand is made, then the rest -/
theorem law_run {N : List Str} {F : M Fl} {t : TS} {sc : Addr} {ns : List Int} {Q : VK} {spH : Sp} (hF : Rs K ca (fun _ _ _ _ => False) ex t F)
    (hand : ∀ H Q E, SqL K H sc (ns.map V.int) → (∀ I' H' hd, Hand K I' H' hd → Q (.ref hd) H') → spH [.ref sc] H Q E)
    (w : wpM F (.no :: .fz .hand :: List.replicate N.length .no) (fun o _ => match o with | .rt (.fz (.bl true)) => True | _ => False) (fun _ _ => False)) (hs : SqL K H sc (ns.map V.int)) (q : ∀ H', Q (.bl true) H') {E : XK} :
    tSeq (tAsg (tCall spH [] E (tCons (tVar 0) tNil)) (gName 1)) t { nx := fun _ H' => Q .non H', rt := Q } (some (V.ref sc) :: none :: List.replicate N.length none) H := by
  refine ⟨.ref sc, rfl, hand H _ E hs fun I' H' hd hh => ?_⟩
  show t { nx := fun _ H' => Q .non H', rt := Q } (some (V.ref sc) :: some (V.ref hd) :: List.replicate N.length none) H'
  refine hF _ _ H' ⟨I', H', some hd, [], I', none⟩ I' _ ⟨hh.sub, Same.refl I', Lf.refl hh.sub, hh, by simp, fun i x v e1 e2 => ?_, fun i j x y p e1 _ o1 _ _ _ => ?_, fun q hq => by cases hq⟩ (wpM_mono w (fun o s' z => ?_) fun _ _ z => z.elim)
  · match i with
    | 0 => cases e1; trivial
    | 1 => cases e1; cases e2; exact ⟨_, rfl, .inl ⟨rfl, hd, rfl, rfl⟩⟩
    | i + 2 =>
      have z : (List.replicate N.length Sl.no)[i]? = some x := e1
      have := (List.mem_replicate.mp (List.mem_of_getElem? z)).2
      rw [this]; trivial
  · exfalso
    match i with
    | 0 => cases e1; cases o1
    | 1 => cases e1; cases o1
    | i + 2 =>
      have z : (List.replicate N.length Sl.no)[i]? = some x := e1
      have := (List.mem_replicate.mp (List.mem_of_getElem? z)).2
      rw [this] at o1
      cases o1
  · cases o with
    | rt r =>
      cases r with
      | fz d =>
        cases d with
        | bl b =>
          cases b with
          | true =>
            intro I2 H2 v f hd dv
            cases dv
            exact q H2
          | false => exact z.elim
        | _ => exact z.elim
      | ow xs => exact z.elim
    | _ => exact z.elim
end
end L4
/-! The pure layer, part 10: instances of own classes: fields, methods, making. -/
namespace L4
open PySem PySem.Spec PyProof.Rows L2 L3

/-! ### fields -/
/-- of the classes that ok names, the field f can be read -/
def FldOk (K : PySem.W.Frag) (ca : Nat → Addr) (f : Str) (ok : Nat → Bool) : Prop := ∀ C, ok C = true → Cls K (ca C) ∧ NoAttr K (ca C) f
def fldK (ok : Nat → Bool) (f : Str) (C : Nat) (fs : List (Str × PV)) (s : S4) : T (Out Fv) := .need (ok C = true) (match fs.lookup f with
  | some d => .ret (.val (.fz d) s)
  | none => .stuck)
def fldS (ok : Nat → Bool) (f : Str) (s : S4) : Option Sl → T (Out Fv)
  | some (.oi C fs) => fldK ok f C fs s
  | some (.fz (.ins C fs)) => fldK ok f C fs s
  | _ => .stuck
def fldV (ok : Nat → Bool) (f : Str) : Fv → M Fv
  | .fz (.ins C fs) => fun s => fldK ok f C fs s
  | .bw i => fun s => fldS ok f s s[i]?
  | _ => M.stuck
/-- o.f -/
def fldM (ok : Nat → Bool) (f : Str) (fo : M Fv) : M Fv := (setl fo).bind (fldV ok f)
section
variable {X : Cx} {K : PySem.W.Frag} {ca : Nat → Addr} {W : WX} {ex ex' : Ex} {g : Gh} {I H I' H' : Hp} {s : S4} {σ : L2.St} {v : V} {x : Fv}
theorem fldK_ok {ok : Nat → Bool} {f : Str} {C : Nat} {a dx : Addr} {fs : List (Str × PV)} {vs : List (Str × V)} {Q : Fv → S4 → Prop} {X : Xc → S4 → Prop} (o : FldOk K ca f ok) (ha : H a = some (.ins (ca C) dx vs)) (d : DvF K ca I vs fs)
    (w : wp (fldK ok f C fs s) (oK Q X)) : ∃ C' dx' vs' u e, H a = some (.ins C' dx' vs') ∧ Cls K C' ∧ NoAttr K C' f ∧ vs'.lookup f = some u ∧ Dv K ca I u e ∧ Q (.fz e) s := by
  obtain ⟨hc, w⟩ := w
  cases e : fs.lookup f with
  | none => rw [e] at w; exact w.elim
  | some y =>
    rw [e] at w
    obtain ⟨u, e1, e2⟩ := d.look e
    exact ⟨_, dx, vs, u, y, ha, (o C hc).1, (o C hc).2, e1, e2, w⟩
theorem Dv.insRef {C : Nat} {fs : List (Str × PV)} (h : Dv K ca I v (.ins C fs)) : ∃ a dx vs, v = .ref a ∧ I a = some (.ins (ca C) dx vs) ∧ DvF K ca I vs fs := by
  cases h with
  | ins h q => exact ⟨_, _, _, rfl, h, q⟩
theorem fldV_ok {ok : Nat → Bool} {f : Str} {Q : Fv → S4 → Prop} {X : Xc → S4 → Prop} (o : FldOk K ca f ok) (G : Good K ca ex g I H s σ) (V : Vs K ca g I σ v x) (w : wpM (fldV ok f x) s Q X) :
    ∃ a C' dx' vs' u e, v = .ref a ∧ H a = some (.ins C' dx' vs') ∧ Cls K C' ∧ NoAttr K C' f ∧ vs'.lookup f = some u ∧ Dv K ca I u e ∧ Q (.fz e) s := by
  cases x with
  | fz d =>
    cases d with
    | ins C fs =>
      rcases V with ⟨z, _⟩ | V
      · cases z
      · obtain ⟨a, dx, vs, rfl, ha, hd⟩ := V.insRef
        obtain ⟨C', dx', vs', u, e, h⟩ := fldK_ok o (G.sub _ _ ha) hd w
        exact ⟨a, C', dx', vs', u, e, rfl, h⟩
    | _ => exact w.elim
  | bw i =>
    have V : σ[i]? = some (some v) := V
    have w : wp (fldS ok f s s[i]?) (oK Q X) := w
    cases e : s[i]? with
    | none => rw [e] at w; exact w.elim
    | some y =>
      rw [e] at w
      cases y with
      | oi C fs =>
        obtain ⟨p, dx, vs, r, h1, h2, h3, h4, h5⟩ := G.at' i _ _ e V
        cases r
        obtain ⟨C', dx', vs', u, e, h⟩ := fldK_ok o h4 h5.d w
        exact ⟨p, C', dx', vs', u, e, rfl, h⟩
      | fz d =>
        cases d with
        | ins C fs =>
          obtain ⟨u, e1, e2⟩ := G.at' i _ _ e V
          cases e1
          rcases e2 with ⟨z, _⟩ | e2
          · cases z
          · obtain ⟨a, dx, vs, rfl, ha, hd⟩ := e2.insRef
            obtain ⟨C', dx', vs', u, e, h⟩ := fldK_ok o (G.sub _ _ ha) hd w
            exact ⟨a, C', dx', vs', u, e, rfl, h⟩
        | _ => exact w.elim
      | _ => exact w.elim
  | ow xs => exact w.elim
  | nd d => exact w.elim
theorem r_fld {ok : Nat → Bool} {f : Str} {ta : TE} {fa : M Fv} (o : FldOk K ca f ok) (ha : Rt K ca W ex ta fa) : Rt K ca W ex (tFld K ta f) (fldM ok f fa) := by
  intro σ H Q g I s G w
  show ta σ H _
  refine run_setl ha G w fun x s1 I1 H1 v S1 G1 V1 w1 => ?_
  obtain ⟨a, C', dx', vs', u, e, h1, h2, h3, h4, h5, h6, h7⟩ := fldV_ok o G1 V1 w1
  exact ⟨a, C', dx', vs', u, h1, h2, h3, h4, h5, h7 I1 H1 _ S1 G1 (.inr h6)⟩
end
/-! ### self.f = e within __init__ -/
def putP (f : Str) (d : PV) : List (Str × PV) → List (Str × PV)
  | [] => [(f, d)]
  | (k, x) :: r => if k = f then (k, d) :: r else (k, x) :: putP f d r
def noOi : S4 → Bool
  | [] => true
  | .oi _ _ :: _ => false
  | _ :: r => noOi r
def sfldK (ok : Nat → Bool) (f : Str) (i : Nat) (d : PV) (s : S4) : Option Sl → T (Out Fl)
  | some (.oi C fs) => .need (ok C = true ∧ fs.length < 1000 ∧ noOi (s.set i .no) = true) (.ret (.val .nx (s.set i (.oi C (putP f d fs)))))
  | _ => .stuck
def sfldM (ok : Nat → Bool) (f : Str) (i : Nat) (fe : M Fv) : M Fl := fe.bind fun x => (frzD x).bind fun d => fun s => sfldK ok f i d s s[i]?
section
variable {X : Cx} {K : PySem.W.Frag} {ca : Nat → Addr} {W : WX} {ex ex' : Ex} {g : Gh} {I H I' H' : Hp} {s : S4} {σ : L2.St} {v : V} {x : Fv}
theorem noOi_get : ∀ {s : S4} {i : Nat} {C : Nat} {fs : List (Str × PV)}, noOi s = true → s[i]? ≠ some (.oi C fs)
  | [], _, _, _, _, e => by cases e
  | y :: r, 0, C, fs, h, e => by
    cases e
    cases h
  | y :: r, i + 1, C, fs, h, e => by
    have h' : noOi r = true := by cases y <;> first | exact h | cases h
    exact noOi_get h' (show r[i]? = some (.oi C fs) from e)
theorem DvF.put {f : Str} {v : V} {d : PV} : ∀ {vs : List (Str × V)} {ds : List (Str × PV)}, DvF K ca I vs ds → Dv K ca I v d → DvF K ca I (putF f v vs) (putP f d ds)
  | _, _, .nil, q => .cons q .nil
  | _, _, @DvF.cons _ _ _ f' v' vs d' ds h t, q => by
    show DvF K ca I (if f' = f then (f', v) :: vs else (f', v') :: putF f v vs) (if f' = f then (f', d) :: ds else (f', d') :: putP f d ds)
    by_cases e : f' = f
    · rw [if_pos e, if_pos e]; exact .cons q t
    · rw [if_neg e, if_neg e]; exact .cons h (DvF.put t q)
theorem DvF.len : ∀ {vs : List (Str × V)} {ds : List (Str × PV)}, DvF K ca I vs ds → vs.length = ds.length
  | _, _, .nil => rfl
  | _, _, .cons _ t => by rw [List.length_cons, List.length_cons, DvF.len t]
theorem DvF.lookNo : ∀ {vs : List (Str × V)} {ds : List (Str × PV)} {f : Str}, DvF K ca I vs ds → ds.lookup f = none → vs.lookup f = none
  | _, _, _, .nil, _ => rfl
  | _, _, f, @DvF.cons _ _ _ f' v vs d' ds h t, e => by
    rw [List.lookup_cons] at e ⊢
    cases c : (f == f') with
    | true => rw [c] at e; cases e
    | false => rw [c] at e; exact DvF.lookNo t e
/-- a field of the own instance of the name i is written -/
theorem Good.putFld (G : Good K ca ex g I H s σ) {i C : Nat} {fs : List (Str × PV)} {p dx : Addr} {vs : List (Str × V)} {f : Str} {v : V} {d : PV} (e : s[i]? = some (.oi C fs)) (hv : σ[i]? = some (some (.ref p))) (h1 : I p = none) (h2 : g.H0 p = none) (h3 : g.h ≠ some p)
    (h4 : H p = some (.ins (ca C) dx vs)) (h5 : OiD K ca I g.me p vs fs) (n : noOi (s.set i .no) = true) (hd : Dv K ca I v d) (hr : ∀ q ∈ g.rs, q.1 ≠ p) : Good K ca ex g I (upd H p (.ins (ca C) dx (putF f v vs))) (s.set i (.oi C (putP f d fs))) σ := by
  refine ⟨G.s0, G.im, G.lf.set h2 h4 h1, ?_, by rw [List.length_set]; exact G.len, fun j x w e1 e2 => ?_, fun a b x y q e1 e2 o1 o2 e3 e4 => ?_, fun q hq => ?_⟩
  · have hd := G.hd
    have h3' := h3
    revert hd h3'
    cases g.h with
    | none => exact fun hd _ => Same.updI hd h1
    | some a => exact fun hd ne => Hand.upd hd h1 fun z => ne (by rw [z])
  · rcases get_set e1 with ⟨rfl, rfl⟩ | ⟨n1, e1⟩
    · rw [hv] at e2
      cases e2
      exact ⟨p, dx, _, rfl, h1, h2, h3, upd_same, ⟨h5.d.put hd, h5.me⟩⟩
    · have z := G.at' j x w e1 e2
      cases x with
      | no => trivial
      | fz d => exact z
      | ow zs =>
        obtain ⟨q, us, r, g1, g2, g3, g4, g5⟩ := z
        have nq : q ≠ p := fun h => by rw [h, h4] at g4; cases g4
        exact ⟨q, us, r, g1, g2, g3, by rw [upd_ne nq]; exact g4, g5⟩
      | xc x => exact z
      | oi C' fs' => exact absurd (by rw [List.getElem?_set_ne (fun z => n1 z.symm)]; exact e1) (noOi_get (i := j) (C := C') (fs := fs') n)
      | od d =>
        obtain ⟨q, o, r, g1, g2, g3, g4, g5⟩ := z
        have nq : q ≠ p := fun h => by
          rw [h, h4] at g4
          exact g5.fzo _ _ _ (Option.some.inj g4).symm
        exact ⟨q, o, r, g1, g2, g3, by rw [upd_ne nq]; exact g4, g5⟩
  · have key : ∀ {j : Nat} {z : Sl}, (s.set i (.oi C (putP f d fs)))[j]? = some z → z.isO = true → s[j]? = some z := fun {j z} h oz => by
      rcases get_set h with ⟨_, z⟩ | ⟨_, h⟩
      · rw [z] at oz; cases oz
      · exact h
    exact G.sep a b x y q (key e1 o1) (key e2 o2) o1 o2 e3 e4
  · obtain ⟨g1, g2, g3, g4, g5⟩ := G.res q hq
    refine ⟨g1, g2, g3, by rw [upd_ne (hr q hq)]; exact g4, fun j z e1 oz e2 => ?_⟩
    rcases get_set e1 with ⟨_, z⟩ | ⟨_, e1⟩
    · rw [z] at oz; cases oz
    · exact g5 j z e1 oz e2
theorem rs_sfld {ok : Nat → Bool} {f : Str} {i : Nat} {te : TE} {fe : M Fv} (o : FldOk K ca f ok) (he : Rt K ca W ex te fe) : Rs K ca W ex (sFld K (tVar i) te f) (sfldM ok f i fe) := by
  intro D σ H g I s G w
  refine he σ H _ g I s G (wpM_mono (wpM_bind.mp w) (fun x s1 z => ?_) fun _ _ z => kX_of z)
  intro I1 H1 v S1 G1 V1
  obtain ⟨d, I2, s2, S2, G2, hd, w2⟩ := frzD_ok G1 V1 (wpM_bind.mp z)
  have w2 : wp (sfldK ok f i d s2 s2[i]?) (oK (kS K ca ex g I D) (kXs K ca W ex g)) := w2
  cases e : s2[i]? with
  | none => rw [e] at w2; exact w2.elim
  | some y =>
    rw [e] at w2
    cases y with
    | oi C fs =>
      obtain ⟨⟨hc, hl, hn⟩, w3⟩ := w2
      obtain ⟨u, e1, p, dx, vs, rfl, h1, h2, h3, h4, h5⟩ := G2.slot e
      refine ⟨.ref p, e1, p, _, dx, vs, rfl, h4, (o C hc).1, (o C hc).2, by rw [h5.d.len]; exact hl, ?_⟩
      refine w3 I2 _ _ (S1.trans S2) (G2.putFld e e1 h1 h2 h3 h4 h5 hn hd fun q hq z => ?_)
      have := (G2.res q hq).2.2.2.1
      rw [z, h4] at this
      cases this
    | _ => exact w2.elim
end
end L4
/-! The pure layer, part 11: making an instance, its methods and properties. -/
namespace L4
open PySem PySem.Spec PyProof.Rows L2 L3

/-! ### __init__ -/
abbrev DenI := List PV → T (Except Xc (List (Str × PV)))
def endS (C : Nat) : Option Sl → T (Except Xc (List (Str × PV)))
  | some (.oi C' fs) => .need (C' = C) (.ret (.ok fs))
  | _ => .stuck
def endI (C : Nat) : Out Fl → T (Except Xc (List (Str × PV)))
  | .val .nx s => endS C s[0]?
  | .exc x _ => .ret (.error x)
  | _ => .stuck
/-- the fields that an __init__ with N names and this body gives -/
def denI (C N : Nat) (F : M Fl) : DenI := fun ds => (F (.oi C [] :: (ds.map Sl.fz ++ List.replicate (N - 1 - ds.length) .no))).bind (endI C)
def kI (K : PySem.W.Frag) (ca : Nat → Addr) (C : Nat) (I H1 : Hp) (h : Option Addr) (x : Addr) (Q : VK) (E : XK) : Except Xc (List (Str × PV)) → Prop
  | .ok fs => ∀ I' H' dx vs, Lf (Mo h) I H1 I' H' → HandO K I' H' h → I' x = none → H' x = some (.ins (ca C) dx vs) → DvF K ca I' vs fs → Q .non H'
  | .error e => ∀ I' H' cls dd, Lf (Mo h) I H1 I' H' → HandO K I' H' h → XcOk K ca I' cls dd e → E cls dd H'
def spI (K : PySem.W.Frag) (ca : Nat → Addr) (C n : Nat) (den : DenI) : Sp := fun vs H Q E => ∃ (I H1 : Hp) (h : Option Addr) (x dx : Addr) (ws : List V) (ds : List PV), vs = .ref x :: ws ∧ ds.length = n ∧ H1 x = none ∧ H1 dx = none ∧ dx ≠ x ∧
  H = upd (upd H1 dx (.own x)) x (.ins (ca C) dx []) ∧ HandO K I H1 h ∧ DhA K ca h I ws ds ∧ wp (den ds) (kI K ca C I H1 h x Q E)
section
variable {X : Cx} {K : PySem.W.Frag} {ca : Nat → Addr} {W : WX} {ex ex' : Ex} {g : Gh} {I H I' H' : Hp} {s : S4} {σ : L2.St} {v : V} {x : Fv}
theorem spI_len {C n : Nat} {den : DenI} (vs : List V) (H : Hp) (Q : VK) (E : XK) (h : spI K ca C n den vs H Q E) : vs.length = n + 1 := by
  obtain ⟨I, H1, h, x, dx, ws, ds, rfl, l, _, _, _, _, _, d, _⟩ := h
  rw [List.length_cons, d.length, l]
theorem Good.consOi {C : Nat} {fs : List (Str × PV)} {p dx : Addr} {vs : List (Str × V)} (G : Good K ca ex g I H s σ) (h1 : I p = none) (h2 : g.H0 p = none) (h3 : g.h ≠ some p) (h4 : H p = some (.ins (ca C) dx vs)) (h5 : OiD K ca I g.me p vs fs) :
    Good K ca ex g I H (.oi C fs :: s) (some (.ref p) :: σ) where
  s0 := G.s0
  im := G.im
  lf := G.lf
  hd := G.hd
  len := by rw [List.length_cons, List.length_cons, G.len]
  at' := fun i y v e1 e2 => by
    cases i with
    | zero =>
      cases e1
      cases e2
      exact ⟨p, dx, vs, rfl, h1, h2, h3, h4, h5⟩
    | succ i => exact G.at' i y v e1 e2
  sep := fun i j x y q e1 e2 o1 o2 e3 e4 => by
    cases i with
    | zero => cases e1; cases o1
    | succ i =>
      cases j with
      | zero => cases e2; cases o2
      | succ j => exact congrArg (· + 1) (G.sep i j x y q e1 e2 o1 o2 e3 e4)
  res := fun q hq => by
    obtain ⟨g1, g2, g3, g4, g5⟩ := G.res q hq
    refine ⟨g1, g2, g3, g4, fun i x e1 o1 e2 => ?_⟩
    cases i with
    | zero => cases e1; cases o1
    | succ i => exact g5 i x e1 o1 e2
theorem Good.setMe {me : Option Addr} (G : Good K ca ex g I H s σ) (n : noOi s = true) : Good K ca ex { g with me := me } I H s σ :=
  ⟨G.s0, G.im, G.lf, G.hd, G.len, fun i x v e1 e2 => by
    have z := G.at' i x v e1 e2
    cases x with
    | oi C fs => exact absurd e1 (noOi_get n)
    | _ => exact z, G.sep, G.res⟩
theorem noOi_start {ds : List PV} {m : Nat} : noOi (ds.map Sl.fz ++ List.replicate m .no) = true := by
  induction ds with
  | nil =>
    induction m with
    | zero => rfl
    | succ m ih => exact ih
  | cons d ds ih => exact ih
theorem def_runI {C : Nat} {N : List Str} {n : Nat} {F : M Fl} {t : TS} {vs : List V} {Q : VK} {E : XK} (hN : N ≠ []) (hF : Rs K ca W ex t F) (hW : ∀ cls dd σ H, E cls dd H → W cls dd σ H) (h : spI K ca C n (denI C N.length F) vs H Q E) :
    t { nx := fun _ H' => Q .non H', rt := Q } (L2.start N vs) H := by
  obtain ⟨I, H1, h, x, dx, ws, ds, rfl, l, hx, hdx, ne, rfl, hd, d, w⟩ := h
  obtain ⟨y, N', rfl⟩ := List.exists_cons_of_ne_nil hN
  have S1 : Same I H1 := hd.sub
  have f1 : Lf No I H1 I (upd H1 dx (.own x)) := Lf.alloc S1 hdx
  have hx' : (upd H1 dx (.own x)) x = none := by rw [upd_ne ne.symm]; exact hx
  have f2 : Lf No I (upd H1 dx (.own x)) I (upd (upd H1 dx (.own x)) x (.ins (ca C) dx [])) := Lf.alloc f1.sub hx'
  have G0 := (((good_start (ex := ex) (N := N') hd d).stepNo f1).stepNo f2).setMe (me := some x) noOi_start
  have hne : h ≠ some x := fun z => by
    rw [z] at hd
    exact Hand.ne hd hx
  have G := G0.consOi (C := C) (fs := []) (p := x) (dx := dx) (vs := []) (Same.sub S1 hx) hx hne upd_same ⟨.nil, rfl⟩
  have es : L2.start (y :: N') (V.ref x :: ws) = some (V.ref x) :: L2.start N' ws := by
    unfold L2.start
    rw [List.map_cons, List.length_cons, List.length_cons, Nat.add_sub_add_right]
    rfl
  rw [es]
  refine hF _ _ _ _ I _ G ?_
  unfold denI at w
  rw [wp_bind] at w
  rw [List.length_cons, Nat.add_sub_cancel] at w
  refine wp_mono w fun o z => ?_
  cases o with
  | val a s' =>
    cases a with
    | nx =>
      intro I' H' σ' S' G'
      have z : wp (endS C s'[0]?) (kI K ca C I H1 h x Q E) := z
      cases e : s'[0]? with
      | none => rw [e] at z; exact z.elim
      | some y =>
        rw [e] at z
        cases y with
        | oi C' fs =>
          obtain ⟨rfl, z⟩ := z
          obtain ⟨u, e1, p, dx', vs', r, g1, g2, g3, g4, g5⟩ := G'.slot e
          have : x = p := Option.some.inj g5.me
          subst this
          exact z I' H' dx' vs' G'.lf G'.hd g1 g4 g5.d
        | _ => exact z.elim
    | _ => exact z.elim
  | exc e s' => exact fun I' H' σ' cls dd G' xo => hW _ _ _ _ (z I' H' cls dd G'.lf G'.hd xo)
def noExcI (den : DenI) : DenI := fun ds => (den ds).bind fun r => match r with
  | .ok a => .ret (.ok a)
  | .error _ => .stuck
theorem wp_noExcI {den : DenI} {ds : List PV} {Q : Except Xc (List (Str × PV)) → Prop} : wp (noExcI den ds) Q ↔ wp (den ds) fun r => match r with
    | .ok a => Q (.ok a)
    | .error _ => False := by
  unfold noExcI
  rw [wp_bind]
  constructor
  · exact fun h => wp_mono h fun r z => by cases r <;> exact z
  · exact fun h => wp_mono h fun r z => by cases r <;> exact z
theorem def_runI0 {C : Nat} {N : List Str} {n : Nat} {F : M Fl} {t : TS} {vs : List V} {Q : VK} {E : XK} (hN : N ≠ []) (hF : Rs K ca (fun _ _ _ _ => False) ex t F) (h : spI K ca C n (noExcI (denI C N.length F)) vs H Q E) :
    t { nx := fun _ H' => Q .non H', rt := Q } (L2.start N vs) H := by
  refine def_runI (n := n) (C := C) (E := fun _ _ _ => False) hN hF (fun _ _ _ _ h => h) ?_
  obtain ⟨I, H1, h, x, dx, ws, ds, e, l, hx, hdx, ne, e2, hd, d, w⟩ := h
  refine ⟨I, H1, h, x, dx, ws, ds, e, l, hx, hdx, ne, e2, hd, d, wp_mono (wp_noExcI.mp w) fun r z => ?_⟩
  cases r with
  | ok a => exact z
  | error x => exact z.elim
/-! ### C(..) -/
end
def outI (C : Nat) (t : T (Except Xc (List (Str × PV)))) : M Fv := fun s => t.bind fun r => match r with
  | .ok fs => .ret (.val (.fz (.ins C fs)) s)
  | .error x => .ret (.exc x s)
def makeM (C n : Nat) (den : DenI) (dds : List PV) (fa : M (List Fv)) : M Fv := fa.bind fun xs => (frzC xs).bind fun ds => fun s => .need ((ds ++ dds).length = n) (outI C (den (ds ++ dds)) s)
section
variable {X : Cx} {K : PySem.W.Frag} {ca : Nat → Addr} {W : WX} {ex ex' : Ex} {g : Gh} {I H I' H' : Hp} {s : S4} {σ : L2.St} {v : V} {x : Fv}
theorem wpM_outI {C : Nat} {t : T (Except Xc (List (Str × PV)))} {Q : Fv → S4 → Prop} {X : Xc → S4 → Prop} : wpM (outI C t) s Q X ↔ wp t fun r => match r with
    | .ok fs => Q (.fz (.ins C fs)) s
    | .error x => X x s := by
  unfold wpM outI
  rw [wp_bind]
  constructor
  · exact fun h => wp_mono h fun r z => by cases r <;> exact z
  · exact fun h => wp_mono h fun r z => by cases r <;> exact z
theorem run_makeM {C n : Nat} {den : DenI} {dvs : List V} {dds : List PV} {t : TA} {fa : M (List Fv)} {Q : VK} {E : XK} (hd : ∀ h I, DhA K ca h I dvs dds) (ha : Ra K ca W ex t fa) (hE : ∀ {vs : List V} {H1 : Hp} {Q : VK}, spI K ca C n den vs H1 Q (fun cls dd H' => W cls dd σ H') → spI K ca C n den vs H1 Q E) (G : Good K ca ex g I H s σ)
    (w : wpM (makeM C n den dds fa) s (kE K ca ex g I σ Q) (kX K ca W ex g σ)) : tMake (ca C) (spI K ca C n den) dvs E t σ H Q := by
  refine ha σ H _ g I s G (wpM_mono (wpM_bind.mp w) (fun xs s1 z => ?_) fun _ _ z => z)
  intro I1 H1 vs S1 G1 V1
  obtain ⟨ds, I2, s2, S2, G2, d2, w2⟩ := frzC_ok G1 V1 (wpM_bind.mp z)
  obtain ⟨l, w3⟩ := w2
  intro p dx hp hdx ne
  have hg := G2.new hp
  refine hE ⟨I2, H1, g.h, p, dx, vs ++ dvs, ds ++ dds, rfl, l, hp, hdx, ne, rfl, G2.hd, d2.append (hd _ _), wp_mono (wpM_outI.mp w3) fun r z => ?_⟩
  cases r with
  | ok fs =>
    intro I' H' dx' vs' f hd' ip hv dv
    refine ⟨rfl, ?_⟩
    have G3 := G2.step f hd'
    have S3 : Same I' (upd I' p (.ins (ca C) dx' vs')) := same_updN ip
    have G4 : Good K ca ex g (upd I' p (.ins (ca C) dx' vs')) H' s2 σ := by
      refine ⟨G3.s0, G3.im.trans (same_updN ip), G3.lf.freeze G3.s0 hg.1 hv, G3.hd.freeze ip hg.2.1 hv, G3.len, fun i x v e1 e2 => ?_, G3.sep, fun q hq => ?_⟩
      · have z := G3.at' i x v e1 e2
        have fresh : ∀ {q : Addr} {o : HO}, H1 q = some o → q ≠ p := fun e h => by rw [h, hp] at e; cases e
        cases x with
        | no => trivial
        | fz d =>
          obtain ⟨u, r, h⟩ := z
          exact ⟨u, r, h.up S3⟩
        | ow xs =>
          obtain ⟨q, vs, r, h1, h2, h3, h4, h5⟩ := z
          have nq : q ≠ p := fun h => by rw [h, hv] at h4; cases h4
          exact ⟨q, vs, r, by rw [upd_ne nq]; exact h1, h2, h3, h4, h5.up S3⟩
        | xc x => exact ⟨z.1, z.2.up S3⟩
        | oi C fs =>
          obtain ⟨u0, e3, q, dx2, vs2, r, h1, h2, h3, h4, h5⟩ := G2.slot e1
          rw [e2] at e3
          cases e3
          obtain ⟨q', dx3, vs3, r', k1, k2, k3, k4, k5⟩ := z
          have eq : q' = q := by rw [r] at r'; cases r'; rfl
          subst eq
          exact ⟨q', dx3, vs3, r', by rw [upd_ne (fresh h4)]; exact k1, k2, k3, k4, k5.up S3⟩
        | od d =>
          obtain ⟨u0, e3, q, o2, r, h1, h2, h3, h4, h5⟩ := G2.slot e1
          rw [e2] at e3
          cases e3
          obtain ⟨q', o3, r', k1, k2, k3, k4, k5⟩ := z
          have eq : q' = q := by rw [r] at r'; cases r'; rfl
          subst eq
          exact ⟨q', o3, r', by rw [upd_ne (fresh h4)]; exact k1, k2, k3, k4, k5.up S3⟩
      · obtain ⟨g1, g2, g3, g4, g5⟩ := G3.res q hq
        have nq : q.1 ≠ p := fun z => by rw [z, hv] at g4; cases g4
        exact ⟨by rw [upd_ne nq]; exact g1, g2, g3, g4, g5⟩
    exact z _ H' (.ref p) (((S1.trans S2).trans f.ext).trans S3) G4 (.inr (.ins upd_same (dv.up S3)))
  | error e => exact fun I' H' cls dd f hd' xo => z I' H' cls dd (G2.step f hd') xo
theorem spI_E {C n : Nat} {den : DenI} {vs : List V} {H : Hp} {Q : VK} {E E' : XK} (hE : ∀ cls dd H', E cls dd H' → E' cls dd H') (h : spI K ca C n den vs H Q E) : spI K ca C n den vs H Q E' := by
  obtain ⟨I, H1, h, x, dx, ws, ds, e, l, hx, hdx, ne, e2, hd, d, w⟩ := h
  refine ⟨I, H1, h, x, dx, ws, ds, e, l, hx, hdx, ne, e2, hd, d, wp_mono w fun r z => ?_⟩
  cases r with
  | ok a => exact z
  | error x => exact fun I' H' cls dd f hd' xo => hE _ _ _ (z I' H' cls dd f hd' xo)
theorem r_make {C n : Nat} {den : DenI} {dvs : List V} {dds : List PV} {t : TA} {fa : M (List Fv)} {E : XK} (hd : ∀ h I, DhA K ca h I dvs dds) (hE : ∀ cls dd σ H', W cls dd σ H' → E cls dd H') (ha : Ra K ca W ex t fa) :
    Rt K ca W ex (tMake (ca C) (spI K ca C n den) dvs E t) (makeM C n den dds fa) := fun σ H Q g I s G w => run_makeM hd ha (fun h => spI_E (fun cls dd H' => hE cls dd σ H') h) G w
theorem spI_no {C n : Nat} {den : DenI} {vs : List V} {H : Hp} {Q : VK} {E E' : XK} (h : spI K ca C n (noExcI den) vs H Q E) : spI K ca C n (noExcI den) vs H Q E' := by
  obtain ⟨I, H1, h, x, dx, ws, ds, e, l, hx, hdx, ne, e2, hd, d, w⟩ := h
  refine ⟨I, H1, h, x, dx, ws, ds, e, l, hx, hdx, ne, e2, hd, d, wp_noExcI.mpr (wp_mono (wp_noExcI.mp w) fun r z => ?_)⟩
  cases r <;> exact z
theorem spD_no {n : Nat} {den : Den} {vs : List V} {H : Hp} {Q : VK} {E E' : XK} (h : spD K ca n (noExc den) vs H Q E) : spD K ca n (noExc den) vs H Q E' := by
  obtain ⟨I, h, ds, l, hd, d, w⟩ := h
  refine ⟨I, h, ds, l, hd, d, wp_noExc.mpr (wp_mono (wp_noExc.mp w) fun r z => ?_)⟩
  cases r with
  | ok a => cases a <;> exact z
  | error x => exact z
theorem r_make0 {C n : Nat} {den : DenI} {dvs : List V} {dds : List PV} {t : TA} {fa : M (List Fv)} {E : XK} (hd : ∀ h I, DhA K ca h I dvs dds) (ha : Ra K ca W ex t fa) :
    Rt K ca W ex (tMake (ca C) (spI K ca C n (noExcI den)) dvs E t) (makeM C n (noExcI den) dds fa) := fun σ H Q g I s G w => run_makeM hd ha spI_no G w
/-! ### methods and properties -/
end
def methO (C n : Nat) (m : Str) (den : Den) (dds : List PV) (fa : M (List Fv)) : Fv → M Fv
  | .fz (.ins C' fs) => fun s => .need (C' = C ∧ fs.lookup m = none) ((callN n den dds (fa.bind fun xs => M.ret (.fz (.ins C' fs) :: xs))) s)
  | _ => M.stuck
def methM (C n : Nat) (m : Str) (den : Den) (dds : List PV) (fo : M Fv) (fa : M (List Fv)) : M Fv := (setl fo).bind (methO C n m den dds fa)
def propO (C : Nat) (den : Den) : Fv → M Fv
  | .fz (.ins C' fs) => fun s => .need (C' = C) (outM (den [.ins C' fs]) s)
  | _ => M.stuck
def propM (C : Nat) (den : Den) (fo : M Fv) : M Fv := (setl fo).bind (propO C den)
section
variable {X : Cx} {K : PySem.W.Frag} {ca : Nat → Addr} {W : WX} {ex ex' : Ex} {g : Gh} {I H I' H' : Hp} {s : S4} {σ : L2.St} {v : V} {x : Fv}
theorem r_methX {C n : Nat} {m : Str} {den : Den} {dvs : List V} {dds : List PV} {to : TE} {t : TA} {fo : M Fv} {fa : M (List Fv)} {E : XK} (hd : ∀ h I, DhA K ca h I dvs dds)
    (hE : ∀ {vs : List V} {H : Hp} {Q : VK} {σ : L2.St}, spD K ca n den vs H Q (fun cls dd H' => W cls dd σ H') → spD K ca n den vs H Q E) (ho : Rt K ca W ex to fo) (ha : Ra K ca W ex t fa) :
    Rt K ca W ex (tMeth (ca C) m (spD K ca n den) dvs E to t) (methM C n m den dds fo fa) := by
  intro σ H Q g I s G w
  show to σ H _
  refine run_setl ho G w fun x s1 I1 H1 v S1 G1 V1 w1 => ?_
  cases x with
  | fz d =>
    cases d with
    | ins C' fs =>
      obtain ⟨⟨rfl, hn⟩, w2⟩ := w1
      have V1' := V1
      rcases V1 with ⟨z, _⟩ | V1
      · cases z
      · obtain ⟨a, dx, vs, rfl, h1, h2⟩ := V1.insRef
        refine ⟨a, dx, vs, rfl, G1.sub _ _ h1, h2.lookNo hn, ?_⟩
        have w3 := wpM_bind.mp (wpM_bind.mp w2)
        refine ha σ H1 _ g I1 s1 G1 (wpM_mono w3 (fun xs s2 z => ?_) fun _ _ z => z)
        intro I2 H2 ws S2 G2 V2
        have z : wpM ((frzC (.fz (.ins C' fs) :: xs)).bind fun ds => fun s => .need ((ds ++ dds).length = n) (outM (den (ds ++ dds)) s)) s2 (kE K ca ex g I σ Q) (kX K ca W ex g σ) := z
        obtain ⟨ds, I3, s3, S3, G3, d3, w4⟩ := frzC_ok G2 (.cons (V1'.up S2) V2) (wpM_bind.mp z)
        obtain ⟨l, w5⟩ := w4
        exact hE (callee G3 l (d3.append (hd _ _)) (fun _ _ _ h => h) (wpM_mono w5 (fun y s' z => kE_up ((S1.trans S2).trans S3) z) fun _ _ z => z))
    | _ => exact w1.elim
  | _ => exact w1.elim
theorem spD_E {n : Nat} {den : Den} {vs : List V} {H : Hp} {Q : VK} {E E' : XK} (hE : ∀ cls dd H', E cls dd H' → E' cls dd H') (h : spD K ca n den vs H Q E) : spD K ca n den vs H Q E' := by
  obtain ⟨I, h, ds, l, hd, d, w⟩ := h
  refine ⟨I, h, ds, l, hd, d, wp_mono w fun r z => ?_⟩
  cases r with
  | ok a => cases a <;> exact z
  | error x => exact fun I' H' cls dd f hd' xo => hE _ _ _ (z I' H' cls dd f hd' xo)
theorem r_meth {C n : Nat} {m : Str} {den : Den} {dvs : List V} {dds : List PV} {to : TE} {t : TA} {fo : M Fv} {fa : M (List Fv)} {E : XK} (hd : ∀ h I, DhA K ca h I dvs dds) (hE : ∀ cls dd σ H', W cls dd σ H' → E cls dd H') (ho : Rt K ca W ex to fo) (ha : Ra K ca W ex t fa) :
    Rt K ca W ex (tMeth (ca C) m (spD K ca n den) dvs E to t) (methM C n m den dds fo fa) := r_methX hd (fun h => spD_E (fun cls dd H' h => hE cls dd _ H' h) h) ho ha
theorem r_meth0 {C n : Nat} {m : Str} {den : Den} {dvs : List V} {dds : List PV} {to : TE} {t : TA} {fo : M Fv} {fa : M (List Fv)} {E : XK} (hd : ∀ h I, DhA K ca h I dvs dds) (ho : Rt K ca W ex to fo) (ha : Ra K ca W ex t fa) :
    Rt K ca W ex (tMeth (ca C) m (spD K ca n (noExc den)) dvs E to t) (methM C n m (noExc den) dds fo fa) := r_methX hd spD_no ho ha
theorem r_prop {C : Nat} {den : Den} {to : TE} {fo : M Fv} {E : XK} (ho : Rt K ca W ex to fo) : Rt K ca W ex (tProp (ca C) (spD K ca 1 (noExc den)) [] E to) (propM C (noExc den) fo) := by
  intro σ H Q g I s G w
  show to σ H _
  refine run_setl ho G w fun x s1 I1 H1 v S1 G1 V1 w1 => ?_
  cases x with
  | fz d =>
    cases d with
    | ins C' fs =>
      obtain ⟨rfl, w2⟩ := w1
      have V1' := V1
      rcases V1 with ⟨z, _⟩ | V1
      · cases z
      · obtain ⟨a, dx, vs, rfl, h1, h2⟩ := V1.insRef
        refine ⟨a, dx, vs, rfl, G1.sub _ _ h1, ?_⟩
        exact spD_no (callee (ds := [.ins C' fs]) G1 rfl ⟨V1', trivial⟩ (fun _ _ _ h => h) (wpM_mono w2 (fun y s' z => kE_up S1 z) fun _ _ z => z))
    | _ => exact w1.elim
  | _ => exact w1.elim
end
end L4
/-! The pure layer, part 12: making and methods within a try; comprehensions with two fors. -/
namespace L4
open PySem PySem.Spec PyProof.Rows L2 L3

section
variable {X : Cx} {CX : CXT} {k : Nat} {f C : Addr} {fd : FuncData} {ps : List Str} {sp : Sp} {dvs : List V} {ds : List Value} {E : L2.St → XK} {x m : Str} {p pos apos : Pos} {e o : Expr} {es : List Expr} {ta : TE} {t : TA}
def tMakeS (C : Addr) (sp : Sp) (dvs : List V) (E : L2.St → XK) (t : TA) : TE := fun σ H Q => tMake C sp dvs (E σ) t σ H Q
def tMethS (C : Addr) (m : Str) (sp : Sp) (dvs : List V) (E : L2.St → XK) (ta : TE) (t : TA) : TE := fun σ H Q => tMeth C m sp dvs (E σ) ta t σ H Q
/-- an instance is made, where what is let out is wished for at the slots σ -/
theorem make_at {pins : List (Addr × Obj)} {σ : L2.St} {H : Hp} {s : Shared} {Q : VK} {us : List Value} {vs : List V} (M : Mk X.K C f) (F : FnOk X.prog X.w X.K X.mg X.base CX k f fd ps sp) (hr : Room (k + 1) X.A) (hb : Binds X.K fd ps ds) (hd : Vals dvs ds)
    (hx : PassesAt CX X σ (E σ)) (I : Inv X pins σ H s) (r : Vals vs us)
    (h : ∀ x dx, H x = none → H dx = none → dx ≠ x → sp (.ref x :: (vs ++ dvs)) (upd (upd H dx (.own x)) x (.ins C dx [])) (fun v H2 => v = .non ∧ Q (.ref x) H2) (E σ)) :
    wpAny (model X.prog X.w) X.A (call (.ref C) us) (EP X pins σ Q) X.xe s := by
  have I2 := Inv.made (C := C) I
  have q := h (s.heap.objs.size + 1) s.heap.objs.size (I.hok.fresh (Nat.le_succ _)) (I.hok.fresh (Nat.le_refl _)) (Nat.ne_of_lt (Nat.lt_succ_self _))
  have rs : Vals (V.ref (s.heap.objs.size + 1) :: (vs ++ dvs)) (Value.ref (s.heap.objs.size + 1) :: (us ++ ds)) := .cons rfl (r.append hd)
  have hl : (Value.ref (s.heap.objs.size + 1) :: us ++ ds).length = ps.length := (F.len _ _ _ _ q ▸ rs.length).symm
  refine wpAny_call (make_map (f := f) I.kIn M.makes M.init (beq_iff_eq.mp M.fn) (codeAny_mono (F.run _ X.stack _ _ ⟨Value.ref (s.heap.objs.size + 1) :: us, []⟩ _ _ _ _ (hr.make C us []) (I2.env0.make C us []) (hb _ (Value.ref (s.heap.objs.size + 1) :: us) I2.kIn hl) rs q) fun r s' hq => ?_))
  match r, hq with
  | .error e, hq => exact hx pins _ _ e s' I2 hq
  | .ok (.ret u), hq =>
    obtain ⟨v, H', I3, rv, ev, q3⟩ := I2.after hq
    subst ev
    exact ⟨rv, V.ref (s.heap.objs.size + 1), H', I3, rfl, q3⟩
  | .ok .next, hq => exact False.elim hq
  | .ok .brk, hq => exact False.elim hq
  | .ok .cont, hq => exact False.elim hq
theorem pe_makeS (M : Mk X.K C f) (F : FnOk X.prog X.w X.K X.mg X.base CX k f fd ps sp) (hr : Room (k + 1) X.A) (hg : Gl X x) (hm : X.mg x = some (.ref C)) (hb : Binds X.K fd ps ds) (hd : Vals dvs ds) (hx : ∀ σ, PassesAt CX X σ (E σ))
    (ha : PA X (e :: es) t) (hdb : (x == ("__debug__" : Str)) = false := by decide) (he : starEach (e :: es) X.env = (false, eval e X.env) :: starEach es X.env := by rfl) (hpl : (backTo pos (starEach es X.env)).any (·.1) = false := by rfl) :
    PE X (.Call (.Name x p) (e :: es) [] pos) (tMakeS C sp dvs E t) := by
  refine ⟨fun pins s σ H Q I h => ?_⟩
  refine wpAny_Call_Name_kw (ld_glob I hg hm ?_ hdb)
  refine PySem.W.callWith_K (h₀ := X.base) I.ok.mod.kin M.kp (thn (ha.run pos pins s σ H _ I h) fun us s1 ⟨vs, H1, I1, r, q⟩ => ⟨I1.kIn, ?_⟩) he hpl
  exact make_at M F hr hb hd (hx σ) I1 r q
theorem pe_methS4 {pl : Sem Bool} (he : PE X o ta) (c : Cls X.K C) (hm : Meth X.K C m f) (F : FnOk X.prog X.w X.K X.mg X.base CX k f fd ps sp) (hr : Room k X.A) (hb : Binds X.K fd ps ds) (hd : Vals dvs ds) (hx : ∀ σ, PassesAt CX X σ (E σ)) (ha : PA X (e :: es) t)
    (hst : starEach (e :: es) X.env = (false, eval e X.env) :: starEach es X.env := by rfl) (hpl : (backTo pos (starEach es X.env)).any (·.1) = false := by rfl)
    (ht : eval (.Call (.Attribute o m apos) (e :: es) [] pos) X.env = (do
      let ov ← eval o X.env
      standAt apos.atName
      let (f, first) ← holding [ov] (getMethod ov m pl)
      callWith pos f first (backTo pos (starEach (e :: es) X.env)) (backToKw pos (keywordEach [] X.env))) := by rfl) :
    PE X (.Call (.Attribute o m apos) (e :: es) [] pos) (tMethS C m sp dvs E ta t) := by
  refine ⟨fun pins s σ H Q I h => ?_⟩
  refine PySem.W.methodCall_KW (pl := pl) (thn (he.run pins s σ H _ I h) fun u s1 ⟨x, H1, I1, rx, a, dx, fs, ex, ea, l, q⟩ => ?_) ht
  subst ex
  obtain rfl : u = Value.ref a := rx
  refine getmeth_ok I1 ea c hm l ?_
  refine PySem.W.callWith_K (first := [.ref a]) (h₀ := X.base) I.ok.mod.kin hm.kp (thn (ha.run pos pins s1 σ H1 _ I1 q) fun us s2 ⟨vs, H2, I2, r, q2⟩ => ⟨I2.kIn, ?_⟩) hst hpl
  exact run_fnSD (us := .ref a :: us) (vs := .ref a :: vs) F hr hb hd (hx σ) I2 (.cons rfl r) q2
theorem pe_methS40 {pl : Sem Bool} (he : PE X o ta) (c : Cls X.K C) (hm : Meth X.K C m f) (F : FnOk X.prog X.w X.K X.mg X.base CX k f fd ps sp) (hr : Room k X.A) (hb : Binds X.K fd ps ds) (hd : Vals dvs ds) (hx : ∀ σ, PassesAt CX X σ (E σ))
    (ht : eval (.Call (.Attribute o m apos) [] [] pos) X.env = (do
      let ov ← eval o X.env
      standAt apos.atName
      let (f, first) ← holding [ov] (getMethod ov m pl)
      callWith pos f first (backTo pos (starEach [] X.env)) (backToKw pos (keywordEach [] X.env))) := by rfl) :
    PE X (.Call (.Attribute o m apos) [] [] pos) (tMethS C m sp dvs E ta tNil) := by
  refine ⟨fun pins s σ H Q I h => ?_⟩
  refine PySem.W.methodCall_KW (pl := pl) (thn (he.run pins s σ H _ I h) fun u s1 ⟨x, H1, I1, rx, a, dx, fs, ex, ea, l, q⟩ => ?_) ht
  subst ex
  obtain rfl : u = Value.ref a := rx
  refine getmeth_ok I1 ea c hm l ?_
  exact PySem.W.callWith_K0 (first := [.ref a]) I1.kIn hm.kp (run_fnSD (us := [.ref a]) (vs := [.ref a]) F hr hb hd (hx σ) I1 (.cons rfl .nil) q)
end
section
variable {X : Cx} {K : PySem.W.Frag} {ca : Nat → Addr} {W : WX} {ex ex' : Ex} {g : Gh} {I H I' H' : Hp} {s : S4} {σ : L2.St} {v : V} {x : Fv}
theorem r_makeS {C n : Nat} {den : DenI} {dvs : List V} {dds : List PV} {t : TA} {fa : M (List Fv)} {E : L2.St → XK} (hd : ∀ h I, DhA K ca h I dvs dds) (hE : ∀ cls dd σ H', W cls dd σ H' → E σ cls dd H') (ha : Ra K ca W ex t fa) :
    Rt K ca W ex (tMakeS (ca C) (spI K ca C n den) dvs E t) (makeM C n den dds fa) := fun σ H Q g I s G w => run_makeM hd ha (fun h => spI_E (fun cls dd H' => hE cls dd σ H') h) G w
theorem r_methS {C n : Nat} {m : Str} {den : Den} {dvs : List V} {dds : List PV} {to : TE} {t : TA} {fo : M Fv} {fa : M (List Fv)} {E : L2.St → XK} (hd : ∀ h I, DhA K ca h I dvs dds) (hE : ∀ cls dd σ H', W cls dd σ H' → E σ cls dd H') (ho : Rt K ca W ex to fo) (ha : Ra K ca W ex t fa) :
    Rt K ca W ex (tMethS (ca C) m (spD K ca n den) dvs E to t) (methM C n m den dds fo fa) := by
  intro σ H Q g I s G w
  have W' : ∀ cls dd σ' H', (fun cls dd (_ : L2.St) H' => W cls dd σ H') cls dd σ' H' → E σ cls dd H' := fun cls dd _ H' h => hE cls dd σ H' h
  show to σ H _
  refine run_setl ho G w fun x s1 I1 H1 v S1 G1 V1 w1 => ?_
  cases x with
  | fz d =>
    cases d with
    | ins C' fs =>
      obtain ⟨⟨rfl, hn⟩, w2⟩ := w1
      have V1' := V1
      rcases V1 with ⟨z, _⟩ | V1
      · cases z
      · obtain ⟨a, dx, vs, rfl, h1, h2⟩ := V1.insRef
        refine ⟨a, dx, vs, rfl, G1.sub _ _ h1, h2.lookNo hn, ?_⟩
        have w3 := wpM_bind.mp (wpM_bind.mp w2)
        refine ha σ H1 _ g I1 s1 G1 (wpM_mono w3 (fun xs s2 z => ?_) fun _ _ z => z)
        intro I2 H2 ws S2 G2 V2
        have z : wpM ((frzC (.fz (.ins C' fs) :: xs)).bind fun ds => fun s => .need ((ds ++ dds).length = n) (outM (den (ds ++ dds)) s)) s2 (kE K ca ex g I σ Q) (kX K ca W ex g σ) := z
        obtain ⟨ds, I3, s3, S3, G3, d3, w4⟩ := frzC_ok G2 (.cons (V1'.up S2) V2) (wpM_bind.mp z)
        obtain ⟨l, w5⟩ := w4
        exact callee G3 l (d3.append (hd _ _)) (fun cls dd H' h => hE cls dd σ H' h) (wpM_mono w5 (fun y s' z => kE_up ((S1.trans S2).trans S3) z) fun _ _ z => z)
    | _ => exact w1.elim
  | _ => exact w1.elim
end
end L4
/-! The pure layer, part 13: comprehensions with two fors. -/
namespace L4
open PySem PySem.Spec PyProof.Rows L2 L3

def lcIn (vs vs1 : List Nat) (tg1 : Fv → M Unit) (test1 : M Bool) (elt : M Fv) (es acc : List PV) (k : List PV → M (List PV)) : M (List PV) := fun s => ((lcL vs1 tg1 test1 elt es acc).bind fun acc' => fun s' => k acc' (wipeS s' vs)) (wipeS s vs1)
def lcL2 (vs vs1 : List Nat) (tg : Fv → M Unit) (test : M Bool) (src1 : M (List PV)) (tg1 : Fv → M Unit) (test1 : M Bool) (elt : M Fv) : List PV → List PV → M (List PV)
  | [], acc => M.ret acc
  | d :: ds, acc => (tg (.fz d)).bind fun _ => test.bind fun b => if b then src1.bind fun es => lcIn vs vs1 tg1 test1 elt es acc (lcL2 vs vs1 tg test src1 tg1 test1 elt ds)
    else fun s => lcL2 vs vs1 tg test src1 tg1 test1 elt ds acc (wipeS s vs)
def lcM2 (vs vs1 : List Nat) (src : M (List PV)) (tg : Fv → M Unit) (test : M Bool) (src1 : M (List PV)) (tg1 : Fv → M Unit) (test1 : M Bool) (elt : M Fv) : M Fv :=
  src.bind fun ds => fun s => (noX (lcL2 vs vs1 tg test src1 tg1 test1 elt ds [])).bind (fun acc => M.ret (.ow acc)) (wipeS s vs)
section
variable {K : PySem.W.Frag} {ca : Nat → Addr} {W : WX} {ex : Ex} {g : Gh} {I H I' H' : Hp} {s : S4} {σ : L2.St} {v : V} {x : Fv}
theorem line : sizeLine = 16777216 := sizeLine_eq
theorem lc_loop {tg : TG} {tt : TT} {te : TE} {vs : List Nat} {Ft : Fv → M Unit} {Fc : M Bool} {Fe : M Fv} (hg : Rgv K ca (fun _ _ _ _ => False) ex vs tg Ft) (ht : Rb K ca (fun _ _ _ _ => False) ex tt Fc) (he : Rt K ca (fun _ _ _ _ => False) ex te Fe)
    {D : Addr} {J : It} {ds acc0 : List PV} {vs0 : List V} {s1 : S4} {R : List PV → S4 → Prop} {Z : Hp → Prop} (wk : WalksD K ca J I' ds) (offr : ∀ q ∈ g.rs, q.1 ≠ D)
    (G0 : Good K ca ex { g with rs := (D, vs0) :: g.rs } I' H' (wipeS s1 vs) (L2.wipe σ vs)) (d0 : DvA K ca I' vs0 acc0) (w0 : wpM (lcL vs Ft Fc Fe ds acc0) (wipeS s1 vs) R fun _ _ => False)
    (fin : ∀ I1 H s1 acc vs', Same I' I1 → Good K ca ex { g with rs := (D, vs') :: g.rs } I1 H (wipeS s1 vs) (L2.wipe σ vs) → DvA K ca I1 vs' acc → R acc (wipeS s1 vs) → Z H) :
    ∃ W : Nat → Nat → Hp → Prop, (∃ m, W 0 m H') ∧ ∀ i m H, W i m H → (J.stop i H ∧ Z H) ∨ (J.go i H ∧ ∃ Nx : Hp → Prop, (∀ H', Nx H' → ∃ m', m' < m ∧ W (i + 1) m' H') ∧ ∀ x H', J.yld i H x H' → tg x (L2.wipe σ vs) H' fun σ2 H2 =>
      L2.wipe σ2 vs = L2.wipe σ vs ∧ tt σ2 H2 fun b H3 => if b = true then te σ2 H3 fun y H4 => ∃ acc, H4 D = some (.lst acc) ∧ acc.length < sizeLine ∧ Nx (upd H4 D (.lst (acc ++ [y]))) else Nx H3) := by
  refine ⟨fun i m H => m = ds.length - i ∧ i ≤ ds.length ∧ ∃ I1 s1 acc vs', Same I' I1 ∧ Good K ca ex { g with rs := (D, vs') :: g.rs } I1 H (wipeS s1 vs) (L2.wipe σ vs) ∧ DvA K ca I1 vs' acc ∧
      wpM (lcL vs Ft Fc Fe (ds.drop i) acc) (wipeS s1 vs) R (fun _ _ => False), ⟨ds.length, rfl, Nat.zero_le _, I', s1, acc0, vs0, Same.refl _, G0, d0, by rw [List.drop_zero]; exact w0⟩, ?_⟩
  rintro i m H ⟨rfl, hi, I1, s2, acc, vs', S1, G1, da, w1⟩
  by_cases hlt : i < ds.length
  · refine .inr ⟨wk.goes i H (S1.trans G1.sub) hlt, fun H => ∃ I1 s1 acc vs', Same I' I1 ∧ Good K ca ex { g with rs := (D, vs') :: g.rs } I1 H (wipeS s1 vs) (L2.wipe σ vs) ∧ DvA K ca I1 vs' acc ∧
      wpM (lcL vs Ft Fc Fe (ds.drop (i + 1)) acc) (wipeS s1 vs) R (fun _ _ => False), fun H' h => ⟨ds.length - (i + 1), by omega, rfl, hlt, h⟩, fun x H2 y => ?_⟩
    rw [List.drop_eq_getElem_cons hlt] at w1
    obtain ⟨I2, S2, G2, dv, _⟩ := wk.item S1 G1 (List.getElem?_eq_getElem hlt) y
    refine hg _ H2 _ _ I2 _ x _ G2 (Vo.ofDv dv) (wpM_mono (wpM_bind.mp w1) (fun _ s3 z => ?_) fun _ _ z => z.elim)
    intro I3 H3 σ3 S3 G3 ew
    have ew' : L2.wipe σ3 vs = L2.wipe σ vs := ew.trans wipe_idem
    refine ⟨ew', ht σ3 H3 _ _ I3 s3 G3 (wpM_mono (wpM_bind.mp z) (fun b s4 z => ?_) fun _ _ z => z.elim)⟩
    intro I4 H4 S4 G4
    have SS := ((S1.trans S2).trans S3).trans S4
    cases b with
    | false =>
      rw [if_neg Bool.false_ne_true]
      exact ⟨I4, s4, acc, vs', SS, by rw [← ew']; exact G4.wipe vs, da.up ((S2.trans S3).trans S4), z⟩
    | true =>
      rw [if_pos rfl]
      refine run_setlX he G4 (fun _ _ z => z.elim) z fun x5 s5 I5 H5 y5 S5 G5 V5 z5 => ?_
      obtain ⟨e, I6, s6, S6, G6, de, z6⟩ := frzD_ok G5 V5.vo (wpM_bind.mp z5)
      obtain ⟨l6, z7⟩ := z6
      obtain ⟨q1, q2, q3, q4, q5⟩ := G6.res _ List.mem_cons_self
      have G7 := G6.unres.making (o := .lst (vs' ++ [y5])) q1 q2 q3 q4 q5 offr
      refine ⟨vs', q4, by rw [da.length, line]; exact l6, I6, s6, acc ++ [e], vs' ++ [y5], (SS.trans S5).trans S6, ?_, DvA.append (da.up ((((S2.trans S3).trans S4).trans S5).trans S6)) (.cons de .nil), ?_⟩
      · rw [← ew']
        exact (G7.addRes q1 q2 q3 upd_same q5).wipe vs
      · exact wpM_mono z7 (fun _ _ z => z) (fun _ _ z => z)
  · obtain rfl : i = ds.length := by omega
    rw [List.drop_length] at w1
    exact .inl ⟨wk.stops H (S1.trans G1.sub), fin I1 H s2 acc vs' S1 G1 da w1⟩
theorem wipe_sub {σ : L2.St} {vs : List Nat} : ∀ {ws : List Nat}, (∀ i ∈ ws, i ∈ vs) → L2.wipe (L2.wipe σ ws) vs = L2.wipe σ vs
  | [], _ => rfl
  | w :: ws, h => by
    show L2.wipe ((L2.wipe σ ws).set w none) vs = _
    rw [wipe_set (h w List.mem_cons_self)]
    exact wipe_sub fun i hi => h i (List.mem_cons_of_mem _ hi)
theorem r_lc2 {wi wi1 : TI} {tg tg1 : TG} {tt tt1 : TT} {te : TE} {vs vs1 : List Nat} {src src1 : M (List PV)} {Ft Ft1 : Fv → M Unit} {Fc Fc1 : M Bool} {Fe : M Fv} (hv : ∀ i ∈ vs1, i ∈ vs) (hi : Ri K ca W ex wi src) (hg : Rgv K ca (fun _ _ _ _ => False) ex vs tg Ft)
    (ht : Rb K ca (fun _ _ _ _ => False) ex tt Fc) (hi1 : Ri K ca (fun _ _ _ _ => False) ex wi1 src1) (hg1 : Rgv K ca (fun _ _ _ _ => False) ex vs1 tg1 Ft1) (ht1 : Rb K ca (fun _ _ _ _ => False) ex tt1 Fc1) (he : Rt K ca (fun _ _ _ _ => False) ex te Fe) :
    Rt K ca W ex (tLc2 wi tg tt wi1 tg1 tt1 te vs vs1) (lcM2 vs vs1 src Ft Fc src1 Ft1 Fc1 Fe) := by
  intro σ H Q g I s G w
  refine hi σ H _ g I s G (wpM_mono (wpM_bind.mp w) (fun ds s1 z => ?_) fun _ _ z => z)
  intro I' H' J S G' wk D hD
  have z1 : wpM ((noX (lcL2 vs vs1 Ft Fc src1 Ft1 Fc1 Fe ds [])).bind (fun acc => M.ret (.ow acc))) (wipeS s1 vs) (kE K ca ex g I σ Q) (kX K ca W ex g σ) := z
  have z2 := wpM_noX.mp (wpM_bind.mp z1)
  obtain ⟨h0, ne, off, offr⟩ := G'.new hD
  have offr0 : ∀ q ∈ g.rs, q.1 ≠ D := offr
  refine ⟨fun i m H => m = ds.length - i ∧ i ≤ ds.length ∧ ∃ I1 s1 acc vs', Same I' I1 ∧ Good K ca ex { g with rs := (D, vs') :: g.rs } I1 H (wipeS s1 vs) (L2.wipe σ vs) ∧ DvA K ca I1 vs' acc ∧
      wpM (lcL2 vs vs1 Ft Fc src1 Ft1 Fc1 Fe (ds.drop i) acc) (wipeS s1 vs) (fun acc s' => kE K ca ex g I σ Q (.ow acc) s') (fun _ _ => False), ⟨ds.length, rfl, Nat.zero_le _, I', s1, [], [], Same.refl _, ?_, .nil, by rw [List.drop_zero]; exact z2⟩, ?_⟩
  · have f : Lf No I' H' I' (upd H' D (.lst [])) := Lf.alloc G'.sub hD
    refine Good.addRes ((G'.stepNo f).wipe vs) (Same.sub G'.sub hD) h0 ne upd_same fun i x e1 o1 e2 => ?_
    have ni : i ∉ vs := fun h => by have := wipeS_mem h _ e1; rw [this] at o1; cases o1
    rw [wipe_not ni] at e2
    have e1' : s1[i]? = some x := by
      have key : ∀ {ws : List Nat}, i ∉ ws → (wipeS s1 ws)[i]? = s1[i]? := by
        intro ws
        induction ws with
        | nil => intro _; rfl
        | cons w ws ih =>
          intro h
          show ((wipeS s1 ws).set w .no)[i]? = _
          rw [List.getElem?_set_ne (fun z => h (by rw [z]; exact List.mem_cons_self))]
          exact ih fun z => h (List.mem_cons_of_mem _ z)
      rw [← key ni]; exact e1
    exact off i x e1' o1 e2
  · rintro i m H ⟨rfl, hi, I1, s2, acc, vs', S1, G1, da, w1⟩
    have r1 := G1.res _ List.mem_cons_self
    by_cases hlt : i < ds.length
    · refine .inr ⟨wk.goes i H (S1.trans G1.sub) hlt, fun H => ∃ I1 s1 acc vs', Same I' I1 ∧ Good K ca ex { g with rs := (D, vs') :: g.rs } I1 H (wipeS s1 vs) (L2.wipe σ vs) ∧ DvA K ca I1 vs' acc ∧
        wpM (lcL2 vs vs1 Ft Fc src1 Ft1 Fc1 Fe (ds.drop (i + 1)) acc) (wipeS s1 vs) (fun acc s' => kE K ca ex g I σ Q (.ow acc) s') (fun _ _ => False), fun H' h => ⟨ds.length - (i + 1), by omega, rfl, hlt, h⟩, fun x H2 y => ?_⟩
      rw [List.drop_eq_getElem_cons hlt] at w1
      obtain ⟨I2, S2, G2, dv, _⟩ := wk.item S1 G1 (List.getElem?_eq_getElem hlt) y
      refine hg _ H2 _ _ I2 _ x _ G2 (Vo.ofDv dv) (wpM_mono (wpM_bind.mp w1) (fun _ s3 z => ?_) fun _ _ z => z.elim)
      intro I3 H3 σ3 S3 G3 ew
      have ew' : L2.wipe σ3 vs = L2.wipe σ vs := ew.trans wipe_idem
      refine ⟨ew', ht σ3 H3 _ _ I3 s3 G3 (wpM_mono (wpM_bind.mp z) (fun b s4 z => ?_) fun _ _ z => z.elim)⟩
      intro I4 H4 S4 G4
      have SS := ((S1.trans S2).trans S3).trans S4
      cases b with
      | false =>
        rw [if_neg Bool.false_ne_true]
        exact ⟨I4, s4, acc, vs', SS, by rw [← ew']; exact G4.wipe vs, da.up ((S2.trans S3).trans S4), z⟩
      | true =>
        rw [if_pos rfl]
        refine hi1 σ3 H4 _ { g with rs := (D, vs') :: g.rs } I4 s4 G4 (wpM_mono (wpM_bind.mp z) (fun es s5 z => ?_) fun _ _ z => z.elim)
        intro I5 H5 J1 S5 G5 wk1
        have z : wpM ((lcL vs1 Ft1 Fc1 Fe es acc).bind fun acc' => fun s' => lcL2 vs vs1 Ft Fc src1 Ft1 Fc1 Fe (ds.drop (i + 1)) acc' (wipeS s' vs)) (wipeS s5 vs1) (fun acc s' => kE K ca ex g I σ Q (.ow acc) s') (fun _ _ => False) := z
        have G5' := G5.wipe vs1
        have da5 := da.up (((S2.trans S3).trans S4).trans S5)
        refine lc_loop (σ := σ3) (g := g) hg1 ht1 he (D := D) (ds := es) (acc0 := acc) (vs0 := vs') wk1 offr0 G5' da5 (wpM_bind.mp z) fun I6 H6 s6 acc6 vs6 S6 G6 d6 z6 => ?_
        refine ⟨I6, wipeS s6 vs1, acc6, vs6, (SS.trans S5).trans S6, ?_, d6, z6⟩
        rw [← ew', ← wipe_sub hv]
        exact G6.wipe vs
    · obtain rfl : i = ds.length := by omega
      rw [List.drop_length] at w1
      refine .inl ⟨wk.stops H (S1.trans G1.sub), ?_⟩
      obtain ⟨q1, q2, q3, q4, q5⟩ := r1
      refine w1 I1 H (.ref D) (S.trans S1) G1.unres.unwipe ⟨D, vs', rfl, q1, q2, q3, q4, da, fun i y e1 o1 e2 => ?_, offr⟩
      have ni : i ∉ vs := fun h => by have := wipeS_mem h _ e1; rw [this] at o1; cases o1
      exact q5 i y e1 o1 (by rw [wipe_not ni]; exact e2)
end
end L4
/-! The pure layer, part 14: {}, bool, max and min of two, insert, sorted, zip, keywords. -/
namespace L4
open PySem PySem.Spec PyProof.Rows L2 L3

/-! ### {} -/
def dnewKM : M Fv := M.ret (.nd (.dK [] []))
def dnewTM : M Fv := M.ret (.nd (.dT [] []))
/-! ### of two -/
def boolP (ds : List PV) : T Rv := match ds with
  | [.int i] => .ret (.fz (.bl (i != 0)))
  | [.bl b] => .ret (.fz (.bl b))
  | _ => .stuck
def max2P (ds : List PV) : T Rv := match ds with
  | [.int i, .int j] => .ret (.fz (.int (if j > i then j else i)))
  | _ => .stuck
def min2P (ds : List PV) : T Rv := match ds with
  | [.int i, .int j] => .ret (.fz (.int (if j < i then j else i)))
  | _ => .stuck
def divmodP (ds : List PV) : T Rv := match ds with
  | [.int i, .int j] => .need (CDiv i j) (.ret (.fz (.tup [.int (i / j), .int (i % j)])))
  | _ => .stuck
def insertP (xs ds : List PV) : T (PV × List PV) := match ds with
  | [.int i, d] => .need (xs.length < 16777216 ∧ 0 ≤ i ∧ i < 2 ^ 63) (.ret (.non, xs.take i.toNat ++ [d] ++ xs.drop i.toNat))
  | _ => .stuck
def insI (i : Int) : List Int → List Int
  | [] => [i]
  | j :: js => if i ≤ j then i :: j :: js else j :: insI i js
def sortI : List Int → List Int
  | [] => []
  | i :: is => insI i (sortI is)
def sortK : Option (List Int) → T Rv
  | some ns => .ret (.ow ((sortI ns).map PV.int))
  | none => .stuck
def sortedP (ds : List PV) : T Rv := match ds with
  | [.lst zs] => sortK (asInts zs)
  | _ => .stuck
theorem insI_perm (i : Int) : ∀ ns : List Int, (insI i ns).Perm (i :: ns)
  | [] => .refl _
  | j :: js => by
    show (if i ≤ j then i :: j :: js else j :: insI i js).Perm _
    split
    · exact .refl _
    · exact ((insI_perm i js).cons j).trans (.swap _ _ _)
theorem sortI_perm : ∀ ns : List Int, (sortI ns).Perm ns
  | [] => .refl _
  | i :: is => (insI_perm i _).trans ((sortI_perm is).cons i)
theorem insI_sorted (i : Int) : ∀ {ns : List Int}, ns.Pairwise (· ≤ ·) → (insI i ns).Pairwise (· ≤ ·)
  | [], _ => List.pairwise_singleton _ _
  | j :: js, h => by
    show (if i ≤ j then i :: j :: js else j :: insI i js).Pairwise _
    split
    · rename_i hij
      refine List.pairwise_cons.mpr ⟨fun k hk => ?_, h⟩
      rcases List.mem_cons.mp hk with rfl | hk
      · exact hij
      · exact Int.le_trans hij ((List.pairwise_cons.mp h).1 k hk)
    · rename_i hij
      refine List.pairwise_cons.mpr ⟨fun k hk => ?_, insI_sorted i (List.pairwise_cons.mp h).2⟩
      rcases List.mem_cons.mp ((insI_perm i js).mem_iff.mp hk) with rfl | hk
      · omega
      · exact (List.pairwise_cons.mp h).1 k hk
theorem sortI_sorted : ∀ ns : List Int, (sortI ns).Pairwise (· ≤ ·)
  | [] => List.Pairwise.nil
  | i :: is => insI_sorted i (sortI_sorted is)
theorem sorted_unique : ∀ {xs ys : List Int}, xs.Perm ys → xs.Pairwise (· ≤ ·) → ys.Pairwise (· ≤ ·) → xs = ys
  | [], ys, p, _, _ => (List.nil_perm.mp p).symm
  | x :: xs, ys, p, h, k => by
    cases ys with
    | nil => exact absurd p (by intro q; have := q.length_eq; simp at this)
    | cons y ys =>
      have h1 := List.pairwise_cons.mp h
      have k1 := List.pairwise_cons.mp k
      have e : x = y := by
        have hx := p.mem_iff.mp (List.mem_cons_self (a := x) (l := xs))
        have hy := p.mem_iff.mpr (List.mem_cons_self (a := y) (l := ys))
        rcases List.mem_cons.mp hx with rfl | hx
        · rfl
        · rcases List.mem_cons.mp hy with rfl | hy
          · rfl
          · exact Int.le_antisymm (h1.1 _ hy) (k1.1 _ hx)
      subst e
      rw [sorted_unique (List.Perm.cons_inv p) h1.2 k1.2]
section
variable {X : Cx} {K : PySem.W.Frag} {ca : Nat → Addr} {W : WX} {ex ex' : Ex} {g : Gh} {I H I' H' : Hp} {s : S4} {σ : L2.St} {v : V} {x : Fv}
theorem r_dnewK : Rt K ca W ex tDNewK dnewKM := by
  intro σ H Q g I s G w p hp
  obtain ⟨h0, ne, off⟩ := G.new hp
  have f : Lf No I H I (upd H p (.dK [])) := Lf.alloc G.sub hp
  exact w I _ (.ref p) (Same.refl I) (G.stepNo f) ⟨p, _, rfl, Same.sub G.sub hp, h0, ne, upd_same, .k (kvs := []) .nil, off⟩
theorem r_dnewT : Rt K ca W ex tDNewT dnewTM := by
  intro σ H Q g I s G w p hp
  obtain ⟨h0, ne, off⟩ := G.new hp
  have f : Lf No I H I (upd H p (.dT [])) := Lf.alloc G.sub hp
  exact w I _ (.ref p) (Same.refl I) (G.stepNo f) ⟨p, _, rfl, Same.sub G.sub hp, h0, ne, upd_same, .t (kvs := []) .nil, off⟩
def rBool1 : List V → Hp → VK → Prop := fun xs H Q => (∃ i, xs = [.int i] ∧ Q (.bl (i != 0)) H) ∨ ∃ k, xs = [.bl k] ∧ Q (.bl k) H
theorem call_boolB : CallR X (.type "bool") rBool1 := call_bool1
def rMax2 : List V → Hp → VK → Prop := fun xs H Q => ∃ i j, xs = [.int i, .int j] ∧ Q (.int (if j > i then j else i)) H
def rMin2 : List V → Hp → VK → Prop := fun xs H Q => ∃ i j, xs = [.int i, .int j] ∧ Q (.int (if j < i then j else i)) H
theorem call_max22 (hc : X.calm = true) : CallR X (.builtin "max") rMax2 := call_max2 hc
theorem call_min22 (hc : X.calm = true) : CallR X (.builtin "min") rMin2 := call_min2 hc
def rDivmod : List V → Hp → VK → Prop := fun xs H Q => ∃ i j, xs = [.int i, .int j] ∧ CDiv i j ∧ ∀ p, H p = none → Q (.ref p) (upd H p (.tup [.int (i / j), .int (i % j)]))
theorem call_divmod2 : CallR X (.builtin "divmod") rDivmod := call_divmod
def rInsert : V → List V → Hp → VK → Prop := fun x vs H Q => ∃ (l : Addr) (xs : List V) (i : Int) (y : V), x = .ref l ∧ vs = [.int i, y] ∧ H l = some (.lst xs) ∧ xs.length < sizeLine ∧ 0 ≤ i ∧ i < 2 ^ 63 ∧
  Q .non (upd H l (.lst (xs.take i.toNat ++ [y] ++ xs.drop i.toNat)))
theorem mt_insert2 : MtR X "list.insert" rInsert := mt_insert
theorem cr_sortedIK (h : X.K = K) : CallR X (.builtin "sorted") (rSortedI K) := h ▸ cr_sortedI
theorem o_bool : CbOk K ca rBool1 boolP := by
  intro I H xs ds Q S h w
  match ds, h, w with
  | [.int i], h, w =>
    obtain ⟨v, rfl, hv⟩ := h.one
    exact .inl ⟨i, by rw [hv.int], kO_bl S w⟩
  | [.bl b], h, w =>
    obtain ⟨v, rfl, hv⟩ := h.one
    exact .inr ⟨b, by rw [hv.bl], kO_bl S w⟩
theorem o_max2 : CbOk K ca rMax2 max2P := by
  intro I H xs ds Q S h w
  match ds, h, w with
  | [.int i, .int j], h, w =>
    obtain ⟨v, u, rfl, hv, hu⟩ := h.two
    exact ⟨i, j, by rw [hv.int, hu.int], kO_int S w⟩
theorem o_min2 : CbOk K ca rMin2 min2P := by
  intro I H xs ds Q S h w
  match ds, h, w with
  | [.int i, .int j], h, w =>
    obtain ⟨v, u, rfl, hv, hu⟩ := h.two
    exact ⟨i, j, by rw [hv.int, hu.int], kO_int S w⟩
theorem o_divmod : CbOk K ca rDivmod divmodP := by
  intro I H xs ds Q S h w
  match ds, h, w with
  | [.int i, .int j], h, w =>
    obtain ⟨v, u, rfl, hv, hu⟩ := h.two
    exact ⟨i, j, by rw [hv.int, hu.int], w.1, fun p hp => kO_tup S w.2 (.cons (.int _) (.cons (.int _) .nil)) hp⟩
theorem o_insert : MutOk K ca rInsert insertP := by
  intro I H p vs as xs ds Q S hp hv dx da w
  match ds, da, w with
  | [.int i, d], .cons h (.cons h2 .nil), w =>
    obtain ⟨⟨l1, l2, l3⟩, w⟩ := w
    cases h
    refine ⟨p, vs, i, _, rfl, rfl, hv, by rw [dx.length, sizeLine_eq]; exact l1, l2, l3, w _ _ .non ?_⟩
    exact DvA.append (DvA.append (dx.take _) (.cons h2 .nil)) (dx.drop _)
theorem o_sorted : CbOk K ca (rSortedI K) sortedP := by
  intro I H xs ds Q S h w
  match ds, h, w with
  | [.lst zs], h, w =>
    have w : wp (sortK (asInts zs)) (kO K ca I H Q) := w
    obtain ⟨v, rfl, hv⟩ := h.one
    obtain ⟨a, vs, rfl, ha, da⟩ := Vw.lst S hv
    cases e : asInts zs with
    | none => rw [e] at w; exact w.elim
    | some ns =>
      rw [e] at w
      rw [asInts_ok e] at da
      rw [da.isInts] at ha
      refine ⟨a, ns, rfl, ofL ha, fun ns' p perm srt hp => ?_⟩
      obtain rfl := sorted_unique (perm.trans (sortI_perm ns).symm) srt (sortI_sorted ns)
      exact kO_new S w (DvA.ints _) hp
end
/-! ### keywords -/
/-- the parameters behind the positional ones: (true, j) the j-th keyword, (false, i) the i-th default -/
def mixK {α : Type} (pr : List (Bool × Nat)) (us its ws : List α) : List α := us ++ pr.flatMap fun q => ((if q.1 then ws else its).drop q.2).take 1
theorem vals_take : ∀ {vs : List V} {us : List Value} (n : Nat), Vals vs us → Vals (vs.take n) (us.take n)
  | _, _, 0, _ => .nil
  | _, _, _ + 1, .nil => .nil
  | _, _, n + 1, .cons h t => .cons h (vals_take n t)
theorem vals_mix {pr : List (Bool × Nat)} {vs ds zs : List V} {us its ws : List Value} (h1 : Vals vs us) (h2 : Vals ds its) (h3 : Vals zs ws) : Vals (mixK pr vs ds zs) (mixK pr us its ws) := by
  unfold mixK
  refine h1.append ?_
  induction pr with
  | nil => exact .nil
  | cons q r ih =>
    rw [List.flatMap_cons, List.flatMap_cons]
    refine Vals.append ?_ ih
    cases q.1 with
    | true => exact vals_take 1 (h3.drop q.2)
    | false => exact vals_take 1 (h2.drop q.2)
section
variable {K : PySem.W.Frag} {x qual : Str} {params : Arguments} {body : List Stmt} {scope : Scope} {dvs : List V} {kws : List (Str × V)} {f : Addr} {fd : FuncData} {ps : List Str}
/-- how f(e, .., k = v, ..) binds where there are defaults -/
theorem kbn_dfl (F : FunD K x qual params body scope dvs kws f fd) (n : Nat) (ks : List Str) (pr : List (Bool × Nat)) (hd : dvs ≠ [])
    (h : ∀ (T : Addr) (kV doc pm : Value) (an : Option Addr) (cdv ct : Value) (us its ws : List Value), us.length = n → its.length = dvs.length → ws.length = ks.length →
      ∃ k, bindArgs (PySem.W.fnOf x qual params body scope (.ref T) kV doc pm an cdv ct) ⟨us, ks.zip ws⟩ = seqItems? (.ref T) >>= k ∧ k (some its.toArray) = pure (ps.zip (mixK pr us its ws))) :
    ∃ its : List Value, KBn K fd ps n ks (fun us ws => mixK pr us its ws) (fun vs zs => mixK pr vs dvs zs) := by
  obtain ⟨oc, od, dV, kV, doc, pm, an, cdv, ct, osl, rfl, lk, hcd, hD, hK⟩ := F.ex
  rcases hD with ⟨e, _⟩ | ⟨_, T, o, its, m, rfl, lT, oT, rT⟩
  · exact absurd e hd
  · refine ⟨its, fun s us ws kin l1 l2 => ?_, fun r1 r2 => vals_mix r1 rT r2⟩
    obtain ⟨k, e1, e2⟩ := h T kV doc pm an cdv ct us its ws l1 rT.length.symm l2
    exact BindsTo.of_looks fun M => by
      rw [e1]
      exact looks_items kin lT oT (.of_pure e2)
end
def callKM (n m N : Nat) (den : Den) (dds : List PV) (pr : List (Bool × Nat)) (fa fk : M (List Fv)) : M Fv := fa.bind fun xs => fk.bind fun zs => (frzC xs).bind fun ds => (frzC zs).bind fun es =>
  fun s => .need (ds.length = n ∧ es.length = m ∧ (mixK pr ds dds es).length = N) (outM (den (mixK pr ds dds es)) s)
section
variable {X : Cx} {K : PySem.W.Frag} {ca : Nat → Addr} {W : WX} {ex ex' : Ex} {g : Gh} {I H I' H' : Hp} {s : S4} {σ : L2.St} {v : V} {x : Fv}
theorem DhA.up {h : Option Addr} : ∀ {vs : List V} {ds : List PV}, DhA K ca h I vs ds → Same I I' → DhA K ca h I' vs ds
  | [], [], _, _ => trivial
  | _ :: _, _ :: _, x, S => ⟨x.1.up S, DhA.up x.2 S⟩
  | [], _ :: _, x, _ => x.elim
  | _ :: _, [], x, _ => x.elim
theorem DhA.take {h : Option Addr} : ∀ {vs : List V} {ds : List PV} (n : Nat), DhA K ca h I vs ds → DhA K ca h I (vs.take n) (ds.take n)
  | _, _, 0, _ => trivial
  | [], [], _ + 1, _ => trivial
  | _ :: _, _ :: _, n + 1, x => ⟨x.1, DhA.take n x.2⟩
  | [], _ :: _, _ + 1, x => x.elim
  | _ :: _, [], _ + 1, x => x.elim
theorem DhA.drop {h : Option Addr} : ∀ {vs : List V} {ds : List PV} (n : Nat), DhA K ca h I vs ds → DhA K ca h I (vs.drop n) (ds.drop n)
  | _, _, 0, x => x
  | [], [], _ + 1, _ => trivial
  | _ :: _, _ :: _, n + 1, x => DhA.drop n x.2
  | [], _ :: _, _ + 1, x => x.elim
  | _ :: _, [], _ + 1, x => x.elim
theorem dh_mix {h : Option Addr} {pr : List (Bool × Nat)} {vs ds zs : List V} {us its ws : List PV} (h1 : DhA K ca h I vs us) (h2 : DhA K ca h I ds its) (h3 : DhA K ca h I zs ws) : DhA K ca h I (mixK pr vs ds zs) (mixK pr us its ws) := by
  unfold mixK
  refine h1.append ?_
  induction pr with
  | nil => exact trivial
  | cons q r ih =>
    rw [List.flatMap_cons, List.flatMap_cons]
    refine DhA.append ?_ ih
    cases q.1 with
    | true => exact DhA.take 1 (h3.drop q.2)
    | false => exact DhA.take 1 (h2.drop q.2)
theorem r_callKX {n m N : Nat} {den : Den} {dvs : List V} {dds : List PV} {pr : List (Bool × Nat)} {t tk : TA} {fa fk : M (List Fv)} {E : XK} (hd : ∀ h I, DhA K ca h I dvs dds)
    (hE : ∀ {vs : List V} {H : Hp} {Q : VK} {σ : L2.St}, spD K ca N den vs H Q (fun cls dd H' => W cls dd σ H') → spD K ca N den vs H Q E) (ha : Ra K ca W ex t fa) (hk : Ra K ca W ex tk fk) :
    Rt K ca W ex (tCallN n m (spD K ca N den) (fun vs zs => mixK pr vs dvs zs) E t tk) (callKM n m N den dds pr fa fk) := by
  intro σ H Q g I s G w
  refine ha σ H _ g I s G (wpM_mono (wpM_bind.mp w) (fun xs s1 z => ?_) fun _ _ z => z)
  intro I1 H1 vs S1 G1 V1
  refine hk σ H1 _ g I1 s1 G1 (wpM_mono (wpM_bind.mp z) (fun zs s2 z => ?_) fun _ _ z => z)
  intro I2 H2 ws S2 G2 V2
  obtain ⟨ds, I3, s3, S3, G3, d3, w3⟩ := frzC_ok G2 (V1.up S2) (wpM_bind.mp z)
  obtain ⟨es, I4, s4, S4, G4, d4, w4⟩ := frzC_ok G3 (V2.up S3) (wpM_bind.mp w3)
  obtain ⟨⟨l1, l2, l3⟩, w5⟩ := w4
  refine ⟨by rw [d3.length]; exact l1, by rw [d4.length]; exact l2, hE (σ := σ) ?_⟩
  exact callee G4 l3 (dh_mix (d3.up S4) (hd _ _) d4) (fun _ _ _ h => h) (wpM_mono w5 (fun y s' z => kE_up (((S1.trans S2).trans S3).trans S4) z) fun _ _ z => z)
theorem r_callK {n m N : Nat} {den : Den} {dvs : List V} {dds : List PV} {pr : List (Bool × Nat)} {t tk : TA} {fa fk : M (List Fv)} {E : XK} (hd : ∀ h I, DhA K ca h I dvs dds) (hE : ∀ cls dd σ H', W cls dd σ H' → E cls dd H') (ha : Ra K ca W ex t fa) (hk : Ra K ca W ex tk fk) :
    Rt K ca W ex (tCallN n m (spD K ca N den) (fun vs zs => mixK pr vs dvs zs) E t tk) (callKM n m N den dds pr fa fk) := r_callKX hd (fun h => spD_E (fun cls dd H' h => hE cls dd _ H' h) h) ha hk
theorem r_callK0 {n m N : Nat} {den : Den} {dvs : List V} {dds : List PV} {pr : List (Bool × Nat)} {t tk : TA} {fa fk : M (List Fv)} {E : XK} (hd : ∀ h I, DhA K ca h I dvs dds) (ha : Ra K ca W ex t fa) (hk : Ra K ca W ex tk fk) :
    Rt K ca W ex (tCallN n m (spD K ca N (noExc den)) (fun vs zs => mixK pr vs dvs zs) E t tk) (callKM n m N (noExc den) dds pr fa fk) := r_callKX hd spD_no ha hk
end
/-! ### zip -/
def zipD : List PV → List PV → List PV
  | x :: xs, y :: ys => .tup [x, y] :: zipD xs ys
  | _, _ => []
end L4
/-! The pure layer, part 15: isinstance(caught error, (C, D)); a def's promise where no repr is under way; repr. -/
namespace L4
open PySem PySem.Spec PyProof.Rows L2 L3

/-! ### isinstance(e, (C, D)) of the caught error -/
def rIsF2 (K : PySem.W.Frag) (D a : Addr) (cls : Value) (d : Option Addr) : List V → Hp → VK → Prop := fun xs H Q =>
  cls = .ref D ∧ (∃ dd fs, d = some dd ∧ H dd = some (.xd fs)) ∧ ∃ (tp c1 c2 : Addr) (b : Bool), xs = [.ref a, .ref tp] ∧ H tp = some (.tup [.ref c1, .ref c2]) ∧ PySem.W.kitAny K (.ref D) [.ref c1, .ref c2] = some b ∧ Q (.bl b) H
theorem call_isF2 {X : Cx} {K : PySem.W.Frag} {a D : Addr} {cls : Value} {d : Option Addr} {oe : Obj} {pn : List (Addr × Obj)} (hK : X.K = K) (C : ExcC K D) (hz : Zc cls d oe) (hf : ∃ vs, oe.data = .fields vs) :
    CallR (X.suite a ((a, oe) :: pn)) (.builtin "isinstance") (rIsF2 K D a cls d) := by
  subst hK
  intro pins s σ H xs us Q I r h
  obtain ⟨rfl, ⟨dd, fs, rfl, hdd⟩, tp, c1, c2, b, rfl, hT, e, q⟩ := h
  cases r with
  | cons rx rr =>
    cases rr with
    | cons rt rr =>
      cases rr
      cases rx
      cases rt
      obtain ⟨hget, _⟩ := I.pin (a, oe) (List.mem_append.mpr (.inl List.mem_cons_self))
      obtain ⟨vs, hv⟩ := hf
      obtain ⟨mA, hns, hr⟩ := (I.hok dd _ hdd : ObjOk X.prog X.w H s.heap dd (.xd fs))
      obtain ⟨od, ho, hl⟩ := lookIn_ns hns
      have J : PySem.W.InstAt s.heap a oe D (some od) := ⟨hget, hz.1, by unfold PySem.W.notCls; rw [hv] <;> rfl, by rw [hz.2]; exact ho⟩
      obtain ⟨_, its, rv, o, h1, h2, n, h3⟩ := (I.hok tp _ hT : ObjOk X.prog X.w H s.heap tp (.tup [.ref c1, .ref c2]))
      obtain ⟨oc, od2, dt, sl⟩ := o
      simp only at h2 h3
      subst h2 h3
      cases rv with
      | cons ra rb =>
        cases rb with
        | cons rc rb =>
          cases rb
          cases ra
          cases rc
          exact PySem.W.kia_tup (kitErr C) I.kIn J h1 e (fun z => nomatch z) fun tk => ⟨.bl b, H, I.kept (t' := tk) fun _ _ z => z, rfl, q⟩
/-- isinstance(e, (C, D)) -/
def xis2K (D : Nat) (b : Bool) (s : S4) : Option Sl → T (Out Fv)
  | some (.xc x) => .need (x.c = D ∧ x.fs ≠ []) (.ret (.val (.fz (.bl b)) s))
  | _ => .stuck
def xis2M (D : Nat) (b : Bool) (i : Nat) : M Fv := fun s => xis2K D b s s[i]?
section
variable {X : Cx} {K : PySem.W.Frag} {ca : Nat → Addr} {W : WX} {ex ex' : Ex} {g : Gh} {I H I' H' : Hp} {s : S4} {σ : L2.St} {v : V} {x : Fv}
theorem kit_two {t c1 c2 : Value} {b1 b2 : Bool} (h1 : PySem.W.kitOne K t c1 = some b1) (h2 : PySem.W.kitOne K t c2 = some b2) : PySem.W.kitAny K t [c1, c2] = some (b1 || b2) := by
  unfold PySem.W.kitAny
  rw [h1]
  cases b1 with
  | true => rfl
  | false =>
    show PySem.W.kitAny K t [c2] = some b2
    unfold PySem.W.kitAny
    rw [h2]
    cases b2 <;> rfl
theorem r_isF2 {a : Addr} {cls : Value} {d : Option Addr} {D i : Nat} {b : Bool} {c1 c2 : Addr} (e : PySem.W.kitAny K (.ref (ca D)) [.ref c1, .ref c2] = some b) :
    Rt K ca W (a, cls, d) (tCB (rIsF2 K (ca D) a cls d) (tCons (tVar i) (tCons (tTup (tCons (tC (.ref c1)) (tCons (tC (.ref c2)) tNil))) tNil))) (xis2M D b i) := by
  intro σ H Q g I s G w
  have w : wp (xis2K D b s s[i]?) (oK (kE K ca (a, cls, d) g I σ Q) (kX K ca W (a, cls, d) g σ)) := w
  cases e1 : s[i]? with
  | none => rw [e1] at w; exact w.elim
  | some y =>
    rw [e1] at w
    cases y with
    | xc x =>
      obtain ⟨⟨hc, hf⟩, w⟩ := w
      obtain ⟨u, e2, e3, xo⟩ := G.slot e1
      obtain ⟨k1, k2⟩ := xo
      have k1 : cls = .ref (ca x.c) := k1
      rcases k2 with ⟨k2, _⟩ | ⟨ad, fs, k2, k3, k4⟩
      · exact absurd k2 hf
      · have k2 : d = some ad := k2
        refine ⟨.ref a, by rw [e2, e3], ?_⟩
        refine ⟨by show 2 ≤ sizeLine; rw [sizeLine_eq]; decide, fun p hp => ?_⟩
        have f : Lf No I H I (upd H p (.tup [.ref c1, .ref c2])) := Lf.alloc G.sub hp
        exact ⟨by rw [k1, hc], ⟨ad, fs, k2, by rw [upd_ne (ne_of_none (G.sub _ _ k3) hp)]; exact G.sub _ _ k3⟩, p, c1, c2, b, rfl, upd_same, e, w I _ _ (Same.refl I) (G.stepNo f) (.inr (.bl b))⟩
    | _ => exact w.elim
end
end L4
/-! The pure layer, part 16: repr of data, where no other repr is under way. -/
namespace L4
open PySem PySem.Spec PyProof.Rows L2 L3

def rRepr (K : PySem.W.Frag) : List V → Hp → VK → Prop := fun vs H Q => ∃ (v : V) (d : PyData), vs = [v] ∧ ((Dp K H v d ∧ d.hasDict = false) ∨ (d = .dict [] ∧ ∃ a, v = .ref a ∧ H a = some (.dK []))) ∧ d.showable = true ∧ d.depth ≤ 64 ∧ d.shown.length ≤ 16777216 ∧ Q (.str d.shown) H
theorem call_reprD {X : Cx} {K : PySem.W.Frag} (hK : X.K = K) (hg : X.A.guards = some []) (hu : X.A.units + 66 < cLine) : CallR X (.builtin "repr") (rRepr K) := by
  subst hK
  intro pins s σ H vs us Q I r h
  obtain ⟨v, d, rfl, hd, sh, dp, ln, q⟩ := h
  have line : sizeLine = 16777216 := sizeLine_eq
  obtain ⟨u, rfl, ru⟩ := vals1 r
  have big : ∀ {a : Addr} {as : List Addr}, Reads s.heap (.ref a) d as → (d.hasDict = true → sysModules ∉ as) → wpAny (model X.prog X.w) X.A (call (.builtin "repr") [.ref a]) (EP X pins σ Q) X.xe s := fun {a as} rd no =>
    repr_of_reads' (h₀ := s.heap) rd sh no hg (by omega) (fun _ _ e => e) (fun h' u tk hk => ⟨.str d.shown, H, I.kept (t' := tk) hk, ⟨_, rfl⟩, q⟩) (by rw [line]; exact ln)
  rcases hd with ⟨hd, nd⟩ | ⟨rfl, a, rfl, ha⟩
  · cases hd with
    | non =>
      cases ru
      exact PySem.P.repr_of_none ⟨.str (PyData.shown .none), H, I.tok _, ⟨s.toks, by simp only [PyData.shown]⟩, q⟩
    | bl b =>
      cases ru
      exact PySem.P.repr_of_bool ⟨.str (PyData.shown (.bool b)), H, I.tok _, ⟨s.toks, by simp only [PyData.shown] <;> cases b <;> rfl⟩, q⟩
    | int i =>
      obtain ⟨t, rfl⟩ := ru
      exact PySem.P.repr_of_int (by simpa [PyData.showable] using sh) ⟨.str (PyData.shown (.int i)), H, I.tok _, ⟨s.toks, by simp only [PyData.shown]⟩, q⟩
    | str x =>
      obtain ⟨t, rfl⟩ := ru
      exact PySem.P.repr_of_str ⟨.str (PyData.shown (.str x)), H, I.tok _, ⟨s.toks, by simp only [PyData.shown]⟩, q⟩ (by simp only [PyData.shown] at ln; rw [line]; exact ln)
    | lst h1 h2 =>
      cases ru
      obtain ⟨as, rd⟩ := Dp.reads I _ _ _ (.lst h1 h2) rfl
      exact big rd fun e => by rw [nd] at e; cases e
    | tup h1 h2 =>
      cases ru
      obtain ⟨as, rd⟩ := Dp.reads I _ _ _ (.tup h1 h2) rfl
      exact big rd fun e => by rw [nd] at e; cases e
  · cases ru
    obtain ⟨_, hs, vs, hv, o, es, ep, h1, h2, h3, h4, h5, h6⟩ := dk_rd I.hok (.inl ha)
    cases hv
    cases es0 : es.toList with
    | nil =>
      refine big (as := [a] ++ [] ++ []) (.dict (kvs := []) h1 h2.1 h3 (by rw [es0]; exact .nil) (by rw [es0]; exact .nil)) fun _ hm => ?_
      have : sysModules = a := by simpa using hm
      rw [← this] at hs
      simp at hs
    | cons e es => rw [es0] at h5; cases h5
/-- repr(x) -/
def reprOk (d : PV) : Prop := d.plain = true ∧ d.deep ≤ 64 ∧ d.pd.showable = true ∧ d.pd.shown.length ≤ 16777216
def reprD (d : PV) : T Rv := match d with
  | .dK [] [] => .ret (.fz (.str (PyData.shown (.dict []))))
  | d => .need (reprOk d) (.ret (.fz (.str d.pd.shown)))
def reprP (ds : List PV) : T Rv := match ds with
  | [d] => reprD d
  | _ => .stuck
theorem o_repr {K : PySem.W.Frag} {ca : Nat → Addr} : CbOk K ca (rRepr K) reprP := by
  intro I H xs ds Q S h w
  match ds, h, w with
  | [d], h, w =>
    obtain ⟨v, rfl, hv⟩ := h.one
    have gen : wp (.need (reprOk d) (.ret (.fz (.str d.pd.shown))) : T Rv) (kO K ca I H Q) → rRepr K [v] H Q := fun w => by
      obtain ⟨⟨p1, p2, p3, p4⟩, w⟩ := w
      exact ⟨v, d.pd, rfl, .inl ⟨dv_dp d _ p1 (hv.dv S), PyData.hasDict_of_canLay _ (pd_lay d p1)⟩, p3, by rw [pd_depth d p1]; exact p2, p4, kO_fz S w (.str _)⟩
    cases d with
    | dK ks es =>
      cases ks with
      | nil =>
        cases es with
        | nil =>
          have ln : (PyData.shown (.dict [])).length ≤ 16777216 := by decide +kernel
          refine ⟨v, .dict [], rfl, .inr ⟨rfl, ?_⟩, rfl, by decide, ln, kO_fz S w (.str _)⟩
          generalize hk : ([] : List Key) = ks at hv
          cases hv with
          | s h =>
            cases h with
            | @dK a kvs ds h q =>
              obtain rfl : kvs = [] := List.map_eq_nil_iff.mp hk.symm
              exact ⟨_, rfl, S _ _ h⟩
          | d _ h2 h3 =>
            cases h3 with
            | @k kvs ds q =>
              obtain rfl : kvs = [] := List.map_eq_nil_iff.mp hk.symm
              exact ⟨_, rfl, h2⟩
        | cons e es => exact gen w
      | cons k ks => exact gen w
    | _ => exact gen w
end L4
/-! The pure layer, part 17: defs that are called where no repr is under way; the law's own head for such. -/
namespace L4
open PySem PySem.Spec PyProof.Rows L2 L3

theorem units66 {k : Nat} {A : Around} (hr : Room k A) : A.units + 66 < cLine := by have := hr.un; omega
/-- a def's promise where no repr is under way -/
structure FnG (P : Program) (w : World) (K : PySem.W.Frag) (mg : Str → Option Value) (base : Heap) (CX : CXT) (k : Nat) (f : Addr) (fd : FuncData) (ps : List Str) (sp : Sp) : Prop where
  arity : ∀ vs H Q E, sp vs H Q E → vs.length = ps.length
  does : ∀ (A : Around), A.guards = some [] → Room k A → ∀ (outer : List Env) (s : Shared) (H : Hp), Env0 P w K mg base A outer s H → ∀ (args : Args) (us : List Value) (vs : List V), BindsTo s fd args (ps.zip us) → Vals vs us →
    ∀ (Q : VK) (E : XK), sp vs H Q E → codeAny (model P w) A (.call (.ref f) args) (CR CX outer P w H s Q E) s
section
variable {P : Program} {w : World} {K : PySem.W.Frag} {mg : Str → Option Value} {base : Heap} {CX : CXT} {k : Nat} {f : Addr} {fd : FuncData} {ps N : List Str} {sp : Sp}
theorem FnG.of (F : FnOk P w K mg base CX k f fd ps sp) : FnG P w K mg base CX k f fd ps sp :=
  ⟨F.len, fun A _ room outer s H e0 args us vs b r Q E h => F.run A outer s H args us vs Q E room e0 b r h⟩
theorem FnG.mono {j : Nat} (F : FnG P w K mg base CX j f fd ps sp) (h : j ≤ k) : FnG P w K mg base CX k f fd ps sp := ⟨F.arity, fun A g room => F.does A g (room.mono h)⟩
/-- by the body -/
theorem fnG_of {name qual : Str} {params : Arguments} {body : List Stmt} {scope : Scope} {dV kV doc pm cdv ct oc : Value} {an od : Option Addr} {osl : Array (Option Value)}
    (lk : K.lookup f = some ⟨oc, od, .func (PySem.W.fnOf name qual params body scope dV kV doc pm an cdv ct), osl⟩) (hcd : PySem.W.codeIn K cdv qual = true) (S : FnScope N ps scope) (len : ∀ vs H Q E, sp vs H Q E → vs.length = ps.length)
    (hbody : ∀ (A : Around) (outer : List Env) (s : Shared) (H : Hp) (vs : List V) (Q : VK) (E : XK), A.guards = some [] → Room k (A.deeper (envOfC qual scope s.heap.objs.size f cdv)) → sp vs H Q E →
      ∃ t, PSs (cxOf CX P w K mg base N qual scope f cdv A outer s H E) body t ∧ t { nx := fun _ H' => Q .non H', rt := Q } (L2.start N vs) H) :
    FnG P w K mg base CX (k + 1) f (PySem.W.fnOf name qual params body scope dV kV doc pm an cdv ct) ps sp := by
  constructor
  · exact len
  intro A hg room outer s H e0 args us vs hb rv Q E hsp
  have old := fun b o (e : base.get? b = some o) => (e0.bs b o e).1
  have kIn := e0.mod.kin.keeps old
  have noLim := e0.mod.nolimit.keeps old
  have kinds : ∀ y ∈ ps.zip us, scope.names.lookup y.1 = some .local ∨ (scope.names.lookup y.1 = some .cell ∧ ((cellsFrom (s.heap.objs.size + 1) scope.names []).lookup y.1).isSome = true) := by
    rintro ⟨n, v⟩ hy
    exact (S.par n (List.of_mem_zip hy).1).imp id fun q => ⟨q, PySem.W.cellsFrom_some _ _ _ (.inl q)⟩
  apply codeAny_call_function room.depth (kIn _ _ lk) rfl S.co S.gen rfl (PySem.W.codeRec_of kIn hcd)
  apply hb
  apply wpAny_newFunctionEnv_cells S.kind kinds
  rintro env rfl s1 x
  refine ⟨noLim.keeps x.toInCall.keep, codeAny_func ?_⟩
  obtain ⟨t, ht, q⟩ := hbody A outer s H vs Q E hg (room.deeper _) hsp
  have I := inv_start (CX := CX) (E := E) S room.hd e0 (len _ _ _ _ hsp) rv x
  refine wpAny_mono (ht.run [] s1 (L2.start N vs) H _ I q) (fun fl s' hs => ?_) (fun _ _ hs => hs)
  match fl, hs with
  | .ret u, ⟨v, σ', H', J, r, q⟩ => exact ⟨v, H', J.os, J.bare, J.base, J.hok, r, q⟩
  | .next, ⟨σ', H', J, q⟩ => exact ⟨.non, H', J.os, J.bare, J.base, J.hok, rfl, q⟩
  | .brk, ⟨_, _, _, q⟩ => exact q.elim
  | .cont, ⟨_, _, _, q⟩ => exact q.elim
theorem okG {x qual : Str} {st : Stmt} (F : Fun K x qual st f fd) (S : FnScope N ps (defScope st)) (len : ∀ vs H Q E, sp vs H Q E → vs.length = ps.length)
    (hbody : ∀ (cdv : Value) (A : Around) (outer : List Env) (s : Shared) (H : Hp) (vs : List V) (Q : VK) (E : XK), A.guards = some [] → Room k (A.deeper (envOfC qual (defScope st) s.heap.objs.size f cdv)) → sp vs H Q E →
      ∃ t, PSs (cxOf CX0 P w K mg base N qual (defScope st) f cdv A outer s H E).nox (defBody st) t ∧ t { nx := fun _ H' => Q .non H', rt := Q } (L2.start N vs) H) : FnG P w K mg base CX0 (k + 1) f fd ps sp := by
  obtain ⟨oc, od, kV, doc, pm, an, cdv, ct, osl, e, lk, hcd⟩ := F.ex
  subst e
  exact fnG_of lk hcd S len fun A outer s H vs Q E g room h => (hbody cdv A outer s H vs Q E g room h).imp fun t z => ⟨z.1.nox, z.2⟩
end
/-- the call of such a def -/
theorem pe_callG {X : Cx} {CX : CXT} {k : Nat} {f : Addr} {fd : FuncData} {ps : List Str} {sp : Sp} {E : XK} {x : Str} {p pos : Pos} {e : Expr} {es : List Expr} {t : TA} (F : FnG X.prog X.w X.K X.mg X.base CX k f fd ps sp) (hg : X.A.guards = some []) (hr : Room k X.A) (gl : Gl X x) (hm : X.mg x = some (.ref f))
    (hk : PySem.W.keepIn X.K (.ref f) = true) (hb : L2.Binds X.K fd ps []) (hx : Passes CX X E) (ha : PA X (e :: es) t) (hdb : (x == ("__debug__" : Str)) = false := by decide) (he : starEach (e :: es) X.env = (false, eval e X.env) :: starEach es X.env := by rfl)
    (hpl : (backTo pos (starEach es X.env)).any (·.1) = false := by rfl) : PE X (.Call (.Name x p) (e :: es) [] pos) (tCall sp [] E t) := by
  constructor
  intro pins s σ H Q I h
  apply wpAny_Call_Name_kw
  apply ld_glob I gl hm ?_ hdb
  refine PySem.W.callWith_K (h₀ := X.base) I.ok.mod.kin hk (thn (ha.run pos pins s σ H _ I h) fun us s1 z => ?_) he hpl
  obtain ⟨vs, H1, I1, r, q⟩ := z
  rw [List.append_nil] at q
  refine ⟨I1.kIn, wpAny_call (codeAny_mono (F.does X.A hg hr X.stack s1 H1 I1.env0 ⟨us, []⟩ us vs ?_ r Q E q) fun o s' hq => ?_)⟩
  · have b := hb s1 us I1.kIn (by rw [List.append_nil, ← r.length]; exact F.arity _ _ _ _ q)
    rwa [List.append_nil] at b
  · match o, hq with
    | .error e, hq => exact hx pins σ H1 s1 e s' I1 hq
    | .ok (.ret u), hq => exact I1.after hq
    | .ok .next, hq => exact hq.elim
    | .ok .brk, hq => exact hq.elim
    | .ok .cont, hq => exact hq.elim
/-! ### the law's own head -/
section
variable {P : Program} {w : World} {K : PySem.W.Frag} {mg mb : Str → Option Value} {CX : CXT} {k : Nat} {fa a : Addr} {fd : FuncData} {x : Str} {sp : Sp} {s₁ : Shared} {vs : List Value} {ns : List Int}
/-- what the claim asks of the end -/
def LawEnd (s₁ : Shared) (r : Result) (s' : Shared) : Prop := r = .ok (.ret (.bool true)) ∧ OldK s₁.heap s'.heap ∧ s'.os = s₁.os ∧ AllBare s'.gens
theorem law_atG {H : Hp} (KX : K.In s₁.heap) (hns : s₁.heap.Ns mainGlobals mg) (hb : s₁.heap.Ns builtinsNs mb) (hbb : ∀ x : Str, x ≠ "__name__" → mb x = bootBuiltins x) (hlim : s₁.heap.NoLimit) (hg : s₁.gens = #[])
    (ha : s₁.heap.get? a = some { cls := .type "list", data := .seq vs.toArray }) (room : Room k callerA) (F : ∀ base : Heap, K.In base → base.Ns mainGlobals mg → FnG P w K mg base CX k fa fd [x] sp)
    (hbind : ∀ (s : Shared) (u : Value), BindsTo s fd ⟨[u], []⟩ [(x, u)]) (hsp : sp [.ref a] H (fun v _ => v = .bl true) fun _ _ _ => False) (hCX : ∀ e s', CX [] H s₁ (fun _ _ _ => False) e s' → False)
    (only : Only H) (ok : HOk P w H s₁.heap) (one : ∀ b, H b ≠ none → b = a) (nk : H a ≠ none → K.lookup a = none) : codeAny (model P w) callerA (.call (.ref fa) ⟨[.ref a], []⟩) (LawEnd s₁) s₁ := by
  have ndict : ∀ {b : Addr} {o : Obj} {es : Array DictEntry} {ep : Nat}, s₁.heap.get? b = some o → o.data = .dict es ep → H b = none := by
    intro b o es ep e d
    apply Classical.byContradiction
    intro q
    rw [one b q, ha] at e
    cases e
    exact nomatch d
  have ns2 : ∀ {b : Addr} {m : Str → Option Value}, s₁.heap.Ns b m → (hidT s₁.heap H).Ns b m := by
    rintro b m ⟨o, es, ep, e, d, r⟩
    exact ⟨o, es, ep, hidT_get e (ndict e d), d, r⟩
  have kIn : K.In (hidT s₁.heap H) := by
    intro b o e
    refine hidT_get (KX b o e) (Classical.byContradiction fun q => ?_)
    have hb := one b q
    subst hb
    rw [nk q] at e
    cases e
  obtain ⟨mc, l1, l2⟩ := hlim
  have hm : Mod K mg (hidT s₁.heap H) := ⟨kIn, ns2 hns, ⟨mb, ns2 hb, hbb⟩, mc, ns2 l1, l2⟩
  have none0 : ∀ b : Addr, b ∉ ([] : List Addr) := fun b h => by cases h
  have e0 : Env0 P w K mg (hidT s₁.heap H) callerA [] s₁ H := ⟨rfl, hm, fun b o e => of_hidT e, Nat.le_of_eq (hidT_size _ _), trivial, fun b z => (none0 b z).elim, ok, .of_eq hg⟩
  have go := (F _ kIn (ns2 hns)).does callerA rfl room [] s₁ H e0 ⟨[.ref a], []⟩ [.ref a] [.ref a] (hbind s₁ (.ref a)) (.cons rfl .nil) _ _ hsp
  refine codeAny_mono go fun r s' h => ?_
  match r, h with
  | .error e, h => exact (hCX e s' h).elim
  | .ok .next, h => exact h.elim
  | .ok .brk, h => exact h.elim
  | .ok .cont, h => exact h.elim
  | .ok (.ret u), ⟨v, H', os, bare, un, ok', r, q⟩ =>
    have q : v = .bl true := q
    subst q
    have r : u = Value.bool true := r
    subst r
    refine ⟨rfl, OldK.of_keep fun b o e => ?_, os, bare⟩
    cases hq : H b with
    | none => exact un.keep b o e hq (none0 b) (none0 b)
    | some u =>
      rcases only b with z | ⟨ob, xs, z⟩
      · rw [z] at hq
        cases hq
      · have o1 := (ok b _ z).1
        have o2 := (ok' b _ (un.frzs b ob _ z)).1
        rw [o1] at e
        cases e
        exact o2
theorem law_callG (KX : K.In s₁.heap) (hns : s₁.heap.Ns mainGlobals mg) (hb : s₁.heap.Ns builtinsNs mb) (hbb : ∀ x : Str, x ≠ "__name__" → mb x = bootBuiltins x) (hlim : s₁.heap.NoLimit) (hg : s₁.gens = #[])
    (ha : s₁.heap.get? a = some { cls := .type "list", data := .seq vs.toArray }) (hi : IntsAre vs ns) (hl : ns.length ≤ sizeLine) (room : Room k callerA) (F : ∀ base : Heap, K.In base → base.Ns mainGlobals mg → FnG P w K mg base CX k fa fd [x] sp)
    (hbind : ∀ (s : Shared) (u : Value), BindsTo s fd ⟨[u], []⟩ [(x, u)]) (hsp : ∀ H : Hp, Only H → SqL K H a (ns.map V.int) → sp [.ref a] H (fun v _ => v = .bl true) fun _ _ _ => False)
    (hCX : ∀ H e s', CX [] H s₁ (fun _ _ _ => False) e s' → False) : codeAny (model P w) callerA (.call (.ref fa) ⟨[.ref a], []⟩) (LawEnd s₁) s₁ := by
  have vals := vals_ints hi
  cases hk : K.lookup a with
  | some o =>
    -- the script stands in the written part
    have e := KX a o hk
    rw [ha] at e
    cases e
    have seq : SqL K (fun _ => none) a (ns.map V.int) := .inr ⟨_, vs.toArray, _, hk, rfl, rfl, rfl, by rw [List.size_toArray, hi.length]; exact hl, by simpa using vals⟩
    have only : Only fun _ => none := fun _ => .inl rfl
    exact law_atG KX hns hb hbb hlim hg ha room F hbind (hsp _ only seq) (hCX _) only (fun b u z => nomatch z) (fun b z => absurd rfl z) fun z => absurd rfl z
  | none =>
    let o : Obj := { cls := .type "list", data := .seq vs.toArray }
    let H : Hp := fun b => if b = a then some (.frz o (.lst (ns.map V.int))) else none
    have Ha : H a = some (.frz o (.lst (ns.map V.int))) := if_pos rfl
    have Hn : ∀ {b}, b ≠ a → H b = none := fun h => if_neg h
    have only : Only H := fun b => (Classical.em (b = a)).elim (fun h => .inr ⟨o, ns.map V.int, h ▸ Ha⟩) fun h => .inl (Hn h)
    have ok : HOk P w H s₁.heap := by
      intro b u z
      have hba : b = a := Classical.byContradiction fun h => by rw [Hn h] at z; cases z
      subst hba
      rw [Ha] at z
      cases z
      exact ⟨ha, by rw [List.length_map]; exact hl, vs, _, vals, ha⟩
    exact law_atG KX hns hb hbb hlim hg ha room F hbind (hsp H only (.inl (.inr ⟨o, Ha⟩))) (hCX H) only ok (fun b z => Classical.byContradiction fun h => z (Hn h)) fun _ => hk
end
theorem walk_ofG {l : PySem.W.OpenLaw} {n k : Nat} {q : Program} {loose : List Str} {XP : (Str → Option Value) → Heap → Prop} {YP : World → Heap → Prop} {d : DefRec} {K : Params → PySem.W.Frag} {CX : World → CXT} {sp : World → Sp} {x : Str} (hn : l.most = some n) (hn2 : n ≤ sizeLine)
    (hdf : d.params.defaults = []) (room : Room k callerA) (hY : ∀ (w : World) (h : Heap), YP w h → (K w.params).In h)
    (F : ∀ (w : World) (mg : Str → Option Value) (fa : Addr) (h : Heap), (K w.params).In h → h.Ns mainGlobals mg → mg d.name = some (.ref fa) → ∃ fd : FuncData, (∀ (s : Shared) (u : Value), BindsTo s fd ⟨[u], []⟩ [(x, u)]) ∧
      ∀ base : Heap, (K w.params).In base → base.Ns mainGlobals mg → FnG l.prog w (K w.params) mg base (CX w) k fa fd [x] (sp w))
    (hsp : ∀ (w : World) (H : Hp) (a : Addr) (ns : List Int), ns.length ≤ n → Only H → SqL (K w.params) H a (ns.map V.int) → sp w [.ref a] H (fun v _ => v = .bl true) fun _ _ _ => False)
    (hCX : ∀ (w : World) (H : Hp) (s : Shared) (e : Value) (s' : Shared), CX w [] H s (fun _ _ _ => False) e s' → False) : PySem.W.WalkO q loose XP YP l.row.toRowW d [] (fun f vs => PySem.call f vs) := by
  apply Att.attach_call hn hdf
  intro w s₀ s₁ mg mb fa o pm cd doc a vs ns G Y ho hd hcd hmg hobj hints hlen hg
  have kIn := hY w _ Y
  obtain ⟨fd, bind, hF⟩ := F w mg fa _ kIn G.T.g hmg
  have r := law_callG kIn G.T.g G.T.b G.T.builtins G.T.nolimit hg hobj hints (Nat.le_trans hlen hn2) room hF bind (fun H hO hS => hsp w H a ns hlen hO hS) fun H e s' => hCX w H s₁ e s'
  exact r
end L4
/-! The pure layer, part 18: own lists that no slot names (rows of a table), by hand. -/
namespace L4
open PySem PySem.Spec PyProof.Rows L2 L3
section
variable {K : PySem.W.Frag} {ca : Nat → Addr} {W : WX} {ex ex' : Ex} {g : Gh} {I H I' H' : Hp} {s : S4} {σ : L2.St} {v : V} {x : Fv}
theorem Good.rsSub {rs' : List (Addr × List V)} (G : Good K ca ex g I H s σ) (h : ∀ q ∈ rs', q ∈ g.rs) : Good K ca ex { g with rs := rs' } I H s σ :=
  ⟨G.s0, G.im, G.lf, G.hd, G.len, fun i x v e1 e2 => by
    have z := G.at' i x v e1 e2
    cases x <;> exact z, G.sep, fun r hr => G.res r (h r hr)⟩
theorem Good.rsWrite {p : Addr} {us ws : List V} {rs' : List (Addr × List V)} (G : Good K ca ex g I H s σ) (hp : (p, us) ∈ g.rs) (h : ∀ q ∈ rs', q = (p, ws) ∨ (q ∈ g.rs ∧ q.1 ≠ p)) : Good K ca ex { g with rs := rs' } I (upd H p (.lst ws)) s σ := by
  obtain ⟨n, h0, ne, e, off⟩ := G.res _ hp
  have G0 := G.rsSub (rs' := g.rs.filter fun q => decide (q.1 ≠ p)) fun q hq => (List.mem_filter.mp hq).1
  have G1 := G0.making (o := .lst ws) n h0 ne e off fun q hq => of_decide_eq_true (List.mem_filter.mp hq).2
  refine ⟨G1.s0, G1.im, G1.lf, G1.hd, G1.len, fun i x v e1 e2 => by
    have z := G1.at' i x v e1 e2
    cases x <;> exact z, G1.sep, fun r hr => ?_⟩
  rcases h r hr with rfl | ⟨h1, h2⟩
  · exact ⟨n, h0, ne, upd_same, off⟩
  · exact G1.res r (List.mem_filter.mpr ⟨h1, decide_eq_true h2⟩)
theorem Good.rsFreeze {p : Addr} {us : List V} {ds : List PV} {rs' : List (Addr × List V)} (G : Good K ca ex g I H s σ) (hp : (p, us) ∈ g.rs) (d : DvA K ca I us ds) (h : ∀ q ∈ rs', q ∈ g.rs ∧ q.1 ≠ p) :
    Good K ca ex { g with rs := rs' } (upd I p (.lst us)) H s σ ∧ Same I (upd I p (.lst us)) ∧ Dv K ca (upd I p (.lst us)) (.ref p) (.lst ds) := by
  obtain ⟨n, h0, ne, e, off⟩ := G.res _ hp
  have G0 := G.rsSub (rs' := rs') fun q hq => (h q hq).1
  exact ⟨G0.freeze n h0 ne e off fun q hq => (h q hq).2, same_updN n, .lst upd_same (d.up (same_updN n))⟩
/-- the slots laid anew (no objects of one's own among them) -/
theorem Good.slots {s' : S4} {σ' : L2.St} (G : Good K ca ex g I H s σ) (len : s'.length = σ'.length) (h : ∀ (i : Nat) (x : Sl) (v : Option V), s'[i]? = some x → σ'[i]? = some v → x.isO = false ∧ SlOk K ca ex g I H x v) : Good K ca ex g I H s' σ' := by
  have own : ∀ {i : Nat} {x : Sl}, s'[i]? = some x → x.isO = true → False := fun {i x} e1 o => by
    have hi : i < σ'.length := by rw [← len]; exact (List.getElem?_eq_some_iff.mp e1).1
    rw [(h i x _ e1 (List.getElem?_eq_getElem hi)).1] at o
    cases o
  refine ⟨G.s0, G.im, G.lf, G.hd, len, fun i x v e1 e2 => (h i x v e1 e2).2, fun i j x y p e1 _ o1 _ _ _ => (own e1 o1).elim, fun q hq => ?_⟩
  obtain ⟨n, h0, ne, e, off⟩ := G.res q hq
  exact ⟨n, h0, ne, e, fun i x e1 o1 => (own e1 o1).elim⟩
theorem Good.nil (G : Good K ca ex g I H s σ) : Good K ca ex g I H [] [] := G.slots rfl fun i x v e => by cases e
theorem Good.addRes0 {p : Addr} {o : List V} (G : Good K ca ex g I H [] []) (hp : H p = none) : Good K ca ex { g with rs := (p, o) :: g.rs } I (upd H p (.lst o)) [] [] := by
  obtain ⟨h0, ne, off, offr⟩ := G.new hp
  have f : Lf No I H I (upd H p (.lst o)) := Lf.alloc G.sub hp
  exact (G.stepNo f).addRes (Same.sub G.sub hp) h0 ne upd_same off
end
end L4
/-! Working out pure computations by simp: each lemma fires only where the state is there. -/
namespace L4
open PySem PySem.Spec PyProof.Rows L2 L3
section
variable {α β γ : Type}
/-- the rest behind a computation's end -/
def bindO (t : T (Out α)) (f : α → M β) : T (Out β) := t.bind fun o => match o with
  | .val a s' => f a s'
  | .exc x s' => .ret (.exc x s')
theorem bindO_val {a : α} {s : S4} {f : α → M β} : bindO (.ret (.val a s)) f = f a s := (rfl)
theorem bindO_exc {x : Xc} {s : S4} {f : α → M β} : bindO (.ret (.exc x s)) f = .ret (.exc x s) := (rfl)
theorem bindO_need {p : Prop} {t : T (Out α)} {f : α → M β} : bindO (.need p t) f = .need p (bindO t f) := (rfl)
theorem bindO_stuck {f : α → M β} : bindO .stuck f = .stuck := (rfl)
theorem bindO_draw {n : Int} {k : Int → T (Out α)} {f : α → M β} : bindO (.draw n k) f = .draw n fun r => bindO (k r) f := (rfl)
theorem bindO_ite {c : Prop} [Decidable c] {x y : T (Out α)} {f : α → M β} : bindO (if c then x else y) f = if c then bindO x f else bindO y f := by split <;> rfl
theorem bindO_bindO {t : T (Out α)} {f : α → M β} {h : β → M γ} : bindO (bindO t f) h = bindO t fun a s => bindO (f a s) h := by
  unfold bindO
  rw [T.bind_assoc]
  congr 1
  funext o
  cases o <;> rfl
theorem bind_ret {a : α} {f : α → T β} : (T.ret a).bind f = f a := (rfl)
theorem bind_need {p : Prop} {k : T α} {f : α → T β} : (T.need p k).bind f = .need p (k.bind f) := (rfl)
theorem bind_stuck {f : α → T β} : (T.stuck : T α).bind f = .stuck := (rfl)
theorem bind_draw {n : Int} {k : Int → T α} {f : α → T β} : (T.draw n k).bind f = .draw n fun r => (k r).bind f := (rfl)
theorem bind_ite {c : Prop} [Decidable c] {x y : T α} {f : α → T β} : (if c then x else y).bind f = if c then x.bind f else y.bind f := by split <;> rfl
theorem app_bind {m : M α} {f : α → M β} {s : S4} : M.bind m f s = bindO (m s) f := (rfl)
theorem app_ret {a : α} {s : S4} : M.ret a s = .ret (.val a s) := (rfl)
theorem app_stuck {s : S4} : (M.stuck : M α) s = .stuck := (rfl)
theorem app_lift {t : T α} {s : S4} : M.lift t s = t.bind fun a => .ret (.val a s) := (rfl)
theorem app_ite {c : Prop} [Decidable c] {x y : M α} {s : S4} : (if c then x else y) s = if c then x s else y s := by split <;> rfl
end
/-! ### values -/
def stlK : Fv → M Fv
  | .ow xs => M.ret (.fz (.lst xs))
  | .fz d => M.ret (.fz d)
  | .bw i => M.ret (.bw i)
  | .nd d => M.ret (.fz d)
theorem app_setl {f : M Fv} {s : S4} : setl f s = bindO (f s) stlK := by
  show (f s).bind _ = (f s).bind _
  congr 1
theorem stl_nd {d : PV} {s : S4} : stlK (.nd d) s = .ret (.val (.fz d) s) := (rfl)
theorem stl_fz {d : PV} {s : S4} : stlK (.fz d) s = .ret (.val (.fz d) s) := (rfl)
theorem stl_bw {d : Nat} {s : S4} : stlK (.bw d) s = .ret (.val (.bw d) s) := (rfl)
theorem stl_ow {d : List PV} {s : S4} : stlK (.ow d) s = .ret (.val (.fz (.lst d)) s) := (rfl)
def varK (i : Nat) (s : S4) : Option Sl → T (Out Fv)
  | some (.fz d) => .ret (.val (.fz d) s)
  | some (.ow _) => .ret (.val (.bw i) s)
  | some (.oi _ _) => .ret (.val (.bw i) s)
  | some (.od _) => .ret (.val (.bw i) s)
  | _ => .stuck
theorem varK_oi {i : Nat} {s : S4} {C : Nat} {fs : List (Str × PV)} : varK i s (some (.oi C fs)) = .ret (.val (.bw i) s) := (rfl)
theorem varK_od {i : Nat} {s : S4} {d : PV} : varK i s (some (.od d)) = .ret (.val (.bw i) s) := (rfl)
theorem app_var {i : Nat} {s : S4} : varM i s = varK i s s[i]? := by
  unfold varM varK
  cases s[i]? with
  | none => rfl
  | some x => cases x <;> rfl
theorem varK_fz {i : Nat} {s : S4} {d : PV} : varK i s (some (.fz d)) = .ret (.val (.fz d) s) := (rfl)
theorem varK_ow {i : Nat} {s : S4} {d : List PV} : varK i s (some (.ow d)) = .ret (.val (.bw i) s) := (rfl)
theorem app_vw_fz {d : PV} {s : S4} : vw (.fz d) s = if d.nh = true then .ret (.val d s) else .stuck := (rfl)
theorem app_vw_bw {i : Nat} {s : S4} : vw (.bw i) s = bwV (fun d => .ret (.val d s)) (lstOf s[i]?) := (rfl)
theorem bwV_some {k : PV → T (Out PV)} {xs : PV} : bwV k (some xs) = k xs := (rfl)
theorem lstOf_ow {xs : List PV} : lstOf (some (.ow xs)) = some (.lst xs) := (rfl)
theorem lstOf_fz {xs : List PV} : lstOf (some (.fz (.lst xs))) = some (.lst xs) := (rfl)
theorem lstOf_od {d : PV} : lstOf (some (.od d)) = some d := (rfl)
theorem lstOf_fzK {ks : List Key} {ds : List PV} : lstOf (some (.fz (.dK ks ds))) = some (.dK ks ds) := (rfl)
theorem lstOf_fzT {ks : List (List Key)} {ds : List PV} : lstOf (some (.fz (.dT ks ds))) = some (.dT ks ds) := (rfl)
theorem app_frz_fz {d : PV} {s : S4} : frz (.fz d) s = .ret (.val d s) := (rfl)
theorem app_frz_ow {d : List PV} {s : S4} : frz (.ow d) s = .ret (.val (.lst d) s) := (rfl)
theorem app_frz_bw {i : Nat} {s : S4} : frz (.bw i) s = bwV (fun d => .ret (.val d (s.set i (.fz d)))) (lstOf s[i]?) := (rfl)
theorem app_frz_nd {d : PV} {s : S4} : frz (.nd d) s = .ret (.val d s) := (rfl)
theorem nh_dK {ks : List Key} {ds : List PV} : PV.nh (.dK ks ds) = true := (rfl)
theorem nh_dT {ks : List (List Key)} {ds : List PV} : PV.nh (.dT ks ds) = true := (rfl)
theorem app_frzD {x : Fv} {s : S4} : frzD x s = bindO (frz x s) fun d s => if d.nh then .ret (.val d s) else .stuck := (rfl)
theorem nh_non : PV.nh .non = true := (rfl)
theorem nh_bl {b : Bool} : PV.nh (.bl b) = true := (rfl)
theorem nh_int {b : Int} : PV.nh (.int b) = true := (rfl)
theorem nh_str {b : Str} : PV.nh (.str b) = true := (rfl)
theorem nh_tup {b : List PV} : PV.nh (.tup b) = true := (rfl)
theorem nh_lst {b : List PV} : PV.nh (.lst b) = true := (rfl)
theorem nh_ins {b : List (Str × PV)} {c : Nat} : PV.nh (.ins c b) = true := (rfl)
theorem nh_ty {b : String} : PV.nh (.ty b) = true := (rfl)
theorem nh_cls {b : Nat} : PV.nh (.cls b) = true := (rfl)
/-! ### operators and calls -/
theorem app_op {f : PV → PV → T Rv} {fa fb : M Fv} {s : S4} : opM f fa fb s = bindO (setl fa s) fun x => (setl fb).bind fun y => (vw x).bind fun d => (vw y).bind fun e => liftR (f d e) := (rfl)
theorem app_un {f : PV → T Rv} {fa : M Fv} {s : S4} : unM f fa s = bindO (setl fa s) fun x => (vw x).bind fun d => liftR (f d) := (rfl)
theorem app_cb {f : List PV → T Rv} {fa : M (List Fv)} {s : S4} : cbM f fa s = bindO (fa s) fun xs => (vwA xs).bind fun ds => liftR (f ds) := (rfl)
theorem app_vwA_nil {s : S4} : vwA [] s = .ret (.val [] s) := (rfl)
theorem app_vwA_cons {x : Fv} {xs : List Fv} {s : S4} : vwA (x :: xs) s = bindO (vw x s) fun d => (vwA xs).bind fun ds => M.ret (d :: ds) := (rfl)
theorem app_frzA_nil {s : S4} : frzA [] s = .ret (.val [] s) := (rfl)
theorem app_frzA_cons {x : Fv} {xs : List Fv} {s : S4} : frzA (x :: xs) s = bindO (frzD x s) fun d => (frzA xs).bind fun ds => M.ret (d :: ds) := (rfl)
theorem app_frzC_nil {s : S4} : frzC [] s = .ret (.val [] s) := (rfl)
theorem app_frzC_cons {x : Fv} {xs : List Fv} {s : S4} : frzC (x :: xs) s = bindO (frz x s) fun d => (frzC xs).bind fun ds => M.ret (d :: ds) := (rfl)
theorem app_liftR {t : T Rv} {s : S4} : liftR t s = t.bind fun a => .ret (.val a.fv s) := (rfl)
theorem fv_fz {d : PV} : Rv.fv (.fz d) = .fz d := (rfl)
theorem fv_ow {d : List PV} : Rv.fv (.ow d) = .ow d := (rfl)
theorem app_tup {fa : M (List Fv)} {s : S4} : tupM fa s = bindO (fa s) fun xs => (frzA xs).bind fun ds => liftR (.need (ds.length ≤ 16777216) (.ret (.fz (.tup ds)))) := (rfl)
theorem app_lst {fa : M (List Fv)} {s : S4} : lstM fa s = bindO (fa s) fun xs => (frzA xs).bind fun ds => liftR (.need (ds.length ≤ 16777216) (.ret (.ow ds))) := (rfl)
theorem app_call {n : Nat} {den : Den} {dds : List PV} {fa : M (List Fv)} {s : S4} : callN n den dds fa s = bindO (fa s) fun xs => (frzC xs).bind fun ds => fun s => .need ((ds ++ dds).length = n) (outM (den (ds ++ dds)) s) := (rfl)
def outK (s : S4) : Except Xc Rv → T (Out Fv)
  | .ok a => .ret (.val a.fv s)
  | .error x => .ret (.exc x s)
theorem app_out {t : T (Except Xc Rv)} {s : S4} : outM t s = t.bind (outK s) := by
  show t.bind _ = t.bind _
  congr 1
theorem outK_ok {a : Rv} {s : S4} : outK s (.ok a) = .ret (.val a.fv s) := (rfl)
theorem outK_err {a : Xc} {s : S4} : outK s (.error a) = .ret (.exc a s) := (rfl)
def noK : Except Xc Rv → T (Except Xc Rv)
  | .ok a => .ret (.ok a)
  | .error _ => .stuck
theorem app_noExc {den : Den} {ds : List PV} : noExc den ds = (den ds).bind noK := by
  show (den ds).bind _ = (den ds).bind _
  congr 1
theorem noK_ok {a : Rv} : noK (.ok a) = .ret (.ok a) := (rfl)
/-! ### tests -/
def testK : PV → M Bool
  | .bl b => M.ret b
  | _ => M.stuck
theorem app_test {f : M Fv} {s : S4} : testM f s = bindO (setl f s) fun x => (vw x).bind testK := by
  show bindO (setl f s) _ = _
  congr 1
theorem testK_bl {b : Bool} {s : S4} : testK (.bl b) s = .ret (.val b s) := (rfl)
theorem app_and {f h : M Bool} {s : S4} : andM f h s = bindO (f s) fun b => if b then h else M.ret false := (rfl)
theorem app_or {f h : M Bool} {s : S4} : orM f h s = bindO (f s) fun b => if b then M.ret true else h := (rfl)
theorem app_not {f : M Bool} {s : S4} : notM f s = bindO (f s) fun b => M.ret (!b) := (rfl)
theorem app_tru {f : M Fv} {s : S4} : truM f s = bindO (setl f s) fun x => (vw x).bind fun d => M.lift (truV d) := (rfl)
theorem app_iteM {α : Type} {c : M Bool} {f h : M α} {s : S4} : iteM c f h s = bindO (c s) fun b => if b then f else h := (rfl)
theorem app_blM {f : M Bool} {s : S4} : blM f s = bindO (f s) fun b => M.ret (.fz (.bl b)) := (rfl)
theorem app_andT {f h : M Fv} {s : S4} : andT f h s = bindO (setl f s) fun x => (vw x).bind fun d => (M.lift (truV d)).bind fun k => if k then h else M.ret x := (rfl)
theorem app_orT {f h : M Fv} {s : S4} : orT f h s = bindO (setl f s) fun x => (vw x).bind fun d => (M.lift (truV d)).bind fun k => if k then M.ret x else h := (rfl)
theorem app_notT {f : M Fv} {s : S4} : notT f s = bindO (setl f s) fun x => (vw x).bind fun d => (M.lift (truV d)).bind fun k => M.ret (.fz (.bl (!k))) := (rfl)
theorem app_chain {f f' : PV → PV → T Rv} {fa fb fc : M Fv} {s : S4} : chainM f f' fa fb fc s = bindO (setl fa s) fun x => (setl fb).bind fun y => (vw x).bind fun d => (vw y).bind fun e => (liftR (f d e)).bind (chainK f' y fc) := (rfl)
theorem chainK_bl {f : PV → PV → T Rv} {y : Fv} {fc : M Fv} {b : Bool} {s : S4} : chainK f y fc (.fz (.bl b)) s = if b = true then ((setl fc).bind fun z => (vw y).bind fun e => (vw z).bind fun c => liftR (f e c)) s else .ret (.val (.fz (.bl false)) s) := by
  show (if b = true then _ else _ : M Fv) s = _
  split <;> rfl
/-! ### statements -/
def seqK (G : M Fl) : Fl → M Fl
  | .nx => G
  | .rt r => M.ret (.rt r)
  | .bk => M.ret .bk
  | .ct => M.ret .ct
theorem app_seq {F G : M Fl} {s : S4} : seqM F G s = bindO (F s) (seqK G) := by
  show bindO (F s) _ = _
  congr 1
theorem seqK_nx {G : M Fl} {s : S4} : seqK G .nx s = G s := (rfl)
theorem seqK_rt {G : M Fl} {r : Rv} {s : S4} : seqK G (.rt r) s = .ret (.val (.rt r) s) := (rfl)
theorem seqK_bk {G : M Fl} {s : S4} : seqK G .bk s = .ret (.val .bk s) := (rfl)
theorem seqK_ct {G : M Fl} {s : S4} : seqK G .ct s = .ret (.val .ct s) := (rfl)
theorem app_asg {f : M Fv} {t : Fv → M Unit} {s : S4} : asgM f t s = bindO (f s) fun x => (t x).bind fun _ => M.ret .nx := (rfl)
theorem app_rt {f : M Fv} {s : S4} : rtM f s = bindO (f s) rtv := (rfl)
theorem rtv_fz {d : PV} {s : S4} : rtv (.fz d) s = if d.nh = true then .ret (.val (.rt (.fz d)) s) else .stuck := (rfl)
theorem rtv_ow {d : List PV} {s : S4} : rtv (.ow d) s = .ret (.val (.rt (.ow d)) s) := (rfl)
theorem rtv_bw {i : Nat} {s : S4} : rtv (.bw i) s = rtS s i s[i]? := (rfl)
theorem rtS_ow {i : Nat} {s : S4} {d : List PV} : rtS s i (some (.ow d)) = .ret (.val (.rt (.ow d)) (s.set i .no)) := (rfl)
theorem rtv_nd {d : PV} {s : S4} : rtv (.nd d) s = .ret (.val (.rt (.fz d)) s) := (rfl)
theorem rtS_od {i : Nat} {s : S4} {d : PV} : rtS s i (some (.od d)) = .ret (.val (.rt (.fz d)) (s.set i (.fz d))) := (rfl)
theorem rtS_fz {i : Nat} {s : S4} {d : List PV} : rtS s i (some (.fz (.lst d))) = .ret (.val (.rt (.fz (.lst d))) s) := (rfl)
theorem app_drop {f : M Fv} {s : S4} : dropM f s = bindO (f s) fun _ => M.ret .nx := (rfl)
theorem set_fz {i : Nat} {d : PV} {s : S4} : setM i (.fz d) s = .ret (.val () (s.set i (.fz d))) := (rfl)
theorem set_ow {i : Nat} {d : List PV} {s : S4} : setM i (.ow d) s = .ret (.val () (s.set i (.ow d))) := (rfl)
theorem set_nd {i : Nat} {d : PV} {s : S4} : setM i (.nd d) s = .ret (.val () (s.set i (.od d))) := (rfl)
theorem set_bw {i j : Nat} {s : S4} : setM i (.bw j) s = bindO (frz (.bw j) s) fun d => fun s => .ret (.val () (s.set i (.fz d))) := (rfl)
def tupTK (n : Nat) (fs : List (Fv → M Unit)) : PV → M Unit
  | .tup ds => fun s => .need (ds.length = n) (tgsM fs ds s)
  | _ => M.stuck
theorem app_tupTg {n : Nat} {fs : List (Fv → M Unit)} {x : Fv} {s : S4} : tupTg n fs x s = bindO (frzD x s) (tupTK n fs) := by
  show bindO (frzD x s) _ = _
  congr 1
theorem tupTK_tup {n : Nat} {fs : List (Fv → M Unit)} {ds : List PV} {s : S4} : tupTK n fs (.tup ds) s = .need (ds.length = n) (tgsM fs ds s) := (rfl)
theorem app_tgs_nil {s : S4} : tgsM [] [] s = .ret (.val () s) := (rfl)
theorem app_tgs_cons {f : Fv → M Unit} {fs : List (Fv → M Unit)} {d : PV} {ds : List PV} {s : S4} : tgsM (f :: fs) (d :: ds) s = bindO (f (.fz d) s) fun _ => tgsM fs ds := (rfl)
def storeK (d : PV) (o : Fv) (k : PV) : M Unit := stO k d o
theorem app_store {fo fi : M Fv} {x : Fv} {s : S4} : storeM fo fi x s = bindO (frzD x s) fun d => (setl fo).bind fun o => (setl fi).bind fun i => (vw i).bind (storeK d o) := (rfl)
theorem storeK_bw {d k : PV} {j : Nat} {s : S4} : storeK d (.bw j) k s = stS s j k d s[j]? := (rfl)
theorem stS_ow {s : S4} {j : Nat} {n : Int} {d : PV} {xs : List PV} : stS s j (.int n) d (some (.ow xs)) = stN s j xs d (ixN xs.length n) := (rfl)
theorem stS_K {s : S4} {j : Nat} {k d : PV} {ks : List Key} {ds : List PV} : stS s j k d (some (.od (.dK ks ds))) = stK s j ks ds d (keyK k) := (rfl)
theorem stS_T {s : S4} {j : Nat} {k d : PV} {ks : List (List Key)} {ds : List PV} : stS s j k d (some (.od (.dT ks ds))) = stT s j ks ds d (keyT k) := (rfl)
theorem stK_some {s : S4} {j : Nat} {d : PV} {ks : List Key} {ds : List PV} {q : Key} : stK s j ks ds d (some q) = .need (ks.length < 16777216) (.ret (.val () (s.set j (.od (.dK (putZk q ks) (putZd q d ks ds)))))) := (rfl)
theorem stT_some {s : S4} {j : Nat} {d : PV} {ks : List (List Key)} {ds : List PV} {q : List Key} : stT s j ks ds d (some q) = .need (ks.length < 16777216) (.ret (.val () (s.set j (.od (.dT (putZk q ks) (putZd q d ks ds)))))) := (rfl)
theorem stN_some {s : S4} {j m : Nat} {d : PV} {xs : List PV} : stN s j xs d (some m) = .ret (.val () (s.set j (.ow (xs.set m d)))) := (rfl)
theorem app_bm {f : List PV → List PV → T (PV × List PV)} {fo : M Fv} {fa : M (List Fv)} {s : S4} : bmM f fo fa s = bindO (setl fo s) fun o => (vw o).bind fun d => (isLst d).bind fun _ => fa.bind fun xs => (frzA xs).bind fun ds => bmK f o ds := (rfl)
theorem isLst_lst {xs : List PV} {s : S4} : isLst (.lst xs) s = .ret (.val () s) := (rfl)
theorem bmK_bw {f : List PV → List PV → T (PV × List PV)} {j : Nat} {ds : List PV} {s : S4} : bmK f (.bw j) ds s = bmS s j f ds s[j]? := (rfl)
theorem bmS_ow {f : List PV → List PV → T (PV × List PV)} {j : Nat} {ds : List PV} {s : S4} {xs : List PV} : bmS s j f ds (some (.ow xs)) = (f xs ds).bind fun r => .ret (.val (.fz r.1) (s.set j (.ow r.2))) := (rfl)
theorem app_index {fo fa : M Fv} {s : S4} : indexM fo fa s = bindO (setl fo s) fun o => (vw o).bind fun d => (isLst d).bind fun _ => (setl fa).bind fun y => (vw o).bind fun c => (vw y).bind fun e => liftR (indexP c e) := (rfl)
def drawK (x : Fv) : PV → M Fv
  | .int n => match x with
    | .fz .hand => fun s => .draw n fun r => .ret (.val (.fz (.int r)) s)
    | _ => M.stuck
  | _ => M.stuck
theorem app_draw {fh fn : M Fv} {s : S4} : drawM fh fn s = bindO (setl fh s) fun x => (setl fn).bind fun y => (vw y).bind (drawK x) := by
  show bindO (setl fh s) _ = _
  congr 1
  funext x s'
  show bindO (setl fn s') _ = bindO (setl fn s') _
  congr 1
  funext y s2
  show bindO (vw y s2) _ = bindO (vw y s2) _
  congr 1
  funext d s3
  cases x with
  | fz c => cases c <;> cases d <;> rfl
  | bw i => cases d <;> rfl
  | ow xs => cases d <;> rfl
  | nd e => cases d <;> rfl
theorem drawK_hand {n : Int} {s : S4} : drawK (.fz .hand) (.int n) s = .draw n fun r => .ret (.val (.fz (.int r)) s) := (rfl)
theorem app_sl {f : M Fv} {fl fh : M (Option Int)} {s : S4} : slM f fl fh s = bindO (setl f s) fun x => fl.bind fun lo => fh.bind fun hi => (vw x).bind fun d => liftR (slP d lo hi) := (rfl)
def partK : PV → M (Option Int)
  | .int i => M.ret (some i)
  | _ => M.stuck
theorem app_part {f : M Fv} {s : S4} : partM f s = bindO (setl f s) fun x => (vw x).bind partK := by
  show bindO (setl f s) _ = _
  congr 1
theorem partK_int {i : Int} {s : S4} : partK (.int i) s = .ret (.val (some i) s) := (rfl)
theorem app_isi2 {n1 n2 : String} {f : M Fv} {s : S4} : isi2M n1 n2 f s = bindO (setl f s) fun x => (vw x).bind fun d => liftR (blK (orO (tyB n1 d) (tyB n2 d))) := (rfl)
def rg1K (tup : Bool) : PV → M Fv
  | .int n => liftR (.need (RgOk 0 n) (.ret (if tup then .fz (.tup (rgD 0 n)) else .ow (rgD 0 n))))
  | _ => M.stuck
theorem app_rg1 {t : Bool} {f : M Fv} {s : S4} : rg1M t f s = bindO (setl f s) fun x => (vw x).bind (rg1K t) := by
  show bindO (setl f s) _ = _
  congr 1
theorem rg1K_f {n : Int} {s : S4} : rg1K false (.int n) s = .need (RgOk 0 n) (.ret (.val (.ow (rgD 0 n)) s)) := (rfl)
theorem rg1K_t {n : Int} {s : S4} : rg1K true (.int n) s = .need (RgOk 0 n) (.ret (.val (.fz (.tup (rgD 0 n))) s)) := (rfl)
def rg2K (tup : Bool) : PV → PV → M Fv
  | .int m, .int n => liftR (.need (RgOk m n) (.ret (if tup then .fz (.tup (rgD m n)) else .ow (rgD m n))))
  | _, _ => M.stuck
theorem app_rg2 {t : Bool} {f h : M Fv} {s : S4} : rg2M t f h s = bindO (setl f s) fun x => (setl h).bind fun y => (vw x).bind fun d => (vw y).bind fun e => rg2K t d e := by
  show bindO (setl f s) _ = _
  congr 1
theorem rg2K_f {m n : Int} {s : S4} : rg2K false (.int m) (.int n) s = .need (RgOk m n) (.ret (.val (.ow (rgD m n)) s)) := (rfl)
theorem rg2K_t {m n : Int} {s : S4} : rg2K true (.int m) (.int n) s = .need (RgOk m n) (.ret (.val (.fz (.tup (rgD m n))) s)) := (rfl)
/-! ### what is walked -/
def rng1K : List PV → M (List PV)
  | [.int n] => fun s => .need (n < 2 ^ 62 ∧ -(2 ^ 62) ≤ n) (.ret (.val (rgD 0 n) s))
  | _ => M.stuck
theorem app_rng1 {fa : M (List Fv)} {s : S4} : rng1M fa s = bindO (fa s) fun xs => (vwA xs).bind rng1K := (rfl)
theorem rng1K_int {n : Int} {s : S4} : rng1K [.int n] s = .need (n < 2 ^ 62 ∧ -(2 ^ 62) ≤ n) (.ret (.val (rgD 0 n) s)) := (rfl)
def rng2K : List PV → M (List PV)
  | [.int m, .int n] => fun s => .need (-(2 ^ 62) ≤ m ∧ m < 2 ^ 62 ∧ -(2 ^ 62) ≤ n ∧ n < 2 ^ 62) (.ret (.val (rgD m n) s))
  | _ => M.stuck
theorem app_rng2 {fa : M (List Fv)} {s : S4} : rng2M fa s = bindO (fa s) fun xs => (vwA xs).bind rng2K := (rfl)
theorem rng2K_int {m n : Int} {s : S4} : rng2K [.int m, .int n] s = .need (-(2 ^ 62) ≤ m ∧ m < 2 ^ 62 ∧ -(2 ^ 62) ≤ n ∧ n < 2 ^ 62) (.ret (.val (rgD m n) s)) := (rfl)
theorem app_seqS {f : M Fv} {s : S4} : seqS f s = bindO (f s) fun x => (frzD x).bind itemsM := (rfl)
theorem items_lst {xs : List PV} {s : S4} : itemsM (.lst xs) s = .ret (.val xs s) := (rfl)
theorem items_tup {xs : List PV} {s : S4} : itemsM (.tup xs) s = .ret (.val xs s) := (rfl)
theorem app_enum1 {f : M Fv} {s : S4} : enum1M f s = bindO (f s) fun x => (frzD x).bind fun d => (itemsM d).bind fun es => M.ret (enumD 0 es) := (rfl)
theorem app_for {src : M (List PV)} {tg : Fv → M Unit} {body : M Fl} {s : S4} : forM src tg body s = bindO (src s) (forL tg body) := (rfl)
theorem app_lc {vs : List Nat} {src : M (List PV)} {tg : Fv → M Unit} {test : M Bool} {elt : M Fv} {s : S4} : lcM vs src tg test elt s = bindO (src s) fun ds s => bindO (noX (lcL vs tg test elt ds []) (wipeS s vs)) fun acc => M.ret (.ow acc) := (rfl)
theorem wipe_nil {s : S4} : wipeS s [] = s := (rfl)
theorem wipe_cons {s : S4} {v : Nat} {vs : List Nat} : wipeS s (v :: vs) = (wipeS s vs).set v .no := (rfl)
/-! ### errors -/
theorem app_raise {c : Nat} {names : List Str} {fa : M (List Fv)} {s : S4} : raiseM c names fa s = bindO (fa s) fun xs => (frzA xs).bind fun ds => fun s => .need (ds.length = names.length ∧ ds.length ≤ 900) (.ret (.exc ⟨c, (names.zip ds).reverse⟩ s)) := (rfl)
theorem app_raise0 {c : Nat} {s : S4} : raise0M c s = .ret (.exc ⟨c, []⟩ s) := (rfl)
theorem app_dnewK {s : S4} : dnewKM s = .ret (.val (.nd (.dK [] [])) s) := (rfl)
theorem app_dnewT {s : S4} : dnewTM s = .ret (.val (.nd (.dT [] [])) s) := (rfl)
theorem app_fld {ok : Nat → Bool} {f : Str} {fo : M Fv} {s : S4} : fldM ok f fo s = bindO (setl fo s) (fldV ok f) := (rfl)
theorem fldV_fz {ok : Nat → Bool} {f : Str} {C : Nat} {fs : List (Str × PV)} {s : S4} : fldV ok f (.fz (.ins C fs)) s = fldK ok f C fs s := (rfl)
theorem fldV_bw {ok : Nat → Bool} {f : Str} {i : Nat} {s : S4} : fldV ok f (.bw i) s = fldS ok f s s[i]? := (rfl)
theorem fldS_oi {ok : Nat → Bool} {f : Str} {C : Nat} {fs : List (Str × PV)} {s : S4} : fldS ok f s (some (.oi C fs)) = fldK ok f C fs s := (rfl)
theorem fldS_fz {ok : Nat → Bool} {f : Str} {C : Nat} {fs : List (Str × PV)} {s : S4} : fldS ok f s (some (.fz (.ins C fs))) = fldK ok f C fs s := (rfl)
def fldG (s : S4) : Option PV → T (Out Fv)
  | some d => .ret (.val (.fz d) s)
  | none => .stuck
theorem app_fldK {ok : Nat → Bool} {f : Str} {C : Nat} {fs : List (Str × PV)} {s : S4} : fldK ok f C fs s = .need (ok C = true) (fldG s (fs.lookup f)) := by
  unfold fldK fldG
  cases fs.lookup f <;> rfl
theorem fldG_some {s : S4} {d : PV} : fldG s (some d) = .ret (.val (.fz d) s) := (rfl)
theorem app_sfld {ok : Nat → Bool} {f : Str} {i : Nat} {fe : M Fv} {s : S4} : sfldM ok f i fe s = bindO (fe s) fun x => (frzD x).bind fun d => fun s => sfldK ok f i d s s[i]? := (rfl)
theorem sfldK_oi {ok : Nat → Bool} {f : Str} {i C : Nat} {d : PV} {fs : List (Str × PV)} {s : S4} : sfldK ok f i d s (some (.oi C fs)) = .need (ok C = true ∧ fs.length < 1000 ∧ noOi (s.set i .no) = true) (.ret (.val .nx (s.set i (.oi C (putP f d fs))))) := (rfl)
theorem app_make {C n : Nat} {den : DenI} {dds : List PV} {fa : M (List Fv)} {s : S4} : makeM C n den dds fa s = bindO (fa s) fun xs => (frzC xs).bind fun ds => fun s => .need ((ds ++ dds).length = n) (outI C (den (ds ++ dds)) s) := (rfl)
def outIK (C : Nat) (s : S4) : Except Xc (List (Str × PV)) → T (Out Fv)
  | .ok fs => .ret (.val (.fz (.ins C fs)) s)
  | .error x => .ret (.exc x s)
theorem app_outI {C : Nat} {t : T (Except Xc (List (Str × PV)))} {s : S4} : outI C t s = t.bind (outIK C s) := by
  show t.bind _ = t.bind _
  congr 1
theorem outIK_ok {C : Nat} {s : S4} {fs : List (Str × PV)} : outIK C s (.ok fs) = .ret (.val (.fz (.ins C fs)) s) := (rfl)
theorem outIK_err {C : Nat} {s : S4} {x : Xc} : outIK C s (.error x) = .ret (.exc x s) := (rfl)
theorem app_meth {C n : Nat} {m : Str} {den : Den} {dds : List PV} {fo : M Fv} {fa : M (List Fv)} {s : S4} : methM C n m den dds fo fa s = bindO (setl fo s) (methO C n m den dds fa) := (rfl)
theorem methO_fz {C C' n : Nat} {m : Str} {den : Den} {dds : List PV} {fa : M (List Fv)} {fs : List (Str × PV)} {s : S4} : methO C n m den dds fa (.fz (.ins C' fs)) s = .need (C' = C ∧ fs.lookup m = none) ((callN n den dds (fa.bind fun xs => M.ret (.fz (.ins C' fs) :: xs))) s) := (rfl)
theorem app_prop {C : Nat} {den : Den} {fo : M Fv} {s : S4} : propM C den fo s = bindO (setl fo s) (propO C den) := (rfl)
theorem propO_fz {C C' : Nat} {den : Den} {fs : List (Str × PV)} {s : S4} : propO C den (.fz (.ins C' fs)) s = .need (C' = C) (outM (den [.ins C' fs]) s) := (rfl)
theorem app_callK {n m N : Nat} {den : Den} {dds : List PV} {pr : List (Bool × Nat)} {fa fk : M (List Fv)} {s : S4} : callKM n m N den dds pr fa fk s = bindO (fa s) fun xs => fk.bind fun zs => (frzC xs).bind fun ds => (frzC zs).bind fun es =>
  fun s => .need (ds.length = n ∧ es.length = m ∧ (mixK pr ds dds es).length = N) (outM (den (mixK pr ds dds es)) s) := (rfl)
theorem app_xis2 {D i : Nat} {b : Bool} {s : S4} : xis2M D b i s = xis2K D b s s[i]? := (rfl)
theorem xis2K_xc {D : Nat} {b : Bool} {s : S4} {x : Xc} : xis2K D b s (some (.xc x)) = .need (x.c = D ∧ x.fs ≠ []) (.ret (.val (.fz (.bl b)) s)) := (rfl)
theorem app_lc2 {vs vs1 : List Nat} {src : M (List PV)} {tg : Fv → M Unit} {test : M Bool} {src1 : M (List PV)} {tg1 : Fv → M Unit} {test1 : M Bool} {elt : M Fv} {s : S4} : lcM2 vs vs1 src tg test src1 tg1 test1 elt s =
  bindO (src s) fun ds => fun s => (noX (lcL2 vs vs1 tg test src1 tg1 test1 elt ds [])).bind (fun acc => M.ret (.ow acc)) (wipeS s vs) := (rfl)
theorem app_try {sub : Nat → Nat → Bool} {body : M Fl} {l : List Hd} {s : S4} : tryM sub body l s = (body s).bind (tryK sub l) := (rfl)
theorem tryK_val {sub : Nat → Nat → Bool} {l : List Hd} {a : Fl} {s : S4} : tryK sub l (.val a s) = .ret (.val a s) := (rfl)
theorem tryK_exc {sub : Nat → Nat → Bool} {l : List Hd} {x : Xc} {s : S4} : tryK sub l (.exc x s) = hdM sub l x s := (rfl)
theorem hdM_nil {sub : Nat → Nat → Bool} {x : Xc} {s : S4} : hdM sub [] x s = .ret (.exc x s) := (rfl)
theorem hdM_some {sub : Nat → Nat → Bool} {c i : Nat} {F : M Fl} {r : List Hd} {x : Xc} {s : S4} : hdM sub (⟨c, some i, F⟩ :: r) x s = .need (sub x.c x.c = true) (if sub x.c c = true then .need (noXc s = true) ((F (s.set i (.xc x))).bind (cleanK i)) else hdM sub r x s) := (rfl)
theorem hdM_none {sub : Nat → Nat → Bool} {c : Nat} {F : M Fl} {r : List Hd} {x : Xc} {s : S4} : hdM sub (⟨c, none, F⟩ :: r) x s = .need (sub x.c x.c = true) (if sub x.c c = true then .need (noXc s = true) ((F s).bind bareK) else hdM sub r x s) := (rfl)
theorem app_xf {c i : Nat} {f : Str} {s : S4} : xfM c i f s = xfK c f s s[i]? := (rfl)
def xfL (s : S4) : Option PV → T (Out Fv)
  | some d => .ret (.val (.fz d) s)
  | none => .stuck
theorem xfK_xc {c : Nat} {f : Str} {s : S4} {x : Xc} : xfK c f s (some (.xc x)) = .need (x.c = c) (xfL s (x.fs.lookup f)) := by
  show T.need _ _ = T.need _ _
  cases x.fs.lookup f <;> rfl
theorem xfL_some {s : S4} {d : PV} : xfL s (some d) = .ret (.val (.fz d) s) := (rfl)
theorem app_xis {D i : Nat} {b : Bool} {s : S4} : xisM D b i s = xisK D b s s[i]? := (rfl)
theorem xisK_xc {D : Nat} {b : Bool} {s : S4} {x : Xc} : xisK D b s (some (.xc x)) = .need (x.c = D ∧ x.fs ≠ []) (.ret (.val (.fz (.bl b)) s)) := (rfl)
theorem app_aug {f : PV → PV → T Rv} {i : Nat} {fe : M Fv} {s : S4} : augM f i fe s = bindO (varM i s) fun x => (setl fe).bind fun y => (vw x).bind fun d => (vw y).bind fun e => (liftR (f d e)).bind fun r => (setM i r).bind fun _ => M.ret .nx := (rfl)
def parK (i j : Nat) : List PV → M Fl
  | [d, e] => fun s => .ret (.val .nx ((s.set i (.fz d)).set j (.fz e)))
  | _ => M.stuck
theorem app_par {i j : Nat} {fa : M (List Fv)} {s : S4} : parM i j fa s = bindO (fa s) fun xs => (frzA xs).bind (parK i j) := (rfl)
theorem parK_two {i j : Nat} {d e : PV} {s : S4} : parK i j [d, e] s = .ret (.val .nx ((s.set i (.fz d)).set j (.fz e))) := (rfl)
/-! ### the whole -/
theorem endK_nx {s : S4} : endK (.val .nx s) = .ret (.ok (.fz .non)) := (rfl)
theorem endK_rt {r : Rv} {s : S4} : endK (.val (.rt r) s) = .ret (.ok r) := (rfl)
theorem endK_exc {x : Xc} {s : S4} : endK (.exc x s) = .ret (.error x) := (rfl)
theorem app_den {N : Nat} {F : M Fl} {ds : List PV} : denOf N F ds = (F (ds.map Sl.fz ++ List.replicate (N - ds.length) .no)).bind endK := (rfl)
theorem need_pos {α : Type} {p : Prop} {k : T α} (h : p) : T.need True k = T.need p k := by
  have : p = True := by simp [h]
  rw [this]
/-- wp, closed to unfolding (the elaborator works out a goal's head) -/
structure Wp {α : Type} (t : T α) (Q : α → Prop) : Prop where
  run : wp t Q
theorem Wp.eq {α : Type} {t : T α} {Q : α → Prop} : Wp t Q = wp t Q := propext ⟨Wp.run, Wp.mk⟩
theorem Wp.mono {α : Type} {Q Q' : α → Prop} {t : T α} (h : Wp t Q) (q : ∀ a, Q a → Q' a) : Wp t Q' := ⟨wp_mono h.run q⟩
theorem wp_ret {α : Type} {a : α} {Q : α → Prop} : Wp (.ret a) Q = Q a := Wp.eq
theorem wp_need {α : Type} {p : Prop} {k : T α} {Q : α → Prop} : Wp (.need p k) Q = (p ∧ Wp k Q) := by
  rw [Wp.eq, Wp.eq]
  rfl
theorem wp_stuck {α : Type} {Q : α → Prop} : Wp (.stuck : T α) Q = False := Wp.eq
theorem wp_draw {α : Type} {n : Int} {k : Int → T α} {Q : α → Prop} : Wp (.draw n k) Q = ((0 < n ∧ n < 1073741824) ∧ ∀ r, 0 ≤ r → r < n → Wp (k r) Q) := by
  simp only [Wp.eq]
  rfl
theorem wp_ite {α : Type} {c : Prop} [Decidable c] {x y : T α} {Q : α → Prop} : Wp (if c then x else y) Q = if c then Wp x Q else Wp y Q := by split <;> rfl
/-- what follows a loop, a call, .. -/
def afterO {α β : Type} (f : α → M β) (Q : Out β → Prop) : Out α → Prop
  | .val a s => Wp (f a s) Q
  | .exc x s => Q (.exc x s)
theorem wp_bindO {α β : Type} {t : T (Out α)} {f : α → M β} {Q : Out β → Prop} : Wp (bindO t f) Q = Wp t (afterO f Q) := by
  unfold bindO
  rw [Wp.eq, propext wp_bind, Wp.eq]
  congr 1
  funext o
  cases o with
  | val a s => exact Wp.eq.symm
  | exc x s => rfl
theorem afterO_val {α β : Type} {f : α → M β} {Q : Out β → Prop} {a : α} {s : S4} : afterO f Q (.val a s) = Wp (f a s) Q := (rfl)
theorem afterO_exc {α β : Type} {f : α → M β} {Q : Out β → Prop} {x : Xc} {s : S4} : afterO f Q (.exc x s) = Q (.exc x s) := (rfl)
theorem wp_bindT {α β : Type} {t : T α} {f : α → T β} {Q : β → Prop} : Wp (t.bind f) Q = Wp t fun a => Wp (f a) Q := by
  simp only [Wp.eq]
  exact propext wp_bind
/-- a for: Inv by the turn and the slots; E: what is wanted of the loop's end -/
def stepP (E : Out Fl → Prop) (Inv : S4 → Prop) : Out Fl → Prop
  | .val .nx s => Inv s
  | .val .ct s => Inv s
  | .val .bk s => E (.val .nx s)
  | .val (.rt r) s => E (.val (.rt r) s)
  | .exc x s => E (.exc x s)
theorem stepP_nx {E : Out Fl → Prop} {Inv : S4 → Prop} {s : S4} : stepP E Inv (.val .nx s) = Inv s := (rfl)
theorem stepP_ct {E : Out Fl → Prop} {Inv : S4 → Prop} {s : S4} : stepP E Inv (.val .ct s) = Inv s := (rfl)
theorem stepP_bk {E : Out Fl → Prop} {Inv : S4 → Prop} {s : S4} : stepP E Inv (.val .bk s) = E (.val .nx s) := (rfl)
theorem stepP_rt {E : Out Fl → Prop} {Inv : S4 → Prop} {s : S4} {r : Rv} : stepP E Inv (.val (.rt r) s) = E (.val (.rt r) s) := (rfl)
theorem stepP_exc {E : Out Fl → Prop} {Inv : S4 → Prop} {s : S4} {x : Xc} : stepP E Inv (.exc x s) = E (.exc x s) := (rfl)
theorem wp_forL {tg : Fv → M Unit} {body : M Fl} {E : Out Fl → Prop} (Inv : Nat → S4 → Prop) : ∀ {ds : List PV} {k : Nat} {s : S4}, Inv k s →
    (∀ i d s', ds[i]? = some d → Inv (k + i) s' → Wp (bindO (tg (.fz d) s') fun _ => body) (stepP E (Inv (k + i + 1)))) → (∀ s', Inv (k + ds.length) s' → E (.val .nx s')) → Wp (forL tg body ds s) E
  | [], k, s, h0, _, hd => ⟨hd s (by simpa using h0)⟩
  | d :: ds, k, s, h0, hs, hd => by
    show Wp (bindO (tg (.fz d) s) fun _ => body.bind fun o => match o with
      | .nx => forL tg body ds
      | .ct => forL tg body ds
      | .bk => M.ret .nx
      | .rt r => M.ret (.rt r)) E
    have h1 := hs 0 d s rfl h0
    rw [wp_bindO] at h1 ⊢
    have nxt : ∀ s', Inv (k + 1) s' → Wp (forL tg body ds s') E := fun s' h => wp_forL (k := k + 1) Inv h (fun i d s2 e h2 => by
      have := hs (i + 1) d s2 e (by rw [show k + (i + 1) = k + 1 + i by omega]; exact h2)
      rw [show k + (i + 1) + 1 = k + 1 + i + 1 by omega] at this
      exact this) fun s2 h2 => hd s2 (by rw [List.length_cons, show k + (ds.length + 1) = k + 1 + ds.length by omega]; exact h2)
    refine Wp.mono h1 fun o z => ?_
    cases o with
    | exc x s' => exact z
    | val u s' =>
      have z : Wp (body s') (stepP E (Inv (k + 0 + 1))) := z
      show Wp (bindO (body s') _) E
      rw [wp_bindO]
      refine Wp.mono z fun o z => ?_
      cases o with
      | exc x s2 => exact z
      | val f s2 =>
        cases f with
        | nx => exact nxt s2 z
        | ct => exact nxt s2 z
        | bk => exact ⟨z⟩
        | rt r => exact ⟨z⟩
/-- a while: Inv by a measure that falls -/
def testP (E : Out Fl → Prop) (B : S4 → Prop) : Out Bool → Prop
  | .val true s => B s
  | .val false s => E (.val .nx s)
  | .exc x s => E (.exc x s)
theorem testP_t {E : Out Fl → Prop} {B : S4 → Prop} {s : S4} : testP E B (.val true s) = B s := (rfl)
theorem testP_f {E : Out Fl → Prop} {B : S4 → Prop} {s : S4} : testP E B (.val false s) = E (.val .nx s) := (rfl)
theorem testP_b {E : Out Fl → Prop} {B : S4 → Prop} {s : S4} {b : Bool} : testP E B (.val b s) = if b = true then B s else E (.val .nx s) := by cases b <;> rfl
theorem wp_while {c : M Bool} {body : M Fl} {E : Out Fl → Prop} (Inv : Nat → S4 → Prop) (hs : ∀ m s, Inv m s → Wp (c s) (testP E fun s' => Wp (body s') (stepP E fun s2 => ∃ m', m' < m ∧ Inv m' s2))) :
    ∀ {k m : Nat} {s : S4}, Inv m s → m < k → Wp (whileM c body k s) E
  | 0, m, s, _, h => absurd h (Nat.not_lt_zero _)
  | k + 1, m, s, h0, h => by
    show Wp (bindO (c s) fun b => if b then body.bind fun o => match o with
      | .nx => whileM c body k
      | .ct => whileM c body k
      | .bk => M.ret .nx
      | .rt r => M.ret (.rt r)
      else M.ret .nx) E
    rw [wp_bindO]
    refine Wp.mono (hs m s h0) fun o z => ?_
    cases o with
    | exc x s' => exact z
    | val b s' =>
      cases b with
      | false => exact ⟨z⟩
      | true =>
        have z : Wp (body s') (stepP E fun s2 => ∃ m', m' < m ∧ Inv m' s2) := z
        show Wp (bindO (body s') _) E
        rw [wp_bindO]
        have nxt : ∀ s2, (∃ m', m' < m ∧ Inv m' s2) → Wp (whileM c body k s2) E := fun s2 ⟨m', hm, hi⟩ => wp_while Inv hs hi (by omega)
        refine Wp.mono z fun o z => ?_
        cases o with
        | exc x s2 => exact z
        | val f s2 =>
          cases f with
          | nx => exact nxt s2 z
          | ct => exact nxt s2 z
          | bk => exact ⟨z⟩
          | rt r => exact ⟨z⟩
/-- a comprehension: Inv by the turn, the slots, what has been made -/
def eltP (s0 : S4 → S4) (Inv : S4 → PV → Prop) : Out Fv → Prop
  | .val (.fz d) s => d.nh = true ∧ Inv (s0 s) d
  | .val (.ow xs) s => Inv (s0 s) (.lst xs)
  | .val (.bw i) s => match lstOf s[i]? with
    | some d => d.nh = true ∧ Inv (s0 (s.set i (.fz d))) d
    | none => False
  | .val (.nd d) s => d.nh = true ∧ Inv (s0 s) d
  | .exc _ _ => False
theorem eltP_fz {s0 : S4 → S4} {Inv : S4 → PV → Prop} {s : S4} {d : PV} : eltP s0 Inv (.val (.fz d) s) = (d.nh = true ∧ Inv (s0 s) d) := (rfl)
theorem eltP_nd {s0 : S4 → S4} {Inv : S4 → PV → Prop} {s : S4} {d : PV} : eltP s0 Inv (.val (.nd d) s) = (d.nh = true ∧ Inv (s0 s) d) := (rfl)
theorem eltP_ow {s0 : S4 → S4} {Inv : S4 → PV → Prop} {s : S4} {d : List PV} : eltP s0 Inv (.val (.ow d) s) = Inv (s0 s) (.lst d) := (rfl)
def tstP (A B : S4 → Prop) : Out Bool → Prop
  | .val true s => A s
  | .val false s => B s
  | .exc _ _ => False
theorem tstP_b {A B : S4 → Prop} {s : S4} {b : Bool} : tstP A B (.val b s) = if b = true then A s else B s := by cases b <;> rfl
def okQ {α : Type} (Q : Out α → Prop) : Out α → Prop
  | .val a s' => Q (.val a s')
  | .exc _ _ => False
theorem wp_noXr {α : Type} {m : M α} {s : S4} {Q : Out α → Prop} : Wp (noX m s) Q = Wp (m s) (okQ Q) := by
  unfold noX
  rw [wp_bindT]
  congr 1
  funext o
  cases o with
  | val a s => exact wp_ret
  | exc x s => exact wp_stuck
theorem wp_lcL {vs : List Nat} {tg : Fv → M Unit} {test : M Bool} {elt : M Fv} {E : Out (List PV) → Prop} (Inv : Nat → S4 → List PV → Prop) : ∀ {ds : List PV} {k : Nat} {s : S4} {acc : List PV}, acc.length ≤ k → k + ds.length ≤ 16777216 → Inv k s acc →
    (∀ i d s' acc, ds[i]? = some d → Inv (k + i) s' acc → Wp (bindO (tg (.fz d) s') fun _ => test) (tstP (fun s2 => Wp (elt s2) (eltP (fun s => wipeS s vs) fun s3 e => Inv (k + i + 1) s3 (acc ++ [e]))) fun s2 => Inv (k + i + 1) (wipeS s2 vs) acc)) →
    (∀ s' acc, Inv (k + ds.length) s' acc → E (.val acc s')) → Wp (noX (lcL vs tg test elt ds acc) s) E
  | [], k, s, acc, _, _, h0, _, hd => ⟨hd s acc (by simpa using h0)⟩
  | d :: ds, k, s, acc, la, lk, h0, hs, hd => by
    rw [wp_noXr]
    show Wp (bindO (tg (.fz d) s) fun _ => test.bind fun b => if b then (setl elt).bind fun x => (frzD x).bind fun e => fun s => .need (acc.length < 16777216) (lcL vs tg test elt ds (acc ++ [e]) (wipeS s vs))
      else fun s => lcL vs tg test elt ds acc (wipeS s vs)) _
    have h1 := hs 0 d s acc rfl h0
    rw [wp_bindO] at h1 ⊢
    rw [List.length_cons] at lk
    have nxt : ∀ s' acc', acc'.length ≤ k + 1 → Inv (k + 1) s' acc' → Wp (lcL vs tg test elt ds acc' s') (okQ E) := fun s' acc' l h => by
      have := wp_lcL (k := k + 1) (vs := vs) (tg := tg) (test := test) (elt := elt) (E := E) (ds := ds) (s := s') (acc := acc') Inv l (by omega) h (fun i d s2 acc e h2 => by
        have := hs (i + 1) d s2 acc e (by rw [show k + (i + 1) = k + 1 + i by omega]; exact h2)
        rw [show k + (i + 1) + 1 = k + 1 + i + 1 by omega] at this
        exact this) fun s2 acc h2 => hd s2 acc (by rw [List.length_cons, show k + (ds.length + 1) = k + 1 + ds.length by omega]; exact h2)
      rw [wp_noXr] at this
      exact this
    refine Wp.mono h1 fun o z => ?_
    cases o with
    | exc x s' => exact z
    | val u s' =>
      have z : Wp (test s') (tstP (fun s2 => Wp (elt s2) (eltP (fun s => wipeS s vs) fun s3 e => Inv (k + 0 + 1) s3 (acc ++ [e]))) fun s2 => Inv (k + 0 + 1) (wipeS s2 vs) acc) := z
      show Wp (bindO (test s') _) _
      rw [wp_bindO]
      refine Wp.mono z fun o z => ?_
      cases o with
      | exc x s2 => exact z
      | val b s2 =>
        cases b with
        | false => exact nxt _ acc (by omega) z
        | true =>
          have z : Wp (elt s2) (eltP (fun s => wipeS s vs) fun s3 e => Inv (k + 0 + 1) s3 (acc ++ [e])) := z
          show Wp (bindO (setl elt s2) _) _
          rw [app_setl, bindO_bindO, wp_bindO]
          have fin : ∀ s3 e, e.nh = true → Inv (k + 0 + 1) (wipeS s3 vs) (acc ++ [e]) → Wp (T.need (acc.length < 16777216) (lcL vs tg test elt ds (acc ++ [e]) (wipeS s3 vs))) (okQ E) := fun s3 e _ h => by
            rw [wp_need]
            exact ⟨by omega, nxt _ _ (by rw [List.length_append, List.length_singleton]; omega) h⟩
          refine Wp.mono z fun o z => ?_
          cases o with
          | exc x s3 => exact z.elim
          | val x s3 =>
            cases x with
            | fz e =>
              show Wp (bindO (if e.nh = true then T.ret (.val e s3) else .stuck) _) _
              rw [if_pos z.1]
              exact fin s3 e z.1 z.2
            | ow xs => exact fin s3 (.lst xs) rfl z
            | bw j =>
              have z : (match lstOf s3[j]? with
                | some d => d.nh = true ∧ Inv (k + 0 + 1) (wipeS (s3.set j (.fz d)) vs) (acc ++ [d])
                | none => False) := z
              show Wp (bindO (bindO (frz (.bw j) s3) _) _) _
              rw [app_frz_bw]
              cases e : lstOf s3[j]? with
              | none => rw [e] at z; exact z.elim
              | some d =>
                rw [e] at z
                show Wp (bindO (if d.nh = true then T.ret (.val d _) else .stuck) _) _
                rw [if_pos z.1]
                exact fin _ d z.1 z.2
            | nd e =>
              show Wp (bindO (if e.nh = true then T.ret (.val e s3) else .stuck) _) _
              rw [if_pos z.1]
              exact fin s3 e z.1 z.2
end L4
/-! Rows of bits as whole numbers. -/
namespace L4
open PySem PySem.Spec PyProof.Rows L2 L3
theorem wp_forL_nil {tg : Fv → M Unit} {body : M Fl} {E : Out Fl → Prop} {s : S4} (h : E (.val .nx s)) : Wp (forL tg body [] s) E := ⟨h⟩
theorem wp_forL_cons {tg : Fv → M Unit} {body : M Fl} {E : Out Fl → Prop} {d : PV} {ds : List PV} {s : S4} (h : Wp (bindO (tg (.fz d) s) fun _ => body) (stepP E fun s' => Wp (forL tg body ds s') E)) : Wp (forL tg body (d :: ds) s) E := by
  show Wp (bindO (tg (.fz d) s) fun _ => body.bind fun o => match o with
    | .nx => forL tg body ds
    | .ct => forL tg body ds
    | .bk => M.ret .nx
    | .rt r => M.ret (.rt r)) E
  rw [wp_bindO] at h ⊢
  refine Wp.mono h fun o z => ?_
  cases o with
  | exc x s' => exact z
  | val u s' =>
    have z : Wp (body s') (stepP E fun s' => Wp (forL tg body ds s') E) := z
    show Wp (bindO (body s') _) E
    rw [wp_bindO]
    refine Wp.mono z fun o z => ?_
    cases o with
    | exc x s2 => exact z
    | val f s2 => cases f <;> first | exact z | exact ⟨z⟩
def maskN : List Bool → Nat
  | [] => 0
  | b :: r => (if b then 1 else 0) + 2 * maskN r
theorem bitNot_two (x : Int) : Builtin.bitNot (Builtin.bitNot x) = x := by unfold Builtin.bitNot; omega
theorem bitAnd_nat (a b : Nat) : Builtin.bitAnd (a : Int) (b : Int) = ((a &&& b : Nat) : Int) := by
  unfold Builtin.bitAnd
  rw [decide_eq_true (show (0 : Int) ≤ a by omega), decide_eq_true (show (0 : Int) ≤ b by omega)]
  rfl
theorem bitOr_nat (a b : Nat) : Builtin.bitOr (a : Int) (b : Int) = ((a ||| b : Nat) : Int) := by
  unfold Builtin.bitOr
  have h1 : ¬ (0 : Int) ≤ Builtin.bitNot a := by unfold Builtin.bitNot; omega
  have h2 : ¬ (0 : Int) ≤ Builtin.bitNot b := by unfold Builtin.bitNot; omega
  unfold Builtin.bitAnd
  rw [decide_eq_false h1, decide_eq_false h2]
  show Builtin.bitNot (Builtin.bitNot _) = _
  rw [bitNot_two, bitNot_two, bitNot_two]
  rfl
/-- m & ~k -/
theorem bitAndNot_nat (a b : Nat) : Builtin.bitAnd (a : Int) (Builtin.bitNot b) = ((a : Int) - ((a &&& b : Nat) : Int)) := by
  have h2 : ¬ (0 : Int) ≤ Builtin.bitNot b := by unfold Builtin.bitNot; omega
  unfold Builtin.bitAnd
  rw [decide_eq_true (show (0 : Int) ≤ a by omega), decide_eq_false h2]
  show (a : Int) - _ = _
  rw [bitNot_two]
  rfl
theorem maskN_bit : ∀ (r : List Bool) (i : Nat), (maskN r).testBit i = r.getD i false
  | [], i => by
    show (0 : Nat).testBit i = _
    rw [Nat.zero_testBit]
    rfl
  | b :: r, 0 => by
    show ((if b then 1 else 0) + 2 * maskN r).testBit 0 = b
    rw [Nat.testBit_zero]
    cases b <;> simp <;> omega
  | b :: r, i + 1 => by
    show ((if b then 1 else 0) + 2 * maskN r).testBit (i + 1) = r.getD i false
    rw [Nat.testBit_succ, ← maskN_bit r i]
    congr 1
    cases b <;> simp <;> omega
/-- m >> k & 1 -/
theorem bit_at (m k : Nat) : Builtin.bitAnd ((m : Int) / 2 ^ k) 1 = if m.testBit k then 1 else 0 := by
  have e : ((m : Int) / 2 ^ k) = ((m / 2 ^ k : Nat) : Int) := by simp
  rw [e, show (1 : Int) = ((1 : Nat) : Int) from rfl, bitAnd_nat, Nat.and_one_is_mod, ← Nat.shiftRight_eq_div_pow]
  unfold Nat.testBit
  rw [Nat.one_and_eq_mod_two]
  rcases Nat.mod_two_eq_zero_or_one (m >>> k) with h | h
  · rw [h]; rfl
  · rw [h]; rfl
theorem maskN_or : ∀ (r t : List Bool), r.length = t.length → maskN (List.zipWith (· || ·) r t) = maskN r ||| maskN t := by
  intro r t l
  apply Nat.eq_of_testBit_eq
  intro i
  rw [Nat.testBit_or, maskN_bit, maskN_bit, maskN_bit]
  simp only [List.getD_eq_getElem?_getD, List.getElem?_zipWith]
  cases h : r[i]? with
  | none =>
    have : t[i]? = none := by rw [List.getElem?_eq_none_iff] at h ⊢; omega
    rw [this]
    rfl
  | some b =>
    have lt : i < t.length := by rw [← l]; exact (List.getElem?_eq_some_iff.mp h).1
    rw [List.getElem?_eq_getElem lt]
    rfl
theorem maskN_set (r : List Bool) (k : Nat) (h : k < r.length) : maskN (r.set k true) = maskN r ||| 2 ^ k := by
  apply Nat.eq_of_testBit_eq
  intro i
  rw [Nat.testBit_or, maskN_bit, maskN_bit, Nat.testBit_two_pow]
  simp only [List.getD_eq_getElem?_getD]
  by_cases e : k = i
  · subst e
    rw [List.getElem?_set_self h]
    simp
  · rw [List.getElem?_set_ne e]
    simp [e]
end L4
/-! Comprehensions item by item. -/
namespace L4
open PySem PySem.Spec PyProof.Rows L2 L3
theorem wp_lcL_nil {vs : List Nat} {tg : Fv → M Unit} {test : M Bool} {elt : M Fv} {E : Out (List PV) → Prop} {s : S4} {acc : List PV} (h : E (.val acc s)) : Wp (noX (lcL vs tg test elt [] acc) s) E := ⟨h⟩
theorem wp_lcL_cons {vs : List Nat} {tg : Fv → M Unit} {test : M Bool} {elt : M Fv} {E : Out (List PV) → Prop} {d : PV} {ds : List PV} {s : S4} {acc : List PV} (l : acc.length < 16777216)
    (h : Wp (bindO (tg (.fz d) s) fun _ => test) (tstP (fun s2 => Wp (elt s2) (eltP (fun s => wipeS s vs) fun s3 e => Wp (noX (lcL vs tg test elt ds (acc ++ [e])) s3) E)) fun s2 => Wp (noX (lcL vs tg test elt ds acc) (wipeS s2 vs)) E)) :
    Wp (noX (lcL vs tg test elt (d :: ds) acc) s) E := by
  simp only [wp_noXr] at h ⊢
  show Wp (bindO (tg (.fz d) s) fun _ => test.bind fun b => if b then (setl elt).bind fun x => (frzD x).bind fun e => fun s => .need (acc.length < 16777216) (lcL vs tg test elt ds (acc ++ [e]) (wipeS s vs))
      else fun s => lcL vs tg test elt ds acc (wipeS s vs)) _
  rw [wp_bindO] at h ⊢
  refine Wp.mono h fun o z => ?_
  cases o with
  | exc x s' => exact z
  | val u s' =>
    have z : Wp (test s') (tstP (fun s2 => Wp (elt s2) (eltP (fun s => wipeS s vs) fun s3 e => Wp (lcL vs tg test elt ds (acc ++ [e]) s3) (okQ E))) fun s2 => Wp (lcL vs tg test elt ds acc (wipeS s2 vs)) (okQ E)) := z
    show Wp (bindO (test s') _) _
    rw [wp_bindO]
    refine Wp.mono z fun o z => ?_
    cases o with
    | exc x s2 => exact z
    | val b s2 =>
      cases b with
      | false => exact z
      | true =>
        have z : Wp (elt s2) (eltP (fun s => wipeS s vs) fun s3 e => Wp (lcL vs tg test elt ds (acc ++ [e]) s3) (okQ E)) := z
        show Wp (bindO (setl elt s2) _) _
        rw [app_setl, bindO_bindO, wp_bindO]
        refine Wp.mono z fun o z => ?_
        cases o with
        | exc x s3 => exact z.elim
        | val x s3 =>
          cases x with
          | fz e =>
            show Wp (bindO (if e.nh = true then T.ret (.val e s3) else .stuck) _) _
            rw [if_pos z.1]
            exact (Eq.mpr wp_need) ⟨l, z.2⟩
          | ow xs => exact (Eq.mpr wp_need) ⟨l, z⟩
          | bw j =>
            have z : (match lstOf s3[j]? with
              | some d => d.nh = true ∧ Wp (lcL vs tg test elt ds (acc ++ [d]) (wipeS (s3.set j (.fz d)) vs)) (okQ E)
              | none => False) := z
            show Wp (bindO (bindO (frz (.bw j) s3) _) _) _
            rw [app_frz_bw]
            cases e : lstOf s3[j]? with
            | none => rw [e] at z; exact z.elim
            | some d =>
              rw [e] at z
              show Wp (bindO (if d.nh = true then T.ret (.val d _) else .stuck) _) _
              rw [if_pos z.1]
              exact (Eq.mpr wp_need) ⟨l, z.2⟩
          | nd e =>
            show Wp (bindO (if e.nh = true then T.ret (.val e s3) else .stuck) _) _
            rw [if_pos z.1]
            exact (Eq.mpr wp_need) ⟨l, z.2⟩
def srcP (Q : List PV → S4 → Prop) : Out (List PV) → Prop
  | .val es s => Q es s
  | .exc _ _ => False
theorem srcP_val {Q : List PV → S4 → Prop} {es : List PV} {s : S4} : srcP Q (.val es s) = Q es s := rfl
theorem wp_lcL2_nil {vs vs1 : List Nat} {tg tg1 : Fv → M Unit} {test test1 : M Bool} {src1 : M (List PV)} {elt : M Fv} {E : Out (List PV) → Prop} {s : S4} {acc : List PV} (h : E (.val acc s)) : Wp (noX (lcL2 vs vs1 tg test src1 tg1 test1 elt [] acc) s) E := ⟨h⟩
theorem wp_lcL2_cons {vs vs1 : List Nat} {tg tg1 : Fv → M Unit} {test test1 : M Bool} {src1 : M (List PV)} {elt : M Fv} {E : Out (List PV) → Prop} {d : PV} {ds : List PV} {s : S4} {acc : List PV}
    (h : Wp (bindO (tg (.fz d) s) fun _ => test) (tstP (fun s2 => Wp (src1 s2) (srcP fun es s3 => Wp (noX (lcL vs1 tg1 test1 elt es acc) (wipeS s3 vs1)) (srcP fun acc' s4 => Wp (noX (lcL2 vs vs1 tg test src1 tg1 test1 elt ds acc') (wipeS s4 vs)) E))) fun s2 => Wp (noX (lcL2 vs vs1 tg test src1 tg1 test1 elt ds acc) (wipeS s2 vs)) E)) :
    Wp (noX (lcL2 vs vs1 tg test src1 tg1 test1 elt (d :: ds) acc) s) E := by
  simp only [wp_noXr] at h ⊢
  show Wp (bindO (tg (.fz d) s) fun _ => test.bind fun b => if b then src1.bind fun es => lcIn vs vs1 tg1 test1 elt es acc (lcL2 vs vs1 tg test src1 tg1 test1 elt ds)
      else fun s => lcL2 vs vs1 tg test src1 tg1 test1 elt ds acc (wipeS s vs)) _
  rw [wp_bindO] at h ⊢
  refine Wp.mono h fun o z => ?_
  cases o with
  | exc x s' => exact z
  | val u s' =>
    have z : Wp (test s') (tstP (fun s2 => Wp (src1 s2) (srcP fun es s3 => Wp (lcL vs1 tg1 test1 elt es acc (wipeS s3 vs1)) (okQ (srcP fun acc' s4 => Wp (lcL2 vs vs1 tg test src1 tg1 test1 elt ds acc' (wipeS s4 vs)) (okQ E))))) fun s2 => Wp (lcL2 vs vs1 tg test src1 tg1 test1 elt ds acc (wipeS s2 vs)) (okQ E)) := z
    show Wp (bindO (test s') _) _
    rw [wp_bindO]
    refine Wp.mono z fun o z => ?_
    cases o with
    | exc x s2 => exact z
    | val b s2 =>
      cases b with
      | false => exact z
      | true =>
        have z : Wp (src1 s2) (srcP fun es s3 => Wp (lcL vs1 tg1 test1 elt es acc (wipeS s3 vs1)) (okQ (srcP fun acc' s4 => Wp (lcL2 vs vs1 tg test src1 tg1 test1 elt ds acc' (wipeS s4 vs)) (okQ E)))) := z
        show Wp (bindO (src1 s2) _) _
        rw [wp_bindO]
        refine Wp.mono z fun o z => ?_
        cases o with
        | exc x s3 => exact z.elim
        | val es s3 =>
          have z : Wp (lcL vs1 tg1 test1 elt es acc (wipeS s3 vs1)) (okQ (srcP fun acc' s4 => Wp (lcL2 vs vs1 tg test src1 tg1 test1 elt ds acc' (wipeS s4 vs)) (okQ E))) := z
          show Wp (bindO (lcL vs1 tg1 test1 elt es acc (wipeS s3 vs1)) _) _
          rw [wp_bindO]
          refine Wp.mono z fun o z => ?_
          cases o with
          | exc x s4 => exact z.elim
          | val acc' s4 => exact z
theorem wp_lcL2 {vs vs1 : List Nat} {tg tg1 : Fv → M Unit} {test test1 : M Bool} {src1 : M (List PV)} {elt : M Fv} {E : Out (List PV) → Prop} (Inv : Nat → S4 → List PV → Prop) : ∀ {ds : List PV} {k : Nat} {s : S4} {acc : List PV}, Inv k s acc →
    (∀ i d s' acc, ds[i]? = some d → Inv (k + i) s' acc → Wp (bindO (tg (.fz d) s') fun _ => test) (tstP (fun s2 => Wp (src1 s2) (srcP fun es s3 => Wp (noX (lcL vs1 tg1 test1 elt es acc) (wipeS s3 vs1)) (srcP fun acc' s4 => Inv (k + i + 1) (wipeS s4 vs) acc'))) fun s2 => Inv (k + i + 1) (wipeS s2 vs) acc)) →
    (∀ s' acc, Inv (k + ds.length) s' acc → E (.val acc s')) → Wp (noX (lcL2 vs vs1 tg test src1 tg1 test1 elt ds acc) s) E
  | [], k, s, acc, h0, _, hd => wp_lcL2_nil (hd s acc (by simpa using h0))
  | d :: ds, k, s, acc, h0, hs, hd => by
    have nxt : ∀ s' acc', Inv (k + 1) s' acc' → Wp (noX (lcL2 vs vs1 tg test src1 tg1 test1 elt ds acc') s') E := fun s' acc' h => wp_lcL2 (k := k + 1) Inv h (fun i d s2 acc e h2 => by
      have := hs (i + 1) d s2 acc e (by rw [show k + (i + 1) = k + 1 + i by omega]; exact h2)
      rw [show k + (i + 1) + 1 = k + 1 + i + 1 by omega] at this
      exact this) fun s2 acc h2 => hd s2 acc (by rw [List.length_cons, show k + (ds.length + 1) = k + 1 + ds.length by omega]; exact h2)
    refine wp_lcL2_cons (Wp.mono (hs 0 d s acc rfl h0) fun o z => ?_)
    cases o with
    | exc x s' => exact z
    | val b s2 =>
      cases b with
      | false => exact nxt _ _ z
      | true =>
        have z : Wp (src1 s2) (srcP fun es s3 => Wp (noX (lcL vs1 tg1 test1 elt es acc) (wipeS s3 vs1)) (srcP fun acc' s4 => Inv (k + 0 + 1) (wipeS s4 vs) acc')) := z
        refine Wp.mono z fun o z => ?_
        cases o with
        | exc x s3 => exact z
        | val es s3 =>
          have z : Wp (noX (lcL vs1 tg1 test1 elt es acc) (wipeS s3 vs1)) (srcP fun acc' s4 => Inv (k + 0 + 1) (wipeS s4 vs) acc') := z
          refine Wp.mono z fun o z => ?_
          cases o with
          | exc x s4 => exact z
          | val acc' s4 => exact nxt _ _ z
end L4
/-! Data that repr can show: depth at most d, at most k parts and letters. -/
namespace L4
open PySem PySem.Spec PyProof.Rows L2 L3
def ShowOk (d k : Nat) (p : PV) : Prop := p.plain = true ∧ p.deep ≤ d ∧ p.pd.showable = true ∧ p.pd.leavesShort 40 = true ∧ p.pd.bulk ≤ k
def ShowOkA (d k : Nat) (ps : List PV) : Prop := plainA ps = true ∧ deepA ps ≤ d ∧ PyData.showableAll (pdA ps) = true ∧ PyData.leavesShortAll 40 (pdA ps) = true ∧ PyData.bulkAll (pdA ps) ≤ k
theorem ShowOk.mono {d k d' k' : Nat} {p : PV} (h : ShowOk d k p) (hd : d ≤ d') (hk : k ≤ k') : ShowOk d' k' p := ⟨h.1, Nat.le_trans h.2.1 hd, h.2.2.1, h.2.2.2.1, Nat.le_trans h.2.2.2.2 hk⟩
theorem ShowOk.int {d k : Nat} {i : Int} (h : i.natAbs < 10 ^ 39) : ShowOk d k (.int i) := by
  refine ⟨rfl, Nat.zero_le _, ?_, ?_, Nat.zero_le _⟩
  · show decide (i.natAbs.log2 < 1920) = true
    rw [decide_eq_true_eq]
    by_cases h0 : i.natAbs = 0
    · rw [h0]; decide
    · exact Nat.lt_trans ((Nat.log2_lt h0).mpr (Nat.lt_of_lt_of_le h (show 10 ^ 39 ≤ 2 ^ 130 by decide))) (by decide)
  · show decide ((PyData.shown (.int i)).length ≤ 40) = true
    rw [decide_eq_true_eq]
    have e := PySem.int_text_length_le10 (k := 39) (by decide) h
    show (Str.ofString (toString i)).length ≤ 40
    rw [PySem.ofString_length]
    exact e
theorem ShowOk.non {d k : Nat} : ShowOk d k .non := ⟨rfl, Nat.zero_le _, rfl, rfl, Nat.zero_le _⟩
theorem ShowOk.bl {d k : Nat} {b : Bool} : ShowOk d k (.bl b) := ⟨rfl, Nat.zero_le _, rfl, rfl, Nat.zero_le _⟩
theorem ShowOkA.nil {d k : Nat} : ShowOkA d k [] := ⟨rfl, Nat.zero_le _, rfl, rfl, Nat.zero_le _⟩
theorem ShowOkA.cons {d k j : Nat} {p : PV} {ps : List PV} (h : ShowOk d k p) (t : ShowOkA d j ps) : ShowOkA d (k + 1 + j) (p :: ps) := by
  refine ⟨?_, ?_, ?_, ?_, ?_⟩
  · show (p.plain && plainA ps) = true
    rw [h.1, t.1]; rfl
  · show max p.deep (deepA ps) ≤ d
    exact Nat.max_le.mpr ⟨h.2.1, t.2.1⟩
  · show (PyData.showable p.pd && PyData.showableAll (pdA ps)) = true
    rw [h.2.2.1, t.2.2.1]; rfl
  · show (PyData.leavesShort 40 p.pd && PyData.leavesShortAll 40 (pdA ps)) = true
    rw [h.2.2.2.1, t.2.2.2.1]; rfl
  · show PyData.bulk p.pd + 1 + PyData.bulkAll (pdA ps) ≤ _
    have := h.2.2.2.2
    have := t.2.2.2.2
    omega
theorem ShowOkA.mono {d k d' k' : Nat} {p : List PV} (h : ShowOkA d k p) (hd : d ≤ d') (hk : k ≤ k') : ShowOkA d' k' p := ⟨h.1, Nat.le_trans h.2.1 hd, h.2.2.1, h.2.2.2.1, Nat.le_trans h.2.2.2.2 hk⟩
theorem ShowOkA.all {d k : Nat} : ∀ {ps : List PV}, (∀ p ∈ ps, ShowOk d k p) → ShowOkA d (ps.length * (k + 1)) ps
  | [], _ => .nil
  | p :: ps, h => by
    have t := ShowOkA.all (ps := ps) fun q hq => h q (List.mem_cons_of_mem _ hq)
    refine (ShowOkA.cons (h p List.mem_cons_self) t).mono (Nat.le_refl _) ?_
    rw [List.length_cons, Nat.succ_mul]
    omega
theorem ShowOkA.lst {d k : Nat} {ps : List PV} (h : ShowOkA d k ps) : ShowOk (d + 1) k (.lst ps) := ⟨h.1, Nat.succ_le_succ h.2.1, h.2.2.1, h.2.2.2.1, h.2.2.2.2⟩
theorem ShowOkA.tup {d k : Nat} {ps : List PV} (h : ShowOkA d k ps) : ShowOk (d + 1) k (.tup ps) := ⟨h.1, Nat.succ_le_succ h.2.1, h.2.2.1, h.2.2.2.1, h.2.2.2.2⟩
theorem ShowOk.repr {d k : Nat} {p : PV} (h : ShowOk d k p) (hd : d ≤ 64) (hk : k ≤ 300000) : reprOk p := by
  refine ⟨h.1, Nat.le_trans h.2.1 hd, h.2.2.1, ?_⟩
  have := PyData.shown_le_bulk 40 (by decide) p.pd h.2.2.2.1
  have := h.2.2.2.2
  omega
theorem ShowOk.okD {d k : Nat} {p : PV} (h : ShowOk d k p) (hd : d ≤ 64) : okD p := ⟨h.1, Nat.le_trans h.2.1 hd⟩
end L4
/-! Comprehensions that are a filter and a map. -/
namespace L4
open PySem PySem.Spec PyProof.Rows L2 L3
theorem wp_lcL_fm {α : Type} {vs : List Nat} {tg : Fv → M Unit} {test : M Bool} {elt : M Fv} {E : Out (List PV) → Prop} (f g : α → PV) (p : α → Bool) (S : S4) : ∀ (is : List α) (acc : List PV), acc.length + is.length ≤ 16777216 →
    (∀ i ∈ is, ∀ (J : S4 → PV → Prop) (N : S4 → Prop), (if p i = true then J S (g i) else N S) → Wp (bindO (tg (.fz (f i)) S) fun _ => test) (tstP (fun s2 => Wp (elt s2) (eltP (fun s => wipeS s vs) J)) fun s2 => N (wipeS s2 vs))) →
    E (.val (acc ++ (is.filter p).map g) S) → Wp (noX (lcL vs tg test elt (is.map f) acc) S) E
  | [], acc, _, _, h => wp_lcL_nil (by simpa using h)
  | i :: is, acc, l, hs, h => by
    rw [List.length_cons] at l
    rw [List.map_cons]
    refine wp_lcL_cons (by omega) (hs i List.mem_cons_self (fun s3 e => Wp (noX (lcL vs tg test elt (is.map f) (acc ++ [e])) s3) E) (fun s3 => Wp (noX (lcL vs tg test elt (is.map f) acc) s3) E) ?_)
    rw [List.filter_cons] at h
    split
    · rename_i hp
      rw [if_pos hp, List.map_cons] at h
      refine wp_lcL_fm f g p S is (acc ++ [g i]) (by rw [List.length_append, List.length_singleton]; omega) (fun j hj => hs j (List.mem_cons_of_mem _ hj)) ?_
      rw [List.append_assoc]
      exact h
    · rename_i hp
      rw [if_neg hp] at h
      exact wp_lcL_fm f g p S is acc (by omega) (fun j hj => hs j (List.mem_cons_of_mem _ hj)) h
theorem wp_lcL_map {α : Type} {vs : List Nat} {tg : Fv → M Unit} {test : M Bool} {elt : M Fv} {E : Out (List PV) → Prop} (f g : α → PV) (S : S4) (is : List α) (acc : List PV) (l : acc.length + is.length ≤ 16777216)
    (hs : ∀ i ∈ is, ∀ (J : S4 → PV → Prop) (N : S4 → Prop), J S (g i) → Wp (bindO (tg (.fz (f i)) S) fun _ => test) (tstP (fun s2 => Wp (elt s2) (eltP (fun s => wipeS s vs) J)) fun s2 => N (wipeS s2 vs)))
    (h : E (.val (acc ++ is.map g) S)) : Wp (noX (lcL vs tg test elt (is.map f) acc) S) E := by
  refine wp_lcL_fm f g (fun _ => true) S is acc l (fun i hi J N h => hs i hi J N (by simpa using h)) ?_
  rw [show is.filter (fun _ => true) = is from List.filter_eq_self.mpr (by simp)]
  exact h
def intN (i : Nat) : PV := .int i
theorem rgD_0 {n : Nat} : rgD 0 (n : Int) = (List.range n).map intN := by
  unfold rgD
  rw [show ((n : Int) - 0).toNat = n by omega]
  refine List.map_congr_left fun i _ => ?_
  rw [Int.zero_add]
  rfl
theorem rgD_a {a n : Nat} : rgD (a : Int) (n : Int) = (List.range' a (n - a)).map intN := by
  unfold rgD
  rw [show ((n : Int) - a).toNat = n - a by omega, List.range'_eq_map_range, List.map_map]
  refine List.map_congr_left fun i _ => ?_
  show PV.int _ = PV.int ((a + i : Nat) : Int)
  rw [Int.natCast_add]
theorem rgD_1 {n : Nat} : rgD 1 (n : Int) = (List.range' 1 (n - 1)).map intN := rgD_a (a := 1)
theorem rgD_2 {n : Nat} : rgD 2 (n : Int) = (List.range' 2 (n - 2)).map intN := rgD_a (a := 2)
end L4
/-! The text that repr gives can be laid. -/
namespace L4
open PySem PySem.Spec PyProof.Rows L2 L3
theorem strOk_app {a b : Str} (ha : PyData.strOk a = true) (hb : PyData.strOk b = true) : PyData.strOk (a ++ b) = true := by
  unfold PyData.strOk at *
  rw [show (a ++ b).cps = a.cps ++ b.cps from rfl, Array.all_append, ha, hb]
  rfl
theorem strOk_ofString (s : String) : PyData.strOk (Str.ofString s) = true := by
  unfold PyData.strOk
  rw [Str.ofString_eq_toList]
  rw [Array.all_eq_true_iff_forall_mem]
  intro x hx
  simp only [List.mem_toArray, List.mem_map] at hx
  obtain ⟨c, _, rfl⟩ := hx
  rw [decide_eq_true_eq]
  have := c.valid
  show c.val.toNat < 0x110000
  rcases this with h | h
  · exact Nat.lt_trans h (by decide)
  · exact h.2
theorem strOk_join {sep : Str} (hs : PyData.strOk sep = true) : ∀ {ts : List Str}, (∀ t ∈ ts, PyData.strOk t = true) → PyData.strOk (Str.join sep ts) = true
  | [], _ => by
    show PyData.strOk "" = true
    decide +kernel
  | [t], h => h t (by simp)
  | t :: u :: r, h => by
    show PyData.strOk (t ++ sep ++ Str.join sep (u :: r)) = true
    exact strOk_app (strOk_app (h t (by simp)) hs) (strOk_join hs fun x hx => h x (List.mem_cons_of_mem _ hx))
mutual
/-- the texts in it are shown by what can be laid -/
def strsB : PV → Bool
  | .str s => PyData.strOk (PyData.shown (.str s))
  | .tup xs => strsA xs
  | .lst xs => strsA xs
  | _ => true
def strsA : List PV → Bool
  | [] => true
  | x :: xs => strsB x && strsA xs
end
mutual
theorem shown_strOk : ∀ d : PV, strsB d = true → PyData.strOk d.pd.shown = true
  | .non, _ => by decide +kernel
  | .bl true, _ => by decide +kernel
  | .bl false, _ => by decide +kernel
  | .int i, _ => by
    show PyData.strOk (PyData.shown (.int i)) = true
    rw [PyData.shown]
    exact strOk_ofString _
  | .str s, h => h
  | .tup xs, h => by
    show PyData.strOk (PyData.shown (.tuple (pdA xs))) = true
    rw [PyData.shown_tuple]
    refine strOk_app (strOk_app (by decide +kernel) (strOk_join (by decide +kernel) (shown_strOkA xs h))) ?_
    exact strOk_ofString _
  | .lst xs, h => by
    show PyData.strOk (PyData.shown (.list (pdA xs))) = true
    rw [PyData.shown_list]
    exact strOk_app (strOk_app (by decide +kernel) (strOk_join (by decide +kernel) (shown_strOkA xs h))) (by decide +kernel)
  | .ins _ _, _ => (by decide +kernel : PyData.strOk (PyData.shown .none) = true)
  | .dK _ _, _ => (by decide +kernel : PyData.strOk (PyData.shown (.dict [])) = true)
  | .dT _ _, _ => (by decide +kernel : PyData.strOk (PyData.shown (.dict [])) = true)
  | .hand, _ => by decide +kernel
  | .ty _, _ => (by decide +kernel : PyData.strOk (PyData.shown .none) = true)
  | .cls _, _ => (by decide +kernel : PyData.strOk (PyData.shown .none) = true)
theorem shown_strOkA : ∀ ds : List PV, strsA ds = true → ∀ t ∈ PyData.shownAll (pdA ds), PyData.strOk t = true
  | [], _, t, h => by cases h
  | d :: ds, h, t, ht => by
    have h' := Bool.and_eq_true_iff.mp (show (strsB d && strsA ds) = true from h)
    have ht : t ∈ d.pd.shown :: PyData.shownAll (pdA ds) := ht
    rcases List.mem_cons.mp ht with rfl | z
    · exact shown_strOk d h'.1
    · exact shown_strOkA ds h'.2 t z
end
theorem strsA_all {ds : List PV} (h : ∀ d ∈ ds, strsB d = true) : strsA ds = true := by
  induction ds with
  | nil => rfl
  | cons d ds ih =>
    show (strsB d && strsA ds) = true
    rw [h d List.mem_cons_self, ih fun x hx => h x (List.mem_cons_of_mem _ hx)]
    rfl
/-- the text of what repr shows, compared -/
theorem okShown {d : PV} (h : strsB d = true) : okD (.str d.pd.shown) := ⟨shown_strOk d h, Nat.le_of_ble_eq_true rfl⟩
end L4
namespace LW
open PySem PySem.Spec PyProof.Rows L2 L3 L4
def topS (i : Nat) : Stmt := PySem.Challenge.pw_spentframes_k04_refused_orders.main.body.getD i (.Pass ⟨0, 0, 0, 0⟩)
abbrev s_BadOrder_init : Stmt := inClass (topS 3) 0
theorem sc_BadOrder_init : FnScope ["self", "what", "at"] ["self", "what", "at"] (defScope s_BadOrder_init) := ⟨rfl, rfl, rfl, by decide +kernel, rfl, by decide +kernel, by decide +kernel⟩
abbrev s_BadMake_init : Stmt := inClass (topS 4) 0
theorem sc_BadMake_init : FnScope ["self", "what", "at"] ["self", "what", "at"] (defScope s_BadMake_init) := ⟨rfl, rfl, rfl, by decide +kernel, rfl, by decide +kernel, by decide +kernel⟩
abbrev s_BadData_init : Stmt := inClass (topS 5) 0
theorem sc_BadData_init : FnScope ["self", "path"] ["self", "path"] (defScope s_BadData_init) := ⟨rfl, rfl, rfl, by decide +kernel, rfl, by decide +kernel, by decide +kernel⟩
abbrev s_Order_init : Stmt := inClass (topS 16) 0
theorem sc_Order_init : FnScope ["self", "n", "pairs", "masks", "state", "cover"] ["self", "n", "pairs"] (defScope s_Order_init) := ⟨rfl, rfl, rfl, by decide +kernel, rfl, by decide +kernel, by decide +kernel⟩
abbrev s_is_whole : Stmt := topS 7
theorem sc_is_whole : FnScope ["thing", "low", "high"] ["thing", "low", "high"] (defScope s_is_whole) := ⟨rfl, rfl, rfl, by decide +kernel, rfl, by decide +kernel, by decide +kernel⟩
abbrev s_is_sequence : Stmt := topS 8
theorem sc_is_sequence : FnScope ["thing"] ["thing"] (defScope s_is_sequence) := ⟨rfl, rfl, rfl, by decide +kernel, rfl, by decide +kernel, by decide +kernel⟩
abbrev s_closed_masks : Stmt := topS 12
theorem sc_closed_masks : FnScope ["n", "pairs", "masks", "at", "pair", "middle", "lower"] ["n", "pairs"] (defScope s_closed_masks) := ⟨rfl, rfl, rfl, by decide +kernel, rfl, by decide +kernel, by decide +kernel⟩
abbrev s_check_masks : Stmt := topS 13
theorem sc_check_masks : FnScope ["n", "masks", "state"] ["n", "masks"] (defScope s_check_masks) := ⟨rfl, rfl, rfl, by decide +kernel, rfl, by decide +kernel, by decide +kernel⟩
abbrev s_states_of_mask : Stmt := topS 14
theorem sc_states_of_mask : FnScope ["n", "mask", "state"] ["n", "mask"] (defScope s_states_of_mask) := ⟨rfl, rfl, rfl, by decide +kernel, rfl, by decide +kernel, by decide +kernel⟩
abbrev s_covers_of_masks : Stmt := topS 15
theorem sc_covers_of_masks : FnScope ["n", "masks", "state", "higher", "middle"] ["n", "masks", "state"] (defScope s_covers_of_masks) := ⟨rfl, rfl, rfl, by decide +kernel, rfl, by decide +kernel, by decide +kernel⟩
abbrev s_law_mix : Stmt := topS 18
theorem sc_law_mix : FnScope ["_law_number", "_law_turn", "_law_once", "_law_twice"] ["_law_number", "_law_turn"] (defScope s_law_mix) := ⟨rfl, rfl, rfl, by decide +kernel, rfl, by decide +kernel, by decide +kernel⟩
abbrev s_law_draw : Stmt := topS 19
theorem sc_law_draw : FnScope ["_law_hand_here", "_law_many", "_law_cell", "_law_rest"] ["_law_hand_here", "_law_many"] (defScope s_law_draw) := ⟨rfl, rfl, rfl, by decide +kernel, rfl, by decide +kernel, by decide +kernel⟩
abbrev s_law_shuffled : Stmt := topS 20
theorem sc_law_shuffled : FnScope ["_law_hand_here", "_law_row", "_law_left", "_law_told_here", "_law_turn"] ["_law_hand_here", "_law_row"] (defScope s_law_shuffled) := ⟨rfl, rfl, rfl, by decide +kernel, rfl, by decide +kernel, by decide +kernel⟩
abbrev s_law_closed : Stmt := topS 21
theorem sc_law_closed : FnScope ["_law_n", "_law_pairs", "_law_below", "_law_mid", "_law_x", "_law_y"] ["_law_n", "_law_pairs"] (defScope s_law_closed) := ⟨rfl, rfl, rfl, by decide +kernel, rfl, by decide +kernel, by decide +kernel⟩
abbrev s_law_order : Stmt := topS 22
theorem sc_law_order : FnScope ["_law_hand_here", "_law_most", "_law_n", "_law_way", "_law_names", "_law_pairs", "_law_y", "_law_x"] ["_law_hand_here", "_law_most"] (defScope s_law_order) := ⟨rfl, rfl, rfl, by decide +kernel, rfl, by decide +kernel, by decide +kernel⟩
abbrev s_law_exact : Stmt := topS 23
theorem sc_law_exact : FnScope ["_law_told_here", "_law_due_here", "_law_k"] ["_law_told_here", "_law_due_here"] (defScope s_law_exact) := ⟨rfl, rfl, rfl, by decide +kernel, rfl, by decide +kernel, by decide +kernel⟩
abbrev s_law_hand : Stmt := topS 24
theorem sc_law_hand : FnScope ["_law_script", "_law_total", "_law_k", "_law_cell"] ["_law_script"] (defScope s_law_hand) := ⟨rfl, rfl, rfl, by decide +kernel, rfl, by decide +kernel, by decide +kernel⟩
abbrev s_law_seq : Stmt := topS 25
theorem sc_law_seq : FnScope ["_law_hand_here", "_law_row"] ["_law_hand_here", "_law_row"] (defScope s_law_seq) := ⟨rfl, rfl, rfl, by decide +kernel, rfl, by decide +kernel, by decide +kernel⟩
abbrev s_law_strict : Stmt := topS 26
theorem sc_law_strict : FnScope ["_law_n", "_law_pairs", "_law_known", "_law_pair", "_law_under", "_law_mid", "_law_x", "_law_y"] ["_law_n", "_law_pairs"] (defScope s_law_strict) := ⟨rfl, rfl, rfl, by decide +kernel, rfl, by decide +kernel, by decide +kernel⟩
abbrev s_law_state : Stmt := topS 27
theorem sc_law_state : FnScope ["_law_n", "_law_x"] ["_law_n", "_law_x"] (defScope s_law_state) := ⟨rfl, rfl, rfl, by decide +kernel, rfl, by decide +kernel, by decide +kernel⟩
abbrev s_law_due : Stmt := topS 28
theorem sc_law_due : FnScope ["_law_n", "_law_pairs", "_law_at", "_law_under", "_law_x", "_law_pair"] ["_law_n", "_law_pairs"] (defScope s_law_due) := ⟨rfl, rfl, rfl, by decide +kernel, rfl, by decide +kernel, by decide +kernel⟩
abbrev s_law_told : Stmt := topS 29
theorem sc_law_told : FnScope ["_law_n", "_law_pairs", "_law_order_here", "raised"] ["_law_n", "_law_pairs"] (defScope s_law_told) := ⟨rfl, rfl, rfl, by decide +kernel, rfl, by decide +kernel, by decide +kernel⟩
abbrev s_law_spoilt : Stmt := topS 30
theorem sc_law_spoilt : FnScope ["_law_hand_here", "_law_n", "_law_pairs", "_law_way", "_law_at", "_law_odd", "_law_pair"] ["_law_hand_here", "_law_n", "_law_pairs"] (defScope s_law_spoilt) := ⟨rfl, rfl, rfl, by decide +kernel, rfl, by decide +kernel, by decide +kernel⟩
abbrev s_law_case : Stmt := topS 31
theorem sc_law_case : FnScope ["_law_hand_here", "_law_n", "_law_pairs", "_law_below", "_law_turn", "_law_way", "_law_pair"] ["_law_hand_here"] (defScope s_law_case) := ⟨rfl, rfl, rfl, by decide +kernel, rfl, by decide +kernel, by decide +kernel⟩
abbrev s_law_wholes : Stmt := topS 32
theorem sc_law_wholes : FnScope ["_law_hand_here", "_law_low", "_law_high", "_law_thing", "_law_plain", "_law_told_here"] ["_law_hand_here"] (defScope s_law_wholes) := ⟨rfl, rfl, rfl, by decide +kernel, rfl, by decide +kernel, by decide +kernel⟩
abbrev s_law : Stmt := topS 33
theorem sc_law : FnScope ["_law_script", "_law_hand_here", "_law_turn", "_law_n", "_law_pairs", "_law_passed", "_law_before", "_law_full"] ["_law_script"] (defScope s_law) := ⟨rfl, rfl, rfl, by decide +kernel, rfl, by decide +kernel, by decide +kernel⟩
/-- where the defs and classes stand -/
structure Adr where
  c_FrameError : Addr
  c_BadOrder : Addr
  c_BadMake : Addr
  c_BadData : Addr
  c_Order : Addr
  f_BadOrder_init : Addr
  d_BadOrder_init : FuncData
  f_BadMake_init : Addr
  d_BadMake_init : FuncData
  f_BadData_init : Addr
  d_BadData_init : FuncData
  f_Order_init : Addr
  d_Order_init : FuncData
  f_is_whole : Addr
  d_is_whole : FuncData
  f_is_sequence : Addr
  d_is_sequence : FuncData
  f_closed_masks : Addr
  d_closed_masks : FuncData
  f_check_masks : Addr
  d_check_masks : FuncData
  f_states_of_mask : Addr
  d_states_of_mask : FuncData
  f_covers_of_masks : Addr
  d_covers_of_masks : FuncData
  f_law_mix : Addr
  d_law_mix : FuncData
  f_law_draw : Addr
  d_law_draw : FuncData
  f_law_shuffled : Addr
  d_law_shuffled : FuncData
  f_law_closed : Addr
  d_law_closed : FuncData
  f_law_order : Addr
  d_law_order : FuncData
  f_law_exact : Addr
  d_law_exact : FuncData
  f_law_hand : Addr
  d_law_hand : FuncData
  f_law_seq : Addr
  d_law_seq : FuncData
  f_law_strict : Addr
  d_law_strict : FuncData
  f_law_state : Addr
  d_law_state : FuncData
  f_law_due : Addr
  d_law_due : FuncData
  f_law_told : Addr
  d_law_told : FuncData
  f_law_spoilt : Addr
  d_law_spoilt : FuncData
  f_law_case : Addr
  d_law_case : FuncData
  f_law_wholes : Addr
  d_law_wholes : FuncData
  f_law : Addr
  d_law : FuncData
/-- what the top has written -/
structure Top (K : PySem.W.Frag) (mg : Str → Option Value) (a : Adr) : Prop where
  gc_FrameError : mg "FrameError" = some (.ref a.c_FrameError)
  x_FrameError : OexC K a.c_FrameError
  xf_FrameError : XfC K a.c_FrameError
  xc_FrameError : ExcC K a.c_FrameError
  gc_BadOrder : mg "BadOrder" = some (.ref a.c_BadOrder)
  x_BadOrder : OexC K a.c_BadOrder
  xf_BadOrder : XfC K a.c_BadOrder
  xc_BadOrder : ExcC K a.c_BadOrder
  gc_BadMake : mg "BadMake" = some (.ref a.c_BadMake)
  x_BadMake : OexC K a.c_BadMake
  xf_BadMake : XfC K a.c_BadMake
  xc_BadMake : ExcC K a.c_BadMake
  gc_BadData : mg "BadData" = some (.ref a.c_BadData)
  x_BadData : OexC K a.c_BadData
  xf_BadData : XfC K a.c_BadData
  xc_BadData : ExcC K a.c_BadData
  gc_Order : mg "Order" = some (.ref a.c_Order)
  cl_Order : Cls K a.c_Order
  na_Order_n : NoAttr K a.c_Order "n"
  na_Order_masks : NoAttr K a.c_Order "masks"
  na_Order_cover_rows : NoAttr K a.c_Order "cover_rows"
  na_Order_edges : NoAttr K a.c_Order "edges"
  mk_Order : Mk K a.c_Order a.f_Order_init
  ex_FrameError_FrameError : PySem.W.exmOne K (.ref a.c_FrameError) (.ref a.c_FrameError) = some true
  ki_FrameError_FrameError : PySem.W.kitOne K (.ref a.c_FrameError) (.ref a.c_FrameError) = some true
  ex_FrameError_BadOrder : PySem.W.exmOne K (.ref a.c_FrameError) (.ref a.c_BadOrder) = some false
  ki_FrameError_BadOrder : PySem.W.kitOne K (.ref a.c_FrameError) (.ref a.c_BadOrder) = some false
  ex_FrameError_BadMake : PySem.W.exmOne K (.ref a.c_FrameError) (.ref a.c_BadMake) = some false
  ki_FrameError_BadMake : PySem.W.kitOne K (.ref a.c_FrameError) (.ref a.c_BadMake) = some false
  ex_FrameError_BadData : PySem.W.exmOne K (.ref a.c_FrameError) (.ref a.c_BadData) = some false
  ki_FrameError_BadData : PySem.W.kitOne K (.ref a.c_FrameError) (.ref a.c_BadData) = some false
  ex_BadOrder_FrameError : PySem.W.exmOne K (.ref a.c_BadOrder) (.ref a.c_FrameError) = some true
  ki_BadOrder_FrameError : PySem.W.kitOne K (.ref a.c_BadOrder) (.ref a.c_FrameError) = some true
  ex_BadOrder_BadOrder : PySem.W.exmOne K (.ref a.c_BadOrder) (.ref a.c_BadOrder) = some true
  ki_BadOrder_BadOrder : PySem.W.kitOne K (.ref a.c_BadOrder) (.ref a.c_BadOrder) = some true
  ex_BadOrder_BadMake : PySem.W.exmOne K (.ref a.c_BadOrder) (.ref a.c_BadMake) = some false
  ki_BadOrder_BadMake : PySem.W.kitOne K (.ref a.c_BadOrder) (.ref a.c_BadMake) = some false
  ex_BadOrder_BadData : PySem.W.exmOne K (.ref a.c_BadOrder) (.ref a.c_BadData) = some false
  ki_BadOrder_BadData : PySem.W.kitOne K (.ref a.c_BadOrder) (.ref a.c_BadData) = some false
  no_BadOrder_what : PySem.W.findIn K (.ref a.c_BadOrder) "what" = some none
  no_BadOrder_at : PySem.W.findIn K (.ref a.c_BadOrder) "at" = some none
  in_BadOrder : PySem.W.findIn K (.ref a.c_BadOrder) "__init__" = some (some (.ref a.f_BadOrder_init))
  ti_BadOrder : PySem.W.typeIn K (.ref a.f_BadOrder_init) = some (.type "function")
  ex_BadMake_FrameError : PySem.W.exmOne K (.ref a.c_BadMake) (.ref a.c_FrameError) = some true
  ki_BadMake_FrameError : PySem.W.kitOne K (.ref a.c_BadMake) (.ref a.c_FrameError) = some true
  ex_BadMake_BadOrder : PySem.W.exmOne K (.ref a.c_BadMake) (.ref a.c_BadOrder) = some false
  ki_BadMake_BadOrder : PySem.W.kitOne K (.ref a.c_BadMake) (.ref a.c_BadOrder) = some false
  ex_BadMake_BadMake : PySem.W.exmOne K (.ref a.c_BadMake) (.ref a.c_BadMake) = some true
  ki_BadMake_BadMake : PySem.W.kitOne K (.ref a.c_BadMake) (.ref a.c_BadMake) = some true
  ex_BadMake_BadData : PySem.W.exmOne K (.ref a.c_BadMake) (.ref a.c_BadData) = some false
  ki_BadMake_BadData : PySem.W.kitOne K (.ref a.c_BadMake) (.ref a.c_BadData) = some false
  no_BadMake_what : PySem.W.findIn K (.ref a.c_BadMake) "what" = some none
  no_BadMake_at : PySem.W.findIn K (.ref a.c_BadMake) "at" = some none
  in_BadMake : PySem.W.findIn K (.ref a.c_BadMake) "__init__" = some (some (.ref a.f_BadMake_init))
  ti_BadMake : PySem.W.typeIn K (.ref a.f_BadMake_init) = some (.type "function")
  ex_BadData_FrameError : PySem.W.exmOne K (.ref a.c_BadData) (.ref a.c_FrameError) = some true
  ki_BadData_FrameError : PySem.W.kitOne K (.ref a.c_BadData) (.ref a.c_FrameError) = some true
  ex_BadData_BadOrder : PySem.W.exmOne K (.ref a.c_BadData) (.ref a.c_BadOrder) = some false
  ki_BadData_BadOrder : PySem.W.kitOne K (.ref a.c_BadData) (.ref a.c_BadOrder) = some false
  ex_BadData_BadMake : PySem.W.exmOne K (.ref a.c_BadData) (.ref a.c_BadMake) = some false
  ki_BadData_BadMake : PySem.W.kitOne K (.ref a.c_BadData) (.ref a.c_BadMake) = some false
  ex_BadData_BadData : PySem.W.exmOne K (.ref a.c_BadData) (.ref a.c_BadData) = some true
  ki_BadData_BadData : PySem.W.kitOne K (.ref a.c_BadData) (.ref a.c_BadData) = some true
  no_BadData_path : PySem.W.findIn K (.ref a.c_BadData) "path" = some none
  in_BadData : PySem.W.findIn K (.ref a.c_BadData) "__init__" = some (some (.ref a.f_BadData_init))
  ti_BadData : PySem.W.typeIn K (.ref a.f_BadData_init) = some (.type "function")
  ki_FrameError_ValueError : PySem.W.kitOne K (.ref a.c_FrameError) (.type "ValueError") = some true
  ki_BadOrder_ValueError : PySem.W.kitOne K (.ref a.c_BadOrder) (.type "ValueError") = some true
  ki_BadMake_ValueError : PySem.W.kitOne K (.ref a.c_BadMake) (.type "ValueError") = some true
  ki_BadData_ValueError : PySem.W.kitOne K (.ref a.c_BadData) (.type "ValueError") = some true
  st_FrameError : PySem.W.subIn K (.ref a.c_FrameError) (.type "StopIteration") = some false
  st_BadOrder : PySem.W.subIn K (.ref a.c_BadOrder) (.type "StopIteration") = some false
  st_BadMake : PySem.W.subIn K (.ref a.c_BadMake) (.type "StopIteration") = some false
  st_BadData : PySem.W.subIn K (.ref a.c_BadData) (.type "StopIteration") = some false
  F_BadOrder_init : Fun K "__init__" "BadOrder.__init__" s_BadOrder_init a.f_BadOrder_init a.d_BadOrder_init
  b_BadOrder_init : Binds K a.d_BadOrder_init ["self", "what", "at"] []
  F_BadMake_init : Fun K "__init__" "BadMake.__init__" s_BadMake_init a.f_BadMake_init a.d_BadMake_init
  b_BadMake_init : Binds K a.d_BadMake_init ["self", "what", "at"] []
  F_BadData_init : Fun K "__init__" "BadData.__init__" s_BadData_init a.f_BadData_init a.d_BadData_init
  b_BadData_init : Binds K a.d_BadData_init ["self", "path"] []
  F_Order_init : Fun K "__init__" "Order.__init__" s_Order_init a.f_Order_init a.d_Order_init
  b_Order_init : Binds K a.d_Order_init ["self", "n", "pairs"] []
  g_is_whole : mg "is_whole" = some (.ref a.f_is_whole)
  F_is_whole : FunD K "is_whole" "is_whole" (defArgs s_is_whole) (defBody s_is_whole) (defScope s_is_whole) [.non, .non] [] a.f_is_whole a.d_is_whole
  g_is_sequence : mg "is_sequence" = some (.ref a.f_is_sequence)
  F_is_sequence : Fun K "is_sequence" "is_sequence" s_is_sequence a.f_is_sequence a.d_is_sequence
  b_is_sequence : Binds K a.d_is_sequence ["thing"] []
  g_closed_masks : mg "closed_masks" = some (.ref a.f_closed_masks)
  F_closed_masks : Fun K "closed_masks" "closed_masks" s_closed_masks a.f_closed_masks a.d_closed_masks
  b_closed_masks : Binds K a.d_closed_masks ["n", "pairs"] []
  g_check_masks : mg "check_masks" = some (.ref a.f_check_masks)
  F_check_masks : Fun K "check_masks" "check_masks" s_check_masks a.f_check_masks a.d_check_masks
  b_check_masks : Binds K a.d_check_masks ["n", "masks"] []
  g_states_of_mask : mg "states_of_mask" = some (.ref a.f_states_of_mask)
  F_states_of_mask : Fun K "states_of_mask" "states_of_mask" s_states_of_mask a.f_states_of_mask a.d_states_of_mask
  b_states_of_mask : Binds K a.d_states_of_mask ["n", "mask"] []
  g_covers_of_masks : mg "covers_of_masks" = some (.ref a.f_covers_of_masks)
  F_covers_of_masks : Fun K "covers_of_masks" "covers_of_masks" s_covers_of_masks a.f_covers_of_masks a.d_covers_of_masks
  b_covers_of_masks : Binds K a.d_covers_of_masks ["n", "masks", "state"] []
  g_law_mix : mg "_law_mix" = some (.ref a.f_law_mix)
  F_law_mix : Fun K "_law_mix" "_law_mix" s_law_mix a.f_law_mix a.d_law_mix
  b_law_mix : Binds K a.d_law_mix ["_law_number", "_law_turn"] []
  g_law_draw : mg "_law_draw" = some (.ref a.f_law_draw)
  F_law_draw : Fun K "_law_draw" "_law_draw" s_law_draw a.f_law_draw a.d_law_draw
  b_law_draw : Binds K a.d_law_draw ["_law_hand_here", "_law_many"] []
  g_law_shuffled : mg "_law_shuffled" = some (.ref a.f_law_shuffled)
  F_law_shuffled : Fun K "_law_shuffled" "_law_shuffled" s_law_shuffled a.f_law_shuffled a.d_law_shuffled
  b_law_shuffled : Binds K a.d_law_shuffled ["_law_hand_here", "_law_row"] []
  g_law_closed : mg "_law_closed" = some (.ref a.f_law_closed)
  F_law_closed : Fun K "_law_closed" "_law_closed" s_law_closed a.f_law_closed a.d_law_closed
  b_law_closed : Binds K a.d_law_closed ["_law_n", "_law_pairs"] []
  g_law_order : mg "_law_order" = some (.ref a.f_law_order)
  F_law_order : Fun K "_law_order" "_law_order" s_law_order a.f_law_order a.d_law_order
  b_law_order : Binds K a.d_law_order ["_law_hand_here", "_law_most"] []
  g_law_exact : mg "_law_exact" = some (.ref a.f_law_exact)
  F_law_exact : Fun K "_law_exact" "_law_exact" s_law_exact a.f_law_exact a.d_law_exact
  b_law_exact : Binds K a.d_law_exact ["_law_told_here", "_law_due_here"] []
  g_law_hand : mg "_law_hand" = some (.ref a.f_law_hand)
  F_law_hand : Fun K "_law_hand" "_law_hand" s_law_hand a.f_law_hand a.d_law_hand
  b_law_hand : Binds K a.d_law_hand ["_law_script"] []
  g_law_seq : mg "_law_seq" = some (.ref a.f_law_seq)
  F_law_seq : Fun K "_law_seq" "_law_seq" s_law_seq a.f_law_seq a.d_law_seq
  b_law_seq : Binds K a.d_law_seq ["_law_hand_here", "_law_row"] []
  g_law_strict : mg "_law_strict" = some (.ref a.f_law_strict)
  F_law_strict : Fun K "_law_strict" "_law_strict" s_law_strict a.f_law_strict a.d_law_strict
  b_law_strict : Binds K a.d_law_strict ["_law_n", "_law_pairs"] []
  g_law_state : mg "_law_state" = some (.ref a.f_law_state)
  F_law_state : Fun K "_law_state" "_law_state" s_law_state a.f_law_state a.d_law_state
  b_law_state : Binds K a.d_law_state ["_law_n", "_law_x"] []
  g_law_due : mg "_law_due" = some (.ref a.f_law_due)
  F_law_due : Fun K "_law_due" "_law_due" s_law_due a.f_law_due a.d_law_due
  b_law_due : Binds K a.d_law_due ["_law_n", "_law_pairs"] []
  g_law_told : mg "_law_told" = some (.ref a.f_law_told)
  F_law_told : Fun K "_law_told" "_law_told" s_law_told a.f_law_told a.d_law_told
  b_law_told : Binds K a.d_law_told ["_law_n", "_law_pairs"] []
  g_law_spoilt : mg "_law_spoilt" = some (.ref a.f_law_spoilt)
  F_law_spoilt : Fun K "_law_spoilt" "_law_spoilt" s_law_spoilt a.f_law_spoilt a.d_law_spoilt
  b_law_spoilt : Binds K a.d_law_spoilt ["_law_hand_here", "_law_n", "_law_pairs"] []
  g_law_case : mg "_law_case" = some (.ref a.f_law_case)
  F_law_case : Fun K "_law_case" "_law_case" s_law_case a.f_law_case a.d_law_case
  b_law_case : Binds K a.d_law_case ["_law_hand_here"] []
  g_law_wholes : mg "_law_wholes" = some (.ref a.f_law_wholes)
  F_law_wholes : Fun K "_law_wholes" "_law_wholes" s_law_wholes a.f_law_wholes a.d_law_wholes
  b_law_wholes : Binds K a.d_law_wholes ["_law_hand_here"] []
  g_law : mg "law" = some (.ref a.f_law)
  F_law : Fun K "law" "law" s_law a.f_law a.d_law
  b_law : Binds K a.d_law ["_law_script"] []
  n_ValueError : mg "ValueError" = none
  n_abs : mg "abs" = none
  n_bool : mg "bool" = none
  n_enumerate : mg "enumerate" = none
  n_int : mg "int" = none
  n_isinstance : mg "isinstance" = none
  n_len : mg "len" = none
  n_list : mg "list" = none
  n_range : mg "range" = none
  n_repr : mg "repr" = none
  n_str : mg "str" = none
  n_tuple : mg "tuple" = none
  m_MOST_STATES : ∃ t, mg "MOST_STATES" = some (.int 24 t)
  m_MOST_PAIRS : ∃ t, mg "MOST_PAIRS" = some (.int 600 t)
theorem bD_is_whole_1 {K : PySem.W.Frag} {mg : Str → Option Value} {a : Adr} (T : Top K mg a) : ∃ ds, Vals [.non, .non] ds ∧ Binds K a.d_is_whole ["thing", "low", "high"] ds :=
  T.F_is_whole.binds1 1 0 (by simp) rfl fun _ _ _ _ _ _ _ us its h1 h2 => match us, its, h1, h2 with | [_], [_, _], _, _ => ⟨_, rfl, rfl⟩
theorem bD_is_whole_2 {K : PySem.W.Frag} {mg : Str → Option Value} {a : Adr} (T : Top K mg a) : ∃ ds, Vals [.non] ds ∧ Binds K a.d_is_whole ["thing", "low", "high"] ds :=
  T.F_is_whole.binds1 2 1 (by simp) rfl fun _ _ _ _ _ _ _ us its h1 h2 => match us, its, h1, h2 with | [_, _], [_, _], _, _ => ⟨_, rfl, rfl⟩
theorem bD_is_whole_3 {K : PySem.W.Frag} {mg : Str → Option Value} {a : Adr} (T : Top K mg a) : ∃ ds, Vals [] ds ∧ Binds K a.d_is_whole ["thing", "low", "high"] ds :=
  T.F_is_whole.binds1 3 2 (by simp) rfl fun _ _ _ _ _ _ _ us its h1 h2 => match us, its, h1, h2 with | [_, _, _], [_, _], _, _ => ⟨_, rfl, rfl⟩
/-- the classes by number -/
def cas (a : Adr) : Nat → Addr
  | 0 => a.c_FrameError
  | 1 => a.c_BadOrder
  | 2 => a.c_BadMake
  | 3 => a.c_BadData
  | 4 => a.c_Order
  | _ => a.c_FrameError
def subRow : Nat → List Bool
  | 0 => [true, false, false, false, false]
  | 1 => [true, true, false, false, false]
  | 2 => [true, false, true, false, false]
  | 3 => [true, false, false, true, false]
  | 4 => [false, false, false, false, false]
  | _ => []
def subs (c d : Nat) : Bool := (subRow c).getD d false
section
variable {P : Program} {w : World} {K : PySem.W.Frag} {mg : Str → Option Value} {base : Heap} {a : Adr}
def fo_n : Nat → Bool
  | 4 => true
  | _ => false
theorem fk_n (T : Top K mg a) : FldOk K (cas a) "n" fo_n := by
  intro C h
  unfold fo_n at h
  split at h
  · exact ⟨T.cl_Order, T.na_Order_n⟩
  · cases h
def fo_masks : Nat → Bool
  | 4 => true
  | _ => false
theorem fk_masks (T : Top K mg a) : FldOk K (cas a) "masks" fo_masks := by
  intro C h
  unfold fo_masks at h
  split at h
  · exact ⟨T.cl_Order, T.na_Order_masks⟩
  · cases h
def fo_cover_rows : Nat → Bool
  | 4 => true
  | _ => false
theorem fk_cover_rows (T : Top K mg a) : FldOk K (cas a) "cover_rows" fo_cover_rows := by
  intro C h
  unfold fo_cover_rows at h
  split at h
  · exact ⟨T.cl_Order, T.na_Order_cover_rows⟩
  · cases h
def fo_edges : Nat → Bool
  | 4 => true
  | _ => false
theorem fk_edges (T : Top K mg a) : FldOk K (cas a) "edges" fo_edges := by
  intro C h
  unfold fo_edges at h
  split at h
  · exact ⟨T.cl_Order, T.na_Order_edges⟩
  · cases h
theorem exm_BadOrder (T : Top K mg a) : ∀ n, subs n n = true → PySem.W.exmOne K (.ref (cas a n)) (.ref (cas a 1)) = some (subs n 1)
  | 0, _ => T.ex_FrameError_BadOrder
  | 1, _ => T.ex_BadOrder_BadOrder
  | 2, _ => T.ex_BadMake_BadOrder
  | 3, _ => T.ex_BadData_BadOrder
  | 4, h => by cases h
  | _ + 5, h => by cases h
theorem ok_BadOrder_init (T : Top K mg a) : FnOk P w K mg base CX0 1 a.f_BadOrder_init a.d_BadOrder_init ["self", "what", "at"] (spIniN a.c_BadOrder ["what", "at"]) := by
  refine T.F_BadOrder_init.ok sc_BadOrder_init (fun vs H Q E h => ?_) (fun cdv A outer s H vs Q E hr h => ?_)
  · obtain ⟨e, vals, rfl, hl, _⟩ := h
    rw [List.length_cons, hl]
    rfl
  · obtain ⟨e, vals, rfl, hl, he, q⟩ := h
    obtain ⟨v0, v1, rfl⟩ : ∃ v0 v1, vals = [v0, v1] := by
      match vals, hl with
      | [v0, v1], _ => exact ⟨_, _, rfl⟩
    refine ⟨_, (pss_cons (ps_ost (pv 0) (pv 1)) (pss_one (ps_ost (pv 0) (pv 2)))), ?_⟩
    refine ⟨v0, rfl, .ref e, rfl, e, a.c_BadOrder, rfl, T.x_BadOrder, T.no_BadOrder_what, .inl ⟨he, fun d hd hda => ?_⟩⟩
    have a0 : ∀ (H0 : Hp), upd (upd H0 d (exd d [("what", v0)])) e (exo e a.c_BadOrder (some d)) e = some (exo e a.c_BadOrder (some d)) := fun _ => upd_same
    have ha0 : (upd (upd H d (exd d [("what", v0)])) e (exo e a.c_BadOrder (some d))) e = some (exo e a.c_BadOrder (some d)) := upd_same
    have hd0 : (upd (upd H d (exd d [("what", v0)])) e (exo e a.c_BadOrder (some d))) d = some (exd d [("what", v0)]) := by rw [upd_ne hda, upd_same]
    have hb0 : ∀ b, b ≠ e → b ≠ d → (upd (upd H d (exd d [("what", v0)])) e (exo e a.c_BadOrder (some d))) b = H b := fun b h1 h2 => by rw [upd_ne h1, upd_ne h2]
    refine ⟨v1, rfl, .ref e, rfl, e, a.c_BadOrder, rfl, T.x_BadOrder, T.no_BadOrder_at, .inr ⟨d, _, ha0, hd0, by show 1 ≤ 900; decide, ?_⟩⟩
    have ha1 : (upd (upd (upd H d (exd d [("what", v0)])) e (exo e a.c_BadOrder (some d))) d (exd d [("at", v1), ("what", v0)])) e = some (exo e a.c_BadOrder (some d)) := by rw [upd_ne hda.symm]; exact ha0
    have hd1 : (upd (upd (upd H d (exd d [("what", v0)])) e (exo e a.c_BadOrder (some d))) d (exd d [("at", v1), ("what", v0)])) d = some (exd d [("at", v1), ("what", v0)]) := upd_same
    have hb1 : ∀ b, b ≠ e → b ≠ d → (upd (upd (upd H d (exd d [("what", v0)])) e (exo e a.c_BadOrder (some d))) d (exd d [("at", v1), ("what", v0)])) b = H b := fun b h1 h2 => by rw [upd_ne h2]; exact hb0 b h1 h2
    exact q d hd hda _ ha1 hd1 hb1
end
end LW
namespace LW
open PySem PySem.Spec PyProof.Rows L2 L3
local macro_rules | `(tactic| walk_at "dp") => `(tactic| first
  | assumption
  | exact .int _
  | exact .non
  | exact .bl _
  | exact .str _
  | exact Dp.up (by assumption) (by assumption))
local macro_rules | `(tactic| walk_at "sq") => `(tactic| first
  | assumption
  | exact ofL (by assumption)
  | exact ofL upd_same
)
local macro_rules | `(tactic| walk_at "st") => `(tactic| simp only [L2.cxOf, L2.start, List.map_cons, List.map_nil, List.length_cons, List.length_nil, Nat.zero_add, Nat.reduceAdd, Nat.reduceSub, List.replicate_succ, List.replicate_zero, List.cons_append, List.nil_append, List.append_nil, List.replicate])
local macro_rules | `(tactic| walk_at "cnd") => `(tactic| first
  | (show (0 : Int) < _; first | decide | omega)
  | (show (0 : Int) < _ ∧ _; constructor <;> first | decide | omega)
  | (show (0 : Int) ≤ _; first | decide | omega)
  | (refine Or.inr ⟨?_, ?_⟩ <;> first | decide | omega)
  | (refine Or.inl ⟨?_, ?_⟩ <;> first | decide | omega)
  | (refine ⟨?_, ?_, ?_⟩ <;> first | decide | omega))
local macro_rules | `(tactic| walk_at "wp1") => `(tactic| first
  | ((with_reducible refine' w_var ?we ?_); (case we => exact rfl))
  | with_reducible refine w_c ?_
  | with_reducible refine w_op ?_
  | with_reducible refine w_cons ?_
  | with_reducible refine w_nil ?_
  | with_reducible refine w_rI0 ?_
  | ((with_reducible refine w_rI ?wc ?_); (case wc => walk_at "cnd"))
  | with_reducible refine w_un ?_
  | with_reducible refine w_rU ?_
  | with_reducible refine w_call ?_
  | with_reducible refine w_callS ?_
  | with_reducible refine w_CB ?_
  | with_reducible refine w_test ?_
  | with_reducible refine w_tB ?_
  | with_reducible refine w_bl ?_
  | with_reducible refine w_eqI ?_
  | with_reducible refine w_neI ?_
  | with_reducible refine w_isN_non ?_
  | with_reducible refine w_ntN_non ?_
  | with_reducible refine w_isN_int ?_
  | with_reducible refine w_ntN_int ?_
  | with_reducible refine w_isN_bl ?_
  | with_reducible refine w_ntN_bl ?_
  | with_reducible refine w_isN_str ?_
  | with_reducible refine w_ntN_str ?_
  | with_reducible refine w_isN_ref ?_
  | with_reducible refine w_ntN_ref ?_
  | with_reducible refine w_isN' ?_
  | with_reducible refine w_notN' ?_
  | with_reducible refine w_int1 ?_
  | with_reducible refine w_abs ?_
  | ((with_reducible refine' w_aug ?we ?_); (case we => exact rfl))
  | ((with_reducible refine w_ipI ?_); dsimp only [List.set_cons_zero, List.set_cons_succ])
  | with_reducible refine w_seq ?_
  | with_reducible refine w_asg ?_
  | ((with_reducible refine w_name ?_); dsimp only [List.set_cons_zero, List.set_cons_succ])
  | with_reducible refine w_ret ?_
  | with_reducible refine w_retN ?_
  | with_reducible refine w_next ?_
  | with_reducible refine w_drop ?_
  | with_reducible refine w_ifS ?_
  | with_reducible refine w_ifE ?_
  | with_reducible refine w_and ?_
  | with_reducible refine w_or ?_
  | with_reducible refine w_not ?_
  | with_reducible refine w_andV ?_
  | with_reducible refine w_orV ?_
  | with_reducible refine w_notV ?_
  | with_reducible refine w_then ?_
  | with_reducible refine w_tup ?_
  | with_reducible refine w_lst ?_
  | with_reducible refine w_BM ?_
  | with_reducible refine w_gsub ?_
  | with_reducible refine w_tSl ?_
  | with_reducible refine w_noPart ?_
  | with_reducible refine w_part ?_
  | with_reducible refine w_ofInt ?_
  | ((with_reducible refine' w_setL ?h1 ?h2 ?_); (case h1 => first | assumption | exact upd_same); (case h2 => exact rfl); simp only [Int.reduceToNat, List.set_cons_zero, List.set_cons_succ]; try rw [upd2])
  | ((with_reducible refine' w_ixL ?h1 ?h2 ?_); (case h1 => walk_at "sq"); (case h2 => exact rfl))
  | ((with_reducible refine' w_lenL ?h1 ?_); (case h1 => walk_at "sq"))
  | with_reducible refine w_isInt_int ?_
  | with_reducible refine w_isInt_bl ?_
  | with_reducible refine w_isInt_str ?_
  | with_reducible refine w_isInt_non ?_
  | with_reducible refine w_isBool_int ?_
  | with_reducible refine w_isBool_bl ?_
  | with_reducible refine w_isBool_str ?_
  | with_reducible refine w_isBool_non ?_
  | with_reducible refine w_isStr_int ?_
  | with_reducible refine w_isStr_bl ?_
  | with_reducible refine w_isStr_str ?_
  | with_reducible refine w_isStr_non ?_
  | with_reducible refine w_isTup_int ?_
  | with_reducible refine w_isTup_bl ?_
  | with_reducible refine w_isTup_str ?_
  | with_reducible refine w_isTup_non ?_
  | ((with_reducible refine' w_isInt ?h1 ?_); (case h1 => walk_at "dp"))
  | ((with_reducible refine' w_isBool ?h1 ?_); (case h1 => walk_at "dp"))
  | ((with_reducible refine' w_isStr ?h1 ?_); (case h1 => walk_at "dp"))
  | ((with_reducible refine' w_isTup ?h1 ?_); (case h1 => walk_at "dp"))
  | with_reducible refine iteT ?_
  | with_reducible refine iteF ?_
  | with_reducible refine w_mkO ?_
  | with_reducible refine w_lstRg ?_
  | with_reducible refine w_tupRg ?_
  | with_reducible refine w_rg1 ?_
  | with_reducible refine w_nf ?_
  | with_reducible refine w_nt ?_)
local macro_rules | `(tactic| walk_at "wp") => `(tactic| repeat walk_at "wp1")
local macro_rules | `(tactic| walk_at "wq1") => `(tactic| first
  | walk_at "wp1"
  | with_reducible refine w_callSD ?_
  | with_reducible refine w_listGS ?_
  | ((with_reducible refine' w_ifT ?hd ?_); (case hd => decide))
  | ((with_reducible refine' w_ifF ?hd ?_); (case hd => decide))
  | ((with_reducible refine' w_ifnT ?hd ?_); (case hd => decide))
  | ((with_reducible refine' w_ifnF ?hd ?_); (case hd => decide)))
local macro_rules | `(tactic| walk_at "wq") => `(tactic| repeat walk_at "wq1")
section
variable {P : Program} {w : World} {K : PySem.W.Frag} {mg : Str → Option Value} {base : Heap} {a : Adr}
/-! ### the law's hand -/
def spMix : Sp := fun vs H Q _ => ∃ n t : Int, vs = [.int n, .int t] ∧ ∀ r : Int, 0 ≤ r → Q (.int r) H
theorem ok_law_mix (T : Top K mg a) : FnOk P w K mg base CX0 1 a.f_law_mix a.d_law_mix ["_law_number", "_law_turn"] spMix := by
  refine T.F_law_mix.ok sc_law_mix (fun vs H Q E h => ?_) (fun cdv A outer s H vs Q E hr h => ?_)
  · obtain ⟨n, t, rfl, _⟩ := h
    rfl
  · obtain ⟨n, t, rfl, q⟩ := h
    refine ⟨_, (pss_cons (ps_set (i := 2) sc_law_mix.nd rfl (Or.inl rfl) (pe_op op_mod (pe_callTy call_intI (by rfl) T.n_int (by decide +kernel) (pa_cons (pe_op op_add (pe_op op_add (pe_op op_mul (pv 0) pe_int) (pe_op op_mul (pv 1) pe_int)) pe_int) pa_nil)) pe_int)) (pss_cons (ps_set (i := 3) sc_law_mix.nd rfl (Or.inl rfl) (pe_op op_mod (pe_callTy call_intI (by rfl) T.n_int (by decide +kernel) (pa_cons (pe_op op_add (pe_op op_add (pe_op op_mul (pv 2) (pv 2)) (pe_op op_mul (pv 1) pe_int)) (pe_op op_fdiv (pv 2) pe_int)) pa_nil)) pe_int)) (pss_one (ps_ret (pe_op op_fdiv (pe_op op_mod (pe_callTy call_intI (by rfl) T.n_int (by decide +kernel) (pa_cons (pe_op op_add (pe_op op_mul (pv 3) pe_int) (pv 2)) pa_nil)) pe_int) pe_int))))), ?_⟩
    walk_at "st"
    walk_at "wp"
    refine q _ ?_
    omega
theorem ok_law_draw (T : Top K mg a) : FnOk P w K mg base CX0 2 a.f_law_draw a.d_law_draw ["_law_hand_here", "_law_many"] (spDraw K) := by
  refine T.F_law_draw.ok sc_law_draw (fun vs H Q E h => ?_) (fun cdv A outer s H vs Q E hr h => ?_)
  · obtain ⟨I, hd, m, rfl, _⟩ := h
    rfl
  · obtain ⟨I, hd, m, rfl, hh, m0, m1, q⟩ := h
    obtain ⟨sI, iN, c, cells, p, cur, tot, e, hc, hc0, p0, cur0⟩ := id hh
    have hcH : SqL K H c (cells.map V.int) := sI.seq hc
    have fin : ∀ (p2 cur2 tot2 r : Int), 0 ≤ p2 → 0 ≤ cur2 → 0 ≤ r → r < m → Q (.int r) (upd H hd (.lst [.ref c, .int p2, .int cur2, .int tot2])) :=
      fun p2 cur2 tot2 r b1 b2 b3 b4 => q _ r (Lf.setM sI rfl e iN) ⟨Same.updI sI iN, iN, c, cells, p2, cur2, tot2, upd_same, hc, hc0, b1, b2⟩ b3 b4
    refine ⟨_, (pss_cons (ps_if (PW.pt (pw_and (pt_cmpR op_eq (pe_ix (ix_K (K := K) rfl) (pv 0) pe_int (fun _ _ => rfl)) pe_int (nomark _)) (pw_and1 (pt_cmpR op_lt (pe_ix (ix_K (K := K) rfl) (pv 0) pe_int (fun _ _ => rfl)) (pe_callB (call_lenK (K := K) rfl) (by rfl) T.n_len (by decide +kernel) (pa_cons (pe_ix (ix_K (K := K) rfl) (pv 0) pe_int (fun _ _ => rfl)) pa_nil)) (nomark _))))) (pss_cons (ps_set (i := 2) sc_law_draw.nd rfl (Or.inl rfl) (pe_ix (ix_K (K := K) rfl) (pe_ix (ix_K (K := K) rfl) (pv 0) pe_int (fun _ _ => rfl)) (pe_ix (ix_K (K := K) rfl) (pv 0) pe_int (fun _ _ => rfl)) (fun _ _ => rfl))) (pss_cons (ps_asg (pe_op op_add (pe_ix (ix_K (K := K) rfl) (pv 0) pe_int (fun _ _ => rfl)) pe_int) (pg_sub (pv 0) pe_int set_list)) (pss_cons (ps_if (pt_cmpR op_lt (pv 2) (pe_op op_pow pe_int pe_int) (nomark _)) (pss_one (ps_ret (pe_op op_mod (pe_callTy call_intI (by rfl) T.n_int (by decide +kernel) (pa_cons (pe_call (ok_law_mix T) (hr.mono (by decide)) (by rfl) T.g_law_mix T.F_law_mix.kp T.b_law_mix .nil pass0 (pa_cons (pe_op op_mod (pe_callTy call_intI (by rfl) T.n_int (by decide +kernel) (pa_cons (pv 2) pa_nil)) pe_int) (pa_cons (pe_ix (ix_K (K := K) rfl) (pv 0) pe_int (fun _ _ => rfl)) pa_nil))) pa_nil)) (pv 1)))) pss_nil) (pss_one (ps_asg (pv 2) (pg_sub (pv 0) pe_int set_list)))))) pss_nil) (pss_cons (ps_if (pt_cmpR op_gt (pe_ix (ix_K (K := K) rfl) (pv 0) pe_int (fun _ _ => rfl)) pe_int (nomark _)) (pss_cons (ps_set (i := 3) sc_law_draw.nd rfl (Or.inl rfl) (pe_ix (ix_K (K := K) rfl) (pv 0) pe_int (fun _ _ => rfl))) (pss_cons (ps_asg (pe_op op_fdiv (pv 3) (pv 1)) (pg_sub (pv 0) pe_int set_list)) (pss_one (ps_ret (pe_op op_mod (pe_callTy call_intI (by rfl) T.n_int (by decide +kernel) (pa_cons (pv 3) pa_nil)) (pv 1)))))) pss_nil) (pss_cons (ps_asg (pe_op op_mod (pe_callTy call_intI (by rfl) T.n_int (by decide +kernel) (pa_cons (pe_op op_add (pe_ix (ix_K (K := K) rfl) (pv 0) pe_int (fun _ _ => rfl)) pe_int) pa_nil)) pe_int) (pg_sub (pv 0) pe_int set_list)) (pss_one (ps_ret (pe_op op_mod (pe_callTy call_intI (by rfl) T.n_int (by decide +kernel) (pa_cons (pe_call (ok_law_mix T) (hr.mono (by decide)) (by rfl) T.g_law_mix T.F_law_mix.kp T.b_law_mix .nil pass0 (pa_cons (pe_ix (ix_K (K := K) rfl) (pv 0) pe_int (fun _ _ => rfl)) (pa_cons (pe_ix (ix_K (K := K) rfl) (pv 0) pe_int (fun _ _ => rfl)) pa_nil))) pa_nil)) (pv 1))))))), ?_⟩
    walk_at "st"
    walk_at "wp"
    refine w_if (fun h0 => ?_) (fun h0 => ?_)
    · walk_at "wp"
      refine w_if (fun h1 => ?_) (fun h1 => ?_)
      · walk_at "wp"
        rw [List.length_map] at h1
        refine w_ixInts hcH p0 h1 fun z hz => ?_
        have z0 := hc0 z hz
        walk_at "wp"
        refine w_if (fun h2 => ?_) (fun h2 => ?_)
        · walk_at "wp"
          refine ⟨_, _, rfl, fun r r0 => ?_⟩
          walk_at "wp"
          exact fin _ _ _ _ (by omega) (by omega) (Int.emod_nonneg _ (by omega)) (Int.emod_lt_of_pos _ (by omega))
        · walk_at "wp"
          refine w_if (fun hg => ?_) (fun hg => ?_)
          · walk_at "wp"
            exact fin _ _ _ _ (by omega) (Int.ediv_nonneg (by omega) (by omega)) (Int.emod_nonneg _ (by omega)) (Int.emod_lt_of_pos _ (by omega))
          · walk_at "wp"
            refine ⟨_, _, rfl, fun r r0 => ?_⟩
            walk_at "wp"
            exact fin _ _ _ _ (by omega) (by omega) (Int.emod_nonneg _ (by omega)) (Int.emod_lt_of_pos _ (by omega))
      · walk_at "wp"
        refine w_if (fun hg => ?_) (fun hg => ?_)
        · walk_at "wp"
          exact fin _ _ _ _ (by omega) (Int.ediv_nonneg (by omega) (by omega)) (Int.emod_nonneg _ (by omega)) (Int.emod_lt_of_pos _ (by omega))
        · walk_at "wp"
          refine ⟨_, _, rfl, fun r r0 => ?_⟩
          walk_at "wp"
          exact fin _ _ _ _ (by omega) (by omega) (Int.emod_nonneg _ (by omega)) (Int.emod_lt_of_pos _ (by omega))
    · walk_at "wp"
      refine w_if (fun hg => ?_) (fun hg => ?_)
      · walk_at "wp"
        exact fin _ _ _ _ (by omega) (Int.ediv_nonneg (by omega) (by omega)) (Int.emod_nonneg _ (by omega)) (Int.emod_lt_of_pos _ (by omega))
      · walk_at "wp"
        refine ⟨_, _, rfl, fun r r0 => ?_⟩
        walk_at "wp"
        exact fin _ _ _ _ (by omega) (by omega) (Int.emod_nonneg _ (by omega)) (Int.emod_lt_of_pos _ (by omega))
end
end LW
namespace LW
open PySem PySem.Spec PyProof.Rows L2 L3 L4
section
variable {P : Program} {w : World} {K : PySem.W.Frag} {mg : Str → Option Value} {base : Heap} {a : Adr}
def F_is_whole : M Fl :=
    (seqM (iteM (orM (notM (truM (cbM isiP ((setl (varM 0)).bind fun x => (((setl (M.ret (.fz (.ty "int")))).bind fun x => ((M.ret [])).bind fun xs => M.ret (x :: xs))).bind fun xs => M.ret (x :: xs))))) (truM (cbM isiP ((setl (varM 0)).bind fun x => (((setl (M.ret (.fz (.ty "bool")))).bind fun x => ((M.ret [])).bind fun xs => M.ret (x :: xs))).bind fun xs => M.ret (x :: xs))))) (rtM (M.ret (.fz (.bl false)))) (M.ret .nx))
    (seqM (iteM (andM (testM (opM notNP (varM 1) (M.ret (.fz .non)))) (testM (opM ltP (varM 0) (varM 1)))) (rtM (M.ret (.fz (.bl false)))) (M.ret .nx))
    (rtM (iteM (testM (opM isNP (varM 2) (M.ret (.fz .non)))) (M.ret (.fz (.bl true))) (opM leP (varM 0) (varM 2))))))
def den_is_whole : Den := denOf 3 F_is_whole
theorem ok_is_whole (T : Top K mg a) : FnOk P w K mg base CX0 1 a.f_is_whole a.d_is_whole ["thing", "low", "high"] (spD K (cas a) 3 (noExc den_is_whole)) := by
  refine T.F_is_whole.ok sc_is_whole (fun vs H Q E h => spD_len vs H Q E h) (fun cdv A outer s H vs Q E hr h => ?_)
  exact ⟨_, (pss_cons (ps_if (PW.pt (pw_or (pt_not (pt_truth (pe_callB (call_isiK' (K := K) rfl) (by rfl) T.n_isinstance (by decide +kernel) (pa_cons (pv 0) (pa_cons (pe_bltn (v := .ty "int") (u := .type "int") (by rfl) T.n_int (by decide +kernel) rfl) pa_nil))) (by intro _; rfl))) (pw_or1 (pt_truth (pe_callB (call_isiK' (K := K) rfl) (by rfl) T.n_isinstance (by decide +kernel) (pa_cons (pv 0) (pa_cons (pe_bltn (v := .ty "bool") (u := .type "bool") (by rfl) T.n_bool (by decide +kernel) rfl) pa_nil))) (by intro _; rfl))))) (pss_one (ps_ret pe_bl)) pss_nil) (pss_cons (ps_if (PW.pt (pw_and (pt_cmpR op_notN' (pv 1) pe_non (nomark _)) (pw_and1 (pt_cmpR op_lt (pv 0) (pv 1) (nomark _))))) (pss_one (ps_ret pe_bl)) pss_nil) (pss_one (ps_ret (pe_or (pe_cmpR op_isN' (pv 2) pe_non (nomark _)) (pe_one (pe_cmpR op_le (pv 0) (pv 2) (nomark _)))))))), def_run0 (N := ["thing", "low", "high"]) (F := F_is_whole) (ex := (0, .none, none)) (rs_seq (rs_if (r_or (r_not (r_tru (r_cb o_isi (ra_cons r_var (ra_cons (r_cD fun _ => .ty _) ra_nil))))) (r_tru (r_cb o_isi (ra_cons r_var (ra_cons (r_cD fun _ => .ty _) ra_nil))))) (rs_rt r_bl) rs_next) (rs_seq (rs_if (r_and (r_test (r_op o_notN r_var r_non)) (r_test (r_op o_lt r_var r_var))) (rs_rt r_bl) rs_next) (rs_rt (r_orV (r_op o_isN r_var r_non) (r_op o_le r_var r_var))))) h⟩
def F_is_sequence : M Fl :=
    (rtM (isi2M "list" "tuple" (varM 0)))
def den_is_sequence : Den := denOf 1 F_is_sequence
theorem ok_is_sequence (T : Top K mg a) : FnOk P w K mg base CX0 1 a.f_is_sequence a.d_is_sequence ["thing"] (spD K (cas a) 1 (noExc den_is_sequence)) := by
  refine T.F_is_sequence.ok sc_is_sequence (fun vs H Q E h => spD_len vs H Q E h) (fun cdv A outer s H vs Q E hr h => ?_)
  exact ⟨_, (pss_one (ps_ret (pe_callB (call_isiTK (K := K) rfl) (by rfl) T.n_isinstance (by decide +kernel) (pa_cons (pv 0) (pa_cons (pe_tup (pa_cons (pe_bltn (v := .ty "list") (u := .type "list") (by rfl) T.n_list (by decide +kernel) rfl) (pa_cons (pe_bltn (v := .ty "tuple") (u := .type "tuple") (by rfl) T.n_tuple (by decide +kernel) rfl) pa_nil))) pa_nil))))), def_run0 (N := ["thing"]) (F := F_is_sequence) (ex := (0, .none, none)) (rs_rt (r_isi2 r_var)) h⟩
def B1_closed_masks : M Fl :=
    (seqM (iteM (orM (notM (truM (callN 1 (noExc den_is_sequence) [] ((setl (varM 4)).bind fun x => ((M.ret [])).bind fun xs => M.ret (x :: xs))))) (testM (opM neP (cbM lenP ((setl (varM 4)).bind fun x => ((M.ret [])).bind fun xs => M.ret (x :: xs))) (M.ret (.fz (.int 2)))))) (raiseM 1 ["what", "at"] ((setl (M.ret (.fz (.str "pair")))).bind fun x => (((setl (varM 3)).bind fun x => ((M.ret [])).bind fun xs => M.ret (x :: xs))).bind fun xs => M.ret (x :: xs))) (M.ret .nx))
    (seqM (iteM (orM (notM (truM (callN 3 (noExc den_is_whole) [] ((setl (opM ixP (varM 4) (M.ret (.fz (.int 0))))).bind fun x => (((setl (M.ret (.fz (.int 0)))).bind fun x => (((setl (opM subP (varM 0) (M.ret (.fz (.int 1))))).bind fun x => ((M.ret [])).bind fun xs => M.ret (x :: xs))).bind fun xs => M.ret (x :: xs))).bind fun xs => M.ret (x :: xs))))) (notM (truM (callN 3 (noExc den_is_whole) [] ((setl (opM ixP (varM 4) (M.ret (.fz (.int 1))))).bind fun x => (((setl (M.ret (.fz (.int 0)))).bind fun x => (((setl (opM subP (varM 0) (M.ret (.fz (.int 1))))).bind fun x => ((M.ret [])).bind fun xs => M.ret (x :: xs))).bind fun xs => M.ret (x :: xs))).bind fun xs => M.ret (x :: xs)))))) (raiseM 1 ["what", "at"] ((setl (M.ret (.fz (.str "pair")))).bind fun x => (((setl (varM 3)).bind fun x => ((M.ret [])).bind fun xs => M.ret (x :: xs))).bind fun xs => M.ret (x :: xs))) (M.ret .nx))
    (asgM (opM borP (opM ixP (varM 2) (opM ixP (varM 4) (M.ret (.fz (.int 0))))) (opM shlP (M.ret (.fz (.int 1))) (opM ixP (varM 4) (M.ret (.fz (.int 1)))))) (storeM (varM 2) (opM ixP (varM 4) (M.ret (.fz (.int 0))))))))
def B2_closed_masks : M Fl :=
    (iteM (truM (opM bandP (opM shrP (opM ixP (varM 2) (varM 6)) (varM 5)) (M.ret (.fz (.int 1))))) (asgM (opM borP (opM ixP (varM 2) (varM 6)) (opM ixP (varM 2) (varM 5))) (storeM (varM 2) (varM 6))) (M.ret .nx))
def B3_closed_masks : M Fl :=
    (forM (rng1M ((setl (varM 0)).bind fun x => ((M.ret [])).bind fun xs => M.ret (x :: xs))) (setM 6)
    B2_closed_masks)
def F_closed_masks : M Fl :=
    (seqM (asgM (opM mulP (lstM ((setl (M.ret (.fz (.int 0)))).bind fun x => ((M.ret [])).bind fun xs => M.ret (x :: xs))) (varM 0)) (setM 2))
    (seqM (forM (enum1M (varM 1)) (tupTg 2 [(setM 3), (setM 4)])
    B1_closed_masks)
    (seqM (forM (rng1M ((setl (varM 0)).bind fun x => ((M.ret [])).bind fun xs => M.ret (x :: xs))) (setM 5)
    B3_closed_masks)
    (rtM (varM 2)))))
def den_closed_masks : Den := denOf 7 F_closed_masks
theorem ok_closed_masks (T : Top K mg a) : FnOk P w K mg base (L2.CX P w) 3 a.f_closed_masks a.d_closed_masks ["n", "pairs"] (spD K (cas a) 2 den_closed_masks) := by
  refine T.F_closed_masks.okX sc_closed_masks (fun vs H Q E h => spD_len vs H Q E h) (fun cdv A outer s H vs Q E hr h => ?_)
  exact ⟨_, (pss_cons (ps_set (i := 2) sc_closed_masks.nd rfl (Or.inl rfl) (pe_op op_mulU (pe_lst (pa_cons pe_int pa_nil)) (pv 0))) (pss_cons (ps_for PassesOwn.leaving rfl (pi_enumQK (K := K) rfl (by rfl) T.n_enumerate (pa_cons (pv 1) pa_nil)) (pg_tup rfl (pgs_cons (pg_name (i := 3) sc_closed_masks.nd rfl (Or.inl rfl)) (pgs_cons (pg_name (i := 4) sc_closed_masks.nd rfl (Or.inl rfl)) pgs_nil))) (pss_cons (ps_if (PW.pt (pw_or (pt_not (pt_truth (pe_call (ok_is_sequence T) (hr.mono (by decide)) (by rfl) T.g_is_sequence T.F_is_sequence.kp T.b_is_sequence .nil pass0 (pa_cons (pv 4) pa_nil)) (by intro _; rfl))) (pw_or1 (pt_cmpR (op_neK (K := K) rfl hr.units) (pe_callB (call_lenK (K := K) rfl) (by rfl) T.n_len (by decide +kernel) (pa_cons (pv 4) pa_nil)) pe_int (nomark _))))) (pss_one (ps_raise rfl (takes_of rfl rfl rfl rfl) (pmk_oex T.x_BadOrder T.in_BadOrder T.ti_BadOrder (ok_BadOrder_init T) (hr.mono (by decide)) T.b_BadOrder_init .nil pass0 (by rfl) T.gc_BadOrder (pa_cons pe_str (pa_cons (pv 3) pa_nil))))) pss_nil) (pss_cons (ps_if (PW.pt (pw_or (pt_not (pt_truth (pe_call (ok_is_whole T) (hr.mono (by decide)) (by rfl) T.g_is_whole T.F_is_whole.kp (bD_is_whole_3 T).choose_spec.2 (bD_is_whole_3 T).choose_spec.1 pass0 (pa_cons (pe_ix (ix_U (K := K) rfl (hu_of hr)) (pv 4) pe_int (fun _ _ => rfl)) (pa_cons pe_int (pa_cons (pe_op op_sub (pv 0) pe_int) pa_nil)))) (by intro _; rfl))) (pw_or1 (pt_not (pt_truth (pe_call (ok_is_whole T) (hr.mono (by decide)) (by rfl) T.g_is_whole T.F_is_whole.kp (bD_is_whole_3 T).choose_spec.2 (bD_is_whole_3 T).choose_spec.1 pass0 (pa_cons (pe_ix (ix_U (K := K) rfl (hu_of hr)) (pv 4) pe_int (fun _ _ => rfl)) (pa_cons pe_int (pa_cons (pe_op op_sub (pv 0) pe_int) pa_nil)))) (by intro _; rfl)))))) (pss_one (ps_raise rfl (takes_of rfl rfl rfl rfl) (pmk_oex T.x_BadOrder T.in_BadOrder T.ti_BadOrder (ok_BadOrder_init T) (hr.mono (by decide)) T.b_BadOrder_init .nil pass0 (by rfl) T.gc_BadOrder (pa_cons pe_str (pa_cons (pv 3) pa_nil))))) pss_nil) (pss_one (ps_asg (pe_op op_or (pe_ix (ix_U (K := K) rfl (hu_of hr)) (pv 2) (pe_ix (ix_U (K := K) rfl (hu_of hr)) (pv 4) pe_int (fun _ _ => rfl)) (fun _ _ => rfl)) (pe_op op_shl pe_int (pe_ix (ix_U (K := K) rfl (hu_of hr)) (pv 4) pe_int (fun _ _ => rfl)))) (pg_sub (pv 2) (pe_ix (ix_U (K := K) rfl (hu_of hr)) (pv 4) pe_int (fun _ _ => rfl)) (set_U (hu_of hr)))))))) (pss_cons (ps_for PassesOwn.leaving rfl (pi_range1 (by rfl) T.n_range (pa_cons (pv 0) pa_nil)) (pg_name (i := 5) sc_closed_masks.nd rfl (Or.inl rfl)) (pss_one (ps_for PassesOwn.leaving rfl (pi_range1 (by rfl) T.n_range (pa_cons (pv 0) pa_nil)) (pg_name (i := 6) sc_closed_masks.nd rfl (Or.inl rfl)) (pss_one (ps_if (pt_truth (pe_op op_and (pe_op op_shr (pe_ix (ix_U (K := K) rfl (hu_of hr)) (pv 2) (pv 6) (fun _ _ => rfl)) (pv 5)) pe_int) (by intro _; rfl)) (pss_one (ps_asg (pe_op op_or (pe_ix (ix_U (K := K) rfl (hu_of hr)) (pv 2) (pv 6) (fun _ _ => rfl)) (pe_ix (ix_U (K := K) rfl (hu_of hr)) (pv 2) (pv 5) (fun _ _ => rfl))) (pg_sub (pv 2) (pv 6) (set_U (hu_of hr))))) pss_nil))))) (pss_one (ps_ret (pv 2)))))), def_run (N := ["n", "pairs", "masks", "at", "pair", "middle", "lower"]) (F := F_closed_masks) (W := fun cls dd _ H => E cls dd H) (ex := (0, .none, none)) (rs_seq (rs_asg (r_op o_mul (r_lst (ra_cons r_int ra_nil)) r_var) rg_name) (rs_seq (rs_for (r_enum1 r_var) (rg_tupT (rgs_cons rg_name (rgs_cons rg_name rgs_nil))) (rs_seq (rs_if (r_or (r_not (r_tru (r_call0 (fun _ _ => by exact trivial) (ra_cons r_var ra_nil)))) (r_test (r_op o_ne (r_cb o_len (ra_cons r_var ra_nil)) r_int))) (rs_raise (c := 1) (ra_cons r_str (ra_cons r_var ra_nil))) rs_next) (rs_seq (rs_if (r_or (r_not (r_tru (r_call0 (fun _ _ => by exact trivial) (ra_cons (r_op o_ix r_var r_int) (ra_cons r_int (ra_cons (r_op o_sub r_var r_int) ra_nil)))))) (r_not (r_tru (r_call0 (fun _ _ => by exact trivial) (ra_cons (r_op o_ix r_var r_int) (ra_cons r_int (ra_cons (r_op o_sub r_var r_int) ra_nil))))))) (rs_raise (c := 1) (ra_cons r_str (ra_cons r_var ra_nil))) rs_next) (rs_asg (r_op o_bor (r_op o_ix r_var (r_op o_ix r_var r_int)) (r_op o_shl r_int (r_op o_ix r_var r_int))) (rg_sub r_var (r_op o_ix r_var r_int)))))) (rs_seq (rs_for (r_rng1 (ra_cons r_var ra_nil)) rg_name (rs_for (r_rng1 (ra_cons r_var ra_nil)) rg_name (rs_if (r_tru (r_op o_band (r_op o_shr (r_op o_ix r_var r_var) r_var) r_int)) (rs_asg (r_op o_bor (r_op o_ix r_var r_var) (r_op o_ix r_var r_var)) (rg_sub r_var r_var)) rs_next))) (rs_rt r_var)))) (fun _ _ _ _ h => h) h⟩
def B1_check_masks : M Fl :=
    (iteM (truM (opM bandP (opM shrP (opM ixP (varM 1) (varM 2)) (varM 2)) (M.ret (.fz (.int 1))))) (raiseM 1 ["what", "at"] ((setl (M.ret (.fz (.str "ring")))).bind fun x => (((setl (varM 2)).bind fun x => ((M.ret [])).bind fun xs => M.ret (x :: xs))).bind fun xs => M.ret (x :: xs))) (M.ret .nx))
def B2_check_masks : M Fl :=
    (iteM (notM (truM (opM bandP (opM shrP (opM ixP (varM 1) (M.ret (.fz (.int 0)))) (varM 2)) (M.ret (.fz (.int 1)))))) (raiseM 1 ["what", "at"] ((setl (M.ret (.fz (.str "least")))).bind fun x => (((setl (varM 2)).bind fun x => ((M.ret [])).bind fun xs => M.ret (x :: xs))).bind fun xs => M.ret (x :: xs))) (M.ret .nx))
def F_check_masks : M Fl :=
    (seqM (forM (rng1M ((setl (varM 0)).bind fun x => ((M.ret [])).bind fun xs => M.ret (x :: xs))) (setM 2)
    B1_check_masks)
    (forM (rng2M ((setl (M.ret (.fz (.int 1)))).bind fun x => (((setl (varM 0)).bind fun x => ((M.ret [])).bind fun xs => M.ret (x :: xs))).bind fun xs => M.ret (x :: xs))) (setM 2)
    B2_check_masks))
def den_check_masks : Den := denOf 3 F_check_masks
theorem ok_check_masks (T : Top K mg a) : FnOk P w K mg base (L2.CX P w) 3 a.f_check_masks a.d_check_masks ["n", "masks"] (spD K (cas a) 2 den_check_masks) := by
  refine T.F_check_masks.okX sc_check_masks (fun vs H Q E h => spD_len vs H Q E h) (fun cdv A outer s H vs Q E hr h => ?_)
  exact ⟨_, (pss_cons (ps_for PassesOwn.leaving rfl (pi_range1 (by rfl) T.n_range (pa_cons (pv 0) pa_nil)) (pg_name (i := 2) sc_check_masks.nd rfl (Or.inl rfl)) (pss_one (ps_if (pt_truth (pe_op op_and (pe_op op_shr (pe_ix (ix_U (K := K) rfl (hu_of hr)) (pv 1) (pv 2) (fun _ _ => rfl)) (pv 2)) pe_int) (by intro _; rfl)) (pss_one (ps_raise rfl (takes_of rfl rfl rfl rfl) (pmk_oex T.x_BadOrder T.in_BadOrder T.ti_BadOrder (ok_BadOrder_init T) (hr.mono (by decide)) T.b_BadOrder_init .nil pass0 (by rfl) T.gc_BadOrder (pa_cons pe_str (pa_cons (pv 2) pa_nil))))) pss_nil))) (pss_one (ps_for PassesOwn.leaving rfl (pi_range2 (by rfl) T.n_range (pa_cons pe_int (pa_cons (pv 0) pa_nil))) (pg_name (i := 2) sc_check_masks.nd rfl (Or.inl rfl)) (pss_one (ps_if (pt_not (pt_truth (pe_op op_and (pe_op op_shr (pe_ix (ix_U (K := K) rfl (hu_of hr)) (pv 1) pe_int (fun _ _ => rfl)) (pv 2)) pe_int) (by intro _; rfl))) (pss_one (ps_raise rfl (takes_of rfl rfl rfl rfl) (pmk_oex T.x_BadOrder T.in_BadOrder T.ti_BadOrder (ok_BadOrder_init T) (hr.mono (by decide)) T.b_BadOrder_init .nil pass0 (by rfl) T.gc_BadOrder (pa_cons pe_str (pa_cons (pv 2) pa_nil))))) pss_nil))))), def_run (N := ["n", "masks", "state"]) (F := F_check_masks) (W := fun cls dd _ H => E cls dd H) (ex := (0, .none, none)) (rs_seq (rs_for (r_rng1 (ra_cons r_var ra_nil)) rg_name (rs_if (r_tru (r_op o_band (r_op o_shr (r_op o_ix r_var r_var) r_var) r_int)) (rs_raise (c := 1) (ra_cons r_str (ra_cons r_var ra_nil))) rs_next)) (rs_for (r_rng2 (ra_cons r_int (ra_cons r_var ra_nil))) rg_name (rs_if (r_not (r_tru (r_op o_band (r_op o_shr (r_op o_ix r_var r_int) r_var) r_int))) (rs_raise (c := 1) (ra_cons r_str (ra_cons r_var ra_nil))) rs_next))) (fun _ _ _ _ h => h) h⟩
def F_states_of_mask : M Fl :=
    (rtM (unM tupleP (lcM [2] (rng1M ((setl (varM 0)).bind fun x => ((M.ret [])).bind fun xs => M.ret (x :: xs))) (setM 2) (truM (opM bandP (opM shrP (varM 1) (varM 2)) (M.ret (.fz (.int 1))))) (varM 2))))
def den_states_of_mask : Den := denOf 3 F_states_of_mask
theorem ok_states_of_mask (T : Top K mg a) : FnOk P w K mg base CX0 1 a.f_states_of_mask a.d_states_of_mask ["n", "mask"] (spD K (cas a) 2 (noExc den_states_of_mask)) := by
  refine T.F_states_of_mask.ok sc_states_of_mask (fun vs H Q E h => spD_len vs H Q E h) (fun cdv A outer s H vs Q E hr h => ?_)
  exact ⟨_, (pss_one (ps_ret (pe_tupleOf (by rfl) T.n_tuple (pe_lc (own := [("state", 2)]) (g := gName 2) (by rfl) sc_states_of_mask.nd (pi_range1 (by rfl) T.n_range (pa_cons (pv 0) pa_nil)) (blkOk_by (own := [("state", 2)]) (N := ["n", "mask", "state"]) (sc := defScope s_states_of_mask) (by decide +kernel)) (fun _ _ _ _ _ => (pg_name (i := 2) sc_states_of_mask.nd rfl (Or.inl rfl))) (fun _ _ _ _ _ => pts_one (pt_truth (pe_op op_and (pe_op op_shr (pv 1) (pv 2)) pe_int) (by intro _; rfl))) (fun _ _ _ _ _ => (pv 2)))))), def_run0 (N := ["n", "mask", "state"]) (F := F_states_of_mask) (ex := (0, .none, none)) (rs_rt (r_thn o_tuple (r_lc (r_rng1 (ra_cons r_var ra_nil)) (rgv_name (by decide)) (r_tru (r_op o_band (r_op o_shr r_var r_var) r_int)) r_var))) h⟩
def B1_covers_of_masks : M Fl :=
    (asgM (opM borP (varM 3) (opM ixP (varM 1) (varM 4))) (setM 3))
def F_covers_of_masks : M Fl :=
    (seqM (asgM (M.ret (.fz (.int 0))) (setM 3))
    (seqM (forM (seqS (callN 2 (noExc den_states_of_mask) [] ((setl (varM 0)).bind fun x => (((setl (opM ixP (varM 1) (varM 2))).bind fun x => ((M.ret [])).bind fun xs => M.ret (x :: xs))).bind fun xs => M.ret (x :: xs)))) (setM 4)
    B1_covers_of_masks)
    (rtM (callN 2 (noExc den_states_of_mask) [] ((setl (varM 0)).bind fun x => (((setl (opM bandP (opM ixP (varM 1) (varM 2)) (unM invP (varM 3)))).bind fun x => ((M.ret [])).bind fun xs => M.ret (x :: xs))).bind fun xs => M.ret (x :: xs))))))
def den_covers_of_masks : Den := denOf 5 F_covers_of_masks
theorem ok_covers_of_masks (T : Top K mg a) : FnOk P w K mg base CX0 2 a.f_covers_of_masks a.d_covers_of_masks ["n", "masks", "state"] (spD K (cas a) 3 (noExc den_covers_of_masks)) := by
  refine T.F_covers_of_masks.ok sc_covers_of_masks (fun vs H Q E h => spD_len vs H Q E h) (fun cdv A outer s H vs Q E hr h => ?_)
  exact ⟨_, (pss_cons (ps_set (i := 3) sc_covers_of_masks.nd rfl (Or.inl rfl) pe_int) (pss_cons (ps_for PassesOwn.never rfl (pi_sqK (K := K) rfl (pe_call (ok_states_of_mask T) (hr.mono (by decide)) (by rfl) T.g_states_of_mask T.F_states_of_mask.kp T.b_states_of_mask .nil pass0 (pa_cons (pv 0) (pa_cons (pe_ix (ix_U (K := K) rfl (hu_of hr)) (pv 1) (pv 2) (fun _ _ => rfl)) pa_nil)))) (pg_name (i := 4) sc_covers_of_masks.nd rfl (Or.inl rfl)) (pss_one (ps_set (i := 3) sc_covers_of_masks.nd rfl (Or.inl rfl) (pe_op op_or (pv 3) (pe_ix (ix_U (K := K) rfl (hu_of hr)) (pv 1) (pv 4) (fun _ _ => rfl)))))) (pss_one (ps_ret (pe_call (ok_states_of_mask T) (hr.mono (by decide)) (by rfl) T.g_states_of_mask T.F_states_of_mask.kp T.b_states_of_mask .nil pass0 (pa_cons (pv 0) (pa_cons (pe_op op_and (pe_ix (ix_U (K := K) rfl (hu_of hr)) (pv 1) (pv 2) (fun _ _ => rfl)) (pe_un un_inv (pv 3))) pa_nil))))))), def_run0 (N := ["n", "masks", "state", "higher", "middle"]) (F := F_covers_of_masks) (ex := (0, .none, none)) (rs_seq (rs_asg r_int rg_name) (rs_seq (rs_for (ri_sq (r_call0 (fun _ _ => by exact trivial) (ra_cons r_var (ra_cons (r_op o_ix r_var r_var) ra_nil)))) rg_name (rs_asg (r_op o_bor r_var (r_op o_ix r_var r_var)) rg_name)) (rs_rt (r_call0 (fun _ _ => by exact trivial) (ra_cons r_var (ra_cons (r_op o_band (r_op o_ix r_var r_var) (r_un o_inv r_var)) ra_nil)))))) h⟩
def F_Order_init : M Fl :=
    (seqM (iteM (notM (truM (callN 3 (noExc den_is_whole) [] ((setl (varM 1)).bind fun x => (((setl (M.ret (.fz (.int 1)))).bind fun x => (((setl (M.ret (.fz (.int 24)))).bind fun x => ((M.ret [])).bind fun xs => M.ret (x :: xs))).bind fun xs => M.ret (x :: xs))).bind fun xs => M.ret (x :: xs))))) (raiseM 1 ["what", "at"] ((setl (M.ret (.fz (.str "states")))).bind fun x => (((setl (M.ret (.fz (.int 0)))).bind fun x => ((M.ret [])).bind fun xs => M.ret (x :: xs))).bind fun xs => M.ret (x :: xs))) (M.ret .nx))
    (seqM (iteM (orM (notM (truM (callN 1 (noExc den_is_sequence) [] ((setl (varM 2)).bind fun x => ((M.ret [])).bind fun xs => M.ret (x :: xs))))) (testM (opM gtP (cbM lenP ((setl (varM 2)).bind fun x => ((M.ret [])).bind fun xs => M.ret (x :: xs))) (M.ret (.fz (.int 600)))))) (raiseM 1 ["what", "at"] ((setl (M.ret (.fz (.str "pairs")))).bind fun x => (((setl (M.ret (.fz (.int 0)))).bind fun x => ((M.ret [])).bind fun xs => M.ret (x :: xs))).bind fun xs => M.ret (x :: xs))) (M.ret .nx))
    (seqM (asgM (callN 2 den_closed_masks [] ((setl (varM 1)).bind fun x => (((setl (varM 2)).bind fun x => ((M.ret [])).bind fun xs => M.ret (x :: xs))).bind fun xs => M.ret (x :: xs))) (setM 3))
    (seqM (dropM (callN 2 den_check_masks [] ((setl (varM 1)).bind fun x => (((setl (varM 3)).bind fun x => ((M.ret [])).bind fun xs => M.ret (x :: xs))).bind fun xs => M.ret (x :: xs))))
    (seqM (sfldM fo_n "n" 0 (varM 1))
    (seqM (sfldM fo_masks "masks" 0 (unM tupleP (varM 3)))
    (seqM (sfldM fo_cover_rows "cover_rows" 0 (unM tupleP (lcM [4] (rng1M ((setl (varM 1)).bind fun x => ((M.ret [])).bind fun xs => M.ret (x :: xs))) (setM 4) (M.ret true) (callN 3 (noExc den_covers_of_masks) [] ((setl (varM 1)).bind fun x => (((setl (varM 3)).bind fun x => (((setl (varM 4)).bind fun x => ((M.ret [])).bind fun xs => M.ret (x :: xs))).bind fun xs => M.ret (x :: xs))).bind fun xs => M.ret (x :: xs))))))
    (sfldM fo_edges "edges" 0 (unM tupleP (lcM2 [4, 5] [5] (rng1M ((setl (varM 1)).bind fun x => ((M.ret [])).bind fun xs => M.ret (x :: xs))) (setM 4) (M.ret true) (seqS (opM ixP (fldM fo_cover_rows "cover_rows" (varM 0)) (varM 4))) (setM 5) (M.ret true) (tupM ((setl (varM 4)).bind fun x => (((setl (varM 5)).bind fun x => ((M.ret [])).bind fun xs => M.ret (x :: xs))).bind fun xs => M.ret (x :: xs)))))))))))))
def den_Order_init : DenI := denI 4 6 F_Order_init
theorem ok_Order_init (T : Top K mg a) : FnOk P w K mg base (L2.CX P w) 4 a.f_Order_init a.d_Order_init ["self", "n", "pairs"] (spI K (cas a) 4 2 den_Order_init) := by
  refine T.F_Order_init.okX sc_Order_init (fun vs H Q E h => spI_len vs H Q E h) (fun cdv A outer s H vs Q E hr h => ?_)
  exact ⟨_, (pss_cons (ps_if (pt_not (pt_truth (pe_call (ok_is_whole T) (hr.mono (by decide)) (by rfl) T.g_is_whole T.F_is_whole.kp (bD_is_whole_3 T).choose_spec.2 (bD_is_whole_3 T).choose_spec.1 pass0 (pa_cons (pv 1) (pa_cons pe_int (pa_cons (pe_glob (v := .int 24) (by rfl) T.m_MOST_STATES.choose_spec ⟨_, rfl⟩) pa_nil)))) (by intro _; rfl))) (pss_one (ps_raise rfl (takes_of rfl rfl rfl rfl) (pmk_oex T.x_BadOrder T.in_BadOrder T.ti_BadOrder (ok_BadOrder_init T) (hr.mono (by decide)) T.b_BadOrder_init .nil pass0 (by rfl) T.gc_BadOrder (pa_cons pe_str (pa_cons pe_int pa_nil))))) pss_nil) (pss_cons (ps_if (PW.pt (pw_or (pt_not (pt_truth (pe_call (ok_is_sequence T) (hr.mono (by decide)) (by rfl) T.g_is_sequence T.F_is_sequence.kp T.b_is_sequence .nil pass0 (pa_cons (pv 2) pa_nil)) (by intro _; rfl))) (pw_or1 (pt_cmpR op_gt (pe_callB (call_lenK (K := K) rfl) (by rfl) T.n_len (by decide +kernel) (pa_cons (pv 2) pa_nil)) (pe_glob (v := .int 600) (by rfl) T.m_MOST_PAIRS.choose_spec ⟨_, rfl⟩) (nomark _))))) (pss_one (ps_raise rfl (takes_of rfl rfl rfl rfl) (pmk_oex T.x_BadOrder T.in_BadOrder T.ti_BadOrder (ok_BadOrder_init T) (hr.mono (by decide)) T.b_BadOrder_init .nil pass0 (by rfl) T.gc_BadOrder (pa_cons pe_str (pa_cons pe_int pa_nil))))) pss_nil) (pss_cons (ps_set (i := 3) sc_Order_init.nd rfl (Or.inr rfl) (pe_call (ok_closed_masks T) (hr.mono (by decide)) (by rfl) T.g_closed_masks T.F_closed_masks.kp T.b_closed_masks .nil (passes_call (takes_of rfl rfl rfl rfl) (fun _ _ _ _ h => h)) (pa_cons (pv 1) (pa_cons (pv 2) pa_nil)))) (pss_cons (ps_expr (pe_call (ok_check_masks T) (hr.mono (by decide)) (by rfl) T.g_check_masks T.F_check_masks.kp T.b_check_masks .nil (passes_call (takes_of rfl rfl rfl rfl) (fun _ _ _ _ h => h)) (pa_cons (pv 1) (pa_cons (pv 3) pa_nil)))) (pss_cons (ps_fld (pv 0) (pv 1) rfl) (pss_cons (ps_fld (pv 0) (pe_tupleOf (by rfl) T.n_tuple (pv 3)) rfl) (pss_cons (ps_fld (pv 0) (pe_tupleOf (by rfl) T.n_tuple (pe_lc (own := [("state", 4)]) (g := gName 4) (by rfl) sc_Order_init.nd (pi_range1 (by rfl) T.n_range (pa_cons (pv 1) pa_nil)) (blkOk_by (own := [("state", 4)]) (N := ["self", "n", "pairs", "masks", "state", "cover"]) (sc := defScope s_Order_init) (by decide +kernel)) (fun _ _ _ _ _ => (pg_name (i := 4) sc_Order_init.nd rfl (Or.inl rfl))) (fun _ _ _ _ _ => pts_nil) (fun _ _ _ _ _ => (pe_call (ok_covers_of_masks T) (hr.mono (by decide)) (by rfl) T.g_covers_of_masks T.F_covers_of_masks.kp T.b_covers_of_masks .nil pass0 (pa_cons (pv 1) (pa_cons (pv 3) (pa_cons (pv 4) pa_nil))))))) rfl) (pss_one (ps_fld (pv 0) (pe_tupleOf (by rfl) T.n_tuple (pe_lc2 (own := [("state", 4), ("cover", 5)]) (vs1 := [5]) (g := gName 4) (g1 := gName 5) (by rfl) sc_Order_init.nd (pi_range1 (by rfl) T.n_range (pa_cons (pv 1) pa_nil)) (blkOk_by (own := [("state", 4), ("cover", 5)]) (N := ["self", "n", "pairs", "masks", "state", "cover"]) (sc := defScope s_Order_init) (by decide +kernel)) (by decide) (fun _ _ _ _ _ => (pg_name (i := 4) sc_Order_init.nd rfl (Or.inl rfl))) (fun _ _ _ _ _ => pts_nil) (fun _ _ _ _ _ => (pi_sqK (K := K) rfl (pe_ix (ix_U (K := K) rfl (hu_of hr)) (pe_fld (pv 0) rfl) (pv 4) (fun _ _ => rfl)))) (fun _ _ _ _ _ => (pg_name (i := 5) sc_Order_init.nd rfl (Or.inl rfl))) (fun _ _ _ _ _ => pts_nil) (fun _ _ _ _ _ => (pe_tup (pa_cons (pv 4) (pa_cons (pv 5) pa_nil)))))) rfl))))))))), def_runI (C := 4) (N := ["self", "n", "pairs", "masks", "state", "cover"]) (F := F_Order_init) (W := fun cls dd _ H => E cls dd H) (ex := (0, .none, none)) (by decide) (rs_seq (rs_if (r_not (r_tru (r_call0 (fun _ _ => by exact trivial) (ra_cons r_var (ra_cons r_int (ra_cons r_int ra_nil)))))) (rs_raise (c := 1) (ra_cons r_str (ra_cons r_int ra_nil))) rs_next) (rs_seq (rs_if (r_or (r_not (r_tru (r_call0 (fun _ _ => by exact trivial) (ra_cons r_var ra_nil)))) (r_test (r_op o_gt (r_cb o_len (ra_cons r_var ra_nil)) r_int))) (rs_raise (c := 1) (ra_cons r_str (ra_cons r_int ra_nil))) rs_next) (rs_seq (rs_asg (r_call (fun _ _ => by exact trivial) (fun _ _ _ _ h => h) (ra_cons r_var (ra_cons r_var ra_nil))) rg_name) (rs_seq (rs_drop (r_call (fun _ _ => by exact trivial) (fun _ _ _ _ h => h) (ra_cons r_var (ra_cons r_var ra_nil)))) (rs_seq (rs_sfld (fk_n T) r_var) (rs_seq (rs_sfld (fk_masks T) (r_thn o_tuple r_var)) (rs_seq (rs_sfld (fk_cover_rows T) (r_thn o_tuple (r_lc (r_rng1 (ra_cons r_var ra_nil)) (rgv_name (by decide)) r_yes (r_call0 (fun _ _ => by exact trivial) (ra_cons r_var (ra_cons r_var (ra_cons r_var ra_nil))))))) (rs_sfld (fk_edges T) (r_thn o_tuple (r_lc2 (by decide) (r_rng1 (ra_cons r_var ra_nil)) (rgv_name (by decide)) r_yes (ri_sq (r_op o_ix (r_fld (fk_cover_rows T) r_var) r_var)) (rgv_name (by decide)) r_yes (r_tup (ra_cons r_var (ra_cons r_var ra_nil))))))))))))) (fun _ _ _ _ h => h) h⟩
end
end LW
namespace LW
open PySem PySem.Spec PyProof.Rows L2 L3 L4
section
variable {P : Program} {w : World} {K : PySem.W.Frag} {mg : Str → Option Value} {base : Heap} {a : Adr}
def F_law_seq : M Fl :=
    (rtM (iteM (testM (opM eqP (drawM (varM 0) (M.ret (.fz (.int 2)))) (M.ret (.fz (.int 0))))) (cbM listP ((setl (varM 1)).bind fun x => ((M.ret [])).bind fun xs => M.ret (x :: xs))) (unM tupleP (varM 1))))
def den_law_seq : Den := denOf 2 F_law_seq
theorem ok_law_seq (T : Top K mg a) : FnOk P w K mg base CX0 3 a.f_law_seq a.d_law_seq ["_law_hand_here", "_law_row"] (spD K (cas a) 2 (noExc den_law_seq)) := by
  refine T.F_law_seq.ok sc_law_seq (fun vs H Q E h => spD_len vs H Q E h) (fun cdv A outer s H vs Q E hr h => ?_)
  exact ⟨_, (pss_one (ps_ret (pe_ifExp (pt_cmpR (op_eqK (K := K) rfl hr.units) (pe_call (ok_law_draw T) (hr.mono (by decide)) (by rfl) T.g_law_draw T.F_law_draw.kp T.b_law_draw .nil pass0 (pa_cons (pv 0) (pa_cons pe_int pa_nil))) pe_int (nomark _)) (pe_callTy (call_listK (K := K) rfl) (by rfl) T.n_list (by decide +kernel) (pa_cons (pv 1) pa_nil)) (pe_tupleOf (by rfl) T.n_tuple (pv 1))))), def_run0 (N := ["_law_hand_here", "_law_row"]) (F := F_law_seq) (ex := (0, .none, none)) (rs_rt (r_if (r_test (r_op o_eq (r_draw r_var r_int) r_int)) (r_cb o_list (ra_cons r_var ra_nil)) (r_thn o_tuple r_var))) h⟩
def B1_law_strict : M Fl :=
    (asgM (M.ret (.fz (.bl true))) (storeM (varM 2) (varM 3)))
def B2_law_strict : M Fl :=
    (iteM (truM (opM ixP (opM ixP (varM 4) (varM 6)) (varM 5))) (asgM (lcM [7] (rng1M ((setl (varM 0)).bind fun x => ((M.ret [])).bind fun xs => M.ret (x :: xs))) (setM 7) (M.ret true) (orT (opM ixP (opM ixP (varM 4) (varM 6)) (varM 7)) (opM ixP (opM ixP (varM 4) (varM 5)) (varM 7)))) (storeM (varM 4) (varM 6))) (M.ret .nx))
def B3_law_strict : M Fl :=
    (forM (rng1M ((setl (varM 0)).bind fun x => ((M.ret [])).bind fun xs => M.ret (x :: xs))) (setM 6)
    B2_law_strict)
def F_law_strict : M Fl :=
    (seqM (asgM dnewTM (setM 2))
    (seqM (forM (seqS (varM 1)) (setM 3)
    B1_law_strict)
    (seqM (asgM (lcM [6] (rng1M ((setl (varM 0)).bind fun x => ((M.ret [])).bind fun xs => M.ret (x :: xs))) (setM 6) (M.ret true) (lcM [7] (rng1M ((setl (varM 0)).bind fun x => ((M.ret [])).bind fun xs => M.ret (x :: xs))) (setM 7) (M.ret true) (opM inP (tupM ((setl (varM 6)).bind fun x => (((setl (varM 7)).bind fun x => ((M.ret [])).bind fun xs => M.ret (x :: xs))).bind fun xs => M.ret (x :: xs))) (varM 2)))) (setM 4))
    (seqM (forM (rng1M ((setl (varM 0)).bind fun x => ((M.ret [])).bind fun xs => M.ret (x :: xs))) (setM 5)
    B3_law_strict)
    (rtM (varM 4))))))
def den_law_strict : Den := denOf 8 F_law_strict
theorem ok_law_strict (T : Top K mg a) : FnOk P w K mg base CX0 1 a.f_law_strict a.d_law_strict ["_law_n", "_law_pairs"] (spD K (cas a) 2 (noExc den_law_strict)) := by
  refine T.F_law_strict.ok sc_law_strict (fun vs H Q E h => spD_len vs H Q E h) (fun cdv A outer s H vs Q E hr h => ?_)
  exact ⟨_, (pss_cons (ps_set (i := 2) sc_law_strict.nd rfl (Or.inr rfl) pe_dnewT) (pss_cons (ps_for PassesOwn.never rfl (pi_sqK (K := K) rfl (pv 1)) (pg_name (i := 3) sc_law_strict.nd rfl (Or.inl rfl)) (pss_one (ps_asg pe_bl (pg_sub (pv 2) (pv 3) (set_U (hu_of hr)))))) (pss_cons (ps_set (i := 4) sc_law_strict.nd rfl (Or.inr rfl) (pe_lc (own := [("_law_x", 6)]) (g := gName 6) (by rfl) sc_law_strict.nd (pi_range1 (by rfl) T.n_range (pa_cons (pv 0) pa_nil)) (blkOk_by (own := [("_law_x", 6)]) (N := ["_law_n", "_law_pairs", "_law_known", "_law_pair", "_law_under", "_law_mid", "_law_x", "_law_y"]) (sc := defScope s_law_strict) (by decide +kernel)) (fun _ _ _ _ _ => (pg_name (i := 6) sc_law_strict.nd rfl (Or.inr rfl))) (fun _ _ _ _ _ => pts_nil) (fun _ _ _ _ _ => (pe_lc (own := [("_law_y", 7)]) (g := gName 7) (by rfl) sc_law_strict.nd (pi_range1 (by rfl) T.n_range (pa_cons (pv 0) pa_nil)) (blkOk_by (own := [("_law_y", 7)]) (N := ["_law_n", "_law_pairs", "_law_known", "_law_pair", "_law_under", "_law_mid", "_law_x", "_law_y"]) (by dsimp only [Cx.blk, compEnvC, relabel, cxOf, envOfC, Cx.nox, Env.kindOf]; first | decide +kernel | kernel_rfl | rfl)) (fun _ _ _ _ _ => (pg_name (i := 7) sc_law_strict.nd rfl (Or.inl rfl))) (fun _ _ _ _ _ => pts_nil) (fun _ _ _ _ _ => (pe_cmpR (op_inU (K := K) rfl (units65 hr)) (pe_tup (pa_cons (pv 6) (pa_cons (pv 7) pa_nil))) (pv 2) (by rfl))))))) (pss_cons (ps_for PassesOwn.never rfl (pi_range1 (by rfl) T.n_range (pa_cons (pv 0) pa_nil)) (pg_name (i := 5) sc_law_strict.nd rfl (Or.inr rfl)) (pss_one (ps_for PassesOwn.never rfl (pi_range1 (by rfl) T.n_range (pa_cons (pv 0) pa_nil)) (pg_name (i := 6) sc_law_strict.nd rfl (Or.inr rfl)) (pss_one (ps_if (pt_truth (pe_ix (ix_U (K := K) rfl (hu_of hr)) (pe_ix (ix_U (K := K) rfl (hu_of hr)) (pv 4) (pv 6) (fun _ _ => rfl)) (pv 5) (fun _ _ => rfl)) (by intro _; rfl)) (pss_one (ps_asg (pe_lc (own := [("_law_y", 7)]) (g := gName 7) (by rfl) sc_law_strict.nd (pi_range1 (by rfl) T.n_range (pa_cons (pv 0) pa_nil)) (blkOk_by (own := [("_law_y", 7)]) (N := ["_law_n", "_law_pairs", "_law_known", "_law_pair", "_law_under", "_law_mid", "_law_x", "_law_y"]) (sc := defScope s_law_strict) (by decide +kernel)) (fun _ _ _ _ _ => (pg_name (i := 7) sc_law_strict.nd rfl (Or.inl rfl))) (fun _ _ _ _ _ => pts_nil) (fun _ _ _ _ _ => (pe_orT (pe_ix (ix_U (K := K) rfl (hu_of hr)) (pe_ix (ix_U (K := K) rfl (hu_of hr)) (pv 4) (pv 6) (fun _ _ => rfl)) (pv 7) (fun _ _ => rfl)) (pe_one (pe_ix (ix_U (K := K) rfl (hu_of hr)) (pe_ix (ix_U (K := K) rfl (hu_of hr)) (pv 4) (pv 5) (fun _ _ => rfl)) (pv 7) (fun _ _ => rfl)))))) (pg_sub (pv 4) (pv 6) (set_U (hu_of hr))))) pss_nil))))) (pss_one (ps_ret (pv 4))))))), def_run0 (N := ["_law_n", "_law_pairs", "_law_known", "_law_pair", "_law_under", "_law_mid", "_law_x", "_law_y"]) (F := F_law_strict) (ex := (0, .none, none)) (rs_seq (rs_asg r_dnewT rg_name) (rs_seq (rs_for (ri_sq r_var) rg_name (rs_asg r_bl (rg_sub r_var r_var))) (rs_seq (rs_asg (r_lc (r_rng1 (ra_cons r_var ra_nil)) (rgv_name (by decide)) r_yes (r_lc (r_rng1 (ra_cons r_var ra_nil)) (rgv_name (by decide)) r_yes (r_op o_in (r_tup (ra_cons r_var (ra_cons r_var ra_nil))) r_var))) rg_name) (rs_seq (rs_for (r_rng1 (ra_cons r_var ra_nil)) rg_name (rs_for (r_rng1 (ra_cons r_var ra_nil)) rg_name (rs_if (r_tru (r_op o_ix (r_op o_ix r_var r_var) r_var)) (rs_asg (r_lc (r_rng1 (ra_cons r_var ra_nil)) (rgv_name (by decide)) r_yes (r_orT (r_op o_ix (r_op o_ix r_var r_var) r_var) (r_op o_ix (r_op o_ix r_var r_var) r_var))) (rg_sub r_var r_var)) rs_next))) (rs_rt r_var))))) h⟩
def F_law_state : M Fl :=
    (rtM (iteM (testM (cbM isiP ((setl (varM 1)).bind fun x => (((setl (M.ret (.fz (.ty "int")))).bind fun x => ((M.ret [])).bind fun xs => M.ret (x :: xs))).bind fun xs => M.ret (x :: xs)))) (iteM (testM (blM (notM (testM (cbM isiP ((setl (varM 1)).bind fun x => (((setl (M.ret (.fz (.ty "bool")))).bind fun x => ((M.ret [])).bind fun xs => M.ret (x :: xs))).bind fun xs => M.ret (x :: xs))))))) (chainM leP ltP (M.ret (.fz (.int 0))) (varM 1) (varM 0)) (M.ret (.fz (.bl false)))) (M.ret (.fz (.bl false)))))
def den_law_state : Den := denOf 2 F_law_state
theorem ok_law_state (T : Top K mg a) : FnOk P w K mg base CX0 1 a.f_law_state a.d_law_state ["_law_n", "_law_x"] (spD K (cas a) 2 (noExc den_law_state)) := by
  refine T.F_law_state.ok sc_law_state (fun vs H Q E h => spD_len vs H Q E h) (fun cdv A outer s H vs Q E hr h => ?_)
  exact ⟨_, (pss_one (ps_ret (pe_and (pe_callB (call_isiK' (K := K) rfl) (by rfl) T.n_isinstance (by decide +kernel) (pa_cons (pv 1) (pa_cons (pe_bltn (v := .ty "int") (u := .type "int") (by rfl) T.n_int (by decide +kernel) rfl) pa_nil))) (pe_and (pe_not (pe_callB (call_isiK' (K := K) rfl) (by rfl) T.n_isinstance (by decide +kernel) (pa_cons (pv 1) (pa_cons (pe_bltn (v := .ty "bool") (u := .type "bool") (by rfl) T.n_bool (by decide +kernel) rfl) pa_nil)))) (pe_one (pe_chain op_le op_lt pe_int (pv 1) (pv 0))))))), def_run0 (N := ["_law_n", "_law_x"]) (F := F_law_state) (ex := (0, .none, none)) (rs_rt (r_andV (r_cb o_isi (ra_cons r_var (ra_cons (r_cD fun _ => .ty _) ra_nil))) (r_andV (r_notV (r_cb o_isi (ra_cons r_var (ra_cons (r_cD fun _ => .ty _) ra_nil)))) (r_chain o_le o_lt r_int r_var r_var)))) h⟩
def B1_law_due : M Fl :=
    (seqM (iteM (orM (notM (truM (isi2M "list" "tuple" (opM ixP (varM 1) (varM 2))))) (testM (opM neP (cbM lenP ((setl (opM ixP (varM 1) (varM 2))).bind fun x => ((M.ret [])).bind fun xs => M.ret (x :: xs))) (M.ret (.fz (.int 2)))))) (rtM (tupM ((setl (M.ret (.fz (.str "pair")))).bind fun x => (((setl (varM 2)).bind fun x => ((M.ret [])).bind fun xs => M.ret (x :: xs))).bind fun xs => M.ret (x :: xs)))) (M.ret .nx))
    (iteM (orM (notM (truM (callN 2 (noExc den_law_state) [] ((setl (varM 0)).bind fun x => (((setl (opM ixP (opM ixP (varM 1) (varM 2)) (M.ret (.fz (.int 0))))).bind fun x => ((M.ret [])).bind fun xs => M.ret (x :: xs))).bind fun xs => M.ret (x :: xs))))) (notM (truM (callN 2 (noExc den_law_state) [] ((setl (varM 0)).bind fun x => (((setl (opM ixP (opM ixP (varM 1) (varM 2)) (M.ret (.fz (.int 1))))).bind fun x => ((M.ret [])).bind fun xs => M.ret (x :: xs))).bind fun xs => M.ret (x :: xs)))))) (rtM (tupM ((setl (M.ret (.fz (.str "pair")))).bind fun x => (((setl (varM 2)).bind fun x => ((M.ret [])).bind fun xs => M.ret (x :: xs))).bind fun xs => M.ret (x :: xs)))) (M.ret .nx)))
def B2_law_due : M Fl :=
    (iteM (truM (opM ixP (opM ixP (varM 3) (varM 4)) (varM 4))) (rtM (tupM ((setl (M.ret (.fz (.str "ring")))).bind fun x => (((setl (varM 4)).bind fun x => ((M.ret [])).bind fun xs => M.ret (x :: xs))).bind fun xs => M.ret (x :: xs)))) (M.ret .nx))
def B3_law_due : M Fl :=
    (iteM (notM (truM (opM ixP (opM ixP (varM 3) (M.ret (.fz (.int 0)))) (varM 4)))) (rtM (tupM ((setl (M.ret (.fz (.str "least")))).bind fun x => (((setl (varM 4)).bind fun x => ((M.ret [])).bind fun xs => M.ret (x :: xs))).bind fun xs => M.ret (x :: xs)))) (M.ret .nx))
def F_law_due : M Fl :=
    (seqM (iteM (orM (notM (truM (callN 2 (noExc den_law_state) [] ((setl (M.ret (.fz (.int 25)))).bind fun x => (((setl (varM 0)).bind fun x => ((M.ret [])).bind fun xs => M.ret (x :: xs))).bind fun xs => M.ret (x :: xs))))) (testM (opM eqP (varM 0) (M.ret (.fz (.int 0)))))) (rtM (tupM ((setl (M.ret (.fz (.str "states")))).bind fun x => (((setl (M.ret (.fz (.int 0)))).bind fun x => ((M.ret [])).bind fun xs => M.ret (x :: xs))).bind fun xs => M.ret (x :: xs)))) (M.ret .nx))
    (seqM (iteM (orM (notM (truM (isi2M "list" "tuple" (varM 1)))) (testM (opM gtP (cbM lenP ((setl (varM 1)).bind fun x => ((M.ret [])).bind fun xs => M.ret (x :: xs))) (M.ret (.fz (.int 600)))))) (rtM (tupM ((setl (M.ret (.fz (.str "pairs")))).bind fun x => (((setl (M.ret (.fz (.int 0)))).bind fun x => ((M.ret [])).bind fun xs => M.ret (x :: xs))).bind fun xs => M.ret (x :: xs)))) (M.ret .nx))
    (seqM (forM (rng1M ((setl (cbM lenP ((setl (varM 1)).bind fun x => ((M.ret [])).bind fun xs => M.ret (x :: xs)))).bind fun x => ((M.ret [])).bind fun xs => M.ret (x :: xs))) (setM 2)
    B1_law_due)
    (seqM (asgM (callN 2 (noExc den_law_strict) [] ((setl (varM 0)).bind fun x => (((setl (lcM [5] (seqS (varM 1)) (setM 5) (M.ret true) (unM tupleP (varM 5)))).bind fun x => ((M.ret [])).bind fun xs => M.ret (x :: xs))).bind fun xs => M.ret (x :: xs))) (setM 3))
    (seqM (forM (rng1M ((setl (varM 0)).bind fun x => ((M.ret [])).bind fun xs => M.ret (x :: xs))) (setM 4)
    B2_law_due)
    (seqM (forM (rng2M ((setl (M.ret (.fz (.int 1)))).bind fun x => (((setl (varM 0)).bind fun x => ((M.ret [])).bind fun xs => M.ret (x :: xs))).bind fun xs => M.ret (x :: xs))) (setM 4)
    B3_law_due)
    (rtM (M.ret (.fz .non)))))))))
def den_law_due : Den := denOf 6 F_law_due
theorem ok_law_due (T : Top K mg a) : FnOk P w K mg base CX0 2 a.f_law_due a.d_law_due ["_law_n", "_law_pairs"] (spD K (cas a) 2 (noExc den_law_due)) := by
  refine T.F_law_due.ok sc_law_due (fun vs H Q E h => spD_len vs H Q E h) (fun cdv A outer s H vs Q E hr h => ?_)
  exact ⟨_, (pss_cons (ps_if (PW.pt (pw_or (pt_not (pt_truth (pe_call (ok_law_state T) (hr.mono (by decide)) (by rfl) T.g_law_state T.F_law_state.kp T.b_law_state .nil pass0 (pa_cons pe_int (pa_cons (pv 0) pa_nil))) (by intro _; rfl))) (pw_or1 (pt_cmpR (op_eqK (K := K) rfl hr.units) (pv 0) pe_int (nomark _))))) (pss_one (ps_ret (pe_tup (pa_cons pe_str (pa_cons pe_int pa_nil))))) pss_nil) (pss_cons (ps_if (PW.pt (pw_or (pt_not (pt_truth (pe_callB (call_isiTK (K := K) rfl) (by rfl) T.n_isinstance (by decide +kernel) (pa_cons (pv 1) (pa_cons (pe_tup (pa_cons (pe_bltn (v := .ty "list") (u := .type "list") (by rfl) T.n_list (by decide +kernel) rfl) (pa_cons (pe_bltn (v := .ty "tuple") (u := .type "tuple") (by rfl) T.n_tuple (by decide +kernel) rfl) pa_nil))) pa_nil))) (by intro _; rfl))) (pw_or1 (pt_cmpR op_gt (pe_callB (call_lenK (K := K) rfl) (by rfl) T.n_len (by decide +kernel) (pa_cons (pv 1) pa_nil)) pe_int (nomark _))))) (pss_one (ps_ret (pe_tup (pa_cons pe_str (pa_cons pe_int pa_nil))))) pss_nil) (pss_cons (ps_for PassesOwn.never rfl (pi_range1 (by rfl) T.n_range (pa_cons (pe_callB (call_lenK (K := K) rfl) (by rfl) T.n_len (by decide +kernel) (pa_cons (pv 1) pa_nil)) pa_nil)) (pg_name (i := 2) sc_law_due.nd rfl (Or.inl rfl)) (pss_cons (ps_if (PW.pt (pw_or (pt_not (pt_truth (pe_callB (call_isiTK (K := K) rfl) (by rfl) T.n_isinstance (by decide +kernel) (pa_cons (pe_ix (ix_U (K := K) rfl (hu_of hr)) (pv 1) (pv 2) (fun _ _ => rfl)) (pa_cons (pe_tup (pa_cons (pe_bltn (v := .ty "list") (u := .type "list") (by rfl) T.n_list (by decide +kernel) rfl) (pa_cons (pe_bltn (v := .ty "tuple") (u := .type "tuple") (by rfl) T.n_tuple (by decide +kernel) rfl) pa_nil))) pa_nil))) (by intro _; rfl))) (pw_or1 (pt_cmpR (op_neK (K := K) rfl hr.units) (pe_callB (call_lenK (K := K) rfl) (by rfl) T.n_len (by decide +kernel) (pa_cons (pe_ix (ix_U (K := K) rfl (hu_of hr)) (pv 1) (pv 2) (fun _ _ => rfl)) pa_nil)) pe_int (nomark _))))) (pss_one (ps_ret (pe_tup (pa_cons pe_str (pa_cons (pv 2) pa_nil))))) pss_nil) (pss_one (ps_if (PW.pt (pw_or (pt_not (pt_truth (pe_call (ok_law_state T) (hr.mono (by decide)) (by rfl) T.g_law_state T.F_law_state.kp T.b_law_state .nil pass0 (pa_cons (pv 0) (pa_cons (pe_ix (ix_U (K := K) rfl (hu_of hr)) (pe_ix (ix_U (K := K) rfl (hu_of hr)) (pv 1) (pv 2) (fun _ _ => rfl)) pe_int (fun _ _ => rfl)) pa_nil))) (by intro _; rfl))) (pw_or1 (pt_not (pt_truth (pe_call (ok_law_state T) (hr.mono (by decide)) (by rfl) T.g_law_state T.F_law_state.kp T.b_law_state .nil pass0 (pa_cons (pv 0) (pa_cons (pe_ix (ix_U (K := K) rfl (hu_of hr)) (pe_ix (ix_U (K := K) rfl (hu_of hr)) (pv 1) (pv 2) (fun _ _ => rfl)) pe_int (fun _ _ => rfl)) pa_nil))) (by intro _; rfl)))))) (pss_one (ps_ret (pe_tup (pa_cons pe_str (pa_cons (pv 2) pa_nil))))) pss_nil)))) (pss_cons (ps_set (i := 3) sc_law_due.nd rfl (Or.inl rfl) (pe_call (ok_law_strict T) (hr.mono (by decide)) (by rfl) T.g_law_strict T.F_law_strict.kp T.b_law_strict .nil pass0 (pa_cons (pv 0) (pa_cons (pe_lc (own := [("_law_pair", 5)]) (g := gName 5) (by rfl) sc_law_due.nd (pi_sqK (K := K) rfl (pv 1)) (blkOk_by (own := [("_law_pair", 5)]) (N := ["_law_n", "_law_pairs", "_law_at", "_law_under", "_law_x", "_law_pair"]) (sc := defScope s_law_due) (by decide +kernel)) (fun _ _ _ _ _ => (pg_name (i := 5) sc_law_due.nd rfl (Or.inl rfl))) (fun _ _ _ _ _ => pts_nil) (fun _ _ _ _ _ => (pe_tupleOf (by rfl) T.n_tuple (pv 5)))) pa_nil)))) (pss_cons (ps_for PassesOwn.never rfl (pi_range1 (by rfl) T.n_range (pa_cons (pv 0) pa_nil)) (pg_name (i := 4) sc_law_due.nd rfl (Or.inl rfl)) (pss_one (ps_if (pt_truth (pe_ix (ix_U (K := K) rfl (hu_of hr)) (pe_ix (ix_U (K := K) rfl (hu_of hr)) (pv 3) (pv 4) (fun _ _ => rfl)) (pv 4) (fun _ _ => rfl)) (by intro _; rfl)) (pss_one (ps_ret (pe_tup (pa_cons pe_str (pa_cons (pv 4) pa_nil))))) pss_nil))) (pss_cons (ps_for PassesOwn.never rfl (pi_range2 (by rfl) T.n_range (pa_cons pe_int (pa_cons (pv 0) pa_nil))) (pg_name (i := 4) sc_law_due.nd rfl (Or.inl rfl)) (pss_one (ps_if (pt_not (pt_truth (pe_ix (ix_U (K := K) rfl (hu_of hr)) (pe_ix (ix_U (K := K) rfl (hu_of hr)) (pv 3) pe_int (fun _ _ => rfl)) (pv 4) (fun _ _ => rfl)) (by intro _; rfl))) (pss_one (ps_ret (pe_tup (pa_cons pe_str (pa_cons (pv 4) pa_nil))))) pss_nil))) (pss_one (ps_ret pe_non)))))))), def_run0 (N := ["_law_n", "_law_pairs", "_law_at", "_law_under", "_law_x", "_law_pair"]) (F := F_law_due) (ex := (0, .none, none)) (rs_seq (rs_if (r_or (r_not (r_tru (r_call0 (fun _ _ => by exact trivial) (ra_cons r_int (ra_cons r_var ra_nil))))) (r_test (r_op o_eq r_var r_int))) (rs_rt (r_tup (ra_cons r_str (ra_cons r_int ra_nil)))) rs_next) (rs_seq (rs_if (r_or (r_not (r_tru (r_isi2 r_var))) (r_test (r_op o_gt (r_cb o_len (ra_cons r_var ra_nil)) r_int))) (rs_rt (r_tup (ra_cons r_str (ra_cons r_int ra_nil)))) rs_next) (rs_seq (rs_for (r_rng1 (ra_cons (r_cb o_len (ra_cons r_var ra_nil)) ra_nil)) rg_name (rs_seq (rs_if (r_or (r_not (r_tru (r_isi2 (r_op o_ix r_var r_var)))) (r_test (r_op o_ne (r_cb o_len (ra_cons (r_op o_ix r_var r_var) ra_nil)) r_int))) (rs_rt (r_tup (ra_cons r_str (ra_cons r_var ra_nil)))) rs_next) (rs_if (r_or (r_not (r_tru (r_call0 (fun _ _ => by exact trivial) (ra_cons r_var (ra_cons (r_op o_ix (r_op o_ix r_var r_var) r_int) ra_nil))))) (r_not (r_tru (r_call0 (fun _ _ => by exact trivial) (ra_cons r_var (ra_cons (r_op o_ix (r_op o_ix r_var r_var) r_int) ra_nil)))))) (rs_rt (r_tup (ra_cons r_str (ra_cons r_var ra_nil)))) rs_next))) (rs_seq (rs_asg (r_call0 (fun _ _ => by exact trivial) (ra_cons r_var (ra_cons (r_lc (ri_sq r_var) (rgv_name (by decide)) r_yes (r_thn o_tuple r_var)) ra_nil))) rg_name) (rs_seq (rs_for (r_rng1 (ra_cons r_var ra_nil)) rg_name (rs_if (r_tru (r_op o_ix (r_op o_ix r_var r_var) r_var)) (rs_rt (r_tup (ra_cons r_str (ra_cons r_var ra_nil)))) rs_next)) (rs_seq (rs_for (r_rng2 (ra_cons r_int (ra_cons r_var ra_nil))) rg_name (rs_if (r_not (r_tru (r_op o_ix (r_op o_ix r_var r_int) r_var))) (rs_rt (r_tup (ra_cons r_str (ra_cons r_var ra_nil)))) rs_next)) (rs_rt r_non))))))) h⟩
def B1_law_spoilt : M Fl :=
    (rtM (opM addP (slM (varM 2) (M.ret none) (partM (varM 4))) (slM (varM 2) (partM (opM addP (varM 4) (M.ret (.fz (.int 1))))) (M.ret none))))
def B2_law_spoilt : M Fl :=
    (rtM (opM addP (opM addP (slM (varM 2) (M.ret none) (partM (varM 4))) (lstM ((setl (tupM ((setl (drawM (varM 0) (varM 1))).bind fun x => (((setl (drawM (varM 0) (varM 1))).bind fun x => ((M.ret [])).bind fun xs => M.ret (x :: xs))).bind fun xs => M.ret (x :: xs)))).bind fun x => ((M.ret [])).bind fun xs => M.ret (x :: xs)))) (slM (varM 2) (partM (varM 4)) (M.ret none))))
def B3_law_spoilt : M Fl :=
    (rtM (opM addP (opM addP (slM (varM 2) (M.ret none) (partM (varM 4))) (lstM ((setl (tupM ((setl (varM 1)).bind fun x => (((setl (M.ret (.fz (.int 0)))).bind fun x => ((M.ret [])).bind fun xs => M.ret (x :: xs))).bind fun xs => M.ret (x :: xs)))).bind fun x => ((M.ret [])).bind fun xs => M.ret (x :: xs)))) (slM (varM 2) (partM (varM 4)) (M.ret none))))
def B4_law_spoilt : M Fl :=
    (seqM (asgM (opM ixP (lstM ((setl (M.ret (.fz .non))).bind fun x => (((setl (unM negP (M.ret (.fz (.int 1))))).bind fun x => (((setl (M.ret (.fz (.str "1")))).bind fun x => (((setl (M.ret (.fz (.bl true)))).bind fun x => (((setl (opM powP (M.ret (.fz (.int 10))) (M.ret (.fz (.int 30))))).bind fun x => (((setl (varM 1)).bind fun x => ((M.ret [])).bind fun xs => M.ret (x :: xs))).bind fun xs => M.ret (x :: xs))).bind fun xs => M.ret (x :: xs))).bind fun xs => M.ret (x :: xs))).bind fun xs => M.ret (x :: xs))).bind fun xs => M.ret (x :: xs))) (drawM (varM 0) (M.ret (.fz (.int 6))))) (setM 5))
    (rtM (opM addP (opM addP (slM (varM 2) (M.ret none) (partM (varM 4))) (lstM ((setl (iteM (truM (drawM (varM 0) (M.ret (.fz (.int 2))))) (lstM ((setl (M.ret (.fz (.int 0)))).bind fun x => (((setl (varM 5)).bind fun x => ((M.ret [])).bind fun xs => M.ret (x :: xs))).bind fun xs => M.ret (x :: xs))) (lstM ((setl (varM 5)).bind fun x => (((setl (opM subP (varM 1) (M.ret (.fz (.int 1))))).bind fun x => ((M.ret [])).bind fun xs => M.ret (x :: xs))).bind fun xs => M.ret (x :: xs))))).bind fun x => ((M.ret [])).bind fun xs => M.ret (x :: xs)))) (slM (varM 2) (partM (varM 4)) (M.ret none)))))
def B5_law_spoilt : M Fl :=
    (rtM (opM addP (opM addP (slM (varM 2) (M.ret none) (partM (varM 4))) (lstM ((setl (opM ixP (lstM ((setl (M.ret (.fz .non))).bind fun x => (((setl (M.ret (.fz (.int 0)))).bind fun x => (((setl (M.ret (.fz (.str "01")))).bind fun x => (((setl (tupM (M.ret []))).bind fun x => (((setl (tupM ((setl (M.ret (.fz (.int 0)))).bind fun x => ((M.ret [])).bind fun xs => M.ret (x :: xs)))).bind fun x => (((setl (tupM ((setl (M.ret (.fz (.int 0)))).bind fun x => (((setl (M.ret (.fz (.int 0)))).bind fun x => (((setl (M.ret (.fz (.int 0)))).bind fun x => ((M.ret [])).bind fun xs => M.ret (x :: xs))).bind fun xs => M.ret (x :: xs))).bind fun xs => M.ret (x :: xs)))).bind fun x => ((M.ret [])).bind fun xs => M.ret (x :: xs))).bind fun xs => M.ret (x :: xs))).bind fun xs => M.ret (x :: xs))).bind fun xs => M.ret (x :: xs))).bind fun xs => M.ret (x :: xs))).bind fun xs => M.ret (x :: xs))) (drawM (varM 0) (M.ret (.fz (.int 6)))))).bind fun x => ((M.ret [])).bind fun xs => M.ret (x :: xs)))) (slM (varM 2) (partM (varM 4)) (M.ret none))))
def B6_law_spoilt : M Fl :=
    (rtM (opM addP (varM 2) (opM mulP (lstM ((setl (tupM ((setl (M.ret (.fz (.int 0)))).bind fun x => (((setl (M.ret (.fz (.int 0)))).bind fun x => ((M.ret [])).bind fun xs => M.ret (x :: xs))).bind fun xs => M.ret (x :: xs)))).bind fun x => ((M.ret [])).bind fun xs => M.ret (x :: xs))) (opM subP (opM ixP (lstM ((setl (M.ret (.fz (.int 599)))).bind fun x => (((setl (M.ret (.fz (.int 600)))).bind fun x => (((setl (M.ret (.fz (.int 601)))).bind fun x => ((M.ret [])).bind fun xs => M.ret (x :: xs))).bind fun xs => M.ret (x :: xs))).bind fun xs => M.ret (x :: xs))) (drawM (varM 0) (M.ret (.fz (.int 3))))) (cbM lenP ((setl (varM 2)).bind fun x => ((M.ret [])).bind fun xs => M.ret (x :: xs)))))))
def F_law_spoilt : M Fl :=
    (seqM (asgM (drawM (varM 0) (M.ret (.fz (.int 7)))) (setM 3))
    (seqM (asgM (drawM (varM 0) (opM addP (cbM lenP ((setl (varM 2)).bind fun x => ((M.ret [])).bind fun xs => M.ret (x :: xs))) (M.ret (.fz (.int 1))))) (setM 4))
    (seqM (iteM (testM (opM eqP (varM 3) (M.ret (.fz (.int 0))))) B1_law_spoilt (M.ret .nx))
    (seqM (iteM (testM (opM eqP (varM 3) (M.ret (.fz (.int 1))))) B2_law_spoilt (M.ret .nx))
    (seqM (iteM (testM (opM eqP (varM 3) (M.ret (.fz (.int 2))))) B3_law_spoilt (M.ret .nx))
    (seqM (iteM (testM (opM eqP (varM 3) (M.ret (.fz (.int 3))))) B4_law_spoilt (M.ret .nx))
    (seqM (iteM (testM (opM eqP (varM 3) (M.ret (.fz (.int 4))))) B5_law_spoilt (M.ret .nx))
    (seqM (iteM (testM (opM eqP (varM 3) (M.ret (.fz (.int 5))))) B6_law_spoilt (M.ret .nx))
    (rtM (lcM [6] (seqS (varM 2)) (setM 6) (testM (opM neP (opM ixP (varM 6) (M.ret (.fz (.int 1)))) (varM 4))) (varM 6)))))))))))
def den_law_spoilt : Den := denOf 7 F_law_spoilt
theorem ok_law_spoilt (T : Top K mg a) : FnOk P w K mg base CX0 3 a.f_law_spoilt a.d_law_spoilt ["_law_hand_here", "_law_n", "_law_pairs"] (spD K (cas a) 3 (noExc den_law_spoilt)) := by
  refine T.F_law_spoilt.ok sc_law_spoilt (fun vs H Q E h => spD_len vs H Q E h) (fun cdv A outer s H vs Q E hr h => ?_)
  exact ⟨_, (pss_cons (ps_set (i := 3) sc_law_spoilt.nd rfl (Or.inl rfl) (pe_call (ok_law_draw T) (hr.mono (by decide)) (by rfl) T.g_law_draw T.F_law_draw.kp T.b_law_draw .nil pass0 (pa_cons (pv 0) (pa_cons pe_int pa_nil)))) (pss_cons (ps_set (i := 4) sc_law_spoilt.nd rfl (Or.inr rfl) (pe_call (ok_law_draw T) (hr.mono (by decide)) (by rfl) T.g_law_draw T.F_law_draw.kp T.b_law_draw .nil pass0 (pa_cons (pv 0) (pa_cons (pe_op (op_addU (K := K) rfl) (pe_callB (call_lenK (K := K) rfl) (by rfl) T.n_len (by decide +kernel) (pa_cons (pv 2) pa_nil)) pe_int) pa_nil)))) (pss_cons (ps_if (pt_cmpR (op_eqK (K := K) rfl hr.units) (pv 3) pe_int (nomark _)) (pss_one (ps_ret (pe_op (op_addU (K := K) rfl) (pe_slice (slUK (K := K) rfl) (pv 2) po_none (po_some (pv 4))) (pe_slice (slUK (K := K) rfl) (pv 2) (po_some (pe_op (op_addU (K := K) rfl) (pv 4) pe_int)) po_none)))) pss_nil) (pss_cons (ps_if (pt_cmpR (op_eqK (K := K) rfl hr.units) (pv 3) pe_int (nomark _)) (pss_one (ps_ret (pe_op (op_addU (K := K) rfl) (pe_op (op_addU (K := K) rfl) (pe_slice (slUK (K := K) rfl) (pv 2) po_none (po_some (pv 4))) (pe_lst (pa_cons (pe_tup (pa_cons (pe_call (ok_law_draw T) (hr.mono (by decide)) (by rfl) T.g_law_draw T.F_law_draw.kp T.b_law_draw .nil pass0 (pa_cons (pv 0) (pa_cons (pv 1) pa_nil))) (pa_cons (pe_call (ok_law_draw T) (hr.mono (by decide)) (by rfl) T.g_law_draw T.F_law_draw.kp T.b_law_draw .nil pass0 (pa_cons (pv 0) (pa_cons (pv 1) pa_nil))) pa_nil))) pa_nil))) (pe_slice (slUK (K := K) rfl) (pv 2) (po_some (pv 4)) po_none)))) pss_nil) (pss_cons (ps_if (pt_cmpR (op_eqK (K := K) rfl hr.units) (pv 3) pe_int (nomark _)) (pss_one (ps_ret (pe_op (op_addU (K := K) rfl) (pe_op (op_addU (K := K) rfl) (pe_slice (slUK (K := K) rfl) (pv 2) po_none (po_some (pv 4))) (pe_lst (pa_cons (pe_tup (pa_cons (pv 1) (pa_cons pe_int pa_nil))) pa_nil))) (pe_slice (slUK (K := K) rfl) (pv 2) (po_some (pv 4)) po_none)))) pss_nil) (pss_cons (ps_if (pt_cmpR (op_eqK (K := K) rfl hr.units) (pv 3) pe_int (nomark _)) (pss_cons (ps_set (i := 5) sc_law_spoilt.nd rfl (Or.inl rfl) (pe_ix (ix_U (K := K) rfl (hu_of hr)) (pe_lst (pa_cons pe_non (pa_cons (pe_un un_neg pe_int) (pa_cons pe_str (pa_cons pe_bl (pa_cons (pe_op op_pow pe_int pe_int) (pa_cons (pv 1) pa_nil))))))) (pe_call (ok_law_draw T) (hr.mono (by decide)) (by rfl) T.g_law_draw T.F_law_draw.kp T.b_law_draw .nil pass0 (pa_cons (pv 0) (pa_cons pe_int pa_nil))) (fun _ _ => rfl))) (pss_one (ps_ret (pe_op (op_addU (K := K) rfl) (pe_op (op_addU (K := K) rfl) (pe_slice (slUK (K := K) rfl) (pv 2) po_none (po_some (pv 4))) (pe_lst (pa_cons (pe_ifExp (pt_truth (pe_call (ok_law_draw T) (hr.mono (by decide)) (by rfl) T.g_law_draw T.F_law_draw.kp T.b_law_draw .nil pass0 (pa_cons (pv 0) (pa_cons pe_int pa_nil))) (by intro _; rfl)) (pe_lst (pa_cons pe_int (pa_cons (pv 5) pa_nil))) (pe_lst (pa_cons (pv 5) (pa_cons (pe_op op_sub (pv 1) pe_int) pa_nil)))) pa_nil))) (pe_slice (slUK (K := K) rfl) (pv 2) (po_some (pv 4)) po_none))))) pss_nil) (pss_cons (ps_if (pt_cmpR (op_eqK (K := K) rfl hr.units) (pv 3) pe_int (nomark _)) (pss_one (ps_ret (pe_op (op_addU (K := K) rfl) (pe_op (op_addU (K := K) rfl) (pe_slice (slUK (K := K) rfl) (pv 2) po_none (po_some (pv 4))) (pe_lst (pa_cons (pe_ix (ix_U (K := K) rfl (hu_of hr)) (pe_lst (pa_cons pe_non (pa_cons pe_int (pa_cons pe_str (pa_cons (pe_tup pa_nil) (pa_cons (pe_tup (pa_cons pe_int pa_nil)) (pa_cons (pe_tup (pa_cons pe_int (pa_cons pe_int (pa_cons pe_int pa_nil)))) pa_nil))))))) (pe_call (ok_law_draw T) (hr.mono (by decide)) (by rfl) T.g_law_draw T.F_law_draw.kp T.b_law_draw .nil pass0 (pa_cons (pv 0) (pa_cons pe_int pa_nil))) (fun _ _ => rfl)) pa_nil))) (pe_slice (slUK (K := K) rfl) (pv 2) (po_some (pv 4)) po_none)))) pss_nil) (pss_cons (ps_if (pt_cmpR (op_eqK (K := K) rfl hr.units) (pv 3) pe_int (nomark _)) (pss_one (ps_ret (pe_op (op_addU (K := K) rfl) (pv 2) (pe_op op_mulU (pe_lst (pa_cons (pe_tup (pa_cons pe_int (pa_cons pe_int pa_nil))) pa_nil)) (pe_op op_sub (pe_ix (ix_U (K := K) rfl (hu_of hr)) (pe_lst (pa_cons pe_int (pa_cons pe_int (pa_cons pe_int pa_nil)))) (pe_call (ok_law_draw T) (hr.mono (by decide)) (by rfl) T.g_law_draw T.F_law_draw.kp T.b_law_draw .nil pass0 (pa_cons (pv 0) (pa_cons pe_int pa_nil))) (fun _ _ => rfl)) (pe_callB (call_lenK (K := K) rfl) (by rfl) T.n_len (by decide +kernel) (pa_cons (pv 2) pa_nil))))))) pss_nil) (pss_one (ps_ret (pe_lc (own := [("_law_pair", 6)]) (g := gName 6) (by rfl) sc_law_spoilt.nd (pi_sqK (K := K) rfl (pv 2)) (blkOk_by (own := [("_law_pair", 6)]) (N := ["_law_hand_here", "_law_n", "_law_pairs", "_law_way", "_law_at", "_law_odd", "_law_pair"]) (sc := defScope s_law_spoilt) (by decide +kernel)) (fun _ _ _ _ _ => (pg_name (i := 6) sc_law_spoilt.nd rfl (Or.inl rfl))) (fun _ _ _ _ _ => pts_one (pt_cmpR (op_neK (K := K) rfl hr.units) (pe_ix (ix_U (K := K) rfl (hu_of hr)) (pv 6) pe_int (fun _ _ => rfl)) (pv 4) (nomark _))) (fun _ _ _ _ _ => (pv 6))))))))))))), def_run0 (N := ["_law_hand_here", "_law_n", "_law_pairs", "_law_way", "_law_at", "_law_odd", "_law_pair"]) (F := F_law_spoilt) (ex := (0, .none, none)) (rs_seq (rs_asg (r_draw r_var r_int) rg_name) (rs_seq (rs_asg (r_draw r_var (r_op o_add (r_cb o_len (ra_cons r_var ra_nil)) r_int)) rg_name) (rs_seq (rs_if (r_test (r_op o_eq r_var r_int)) (rs_rt (r_op o_add (r_slc r_var ro_no (ro_part r_var)) (r_slc r_var (ro_part (r_op o_add r_var r_int)) ro_no))) rs_next) (rs_seq (rs_if (r_test (r_op o_eq r_var r_int)) (rs_rt (r_op o_add (r_op o_add (r_slc r_var ro_no (ro_part r_var)) (r_lst (ra_cons (r_tup (ra_cons (r_draw r_var r_var) (ra_cons (r_draw r_var r_var) ra_nil))) ra_nil))) (r_slc r_var (ro_part r_var) ro_no))) rs_next) (rs_seq (rs_if (r_test (r_op o_eq r_var r_int)) (rs_rt (r_op o_add (r_op o_add (r_slc r_var ro_no (ro_part r_var)) (r_lst (ra_cons (r_tup (ra_cons r_var (ra_cons r_int ra_nil))) ra_nil))) (r_slc r_var (ro_part r_var) ro_no))) rs_next) (rs_seq (rs_if (r_test (r_op o_eq r_var r_int)) (rs_seq (rs_asg (r_op o_ix (r_lst (ra_cons r_non (ra_cons (r_un o_neg r_int) (ra_cons r_str (ra_cons r_bl (ra_cons (r_op o_pow r_int r_int) (ra_cons r_var ra_nil))))))) (r_draw r_var r_int)) rg_name) (rs_rt (r_op o_add (r_op o_add (r_slc r_var ro_no (ro_part r_var)) (r_lst (ra_cons (r_if (r_tru (r_draw r_var r_int)) (r_lst (ra_cons r_int (ra_cons r_var ra_nil))) (r_lst (ra_cons r_var (ra_cons (r_op o_sub r_var r_int) ra_nil)))) ra_nil))) (r_slc r_var (ro_part r_var) ro_no)))) rs_next) (rs_seq (rs_if (r_test (r_op o_eq r_var r_int)) (rs_rt (r_op o_add (r_op o_add (r_slc r_var ro_no (ro_part r_var)) (r_lst (ra_cons (r_op o_ix (r_lst (ra_cons r_non (ra_cons r_int (ra_cons r_str (ra_cons (r_tup ra_nil) (ra_cons (r_tup (ra_cons r_int ra_nil)) (ra_cons (r_tup (ra_cons r_int (ra_cons r_int (ra_cons r_int ra_nil)))) ra_nil))))))) (r_draw r_var r_int)) ra_nil))) (r_slc r_var (ro_part r_var) ro_no))) rs_next) (rs_seq (rs_if (r_test (r_op o_eq r_var r_int)) (rs_rt (r_op o_add r_var (r_op o_mul (r_lst (ra_cons (r_tup (ra_cons r_int (ra_cons r_int ra_nil))) ra_nil)) (r_op o_sub (r_op o_ix (r_lst (ra_cons r_int (ra_cons r_int (ra_cons r_int ra_nil)))) (r_draw r_var r_int)) (r_cb o_len (ra_cons r_var ra_nil)))))) rs_next) (rs_rt (r_lc (ri_sq r_var) (rgv_name (by decide)) (r_test (r_op o_ne (r_op o_ix r_var r_int) r_var)) r_var)))))))))) h⟩
def F_law_told : M Fl :=
    (seqM (tryM subs (asgM (makeM 4 2 den_Order_init [] ((setl (varM 0)).bind fun x => (((setl (varM 1)).bind fun x => ((M.ret [])).bind fun xs => M.ret (x :: xs))).bind fun xs => M.ret (x :: xs))) (setM 2)) [⟨1, some 3, (seqM (iteM (orM (notM (truM (xisM 1 true 3))) (notM (truM (xisM 1 true 3)))) (rtM (tupM ((setl (M.ret (.fz (.str "base")))).bind fun x => (((setl (M.ret (.fz (.int 0)))).bind fun x => ((M.ret [])).bind fun xs => M.ret (x :: xs))).bind fun xs => M.ret (x :: xs)))) (M.ret .nx))
    (seqM (iteM (truM (xis2M 1 false 3)) (rtM (tupM ((setl (M.ret (.fz (.str "kin")))).bind fun x => (((setl (M.ret (.fz (.int 0)))).bind fun x => ((M.ret [])).bind fun xs => M.ret (x :: xs))).bind fun xs => M.ret (x :: xs)))) (M.ret .nx))
    (rtM (tupM ((setl (xfM 1 3 "what")).bind fun x => (((setl (xfM 1 3 "at")).bind fun x => ((M.ret [])).bind fun xs => M.ret (x :: xs))).bind fun xs => M.ret (x :: xs))))))⟩])
    (rtM (iteM (testM (opM eqP (fldM fo_n "n" (varM 2)) (varM 0))) (M.ret (.fz .non)) (tupM ((setl (M.ret (.fz (.str "n")))).bind fun x => (((setl (M.ret (.fz (.int 0)))).bind fun x => ((M.ret [])).bind fun xs => M.ret (x :: xs))).bind fun xs => M.ret (x :: xs))))))
def den_law_told : Den := denOf 4 F_law_told
theorem ok_law_told (T : Top K mg a) : FnOk P w K mg base CX0 6 a.f_law_told a.d_law_told ["_law_n", "_law_pairs"] (spD K (cas a) 2 (noExc den_law_told)) := by
  refine T.F_law_told.ok sc_law_told (fun vs H Q E h => spD_len vs H Q E h) (fun cdv A outer s H vs Q E hr h => ?_)
  exact ⟨_, (pss_cons (ps_try_mas rfl rfl sc_law_told.nd takes0 (fun W pn xe tk po => (pss_one (ps_set (i := 2) sc_law_told.nd rfl (Or.inl rfl) (pe_makeS T.mk_Order (ok_Order_init T) (hr.mono (by decide)) (by rfl) T.gc_Order T.b_Order_init .nil (fun σ => passAt tk σ) (pa_cons (pv 0) (pa_cons (pv 1) pa_nil)))))) (HdsAs.cons (i := 3) rfl rfl ⟨by rfl, by decide, Or.inl T.gc_BadOrder⟩ (fun aa oe cls d pn hz hf => (pss_cons (ps_if (PW.pt (pw_or (pt_not (pt_truth (pe_callB (call_isF T.xc_BadOrder hz hf) (by rfl) T.n_isinstance (by decide +kernel) (pa_cons (pv 3) (pa_cons (pe_glob (v := .ref a.c_FrameError) (by rfl) T.gc_FrameError rfl) pa_nil))) (by intro _; rfl))) (pw_or1 (pt_not (pt_truth (pe_callB (call_isF T.xc_BadOrder hz hf) (by rfl) T.n_isinstance (by decide +kernel) (pa_cons (pv 3) (pa_cons (pe_bltn (v := .ty "ValueError") (u := .type "ValueError") (by rfl) T.n_ValueError (by decide +kernel) rfl) pa_nil))) (by intro _; rfl)))))) (pss_one (ps_ret (pe_tup (pa_cons pe_str (pa_cons pe_int pa_nil))))) pss_nil) (pss_cons (ps_if (pt_truth (pe_callB (call_isF2 (K := K) rfl T.xc_BadOrder hz hf) (by rfl) T.n_isinstance (by decide +kernel) (pa_cons (pv 3) (pa_cons (pe_tup (pa_cons (pe_glob (v := .ref a.c_BadMake) (by rfl) T.gc_BadMake rfl) (pa_cons (pe_glob (v := .ref a.c_BadData) (by rfl) T.gc_BadData rfl) pa_nil))) pa_nil))) (by intro _; rfl)) (pss_one (ps_ret (pe_tup (pa_cons pe_str (pa_cons pe_int pa_nil))))) pss_nil) (pss_one (ps_ret (pe_tup (pa_cons (pe_xf T.xf_BadOrder T.no_BadOrder_what hz hf (pv 3)) (pa_cons (pe_xf T.xf_BadOrder T.no_BadOrder_at hz hf (pv 3)) pa_nil)))))))) HdsAs.nil)) (pss_one (ps_ret (pe_ifExp (pt_cmpR (op_eqK (K := K) rfl hr.units) (pe_fld (pv 2) rfl) (pv 0) (nomark _)) pe_non (pe_tup (pa_cons pe_str (pa_cons pe_int pa_nil))))))), def_run0 (N := ["_law_n", "_law_pairs", "_law_order_here", "raised"]) (F := F_law_told) (ex := (0, .none, none)) (rs_seq (rs_try (fun _ => (rs_asg (r_makeS (C := 4) (fun _ _ => by exact trivial) (fun _ _ _ _ h => h) (ra_cons r_var (ra_cons r_var ra_nil))) rg_name)) (HdsOk.cons (c := 1) (exm_BadOrder T) (fun _ _ _ => (rs_seq (rs_if (r_or (r_not (r_tru (r_isF (c := .ref a.c_FrameError) (cv := .ref a.c_FrameError) (fun u r => r) T.ki_BadOrder_FrameError))) (r_not (r_tru (r_isF (c := .ty "ValueError") (cv := .type "ValueError") (fun u r => r) T.ki_BadOrder_ValueError)))) (rs_rt (r_tup (ra_cons r_str (ra_cons r_int ra_nil)))) rs_next) (rs_seq (rs_if (r_tru (r_isF2 (D := 1) (kit_two T.ki_BadOrder_BadMake T.ki_BadOrder_BadData))) (rs_rt (r_tup (ra_cons r_str (ra_cons r_int ra_nil)))) rs_next) (rs_rt (r_tup (ra_cons (r_xf (c := 1)) (ra_cons (r_xf (c := 1)) ra_nil))))))) HdsOk.nil)) (rs_rt (r_if (r_test (r_op o_eq (r_fld (fk_n T) r_var) r_var)) r_non (r_tup (ra_cons r_str (ra_cons r_int ra_nil)))))) h⟩
end
end LW
namespace LW
open PySem PySem.Spec PyProof.Rows L2 L3 L4
local macro_rules | `(tactic| walk_at "ev") => `(tactic| simp only [bindO_val, bindO_exc, bindO_need, bindO_stuck, bindO_draw, bindO_ite, bind_ret, bind_need, bind_stuck, bind_draw, bind_ite, app_bind, app_ret, app_stuck, app_lift, app_ite, app_setl, stl_fz, stl_bw, stl_ow, app_var, varK_fz, varK_ow, app_vw_fz, app_vw_bw, bwV_some, lstOf_ow, lstOf_fz, app_frz_fz, app_frz_ow, app_frz_bw, app_frzD, nh_non, nh_bl, nh_int, nh_str, nh_tup, nh_lst, nh_ins, nh_ty, nh_cls, app_op, app_un, app_cb, app_vwA_nil, app_vwA_cons, app_frzA_nil, app_frzA_cons, app_frzC_nil, app_frzC_cons, app_liftR, fv_fz, fv_ow, app_tup, app_lst, app_call, app_out, outK_ok, outK_err, noK_ok, app_test, testK_bl, app_and, app_or, app_not, app_tru, app_iteM, app_blM, app_andT, app_orT, app_notT, app_chain, chainK_bl, app_seq, seqK_nx, seqK_rt, seqK_bk, seqK_ct, app_asg, app_rt, rtv_fz, rtv_ow, rtv_bw, rtS_ow, rtS_fz, app_drop, set_fz, set_ow, set_bw, app_tupTg, tupTK_tup, app_tgs_nil, app_tgs_cons, app_store, storeK_bw, stS_ow, stN_some, stS_K, stS_T, stK_some, stT_some, stl_nd, varK_oi, varK_od, lstOf_od, lstOf_fzK, lstOf_fzT, app_frz_nd, nh_dK, nh_dT, rtv_nd, rtS_od, set_nd, app_dnewK, app_dnewT, app_fld, fldV_fz, fldV_bw, fldS_oi, fldS_fz, app_fldK, fldG_some, app_sfld, sfldK_oi, app_make, app_outI, outIK_ok, outIK_err, app_meth, methO_fz, app_prop, propO_fz, app_callK, app_xis2, xis2K_xc, app_lc2, boolP, max2P, min2P, divmodP, insertP, sortK, sortedP, reprP, dicP, gotK, keyK, keyA, keyT, getZ, setZ, putZk, putZd, mixK, List.any_nil, List.any_cons, List.flatMap_cons, List.flatMap_nil, List.drop_zero, List.drop_succ_cons, List.take_succ_cons, List.take_zero, app_bm, isLst_lst, bmK_bw, bmS_ow, app_index, app_draw, drawK_hand, app_sl, app_part, partK_int, app_isi2, app_rg1, rg1K_f, rg1K_t, app_rg2, rg2K_f, rg2K_t, app_rng1, rng1K_int, app_rng2, rng2K_int, app_seqS, items_lst, items_tup, app_enum1, app_for, app_lc, wipe_nil, wipe_cons, app_raise, app_raise0, app_try, tryK_val, tryK_exc, hdM_nil, hdM_some, hdM_none, app_xf, xfK_xc, xfL_some, app_xis, xisK_xc, app_aug, app_par, parK_two, endK_nx, endK_rt, endK_exc, wp_ret, wp_need, wp_stuck, wp_draw, wp_ite, wp_bindO, afterO_val, afterO_exc, stepP_nx, stepP_ct, stepP_bk, stepP_rt, stepP_exc, testP_t, testP_f, testP_b, eltP_fz, eltP_ow, eltP_nd, tstP_b, wp_bindO, app_den, app_noExc, noK_ok, p2I, p2C, subP, L4.ltP, leP, gtP, geP, fdivP, modP, powP, shlP, shrP, bandP, borP, bxorP, addP, mulP, eqP, neP, isNonD, isNP, notNP, isBlD, isBP, negP, invP, itP, ixP, lenP, int1P, absP, listP, tupleP, sumK, sumP, anyK, anyP, allP, mxK, maxP, minP, tyB, basicD, blK, isiP, orO, slP, appendP, extendP, popK, popAt, popAtP, popL, popP, reverseP, clearP, natK, indexP, inP, ninP, truV, cleanK, bareK, noXc, subs, subRow, List.lookup, List.map_cons, List.map_nil, List.nil_append, List.cons_append, List.length_cons, List.length_nil, List.replicate_succ, List.replicate_zero, Nat.reduceSub, Nat.reduceAdd, Nat.zero_add, List.getElem?_cons_zero, List.getElem?_cons_succ, List.getElem?_nil, List.set_cons_zero, List.set_cons_succ, List.append_nil, if_true, if_false, ite_true, ite_false, Bool.false_eq_true, Bool.not_true, Bool.not_false, decide_eq_true_eq, Bool.not_eq_true', decide_eq_false_iff_not, true_and, and_true, Bool.true_eq_false, reduceIte, reduceCtorEq, Bool.or_true, Bool.or_false, Bool.true_or, Bool.false_or, Bool.and_true, Bool.and_false, Bool.true_and, Bool.false_and, not_true_eq_false, not_false_eq_true, List.zip_cons_cons, List.zip_nil_left, List.zip_nil_right, List.reverse_cons, List.reverse_nil, List.getD_cons_zero, List.getD_cons_succ, String.reduceEq])
section
variable {P : Program} {w : World} {K : PySem.W.Frag} {mg : Str → Option Value} {base : Heap} {a : Adr}
abbrev Bits := List (List Bool)
def getB (R : Bits) (x y : Nat) : Bool := (R.getD x []).getD y false
def setB (R : Bits) (x y : Nat) : Bits := R.set x ((R.getD x []).set y true)
def stepB (m x : Nat) (R : Bits) (y : Nat) : Bits := if getB R x m && getB R m y then setB R x y else R
def rowB (n m : Nat) (R : Bits) (x : Nat) : Bits := (List.range n).foldl (stepB m x) R
def midB (n : Nat) (R : Bits) (m : Nat) : Bits := (List.range n).foldl (rowB n m) R
def closedB (n : Nat) (R : Bits) : Bits := (List.range n).foldl (midB n) R
def initC (ps : List PV) (x y : Nat) : Bool := decide (x = y) || (decide (x = 0) || inD (.tup [.int (x : Nat), .int (y : Nat)]) ps)
def initB (n : Nat) (ps : List PV) : Bits := (List.range n).map fun x => (List.range n).map (initC ps x)
def bitsP (R : Bits) : PV := .lst (R.map fun r => .lst (r.map PV.bl))
def den_law_closed : Den := fun ds => match ds with
  | [.int n, .lst ps] => .need (0 ≤ n ∧ n ≤ 1000 ∧ okD (.lst ps)) (.ret (.ok (.fz (bitsP (closedB n.toNat (initB n.toNat ps))))))
  | _ => .stuck
theorem den_closed_of {ds : List PV} {Q : Except Xc Rv → Prop} (h : wp (den_law_closed ds) Q) : ∃ n ps, ds = [.int n, .lst ps] ∧ 0 ≤ n ∧ n ≤ 1000 ∧ okD (.lst ps) ∧ Q (.ok (.fz (bitsP (closedB n.toNat (initB n.toNat ps))))) := by
  unfold den_law_closed at h
  split at h
  · rename_i n ps
    exact ⟨n, ps, rfl, h.1.1, h.1.2.1, h.1.2.2, h.2⟩
  · exact h.elim
/-- the table stands at p, its rows at qs -/
def rsOf (p : Addr) (qs : List Addr) (R : Bits) : List (Addr × List V) := (p, qs.map V.ref) :: qs.zip (R.map fun r => r.map V.bl)
theorem rs_row {p : Addr} {qs : List Addr} {R : Bits} {k : Nat} {q : Addr} {r : List Bool} (h1 : qs[k]? = some q) (h2 : R[k]? = some r) : (q, r.map V.bl) ∈ rsOf p qs R := by
  refine List.mem_cons_of_mem _ (List.mem_of_getElem? (i := k) ?_)
  rw [List.getElem?_zip_eq_some]
  exact ⟨h1, by rw [List.getElem?_map, h2]; rfl⟩
theorem rs_old {p : Addr} {qs : List Addr} {R : Bits} {k : Nat} {q : Addr} {r' : List Bool} (nd : (p :: qs).Nodup) (h1 : qs[k]? = some q) (x : Addr × List V) (hx : x ∈ rsOf p qs (R.set k r')) : x = (q, r'.map V.bl) ∨ (x ∈ rsOf p qs R ∧ x.1 ≠ q) := by
  have nd' := List.nodup_cons.mp nd
  rcases List.mem_cons.mp hx with rfl | hx
  · exact .inr ⟨List.mem_cons_self, fun z => nd'.1 (by have z : p = q := z; rw [z]; exact List.mem_of_getElem? h1)⟩
  · obtain ⟨j, hj⟩ := List.mem_iff_getElem?.mp hx
    obtain ⟨e1, e2⟩ := List.getElem?_zip_eq_some.mp hj
    rw [List.getElem?_map] at e2
    by_cases hjk : j = k
    · subst hjk
      left
      rw [h1] at e1
      have lt : j < R.length := by
        apply Classical.byContradiction
        intro h
        rw [List.getElem?_eq_none (by rw [List.length_set]; omega)] at e2
        cases e2
      rw [List.getElem?_set_self lt] at e2
      cases x
      cases e1
      cases e2
      rfl
    · right
      rw [List.getElem?_set_ne (fun z => hjk z.symm)] at e2
      refine ⟨List.mem_cons_of_mem _ (List.mem_of_getElem? (i := j) (List.getElem?_zip_eq_some.mpr ⟨e1, by rw [List.getElem?_map]; exact e2⟩)), fun z => hjk ?_⟩
      exact (List.getElem?_inj (List.getElem?_eq_some_iff.mp e1).1 nd'.2).mp (by rw [e1, h1, z])
theorem rs_add {p q : Addr} {qs : List Addr} {R : Bits} {r : List Bool} (l : qs.length = R.length) (x : Addr × List V) (hx : x ∈ rsOf p (qs ++ [q]) (R ++ [r])) : x = (p, (qs ++ [q]).map V.ref) ∨ x = (q, r.map V.bl) ∨ x ∈ qs.zip (R.map fun r => r.map V.bl) := by
  rcases List.mem_cons.mp hx with rfl | hx
  · exact .inl rfl
  · rw [List.map_append, List.zip_append (by rw [List.length_map]; exact l)] at hx
    rcases List.mem_append.mp hx with hx | hx
    · exact .inr (.inr hx)
    · exact .inr (.inl (List.mem_singleton.mp hx))
theorem zip_addr {q : Addr} {qs : List Addr} {R : Bits} {x : Addr × List V} (hq : q ∉ qs) (hx : x ∈ qs.zip (R.map fun r => r.map V.bl)) : x.1 ≠ q := fun z => hq (z ▸ (List.of_mem_zip (a := x.1) (b := x.2) hx).1)
/-- all of the table stays from now on -/
theorem bits_freeze {K : PySem.W.Frag} {ca : Nat → Addr} {ex : Ex} {g : Gh} {H : Hp} {p : Addr} : ∀ (qs : List Addr) (R : Bits) (us : List V) (ds : List PV) (I : Hp), qs.Nodup → p ∉ qs → qs.length = R.length → DvA K ca I us ds → Good K ca ex { g with rs := (p, us ++ qs.map V.ref) :: qs.zip (R.map fun r => r.map V.bl) } I H [] [] →
    ∃ I', Same I I' ∧ Good K ca ex { g with rs := [(p, us ++ qs.map V.ref)] } I' H [] [] ∧ DvA K ca I' (us ++ qs.map V.ref) (ds ++ R.map fun r => .lst (r.map PV.bl))
  | [], [], us, ds, I, _, _, _, d, G => ⟨I, Same.refl I, by simpa using G, by simpa using d⟩
  | q :: qs, r :: R, us, ds, I, nd, hp, l, d, G => by
    have nd' := List.nodup_cons.mp nd
    have dr : DvA K ca I (r.map V.bl) (r.map PV.bl) := by
      clear G l
      induction r with
      | nil => exact .nil
      | cons b r ih => exact .cons (.bl b) ih
    obtain ⟨G1, S1, dq⟩ := G.rsFreeze (p := q) (us := r.map V.bl) (ds := r.map PV.bl) (rs' := (p, us ++ (q :: qs).map V.ref) :: qs.zip (R.map fun r => r.map V.bl)) (by simp) dr fun x hx => by
      rcases List.mem_cons.mp hx with rfl | hx
      · exact ⟨List.mem_cons_self, fun z => hp (by have z : p = q := z; rw [z]; exact List.mem_cons_self)⟩
      · exact ⟨by simp only [List.map_cons, List.zip_cons_cons]; exact List.mem_cons_of_mem _ (List.mem_cons_of_mem _ hx), zip_addr nd'.1 hx⟩
    have e : us ++ (q :: qs).map V.ref = (us ++ [V.ref q]) ++ qs.map V.ref := by simp
    rw [e] at G1
    obtain ⟨I', S2, G2, d2⟩ := bits_freeze qs R (us ++ [V.ref q]) (ds ++ [.lst (r.map PV.bl)]) _ nd'.2 (fun z => hp (List.mem_cons_of_mem _ z)) (by simpa using l) (DvA.append (d.up S1) (.cons dq .nil)) G1
    refine ⟨I', S1.trans S2, by rw [e]; exact G2, ?_⟩
    rw [e]
    have e2 : ds ++ (r :: R).map (fun r => PV.lst (r.map PV.bl)) = (ds ++ [.lst (r.map PV.bl)]) ++ R.map fun r => .lst (r.map PV.bl) := by simp
    rw [e2]
    exact d2
theorem setB_len {R : Bits} {x y : Nat} : (setB R x y).length = R.length := List.length_set
/-- n rows of n bits -/
def Sq (n : Nat) (R : Bits) : Prop := R.length = n ∧ ∀ (x : Nat) (r : List Bool), R[x]? = some r → r.length = n
theorem Sq.row {n : Nat} {R : Bits} {x : Nat} (h : Sq n R) (hx : x < n) : R[x]? = some (R.getD x []) ∧ (R.getD x []).length = n := by
  have lt : x < R.length := by rw [h.1]; exact hx
  have e : R[x]? = some (R.getD x []) := by rw [List.getD_eq_getElem?_getD, List.getElem?_eq_getElem lt]; rfl
  exact ⟨e, h.2 x _ e⟩
theorem Sq.bit {n : Nat} {R : Bits} {x y : Nat} (h : Sq n R) (hx : x < n) (hy : y < n) : (R.getD x [])[y]? = some (getB R x y) := by
  have lt : y < (R.getD x []).length := by rw [(h.row hx).2]; exact hy
  unfold getB
  rw [List.getElem?_eq_getElem lt]
  show _ = some (((R.getD x [])[y]?).getD false)
  rw [List.getElem?_eq_getElem lt]
  rfl
theorem Sq.set {n : Nat} {R : Bits} {x y : Nat} (h : Sq n R) (hx : x < n) : Sq n (setB R x y) := by
  refine ⟨by rw [setB_len]; exact h.1, fun k r e => ?_⟩
  unfold setB at e
  by_cases hk : k = x
  · subst hk
    rw [List.getElem?_set_self (by rw [h.1]; exact hx)] at e
    cases e
    rw [List.length_set]
    exact (h.row hx).2
  · rw [List.getElem?_set_ne (fun z => hk z.symm)] at e
    exact h.2 k r e
theorem Sq.step {n m x y : Nat} {R : Bits} (h : Sq n R) (hx : x < n) : Sq n (stepB m x R y) := by
  unfold stepB
  split
  · exact h.set hx
  · exact h
theorem Sq.fold {n : Nat} {f : Bits → Nat → Bits} (hf : ∀ R k, k < n → Sq n R → Sq n (f R k)) : ∀ (i : Nat), i ≤ n → ∀ {R : Bits}, Sq n R → Sq n ((List.range i).foldl f R)
  | 0, _, R, h => h
  | i + 1, hi, R, h => by
    rw [List.range_succ, List.foldl_append]
    exact hf _ i (by omega) (Sq.fold hf i (by omega) h)
theorem Sq.rowB {n m x : Nat} {R : Bits} (h : Sq n R) (hx : x < n) : Sq n (rowB n m R x) := Sq.fold (fun _ _ _ z => z.step hx) n (Nat.le_refl _) h
theorem Sq.midB {n m : Nat} {R : Bits} (h : Sq n R) : Sq n (midB n R m) := Sq.fold (fun _ _ hx z => z.rowB hx) n (Nat.le_refl _) h
theorem Sq.init {n : Nat} {ps : List PV} : Sq n (initB n ps) := by
  refine ⟨by unfold initB; rw [List.length_map, List.length_range], fun x r e => ?_⟩
  unfold initB at e
  rw [List.getElem?_map] at e
  cases e2 : (List.range n)[x]? with
  | none => rw [e2] at e; cases e
  | some y => rw [e2] at e; cases e; rw [List.length_map, List.length_range]
theorem closedB_sq {n : Nat} {R : Bits} (h : Sq n R) : Sq n (closedB n R) := Sq.fold (fun _ _ _ z => z.midB) n (Nat.le_refl _) h
theorem w_yes {σ : L2.St} {H : Hp} {A B : Hp → Prop} (h : A H) : tYes σ H (fun b H3 => if b = true then A H3 else B H3) := by
  show (if true = true then A H else B H)
  rw [if_pos rfl]
  exact h
/-- an item of the first table -/
theorem init_item {K : PySem.W.Frag} {ca : Nat → Addr} {ex : Ex} : Rt K ca (fun _ _ _ _ => False) ex (tOrV (tOp (rEqD K) (tVar 4) (tVar 5)) (tOrV (tOp (rEqD K) (tVar 4) (tC (.int 0))) (tOp (rInU K) (tTup (tCons (tVar 4) (tCons (tVar 5) tNil))) (tVar 1)))) 
    (iteM (testM (opM eqP (varM 4) (varM 5))) (M.ret (.fz (.bl true))) (iteM (testM (opM eqP (varM 4) (M.ret (.fz (.int 0))))) (M.ret (.fz (.bl true))) (opM inP (tupM ((setl (varM 4)).bind fun x => ((setl (varM 5)).bind fun x => (M.ret []).bind fun xs => M.ret (x :: xs)).bind fun xs => M.ret (x :: xs))) (varM 1)))) :=
  r_orV (r_op o_eq r_var r_var) (r_orV (r_op o_eq r_var r_int) (r_op o_in (r_tup (ra_cons r_var (ra_cons r_var ra_nil))) r_var))
theorem init_wp {n : Int} {ps : List PV} {x y : Nat} {Q : Fv → S4 → Prop} {X : Xc → S4 → Prop} (ok : okD (.lst ps)) (q : Q (.fz (.bl (initC ps x y))) [.fz (.int n), .fz (.lst ps), .no, .no, .fz (.int (x : Nat)), .fz (.int (y : Nat))]) :
    wpM (iteM (testM (opM eqP (varM 4) (varM 5))) (M.ret (.fz (.bl true))) (iteM (testM (opM eqP (varM 4) (M.ret (.fz (.int 0))))) (M.ret (.fz (.bl true))) (opM inP (tupM ((setl (varM 4)).bind fun x => ((setl (varM 5)).bind fun x => (M.ret []).bind fun xs => M.ret (x :: xs)).bind fun xs => M.ret (x :: xs))) (varM 1))))
      [.fz (.int n), .fz (.lst ps), .no, .no, .fz (.int (x : Nat)), .fz (.int (y : Nat))] Q X := by
  unfold wpM
  refine Wp.run ?_
  have okI : ∀ i : Int, okD (.int i) := fun i => ⟨rfl, by show 0 ≤ 64; decide⟩
  have okT : okD (.tup [.int (x : Nat), .int (y : Nat)]) := ⟨rfl, by show max 0 (max 0 0) + 1 ≤ 64; decide⟩
  unfold initC at q
  walk_at "ev"
  have e1 : PV.eqv (.int (x : Int)) (.int (y : Int)) = decide (x = y) := by
    show ((x : Int) == (y : Int)) = _
    by_cases h : x = y
    · subst h; simp
    · rw [decide_eq_false h]; simp; omega
  have e2 : PV.eqv (.int (x : Int)) (.int 0) = decide (x = 0) := by
    show ((x : Int) == 0) = _
    by_cases h : x = 0
    · subst h; simp
    · rw [decide_eq_false h]; simp; omega
  refine ⟨⟨okI _, okI _⟩, ?_⟩
  rw [e1]
  by_cases h : x = y
  · rw [decide_eq_true h] at q ⊢
    exact q
  · rw [decide_eq_false h] at q ⊢
    refine ⟨⟨okI _, okI _⟩, ?_⟩
    rw [e2]
    by_cases h : x = 0
    · rw [decide_eq_true h] at q ⊢
      exact q
    · rw [decide_eq_false h] at q ⊢
      exact ⟨by decide, ⟨okT, ok⟩, q⟩
theorem ok_law_closed (T : Top K mg a) : FnOk P w K mg base CX0 1 a.f_law_closed a.d_law_closed ["_law_n", "_law_pairs"] (spD K (cas a) 2 (noExc den_law_closed)) := by
  refine T.F_law_closed.ok sc_law_closed (fun vs H Q E h => spD_len vs H Q E h) (fun cdv A outer s H vs Q E hr h => ?_)
  refine ⟨_, (pss_cons (ps_setLc (i := 2) (own := [("_law_x", 4)]) (g := gName 4) (by rfl) sc_law_closed.nd rfl rfl (sw_true rfl rfl rfl (by decide +kernel)) (pi_range1 (by rfl) T.n_range (pa_cons (pv 0) pa_nil)) (blkOk_by (own := [("_law_x", 4)]) (N := ["_law_n", "_law_pairs", "_law_below", "_law_mid", "_law_x", "_law_y"]) (sc := defScope s_law_closed) (by decide +kernel)) (fun _ _ _ _ _ => (pg_name (i := 4) sc_law_closed.nd rfl (Or.inr rfl))) (fun _ _ _ _ _ => pts_nil) (fun _ _ _ _ _ => (pe_lc (own := [("_law_y", 5)]) (g := gName 5) (by rfl) sc_law_closed.nd (pi_range1 (by rfl) T.n_range (pa_cons (pv 0) pa_nil)) (blkOk_by (own := [("_law_y", 5)]) (N := ["_law_n", "_law_pairs", "_law_below", "_law_mid", "_law_x", "_law_y"]) (by dsimp only [Cx.blk, compEnvC, relabel, cxOf, envOfC, Cx.nox, Env.kindOf]; first | decide +kernel | kernel_rfl | rfl)) (fun _ _ _ _ _ => (pg_name (i := 5) sc_law_closed.nd rfl (Or.inl rfl))) (fun _ _ _ _ _ => pts_nil) (fun _ _ _ _ _ => (pe_or (pe_cmpR (op_eqK (K := K) rfl hr.units) (pv 4) (pv 5) (nomark _)) (pe_or (pe_cmpR (op_eqK (K := K) rfl hr.units) (pv 4) pe_int (nomark _)) (pe_one (pe_cmpR (op_inU (K := K) rfl (units65 hr)) (pe_tup (pa_cons (pv 4) (pa_cons (pv 5) pa_nil))) (pv 1) (by rfl))))))))) (pss_cons (ps_for PassesOwn.never rfl (pi_range1 (by rfl) T.n_range (pa_cons (pv 0) pa_nil)) (pg_name (i := 3) sc_law_closed.nd rfl (Or.inl rfl)) (pss_one (ps_for PassesOwn.never rfl (pi_range1 (by rfl) T.n_range (pa_cons (pv 0) pa_nil)) (pg_name (i := 4) sc_law_closed.nd rfl (Or.inl rfl)) (pss_one (ps_for PassesOwn.never rfl (pi_range1 (by rfl) T.n_range (pa_cons (pv 0) pa_nil)) (pg_name (i := 5) sc_law_closed.nd rfl (Or.inl rfl)) (pss_one (ps_if (PW.pt (pw_and (pt_truth (pe_ix (ix_U (K := K) rfl (hu_of hr)) (pe_ix (ix_U (K := K) rfl (hu_of hr)) (pv 2) (pv 4) (fun _ _ => rfl)) (pv 3) (fun _ _ => rfl)) (by intro _; rfl)) (pw_and1 (pt_truth (pe_ix (ix_U (K := K) rfl (hu_of hr)) (pe_ix (ix_U (K := K) rfl (hu_of hr)) (pv 2) (pv 3) (fun _ _ => rfl)) (pv 5) (fun _ _ => rfl)) (by intro _; rfl))))) (pss_one (ps_asg pe_bl (pg_sub (pe_ix (ix_U (K := K) rfl (hu_of hr)) (pv 2) (pv 4) (fun _ _ => rfl)) (pv 5) (set_U (hu_of hr))))) pss_nil))))))) (pss_one (ps_ret (pv 2))))), ?_⟩
  obtain ⟨I, hh, ds, l, hd, d, w⟩ := h
  obtain ⟨n, ps, rfl, n0, n1, okp, q⟩ := den_closed_of (wp_noExc.mp w)
  obtain ⟨v1, v2, rfl, d1, d2⟩ : ∃ v1 v2, vs = [v1, v2] ∧ Dh K (cas a) hh I v1 (.int n) ∧ Dh K (cas a) hh I v2 (.lst ps) := by
    match vs, d with
    | [v1, v2], ⟨d1, d2, _⟩ => exact ⟨v1, v2, rfl, d1, d2⟩
  replace d1 : Dv K (cas a) I v1 (.int n) := d1.resolve_left fun z => nomatch z.1
  replace d2 : Dv K (cas a) I v2 (.lst ps) := d2.resolve_left fun z => nomatch z.1
  cases d1
  have G0 : Good K (cas a) (0, .none, none) ⟨I, H, hh, [], I, none⟩ I H [] [] := good_start (N := []) (vs := []) (ds := []) hd trivial
  have line : sizeLine = 16777216 := sizeLine_eq
  change (tSeq _ _) _ [some (.int n), some v2, none, none, none, none] H
  refine w_seq (w_asg ?_)
  refine w_lcR1 n0 (by omega) (fun Q q => ⟨_, rfl, q⟩) fun E hE => ?_
  refine ⟨fun i H1 => ∃ I1 qs, qs.length = i ∧ (E :: qs).Nodup ∧ Good K (cas a) (0, .none, none) ⟨I, H, hh, rsOf E qs ((initB n.toNat ps).take i), I, none⟩ I1 H1 [] [], ⟨I, [], rfl, by simp, G0.addRes0 (o := []) hE⟩, ?_, ?_⟩
  · rintro i H1 hi ⟨I1, qs, lq, nd, G⟩
    refine w_name ⟨rfl, ?_⟩
    refine w_yes ?_
    refine w_lcR1 n0 (by omega) (fun Q q => ⟨_, rfl, q⟩) fun E2 hE2 => ?_
    have rowi : (initB n.toNat ps)[i]? = some ((List.range n.toNat).map (initC ps i)) := by
      unfold initB
      rw [List.getElem?_map, List.getElem?_range hi]
      rfl
    have ntE : E2 ≠ E := fun z => by
      have := (G.res _ List.mem_cons_self).2.2.2.1
      rw [← z, hE2] at this
      cases this
    have ntq : E2 ∉ qs := fun hq => by
      obtain ⟨k, hk⟩ := List.mem_iff_getElem?.mp hq
      have lk : k < i := by rw [← lq]; exact (List.getElem?_eq_some_iff.mp hk).1
      have lR : k < ((initB n.toNat ps).take i).length := by rw [List.length_take, Sq.init.1]; omega
      have := (G.res _ (rs_row hk (List.getElem?_eq_getElem lR))).2.2.2.1
      rw [hE2] at this
      cases this
    refine ⟨fun j H2 => ∃ I2, Good K (cas a) (0, .none, none) ⟨I, H, hh, (E2, (((List.range n.toNat).map (initC ps i)).take j).map V.bl) :: rsOf E qs ((initB n.toNat ps).take i), I, none⟩ I2 H2 [] [], ⟨I1, G.addRes0 (o := []) hE2⟩, ?_, ?_⟩
    · rintro j H2 hj ⟨I2, G2⟩
      refine w_name ⟨rfl, ?_⟩
      refine w_yes ?_
      have Gs : Good K (cas a) (0, .none, none) _ I2 H2 [.fz (.int n), .fz (.lst ps), .no, .no, .fz (.int (i : Nat)), .fz (.int (j : Nat))] [some (.int n), some v2, none, none, some (.int (i : Nat)), some (.int (j : Nat))] := G2.slots rfl fun k x v e1 e2 => by
        match k with
        | 0 => cases e1; cases e2; exact ⟨rfl, _, rfl, .inr (.int n)⟩
        | 1 => cases e1; cases e2; exact ⟨rfl, _, rfl, .inr (d2.up G2.im)⟩
        | 2 => cases e1; exact ⟨rfl, trivial⟩
        | 3 => cases e1; exact ⟨rfl, trivial⟩
        | 4 => cases e1; cases e2; exact ⟨rfl, _, rfl, .inr (.int _)⟩
        | 5 => cases e1; cases e2; exact ⟨rfl, _, rfl, .inr (.int _)⟩
        | _ + 6 => cases e1
      refine init_item (K := K) (ca := cas a) (ex := (0, .none, none)) _ H2 _ _ I2 _ Gs (init_wp okp ?_)
      intro I3 H3 v S3 G3 V
      have V : Dv K (cas a) I3 v (.bl (initC ps i j)) := (V : Dh _ _ _ _ _ _).resolve_left fun z => nomatch z.1
      cases V
      have ej : ((List.range n.toNat).map (initC ps i))[j]? = some (initC ps i j) := by rw [List.getElem?_map, List.getElem?_range hj]; rfl
      refine ⟨_, (G3.res _ List.mem_cons_self).2.2.2.1, ?_, I3, ?_⟩
      · rw [List.length_map, List.length_take, List.length_map, List.length_range, line]; omega
      · refine G3.nil.rsWrite (p := E2) List.mem_cons_self fun x hx => ?_
        rcases List.mem_cons.mp hx with rfl | hx
        · left
          rw [List.take_succ, ej, List.map_append]
          rfl
        · refine .inr ⟨List.mem_cons_of_mem _ hx, ?_⟩
          rcases List.mem_cons.mp hx with rfl | hx
          · exact fun z => ntE z.symm
          · exact zip_addr ntq hx
    · rintro H2 ⟨I2, G2⟩
      have whole : ((List.range n.toNat).map (initC ps i)).take n.toNat = (List.range n.toNat).map (initC ps i) := List.take_of_length_le (by rw [List.length_map, List.length_range]; exact Nat.le_refl _)
      rw [whole] at G2
      refine ⟨qs.map V.ref, (G2.res (E, qs.map V.ref) (List.mem_cons_of_mem _ List.mem_cons_self)).2.2.2.1, by rw [List.length_map, lq, line]; omega, I2, qs ++ [E2], by rw [List.length_append, lq]; rfl, ?_, ?_⟩
      · have nd' := List.nodup_cons.mp nd
        refine List.nodup_cons.mpr ⟨fun hm => ?_, List.nodup_append.mpr ⟨nd'.2, by simp, ?_⟩⟩
        · rcases List.mem_append.mp hm with hm | hm
          · exact nd'.1 hm
          · exact ntE (List.mem_singleton.mp hm).symm
        · intro x hx y hy
          rw [List.mem_singleton.mp hy]
          exact fun z => ntq (z ▸ hx)
      · rw [List.take_succ, rowi]
        have lt : ((initB n.toNat ps).take i).length = i := by rw [List.length_take, Sq.init.1]; omega
        refine G2.rsWrite (p := E) (us := qs.map V.ref) (List.mem_cons_of_mem _ List.mem_cons_self) fun x hx => ?_
        have nd' := List.nodup_cons.mp nd
        rcases rs_add (by rw [lq, lt]) x hx with rfl | rfl | hx
        · left
          rw [List.map_append]
          rfl
        · exact .inr ⟨List.mem_cons_self, ntE⟩
        · exact .inr ⟨List.mem_cons_of_mem _ (List.mem_cons_of_mem _ hx), zip_addr nd'.1 hx⟩
  · rintro H1 ⟨I1, qs, lq, nd, G⟩
    rw [List.take_of_length_le (by rw [Sq.init.1]; exact Nat.le_refl _)] at G
    refine w_name ?_
    have inv0 := G
    have nd' := List.nodup_cons.mp nd
    let CG : Bits → Hp → Prop := fun R H' => ∃ I1, Good K (cas a) (0, .none, none) ⟨I, H, hh, rsOf E qs R, I, none⟩ I1 H' [] []
    have row_at : ∀ {R : Bits} {H' : Hp} {k : Nat}, CG R H' → Sq n.toNat R → k < n.toNat → ∃ q, qs[k]? = some q ∧ H' E = some (.lst (qs.map V.ref)) ∧ H' q = some (.lst ((R.getD k []).map V.bl)) := by
      rintro R H' k ⟨I2, G2⟩ sq hk
      have lk : k < qs.length := by rw [lq]; exact hk
      have hq := List.getElem?_eq_getElem lk
      exact ⟨_, hq, (G2.res _ List.mem_cons_self).2.2.2.1, (G2.res _ (rs_row hq (sq.row hk).1)).2.2.2.1⟩
    have at_row : ∀ {q : Addr} {k : Nat}, qs[k]? = some q → atI (qs.map V.ref) ((k : Nat) : Int) = some (.ref q) := fun h => atI_of (by omega) (by rw [List.getElem?_map]; show (qs[((_ : Nat) : Int).toNat]?).map _ = _; rw [Int.toNat_natCast, h]; rfl)
    have at_bit : ∀ {R : Bits} {x y : Nat}, Sq n.toNat R → x < n.toNat → y < n.toNat → atI ((R.getD x []).map V.bl) ((y : Nat) : Int) = some (.bl (getB R x y)) := fun sq hx hy => atI_of (by omega) (by rw [List.getElem?_map, Int.toNat_natCast, sq.bit hx hy]; rfl)
    have read : ∀ {R : Bits} {H' : Hp} {i j x y : Nat} {σ : L2.St} {Q' : VK}, CG R H' → Sq n.toNat R → x < n.toNat → y < n.toNat → σ[2]? = some (some (.ref E)) → σ[i]? = some (some (.int (x : Nat))) → σ[j]? = some (some (.int (y : Nat))) → Q' (.bl (getB R x y)) H' →
        tOp (rIxU K) (tOp (rIxU K) (tVar 2) (tVar i)) (tVar j) σ H' Q' := by
      intro R H' i j x y σ Q' cg sq hx hy e2 ei ej q
      obtain ⟨qx, h1, h2, h3⟩ := row_at cg sq hx
      exact w_op (w_op (w_var e2 (w_var ei (.inl (w_ixL (ofL h2) (at_row h1) (w_var ej (.inl (w_ixL (ofL h3) (at_bit sq hx hy) q))))))))
    dsimp only [List.set_cons_zero, List.set_cons_succ]
    with_reducible refine w_seq ?_
    refine w_forR1 n0 (by omega) (fun i σ H' => ∃ (y1 y2 y3 : Option V), σ = [some (.int n), some v2, some (.ref E), y1, y2, y3] ∧ CG ((List.range i).foldl (midB n.toNat) (initB n.toNat ps)) H') (fun Q q => by exact ⟨_, rfl, q⟩) ⟨none, none, none, rfl, I1, inv0⟩ ?_ ?_
    · rintro m σ H2 hm ⟨y1, y2, y3, rfl, cg⟩
      have sqm : Sq n.toNat ((List.range m).foldl (midB n.toNat) (initB n.toNat ps)) := Sq.fold (fun _ _ _ z => z.midB) m (by omega) Sq.init
      rw [show (fun σ H' => ∃ (y1 y2 y3 : Option V), σ = [some (V.int n), some v2, some (.ref E), y1, y2, y3] ∧ CG ((List.range (m + 1)).foldl (midB n.toNat) (initB n.toNat ps)) H') = fun σ H' => ∃ (y1 y2 y3 : Option V), σ = [some (V.int n), some v2, some (.ref E), y1, y2, y3] ∧ CG (midB n.toNat ((List.range m).foldl (midB n.toNat) (initB n.toNat ps)) m) H' from by rw [List.range_succ, List.foldl_append]; rfl]
      generalize (List.range m).foldl (midB n.toNat) (initB n.toNat ps) = R at cg sqm ⊢
      refine w_name ?_
      show tFor _ _ _ _ [some (.int n), some v2, some (.ref E), some (.int (m : Nat)), y2, y3] H2
      refine w_forR1 n0 (by omega) (fun i σ H' => ∃ (y2 y3 : Option V), σ = [some (.int n), some v2, some (.ref E), some (.int (m : Nat)), y2, y3] ∧ CG ((List.range i).foldl (rowB n.toNat m) R) H') (fun Q q => by exact ⟨_, rfl, q⟩) ⟨y2, y3, rfl, cg⟩ ?_ ?_
      · rintro x σ H3 hx ⟨y2, y3, rfl, cg⟩
        have sqx : Sq n.toNat ((List.range x).foldl (rowB n.toNat m) R) := Sq.fold (fun _ _ hk z => z.rowB hk) x (by omega) sqm
        rw [show (fun σ H' => ∃ (y2 y3 : Option V), σ = [some (V.int n), some v2, some (.ref E), some (.int (m : Nat)), y2, y3] ∧ CG ((List.range (x + 1)).foldl (rowB n.toNat m) R) H') = fun σ H' => ∃ (y2 y3 : Option V), σ = [some (V.int n), some v2, some (.ref E), some (.int (m : Nat)), y2, y3] ∧ CG (rowB n.toNat m ((List.range x).foldl (rowB n.toNat m) R) x) H' from by rw [List.range_succ, List.foldl_append]; rfl]
        generalize (List.range x).foldl (rowB n.toNat m) R = R2 at cg sqx ⊢
        refine w_name ?_
        show tFor _ _ _ _ [some (.int n), some v2, some (.ref E), some (.int (m : Nat)), some (.int (x : Nat)), y3] H3
        refine w_forR1 n0 (by omega) (fun i σ H' => ∃ (y3 : Option V), σ = [some (.int n), some v2, some (.ref E), some (.int (m : Nat)), some (.int (x : Nat)), y3] ∧ CG ((List.range i).foldl (stepB m x) R2) H') (fun Q q => by exact ⟨_, rfl, q⟩) ⟨y3, rfl, cg⟩ ?_ ?_
        · rintro y σ H4 hy ⟨y3, rfl, cg⟩
          have sqy : Sq n.toNat ((List.range y).foldl (stepB m x) R2) := Sq.fold (fun _ _ _ z => z.step hx) y (by omega) sqx
          rw [show (fun σ H' => ∃ (y3 : Option V), σ = [some (V.int n), some v2, some (.ref E), some (.int (m : Nat)), some (.int (x : Nat)), y3] ∧ CG ((List.range (y + 1)).foldl (stepB m x) R2) H') = fun σ H' => ∃ (y3 : Option V), σ = [some (V.int n), some v2, some (.ref E), some (.int (m : Nat)), some (.int (x : Nat)), y3] ∧ CG (stepB m x ((List.range y).foldl (stepB m x) R2) y) H' from by rw [List.range_succ, List.foldl_append]; rfl]
          generalize (List.range y).foldl (stepB m x) R2 = R3 at cg sqy ⊢
          refine w_name ?_
          show tIfS _ _ _ _ [some (.int n), some v2, some (.ref E), some (.int (m : Nat)), some (.int (x : Nat)), some (.int (y : Nat))] H4
          refine w_ifS (w_and (read (i := 4) (j := 3) cg sqy hx hm rfl rfl rfl ⟨getB R3 x m, rfl, ?_⟩))
          cases b1 : getB R3 x m with
          | false =>
            have es : stepB m x R3 y = R3 := by unfold stepB; rw [b1]; rfl
            rw [es]
            exact ⟨_, rfl, cg⟩
          | true =>
            show tOp (rIxU K) (tOp (rIxU K) (tVar 2) (tVar 3)) (tVar 5) _ H4 _
            refine read (i := 3) (j := 5) cg sqy hm hy rfl rfl rfl ⟨getB R3 m y, rfl, ?_⟩
            cases b2 : getB R3 m y with
            | false =>
              have es : stepB m x R3 y = R3 := by unfold stepB; rw [b1, b2]; rfl
              rw [es]
              exact ⟨_, rfl, cg⟩
            | true =>
              have es : stepB m x R3 y = setB R3 x y := by unfold stepB; rw [b1, b2]; rfl
              rw [es]
              obtain ⟨qx, h1, h2, h3⟩ := row_at cg sqy hx
              rw [if_pos rfl]
              refine w_asg (w_c (w_gsub (w_op (w_var rfl (w_var rfl (.inl (w_ixL (ofL h2) (at_row h1) ?_)))))))
              refine w_var rfl (.inl ?_)
              refine w_setL h3 (j := y) ?_ ?_
              · rw [List.length_map, (sqy.row hx).2]
                show (if 0 ≤ ((y : Nat) : Int) then (if ((y : Nat) : Int) < (n.toNat : Nat) then some (((y : Nat) : Int)).toNat else none) else _) = some y
                rw [if_pos (by omega), if_pos (by omega), Int.toNat_natCast]
              · obtain ⟨I5, G5⟩ := cg
                refine ⟨_, rfl, I5, ?_⟩
                rw [show ((R3.getD x []).map V.bl).set y (.bl true) = ((R3.getD x []).set y true).map V.bl from (List.map_set ..).symm]
                exact G5.rsWrite (rs_row h1 (sqy.row hx).1) (rs_old nd h1)
        · rintro σ H4 ⟨y3, rfl, cg⟩
          exact ⟨_, _, rfl, cg⟩
      · rintro σ H3 ⟨y2, y3, rfl, cg⟩
        exact ⟨_, _, _, rfl, cg⟩
    · rintro σ H2 ⟨y1, y2, y3, rfl, I2, G2⟩
      refine w_ret (w_var rfl ?_)
      have sqc : Sq n.toNat (closedB n.toNat (initB n.toNat ps)) := closedB_sq Sq.init
      obtain ⟨I3, S3, G3, d3⟩ := bits_freeze (g := ⟨I, H, hh, [], I, none⟩) (p := E) (H := H2) qs (closedB n.toNat (initB n.toNat ps)) [] [] I2 nd'.2 nd'.1 (by rw [lq, sqc.1]) .nil G2
      obtain ⟨G4, S4, d4⟩ := G3.rsFreeze (p := E) (rs' := []) List.mem_cons_self d3 fun x hx => by cases hx
      exact q _ _ _ G4.lf G4.hd d4
end
end LW
namespace LW
open PySem PySem.Spec PyProof.Rows L2 L3 L4
section
variable {P : Program} {w : World} {K : PySem.W.Frag} {mg : Str → Option Value} {base : Heap} {a : Adr}
def B1_law_shuffled : M Fl :=
    (dropM (bmM appendP (varM 3) ((setl (bmM popAtP (varM 2) ((setl (drawM (varM 0) (cbM lenP ((setl (varM 2)).bind fun x => ((M.ret [])).bind fun xs => M.ret (x :: xs))))).bind fun x => ((M.ret [])).bind fun xs => M.ret (x :: xs)))).bind fun x => ((M.ret [])).bind fun xs => M.ret (x :: xs))))
def F_law_shuffled : M Fl :=
    (seqM (asgM (cbM listP ((setl (varM 1)).bind fun x => ((M.ret [])).bind fun xs => M.ret (x :: xs))) (setM 2))
    (seqM (asgM (lstM (M.ret [])) (setM 3))
    (seqM (forM (rng1M ((setl (cbM lenP ((setl (varM 1)).bind fun x => ((M.ret [])).bind fun xs => M.ret (x :: xs)))).bind fun x => ((M.ret [])).bind fun xs => M.ret (x :: xs))) (setM 4)
    B1_law_shuffled)
    (rtM (varM 3)))))
def den_law_shuffled : Den := denOf 5 F_law_shuffled
theorem ok_law_shuffled (T : Top K mg a) : FnOk P w K mg base CX0 3 a.f_law_shuffled a.d_law_shuffled ["_law_hand_here", "_law_row"] (spD K (cas a) 2 (noExc den_law_shuffled)) := by
  refine T.F_law_shuffled.ok sc_law_shuffled (fun vs H Q E h => spD_len vs H Q E h) (fun cdv A outer s H vs Q E hr h => ?_)
  exact ⟨_, (pss_cons (ps_set (i := 2) sc_law_shuffled.nd rfl (Or.inl rfl) (pe_callTy (call_listK (K := K) rfl) (by rfl) T.n_list (by decide +kernel) (pa_cons (pv 1) pa_nil))) (pss_cons (ps_set (i := 3) sc_law_shuffled.nd rfl (Or.inl rfl) (pe_lst pa_nil)) (pss_cons (ps_for PassesOwn.never rfl (pi_range1 (by rfl) T.n_range (pa_cons (pe_callB (call_lenK (K := K) rfl) (by rfl) T.n_len (by decide +kernel) (pa_cons (pv 1) pa_nil)) pa_nil)) (pg_name (i := 4) sc_law_shuffled.nd rfl (Or.inl rfl)) (pss_one (ps_expr (pe_bm PySem.F.plainAttrs_list PySem.F.slot_list_append PySem.F.type_list_append mt_append (pv 3) (pa_cons (pe_bm PySem.F.plainAttrs_list PySem.F.slot_list_pop PySem.F.type_list_pop mt_popAt (pv 2) (pa_cons (pe_call (ok_law_draw T) (hr.mono (by decide)) (by rfl) T.g_law_draw T.F_law_draw.kp T.b_law_draw .nil pass0 (pa_cons (pv 0) (pa_cons (pe_callB (call_lenK (K := K) rfl) (by rfl) T.n_len (by decide +kernel) (pa_cons (pv 2) pa_nil)) pa_nil))) pa_nil)) pa_nil))))) (pss_one (ps_ret (pv 3)))))), def_run0 (N := ["_law_hand_here", "_law_row", "_law_left", "_law_told_here", "_law_turn"]) (F := F_law_shuffled) (ex := (0, .none, none)) (rs_seq (rs_asg (r_cb o_list (ra_cons r_var ra_nil)) rg_name) (rs_seq (rs_asg (r_lst ra_nil) rg_name) (rs_seq (rs_for (r_rng1 (ra_cons (r_cb o_len (ra_cons r_var ra_nil)) ra_nil)) rg_name (rs_drop (r_bm o_append r_var (ra_cons (r_bm o_popAt r_var (ra_cons (r_draw r_var (r_cb o_len (ra_cons r_var ra_nil))) ra_nil)) ra_nil)))) (rs_rt r_var)))) h⟩
def B1_law_order : M Fl :=
    (iteM (testM (opM eqP (drawM (varM 0) (M.ret (.fz (.int 3)))) (M.ret (.fz (.int 0))))) (dropM (bmM appendP (varM 5) ((setl (tupM ((setl (opM ixP (varM 4) (varM 7))).bind fun x => (((setl (opM ixP (varM 4) (varM 6))).bind fun x => ((M.ret [])).bind fun xs => M.ret (x :: xs))).bind fun xs => M.ret (x :: xs)))).bind fun x => ((M.ret [])).bind fun xs => M.ret (x :: xs)))) (M.ret .nx))
def B2_law_order : M Fl :=
    (seqM (iteM (testM (opM eqP (varM 3) (M.ret (.fz (.int 1))))) (dropM (bmM appendP (varM 5) ((setl (tupM ((setl (opM ixP (varM 4) (opM subP (varM 6) (M.ret (.fz (.int 1)))))).bind fun x => (((setl (opM ixP (varM 4) (varM 6))).bind fun x => ((M.ret [])).bind fun xs => M.ret (x :: xs))).bind fun xs => M.ret (x :: xs)))).bind fun x => ((M.ret [])).bind fun xs => M.ret (x :: xs)))) (M.ret .nx))
    (seqM (iteM (orM (testM (opM eqP (varM 3) (M.ret (.fz (.int 2))))) (testM (opM eqP (varM 3) (M.ret (.fz (.int 3)))))) (dropM (bmM appendP (varM 5) ((setl (tupM ((setl (opM ixP (varM 4) (drawM (varM 0) (varM 6)))).bind fun x => (((setl (opM ixP (varM 4) (varM 6))).bind fun x => ((M.ret [])).bind fun xs => M.ret (x :: xs))).bind fun xs => M.ret (x :: xs)))).bind fun x => ((M.ret [])).bind fun xs => M.ret (x :: xs)))) (M.ret .nx))
    (iteM (testM (opM gtP (varM 3) (M.ret (.fz (.int 3))))) (forM (rng2M ((setl (M.ret (.fz (.int 1)))).bind fun x => (((setl (varM 6)).bind fun x => ((M.ret [])).bind fun xs => M.ret (x :: xs))).bind fun xs => M.ret (x :: xs))) (setM 7)
    B1_law_order) (M.ret .nx))))
def F_law_order : M Fl :=
    (seqM (asgM (opM addP (M.ret (.fz (.int 2))) (drawM (varM 0) (opM subP (varM 1) (M.ret (.fz (.int 1)))))) (setM 2))
    (seqM (asgM (drawM (varM 0) (M.ret (.fz (.int 8)))) (setM 3))
    (seqM (asgM (opM addP (lstM ((setl (M.ret (.fz (.int 0)))).bind fun x => ((M.ret [])).bind fun xs => M.ret (x :: xs))) (callN 2 (noExc den_law_shuffled) [] ((setl (varM 0)).bind fun x => (((setl (lcM [7] (rng2M ((setl (M.ret (.fz (.int 1)))).bind fun x => (((setl (varM 2)).bind fun x => ((M.ret [])).bind fun xs => M.ret (x :: xs))).bind fun xs => M.ret (x :: xs))) (setM 7) (M.ret true) (varM 7))).bind fun x => ((M.ret [])).bind fun xs => M.ret (x :: xs))).bind fun xs => M.ret (x :: xs)))) (setM 4))
    (seqM (asgM (lcM [7] (rng2M ((setl (M.ret (.fz (.int 1)))).bind fun x => (((setl (varM 2)).bind fun x => ((M.ret [])).bind fun xs => M.ret (x :: xs))).bind fun xs => M.ret (x :: xs))) (setM 7) (M.ret true) (tupM ((setl (M.ret (.fz (.int 0)))).bind fun x => (((setl (varM 7)).bind fun x => ((M.ret [])).bind fun xs => M.ret (x :: xs))).bind fun xs => M.ret (x :: xs)))) (setM 5))
    (seqM (forM (rng2M ((setl (M.ret (.fz (.int 2)))).bind fun x => (((setl (varM 2)).bind fun x => ((M.ret [])).bind fun xs => M.ret (x :: xs))).bind fun xs => M.ret (x :: xs))) (setM 6)
    B2_law_order)
    (rtM (tupM ((setl (varM 2)).bind fun x => (((setl (varM 5)).bind fun x => (((setl (callN 2 (noExc den_law_closed) [] ((setl (varM 2)).bind fun x => (((setl (varM 5)).bind fun x => ((M.ret [])).bind fun xs => M.ret (x :: xs))).bind fun xs => M.ret (x :: xs)))).bind fun x => ((M.ret [])).bind fun xs => M.ret (x :: xs))).bind fun xs => M.ret (x :: xs))).bind fun xs => M.ret (x :: xs)))))))))
def den_law_order : Den := denOf 8 F_law_order
theorem ok_law_order (T : Top K mg a) : FnOk P w K mg base CX0 4 a.f_law_order a.d_law_order ["_law_hand_here", "_law_most"] (spD K (cas a) 2 (noExc den_law_order)) := by
  refine T.F_law_order.ok sc_law_order (fun vs H Q E h => spD_len vs H Q E h) (fun cdv A outer s H vs Q E hr h => ?_)
  exact ⟨_, (pss_cons (ps_set (i := 2) sc_law_order.nd rfl (Or.inl rfl) (pe_op (op_addU (K := K) rfl) pe_int (pe_call (ok_law_draw T) (hr.mono (by decide)) (by rfl) T.g_law_draw T.F_law_draw.kp T.b_law_draw .nil pass0 (pa_cons (pv 0) (pa_cons (pe_op op_sub (pv 1) pe_int) pa_nil))))) (pss_cons (ps_set (i := 3) sc_law_order.nd rfl (Or.inl rfl) (pe_call (ok_law_draw T) (hr.mono (by decide)) (by rfl) T.g_law_draw T.F_law_draw.kp T.b_law_draw .nil pass0 (pa_cons (pv 0) (pa_cons pe_int pa_nil)))) (pss_cons (ps_set (i := 4) sc_law_order.nd rfl (Or.inl rfl) (pe_op (op_addU (K := K) rfl) (pe_lst (pa_cons pe_int pa_nil)) (pe_call (ok_law_shuffled T) (hr.mono (by decide)) (by rfl) T.g_law_shuffled T.F_law_shuffled.kp T.b_law_shuffled .nil pass0 (pa_cons (pv 0) (pa_cons (pe_lc (own := [("_law_x", 7)]) (g := gName 7) (by rfl) sc_law_order.nd (pi_range2 (by rfl) T.n_range (pa_cons pe_int (pa_cons (pv 2) pa_nil))) (blkOk_by (own := [("_law_x", 7)]) (N := ["_law_hand_here", "_law_most", "_law_n", "_law_way", "_law_names", "_law_pairs", "_law_y", "_law_x"]) (sc := defScope s_law_order) (by decide +kernel)) (fun _ _ _ _ _ => (pg_name (i := 7) sc_law_order.nd rfl (Or.inl rfl))) (fun _ _ _ _ _ => pts_nil) (fun _ _ _ _ _ => (pv 7))) pa_nil))))) (pss_cons (ps_setLc (i := 5) (own := [("_law_x", 7)]) (g := gName 7) (by rfl) sc_law_order.nd rfl rfl (sw_true rfl rfl rfl (by decide +kernel)) (pi_range2 (by rfl) T.n_range (pa_cons pe_int (pa_cons (pv 2) pa_nil))) (blkOk_by (own := [("_law_x", 7)]) (N := ["_law_hand_here", "_law_most", "_law_n", "_law_way", "_law_names", "_law_pairs", "_law_y", "_law_x"]) (sc := defScope s_law_order) (by decide +kernel)) (fun _ _ _ _ _ => (pg_name (i := 7) sc_law_order.nd rfl (Or.inl rfl))) (fun _ _ _ _ _ => pts_nil) (fun _ _ _ _ _ => (pe_tup (pa_cons pe_int (pa_cons (pv 7) pa_nil))))) (pss_cons (ps_for PassesOwn.never rfl (pi_range2 (by rfl) T.n_range (pa_cons pe_int (pa_cons (pv 2) pa_nil))) (pg_name (i := 6) sc_law_order.nd rfl (Or.inl rfl)) (pss_cons (ps_if (pt_cmpR (op_eqK (K := K) rfl hr.units) (pv 3) pe_int (nomark _)) (pss_one (ps_expr (pe_bm PySem.F.plainAttrs_list PySem.F.slot_list_append PySem.F.type_list_append mt_append (pv 5) (pa_cons (pe_tup (pa_cons (pe_ix (ix_U (K := K) rfl (hu_of hr)) (pv 4) (pe_op op_sub (pv 6) pe_int) (fun _ _ => rfl)) (pa_cons (pe_ix (ix_U (K := K) rfl (hu_of hr)) (pv 4) (pv 6) (fun _ _ => rfl)) pa_nil))) pa_nil)))) pss_nil) (pss_cons (ps_if (PW.pt (pw_or (pt_cmpR (op_eqK (K := K) rfl hr.units) (pv 3) pe_int (nomark _)) (pw_or1 (pt_cmpR (op_eqK (K := K) rfl hr.units) (pv 3) pe_int (nomark _))))) (pss_one (ps_expr (pe_bm PySem.F.plainAttrs_list PySem.F.slot_list_append PySem.F.type_list_append mt_append (pv 5) (pa_cons (pe_tup (pa_cons (pe_ix (ix_U (K := K) rfl (hu_of hr)) (pv 4) (pe_call (ok_law_draw T) (hr.mono (by decide)) (by rfl) T.g_law_draw T.F_law_draw.kp T.b_law_draw .nil pass0 (pa_cons (pv 0) (pa_cons (pv 6) pa_nil))) (fun _ _ => rfl)) (pa_cons (pe_ix (ix_U (K := K) rfl (hu_of hr)) (pv 4) (pv 6) (fun _ _ => rfl)) pa_nil))) pa_nil)))) pss_nil) (pss_one (ps_if (pt_cmpR op_gt (pv 3) pe_int (nomark _)) (pss_one (ps_for PassesOwn.never rfl (pi_range2 (by rfl) T.n_range (pa_cons pe_int (pa_cons (pv 6) pa_nil))) (pg_name (i := 7) sc_law_order.nd rfl (Or.inl rfl)) (pss_one (ps_if (pt_cmpR (op_eqK (K := K) rfl hr.units) (pe_call (ok_law_draw T) (hr.mono (by decide)) (by rfl) T.g_law_draw T.F_law_draw.kp T.b_law_draw .nil pass0 (pa_cons (pv 0) (pa_cons pe_int pa_nil))) pe_int (nomark _)) (pss_one (ps_expr (pe_bm PySem.F.plainAttrs_list PySem.F.slot_list_append PySem.F.type_list_append mt_append (pv 5) (pa_cons (pe_tup (pa_cons (pe_ix (ix_U (K := K) rfl (hu_of hr)) (pv 4) (pv 7) (fun _ _ => rfl)) (pa_cons (pe_ix (ix_U (K := K) rfl (hu_of hr)) (pv 4) (pv 6) (fun _ _ => rfl)) pa_nil))) pa_nil)))) pss_nil)))) pss_nil))))) (pss_one (ps_ret (pe_tup (pa_cons (pv 2) (pa_cons (pv 5) (pa_cons (pe_call (ok_law_closed T) (hr.mono (by decide)) (by rfl) T.g_law_closed T.F_law_closed.kp T.b_law_closed .nil pass0 (pa_cons (pv 2) (pa_cons (pv 5) pa_nil))) pa_nil))))))))))), def_run0 (N := ["_law_hand_here", "_law_most", "_law_n", "_law_way", "_law_names", "_law_pairs", "_law_y", "_law_x"]) (F := F_law_order) (ex := (0, .none, none)) (rs_seq (rs_asg (r_op o_add r_int (r_draw r_var (r_op o_sub r_var r_int))) rg_name) (rs_seq (rs_asg (r_draw r_var r_int) rg_name) (rs_seq (rs_asg (r_op o_add (r_lst (ra_cons r_int ra_nil)) (r_call0 (fun _ _ => by exact trivial) (ra_cons r_var (ra_cons (r_lc (r_rng2 (ra_cons r_int (ra_cons r_var ra_nil))) (rgv_name (by decide)) r_yes r_var) ra_nil)))) rg_name) (rs_seq (rs_asg (r_lc (r_rng2 (ra_cons r_int (ra_cons r_var ra_nil))) (rgv_name (by decide)) r_yes (r_tup (ra_cons r_int (ra_cons r_var ra_nil)))) rg_name) (rs_seq (rs_for (r_rng2 (ra_cons r_int (ra_cons r_var ra_nil))) rg_name (rs_seq (rs_if (r_test (r_op o_eq r_var r_int)) (rs_drop (r_bm o_append r_var (ra_cons (r_tup (ra_cons (r_op o_ix r_var (r_op o_sub r_var r_int)) (ra_cons (r_op o_ix r_var r_var) ra_nil))) ra_nil))) rs_next) (rs_seq (rs_if (r_or (r_test (r_op o_eq r_var r_int)) (r_test (r_op o_eq r_var r_int))) (rs_drop (r_bm o_append r_var (ra_cons (r_tup (ra_cons (r_op o_ix r_var (r_draw r_var r_var)) (ra_cons (r_op o_ix r_var r_var) ra_nil))) ra_nil))) rs_next) (rs_if (r_test (r_op o_gt r_var r_int)) (rs_for (r_rng2 (ra_cons r_int (ra_cons r_var ra_nil))) rg_name (rs_if (r_test (r_op o_eq (r_draw r_var r_int) r_int)) (rs_drop (r_bm o_append r_var (ra_cons (r_tup (ra_cons (r_op o_ix r_var r_var) (ra_cons (r_op o_ix r_var r_var) ra_nil))) ra_nil))) rs_next)) rs_next)))) (rs_rt (r_tup (ra_cons r_var (ra_cons r_var (ra_cons (r_call0 (fun _ _ => by exact trivial) (ra_cons r_var (ra_cons r_var ra_nil))) ra_nil)))))))))) h⟩
def F_law_exact (den_law_exact : Den) : M Fl :=
    (seqM (iteM (truM (cbM isiP ((setl (varM 1)).bind fun x => (((setl (M.ret (.fz (.ty "tuple")))).bind fun x => ((M.ret [])).bind fun xs => M.ret (x :: xs))).bind fun xs => M.ret (x :: xs)))) (seqM (iteM (orM (notM (truM (cbM isiP ((setl (varM 0)).bind fun x => (((setl (M.ret (.fz (.ty "tuple")))).bind fun x => ((M.ret [])).bind fun xs => M.ret (x :: xs))).bind fun xs => M.ret (x :: xs))))) (testM (opM neP (cbM lenP ((setl (varM 0)).bind fun x => ((M.ret [])).bind fun xs => M.ret (x :: xs))) (cbM lenP ((setl (varM 1)).bind fun x => ((M.ret [])).bind fun xs => M.ret (x :: xs)))))) (rtM (M.ret (.fz (.bl false)))) (M.ret .nx))
    (rtM (opM eqP (lcM [2] (rng1M ((setl (cbM lenP ((setl (varM 1)).bind fun x => ((M.ret [])).bind fun xs => M.ret (x :: xs)))).bind fun x => ((M.ret [])).bind fun xs => M.ret (x :: xs))) (setM 2) (notM (truM (callN 2 (noExc den_law_exact) [] ((setl (opM ixP (varM 0) (varM 2))).bind fun x => (((setl (opM ixP (varM 1) (varM 2))).bind fun x => ((M.ret [])).bind fun xs => M.ret (x :: xs))).bind fun xs => M.ret (x :: xs))))) (varM 2)) (lstM (M.ret []))))) (M.ret .nx))
    (seqM (iteM (testM (opM isNP (varM 1) (M.ret (.fz .non)))) (rtM (opM isNP (varM 0) (M.ret (.fz .non)))) (M.ret .nx))
    (seqM (iteM (truM (cbM isiP ((setl (varM 1)).bind fun x => (((setl (M.ret (.fz (.ty "bool")))).bind fun x => ((M.ret [])).bind fun xs => M.ret (x :: xs))).bind fun xs => M.ret (x :: xs)))) (rtM (iteM (truM (varM 1)) (opM isBP (varM 0) (M.ret (.fz (.bl true)))) (opM isBP (varM 0) (M.ret (.fz (.bl false)))))) (M.ret .nx))
    (seqM (iteM (truM (cbM isiP ((setl (varM 1)).bind fun x => (((setl (M.ret (.fz (.ty "str")))).bind fun x => ((M.ret [])).bind fun xs => M.ret (x :: xs))).bind fun xs => M.ret (x :: xs)))) (rtM (iteM (testM (cbM isiP ((setl (varM 0)).bind fun x => (((setl (M.ret (.fz (.ty "str")))).bind fun x => ((M.ret [])).bind fun xs => M.ret (x :: xs))).bind fun xs => M.ret (x :: xs)))) (opM eqP (varM 0) (varM 1)) (M.ret (.fz (.bl false))))) (M.ret .nx))
    (rtM (iteM (testM (cbM isiP ((setl (varM 0)).bind fun x => (((setl (M.ret (.fz (.ty "int")))).bind fun x => ((M.ret [])).bind fun xs => M.ret (x :: xs))).bind fun xs => M.ret (x :: xs)))) (iteM (testM (blM (notM (testM (cbM isiP ((setl (varM 0)).bind fun x => (((setl (M.ret (.fz (.ty "bool")))).bind fun x => ((M.ret [])).bind fun xs => M.ret (x :: xs))).bind fun xs => M.ret (x :: xs))))))) (opM eqP (varM 0) (varM 1)) (M.ret (.fz (.bl false)))) (M.ret (.fz (.bl false)))))))))
def denN_law_exact : Nat → Den
  | 0 => fun _ => .stuck
  | n + 1 => denOf 3 (F_law_exact (denN_law_exact n))
abbrev den_law_exact : Den := denN_law_exact 5
theorem okN_law_exact (T : Top K mg a) (n : Nat) : FnOk P w K mg base CX0 n a.f_law_exact a.d_law_exact ["_law_told_here", "_law_due_here"] (spD K (cas a) 2 (noExc (denN_law_exact n))) := by
  induction n with
  | zero => exact FnOk.imp FnOk.none fun _ _ _ _ ⟨_, _, _, _, _, _, h⟩ => h.elim
  | succ n ih =>
    refine T.F_law_exact.ok sc_law_exact (fun vs H Q E h => spD_len vs H Q E h) (fun cdv A outer s H vs Q E hr h => ?_)
    exact ⟨_, (pss_cons (ps_if (pt_truth (pe_callB (call_isiK' (K := K) rfl) (by rfl) T.n_isinstance (by decide +kernel) (pa_cons (pv 1) (pa_cons (pe_bltn (v := .ty "tuple") (u := .type "tuple") (by rfl) T.n_tuple (by decide +kernel) rfl) pa_nil))) (by intro _; rfl)) (pss_cons (ps_if (PW.pt (pw_or (pt_not (pt_truth (pe_callB (call_isiK' (K := K) rfl) (by rfl) T.n_isinstance (by decide +kernel) (pa_cons (pv 0) (pa_cons (pe_bltn (v := .ty "tuple") (u := .type "tuple") (by rfl) T.n_tuple (by decide +kernel) rfl) pa_nil))) (by intro _; rfl))) (pw_or1 (pt_cmpR (op_neK (K := K) rfl hr.units) (pe_callB (call_lenK (K := K) rfl) (by rfl) T.n_len (by decide +kernel) (pa_cons (pv 0) pa_nil)) (pe_callB (call_lenK (K := K) rfl) (by rfl) T.n_len (by decide +kernel) (pa_cons (pv 1) pa_nil)) (nomark _))))) (pss_one (ps_ret pe_bl)) pss_nil) (pss_one (ps_ret (pe_cmpR (op_eqK (K := K) rfl hr.units) (pe_lc (own := [("_law_k", 2)]) (g := gName 2) (by rfl) sc_law_exact.nd (pi_range1 (by rfl) T.n_range (pa_cons (pe_callB (call_lenK (K := K) rfl) (by rfl) T.n_len (by decide +kernel) (pa_cons (pv 1) pa_nil)) pa_nil)) (blkOk_by (own := [("_law_k", 2)]) (N := ["_law_told_here", "_law_due_here", "_law_k"]) (sc := defScope s_law_exact) (by decide +kernel)) (fun _ _ _ _ _ => (pg_name (i := 2) sc_law_exact.nd rfl (Or.inl rfl))) (fun _ _ _ _ _ => pts_one (pt_not (pt_truth (pe_call ih (hr.mono (Nat.le_refl _)) (by rfl) T.g_law_exact T.F_law_exact.kp T.b_law_exact .nil pass0 (pa_cons (pe_ix (ix_U (K := K) rfl (hu_of hr)) (pv 0) (pv 2) (fun _ _ => rfl)) (pa_cons (pe_ix (ix_U (K := K) rfl (hu_of hr)) (pv 1) (pv 2) (fun _ _ => rfl)) pa_nil))) (by intro _; rfl)))) (fun _ _ _ _ _ => (pv 2))) (pe_lst pa_nil) (nomark _))))) pss_nil) (pss_cons (ps_if (pt_cmpR op_isN' (pv 1) pe_non (nomark _)) (pss_one (ps_ret (pe_cmpR op_isN' (pv 0) pe_non (nomark _)))) pss_nil) (pss_cons (ps_if (pt_truth (pe_callB (call_isiK' (K := K) rfl) (by rfl) T.n_isinstance (by decide +kernel) (pa_cons (pv 1) (pa_cons (pe_bltn (v := .ty "bool") (u := .type "bool") (by rfl) T.n_bool (by decide +kernel) rfl) pa_nil))) (by intro _; rfl)) (pss_one (ps_ret (pe_ifExp (pt_truth (pv 1) (by intro _; rfl)) (pe_cmpR L3.op_isB (pv 0) pe_bl (nomark _)) (pe_cmpR L3.op_isB (pv 0) pe_bl (nomark _))))) pss_nil) (pss_cons (ps_if (pt_truth (pe_callB (call_isiK' (K := K) rfl) (by rfl) T.n_isinstance (by decide +kernel) (pa_cons (pv 1) (pa_cons (pe_bltn (v := .ty "str") (u := .type "str") (by rfl) T.n_str (by decide +kernel) rfl) pa_nil))) (by intro _; rfl)) (pss_one (ps_ret (pe_and (pe_callB (call_isiK' (K := K) rfl) (by rfl) T.n_isinstance (by decide +kernel) (pa_cons (pv 0) (pa_cons (pe_bltn (v := .ty "str") (u := .type "str") (by rfl) T.n_str (by decide +kernel) rfl) pa_nil))) (pe_one (pe_cmpR (op_eqK (K := K) rfl hr.units) (pv 0) (pv 1) (nomark _)))))) pss_nil) (pss_one (ps_ret (pe_and (pe_callB (call_isiK' (K := K) rfl) (by rfl) T.n_isinstance (by decide +kernel) (pa_cons (pv 0) (pa_cons (pe_bltn (v := .ty "int") (u := .type "int") (by rfl) T.n_int (by decide +kernel) rfl) pa_nil))) (pe_and (pe_not (pe_callB (call_isiK' (K := K) rfl) (by rfl) T.n_isinstance (by decide +kernel) (pa_cons (pv 0) (pa_cons (pe_bltn (v := .ty "bool") (u := .type "bool") (by rfl) T.n_bool (by decide +kernel) rfl) pa_nil)))) (pe_one (pe_cmpR (op_eqK (K := K) rfl hr.units) (pv 0) (pv 1) (nomark _))))))))))), def_run0 (N := ["_law_told_here", "_law_due_here", "_law_k"]) (F := F_law_exact (denN_law_exact n)) (ex := (0, .none, none)) (rs_seq (rs_if (r_tru (r_cb o_isi (ra_cons r_var (ra_cons (r_cD fun _ => .ty _) ra_nil)))) (rs_seq (rs_if (r_or (r_not (r_tru (r_cb o_isi (ra_cons r_var (ra_cons (r_cD fun _ => .ty _) ra_nil))))) (r_test (r_op o_ne (r_cb o_len (ra_cons r_var ra_nil)) (r_cb o_len (ra_cons r_var ra_nil))))) (rs_rt r_bl) rs_next) (rs_rt (r_op o_eq (r_lc (r_rng1 (ra_cons (r_cb o_len (ra_cons r_var ra_nil)) ra_nil)) (rgv_name (by decide)) (r_not (r_tru (r_call0 (fun _ _ => by exact trivial) (ra_cons (r_op o_ix r_var r_var) (ra_cons (r_op o_ix r_var r_var) ra_nil))))) r_var) (r_lst ra_nil)))) rs_next) (rs_seq (rs_if (r_test (r_op o_isN r_var r_non)) (rs_rt (r_op o_isN r_var r_non)) rs_next) (rs_seq (rs_if (r_tru (r_cb o_isi (ra_cons r_var (ra_cons (r_cD fun _ => .ty _) ra_nil)))) (rs_rt (r_if (r_tru r_var) (r_op o_isB r_var r_bl) (r_op o_isB r_var r_bl))) rs_next) (rs_seq (rs_if (r_tru (r_cb o_isi (ra_cons r_var (ra_cons (r_cD fun _ => .ty _) ra_nil)))) (rs_rt (r_andV (r_cb o_isi (ra_cons r_var (ra_cons (r_cD fun _ => .ty _) ra_nil))) (r_op o_eq r_var r_var))) rs_next) (rs_rt (r_andV (r_cb o_isi (ra_cons r_var (ra_cons (r_cD fun _ => .ty _) ra_nil))) (r_andV (r_notV (r_cb o_isi (ra_cons r_var (ra_cons (r_cD fun _ => .ty _) ra_nil)))) (r_op o_eq r_var r_var)))))))) h⟩
theorem ok_law_exact (T : Top K mg a) : FnOk P w K mg base CX0 5 a.f_law_exact a.d_law_exact ["_law_told_here", "_law_due_here"] (spD K (cas a) 2 (noExc den_law_exact)) := okN_law_exact T 5
def B1_law_case : M Fl :=
    (asgM (callN 3 (noExc den_law_spoilt) [] ((setl (varM 0)).bind fun x => (((setl (varM 1)).bind fun x => (((setl (varM 2)).bind fun x => ((M.ret [])).bind fun xs => M.ret (x :: xs))).bind fun xs => M.ret (x :: xs))).bind fun xs => M.ret (x :: xs))) (setM 2))
def B2_law_case : M Fl :=
    (iteM (notM (truM (lcM [6] (seqS (varM 2)) (setM 6) (orM (notM (truM (cbM isiP ((setl (varM 6)).bind fun x => (((setl (M.ret (.fz (.ty "tuple")))).bind fun x => ((M.ret [])).bind fun xs => M.ret (x :: xs))).bind fun xs => M.ret (x :: xs))))) (testM (opM neP (cbM lenP ((setl (varM 6)).bind fun x => ((M.ret [])).bind fun xs => M.ret (x :: xs))) (M.ret (.fz (.int 2)))))) (varM 6)))) B1_law_case (M.ret .nx))
def B3_law_case : M Fl :=
    (asgM (opM ixP (lstM ((setl (M.ret (.fz (.int 0)))).bind fun x => (((setl (M.ret (.fz (.int 25)))).bind fun x => (((setl (unM negP (M.ret (.fz (.int 1))))).bind fun x => (((setl (M.ret (.fz .non))).bind fun x => (((setl (M.ret (.fz (.bl true)))).bind fun x => (((setl (M.ret (.fz (.str "3")))).bind fun x => (((setl (opM powP (M.ret (.fz (.int 10))) (M.ret (.fz (.int 20))))).bind fun x => (((setl (M.ret (.fz (.bl false)))).bind fun x => ((M.ret [])).bind fun xs => M.ret (x :: xs))).bind fun xs => M.ret (x :: xs))).bind fun xs => M.ret (x :: xs))).bind fun xs => M.ret (x :: xs))).bind fun xs => M.ret (x :: xs))).bind fun xs => M.ret (x :: xs))).bind fun xs => M.ret (x :: xs))).bind fun xs => M.ret (x :: xs))) (drawM (varM 0) (M.ret (.fz (.int 8))))) (setM 1))
def B4_law_case : M Fl :=
    (asgM (opM ixP (lstM ((setl (M.ret (.fz .non))).bind fun x => (((setl (M.ret (.fz (.str "01")))).bind fun x => (((setl (M.ret (.fz (.int 5)))).bind fun x => (((setl dnewKM).bind fun x => ((M.ret [])).bind fun xs => M.ret (x :: xs))).bind fun xs => M.ret (x :: xs))).bind fun xs => M.ret (x :: xs))).bind fun xs => M.ret (x :: xs))) (drawM (varM 0) (M.ret (.fz (.int 4))))) (setM 2))
def B5_law_case : M Fl :=
    (parM 1 2 ((setl (opM ixP (lstM ((setl (M.ret (.fz (.int 0)))).bind fun x => (((setl (M.ret (.fz .non))).bind fun x => ((M.ret [])).bind fun xs => M.ret (x :: xs))).bind fun xs => M.ret (x :: xs))) (drawM (varM 0) (M.ret (.fz (.int 2)))))).bind fun x => (((setl (M.ret (.fz .non))).bind fun x => ((M.ret [])).bind fun xs => M.ret (x :: xs))).bind fun xs => M.ret (x :: xs)))
def B6_law_case : M Fl :=
    (asgM (M.ret (.fz (.int 1))) (setM 1))
def F_law_case : M Fl :=
    (seqM (asgM (callN 2 (noExc den_law_order) [] ((setl (varM 0)).bind fun x => (((setl (opM ixP (lstM ((setl (M.ret (.fz (.int 3)))).bind fun x => (((setl (M.ret (.fz (.int 4)))).bind fun x => (((setl (M.ret (.fz (.int 5)))).bind fun x => (((setl (M.ret (.fz (.int 6)))).bind fun x => (((setl (M.ret (.fz (.int 9)))).bind fun x => (((setl (M.ret (.fz (.int 24)))).bind fun x => ((M.ret [])).bind fun xs => M.ret (x :: xs))).bind fun xs => M.ret (x :: xs))).bind fun xs => M.ret (x :: xs))).bind fun xs => M.ret (x :: xs))).bind fun xs => M.ret (x :: xs))).bind fun xs => M.ret (x :: xs))) (drawM (varM 0) (M.ret (.fz (.int 6)))))).bind fun x => ((M.ret [])).bind fun xs => M.ret (x :: xs))).bind fun xs => M.ret (x :: xs))) (tupTg 3 [(setM 1), (setM 2), (setM 3)]))
    (seqM (asgM (callN 2 (noExc den_law_shuffled) [] ((setl (varM 0)).bind fun x => (((setl (varM 2)).bind fun x => ((M.ret [])).bind fun xs => M.ret (x :: xs))).bind fun xs => M.ret (x :: xs))) (setM 2))
    (seqM (forM (rng1M ((setl (drawM (varM 0) (M.ret (.fz (.int 3))))).bind fun x => ((M.ret [])).bind fun xs => M.ret (x :: xs))) (setM 4)
    B2_law_case)
    (seqM (asgM (drawM (varM 0) (M.ret (.fz (.int 12)))) (setM 5))
    (seqM (iteM (testM (opM eqP (varM 5) (M.ret (.fz (.int 0))))) B3_law_case (M.ret .nx))
    (seqM (iteM (testM (opM eqP (varM 5) (M.ret (.fz (.int 1))))) B4_law_case (M.ret .nx))
    (seqM (iteM (testM (opM eqP (varM 5) (M.ret (.fz (.int 2))))) B5_law_case (M.ret .nx))
    (seqM (iteM (testM (opM eqP (varM 5) (M.ret (.fz (.int 3))))) B6_law_case (M.ret .nx))
    (rtM (tupM ((setl (varM 1)).bind fun x => (((setl (varM 2)).bind fun x => ((M.ret [])).bind fun xs => M.ret (x :: xs))).bind fun xs => M.ret (x :: xs))))))))))))
def den_law_case : Den := denOf 7 F_law_case
theorem ok_law_case (T : Top K mg a) : FnOk P w K mg base CX0 5 a.f_law_case a.d_law_case ["_law_hand_here"] (spD K (cas a) 1 (noExc den_law_case)) := by
  refine T.F_law_case.ok sc_law_case (fun vs H Q E h => spD_len vs H Q E h) (fun cdv A outer s H vs Q E hr h => ?_)
  exact ⟨_, (pss_cons (ps_asg (pe_call (ok_law_order T) (hr.mono (by decide)) (by rfl) T.g_law_order T.F_law_order.kp T.b_law_order .nil pass0 (pa_cons (pv 0) (pa_cons (pe_ix (ix_U (K := K) rfl (hu_of hr)) (pe_lst (pa_cons pe_int (pa_cons pe_int (pa_cons pe_int (pa_cons pe_int (pa_cons pe_int (pa_cons pe_int pa_nil))))))) (pe_call (ok_law_draw T) (hr.mono (by decide)) (by rfl) T.g_law_draw T.F_law_draw.kp T.b_law_draw .nil pass0 (pa_cons (pv 0) (pa_cons pe_int pa_nil))) (fun _ _ => rfl)) pa_nil))) (pg_tup rfl (pgs_cons (pg_name (i := 1) sc_law_case.nd rfl (Or.inl rfl)) (pgs_cons (pg_name (i := 2) sc_law_case.nd rfl (Or.inl rfl)) (pgs_cons (pg_name (i := 3) sc_law_case.nd rfl (Or.inl rfl)) pgs_nil))))) (pss_cons (ps_set (i := 2) sc_law_case.nd rfl (Or.inl rfl) (pe_call (ok_law_shuffled T) (hr.mono (by decide)) (by rfl) T.g_law_shuffled T.F_law_shuffled.kp T.b_law_shuffled .nil pass0 (pa_cons (pv 0) (pa_cons (pv 2) pa_nil)))) (pss_cons (ps_for PassesOwn.never rfl (pi_range1 (by rfl) T.n_range (pa_cons (pe_call (ok_law_draw T) (hr.mono (by decide)) (by rfl) T.g_law_draw T.F_law_draw.kp T.b_law_draw .nil pass0 (pa_cons (pv 0) (pa_cons pe_int pa_nil))) pa_nil)) (pg_name (i := 4) sc_law_case.nd rfl (Or.inl rfl)) (pss_one (ps_if (pt_not (pt_truth (pe_lc (own := [("_law_pair", 6)]) (g := gName 6) (by rfl) sc_law_case.nd (pi_sqK (K := K) rfl (pv 2)) (blkOk_by (own := [("_law_pair", 6)]) (N := ["_law_hand_here", "_law_n", "_law_pairs", "_law_below", "_law_turn", "_law_way", "_law_pair"]) (sc := defScope s_law_case) (by decide +kernel)) (fun _ _ _ _ _ => (pg_name (i := 6) sc_law_case.nd rfl (Or.inl rfl))) (fun _ _ _ _ _ => pts_one (PW.pt (pw_or (pt_not (pt_truth (pe_callB (call_isiK' (K := K) rfl) (by rfl) T.n_isinstance (by decide +kernel) (pa_cons (pv 6) (pa_cons (pe_bltn (v := .ty "tuple") (u := .type "tuple") (by rfl) T.n_tuple (by decide +kernel) rfl) pa_nil))) (by intro _; rfl))) (pw_or1 (pt_cmpR (op_neK (K := K) rfl hr.units) (pe_callB (call_lenK (K := K) rfl) (by rfl) T.n_len (by decide +kernel) (pa_cons (pv 6) pa_nil)) pe_int (nomark _)))))) (fun _ _ _ _ _ => (pv 6))) (by intro _; rfl))) (pss_one (ps_set (i := 2) sc_law_case.nd rfl (Or.inl rfl) (pe_call (ok_law_spoilt T) (hr.mono (by decide)) (by rfl) T.g_law_spoilt T.F_law_spoilt.kp T.b_law_spoilt .nil pass0 (pa_cons (pv 0) (pa_cons (pv 1) (pa_cons (pv 2) pa_nil)))))) pss_nil))) (pss_cons (ps_set (i := 5) sc_law_case.nd rfl (Or.inl rfl) (pe_call (ok_law_draw T) (hr.mono (by decide)) (by rfl) T.g_law_draw T.F_law_draw.kp T.b_law_draw .nil pass0 (pa_cons (pv 0) (pa_cons pe_int pa_nil)))) (pss_cons (ps_if (pt_cmpR (op_eqK (K := K) rfl hr.units) (pv 5) pe_int (nomark _)) (pss_one (ps_set (i := 1) sc_law_case.nd rfl (Or.inl rfl) (pe_ix (ix_U (K := K) rfl (hu_of hr)) (pe_lst (pa_cons pe_int (pa_cons pe_int (pa_cons (pe_un un_neg pe_int) (pa_cons pe_non (pa_cons pe_bl (pa_cons pe_str (pa_cons (pe_op op_pow pe_int pe_int) (pa_cons pe_bl pa_nil))))))))) (pe_call (ok_law_draw T) (hr.mono (by decide)) (by rfl) T.g_law_draw T.F_law_draw.kp T.b_law_draw .nil pass0 (pa_cons (pv 0) (pa_cons pe_int pa_nil))) (fun _ _ => rfl)))) pss_nil) (pss_cons (ps_if (pt_cmpR (op_eqK (K := K) rfl hr.units) (pv 5) pe_int (nomark _)) (pss_one (ps_set (i := 2) sc_law_case.nd rfl (Or.inl rfl) (pe_ix (ix_U (K := K) rfl (hu_of hr)) (pe_lst (pa_cons pe_non (pa_cons pe_str (pa_cons pe_int (pa_cons pe_dnewK pa_nil))))) (pe_call (ok_law_draw T) (hr.mono (by decide)) (by rfl) T.g_law_draw T.F_law_draw.kp T.b_law_draw .nil pass0 (pa_cons (pv 0) (pa_cons pe_int pa_nil))) (fun _ _ => rfl)))) pss_nil) (pss_cons (ps_if (pt_cmpR (op_eqK (K := K) rfl hr.units) (pv 5) pe_int (nomark _)) (pss_one (ps_par (by rfl) sc_law_case.nd rfl rfl (by decide) rfl rfl (pa_cons (pe_ix (ix_U (K := K) rfl (hu_of hr)) (pe_lst (pa_cons pe_int (pa_cons pe_non pa_nil))) (pe_call (ok_law_draw T) (hr.mono (by decide)) (by rfl) T.g_law_draw T.F_law_draw.kp T.b_law_draw .nil pass0 (pa_cons (pv 0) (pa_cons pe_int pa_nil))) (fun _ _ => rfl)) (pa_cons pe_non pa_nil)) (by rfl))) pss_nil) (pss_cons (ps_if (pt_cmpR (op_eqK (K := K) rfl hr.units) (pv 5) pe_int (nomark _)) (pss_one (ps_set (i := 1) sc_law_case.nd rfl (Or.inl rfl) pe_int)) pss_nil) (pss_one (ps_ret (pe_tup (pa_cons (pv 1) (pa_cons (pv 2) pa_nil))))))))))))), def_run0 (N := ["_law_hand_here", "_law_n", "_law_pairs", "_law_below", "_law_turn", "_law_way", "_law_pair"]) (F := F_law_case) (ex := (0, .none, none)) (rs_seq (rs_asg (r_call0 (fun _ _ => by exact trivial) (ra_cons r_var (ra_cons (r_op o_ix (r_lst (ra_cons r_int (ra_cons r_int (ra_cons r_int (ra_cons r_int (ra_cons r_int (ra_cons r_int ra_nil))))))) (r_draw r_var r_int)) ra_nil))) (rg_tupT (rgs_cons rg_name (rgs_cons rg_name (rgs_cons rg_name rgs_nil))))) (rs_seq (rs_asg (r_call0 (fun _ _ => by exact trivial) (ra_cons r_var (ra_cons r_var ra_nil))) rg_name) (rs_seq (rs_for (r_rng1 (ra_cons (r_draw r_var r_int) ra_nil)) rg_name (rs_if (r_not (r_tru (r_lc (ri_sq r_var) (rgv_name (by decide)) (r_or (r_not (r_tru (r_cb o_isi (ra_cons r_var (ra_cons (r_cD fun _ => .ty _) ra_nil))))) (r_test (r_op o_ne (r_cb o_len (ra_cons r_var ra_nil)) r_int))) r_var))) (rs_asg (r_call0 (fun _ _ => by exact trivial) (ra_cons r_var (ra_cons r_var (ra_cons r_var ra_nil)))) rg_name) rs_next)) (rs_seq (rs_asg (r_draw r_var r_int) rg_name) (rs_seq (rs_if (r_test (r_op o_eq r_var r_int)) (rs_asg (r_op o_ix (r_lst (ra_cons r_int (ra_cons r_int (ra_cons (r_un o_neg r_int) (ra_cons r_non (ra_cons r_bl (ra_cons r_str (ra_cons (r_op o_pow r_int r_int) (ra_cons r_bl ra_nil))))))))) (r_draw r_var r_int)) rg_name) rs_next) (rs_seq (rs_if (r_test (r_op o_eq r_var r_int)) (rs_asg (r_op o_ix (r_lst (ra_cons r_non (ra_cons r_str (ra_cons r_int (ra_cons r_dnewK ra_nil))))) (r_draw r_var r_int)) rg_name) rs_next) (rs_seq (rs_if (r_test (r_op o_eq r_var r_int)) (rs_par (ra_cons (r_op o_ix (r_lst (ra_cons r_int (ra_cons r_non ra_nil))) (r_draw r_var r_int)) (ra_cons r_non ra_nil))) rs_next) (rs_seq (rs_if (r_test (r_op o_eq r_var r_int)) (rs_asg r_int rg_name) rs_next) (rs_rt (r_tup (ra_cons r_var (ra_cons r_var ra_nil)))))))))))) h⟩
def B1_law_wholes : M Fl :=
    (seqM (asgM (iteM (testM (cbM isiP ((setl (varM 3)).bind fun x => (((setl (M.ret (.fz (.ty "int")))).bind fun x => ((M.ret [])).bind fun xs => M.ret (x :: xs))).bind fun xs => M.ret (x :: xs)))) (blM (notM (testM (cbM isiP ((setl (varM 3)).bind fun x => (((setl (M.ret (.fz (.ty "bool")))).bind fun x => ((M.ret [])).bind fun xs => M.ret (x :: xs))).bind fun xs => M.ret (x :: xs)))))) (M.ret (.fz (.bl false)))) (setM 4))
    (seqM (iteM (orM (notM (truM (callN 2 (noExc den_law_exact) [] ((setl (callN 3 (noExc den_is_whole) [.non, .non] ((setl (varM 3)).bind fun x => ((M.ret [])).bind fun xs => M.ret (x :: xs)))).bind fun x => (((setl (varM 4)).bind fun x => ((M.ret [])).bind fun xs => M.ret (x :: xs))).bind fun xs => M.ret (x :: xs))))) (notM (truM (callN 2 (noExc den_law_exact) [] ((setl (callN 3 (noExc den_is_whole) [.non] ((setl (varM 3)).bind fun x => (((setl (varM 1)).bind fun x => ((M.ret [])).bind fun xs => M.ret (x :: xs))).bind fun xs => M.ret (x :: xs)))).bind fun x => (((setl (andT (varM 4) (opM geP (varM 3) (varM 1)))).bind fun x => ((M.ret [])).bind fun xs => M.ret (x :: xs))).bind fun xs => M.ret (x :: xs)))))) (rtM (M.ret (.fz (.bl false)))) (M.ret .nx))
    (seqM (iteM (notM (truM (callN 2 (noExc den_law_exact) [] ((setl (callKM 1 1 3 (noExc den_is_whole) [.non, .non] [(false, 0), (true, 0)] ((setl (varM 3)).bind fun x => ((M.ret [])).bind fun xs => M.ret (x :: xs)) ((setl (varM 2)).bind fun x => ((M.ret [])).bind fun xs => M.ret (x :: xs)))).bind fun x => (((setl (andT (varM 4) (opM leP (varM 3) (varM 2)))).bind fun x => ((M.ret [])).bind fun xs => M.ret (x :: xs))).bind fun xs => M.ret (x :: xs))))) (rtM (M.ret (.fz (.bl false)))) (M.ret .nx))
    (iteM (notM (truM (callN 2 (noExc den_law_exact) [] ((setl (callKM 1 2 3 (noExc den_is_whole) [.non, .non] [(true, 0), (true, 1)] ((setl (varM 3)).bind fun x => ((M.ret [])).bind fun xs => M.ret (x :: xs)) ((setl (varM 1)).bind fun x => (((setl (varM 2)).bind fun x => ((M.ret [])).bind fun xs => M.ret (x :: xs))).bind fun xs => M.ret (x :: xs)))).bind fun x => (((setl (andT (varM 4) (chainM leP leP (varM 1) (varM 3) (varM 2)))).bind fun x => ((M.ret [])).bind fun xs => M.ret (x :: xs))).bind fun xs => M.ret (x :: xs))))) (rtM (M.ret (.fz (.bl false)))) (M.ret .nx)))))
def F_law_wholes : M Fl :=
    (seqM (asgM (opM subP (drawM (varM 0) (M.ret (.fz (.int 9)))) (M.ret (.fz (.int 4)))) (setM 1))
    (seqM (asgM (opM addP (varM 1) (drawM (varM 0) (M.ret (.fz (.int 4))))) (setM 2))
    (seqM (forM (seqS (lstM ((setl (opM subP (varM 1) (M.ret (.fz (.int 1))))).bind fun x => (((setl (varM 1)).bind fun x => (((setl (varM 2)).bind fun x => (((setl (opM addP (varM 2) (M.ret (.fz (.int 1))))).bind fun x => (((setl (M.ret (.fz (.int 0)))).bind fun x => (((setl (M.ret (.fz (.bl true)))).bind fun x => (((setl (M.ret (.fz (.bl false)))).bind fun x => (((setl (M.ret (.fz .non))).bind fun x => (((setl (M.ret (.fz (.str "1")))).bind fun x => (((setl (lstM ((setl (varM 1)).bind fun x => ((M.ret [])).bind fun xs => M.ret (x :: xs)))).bind fun x => (((setl (opM powP (M.ret (.fz (.int 10))) (M.ret (.fz (.int 30))))).bind fun x => (((setl (unM negP (opM powP (M.ret (.fz (.int 10))) (M.ret (.fz (.int 30)))))).bind fun x => ((M.ret [])).bind fun xs => M.ret (x :: xs))).bind fun xs => M.ret (x :: xs))).bind fun xs => M.ret (x :: xs))).bind fun xs => M.ret (x :: xs))).bind fun xs => M.ret (x :: xs))).bind fun xs => M.ret (x :: xs))).bind fun xs => M.ret (x :: xs))).bind fun xs => M.ret (x :: xs))).bind fun xs => M.ret (x :: xs))).bind fun xs => M.ret (x :: xs))).bind fun xs => M.ret (x :: xs))).bind fun xs => M.ret (x :: xs)))) (setM 3)
    B1_law_wholes)
    (seqM (asgM (lcM [3] (seqS (lstM ((setl (tupM (M.ret []))).bind fun x => (((setl (lstM (M.ret []))).bind fun x => (((setl (lstM ((setl (M.ret (.fz (.int 0)))).bind fun x => ((M.ret [])).bind fun xs => M.ret (x :: xs)))).bind fun x => (((setl (tupM ((setl (M.ret (.fz (.int 0)))).bind fun x => (((setl (M.ret (.fz (.int 1)))).bind fun x => ((M.ret [])).bind fun xs => M.ret (x :: xs))).bind fun xs => M.ret (x :: xs)))).bind fun x => (((setl (M.ret (.fz (.str "01")))).bind fun x => (((setl dnewKM).bind fun x => (((setl (M.ret (.fz .non))).bind fun x => (((setl (M.ret (.fz (.int 5)))).bind fun x => (((setl (M.ret (.fz (.bl true)))).bind fun x => ((M.ret [])).bind fun xs => M.ret (x :: xs))).bind fun xs => M.ret (x :: xs))).bind fun xs => M.ret (x :: xs))).bind fun xs => M.ret (x :: xs))).bind fun xs => M.ret (x :: xs))).bind fun xs => M.ret (x :: xs))).bind fun xs => M.ret (x :: xs))).bind fun xs => M.ret (x :: xs))).bind fun xs => M.ret (x :: xs)))) (setM 3) (M.ret true) (callN 1 (noExc den_is_sequence) [] ((setl (varM 3)).bind fun x => ((M.ret [])).bind fun xs => M.ret (x :: xs)))) (setM 5))
    (rtM (callN 2 (noExc den_law_exact) [] ((setl (unM tupleP (varM 5))).bind fun x => (((setl (tupM ((setl (M.ret (.fz (.bl true)))).bind fun x => (((setl (M.ret (.fz (.bl true)))).bind fun x => (((setl (M.ret (.fz (.bl true)))).bind fun x => (((setl (M.ret (.fz (.bl true)))).bind fun x => (((setl (M.ret (.fz (.bl false)))).bind fun x => (((setl (M.ret (.fz (.bl false)))).bind fun x => (((setl (M.ret (.fz (.bl false)))).bind fun x => (((setl (M.ret (.fz (.bl false)))).bind fun x => (((setl (M.ret (.fz (.bl false)))).bind fun x => ((M.ret [])).bind fun xs => M.ret (x :: xs))).bind fun xs => M.ret (x :: xs))).bind fun xs => M.ret (x :: xs))).bind fun xs => M.ret (x :: xs))).bind fun xs => M.ret (x :: xs))).bind fun xs => M.ret (x :: xs))).bind fun xs => M.ret (x :: xs))).bind fun xs => M.ret (x :: xs))).bind fun xs => M.ret (x :: xs)))).bind fun x => ((M.ret [])).bind fun xs => M.ret (x :: xs))).bind fun xs => M.ret (x :: xs))))))))
def den_law_wholes : Den := denOf 6 F_law_wholes
theorem ok_law_wholes (T : Top K mg a) : FnOk P w K mg base CX0 6 a.f_law_wholes a.d_law_wholes ["_law_hand_here"] (spD K (cas a) 1 (noExc den_law_wholes)) := by
  refine T.F_law_wholes.ok sc_law_wholes (fun vs H Q E h => spD_len vs H Q E h) (fun cdv A outer s H vs Q E hr h => ?_)
  exact ⟨_, (pss_cons (ps_set (i := 1) sc_law_wholes.nd rfl (Or.inl rfl) (pe_op op_sub (pe_call (ok_law_draw T) (hr.mono (by decide)) (by rfl) T.g_law_draw T.F_law_draw.kp T.b_law_draw .nil pass0 (pa_cons (pv 0) (pa_cons pe_int pa_nil))) pe_int)) (pss_cons (ps_set (i := 2) sc_law_wholes.nd rfl (Or.inl rfl) (pe_op (op_addU (K := K) rfl) (pv 1) (pe_call (ok_law_draw T) (hr.mono (by decide)) (by rfl) T.g_law_draw T.F_law_draw.kp T.b_law_draw .nil pass0 (pa_cons (pv 0) (pa_cons pe_int pa_nil))))) (pss_cons (ps_for PassesOwn.never rfl (pi_sqK (K := K) rfl (pe_lst (pa_cons (pe_op op_sub (pv 1) pe_int) (pa_cons (pv 1) (pa_cons (pv 2) (pa_cons (pe_op (op_addU (K := K) rfl) (pv 2) pe_int) (pa_cons pe_int (pa_cons pe_bl (pa_cons pe_bl (pa_cons pe_non (pa_cons pe_str (pa_cons (pe_lst (pa_cons (pv 1) pa_nil)) (pa_cons (pe_op op_pow pe_int pe_int) (pa_cons (pe_un un_neg (pe_op op_pow pe_int pe_int)) pa_nil)))))))))))))) (pg_name (i := 3) sc_law_wholes.nd rfl (Or.inl rfl)) (pss_cons (ps_set (i := 4) sc_law_wholes.nd rfl (Or.inl rfl) (pe_and (pe_callB (call_isiK' (K := K) rfl) (by rfl) T.n_isinstance (by decide +kernel) (pa_cons (pv 3) (pa_cons (pe_bltn (v := .ty "int") (u := .type "int") (by rfl) T.n_int (by decide +kernel) rfl) pa_nil))) (pe_one (pe_not (pe_callB (call_isiK' (K := K) rfl) (by rfl) T.n_isinstance (by decide +kernel) (pa_cons (pv 3) (pa_cons (pe_bltn (v := .ty "bool") (u := .type "bool") (by rfl) T.n_bool (by decide +kernel) rfl) pa_nil))))))) (pss_cons (ps_if (PW.pt (pw_or (pt_not (pt_truth (pe_call (ok_law_exact T) (hr.mono (by decide)) (by rfl) T.g_law_exact T.F_law_exact.kp T.b_law_exact .nil pass0 (pa_cons (pe_call (ok_is_whole T) (hr.mono (by decide)) (by rfl) T.g_is_whole T.F_is_whole.kp (bD_is_whole_1 T).choose_spec.2 (bD_is_whole_1 T).choose_spec.1 pass0 (pa_cons (pv 3) pa_nil)) (pa_cons (pv 4) pa_nil))) (by intro _; rfl))) (pw_or1 (pt_not (pt_truth (pe_call (ok_law_exact T) (hr.mono (by decide)) (by rfl) T.g_law_exact T.F_law_exact.kp T.b_law_exact .nil pass0 (pa_cons (pe_call (ok_is_whole T) (hr.mono (by decide)) (by rfl) T.g_is_whole T.F_is_whole.kp (bD_is_whole_2 T).choose_spec.2 (bD_is_whole_2 T).choose_spec.1 pass0 (pa_cons (pv 3) (pa_cons (pv 1) pa_nil))) (pa_cons (pe_andT (pv 4) (pe_one (pe_cmpR op_ge (pv 3) (pv 1) (nomark _)))) pa_nil))) (by intro _; rfl)))))) (pss_one (ps_ret pe_bl)) pss_nil) (pss_cons (ps_if (pt_not (pt_truth (pe_call (ok_law_exact T) (hr.mono (by decide)) (by rfl) T.g_law_exact T.F_law_exact.kp T.b_law_exact .nil pass0 (pa_cons (pe_callN (ok_is_whole T) (hr.mono (by decide)) (by rfl) T.g_is_whole T.F_is_whole.kp (kbn_dfl T.F_is_whole 1 ["high"] [(false, 0), (true, 0)] (by simp) (fun _ _ _ _ _ _ _ us its ws h1 h2 h3 => match us, its, ws, h1, h2, h3 with | [_], [_, _], [_], _, _, _ => ⟨_, rfl, rfl⟩)).choose_spec pass0 (pa_cons (pv 3) pa_nil) (pk_cons (pv 2) pk_nil)) (pa_cons (pe_andT (pv 4) (pe_one (pe_cmpR op_le (pv 3) (pv 2) (nomark _)))) pa_nil))) (by intro _; rfl))) (pss_one (ps_ret pe_bl)) pss_nil) (pss_one (ps_if (pt_not (pt_truth (pe_call (ok_law_exact T) (hr.mono (by decide)) (by rfl) T.g_law_exact T.F_law_exact.kp T.b_law_exact .nil pass0 (pa_cons (pe_callN (ok_is_whole T) (hr.mono (by decide)) (by rfl) T.g_is_whole T.F_is_whole.kp (kbn_dfl T.F_is_whole 1 ["low", "high"] [(true, 0), (true, 1)] (by simp) (fun _ _ _ _ _ _ _ us its ws h1 h2 h3 => match us, its, ws, h1, h2, h3 with | [_], [_, _], [_, _], _, _, _ => ⟨_, rfl, rfl⟩)).choose_spec pass0 (pa_cons (pv 3) pa_nil) (pk_cons (pv 1) (pk_cons (pv 2) pk_nil))) (pa_cons (pe_andT (pv 4) (pe_one (pe_chain op_le op_le (pv 1) (pv 3) (pv 2)))) pa_nil))) (by intro _; rfl))) (pss_one (ps_ret pe_bl)) pss_nil)))))) (pss_cons (ps_setLc (i := 5) (own := [("_law_thing", 3)]) (g := gName 3) (by rfl) sc_law_wholes.nd rfl rfl (sw_true rfl rfl rfl (by decide +kernel)) (pi_sqK (K := K) rfl (pe_lst (pa_cons (pe_tup pa_nil) (pa_cons (pe_lst pa_nil) (pa_cons (pe_lst (pa_cons pe_int pa_nil)) (pa_cons (pe_tup (pa_cons pe_int (pa_cons pe_int pa_nil))) (pa_cons pe_str (pa_cons pe_dnewK (pa_cons pe_non (pa_cons pe_int (pa_cons pe_bl pa_nil))))))))))) (blkOk_by (own := [("_law_thing", 3)]) (N := ["_law_hand_here", "_law_low", "_law_high", "_law_thing", "_law_plain", "_law_told_here"]) (sc := defScope s_law_wholes) (by decide +kernel)) (fun _ _ _ _ _ => (pg_name (i := 3) sc_law_wholes.nd rfl (Or.inl rfl))) (fun _ _ _ _ _ => pts_nil) (fun _ _ _ _ _ => (pe_call (ok_is_sequence T) (hr.mono (by decide)) (by rfl) T.g_is_sequence T.F_is_sequence.kp T.b_is_sequence .nil pass0 (pa_cons (pv 3) pa_nil)))) (pss_one (ps_ret (pe_call (ok_law_exact T) (hr.mono (by decide)) (by rfl) T.g_law_exact T.F_law_exact.kp T.b_law_exact .nil pass0 (pa_cons (pe_tupleOf (by rfl) T.n_tuple (pv 5)) (pa_cons (pe_tup (pa_cons pe_bl (pa_cons pe_bl (pa_cons pe_bl (pa_cons pe_bl (pa_cons pe_bl (pa_cons pe_bl (pa_cons pe_bl (pa_cons pe_bl (pa_cons pe_bl pa_nil)))))))))) pa_nil))))))))), def_run0 (N := ["_law_hand_here", "_law_low", "_law_high", "_law_thing", "_law_plain", "_law_told_here"]) (F := F_law_wholes) (ex := (0, .none, none)) (rs_seq (rs_asg (r_op o_sub (r_draw r_var r_int) r_int) rg_name) (rs_seq (rs_asg (r_op o_add r_var (r_draw r_var r_int)) rg_name) (rs_seq (rs_for (ri_sq (r_lst (ra_cons (r_op o_sub r_var r_int) (ra_cons r_var (ra_cons r_var (ra_cons (r_op o_add r_var r_int) (ra_cons r_int (ra_cons r_bl (ra_cons r_bl (ra_cons r_non (ra_cons r_str (ra_cons (r_lst (ra_cons r_var ra_nil)) (ra_cons (r_op o_pow r_int r_int) (ra_cons (r_un o_neg (r_op o_pow r_int r_int)) ra_nil)))))))))))))) rg_name (rs_seq (rs_asg (r_andV (r_cb o_isi (ra_cons r_var (ra_cons (r_cD fun _ => .ty _) ra_nil))) (r_notV (r_cb o_isi (ra_cons r_var (ra_cons (r_cD fun _ => .ty _) ra_nil))))) rg_name) (rs_seq (rs_if (r_or (r_not (r_tru (r_call0 (fun _ _ => by exact trivial) (ra_cons (r_call0 (fun _ _ => by exact ⟨.inr (.non), ⟨.inr (.non), trivial⟩⟩) (ra_cons r_var ra_nil)) (ra_cons r_var ra_nil))))) (r_not (r_tru (r_call0 (fun _ _ => by exact trivial) (ra_cons (r_call0 (fun _ _ => by exact ⟨.inr (.non), trivial⟩) (ra_cons r_var (ra_cons r_var ra_nil))) (ra_cons (r_andT r_var (r_op o_ge r_var r_var)) ra_nil)))))) (rs_rt r_bl) rs_next) (rs_seq (rs_if (r_not (r_tru (r_call0 (fun _ _ => by exact trivial) (ra_cons (r_callK0 (fun _ _ => by exact ⟨.inr (.non), ⟨.inr (.non), trivial⟩⟩) (ra_cons r_var ra_nil) (ra_cons r_var ra_nil)) (ra_cons (r_andT r_var (r_op o_le r_var r_var)) ra_nil))))) (rs_rt r_bl) rs_next) (rs_if (r_not (r_tru (r_call0 (fun _ _ => by exact trivial) (ra_cons (r_callK0 (fun _ _ => by exact ⟨.inr (.non), ⟨.inr (.non), trivial⟩⟩) (ra_cons r_var ra_nil) (ra_cons r_var (ra_cons r_var ra_nil))) (ra_cons (r_andT r_var (r_chain o_le o_le r_var r_var r_var)) ra_nil))))) (rs_rt r_bl) rs_next))))) (rs_seq (rs_asg (r_lc (ri_sq (r_lst (ra_cons (r_tup ra_nil) (ra_cons (r_lst ra_nil) (ra_cons (r_lst (ra_cons r_int ra_nil)) (ra_cons (r_tup (ra_cons r_int (ra_cons r_int ra_nil))) (ra_cons r_str (ra_cons r_dnewK (ra_cons r_non (ra_cons r_int (ra_cons r_bl ra_nil))))))))))) (rgv_name (by decide)) r_yes (r_call0 (fun _ _ => by exact trivial) (ra_cons r_var ra_nil))) rg_name) (rs_rt (r_call0 (fun _ _ => by exact trivial) (ra_cons (r_thn o_tuple r_var) (ra_cons (r_tup (ra_cons r_bl (ra_cons r_bl (ra_cons r_bl (ra_cons r_bl (ra_cons r_bl (ra_cons r_bl (ra_cons r_bl (ra_cons r_bl (ra_cons r_bl ra_nil)))))))))) ra_nil)))))))) h⟩
end
end LW
namespace LW
open PySem PySem.Spec PyProof.Rows L2 L3
local macro_rules | `(tactic| walk_at "dp") => `(tactic| first
  | assumption
  | exact .int _
  | exact .non
  | exact .bl _
  | exact .str _
  | exact Dp.up (by assumption) (by assumption))
local macro_rules | `(tactic| walk_at "sq") => `(tactic| first
  | assumption
  | exact ofL (by assumption)
  | exact ofL upd_same
)
local macro_rules | `(tactic| walk_at "st") => `(tactic| simp only [L2.cxOf, L2.start, List.map_cons, List.map_nil, List.length_cons, List.length_nil, Nat.zero_add, Nat.reduceAdd, Nat.reduceSub, List.replicate_succ, List.replicate_zero, List.cons_append, List.nil_append, List.append_nil, List.replicate])
local macro_rules | `(tactic| walk_at "cnd") => `(tactic| first
  | (show (0 : Int) < _; first | decide | omega)
  | (show (0 : Int) < _ ∧ _; constructor <;> first | decide | omega)
  | (show (0 : Int) ≤ _; first | decide | omega)
  | (refine Or.inr ⟨?_, ?_⟩ <;> first | decide | omega)
  | (refine Or.inl ⟨?_, ?_⟩ <;> first | decide | omega)
  | (refine ⟨?_, ?_, ?_⟩ <;> first | decide | omega))
local macro_rules | `(tactic| walk_at "wp1") => `(tactic| first
  | ((with_reducible refine' w_var ?we ?_); (case we => exact rfl))
  | with_reducible refine w_c ?_
  | with_reducible refine w_op ?_
  | with_reducible refine w_cons ?_
  | with_reducible refine w_nil ?_
  | with_reducible refine w_rI0 ?_
  | ((with_reducible refine w_rI ?wc ?_); (case wc => walk_at "cnd"))
  | with_reducible refine w_un ?_
  | with_reducible refine w_rU ?_
  | with_reducible refine w_call ?_
  | with_reducible refine w_callS ?_
  | with_reducible refine w_CB ?_
  | with_reducible refine w_test ?_
  | with_reducible refine w_tB ?_
  | with_reducible refine w_bl ?_
  | with_reducible refine w_eqI ?_
  | with_reducible refine w_neI ?_
  | with_reducible refine w_isN_non ?_
  | with_reducible refine w_ntN_non ?_
  | with_reducible refine w_isN_int ?_
  | with_reducible refine w_ntN_int ?_
  | with_reducible refine w_isN_bl ?_
  | with_reducible refine w_ntN_bl ?_
  | with_reducible refine w_isN_str ?_
  | with_reducible refine w_ntN_str ?_
  | with_reducible refine w_isN_ref ?_
  | with_reducible refine w_ntN_ref ?_
  | with_reducible refine w_isN' ?_
  | with_reducible refine w_notN' ?_
  | with_reducible refine w_int1 ?_
  | with_reducible refine w_abs ?_
  | ((with_reducible refine' w_aug ?we ?_); (case we => exact rfl))
  | ((with_reducible refine w_ipI ?_); dsimp only [List.set_cons_zero, List.set_cons_succ])
  | with_reducible refine w_seq ?_
  | with_reducible refine w_asg ?_
  | ((with_reducible refine w_name ?_); dsimp only [List.set_cons_zero, List.set_cons_succ])
  | with_reducible refine w_ret ?_
  | with_reducible refine w_retN ?_
  | with_reducible refine w_next ?_
  | with_reducible refine w_drop ?_
  | with_reducible refine w_ifS ?_
  | with_reducible refine w_ifE ?_
  | with_reducible refine w_and ?_
  | with_reducible refine w_or ?_
  | with_reducible refine w_not ?_
  | with_reducible refine w_andV ?_
  | with_reducible refine w_orV ?_
  | with_reducible refine w_notV ?_
  | with_reducible refine w_then ?_
  | with_reducible refine w_tup ?_
  | with_reducible refine w_lst ?_
  | with_reducible refine w_BM ?_
  | with_reducible refine w_gsub ?_
  | with_reducible refine w_tSl ?_
  | with_reducible refine w_noPart ?_
  | with_reducible refine w_part ?_
  | with_reducible refine w_ofInt ?_
  | ((with_reducible refine' w_setL ?h1 ?h2 ?_); (case h1 => first | assumption | exact upd_same); (case h2 => exact rfl); simp only [Int.reduceToNat, List.set_cons_zero, List.set_cons_succ]; try rw [upd2])
  | ((with_reducible refine' w_ixL ?h1 ?h2 ?_); (case h1 => walk_at "sq"); (case h2 => exact rfl))
  | ((with_reducible refine' w_lenL ?h1 ?_); (case h1 => walk_at "sq"))
  | with_reducible refine w_isInt_int ?_
  | with_reducible refine w_isInt_bl ?_
  | with_reducible refine w_isInt_str ?_
  | with_reducible refine w_isInt_non ?_
  | with_reducible refine w_isBool_int ?_
  | with_reducible refine w_isBool_bl ?_
  | with_reducible refine w_isBool_str ?_
  | with_reducible refine w_isBool_non ?_
  | with_reducible refine w_isStr_int ?_
  | with_reducible refine w_isStr_bl ?_
  | with_reducible refine w_isStr_str ?_
  | with_reducible refine w_isStr_non ?_
  | with_reducible refine w_isTup_int ?_
  | with_reducible refine w_isTup_bl ?_
  | with_reducible refine w_isTup_str ?_
  | with_reducible refine w_isTup_non ?_
  | ((with_reducible refine' w_isInt ?h1 ?_); (case h1 => walk_at "dp"))
  | ((with_reducible refine' w_isBool ?h1 ?_); (case h1 => walk_at "dp"))
  | ((with_reducible refine' w_isStr ?h1 ?_); (case h1 => walk_at "dp"))
  | ((with_reducible refine' w_isTup ?h1 ?_); (case h1 => walk_at "dp"))
  | with_reducible refine iteT ?_
  | with_reducible refine iteF ?_
  | with_reducible refine w_mkO ?_
  | with_reducible refine w_lstRg ?_
  | with_reducible refine w_tupRg ?_
  | with_reducible refine w_rg1 ?_
  | with_reducible refine w_nf ?_
  | with_reducible refine w_nt ?_)
local macro_rules | `(tactic| walk_at "wp") => `(tactic| repeat walk_at "wp1")
local macro_rules | `(tactic| walk_at "wq1") => `(tactic| first
  | walk_at "wp1"
  | with_reducible refine w_callSD ?_
  | with_reducible refine w_listGS ?_
  | ((with_reducible refine' w_ifT ?hd ?_); (case hd => decide))
  | ((with_reducible refine' w_ifF ?hd ?_); (case hd => decide))
  | ((with_reducible refine' w_ifnT ?hd ?_); (case hd => decide))
  | ((with_reducible refine' w_ifnF ?hd ?_); (case hd => decide)))
local macro_rules | `(tactic| walk_at "wq") => `(tactic| repeat walk_at "wq1")
section
variable {P : Program} {w : World} {K : PySem.W.Frag} {mg : Str → Option Value} {base : Heap} {a : Adr}
def absI (n : Int) : Int := if n < 0 then -n else n
def spHand (K : PySem.W.Frag) : Sp := fun vs H Q _ => ∃ (I : Hp) (s : Addr) (ns : List Int), vs = [.ref s] ∧ Same I H ∧ SqL K I s (ns.map V.int) ∧ ns.length ≤ 1000 ∧
  ∀ I' H' hd, Lf No I H I' H' → Hand K I' H' hd → Q (.ref hd) H'
theorem ok_law_hand (T : Top K mg a) : FnOk P w K mg base CX0 1 a.f_law_hand a.d_law_hand ["_law_script"] (spHand K) := by
  refine T.F_law_hand.ok sc_law_hand (fun vs H Q E h => ?_) (fun cdv A outer s H vs Q E hr h => ?_)
  · obtain ⟨I, s, ns, rfl, _⟩ := h
    rfl
  · obtain ⟨I, p, ns, rfl, sI, hp, hl, q⟩ := h
    refine ⟨_, (pss_cons (ps_set (i := 1) sc_law_hand.nd rfl (Or.inl rfl) pe_int) (pss_cons (ps_for PassesOwn.never rfl (pi_enumK (K := K) rfl (by rfl) T.n_enumerate (pa_cons (pv 0) pa_nil)) (pg_tup rfl (pgs_cons (pg_name (i := 2) sc_law_hand.nd rfl (Or.inl rfl)) (pgs_cons (pg_name (i := 3) sc_law_hand.nd rfl (Or.inl rfl)) pgs_nil))) (pss_one (ps_set (i := 1) sc_law_hand.nd rfl (Or.inl rfl) (pe_op op_mod (pe_callTy call_intI (by rfl) T.n_int (by decide +kernel) (pa_cons (pe_op op_add (pe_op op_mul (pv 1) pe_int) (pe_op op_mul (pe_callTy call_intI (by rfl) T.n_int (by decide +kernel) (pa_cons (pv 3) pa_nil)) (pe_op op_add (pv 2) pe_int))) pa_nil)) pe_int)))) (pss_one (ps_ret (pe_lst (pa_cons (pe_lc (own := [("_law_cell", 3)]) (g := gName 3) (by rfl) sc_law_hand.nd (pi_seqK (K := K) rfl (pv 0)) (blkOk_by (own := [("_law_cell", 3)]) (N := ["_law_script", "_law_total", "_law_k", "_law_cell"]) (sc := defScope s_law_hand) (by decide +kernel)) (fun _ _ _ _ _ => (pg_name (i := 3) sc_law_hand.nd rfl (Or.inl rfl))) (fun _ _ _ _ _ => pts_nil) (fun _ _ _ _ _ => (pe_callB call_absI (by rfl) T.n_abs (by decide +kernel) (pa_cons (pe_callTy call_intI (by rfl) T.n_int (by decide +kernel) (pa_cons (pv 3) pa_nil)) pa_nil)))) (pa_cons pe_int (pa_cons pe_int (pa_cons (pv 1) pa_nil))))))))), ?_⟩
    walk_at "st"
    walk_at "wp"
    refine w_forEnum (.inl (sI.seq hp)) (fun i σ H' => ∃ (t : Int) (y z : Option V), σ = [some (.ref p), some (.int t), y, z] ∧ Same H H') (fun Q q => ⟨_, rfl, q⟩) ⟨0, none, none, rfl, Same.refl _⟩
      (fun i σ H' _ h => ?_) (fun i x Tp σ H' hi h hT => ?_) (fun σ H' h => ?_)
    · obtain ⟨_, _, _, _, s2⟩ := h
      exact s2
    · obtain ⟨t, y, z, rfl, s2⟩ := h
      have hi' : i < ns.length := by simpa using (List.getElem?_eq_some_iff.mp hi).1
      rw [get_map hi'] at hi
      obtain rfl := Option.some.inj hi
      refine w_gpair upd_same ?_
      simp only [List.set_cons_zero, List.set_cons_succ]
      walk_at "wp"
      exact ⟨_, _, _, rfl, s2.trans (same_new hT)⟩
    · obtain ⟨t, y, z, rfl, s2⟩ := h
      walk_at "wp"
      have f0 : Lf No I H I H' := Lf.ofSame sI s2
      refine w_compS (K := K) (I := I) (M := No) (.inl hp) (fun Q q => ?_) (fun h => h) (CompOk.pure (fun k => .int (absI (ns.getD k 0))) f0.sub (fun b h => h.elim) (by rw [List.length_map]; exact small1000 (by omega)) (fun k I5 H5 R hk f5 hR => ?_) (fun I5 H5 E vs f5 e1 e2 e3 hv => ?_))
      · walk_at "wp"
        exact q
      · rw [List.length_map] at hk
        have hg : (ns.map V.int).getD k .non = .int ns[k] := by simp [hk]
        rw [hg]
        simp only [List.set_cons_zero, List.set_cons_succ]
        walk_at "wp"
        refine hR _ I5 H5 (Lf.refl f5.sub) ?_
        rw [show ns.getD k 0 = ns[k] by simp [hk]]
        exact .int _
      · walk_at "wp"
        rw [List.length_map, map_range_get (fun z => PyData.int (absI z)) ns (fun k => ns.getD k 0) (fun k h => by simp [h])] at hv
        have hv2 : DpAll K I5 vs ((ns.map absI).map PyData.int) := by rw [List.map_map]; exact hv
        obtain rfl := DpAll.isInts hv2
        refine ⟨by show 4 ≤ sizeLine; decide, fun hd hh => ?_⟩
        have f6 := Lf.freeze f5 f0.sub e1 e3
        have f7 := (f0.trans f6).trans (Lf.alloc (o := .lst [.ref E, .int 0, .int 0, .int t]) f6.sub hh)
        refine q _ _ hd f7 ⟨f7.sub, Same.sub f6.sub hh, E, ns.map absI, 0, 0, t, upd_same, ofL upd_same, ?_, by omega, by omega⟩
        intro x hx
        obtain ⟨n, _, rfl⟩ := List.mem_map.mp hx
        unfold absI
        split <;> omega
/-! ### a list or a tuple -/
end
end LW
namespace LW
open PySem PySem.Spec PyProof.Rows L2 L3 L4
section
variable {P : Program} {w : World} {K : PySem.W.Frag} {mg : Str → Option Value} {base : Heap} {a : Adr}
def spLaw (K : PySem.W.Frag) : Sp := fun vs H Q _ => ∃ (a : Addr) (ns : List Int), vs = [.ref a] ∧ SqL K H a (ns.map V.int) ∧ ns.length ≤ 63 ∧ ∀ H', Q (.bl true) H'
def B1_law : M Fl :=
    (seqM (asgM (callN 1 (noExc den_law_case) [] ((setl (varM 1)).bind fun x => ((M.ret [])).bind fun xs => M.ret (x :: xs))) (tupTg 2 [(setM 3), (setM 4)]))
    (seqM (asgM (iteM (truM (cbM isiP ((setl (varM 4)).bind fun x => (((setl (M.ret (.fz (.ty "list")))).bind fun x => ((M.ret [])).bind fun xs => M.ret (x :: xs))).bind fun xs => M.ret (x :: xs)))) (callN 2 (noExc den_law_seq) [] ((setl (varM 1)).bind fun x => (((setl (varM 4)).bind fun x => ((M.ret [])).bind fun xs => M.ret (x :: xs))).bind fun xs => M.ret (x :: xs))) (varM 4)) (setM 5))
    (seqM (asgM (cbM reprP ((setl (varM 5)).bind fun x => ((M.ret [])).bind fun xs => M.ret (x :: xs))) (setM 6))
    (iteM (orM (notM (truM (callN 2 (noExc den_law_exact) [] ((setl (callN 2 (noExc den_law_told) [] ((setl (varM 3)).bind fun x => (((setl (varM 5)).bind fun x => ((M.ret [])).bind fun xs => M.ret (x :: xs))).bind fun xs => M.ret (x :: xs)))).bind fun x => (((setl (callN 2 (noExc den_law_due) [] ((setl (varM 3)).bind fun x => (((setl (varM 4)).bind fun x => ((M.ret [])).bind fun xs => M.ret (x :: xs))).bind fun xs => M.ret (x :: xs)))).bind fun x => ((M.ret [])).bind fun xs => M.ret (x :: xs))).bind fun xs => M.ret (x :: xs))))) (testM (opM neP (cbM reprP ((setl (varM 5)).bind fun x => ((M.ret [])).bind fun xs => M.ret (x :: xs))) (varM 6)))) (rtM (M.ret (.fz (.bl false)))) (M.ret .nx)))))
def F_law : M Fl :=
    (seqM (iteM (notM (truM (callN 1 (noExc den_law_wholes) [] ((setl (varM 1)).bind fun x => ((M.ret [])).bind fun xs => M.ret (x :: xs))))) (rtM (M.ret (.fz (.bl false)))) (M.ret .nx))
    (seqM (forM (rng1M ((setl (M.ret (.fz (.int 5)))).bind fun x => ((M.ret [])).bind fun xs => M.ret (x :: xs))) (setM 2)
    B1_law)
    (seqM (asgM (opM mulP (lstM ((setl (tupM ((setl (M.ret (.fz (.int 0)))).bind fun x => (((setl (M.ret (.fz (.int 1)))).bind fun x => ((M.ret [])).bind fun xs => M.ret (x :: xs))).bind fun xs => M.ret (x :: xs)))).bind fun x => ((M.ret [])).bind fun xs => M.ret (x :: xs))) (M.ret (.fz (.int 600)))) (setM 7))
    (rtM (iteM (testM (opM isNP (callN 2 (noExc den_law_told) [] ((setl (M.ret (.fz (.int 2)))).bind fun x => (((setl (varM 7)).bind fun x => ((M.ret [])).bind fun xs => M.ret (x :: xs))).bind fun xs => M.ret (x :: xs))) (M.ret (.fz .non)))) (callN 2 (noExc den_law_exact) [] ((setl (callN 2 (noExc den_law_told) [] ((setl (M.ret (.fz (.int 2)))).bind fun x => (((setl (opM addP (varM 7) (lstM ((setl (tupM ((setl (M.ret (.fz (.int 0)))).bind fun x => (((setl (M.ret (.fz (.int 1)))).bind fun x => ((M.ret [])).bind fun xs => M.ret (x :: xs))).bind fun xs => M.ret (x :: xs)))).bind fun x => ((M.ret [])).bind fun xs => M.ret (x :: xs))))).bind fun x => ((M.ret [])).bind fun xs => M.ret (x :: xs))).bind fun xs => M.ret (x :: xs)))).bind fun x => (((setl (tupM ((setl (M.ret (.fz (.str "pairs")))).bind fun x => (((setl (M.ret (.fz (.int 0)))).bind fun x => ((M.ret [])).bind fun xs => M.ret (x :: xs))).bind fun xs => M.ret (x :: xs)))).bind fun x => ((M.ret [])).bind fun xs => M.ret (x :: xs))).bind fun xs => M.ret (x :: xs))) (M.ret (.fz (.bl false))))))))
def LawTrue : Prop := wpM F_law (.no :: .fz .hand :: List.replicate 6 .no) (fun o _ => match o with | .rt (.fz (.bl true)) => True | _ => False) (fun _ _ => False)
theorem ok_law_of (hL : LawTrue) (T : Top K mg a) : FnG P w K mg base CX0 7 a.f_law a.d_law ["_law_script"] (spLaw K) := by
  refine okG T.F_law sc_law (fun vs H Q E h => ?_) (fun cdv A outer s H vs Q E hgd hr h => ?_)
  · obtain ⟨s, ns, rfl, _⟩ := h
    rfl
  · obtain ⟨s, ns, rfl, hs, hl, q⟩ := h
    exact ⟨_, (pss_cons (ps_set (i := 1) sc_law.nd rfl (Or.inl rfl) (pe_call (ok_law_hand T) (hr.mono (by decide)) (by rfl) T.g_law_hand T.F_law_hand.kp T.b_law_hand .nil pass0 (pa_cons (pv 0) pa_nil))) (pss_cons (ps_if (pt_not (pt_truth (pe_call (ok_law_wholes T) (hr.mono (by decide)) (by rfl) T.g_law_wholes T.F_law_wholes.kp T.b_law_wholes .nil pass0 (pa_cons (pv 1) pa_nil)) (by intro _; rfl))) (pss_one (ps_ret pe_bl)) pss_nil) (pss_cons (ps_for PassesOwn.never rfl (pi_range1 (by rfl) T.n_range (pa_cons pe_int pa_nil)) (pg_name (i := 2) sc_law.nd rfl (Or.inl rfl)) (pss_cons (ps_asg (pe_call (ok_law_case T) (hr.mono (by decide)) (by rfl) T.g_law_case T.F_law_case.kp T.b_law_case .nil pass0 (pa_cons (pv 1) pa_nil)) (pg_tup rfl (pgs_cons (pg_name (i := 3) sc_law.nd rfl (Or.inl rfl)) (pgs_cons (pg_name (i := 4) sc_law.nd rfl (Or.inl rfl)) pgs_nil)))) (pss_cons (ps_set (i := 5) sc_law.nd rfl (Or.inl rfl) (pe_ifExp (pt_truth (pe_callB (call_isiK' (K := K) rfl) (by rfl) T.n_isinstance (by decide +kernel) (pa_cons (pv 4) (pa_cons (pe_bltn (v := .ty "list") (u := .type "list") (by rfl) T.n_list (by decide +kernel) rfl) pa_nil))) (by intro _; rfl)) (pe_call (ok_law_seq T) (hr.mono (by decide)) (by rfl) T.g_law_seq T.F_law_seq.kp T.b_law_seq .nil pass0 (pa_cons (pv 1) (pa_cons (pv 4) pa_nil))) (pv 4))) (pss_cons (ps_set (i := 6) sc_law.nd rfl (Or.inl rfl) (pe_callB (call_reprD (K := K) rfl hgd (units66 hr)) (by rfl) T.n_repr (by decide +kernel) (pa_cons (pv 5) pa_nil))) (pss_one (ps_if (PW.pt (pw_or (pt_not (pt_truth (pe_call (ok_law_exact T) (hr.mono (by decide)) (by rfl) T.g_law_exact T.F_law_exact.kp T.b_law_exact .nil pass0 (pa_cons (pe_call (ok_law_told T) (hr.mono (by decide)) (by rfl) T.g_law_told T.F_law_told.kp T.b_law_told .nil pass0 (pa_cons (pv 3) (pa_cons (pv 5) pa_nil))) (pa_cons (pe_call (ok_law_due T) (hr.mono (by decide)) (by rfl) T.g_law_due T.F_law_due.kp T.b_law_due .nil pass0 (pa_cons (pv 3) (pa_cons (pv 4) pa_nil))) pa_nil))) (by intro _; rfl))) (pw_or1 (pt_cmpR (op_neK (K := K) rfl hr.units) (pe_callB (call_reprD (K := K) rfl hgd (units66 hr)) (by rfl) T.n_repr (by decide +kernel) (pa_cons (pv 5) pa_nil)) (pv 6) (nomark _))))) (pss_one (ps_ret pe_bl)) pss_nil)))))) (pss_cons (ps_set (i := 7) sc_law.nd rfl (Or.inl rfl) (pe_op op_mulU (pe_lst (pa_cons (pe_tup (pa_cons pe_int (pa_cons pe_int pa_nil))) pa_nil)) pe_int)) (pss_one (ps_ret (pe_and (pe_cmpR op_isN' (pe_call (ok_law_told T) (hr.mono (by decide)) (by rfl) T.g_law_told T.F_law_told.kp T.b_law_told .nil pass0 (pa_cons pe_int (pa_cons (pv 7) pa_nil))) pe_non (nomark _)) (pe_one (pe_call (ok_law_exact T) (hr.mono (by decide)) (by rfl) T.g_law_exact T.F_law_exact.kp T.b_law_exact .nil pass0 (pa_cons (pe_call (ok_law_told T) (hr.mono (by decide)) (by rfl) T.g_law_told T.F_law_told.kp T.b_law_told .nil pass0 (pa_cons pe_int (pa_cons (pe_op (op_addU (K := K) rfl) (pv 7) (pe_lst (pa_cons (pe_tup (pa_cons pe_int (pa_cons pe_int pa_nil))) pa_nil))) pa_nil))) (pa_cons (pe_tup (pa_cons pe_str (pa_cons pe_int pa_nil))) pa_nil))))))))))), law_run (N := ["_law_turn", "_law_n", "_law_pairs", "_law_passed", "_law_before", "_law_full"]) (ns := ns) (ca := cas a) (ex := (0, .none, none)) (rs_seq (rs_if (r_not (r_tru (r_call0 (fun _ _ => by exact trivial) (ra_cons r_var ra_nil)))) (rs_rt r_bl) rs_next) (rs_seq (rs_for (r_rng1 (ra_cons r_int ra_nil)) rg_name (rs_seq (rs_asg (r_call0 (fun _ _ => by exact trivial) (ra_cons r_var ra_nil)) (rg_tupT (rgs_cons rg_name (rgs_cons rg_name rgs_nil)))) (rs_seq (rs_asg (r_if (r_tru (r_cb o_isi (ra_cons r_var (ra_cons (r_cD fun _ => .ty _) ra_nil)))) (r_call0 (fun _ _ => by exact trivial) (ra_cons r_var (ra_cons r_var ra_nil))) r_var) rg_name) (rs_seq (rs_asg (r_cb o_repr (ra_cons r_var ra_nil)) rg_name) (rs_if (r_or (r_not (r_tru (r_call0 (fun _ _ => by exact trivial) (ra_cons (r_call0 (fun _ _ => by exact trivial) (ra_cons r_var (ra_cons r_var ra_nil))) (ra_cons (r_call0 (fun _ _ => by exact trivial) (ra_cons r_var (ra_cons r_var ra_nil))) ra_nil))))) (r_test (r_op o_ne (r_cb o_repr (ra_cons r_var ra_nil)) r_var))) (rs_rt r_bl) rs_next))))) (rs_seq (rs_asg (r_op o_mul (r_lst (ra_cons (r_tup (ra_cons r_int (ra_cons r_int ra_nil))) ra_nil)) r_int) rg_name) (rs_rt (r_andV (r_op o_isN (r_call0 (fun _ _ => by exact trivial) (ra_cons r_int (ra_cons r_var ra_nil))) r_non) (r_call0 (fun _ _ => by exact trivial) (ra_cons (r_call0 (fun _ _ => by exact trivial) (ra_cons r_int (ra_cons (r_op o_add r_var (r_lst (ra_cons (r_tup (ra_cons r_int (ra_cons r_int ra_nil))) ra_nil))) ra_nil))) (ra_cons (r_tup (ra_cons r_str (ra_cons r_int ra_nil))) ra_nil)))))))) (fun H Q E hs q => ⟨H, s, ns, rfl, Same.refl H, hs, by omega, fun I1 H1 hd f1 hh => q I1 H1 hd hh⟩) hL hs q⟩
end
end LW
namespace LW
open PySem PySem.Spec PyProof.Rows L2 L3 L4
local macro_rules | `(tactic| walk_at "ev") => `(tactic| simp only [bindO_val, bindO_exc, bindO_need, bindO_stuck, bindO_draw, bindO_ite, bind_ret, bind_need, bind_stuck, bind_draw, bind_ite, app_bind, app_ret, app_stuck, app_lift, app_ite, app_setl, stl_fz, stl_bw, stl_ow, app_var, varK_fz, varK_ow, app_vw_fz, app_vw_bw, bwV_some, lstOf_ow, lstOf_fz, app_frz_fz, app_frz_ow, app_frz_bw, app_frzD, nh_non, nh_bl, nh_int, nh_str, nh_tup, nh_lst, nh_ins, nh_ty, nh_cls, app_op, app_un, app_cb, app_vwA_nil, app_vwA_cons, app_frzA_nil, app_frzA_cons, app_frzC_nil, app_frzC_cons, app_liftR, fv_fz, fv_ow, app_tup, app_lst, app_call, app_out, outK_ok, outK_err, noK_ok, app_test, testK_bl, app_and, app_or, app_not, app_tru, app_iteM, app_blM, app_andT, app_orT, app_notT, app_chain, chainK_bl, app_seq, seqK_nx, seqK_rt, seqK_bk, seqK_ct, app_asg, app_rt, rtv_fz, rtv_ow, rtv_bw, rtS_ow, rtS_fz, app_drop, set_fz, set_ow, set_bw, app_tupTg, tupTK_tup, app_tgs_nil, app_tgs_cons, app_store, storeK_bw, stS_ow, stN_some, stS_K, stS_T, stK_some, stT_some, stl_nd, varK_oi, varK_od, lstOf_od, lstOf_fzK, lstOf_fzT, app_frz_nd, nh_dK, nh_dT, rtv_nd, rtS_od, set_nd, app_dnewK, app_dnewT, app_fld, fldV_fz, fldV_bw, fldS_oi, fldS_fz, app_fldK, fldG_some, app_sfld, sfldK_oi, app_make, app_outI, outIK_ok, outIK_err, app_meth, methO_fz, app_prop, propO_fz, app_callK, app_xis2, xis2K_xc, app_lc2, boolP, max2P, min2P, divmodP, insertP, sortK, sortedP, reprP, dicP, gotK, keyK, keyA, keyT, getZ, setZ, putZk, putZd, mixK, List.any_nil, List.any_cons, List.flatMap_cons, List.flatMap_nil, List.drop_zero, List.drop_succ_cons, List.take_succ_cons, List.take_zero, app_bm, isLst_lst, bmK_bw, bmS_ow, app_index, app_draw, drawK_hand, app_sl, app_part, partK_int, app_isi2, app_rg1, rg1K_f, rg1K_t, app_rg2, rg2K_f, rg2K_t, app_rng1, rng1K_int, app_rng2, rng2K_int, app_seqS, items_lst, items_tup, app_enum1, app_for, app_lc, wipe_nil, wipe_cons, app_raise, app_raise0, app_try, tryK_val, tryK_exc, hdM_nil, hdM_some, hdM_none, app_xf, xfK_xc, xfL_some, app_xis, xisK_xc, app_aug, app_par, parK_two, endK_nx, endK_rt, endK_exc, wp_ret, wp_need, wp_stuck, wp_draw, wp_ite, wp_bindO, afterO_val, afterO_exc, stepP_nx, stepP_ct, stepP_bk, stepP_rt, stepP_exc, testP_t, testP_f, testP_b, eltP_fz, eltP_ow, eltP_nd, tstP_b, wp_bindO, app_den, app_noExc, noK_ok, p2I, p2C, subP, L4.ltP, leP, gtP, geP, fdivP, modP, powP, shlP, shrP, bandP, borP, bxorP, addP, mulP, eqP, neP, isNonD, isNP, notNP, isBlD, isBP, negP, invP, itP, ixP, lenP, int1P, absP, listP, tupleP, sumK, sumP, anyK, anyP, allP, mxK, maxP, minP, tyB, basicD, blK, isiP, orO, slP, appendP, extendP, popK, popAt, popAtP, popL, popP, reverseP, clearP, natK, indexP, inP, ninP, truV, cleanK, bareK, noXc, subs, subRow, List.lookup, List.map_cons, List.map_nil, List.nil_append, List.cons_append, List.length_cons, List.length_nil, List.replicate_succ, List.replicate_zero, Nat.reduceSub, Nat.reduceAdd, Nat.zero_add, List.getElem?_cons_zero, List.getElem?_cons_succ, List.getElem?_nil, List.set_cons_zero, List.set_cons_succ, List.append_nil, if_true, if_false, ite_true, ite_false, Bool.false_eq_true, Bool.not_true, Bool.not_false, decide_eq_true_eq, Bool.not_eq_true', decide_eq_false_iff_not, true_and, and_true, Bool.true_eq_false, reduceIte, reduceCtorEq, Bool.or_true, Bool.or_false, Bool.true_or, Bool.false_or, Bool.and_true, Bool.and_false, Bool.true_and, Bool.false_and, not_true_eq_false, not_false_eq_true, List.zip_cons_cons, List.zip_nil_left, List.zip_nil_right, List.reverse_cons, List.reverse_nil, List.getD_cons_zero, List.getD_cons_succ, String.reduceEq])
def loB (i : Int) : PV → Bool
  | .int l => decide (l ≤ i)
  | _ => true
def hiB (i : Int) : PV → Bool
  | .int h => decide (i ≤ h)
  | _ => true
def wholeB (d lo hi : PV) : Bool := match d with
  | .int i => loB i lo && hiB i hi
  | _ => false
def isOpt (d : PV) : Prop := d = .non ∨ ∃ l, d = .int l
theorem is_whole_eq {d lo hi : PV} (b : basicD d = true) (hl : isOpt lo) (hh : isOpt hi) : den_is_whole [d, lo, hi] = .ret (.ok (.fz (.bl (wholeB d lo hi)))) := by
  have key : ∀ i lo hi, isOpt lo → isOpt hi → den_is_whole [.int i, lo, hi] = .ret (.ok (.fz (.bl (wholeB (.int i) lo hi)))) := by
    rintro i lo hi (rfl | ⟨l, rfl⟩) (rfl | ⟨h, rfl⟩)
    · (simp only [den_is_whole, F_is_whole]; try walk_at "ev")
      rfl
    · (simp only [den_is_whole, F_is_whole]; try walk_at "ev")
      simp only [wholeB, loB, hiB, Bool.true_and]
    · (simp only [den_is_whole, F_is_whole]; try walk_at "ev")
      by_cases h : i < l
      · rw [if_pos h]; simp only [wholeB, loB, hiB, Bool.and_true, decide_eq_false (show ¬ l ≤ i by omega)]
      · rw [if_neg h]; simp only [wholeB, loB, hiB, Bool.and_true, decide_eq_true (show l ≤ i by omega)]
    · (simp only [den_is_whole, F_is_whole]; try walk_at "ev")
      by_cases h : i < l
      · rw [if_pos h]; simp only [wholeB, loB, hiB, Bool.false_and, decide_eq_false (show ¬ l ≤ i by omega)]
      · rw [if_neg h]; simp only [wholeB, loB, hiB, Bool.true_and, decide_eq_true (show l ≤ i by omega)]
  cases d with
  | int i => exact key i lo hi hl hh
  | ins _ _ => cases b
  | hand => cases b
  | ty _ => cases b
  | cls _ => cases b
  | _ => (simp only [den_is_whole, F_is_whole]; try walk_at "ev")
         rfl
def seqB : PV → Bool
  | .lst _ => true
  | .tup _ => true
  | _ => false
theorem is_sequence_eq {d : PV} (b : basicD d = true) : den_is_sequence [d] = .ret (.ok (.fz (.bl (seqB d)))) := by
  cases d with
  | ins _ _ => cases b
  | hand => cases b
  | ty _ => cases b
  | cls _ => cases b
  | _ => (simp only [den_is_sequence, F_is_sequence]; try walk_at "ev")
         rfl
theorem law_state_eq {d : PV} {n : Int} (b : basicD d = true) : den_law_state [.int n, d] = .ret (.ok (.fz (.bl (wholeB d (.int 0) (.int (n - 1)))))) := by
  cases d with
  | int i =>
    (simp only [den_law_state, F_law_state]; try walk_at "ev")
    by_cases h : 0 ≤ i
    · simp only [h, wholeB, loB, hiB, decide_true, Bool.true_and, if_true]
      congr 5
      exact propext ⟨fun _ => by omega, fun _ => by omega⟩
    · simp only [h, wholeB, loB, hiB, decide_false, Bool.false_and, if_false]
  | ins _ _ => cases b
  | hand => cases b
  | ty _ => cases b
  | cls _ => cases b
  | _ => (simp only [den_law_state, F_law_state]; try walk_at "ev")
         rfl
end LW
namespace LW
open PySem PySem.Spec PyProof.Rows L2 L3 L4
local macro_rules | `(tactic| walk_at "ev") => `(tactic| simp only [bindO_val, bindO_exc, bindO_need, bindO_stuck, bindO_draw, bindO_ite, bind_ret, bind_need, bind_stuck, bind_draw, bind_ite, app_bind, app_ret, app_stuck, app_lift, app_ite, app_setl, stl_fz, stl_bw, stl_ow, app_var, varK_fz, varK_ow, app_vw_fz, app_vw_bw, bwV_some, lstOf_ow, lstOf_fz, app_frz_fz, app_frz_ow, app_frz_bw, app_frzD, nh_non, nh_bl, nh_int, nh_str, nh_tup, nh_lst, nh_ins, nh_ty, nh_cls, app_op, app_un, app_cb, app_vwA_nil, app_vwA_cons, app_frzA_nil, app_frzA_cons, app_frzC_nil, app_frzC_cons, app_liftR, fv_fz, fv_ow, app_tup, app_lst, app_call, app_out, outK_ok, outK_err, noK_ok, app_test, testK_bl, app_and, app_or, app_not, app_tru, app_iteM, app_blM, app_andT, app_orT, app_notT, app_chain, chainK_bl, app_seq, seqK_nx, seqK_rt, seqK_bk, seqK_ct, app_asg, app_rt, rtv_fz, rtv_ow, rtv_bw, rtS_ow, rtS_fz, app_drop, set_fz, set_ow, set_bw, app_tupTg, tupTK_tup, app_tgs_nil, app_tgs_cons, app_store, storeK_bw, stS_ow, stN_some, stS_K, stS_T, stK_some, stT_some, stl_nd, varK_oi, varK_od, lstOf_od, lstOf_fzK, lstOf_fzT, app_frz_nd, nh_dK, nh_dT, rtv_nd, rtS_od, set_nd, app_dnewK, app_dnewT, app_fld, fldV_fz, fldV_bw, fldS_oi, fldS_fz, app_fldK, fldG_some, app_sfld, sfldK_oi, app_make, app_outI, outIK_ok, outIK_err, app_meth, methO_fz, app_prop, propO_fz, app_callK, app_xis2, xis2K_xc, app_lc2, boolP, max2P, min2P, divmodP, insertP, sortK, sortedP, reprP, dicP, gotK, keyK, keyA, keyT, getZ, setZ, putZk, putZd, mixK, List.any_nil, List.any_cons, List.flatMap_cons, List.flatMap_nil, List.drop_zero, List.drop_succ_cons, List.take_succ_cons, List.take_zero, app_bm, isLst_lst, bmK_bw, bmS_ow, app_index, app_draw, drawK_hand, app_sl, app_part, partK_int, app_isi2, app_rg1, rg1K_f, rg1K_t, app_rg2, rg2K_f, rg2K_t, app_rng1, rng1K_int, app_rng2, rng2K_int, app_seqS, items_lst, items_tup, app_enum1, app_for, app_lc, wipe_nil, wipe_cons, app_raise, app_raise0, app_try, tryK_val, tryK_exc, hdM_nil, hdM_some, hdM_none, app_xf, xfK_xc, xfL_some, app_xis, xisK_xc, app_aug, app_par, parK_two, endK_nx, endK_rt, endK_exc, wp_ret, wp_need, wp_stuck, wp_draw, wp_ite, wp_bindO, afterO_val, afterO_exc, stepP_nx, stepP_ct, stepP_bk, stepP_rt, stepP_exc, testP_t, testP_f, testP_b, eltP_fz, eltP_ow, eltP_nd, tstP_b, wp_bindO, app_den, app_noExc, noK_ok, p2I, p2C, subP, L4.ltP, leP, gtP, geP, fdivP, modP, powP, shlP, shrP, bandP, borP, bxorP, addP, mulP, eqP, neP, isNonD, isNP, notNP, isBlD, isBP, negP, invP, itP, ixP, lenP, int1P, absP, listP, tupleP, sumK, sumP, anyK, anyP, allP, mxK, maxP, minP, tyB, basicD, blK, isiP, orO, slP, appendP, extendP, popK, popAt, popAtP, popL, popP, reverseP, clearP, natK, indexP, inP, ninP, truV, cleanK, bareK, noXc, subs, subRow, List.lookup, List.map_cons, List.map_nil, List.nil_append, List.cons_append, List.length_cons, List.length_nil, List.replicate_succ, List.replicate_zero, Nat.reduceSub, Nat.reduceAdd, Nat.zero_add, List.getElem?_cons_zero, List.getElem?_cons_succ, List.getElem?_nil, List.set_cons_zero, List.set_cons_succ, List.append_nil, if_true, if_false, ite_true, ite_false, Bool.false_eq_true, Bool.not_true, Bool.not_false, decide_eq_true_eq, Bool.not_eq_true', decide_eq_false_iff_not, true_and, and_true, Bool.true_eq_false, reduceIte, reduceCtorEq, Bool.or_true, Bool.or_false, Bool.true_or, Bool.false_or, Bool.and_true, Bool.and_false, Bool.true_and, Bool.false_and, not_true_eq_false, not_false_eq_true, List.zip_cons_cons, List.zip_nil_left, List.zip_nil_right, List.reverse_cons, List.reverse_nil, List.getD_cons_zero, List.getD_cons_succ, String.reduceEq])
/-- the numbers of a right pair -/
def twoOf (n : Nat) (p : PV) : Option (Nat × Nat) := match seqItems p with
  | some [.int a, .int b] => if 0 ≤ a ∧ a < n ∧ 0 ≤ b ∧ b < n then some (a.toNat, b.toNat) else none
  | _ => none
/-- at which index the first wrong pair stands; else the numbers of all -/
def pairsOf (n : Nat) : List PV → Nat → Except Nat (List (Nat × Nat))
  | [], _ => .ok []
  | p :: ps, at' => match twoOf n p with
    | none => .error at'
    | some q => match pairsOf n ps (at' + 1) with
      | .error k => .error k
      | .ok qs => .ok (q :: qs)
def zeroB (n : Nat) : Bits := List.replicate n (List.replicate n false)
def pairB (R : Bits) (q : Nat × Nat) : Bits := setB R q.1 q.2
def orR (m : Nat) (R : Bits) (x : Nat) : Bits := if getB R x m then R.set x (List.zipWith (· || ·) (R.getD x []) (R.getD m [])) else R
def orM (n : Nat) (R : Bits) (m : Nat) : Bits := (List.range n).foldl (orR m) R
def orAll (n : Nat) (R : Bits) : Bits := (List.range n).foldl (orM n) R
def masksP (R : Bits) : List PV := R.map fun r => .int (maskN r)
def pairErr (k : Nat) : Xc := ⟨1, [("at", .int k), ("what", .str "pair")]⟩
/-- data that can be asked for their type, and so can be their items -/
def basic2 (p : PV) : Prop := basicD p = true ∧ okD p ∧ ∀ xs, seqItems p = some xs → ∀ x ∈ xs, basicD x = true
theorem atI_two0 {a b : PV} : atI [a, b] (0 : Int) = some a := rfl
theorem atI_two1 {a b : PV} : atI [a, b] (1 : Int) = some b := rfl
theorem atI_nat {xs : List PV} {i : Nat} : atI xs (i : Int) = xs[i]? := by
  unfold atI ixN
  rw [if_pos (by omega)]
  by_cases h : i < xs.length
  · rw [if_pos (by omega)]; rfl
  · rw [if_neg (by omega), List.getElem?_eq_none (by omega)]; rfl
theorem whole_nat {n : Nat} {a : PV} (h : wholeB a (.int 0) (.int (n - 1)) = true) : ∃ i : Nat, i < n ∧ a = .int i := by
  cases a with
  | int v =>
    have h : (decide (0 ≤ v) && decide (v ≤ (n : Int) - 1)) = true := h
    rw [Bool.and_eq_true, decide_eq_true_eq, decide_eq_true_eq] at h
    refine ⟨v.toNat, by omega, ?_⟩
    rw [Int.toNat_of_nonneg h.1]
  | _ => cases h
theorem ixN_nat {n i : Nat} (h : i < n) : ixN n (i : Int) = some i := by
  unfold ixN
  rw [if_pos (by omega), if_pos (by omega)]
  rfl
theorem masks_len {n : Nat} {R : Bits} (h : Sq n R) : (masksP R).length = n := by
  unfold masksP
  rw [List.length_map]
  exact h.1
theorem masks_put {n : Nat} {R : Bits} {i j : Nat} (h : Sq n R) (hi : i < n) (hj : j < n) : (masksP R).set i (.int (Builtin.bitOr (maskN (R.getD i [])) (1 * 2 ^ ((j : Int)).toNat))) = masksP (setB R i j) := by
  unfold masksP setB
  rw [List.map_set]
  have e : Builtin.bitOr (maskN (R.getD i [])) (1 * 2 ^ ((j : Int)).toNat) = ((maskN ((R.getD i []).set j true) : Nat) : Int) := by
    rw [maskN_set _ _ (by rw [(h.row hi).2]; exact hj), ← bitOr_nat]
    simp
  rw [e]
theorem whole_out {v : Int} {n : Nat} (h : wholeB (.int v) (.int 0) (.int (n - 1)) = false) : ¬ (0 ≤ v ∧ v < n) := by
  have h : (decide (0 ≤ v) && decide (v ≤ (n : Int) - 1)) = false := h
  rintro ⟨a, b⟩
  rw [decide_eq_true a, decide_eq_true (show v ≤ (n : Int) - 1 by omega)] at h
  cases h
theorem two_none {n : Nat} {p a b : PV} (e : seqItems p = some [a, b]) (h : wholeB a (.int 0) (.int (n - 1)) = false ∨ wholeB b (.int 0) (.int (n - 1)) = false) : twoOf n p = none := by
  unfold twoOf
  rw [e]
  cases a with
  | int v =>
    cases b with
    | int w =>
      show (if 0 ≤ v ∧ v < n ∧ 0 ≤ w ∧ w < n then _ else _) = _
      rw [if_neg]
      rcases h with h | h
      · have := whole_out h
        omega
      · have := whole_out h
        omega
    | _ => rfl
  | _ => rfl
theorem two_some {n i j : Nat} {p : PV} (e : seqItems p = some [.int i, .int j]) (hi : i < n) (hj : j < n) : twoOf n p = some (i, j) := by
  unfold twoOf
  rw [e]
  show (if (0 : Int) ≤ i ∧ (i : Int) < n ∧ (0 : Int) ≤ j ∧ (j : Int) < n then some ((i : Int).toNat, (j : Int).toNat) else none) = _
  rw [if_pos (by omega)]
  rfl
theorem two_len {n : Nat} {p : PV} {xs : List PV} (e : seqItems p = some xs) (h : xs.length ≠ 2) : twoOf n p = none := by
  unfold twoOf
  rw [e]
  match xs, h with
  | [], _ => rfl
  | [a], _ => cases a <;> rfl
  | [a, b], h => exact absurd rfl h
  | a :: b :: c :: r, _ => cases a <;> cases b <;> rfl
theorem two_not {n : Nat} {p : PV} (e : seqItems p = none) : twoOf n p = none := by
  unfold twoOf
  rw [e]
theorem pairs_one {n k : Nat} {p : PV} {ps : List PV} {q : Nat × Nat} (e : twoOf n p = some q) : pairsOf n (p :: ps) k = match pairsOf n ps (k + 1) with
      | .error k => .error k
      | .ok qs => .ok (q :: qs) := by
  rw [pairsOf, e]
theorem okI {i : Int} : okD (.int i) := ⟨rfl, Nat.le_of_ble_eq_true rfl⟩
theorem eqv_ne {i j : Int} (h : ¬ i = j) : (PV.int i).eqv (.int j) = false := by
  show decide _ = false
  exact decide_eq_false h
theorem masks_row {n : Nat} {R : Bits} {x : Nat} (h : Sq n R) (hx : x < n) : (masksP R)[x]? = some (.int (maskN (R.getD x []))) := by
  unfold masksP
  rw [List.getElem?_map, (h.row hx).1]
  rfl
theorem pairs_loop {n : Nat} {d : PV} {E : Out Fl → Prop} (n1 : 1 ≤ n) (n2 : n ≤ 24) : ∀ (ps : List PV) (k : Nat) (R : Bits) (x y : Sl), (∀ p ∈ ps, basic2 p) → Sq n R →
    (match pairsOf n ps k with
      | .error e => ∀ s, E (.exc (pairErr e) s)
      | .ok qs => ∀ x y, E (.val .nx [.fz (.int n), .fz d, .ow (masksP (qs.foldl pairB R)), x, y, .no, .no])) →
    Wp (forL (tupTg 2 [setM 3, setM 4]) B1_closed_masks (enumD k ps) [.fz (.int n), .fz d, .ow (masksP R), x, y, .no, .no]) E
  | [], k, R, x, y, _, _, h => wp_forL_nil (h x y)
  | p :: ps, k, R, x, y, hb, sq, h => by
    have bp := hb p List.mem_cons_self
    refine wp_forL_cons ?_
    have e1 := is_sequence_eq bp.1
    have bad : twoOf n p = none → ∀ s, E (.exc (pairErr k) s) := fun e s => by
      unfold pairsOf at h
      rw [e] at h
      exact h s
    have ok2 : okD (.int 2) := ⟨rfl, by decide⟩
    have go : ∀ xs, (p = .lst xs ∨ p = .tup xs) → Wp (bindO (tupTg 2 [setM 3, setM 4] (.fz (.tup [.int (k : Nat), p])) [.fz (.int n), .fz d, .ow (masksP R), x, y, .no, .no]) fun _ => B1_closed_masks) (stepP E fun s' => Wp (forL (tupTg 2 [setM 3, setM 4]) B1_closed_masks (enumD (k + 1) ps) s') E) := by
      intro xs hp
      match xs, hp with
      | [a, b], hp =>
        have ba : basicD a = true := bp.2.2 [a, b] (by rcases hp with rfl | rfl <;> rfl) a (by simp)
        have bb : basicD b = true := bp.2.2 [a, b] (by rcases hp with rfl | rfl <;> rfl) b (by simp)
        have w1 := is_whole_eq (d := a) (lo := .int 0) (hi := .int (n - 1)) ba (.inr ⟨_, rfl⟩) (.inr ⟨_, rfl⟩)
        have w2 := is_whole_eq (d := b) (lo := .int 0) (hi := .int (n - 1)) bb (.inr ⟨_, rfl⟩) (.inr ⟨_, rfl⟩)
        unfold B1_closed_masks
        rcases hp with rfl | rfl
        · skip
          have e1 := is_sequence_eq bp.1
          walk_at "ev"
          simp only [e1, seqB]
          walk_at "ev"
          simp only [atI_two0, atI_two1]
          walk_at "ev"
          simp only [w1]
          walk_at "ev"
          refine ⟨⟨ok2, ok2⟩, ?_⟩
          rw [if_neg (by decide)]
          cases ha : wholeB a (.int 0) (.int (n - 1)) with
          | false =>
            rw [if_pos rfl]
            exact ⟨by decide, bad (two_none rfl (.inl ha)) _⟩
          | true =>
          rw [if_neg (by simp)]
          simp only [atI_two1]
          walk_at "ev"
          simp only [w2]
          walk_at "ev"
          cases hb2 : wholeB b (.int 0) (.int (n - 1)) with
          | false =>
            rw [if_pos rfl]
            exact ⟨by decide, bad (two_none rfl (.inr hb2)) _⟩
          | true =>
          rw [if_neg (by simp)]
          obtain ⟨i, li, rfl⟩ := whole_nat ha
          obtain ⟨j, lj, rfl⟩ := whole_nat hb2
          simp only [atI_two0]
          walk_at "ev"
          simp only [atI_nat, masks_row sq li]
          walk_at "ev"
          simp only [atI_two1]
          walk_at "ev"
          simp only [atI_two0]
          walk_at "ev"
          refine ⟨⟨by omega, by omega, by decide⟩, ?_⟩
          rw [masks_len sq, ixN_nat li]
          walk_at "ev"
          rw [masks_put sq li lj]
          refine pairs_loop n1 n2 ps (k + 1) (setB R i j) _ _ (fun p z => hb p (List.mem_cons_of_mem _ z)) (sq.set li) ?_
          rw [pairs_one (two_some (i := i) (j := j) rfl li lj)] at h
          cases e3 : pairsOf n ps (k + 1) with
          | error m => rw [e3] at h; exact h
          | ok qs => rw [e3] at h; exact h
        · skip
          have e1 := is_sequence_eq bp.1
          walk_at "ev"
          simp only [e1, seqB]
          walk_at "ev"
          simp only [atI_two0, atI_two1]
          walk_at "ev"
          simp only [w1]
          walk_at "ev"
          refine ⟨⟨ok2, ok2⟩, ?_⟩
          rw [if_neg (by decide)]
          cases ha : wholeB a (.int 0) (.int (n - 1)) with
          | false =>
            rw [if_pos rfl]
            exact ⟨by decide, bad (two_none rfl (.inl ha)) _⟩
          | true =>
          rw [if_neg (by simp)]
          simp only [atI_two1]
          walk_at "ev"
          simp only [w2]
          walk_at "ev"
          cases hb2 : wholeB b (.int 0) (.int (n - 1)) with
          | false =>
            rw [if_pos rfl]
            exact ⟨by decide, bad (two_none rfl (.inr hb2)) _⟩
          | true =>
          rw [if_neg (by simp)]
          obtain ⟨i, li, rfl⟩ := whole_nat ha
          obtain ⟨j, lj, rfl⟩ := whole_nat hb2
          simp only [atI_two0]
          walk_at "ev"
          simp only [atI_nat, masks_row sq li]
          walk_at "ev"
          simp only [atI_two1]
          walk_at "ev"
          simp only [atI_two0]
          walk_at "ev"
          refine ⟨⟨by omega, by omega, by decide⟩, ?_⟩
          rw [masks_len sq, ixN_nat li]
          walk_at "ev"
          rw [masks_put sq li lj]
          refine pairs_loop n1 n2 ps (k + 1) (setB R i j) _ _ (fun p z => hb p (List.mem_cons_of_mem _ z)) (sq.set li) ?_
          rw [pairs_one (two_some (i := i) (j := j) rfl li lj)] at h
          cases e3 : pairsOf n ps (k + 1) with
          | error m => rw [e3] at h; exact h
          | ok qs => rw [e3] at h; exact h
      | [], hp =>
        have tn : twoOf n p = none := by rcases hp with rfl | rfl <;> exact two_len rfl (by simp)
        unfold B1_closed_masks
        rcases hp with rfl | rfl
        · have e1 := is_sequence_eq bp.1
          walk_at "ev"
          simp only [e1, seqB]
          walk_at "ev"
          refine ⟨⟨okI, ok2⟩, ?_⟩
          rw [if_pos (eqv_ne (by omega))]
          exact ⟨by decide, bad tn _⟩
        · have e1 := is_sequence_eq bp.1
          walk_at "ev"
          simp only [e1, seqB]
          walk_at "ev"
          refine ⟨⟨okI, ok2⟩, ?_⟩
          rw [if_pos (eqv_ne (by omega))]
          exact ⟨by decide, bad tn _⟩
      | [a], hp =>
        have tn : twoOf n p = none := by rcases hp with rfl | rfl <;> exact two_len rfl (by simp)
        unfold B1_closed_masks
        rcases hp with rfl | rfl
        · have e1 := is_sequence_eq bp.1
          walk_at "ev"
          simp only [e1, seqB]
          walk_at "ev"
          refine ⟨⟨okI, ok2⟩, ?_⟩
          rw [if_pos (eqv_ne (by omega))]
          exact ⟨by decide, bad tn _⟩
        · have e1 := is_sequence_eq bp.1
          walk_at "ev"
          simp only [e1, seqB]
          walk_at "ev"
          refine ⟨⟨okI, ok2⟩, ?_⟩
          rw [if_pos (eqv_ne (by omega))]
          exact ⟨by decide, bad tn _⟩
      | a :: b :: c :: r, hp =>
        have tn : twoOf n p = none := by rcases hp with rfl | rfl <;> exact two_len rfl (by simp)
        unfold B1_closed_masks
        rcases hp with rfl | rfl
        · have e1 := is_sequence_eq bp.1
          walk_at "ev"
          simp only [e1, seqB]
          walk_at "ev"
          refine ⟨⟨okI, ok2⟩, ?_⟩
          rw [if_pos (eqv_ne (by omega))]
          exact ⟨by decide, bad tn _⟩
        · have e1 := is_sequence_eq bp.1
          walk_at "ev"
          simp only [e1, seqB]
          walk_at "ev"
          refine ⟨⟨okI, ok2⟩, ?_⟩
          rw [if_pos (eqv_ne (by omega))]
          exact ⟨by decide, bad tn _⟩
    cases p with
    | lst xs => exact go xs (.inl rfl)
    | tup xs => exact go xs (.inr rfl)
    | ins _ _ => cases bp.1
    | hand => cases bp.1
    | ty _ => cases bp.1
    | cls _ => cases bp.1
    | _ => unfold B1_closed_masks
           walk_at "ev"
           simp only [e1, seqB]
           walk_at "ev"
           exact ⟨by decide, bad (two_not rfl) _⟩
end LW
namespace LW
open PySem PySem.Spec PyProof.Rows L2 L3 L4
local macro_rules | `(tactic| walk_at "ev") => `(tactic| simp only [bindO_val, bindO_exc, bindO_need, bindO_stuck, bindO_draw, bindO_ite, bind_ret, bind_need, bind_stuck, bind_draw, bind_ite, app_bind, app_ret, app_stuck, app_lift, app_ite, app_setl, stl_fz, stl_bw, stl_ow, app_var, varK_fz, varK_ow, app_vw_fz, app_vw_bw, bwV_some, lstOf_ow, lstOf_fz, app_frz_fz, app_frz_ow, app_frz_bw, app_frzD, nh_non, nh_bl, nh_int, nh_str, nh_tup, nh_lst, nh_ins, nh_ty, nh_cls, app_op, app_un, app_cb, app_vwA_nil, app_vwA_cons, app_frzA_nil, app_frzA_cons, app_frzC_nil, app_frzC_cons, app_liftR, fv_fz, fv_ow, app_tup, app_lst, app_call, app_out, outK_ok, outK_err, noK_ok, app_test, testK_bl, app_and, app_or, app_not, app_tru, app_iteM, app_blM, app_andT, app_orT, app_notT, app_chain, chainK_bl, app_seq, seqK_nx, seqK_rt, seqK_bk, seqK_ct, app_asg, app_rt, rtv_fz, rtv_ow, rtv_bw, rtS_ow, rtS_fz, app_drop, set_fz, set_ow, set_bw, app_tupTg, tupTK_tup, app_tgs_nil, app_tgs_cons, app_store, storeK_bw, stS_ow, stN_some, stS_K, stS_T, stK_some, stT_some, stl_nd, varK_oi, varK_od, lstOf_od, lstOf_fzK, lstOf_fzT, app_frz_nd, nh_dK, nh_dT, rtv_nd, rtS_od, set_nd, app_dnewK, app_dnewT, app_fld, fldV_fz, fldV_bw, fldS_oi, fldS_fz, app_fldK, fldG_some, app_sfld, sfldK_oi, app_make, app_outI, outIK_ok, outIK_err, app_meth, methO_fz, app_prop, propO_fz, app_callK, app_xis2, xis2K_xc, app_lc2, boolP, max2P, min2P, divmodP, insertP, sortK, sortedP, reprP, dicP, gotK, keyK, keyA, keyT, getZ, setZ, putZk, putZd, mixK, List.any_nil, List.any_cons, List.flatMap_cons, List.flatMap_nil, List.drop_zero, List.drop_succ_cons, List.take_succ_cons, List.take_zero, app_bm, isLst_lst, bmK_bw, bmS_ow, app_index, app_draw, drawK_hand, app_sl, app_part, partK_int, app_isi2, app_rg1, rg1K_f, rg1K_t, app_rg2, rg2K_f, rg2K_t, app_rng1, rng1K_int, app_rng2, rng2K_int, app_seqS, items_lst, items_tup, app_enum1, app_for, app_lc, wipe_nil, wipe_cons, app_raise, app_raise0, app_try, tryK_val, tryK_exc, hdM_nil, hdM_some, hdM_none, app_xf, xfK_xc, xfL_some, app_xis, xisK_xc, app_aug, app_par, parK_two, endK_nx, endK_rt, endK_exc, wp_ret, wp_need, wp_stuck, wp_draw, wp_ite, wp_bindO, afterO_val, afterO_exc, stepP_nx, stepP_ct, stepP_bk, stepP_rt, stepP_exc, testP_t, testP_f, testP_b, eltP_fz, eltP_ow, eltP_nd, tstP_b, wp_bindO, app_den, app_noExc, noK_ok, p2I, p2C, subP, L4.ltP, leP, gtP, geP, fdivP, modP, powP, shlP, shrP, bandP, borP, bxorP, addP, mulP, eqP, neP, isNonD, isNP, notNP, isBlD, isBP, negP, invP, itP, ixP, lenP, int1P, absP, listP, tupleP, sumK, sumP, anyK, anyP, allP, mxK, maxP, minP, tyB, basicD, blK, isiP, orO, slP, appendP, extendP, popK, popAt, popAtP, popL, popP, reverseP, clearP, natK, indexP, inP, ninP, truV, cleanK, bareK, noXc, subs, subRow, List.lookup, List.map_cons, List.map_nil, List.nil_append, List.cons_append, List.length_cons, List.length_nil, List.replicate_succ, List.replicate_zero, Nat.reduceSub, Nat.reduceAdd, Nat.zero_add, List.getElem?_cons_zero, List.getElem?_cons_succ, List.getElem?_nil, List.set_cons_zero, List.set_cons_succ, List.append_nil, if_true, if_false, ite_true, ite_false, Bool.false_eq_true, Bool.not_true, Bool.not_false, decide_eq_true_eq, Bool.not_eq_true', decide_eq_false_iff_not, true_and, and_true, Bool.true_eq_false, reduceIte, reduceCtorEq, Bool.or_true, Bool.or_false, Bool.true_or, Bool.false_or, Bool.and_true, Bool.and_false, Bool.true_and, Bool.false_and, not_true_eq_false, not_false_eq_true, List.zip_cons_cons, List.zip_nil_left, List.zip_nil_right, List.reverse_cons, List.reverse_nil, List.getD_cons_zero, List.getD_cons_succ, String.reduceEq])
theorem orR_put {n m x : Nat} {R : Bits} (h : Sq n R) (hm : m < n) (hx : x < n) : (masksP R).set x (.int (Builtin.bitOr (maskN (R.getD x [])) (maskN (R.getD m [])))) = masksP (R.set x (List.zipWith (· || ·) (R.getD x []) (R.getD m []))) := by
  unfold masksP
  rw [List.map_set, maskN_or _ _ (by rw [(h.row hx).2, (h.row hm).2]), bitOr_nat]
theorem bit_row {m : Nat} {r : List Bool} : Builtin.bitAnd ((maskN r : Int) / 2 ^ ((m : Int)).toNat) 1 = if r.getD m false then 1 else 0 := by
  rw [show ((m : Int)).toNat = m from rfl, bit_at, maskN_bit]
theorem or_body {n m x : Nat} {R : Bits} {d : PV} {u v y : Sl} {E : Out Fl → Prop} (sq : Sq n R) (hm : m < n) (hx : x < n)
    (h : E (.val .nx [.fz (.int n), .fz d, .ow (masksP (orR m R x)), u, v, .fz (.int m), .fz (.int x)])) :
    Wp (bindO (setM 6 (.fz (.int x)) [.fz (.int n), .fz d, .ow (masksP R), u, v, .fz (.int m), y]) fun _ => B2_closed_masks) E := by
  unfold B2_closed_masks
  walk_at "ev"
  simp only [atI_nat, masks_row sq hx]
  walk_at "ev"
  refine ⟨by omega, ?_⟩
  rw [bit_row]
  cases e : getB R x m with
  | false =>
    have h2 : (R.getD x []).getD m false = false := e
    have h3 : LW.orR m R x = R := by unfold LW.orR; rw [if_neg (by rw [e]; simp)]
    rw [h3] at h
    rw [h2]
    exact h
  | true =>
    have h2 : (R.getD x []).getD m false = true := e
    have h3 : LW.orR m R x = R.set x (List.zipWith (· || ·) (R.getD x []) (R.getD m [])) := by unfold LW.orR; rw [if_pos e]
    rw [h3] at h
    rw [h2, if_pos rfl, if_pos (by decide)]
    simp only [atI_nat, masks_row sq hx]
    walk_at "ev"
    simp only [atI_nat, masks_row sq hm]
    walk_at "ev"
    rw [masks_len sq, ixN_nat hx]
    walk_at "ev"
    rw [orR_put sq hm hx]
    exact h
/-- range by names: the loop's list -/
theorem rgD_nat {n : Nat} : rgD 0 (n : Int) = (List.range n).map fun (i : Nat) => PV.int (i : Nat) := by
  unfold rgD
  rw [show ((n : Int) - 0).toNat = n by omega]
  refine List.map_congr_left fun i _ => ?_
  rw [Int.zero_add]
theorem Sq.orR {n m x : Nat} {R : Bits} (h : Sq n R) (hm : m < n) (hx : x < n) : Sq n (LW.orR m R x) := by
  unfold LW.orR
  split
  · refine ⟨by rw [List.length_set]; exact h.1, fun k r e => ?_⟩
    by_cases hk : k = x
    · subst hk
      rw [List.getElem?_set_self (by rw [h.1]; exact hx)] at e
      cases e
      rw [List.length_zipWith, (h.row hx).2, (h.row hm).2, Nat.min_self]
    · rw [List.getElem?_set_ne (fun z => hk z.symm)] at e
      exact h.2 k r e
  · exact h
theorem or_loop {n m : Nat} {d : PV} {u v : Sl} {E : Out Fl → Prop} (hm : m < n) : ∀ (xs : List Nat) (R : Bits) (y : Sl), (∀ i ∈ xs, i < n) → Sq n R →
    (∀ y, Sq n (xs.foldl (LW.orR m) R) → E (.val .nx [.fz (.int n), .fz d, .ow (masksP (xs.foldl (LW.orR m) R)), u, v, .fz (.int m), y])) →
    Wp (forL (setM 6) B2_closed_masks (xs.map fun (i : Nat) => PV.int (i : Nat)) [.fz (.int n), .fz d, .ow (masksP R), u, v, .fz (.int m), y]) E
  | [], R, y, _, sq, h => wp_forL_nil (h y sq)
  | x :: xs, R, y, hb, sq, h => wp_forL_cons (or_body sq hm (hb x List.mem_cons_self) (or_loop hm xs (LW.orR m R x) _ (fun i z => hb i (List.mem_cons_of_mem _ z)) (sq.orR hm (hb x List.mem_cons_self)) h))
theorem mid_loop {n : Nat} {d : PV} {u v : Sl} {E : Out Fl → Prop} (n2 : n ≤ 24) : ∀ (ms : List Nat) (R : Bits) (x y : Sl), (∀ i ∈ ms, i < n) → Sq n R →
    (∀ x y, Sq n (ms.foldl (LW.orM n) R) → E (.val .nx [.fz (.int n), .fz d, .ow (masksP (ms.foldl (LW.orM n) R)), u, v, x, y])) →
    Wp (forL (setM 5) B3_closed_masks (ms.map fun (i : Nat) => PV.int (i : Nat)) [.fz (.int n), .fz d, .ow (masksP R), u, v, x, y]) E
  | [], R, x, y, _, sq, h => wp_forL_nil (h x y sq)
  | m :: ms, R, x, y, hb, sq, h => by
    have hm := hb m List.mem_cons_self
    refine wp_forL_cons ?_
    unfold B3_closed_masks
    walk_at "ev"
    refine ⟨by omega, ?_⟩
    rw [rgD_nat]
    refine or_loop hm (List.range n) R _ (fun i z => List.mem_range.mp z) sq fun y sq2 => ?_
    exact mid_loop n2 ms (LW.orM n R m) _ _ (fun i z => hb i (List.mem_cons_of_mem _ z)) sq2 h
end LW
namespace LW
open PySem PySem.Spec PyProof.Rows L2 L3 L4
local macro_rules | `(tactic| walk_at "ev") => `(tactic| simp only [bindO_val, bindO_exc, bindO_need, bindO_stuck, bindO_draw, bindO_ite, bind_ret, bind_need, bind_stuck, bind_draw, bind_ite, app_bind, app_ret, app_stuck, app_lift, app_ite, app_setl, stl_fz, stl_bw, stl_ow, app_var, varK_fz, varK_ow, app_vw_fz, app_vw_bw, bwV_some, lstOf_ow, lstOf_fz, app_frz_fz, app_frz_ow, app_frz_bw, app_frzD, nh_non, nh_bl, nh_int, nh_str, nh_tup, nh_lst, nh_ins, nh_ty, nh_cls, app_op, app_un, app_cb, app_vwA_nil, app_vwA_cons, app_frzA_nil, app_frzA_cons, app_frzC_nil, app_frzC_cons, app_liftR, fv_fz, fv_ow, app_tup, app_lst, app_call, app_out, outK_ok, outK_err, noK_ok, app_test, testK_bl, app_and, app_or, app_not, app_tru, app_iteM, app_blM, app_andT, app_orT, app_notT, app_chain, chainK_bl, app_seq, seqK_nx, seqK_rt, seqK_bk, seqK_ct, app_asg, app_rt, rtv_fz, rtv_ow, rtv_bw, rtS_ow, rtS_fz, app_drop, set_fz, set_ow, set_bw, app_tupTg, tupTK_tup, app_tgs_nil, app_tgs_cons, app_store, storeK_bw, stS_ow, stN_some, stS_K, stS_T, stK_some, stT_some, stl_nd, varK_oi, varK_od, lstOf_od, lstOf_fzK, lstOf_fzT, app_frz_nd, nh_dK, nh_dT, rtv_nd, rtS_od, set_nd, app_dnewK, app_dnewT, app_fld, fldV_fz, fldV_bw, fldS_oi, fldS_fz, app_fldK, fldG_some, app_sfld, sfldK_oi, app_make, app_outI, outIK_ok, outIK_err, app_meth, methO_fz, app_prop, propO_fz, app_callK, app_xis2, xis2K_xc, app_lc2, boolP, max2P, min2P, divmodP, insertP, sortK, sortedP, reprP, dicP, gotK, keyK, keyA, keyT, getZ, setZ, putZk, putZd, mixK, List.any_nil, List.any_cons, List.flatMap_cons, List.flatMap_nil, List.drop_zero, List.drop_succ_cons, List.take_succ_cons, List.take_zero, app_bm, isLst_lst, bmK_bw, bmS_ow, app_index, app_draw, drawK_hand, app_sl, app_part, partK_int, app_isi2, app_rg1, rg1K_f, rg1K_t, app_rg2, rg2K_f, rg2K_t, app_rng1, rng1K_int, app_rng2, rng2K_int, app_seqS, items_lst, items_tup, app_enum1, app_for, app_lc, wipe_nil, wipe_cons, app_raise, app_raise0, app_try, tryK_val, tryK_exc, hdM_nil, hdM_some, hdM_none, app_xf, xfK_xc, xfL_some, app_xis, xisK_xc, app_aug, app_par, parK_two, endK_nx, endK_rt, endK_exc, wp_ret, wp_need, wp_stuck, wp_draw, wp_ite, wp_bindO, afterO_val, afterO_exc, stepP_nx, stepP_ct, stepP_bk, stepP_rt, stepP_exc, testP_t, testP_f, testP_b, eltP_fz, eltP_ow, eltP_nd, tstP_b, wp_bindO, app_den, app_noExc, noK_ok, p2I, p2C, subP, L4.ltP, leP, gtP, geP, fdivP, modP, powP, shlP, shrP, bandP, borP, bxorP, addP, mulP, eqP, neP, isNonD, isNP, notNP, isBlD, isBP, negP, invP, itP, ixP, lenP, int1P, absP, listP, tupleP, sumK, sumP, anyK, anyP, allP, mxK, maxP, minP, tyB, basicD, blK, isiP, orO, slP, appendP, extendP, popK, popAt, popAtP, popL, popP, reverseP, clearP, natK, indexP, inP, ninP, truV, cleanK, bareK, noXc, subs, subRow, List.lookup, List.map_cons, List.map_nil, List.nil_append, List.cons_append, List.length_cons, List.length_nil, List.replicate_succ, List.replicate_zero, Nat.reduceSub, Nat.reduceAdd, Nat.zero_add, List.getElem?_cons_zero, List.getElem?_cons_succ, List.getElem?_nil, List.set_cons_zero, List.set_cons_succ, List.append_nil, if_true, if_false, ite_true, ite_false, Bool.false_eq_true, Bool.not_true, Bool.not_false, decide_eq_true_eq, Bool.not_eq_true', decide_eq_false_iff_not, true_and, and_true, Bool.true_eq_false, reduceIte, reduceCtorEq, Bool.or_true, Bool.or_false, Bool.true_or, Bool.false_or, Bool.and_true, Bool.and_false, Bool.true_and, Bool.false_and, not_true_eq_false, not_false_eq_true, List.zip_cons_cons, List.zip_nil_left, List.zip_nil_right, List.reverse_cons, List.reverse_nil, List.getD_cons_zero, List.getD_cons_succ, String.reduceEq])
theorem Sq.zero {n : Nat} : Sq n (zeroB n) := by
  refine ⟨List.length_replicate, fun x r e => ?_⟩
  unfold zeroB at e
  rw [List.getElem?_replicate] at e
  split at e
  · cases e
    exact List.length_replicate
  · cases e
theorem maskN_zero : ∀ n : Nat, maskN (List.replicate n false) = 0
  | 0 => rfl
  | n + 1 => by
    rw [List.replicate_succ]
    show 0 + 2 * maskN (List.replicate n false) = 0
    rw [maskN_zero n]
theorem masks_zero {n : Nat} : masksP (zeroB n) = List.replicate n (.int 0) := by
  unfold masksP zeroB
  rw [List.map_replicate, maskN_zero]
  rfl
theorem pairs_in {n : Nat} : ∀ (ps : List PV) (k : Nat) (qs : List (Nat × Nat)), pairsOf n ps k = .ok qs → ∀ q ∈ qs, q.1 < n ∧ q.2 < n
  | [], k, qs, e => by cases e; simp
  | p :: ps, k, qs, e => by
    cases e2 : twoOf n p with
    | none => rw [pairsOf, e2] at e; cases e
    | some q =>
      rw [pairs_one e2] at e
      cases e3 : pairsOf n ps (k + 1) with
      | error m => rw [e3] at e; cases e
      | ok rs =>
        rw [e3] at e
        cases e
        have hq : q.1 < n ∧ q.2 < n := by
          unfold twoOf at e2
          split at e2
          · split at e2
            · cases e2
              constructor
              · show Int.toNat _ < n
                omega
              · show Int.toNat _ < n
                omega
            · cases e2
          · cases e2
        intro z hz
        rcases List.mem_cons.mp hz with rfl | hz
        · exact hq
        · exact pairs_in ps (k + 1) rs e3 z hz
theorem Sq.pairs {n : Nat} : ∀ (qs : List (Nat × Nat)) (R : Bits), (∀ q ∈ qs, q.1 < n ∧ q.2 < n) → Sq n R → Sq n (qs.foldl pairB R)
  | [], R, _, h => h
  | q :: qs, R, hb, h => Sq.pairs qs _ (fun z hz => hb z (List.mem_cons_of_mem _ hz)) (h.set (hb q List.mem_cons_self).1)
theorem masks_wp {n : Nat} {ps : List PV} {p : PV} {E : Except Xc Rv → Prop} (hp : p = .lst ps ∨ p = .tup ps) (n1 : 1 ≤ n) (n2 : n ≤ 24) (hb : ∀ p ∈ ps, basic2 p)
    (h : match pairsOf n ps 0 with
      | .error k => E (.error (pairErr k))
      | .ok qs => E (.ok (.ow (masksP (LW.orAll n (qs.foldl pairB (zeroB n))))))) : Wp (den_closed_masks [.int n, p]) E := by
  have e0 : (List.replicate ((n : Int)).toNat [PV.int 0]).flatten = masksP (zeroB n) := by
    rw [masks_zero, show ((n : Int)).toNat = n from rfl]
    generalize n = q
    induction q with
    | zero => rfl
    | succ q ih => rw [List.replicate_succ, List.flatten_cons, ih, List.replicate_succ]; rfl
  rcases hp with rfl | rfl
  · skip
    (simp only [den_closed_masks, F_closed_masks]; try walk_at "ev")
    refine ⟨by decide, ⟨by omega, by omega, by omega⟩, ?_⟩
    rw [e0, wp_bindT, wp_bindO]
    refine pairs_loop n1 n2 ps 0 (zeroB n) _ _ hb Sq.zero ?_
    cases e : pairsOf n ps 0 with
    | error k =>
      rw [e] at h
      exact fun s => Wp.mk h
    | ok qs =>
      rw [e] at h
      intro x y
      show Wp (seqK _ _ _) _
      walk_at "ev"
      refine ⟨by omega, ?_⟩
      rw [rgD_nat]
      refine mid_loop n2 (List.range n) _ _ _ (fun i z => List.mem_range.mp z) (Sq.pairs qs _ (pairs_in ps 0 qs e) Sq.zero) fun x y sq => ?_
      show Wp (seqK _ _ _) _
      walk_at "ev"
      exact h
  · skip
    (simp only [den_closed_masks, F_closed_masks]; try walk_at "ev")
    refine ⟨by decide, ⟨by omega, by omega, by omega⟩, ?_⟩
    rw [e0, wp_bindT, wp_bindO]
    refine pairs_loop n1 n2 ps 0 (zeroB n) _ _ hb Sq.zero ?_
    cases e : pairsOf n ps 0 with
    | error k =>
      rw [e] at h
      exact fun s => Wp.mk h
    | ok qs =>
      rw [e] at h
      intro x y
      show Wp (seqK _ _ _) _
      walk_at "ev"
      refine ⟨by omega, ?_⟩
      rw [rgD_nat]
      refine mid_loop n2 (List.range n) _ _ _ (fun i z => List.mem_range.mp z) (Sq.pairs qs _ (pairs_in ps 0 qs e) Sq.zero) fun x y sq => ?_
      show Wp (seqK _ _ _) _
      walk_at "ev"
      exact h
end LW
namespace LW
open PySem PySem.Spec PyProof.Rows L2 L3 L4
local macro_rules | `(tactic| walk_at "ev") => `(tactic| simp only [bindO_val, bindO_exc, bindO_need, bindO_stuck, bindO_draw, bindO_ite, bind_ret, bind_need, bind_stuck, bind_draw, bind_ite, app_bind, app_ret, app_stuck, app_lift, app_ite, app_setl, stl_fz, stl_bw, stl_ow, app_var, varK_fz, varK_ow, app_vw_fz, app_vw_bw, bwV_some, lstOf_ow, lstOf_fz, app_frz_fz, app_frz_ow, app_frz_bw, app_frzD, nh_non, nh_bl, nh_int, nh_str, nh_tup, nh_lst, nh_ins, nh_ty, nh_cls, app_op, app_un, app_cb, app_vwA_nil, app_vwA_cons, app_frzA_nil, app_frzA_cons, app_frzC_nil, app_frzC_cons, app_liftR, fv_fz, fv_ow, app_tup, app_lst, app_call, app_out, outK_ok, outK_err, noK_ok, app_test, testK_bl, app_and, app_or, app_not, app_tru, app_iteM, app_blM, app_andT, app_orT, app_notT, app_chain, chainK_bl, app_seq, seqK_nx, seqK_rt, seqK_bk, seqK_ct, app_asg, app_rt, rtv_fz, rtv_ow, rtv_bw, rtS_ow, rtS_fz, app_drop, set_fz, set_ow, set_bw, app_tupTg, tupTK_tup, app_tgs_nil, app_tgs_cons, app_store, storeK_bw, stS_ow, stN_some, stS_K, stS_T, stK_some, stT_some, stl_nd, varK_oi, varK_od, lstOf_od, lstOf_fzK, lstOf_fzT, app_frz_nd, nh_dK, nh_dT, rtv_nd, rtS_od, set_nd, app_dnewK, app_dnewT, app_fld, fldV_fz, fldV_bw, fldS_oi, fldS_fz, app_fldK, fldG_some, app_sfld, sfldK_oi, app_make, app_outI, outIK_ok, outIK_err, app_meth, methO_fz, app_prop, propO_fz, app_callK, app_xis2, xis2K_xc, app_lc2, boolP, max2P, min2P, divmodP, insertP, sortK, sortedP, reprP, dicP, gotK, keyK, keyA, keyT, getZ, setZ, putZk, putZd, mixK, List.any_nil, List.any_cons, List.flatMap_cons, List.flatMap_nil, List.drop_zero, List.drop_succ_cons, List.take_succ_cons, List.take_zero, app_bm, isLst_lst, bmK_bw, bmS_ow, app_index, app_draw, drawK_hand, app_sl, app_part, partK_int, app_isi2, app_rg1, rg1K_f, rg1K_t, app_rg2, rg2K_f, rg2K_t, app_rng1, rng1K_int, app_rng2, rng2K_int, app_seqS, items_lst, items_tup, app_enum1, app_for, app_lc, wipe_nil, wipe_cons, app_raise, app_raise0, app_try, tryK_val, tryK_exc, hdM_nil, hdM_some, hdM_none, app_xf, xfK_xc, xfL_some, app_xis, xisK_xc, app_aug, app_par, parK_two, endK_nx, endK_rt, endK_exc, wp_ret, wp_need, wp_stuck, wp_draw, wp_ite, wp_bindO, afterO_val, afterO_exc, stepP_nx, stepP_ct, stepP_bk, stepP_rt, stepP_exc, testP_t, testP_f, testP_b, eltP_fz, eltP_ow, eltP_nd, tstP_b, wp_bindO, app_den, app_noExc, noK_ok, p2I, p2C, subP, L4.ltP, leP, gtP, geP, fdivP, modP, powP, shlP, shrP, bandP, borP, bxorP, addP, mulP, eqP, neP, isNonD, isNP, notNP, isBlD, isBP, negP, invP, itP, ixP, lenP, int1P, absP, listP, tupleP, sumK, sumP, anyK, anyP, allP, mxK, maxP, minP, tyB, basicD, blK, isiP, orO, slP, appendP, extendP, popK, popAt, popAtP, popL, popP, reverseP, clearP, natK, indexP, inP, ninP, truV, cleanK, bareK, noXc, subs, subRow, List.lookup, List.map_cons, List.map_nil, List.nil_append, List.cons_append, List.length_cons, List.length_nil, List.replicate_succ, List.replicate_zero, Nat.reduceSub, Nat.reduceAdd, Nat.zero_add, List.getElem?_cons_zero, List.getElem?_cons_succ, List.getElem?_nil, List.set_cons_zero, List.set_cons_succ, List.append_nil, if_true, if_false, ite_true, ite_false, Bool.false_eq_true, Bool.not_true, Bool.not_false, decide_eq_true_eq, Bool.not_eq_true', decide_eq_false_iff_not, true_and, and_true, Bool.true_eq_false, reduceIte, reduceCtorEq, Bool.or_true, Bool.or_false, Bool.true_or, Bool.false_or, Bool.and_true, Bool.and_false, Bool.true_and, Bool.false_and, not_true_eq_false, not_false_eq_true, List.zip_cons_cons, List.zip_nil_left, List.zip_nil_right, List.reverse_cons, List.reverse_nil, List.getD_cons_zero, List.getD_cons_succ, String.reduceEq])
def ringErr (k : Nat) : Xc := ⟨1, [("at", .int k), ("what", .str "ring")]⟩
def leastErr (k : Nat) : Xc := ⟨1, [("at", .int k), ("what", .str "least")]⟩
theorem bit_at' {m : Nat} {r : List Bool} : Builtin.bitAnd ((maskN r : Int) / 2 ^ ((m : Int)).toNat) 1 = if r.getD m false then 1 else 0 := by
  rw [show ((m : Int)).toNat = m from rfl, bit_at, maskN_bit]
theorem ring_loop {n : Nat} {R : Bits} {E : Out Fl → Prop} (sq : Sq n R) : ∀ (xs : List Nat) (y : Sl), (∀ i ∈ xs, i < n) →
    (match xs.find? (fun x => getB R x x) with
      | some k => ∀ s, E (.exc (ringErr k) s)
      | none => ∀ y, E (.val .nx [.fz (.int n), .fz (.lst (masksP R)), y])) →
    Wp (forL (setM 2) B1_check_masks (xs.map fun (i : Nat) => PV.int (i : Nat)) [.fz (.int n), .fz (.lst (masksP R)), y]) E
  | [], y, _, h => wp_forL_nil (h y)
  | x :: xs, y, hb, h => by
    have hx := hb x List.mem_cons_self
    refine wp_forL_cons ?_
    rw [List.find?_cons] at h
    unfold B1_check_masks
    walk_at "ev"
    simp only [atI_nat, masks_row sq hx]
    walk_at "ev"
    refine ⟨by omega, ?_⟩
    rw [bit_at']
    cases e : getB R x x with
    | true =>
      rw [e] at h
      rw [show (R.getD x []).getD x false = true from e, if_pos rfl, if_pos (by decide)]
      exact ⟨by decide, h _⟩
    | false =>
      rw [e] at h
      rw [show (R.getD x []).getD x false = false from e]
      exact ring_loop sq xs _ (fun i z => hb i (List.mem_cons_of_mem _ z)) h
theorem least_loop {n : Nat} {R : Bits} {E : Out Fl → Prop} (sq : Sq n R) (n1 : 1 ≤ n) : ∀ (xs : List Nat) (y : Sl), (∀ i ∈ xs, i < n) →
    (match xs.find? (fun x => ! getB R 0 x) with
      | some k => ∀ s, E (.exc (leastErr k) s)
      | none => ∀ y, E (.val .nx [.fz (.int n), .fz (.lst (masksP R)), y])) →
    Wp (forL (setM 2) B2_check_masks (xs.map fun (i : Nat) => PV.int (i : Nat)) [.fz (.int n), .fz (.lst (masksP R)), y]) E
  | [], y, _, h => wp_forL_nil (h y)
  | x :: xs, y, hb, h => by
    have hx := hb x List.mem_cons_self
    refine wp_forL_cons ?_
    rw [List.find?_cons] at h
    unfold B2_check_masks
    walk_at "ev"
    have a0 : atI (masksP R) (0 : Int) = some (.int (maskN (R.getD 0 []))) := by
      have := atI_nat (xs := masksP R) (i := 0)
      rw [masks_row sq n1] at this
      exact this
    simp only [a0]
    walk_at "ev"
    refine ⟨by omega, ?_⟩
    rw [bit_at']
    cases e : getB R 0 x with
    | true =>
      rw [e] at h
      rw [show (R.getD 0 []).getD x false = true from e]
      exact least_loop sq n1 xs _ (fun i z => hb i (List.mem_cons_of_mem _ z)) h
    | false =>
      rw [e] at h
      rw [show (R.getD 0 []).getD x false = false from e]
      exact ⟨by decide, h _⟩
/-- the numbers 1 .. n - 1 -/
def from1 (n : Nat) : List Nat := (List.range (n - 1)).map (· + 1)
theorem rgD_one {n : Nat} (n1 : 1 ≤ n) : rgD 1 (n : Int) = (from1 n).map fun (i : Nat) => PV.int (i : Nat) := by
  unfold rgD from1
  rw [show ((n : Int) - 1).toNat = n - 1 by omega, List.map_map]
  refine List.map_congr_left fun i _ => ?_
  show PV.int (1 + (i : Int)) = PV.int ((i + 1 : Nat) : Int)
  rw [Int.add_comm, Int.natCast_succ]
theorem from1_lt {n i : Nat} (h : i ∈ from1 n) : i < n := by
  unfold from1 at h
  obtain ⟨k, hk, rfl⟩ := List.mem_map.mp h
  have := List.mem_range.mp hk
  omega
/-- what check_masks finds -/
def checkX (n : Nat) (R : Bits) : Option Xc := match (List.range n).find? (fun x => getB R x x) with
  | some k => some (ringErr k)
  | none => match (from1 n).find? (fun x => ! getB R 0 x) with
    | some k => some (leastErr k)
    | none => none
theorem check_wp {n : Nat} {R : Bits} {E : Except Xc Rv → Prop} (sq : Sq n R) (n1 : 1 ≤ n) (n2 : n ≤ 24)
    (h : match checkX n R with
      | some x => E (.error x)
      | none => E (.ok (.fz .non))) : Wp (den_check_masks [.int n, .lst (masksP R)]) E := by
  (simp only [den_check_masks, F_check_masks]; try walk_at "ev")
  refine ⟨by omega, ?_⟩
  rw [rgD_nat, wp_bindT, wp_bindO]
  refine ring_loop sq (List.range n) _ (fun i z => List.mem_range.mp z) ?_
  unfold checkX at h
  cases e : (List.range n).find? (fun x => getB R x x) with
  | some k =>
    rw [e] at h
    exact fun s => Wp.mk h
  | none =>
    rw [e] at h
    intro y
    show Wp (seqK _ _ _) _
    walk_at "ev"
    refine ⟨by omega, ?_⟩
    rw [rgD_one n1]
    refine least_loop sq n1 (from1 n) _ (fun i z => from1_lt z) ?_
    cases e2 : (from1 n).find? (fun x => ! getB R 0 x) with
    | some k =>
      rw [e2] at h
      exact fun s => Wp.mk h
    | none =>
      rw [e2] at h
      exact fun y => Wp.mk h
end LW
namespace LW
open PySem PySem.Spec PyProof.Rows L2 L3 L4
local macro_rules | `(tactic| walk_at "ev") => `(tactic| simp only [bindO_val, bindO_exc, bindO_need, bindO_stuck, bindO_draw, bindO_ite, bind_ret, bind_need, bind_stuck, bind_draw, bind_ite, app_bind, app_ret, app_stuck, app_lift, app_ite, app_setl, stl_fz, stl_bw, stl_ow, app_var, varK_fz, varK_ow, app_vw_fz, app_vw_bw, bwV_some, lstOf_ow, lstOf_fz, app_frz_fz, app_frz_ow, app_frz_bw, app_frzD, nh_non, nh_bl, nh_int, nh_str, nh_tup, nh_lst, nh_ins, nh_ty, nh_cls, app_op, app_un, app_cb, app_vwA_nil, app_vwA_cons, app_frzA_nil, app_frzA_cons, app_frzC_nil, app_frzC_cons, app_liftR, fv_fz, fv_ow, app_tup, app_lst, app_call, app_out, outK_ok, outK_err, noK_ok, app_test, testK_bl, app_and, app_or, app_not, app_tru, app_iteM, app_blM, app_andT, app_orT, app_notT, app_chain, chainK_bl, app_seq, seqK_nx, seqK_rt, seqK_bk, seqK_ct, app_asg, app_rt, rtv_fz, rtv_ow, rtv_bw, rtS_ow, rtS_fz, app_drop, set_fz, set_ow, set_bw, app_tupTg, tupTK_tup, app_tgs_nil, app_tgs_cons, app_store, storeK_bw, stS_ow, stN_some, stS_K, stS_T, stK_some, stT_some, stl_nd, varK_oi, varK_od, lstOf_od, lstOf_fzK, lstOf_fzT, app_frz_nd, nh_dK, nh_dT, rtv_nd, rtS_od, set_nd, app_dnewK, app_dnewT, app_fld, fldV_fz, fldV_bw, fldS_oi, fldS_fz, app_fldK, fldG_some, app_sfld, sfldK_oi, app_make, app_outI, outIK_ok, outIK_err, app_meth, methO_fz, app_prop, propO_fz, app_callK, app_xis2, xis2K_xc, app_lc2, boolP, max2P, min2P, divmodP, insertP, sortK, sortedP, reprP, dicP, gotK, keyK, keyA, keyT, getZ, setZ, putZk, putZd, mixK, List.any_nil, List.any_cons, List.flatMap_cons, List.flatMap_nil, List.drop_zero, List.drop_succ_cons, List.take_succ_cons, List.take_zero, app_bm, isLst_lst, bmK_bw, bmS_ow, app_index, app_draw, drawK_hand, app_sl, app_part, partK_int, app_isi2, app_rg1, rg1K_f, rg1K_t, app_rg2, rg2K_f, rg2K_t, app_rng1, rng1K_int, app_rng2, rng2K_int, app_seqS, items_lst, items_tup, app_enum1, app_for, app_lc, wipe_nil, wipe_cons, app_raise, app_raise0, app_try, tryK_val, tryK_exc, hdM_nil, hdM_some, hdM_none, app_xf, xfK_xc, xfL_some, app_xis, xisK_xc, app_aug, app_par, parK_two, endK_nx, endK_rt, endK_exc, wp_ret, wp_need, wp_stuck, wp_draw, wp_ite, wp_bindO, afterO_val, afterO_exc, stepP_nx, stepP_ct, stepP_bk, stepP_rt, stepP_exc, testP_t, testP_f, testP_b, eltP_fz, eltP_ow, eltP_nd, tstP_b, wp_bindO, app_den, app_noExc, noK_ok, p2I, p2C, subP, L4.ltP, leP, gtP, geP, fdivP, modP, powP, shlP, shrP, bandP, borP, bxorP, addP, mulP, eqP, neP, isNonD, isNP, notNP, isBlD, isBP, negP, invP, itP, ixP, lenP, int1P, absP, listP, tupleP, sumK, sumP, anyK, anyP, allP, mxK, maxP, minP, tyB, basicD, blK, isiP, orO, slP, appendP, extendP, popK, popAt, popAtP, popL, popP, reverseP, clearP, natK, indexP, inP, ninP, truV, cleanK, bareK, noXc, subs, subRow, List.lookup, List.map_cons, List.map_nil, List.nil_append, List.cons_append, List.length_cons, List.length_nil, List.replicate_succ, List.replicate_zero, Nat.reduceSub, Nat.reduceAdd, Nat.zero_add, List.getElem?_cons_zero, List.getElem?_cons_succ, List.getElem?_nil, List.set_cons_zero, List.set_cons_succ, List.append_nil, if_true, if_false, ite_true, ite_false, Bool.false_eq_true, Bool.not_true, Bool.not_false, decide_eq_true_eq, Bool.not_eq_true', decide_eq_false_iff_not, true_and, and_true, Bool.true_eq_false, reduceIte, reduceCtorEq, Bool.or_true, Bool.or_false, Bool.true_or, Bool.false_or, Bool.and_true, Bool.and_false, Bool.true_and, Bool.false_and, not_true_eq_false, not_false_eq_true, List.zip_cons_cons, List.zip_nil_left, List.zip_nil_right, List.reverse_cons, List.reverse_nil, List.getD_cons_zero, List.getD_cons_succ, String.reduceEq])
/-- the states whose bit is set -/
def statesN (n : Nat) (m : Int) : List Nat := (List.range n).filter fun i => decide (Builtin.bitAnd (m / 2 ^ i) 1 ≠ 0)
theorem statesN_lt {n : Nat} {m : Int} : ∀ i ∈ statesN n m, i < n := fun i hi => List.mem_range.mp (List.mem_filter.mp hi).1
theorem statesN_len {n : Nat} {m : Int} : (statesN n m).length ≤ n := by
  have := List.length_filter_le (fun i => decide (Builtin.bitAnd (m / 2 ^ i) 1 ≠ 0)) (List.range n)
  rwa [List.length_range] at this
theorem states_wp {n : Nat} {m : Int} {E : Except Xc Rv → Prop} (n2 : n ≤ 24) (h : E (.ok (.fz (.tup ((statesN n m).map fun (i : Nat) => PV.int (i : Nat)))))) : Wp (den_states_of_mask [.int n, .int m]) E := by
  (simp only [den_states_of_mask, F_states_of_mask]; try walk_at "ev")
  refine ⟨by omega, ?_⟩
  rw [wp_bindT]
  simp only [rgD_nat, wp_bindO]
  refine wp_lcL (fun k s acc => s = [.fz (.int n), .fz (.int m), .no] ∧ acc = ((List.range k).filter fun i => decide (Builtin.bitAnd (m / 2 ^ i) 1 ≠ 0)).map fun (i : Nat) => PV.int (i : Nat)) (k := 0) (ds := (List.range n).map fun (i : Nat) => PV.int (i : Nat)) (acc := []) (Nat.le_refl _) (by rw [List.length_map, List.length_range]; omega) ⟨rfl, rfl⟩ ?_ ?_
  · rintro i d s acc e ⟨rfl, rfl⟩
    rw [List.getElem?_map] at e
    obtain ⟨j, e1, rfl⟩ := Option.map_eq_some_iff.mp e
    have hi : i < n := by have := (List.getElem?_eq_some_iff.mp e1).1; rwa [List.length_range] at this
    obtain rfl : j = i := by rw [List.getElem?_range hi] at e1; exact (Option.some.inj e1).symm
    walk_at "ev"
    refine ⟨by omega, ?_⟩
    rw [show ((j : Int)).toNat = j from rfl, List.range_succ, List.filter_append, List.map_append, List.filter_cons, List.filter_nil]
    split
    · rename_i h0
      rw [decide_eq_true (by simpa using h0), if_pos rfl]
      rfl
    · rename_i h0
      rw [decide_eq_false (by simpa using h0), if_neg (by simp), List.map_nil, List.append_nil]
  · rintro s acc ⟨rfl, rfl⟩
    rw [List.length_map, List.length_range, Nat.zero_add]
    walk_at "ev"
    exact h
end LW
namespace LW
open PySem PySem.Spec PyProof.Rows L2 L3 L4
local macro_rules | `(tactic| walk_at "ev") => `(tactic| simp only [bindO_val, bindO_exc, bindO_need, bindO_stuck, bindO_draw, bindO_ite, bind_ret, bind_need, bind_stuck, bind_draw, bind_ite, app_bind, app_ret, app_stuck, app_lift, app_ite, app_setl, stl_fz, stl_bw, stl_ow, app_var, varK_fz, varK_ow, app_vw_fz, app_vw_bw, bwV_some, lstOf_ow, lstOf_fz, app_frz_fz, app_frz_ow, app_frz_bw, app_frzD, nh_non, nh_bl, nh_int, nh_str, nh_tup, nh_lst, nh_ins, nh_ty, nh_cls, app_op, app_un, app_cb, app_vwA_nil, app_vwA_cons, app_frzA_nil, app_frzA_cons, app_frzC_nil, app_frzC_cons, app_liftR, fv_fz, fv_ow, app_tup, app_lst, app_call, app_out, outK_ok, outK_err, noK_ok, app_test, testK_bl, app_and, app_or, app_not, app_tru, app_iteM, app_blM, app_andT, app_orT, app_notT, app_chain, chainK_bl, app_seq, seqK_nx, seqK_rt, seqK_bk, seqK_ct, app_asg, app_rt, rtv_fz, rtv_ow, rtv_bw, rtS_ow, rtS_fz, app_drop, set_fz, set_ow, set_bw, app_tupTg, tupTK_tup, app_tgs_nil, app_tgs_cons, app_store, storeK_bw, stS_ow, stN_some, stS_K, stS_T, stK_some, stT_some, stl_nd, varK_oi, varK_od, lstOf_od, lstOf_fzK, lstOf_fzT, app_frz_nd, nh_dK, nh_dT, rtv_nd, rtS_od, set_nd, app_dnewK, app_dnewT, app_fld, fldV_fz, fldV_bw, fldS_oi, fldS_fz, app_fldK, fldG_some, app_sfld, sfldK_oi, app_make, app_outI, outIK_ok, outIK_err, app_meth, methO_fz, app_prop, propO_fz, app_callK, app_xis2, xis2K_xc, app_lc2, boolP, max2P, min2P, divmodP, insertP, sortK, sortedP, reprP, dicP, gotK, keyK, keyA, keyT, getZ, setZ, putZk, putZd, mixK, List.any_nil, List.any_cons, List.flatMap_cons, List.flatMap_nil, List.drop_zero, List.drop_succ_cons, List.take_succ_cons, List.take_zero, app_bm, isLst_lst, bmK_bw, bmS_ow, app_index, app_draw, drawK_hand, app_sl, app_part, partK_int, app_isi2, app_rg1, rg1K_f, rg1K_t, app_rg2, rg2K_f, rg2K_t, app_rng1, rng1K_int, app_rng2, rng2K_int, app_seqS, items_lst, items_tup, app_enum1, app_for, app_lc, wipe_nil, wipe_cons, app_raise, app_raise0, app_try, tryK_val, tryK_exc, hdM_nil, hdM_some, hdM_none, app_xf, xfK_xc, xfL_some, app_xis, xisK_xc, app_aug, app_par, parK_two, endK_nx, endK_rt, endK_exc, wp_ret, wp_need, wp_stuck, wp_draw, wp_ite, wp_bindO, afterO_val, afterO_exc, stepP_nx, stepP_ct, stepP_bk, stepP_rt, stepP_exc, testP_t, testP_f, testP_b, eltP_fz, eltP_ow, eltP_nd, tstP_b, wp_bindO, app_den, app_noExc, noK_ok, p2I, p2C, subP, L4.ltP, leP, gtP, geP, fdivP, modP, powP, shlP, shrP, bandP, borP, bxorP, addP, mulP, eqP, neP, isNonD, isNP, notNP, isBlD, isBP, negP, invP, itP, ixP, lenP, int1P, absP, listP, tupleP, sumK, sumP, anyK, anyP, allP, mxK, maxP, minP, tyB, basicD, blK, isiP, orO, slP, appendP, extendP, popK, popAt, popAtP, popL, popP, reverseP, clearP, natK, indexP, inP, ninP, truV, cleanK, bareK, noXc, subs, subRow, List.lookup, List.map_cons, List.map_nil, List.nil_append, List.cons_append, List.length_cons, List.length_nil, List.replicate_succ, List.replicate_zero, Nat.reduceSub, Nat.reduceAdd, Nat.zero_add, List.getElem?_cons_zero, List.getElem?_cons_succ, List.getElem?_nil, List.set_cons_zero, List.set_cons_succ, List.append_nil, if_true, if_false, ite_true, ite_false, Bool.false_eq_true, Bool.not_true, Bool.not_false, decide_eq_true_eq, Bool.not_eq_true', decide_eq_false_iff_not, true_and, and_true, Bool.true_eq_false, reduceIte, reduceCtorEq, Bool.or_true, Bool.or_false, Bool.true_or, Bool.false_or, Bool.and_true, Bool.and_false, Bool.true_and, Bool.false_and, not_true_eq_false, not_false_eq_true, List.zip_cons_cons, List.zip_nil_left, List.zip_nil_right, List.reverse_cons, List.reverse_nil, List.getD_cons_zero, List.getD_cons_succ, String.reduceEq])
theorem covers_loop {n s : Nat} {R : Bits} {E : Out Fl → Prop} (sq : Sq n R) : ∀ (xs : List Nat) (m : Int) (y : Sl), (∀ i ∈ xs, i < n) →
    (∀ (m : Int) y, E (.val .nx [.fz (.int n), .fz (.lst (masksP R)), .fz (.int s), .fz (.int m), y])) →
    Wp (forL (setM 4) B1_covers_of_masks (xs.map fun (i : Nat) => PV.int (i : Nat)) [.fz (.int n), .fz (.lst (masksP R)), .fz (.int s), .fz (.int m), y]) E
  | [], m, y, _, h => wp_forL_nil (h m y)
  | x :: xs, m, y, hb, h => by
    have hx := hb x List.mem_cons_self
    refine wp_forL_cons ?_
    unfold B1_covers_of_masks
    walk_at "ev"
    simp only [atI_nat, masks_row sq hx]
    walk_at "ev"
    exact covers_loop sq xs _ _ (fun i z => hb i (List.mem_cons_of_mem _ z)) h
theorem covers_wp {n s : Nat} {R : Bits} {E : Except Xc Rv → Prop} (sq : Sq n R) (n2 : n ≤ 24) (hs : s < n) (h : ∀ ds : List Nat, (∀ i ∈ ds, i < n) → ds.length ≤ n → E (.ok (.fz (.tup (ds.map fun (i : Nat) => PV.int (i : Nat)))))) : Wp (den_covers_of_masks [.int n, .lst (masksP R), .int s]) E := by
  (simp only [den_covers_of_masks, F_covers_of_masks]; try walk_at "ev")
  simp only [atI_nat, masks_row sq hs]
  walk_at "ev"
  simp only [wp_bindT, wp_bindO]
  refine states_wp n2 ?_
  walk_at "ev"
  show Wp (forL _ _ _ _) _
  refine covers_loop sq _ _ _ statesN_lt fun m y => ?_
  walk_at "ev"
  simp only [atI_nat, masks_row sq hs]
  walk_at "ev"
  simp only [wp_bindT]
  refine states_wp n2 ?_
  walk_at "ev"
  exact h _ statesN_lt statesN_len
end LW
namespace LW
open PySem PySem.Spec PyProof.Rows L2 L3 L4
local macro_rules | `(tactic| walk_at "ev") => `(tactic| simp only [bindO_val, bindO_exc, bindO_need, bindO_stuck, bindO_draw, bindO_ite, bind_ret, bind_need, bind_stuck, bind_draw, bind_ite, app_bind, app_ret, app_stuck, app_lift, app_ite, app_setl, stl_fz, stl_bw, stl_ow, app_var, varK_fz, varK_ow, app_vw_fz, app_vw_bw, bwV_some, lstOf_ow, lstOf_fz, app_frz_fz, app_frz_ow, app_frz_bw, app_frzD, nh_non, nh_bl, nh_int, nh_str, nh_tup, nh_lst, nh_ins, nh_ty, nh_cls, app_op, app_un, app_cb, app_vwA_nil, app_vwA_cons, app_frzA_nil, app_frzA_cons, app_frzC_nil, app_frzC_cons, app_liftR, fv_fz, fv_ow, app_tup, app_lst, app_call, app_out, outK_ok, outK_err, noK_ok, app_test, testK_bl, app_and, app_or, app_not, app_tru, app_iteM, app_blM, app_andT, app_orT, app_notT, app_chain, chainK_bl, app_seq, seqK_nx, seqK_rt, seqK_bk, seqK_ct, app_asg, app_rt, rtv_fz, rtv_ow, rtv_bw, rtS_ow, rtS_fz, app_drop, set_fz, set_ow, set_bw, app_tupTg, tupTK_tup, app_tgs_nil, app_tgs_cons, app_store, storeK_bw, stS_ow, stN_some, stS_K, stS_T, stK_some, stT_some, stl_nd, varK_oi, varK_od, lstOf_od, lstOf_fzK, lstOf_fzT, app_frz_nd, nh_dK, nh_dT, rtv_nd, rtS_od, set_nd, app_dnewK, app_dnewT, app_fld, fldV_fz, fldV_bw, fldS_oi, fldS_fz, app_fldK, fldG_some, app_sfld, sfldK_oi, app_make, app_outI, outIK_ok, outIK_err, app_meth, methO_fz, app_prop, propO_fz, app_callK, app_xis2, xis2K_xc, app_lc2, boolP, max2P, min2P, divmodP, insertP, sortK, sortedP, reprP, dicP, gotK, keyK, keyA, keyT, getZ, setZ, putZk, putZd, mixK, List.any_nil, List.any_cons, List.flatMap_cons, List.flatMap_nil, List.drop_zero, List.drop_succ_cons, List.take_succ_cons, List.take_zero, app_bm, isLst_lst, bmK_bw, bmS_ow, app_index, app_draw, drawK_hand, app_sl, app_part, partK_int, app_isi2, app_rg1, rg1K_f, rg1K_t, app_rg2, rg2K_f, rg2K_t, app_rng1, rng1K_int, app_rng2, rng2K_int, app_seqS, items_lst, items_tup, app_enum1, app_for, app_lc, wipe_nil, wipe_cons, app_raise, app_raise0, app_try, tryK_val, tryK_exc, hdM_nil, hdM_some, hdM_none, app_xf, xfK_xc, xfL_some, app_xis, xisK_xc, app_aug, app_par, parK_two, endK_nx, endK_rt, endK_exc, wp_ret, wp_need, wp_stuck, wp_draw, wp_ite, wp_bindO, afterO_val, afterO_exc, stepP_nx, stepP_ct, stepP_bk, stepP_rt, stepP_exc, testP_t, testP_f, testP_b, eltP_fz, eltP_ow, eltP_nd, tstP_b, wp_bindO, app_den, app_noExc, noK_ok, p2I, p2C, subP, L4.ltP, leP, gtP, geP, fdivP, modP, powP, shlP, shrP, bandP, borP, bxorP, addP, mulP, eqP, neP, isNonD, isNP, notNP, isBlD, isBP, negP, invP, itP, ixP, lenP, int1P, absP, listP, tupleP, sumK, sumP, anyK, anyP, allP, mxK, maxP, minP, tyB, basicD, blK, isiP, orO, slP, appendP, extendP, popK, popAt, popAtP, popL, popP, reverseP, clearP, natK, indexP, inP, ninP, truV, cleanK, bareK, noXc, subs, subRow, List.lookup, List.map_cons, List.map_nil, List.nil_append, List.cons_append, List.length_cons, List.length_nil, List.replicate_succ, List.replicate_zero, Nat.reduceSub, Nat.reduceAdd, Nat.zero_add, List.getElem?_cons_zero, List.getElem?_cons_succ, List.getElem?_nil, List.set_cons_zero, List.set_cons_succ, List.append_nil, if_true, if_false, ite_true, ite_false, Bool.false_eq_true, Bool.not_true, Bool.not_false, decide_eq_true_eq, Bool.not_eq_true', decide_eq_false_iff_not, true_and, and_true, Bool.true_eq_false, reduceIte, reduceCtorEq, Bool.or_true, Bool.or_false, Bool.true_or, Bool.false_or, Bool.and_true, Bool.and_false, Bool.true_and, Bool.false_and, not_true_eq_false, not_false_eq_true, List.zip_cons_cons, List.zip_nil_left, List.zip_nil_right, List.reverse_cons, List.reverse_nil, List.getD_cons_zero, List.getD_cons_succ, String.reduceEq])
def statesErr : Xc := ⟨1, [("at", .int 0), ("what", .str "states")]⟩
def pairsErr : Xc := ⟨1, [("at", .int 0), ("what", .str "pairs")]⟩
theorem init_states {d p : PV} {E : Except Xc (List (Str × PV)) → Prop} (bd : basicD d = true) (h : wholeB d (.int 1) (.int 24) = false) (q : E (.error statesErr)) : Wp (den_Order_init [d, p]) E := by
  have w := is_whole_eq (d := d) (lo := .int 1) (hi := .int 24) bd (.inr ⟨_, rfl⟩) (.inr ⟨_, rfl⟩)
  unfold den_Order_init denI F_Order_init
  walk_at "ev"
  simp only [w, h]
  walk_at "ev"
  simp only [wp_bindT, endI]
  walk_at "ev"
  exact ⟨by decide, q⟩
theorem init_nseq {n : Nat} {p : PV} {E : Except Xc (List (Str × PV)) → Prop} (n1 : 1 ≤ n) (n2 : n ≤ 24) (bd : basicD p = true) (h : seqB p = false) (q : E (.error pairsErr)) : Wp (den_Order_init [.int n, p]) E := by
  have w := is_whole_eq (d := .int (n : Int)) (lo := .int 1) (hi := .int 24) rfl (.inr ⟨_, rfl⟩) (.inr ⟨_, rfl⟩)
  have hw : wholeB (.int (n : Int)) (.int 1) (.int 24) = true := by
    show (decide ((1 : Int) ≤ n) && decide ((n : Int) ≤ 24)) = true
    rw [decide_eq_true (by omega), decide_eq_true (by omega)]
    rfl
  have w2 := is_sequence_eq bd
  unfold den_Order_init denI F_Order_init
  walk_at "ev"
  simp only [w, hw]
  walk_at "ev"
  simp only [w2, h]
  walk_at "ev"
  simp only [wp_bindT, endI]
  walk_at "ev"
  exact ⟨by decide, q⟩
theorem init_long {n : Nat} {ps : List PV} {p : PV} {E : Except Xc (List (Str × PV)) → Prop} (hp : p = .lst ps ∨ p = .tup ps) (n1 : 1 ≤ n) (n2 : n ≤ 24) (h : 600 < ps.length) (q : E (.error pairsErr)) : Wp (den_Order_init [.int n, p]) E := by
  have w := is_whole_eq (d := .int (n : Int)) (lo := .int 1) (hi := .int 24) rfl (.inr ⟨_, rfl⟩) (.inr ⟨_, rfl⟩)
  have hw : wholeB (.int (n : Int)) (.int 1) (.int 24) = true := by
    show (decide ((1 : Int) ≤ n) && decide ((n : Int) ≤ 24)) = true
    rw [decide_eq_true (by omega), decide_eq_true (by omega)]
    rfl
  rcases hp with rfl | rfl
  · have w2 := is_sequence_eq (d := .lst ps) rfl
    unfold den_Order_init denI F_Order_init
    walk_at "ev"
    simp only [w, hw]
    walk_at "ev"
    simp only [w2, seqB]
    walk_at "ev"
    simp only [wp_bindT, endI]
    walk_at "ev"
    rw [if_pos (by omega)]
    exact ⟨by decide, q⟩
  · have w2 := is_sequence_eq (d := .tup ps) rfl
    unfold den_Order_init denI F_Order_init
    walk_at "ev"
    simp only [w, hw]
    walk_at "ev"
    simp only [w2, seqB]
    walk_at "ev"
    simp only [wp_bindT, endI]
    walk_at "ev"
    rw [if_pos (by omega)]
    exact ⟨by decide, q⟩
theorem init_pair {n : Nat} {ps : List PV} {p : PV} {E : Except Xc (List (Str × PV)) → Prop} (hp : p = .lst ps ∨ p = .tup ps) (n1 : 1 ≤ n) (n2 : n ≤ 24) (h : ps.length ≤ 600) {k : Nat} (hb : ∀ p ∈ ps, basic2 p) (e : pairsOf n ps 0 = .error k) (q : E (.error (pairErr k))) : Wp (den_Order_init [.int n, p]) E := by
  have w := is_whole_eq (d := .int (n : Int)) (lo := .int 1) (hi := .int 24) rfl (.inr ⟨_, rfl⟩) (.inr ⟨_, rfl⟩)
  have hw : wholeB (.int (n : Int)) (.int 1) (.int 24) = true := by
    show (decide ((1 : Int) ≤ n) && decide ((n : Int) ≤ 24)) = true
    rw [decide_eq_true (by omega), decide_eq_true (by omega)]
    rfl
  rcases hp with rfl | rfl
  · have w2 := is_sequence_eq (d := .lst ps) rfl
    unfold den_Order_init denI F_Order_init
    walk_at "ev"
    simp only [w, hw]
    walk_at "ev"
    simp only [w2, seqB]
    walk_at "ev"
    simp only [wp_bindT, endI]
    walk_at "ev"
    rw [if_neg (by omega), wp_bindT]
    refine masks_wp (by simp) n1 n2 hb ?_
    rw [e]
    walk_at "ev"
    exact q
  · have w2 := is_sequence_eq (d := .tup ps) rfl
    unfold den_Order_init denI F_Order_init
    walk_at "ev"
    simp only [w, hw]
    walk_at "ev"
    simp only [w2, seqB]
    walk_at "ev"
    simp only [wp_bindT, endI]
    walk_at "ev"
    rw [if_neg (by omega), wp_bindT]
    refine masks_wp (by simp) n1 n2 hb ?_
    rw [e]
    walk_at "ev"
    exact q
theorem init_check {n : Nat} {ps : List PV} {p : PV} {E : Except Xc (List (Str × PV)) → Prop} (hp : p = .lst ps ∨ p = .tup ps) (n1 : 1 ≤ n) (n2 : n ≤ 24) (h : ps.length ≤ 600) {qs : List (Nat × Nat)} {x : Xc} (hb : ∀ p ∈ ps, basic2 p) (e : pairsOf n ps 0 = .ok qs) (e2 : checkX n (LW.orAll n (qs.foldl pairB (zeroB n))) = some x) (q : E (.error x)) : Wp (den_Order_init [.int n, p]) E := by
  have w := is_whole_eq (d := .int (n : Int)) (lo := .int 1) (hi := .int 24) rfl (.inr ⟨_, rfl⟩) (.inr ⟨_, rfl⟩)
  have hw : wholeB (.int (n : Int)) (.int 1) (.int 24) = true := by
    show (decide ((1 : Int) ≤ n) && decide ((n : Int) ≤ 24)) = true
    rw [decide_eq_true (by omega), decide_eq_true (by omega)]
    rfl
  rcases hp with rfl | rfl
  · have w2 := is_sequence_eq (d := .lst ps) rfl
    unfold den_Order_init denI F_Order_init
    walk_at "ev"
    simp only [w, hw]
    walk_at "ev"
    simp only [w2, seqB]
    walk_at "ev"
    simp only [wp_bindT, endI]
    walk_at "ev"
    rw [if_neg (by omega), wp_bindT]
    refine masks_wp (by simp) n1 n2 hb ?_
    rw [e]
    walk_at "ev"
    simp only [wp_bindT]
    refine check_wp (Sq.fold (fun _ _ hx z => Sq.fold (fun _ _ hy z => z.orR hx hy) n (Nat.le_refl _) z) n (Nat.le_refl _) (Sq.pairs qs _ (pairs_in ps 0 qs e) Sq.zero)) n1 n2 ?_
    rw [show checkX n _ = some x from e2]
    walk_at "ev"
    exact q
  · have w2 := is_sequence_eq (d := .tup ps) rfl
    unfold den_Order_init denI F_Order_init
    walk_at "ev"
    simp only [w, hw]
    walk_at "ev"
    simp only [w2, seqB]
    walk_at "ev"
    simp only [wp_bindT, endI]
    walk_at "ev"
    rw [if_neg (by omega), wp_bindT]
    refine masks_wp (by simp) n1 n2 hb ?_
    rw [e]
    walk_at "ev"
    simp only [wp_bindT]
    refine check_wp (Sq.fold (fun _ _ hx z => Sq.fold (fun _ _ hy z => z.orR hx hy) n (Nat.le_refl _) z) n (Nat.le_refl _) (Sq.pairs qs _ (pairs_in ps 0 qs e) Sq.zero)) n1 n2 ?_
    rw [show checkX n _ = some x from e2]
    walk_at "ev"
    exact q
end LW
namespace LW
open PySem PySem.Spec PyProof.Rows L2 L3 L4
local macro_rules | `(tactic| walk_at "ev") => `(tactic| simp only [bindO_val, bindO_exc, bindO_need, bindO_stuck, bindO_draw, bindO_ite, bind_ret, bind_need, bind_stuck, bind_draw, bind_ite, app_bind, app_ret, app_stuck, app_lift, app_ite, app_setl, stl_fz, stl_bw, stl_ow, app_var, varK_fz, varK_ow, app_vw_fz, app_vw_bw, bwV_some, lstOf_ow, lstOf_fz, app_frz_fz, app_frz_ow, app_frz_bw, app_frzD, nh_non, nh_bl, nh_int, nh_str, nh_tup, nh_lst, nh_ins, nh_ty, nh_cls, app_op, app_un, app_cb, app_vwA_nil, app_vwA_cons, app_frzA_nil, app_frzA_cons, app_frzC_nil, app_frzC_cons, app_liftR, fv_fz, fv_ow, app_tup, app_lst, app_call, app_out, outK_ok, outK_err, noK_ok, app_test, testK_bl, app_and, app_or, app_not, app_tru, app_iteM, app_blM, app_andT, app_orT, app_notT, app_chain, chainK_bl, app_seq, seqK_nx, seqK_rt, seqK_bk, seqK_ct, app_asg, app_rt, rtv_fz, rtv_ow, rtv_bw, rtS_ow, rtS_fz, app_drop, set_fz, set_ow, set_bw, app_tupTg, tupTK_tup, app_tgs_nil, app_tgs_cons, app_store, storeK_bw, stS_ow, stN_some, stS_K, stS_T, stK_some, stT_some, stl_nd, varK_oi, varK_od, lstOf_od, lstOf_fzK, lstOf_fzT, app_frz_nd, nh_dK, nh_dT, rtv_nd, rtS_od, set_nd, app_dnewK, app_dnewT, app_fld, fldV_fz, fldV_bw, fldS_oi, fldS_fz, app_fldK, fldG_some, app_sfld, sfldK_oi, app_make, app_outI, outIK_ok, outIK_err, app_meth, methO_fz, app_prop, propO_fz, app_callK, app_xis2, xis2K_xc, app_lc2, boolP, max2P, min2P, divmodP, insertP, sortK, sortedP, reprP, dicP, gotK, keyK, keyA, keyT, getZ, setZ, putZk, putZd, mixK, List.any_nil, List.any_cons, List.flatMap_cons, List.flatMap_nil, List.drop_zero, List.drop_succ_cons, List.take_succ_cons, List.take_zero, app_bm, isLst_lst, bmK_bw, bmS_ow, app_index, app_draw, drawK_hand, app_sl, app_part, partK_int, app_isi2, app_rg1, rg1K_f, rg1K_t, app_rg2, rg2K_f, rg2K_t, app_rng1, rng1K_int, app_rng2, rng2K_int, app_seqS, items_lst, items_tup, app_enum1, app_for, app_lc, wipe_nil, wipe_cons, app_raise, app_raise0, app_try, tryK_val, tryK_exc, hdM_nil, hdM_some, hdM_none, app_xf, xfK_xc, xfL_some, app_xis, xisK_xc, app_aug, app_par, parK_two, endK_nx, endK_rt, endK_exc, wp_ret, wp_need, wp_stuck, wp_draw, wp_ite, wp_bindO, afterO_val, afterO_exc, stepP_nx, stepP_ct, stepP_bk, stepP_rt, stepP_exc, testP_t, testP_f, testP_b, eltP_fz, eltP_ow, eltP_nd, tstP_b, wp_bindO, app_den, app_noExc, noK_ok, p2I, p2C, subP, L4.ltP, leP, gtP, geP, fdivP, modP, powP, shlP, shrP, bandP, borP, bxorP, addP, mulP, eqP, neP, isNonD, isNP, notNP, isBlD, isBP, negP, invP, itP, ixP, lenP, int1P, absP, listP, tupleP, sumK, sumP, anyK, anyP, allP, mxK, maxP, minP, tyB, basicD, blK, isiP, orO, slP, appendP, extendP, popK, popAt, popAtP, popL, popP, reverseP, clearP, natK, indexP, inP, ninP, truV, cleanK, bareK, noXc, subs, subRow, List.lookup, List.map_cons, List.map_nil, List.nil_append, List.cons_append, List.length_cons, List.length_nil, List.replicate_succ, List.replicate_zero, Nat.reduceSub, Nat.reduceAdd, Nat.zero_add, List.getElem?_cons_zero, List.getElem?_cons_succ, List.getElem?_nil, List.set_cons_zero, List.set_cons_succ, List.append_nil, if_true, if_false, ite_true, ite_false, Bool.false_eq_true, Bool.not_true, Bool.not_false, decide_eq_true_eq, Bool.not_eq_true', decide_eq_false_iff_not, true_and, and_true, Bool.true_eq_false, reduceIte, reduceCtorEq, Bool.or_true, Bool.or_false, Bool.true_or, Bool.false_or, Bool.and_true, Bool.and_false, Bool.true_and, Bool.false_and, not_true_eq_false, not_false_eq_true, List.zip_cons_cons, List.zip_nil_left, List.zip_nil_right, List.reverse_cons, List.reverse_nil, List.getD_cons_zero, List.getD_cons_succ, String.reduceEq])
/-- a tuple of numbers below n -/
def natT (n : Nat) (d : PV) : Prop := ∃ ds : List Nat, (∀ i ∈ ds, i < n) ∧ ds.length ≤ 24 ∧ d = .tup (ds.map fun (i : Nat) => PV.int (i : Nat))
theorem init_good {n : Nat} {ps : List PV} {p : PV} {E : Except Xc (List (Str × PV)) → Prop} (hp : p = .lst ps ∨ p = .tup ps) (n1 : 1 ≤ n) (n2 : n ≤ 24) (h : ps.length ≤ 600) {qs : List (Nat × Nat)} (hb : ∀ p ∈ ps, basic2 p) (e : pairsOf n ps 0 = .ok qs) (e2 : checkX n (LW.orAll n (qs.foldl pairB (zeroB n))) = none) (q : ∀ a b c, E (.ok [("n", .int n), ("masks", a), ("cover_rows", b), ("edges", c)])) : Wp (den_Order_init [.int n, p]) E := by
  have w := is_whole_eq (d := .int (n : Int)) (lo := .int 1) (hi := .int 24) rfl (.inr ⟨_, rfl⟩) (.inr ⟨_, rfl⟩)
  have hw : wholeB (.int (n : Int)) (.int 1) (.int 24) = true := by
    show (decide ((1 : Int) ≤ n) && decide ((n : Int) ≤ 24)) = true
    rw [decide_eq_true (by omega), decide_eq_true (by omega)]
    rfl
  rcases hp with rfl | rfl
  · have w2 := is_sequence_eq (d := .lst ps) rfl
    unfold den_Order_init denI F_Order_init
    walk_at "ev"
    simp only [w, hw]
    walk_at "ev"
    simp only [w2, seqB]
    walk_at "ev"
    simp only [wp_bindT, endI]
    walk_at "ev"
    rw [if_neg (by omega), wp_bindT]
    refine masks_wp (by simp) n1 n2 hb ?_
    rw [e]
    walk_at "ev"
    simp only [wp_bindT]
    have sq := (Sq.fold (fun _ _ hx z => Sq.fold (fun _ _ hy z => z.orR hx hy) n (Nat.le_refl _) z) n (Nat.le_refl _) (Sq.pairs qs _ (pairs_in ps 0 qs e) Sq.zero))
    refine check_wp sq n1 n2 ?_
    rw [show checkX n _ = none from e2]
    walk_at "ev"
    refine ⟨⟨by rfl, by decide, by rfl⟩, ⟨by rfl, by (show 1 < 1000; decide), by rfl⟩, ⟨by omega, by omega⟩, ?_⟩
    rw [rgD_nat]
    refine wp_lcL (fun k s acc => ∃ y, s = [.oi 4 [("n", .int n), ("masks", .tup (masksP (LW.orAll n (qs.foldl pairB (zeroB n)))))], .fz (.int n), .fz y, .fz (.lst (masksP (LW.orAll n (qs.foldl pairB (zeroB n))))), .no, .no] ∧ acc.length = k ∧ ∀ d ∈ acc, natT n d) (k := 0) (acc := []) (Nat.le_refl _) (by rw [List.length_map, List.length_range]; omega) ⟨_, rfl, rfl, by simp⟩ ?_ ?_
    · rintro i d s acc e ⟨y, rfl, hl, ha⟩
      rw [List.getElem?_map] at e
      obtain ⟨j, e1, rfl⟩ := Option.map_eq_some_iff.mp e
      have hj : j < n := List.mem_range.mp (List.mem_of_getElem? e1)
      walk_at "ev"
      simp only [wp_bindT]
      refine covers_wp sq n2 hj fun ds hd hdl => ?_
      walk_at "ev"
      refine ⟨y, rfl, by rw [List.length_append, hl, List.length_singleton, Nat.zero_add], fun d hd' => ?_⟩
      rcases List.mem_append.mp hd' with z | z
      · exact ha d z
      · rw [List.mem_singleton.mp z]
        exact ⟨ds, hd, by omega, rfl⟩
    · rintro s acc ⟨y, rfl, hl, ha⟩
      rw [List.length_map, List.length_range, Nat.zero_add] at hl
      walk_at "ev"
      refine ⟨⟨by rfl, by (show 2 < 1000; decide), by rfl⟩, ⟨by omega, by omega⟩, ?_⟩
      have pe : putP (Str.ofString "cover_rows") (PV.tup acc) [(Str.ofString "n", PV.int (n : Int)), (Str.ofString "masks", PV.tup (masksP (LW.orAll n (qs.foldl pairB (zeroB n)))))] = [(Str.ofString "n", PV.int (n : Int)), (Str.ofString "masks", PV.tup (masksP (LW.orAll n (qs.foldl pairB (zeroB n))))), (Str.ofString "cover_rows", PV.tup acc)] := by rfl
      rw [pe, rgD_nat]
      refine wp_lcL2 (fun k s acc2 => s = [.oi 4 [("n", .int n), ("masks", .tup (masksP (LW.orAll n (qs.foldl pairB (zeroB n))))), ("cover_rows", .tup acc)], .fz (.int n), .fz y, .fz (.lst (masksP (LW.orAll n (qs.foldl pairB (zeroB n))))), .no, .no] ∧ acc2.length ≤ 24 * k) (k := 0) (acc := []) ⟨rfl, Nat.le_refl _⟩ ?_ ?_
      · rintro i d s acc2 e ⟨rfl, hl2⟩
        rw [List.getElem?_map] at e
        obtain ⟨j, e1, rfl⟩ := Option.map_eq_some_iff.mp e
        have hj : j < n := List.mem_range.mp (List.mem_of_getElem? e1)
        have hi : i < n := by have := (List.getElem?_eq_some_iff.mp e1).1; rwa [List.length_range] at this
        have e3 : acc[j]? = some acc[j] := List.getElem?_eq_getElem (by omega)
        obtain ⟨ds, hd, hdl, e4⟩ := ha acc[j] (List.getElem_mem _)
        walk_at "ev"
        refine ⟨by rfl, ?_⟩
        have le : List.lookup (Str.ofString "cover_rows") [(Str.ofString "n", PV.int (n : Int)), (Str.ofString "masks", PV.tup (masksP (LW.orAll n (qs.foldl pairB (zeroB n))))), (Str.ofString "cover_rows", PV.tup acc)] = some (PV.tup acc) := by rfl
        simp only [show (Str.ofString "cover_rows" == Str.ofString "n") = false from rfl, show (Str.ofString "cover_rows" == Str.ofString "masks") = false from rfl, show (Str.ofString "cover_rows" == Str.ofString "cover_rows") = true from rfl]
        walk_at "ev"
        simp only [atI_nat, e3]
        walk_at "ev"
        rw [e4]
        walk_at "ev"
        refine wp_lcL (fun k s acc3 => s = [.oi 4 [("n", .int n), ("masks", .tup (masksP (LW.orAll n (qs.foldl pairB (zeroB n))))), ("cover_rows", .tup acc)], .fz (.int n), .fz y, .fz (.lst (masksP (LW.orAll n (qs.foldl pairB (zeroB n))))), .fz (.int j), .no] ∧ acc3.length ≤ k) (k := acc2.length) (acc := acc2) (Nat.le_refl _) (by rw [List.length_map]; omega) ⟨rfl, Nat.le_refl _⟩ ?_ ?_
        · rintro i2 d s acc3 e5 ⟨rfl, hl3⟩
          rw [List.getElem?_map] at e5
          obtain ⟨z, e6, rfl⟩ := Option.map_eq_some_iff.mp e5
          walk_at "ev"
          refine ⟨by decide, ?_⟩
          rw [List.length_append, List.length_singleton]
          omega
        · rintro s acc3 ⟨rfl, hl3⟩
          rw [List.length_map] at hl3
          exact ⟨rfl, by omega⟩
      · rintro s acc2 ⟨rfl, hl2⟩
        rw [List.length_map, List.length_range, Nat.zero_add] at hl2
        walk_at "ev"
        refine ⟨⟨by rfl, by (show 3 < 1000; decide), by rfl⟩, ?_⟩
        have pe2 : putP (Str.ofString "edges") (PV.tup acc2) [(Str.ofString "n", PV.int (n : Int)), (Str.ofString "masks", PV.tup (masksP (LW.orAll n (qs.foldl pairB (zeroB n))))), (Str.ofString "cover_rows", PV.tup acc)] = [(Str.ofString "n", PV.int (n : Int)), (Str.ofString "masks", PV.tup (masksP (LW.orAll n (qs.foldl pairB (zeroB n))))), (Str.ofString "cover_rows", PV.tup acc), (Str.ofString "edges", PV.tup acc2)] := by rfl
        rw [pe2]
        exact ⟨rfl, q _ _ _⟩
  · have w2 := is_sequence_eq (d := .tup ps) rfl
    unfold den_Order_init denI F_Order_init
    walk_at "ev"
    simp only [w, hw]
    walk_at "ev"
    simp only [w2, seqB]
    walk_at "ev"
    simp only [wp_bindT, endI]
    walk_at "ev"
    rw [if_neg (by omega), wp_bindT]
    refine masks_wp (by simp) n1 n2 hb ?_
    rw [e]
    walk_at "ev"
    simp only [wp_bindT]
    have sq := (Sq.fold (fun _ _ hx z => Sq.fold (fun _ _ hy z => z.orR hx hy) n (Nat.le_refl _) z) n (Nat.le_refl _) (Sq.pairs qs _ (pairs_in ps 0 qs e) Sq.zero))
    refine check_wp sq n1 n2 ?_
    rw [show checkX n _ = none from e2]
    walk_at "ev"
    refine ⟨⟨by rfl, by decide, by rfl⟩, ⟨by rfl, by (show 1 < 1000; decide), by rfl⟩, ⟨by omega, by omega⟩, ?_⟩
    rw [rgD_nat]
    refine wp_lcL (fun k s acc => ∃ y, s = [.oi 4 [("n", .int n), ("masks", .tup (masksP (LW.orAll n (qs.foldl pairB (zeroB n)))))], .fz (.int n), .fz y, .fz (.lst (masksP (LW.orAll n (qs.foldl pairB (zeroB n))))), .no, .no] ∧ acc.length = k ∧ ∀ d ∈ acc, natT n d) (k := 0) (acc := []) (Nat.le_refl _) (by rw [List.length_map, List.length_range]; omega) ⟨_, rfl, rfl, by simp⟩ ?_ ?_
    · rintro i d s acc e ⟨y, rfl, hl, ha⟩
      rw [List.getElem?_map] at e
      obtain ⟨j, e1, rfl⟩ := Option.map_eq_some_iff.mp e
      have hj : j < n := List.mem_range.mp (List.mem_of_getElem? e1)
      walk_at "ev"
      simp only [wp_bindT]
      refine covers_wp sq n2 hj fun ds hd hdl => ?_
      walk_at "ev"
      refine ⟨y, rfl, by rw [List.length_append, hl, List.length_singleton, Nat.zero_add], fun d hd' => ?_⟩
      rcases List.mem_append.mp hd' with z | z
      · exact ha d z
      · rw [List.mem_singleton.mp z]
        exact ⟨ds, hd, by omega, rfl⟩
    · rintro s acc ⟨y, rfl, hl, ha⟩
      rw [List.length_map, List.length_range, Nat.zero_add] at hl
      walk_at "ev"
      refine ⟨⟨by rfl, by (show 2 < 1000; decide), by rfl⟩, ⟨by omega, by omega⟩, ?_⟩
      have pe : putP (Str.ofString "cover_rows") (PV.tup acc) [(Str.ofString "n", PV.int (n : Int)), (Str.ofString "masks", PV.tup (masksP (LW.orAll n (qs.foldl pairB (zeroB n)))))] = [(Str.ofString "n", PV.int (n : Int)), (Str.ofString "masks", PV.tup (masksP (LW.orAll n (qs.foldl pairB (zeroB n))))), (Str.ofString "cover_rows", PV.tup acc)] := by rfl
      rw [pe, rgD_nat]
      refine wp_lcL2 (fun k s acc2 => s = [.oi 4 [("n", .int n), ("masks", .tup (masksP (LW.orAll n (qs.foldl pairB (zeroB n))))), ("cover_rows", .tup acc)], .fz (.int n), .fz y, .fz (.lst (masksP (LW.orAll n (qs.foldl pairB (zeroB n))))), .no, .no] ∧ acc2.length ≤ 24 * k) (k := 0) (acc := []) ⟨rfl, Nat.le_refl _⟩ ?_ ?_
      · rintro i d s acc2 e ⟨rfl, hl2⟩
        rw [List.getElem?_map] at e
        obtain ⟨j, e1, rfl⟩ := Option.map_eq_some_iff.mp e
        have hj : j < n := List.mem_range.mp (List.mem_of_getElem? e1)
        have hi : i < n := by have := (List.getElem?_eq_some_iff.mp e1).1; rwa [List.length_range] at this
        have e3 : acc[j]? = some acc[j] := List.getElem?_eq_getElem (by omega)
        obtain ⟨ds, hd, hdl, e4⟩ := ha acc[j] (List.getElem_mem _)
        walk_at "ev"
        refine ⟨by rfl, ?_⟩
        have le : List.lookup (Str.ofString "cover_rows") [(Str.ofString "n", PV.int (n : Int)), (Str.ofString "masks", PV.tup (masksP (LW.orAll n (qs.foldl pairB (zeroB n))))), (Str.ofString "cover_rows", PV.tup acc)] = some (PV.tup acc) := by rfl
        simp only [show (Str.ofString "cover_rows" == Str.ofString "n") = false from rfl, show (Str.ofString "cover_rows" == Str.ofString "masks") = false from rfl, show (Str.ofString "cover_rows" == Str.ofString "cover_rows") = true from rfl]
        walk_at "ev"
        simp only [atI_nat, e3]
        walk_at "ev"
        rw [e4]
        walk_at "ev"
        refine wp_lcL (fun k s acc3 => s = [.oi 4 [("n", .int n), ("masks", .tup (masksP (LW.orAll n (qs.foldl pairB (zeroB n))))), ("cover_rows", .tup acc)], .fz (.int n), .fz y, .fz (.lst (masksP (LW.orAll n (qs.foldl pairB (zeroB n))))), .fz (.int j), .no] ∧ acc3.length ≤ k) (k := acc2.length) (acc := acc2) (Nat.le_refl _) (by rw [List.length_map]; omega) ⟨rfl, Nat.le_refl _⟩ ?_ ?_
        · rintro i2 d s acc3 e5 ⟨rfl, hl3⟩
          rw [List.getElem?_map] at e5
          obtain ⟨z, e6, rfl⟩ := Option.map_eq_some_iff.mp e5
          walk_at "ev"
          refine ⟨by decide, ?_⟩
          rw [List.length_append, List.length_singleton]
          omega
        · rintro s acc3 ⟨rfl, hl3⟩
          rw [List.length_map] at hl3
          exact ⟨rfl, by omega⟩
      · rintro s acc2 ⟨rfl, hl2⟩
        rw [List.length_map, List.length_range, Nat.zero_add] at hl2
        walk_at "ev"
        refine ⟨⟨by rfl, by (show 3 < 1000; decide), by rfl⟩, ?_⟩
        have pe2 : putP (Str.ofString "edges") (PV.tup acc2) [(Str.ofString "n", PV.int (n : Int)), (Str.ofString "masks", PV.tup (masksP (LW.orAll n (qs.foldl pairB (zeroB n))))), (Str.ofString "cover_rows", PV.tup acc)] = [(Str.ofString "n", PV.int (n : Int)), (Str.ofString "masks", PV.tup (masksP (LW.orAll n (qs.foldl pairB (zeroB n))))), (Str.ofString "cover_rows", PV.tup acc), (Str.ofString "edges", PV.tup acc2)] := by rfl
        rw [pe2]
        exact ⟨rfl, q _ _ _⟩
end LW
namespace LW
open PySem PySem.Spec PyProof.Rows L2 L3 L4
local macro_rules | `(tactic| walk_at "ev") => `(tactic| simp only [bindO_val, bindO_exc, bindO_need, bindO_stuck, bindO_draw, bindO_ite, bind_ret, bind_need, bind_stuck, bind_draw, bind_ite, app_bind, app_ret, app_stuck, app_lift, app_ite, app_setl, stl_fz, stl_bw, stl_ow, app_var, varK_fz, varK_ow, app_vw_fz, app_vw_bw, bwV_some, lstOf_ow, lstOf_fz, app_frz_fz, app_frz_ow, app_frz_bw, app_frzD, nh_non, nh_bl, nh_int, nh_str, nh_tup, nh_lst, nh_ins, nh_ty, nh_cls, app_op, app_un, app_cb, app_vwA_nil, app_vwA_cons, app_frzA_nil, app_frzA_cons, app_frzC_nil, app_frzC_cons, app_liftR, fv_fz, fv_ow, app_tup, app_lst, app_call, app_out, outK_ok, outK_err, noK_ok, app_test, testK_bl, app_and, app_or, app_not, app_tru, app_iteM, app_blM, app_andT, app_orT, app_notT, app_chain, chainK_bl, app_seq, seqK_nx, seqK_rt, seqK_bk, seqK_ct, app_asg, app_rt, rtv_fz, rtv_ow, rtv_bw, rtS_ow, rtS_fz, app_drop, set_fz, set_ow, set_bw, app_tupTg, tupTK_tup, app_tgs_nil, app_tgs_cons, app_store, storeK_bw, stS_ow, stN_some, stS_K, stS_T, stK_some, stT_some, stl_nd, varK_oi, varK_od, lstOf_od, lstOf_fzK, lstOf_fzT, app_frz_nd, nh_dK, nh_dT, rtv_nd, rtS_od, set_nd, app_dnewK, app_dnewT, app_fld, fldV_fz, fldV_bw, fldS_oi, fldS_fz, app_fldK, fldG_some, app_sfld, sfldK_oi, app_make, app_outI, outIK_ok, outIK_err, app_meth, methO_fz, app_prop, propO_fz, app_callK, app_xis2, xis2K_xc, app_lc2, boolP, max2P, min2P, divmodP, insertP, sortK, sortedP, reprP, dicP, gotK, keyK, keyA, keyT, getZ, setZ, putZk, putZd, mixK, List.any_nil, List.any_cons, List.flatMap_cons, List.flatMap_nil, List.drop_zero, List.drop_succ_cons, List.take_succ_cons, List.take_zero, app_bm, isLst_lst, bmK_bw, bmS_ow, app_index, app_draw, drawK_hand, app_sl, app_part, partK_int, app_isi2, app_rg1, rg1K_f, rg1K_t, app_rg2, rg2K_f, rg2K_t, app_rng1, rng1K_int, app_rng2, rng2K_int, app_seqS, items_lst, items_tup, app_enum1, app_for, app_lc, wipe_nil, wipe_cons, app_raise, app_raise0, app_try, tryK_val, tryK_exc, hdM_nil, hdM_some, hdM_none, app_xf, xfK_xc, xfL_some, app_xis, xisK_xc, app_aug, app_par, parK_two, endK_nx, endK_rt, endK_exc, wp_ret, wp_need, wp_stuck, wp_draw, wp_ite, wp_bindO, afterO_val, afterO_exc, stepP_nx, stepP_ct, stepP_bk, stepP_rt, stepP_exc, testP_t, testP_f, testP_b, eltP_fz, eltP_ow, eltP_nd, tstP_b, wp_bindO, app_den, app_noExc, noK_ok, p2I, p2C, subP, L4.ltP, leP, gtP, geP, fdivP, modP, powP, shlP, shrP, bandP, borP, bxorP, addP, mulP, eqP, neP, isNonD, isNP, notNP, isBlD, isBP, negP, invP, itP, ixP, lenP, int1P, absP, listP, tupleP, sumK, sumP, anyK, anyP, allP, mxK, maxP, minP, tyB, basicD, blK, isiP, orO, slP, appendP, extendP, popK, popAt, popAtP, popL, popP, reverseP, clearP, natK, indexP, inP, ninP, truV, cleanK, bareK, noXc, subs, subRow, List.lookup, List.map_cons, List.map_nil, List.nil_append, List.cons_append, List.length_cons, List.length_nil, List.replicate_succ, List.replicate_zero, Nat.reduceSub, Nat.reduceAdd, Nat.zero_add, List.getElem?_cons_zero, List.getElem?_cons_succ, List.getElem?_nil, List.set_cons_zero, List.set_cons_succ, List.append_nil, if_true, if_false, ite_true, ite_false, Bool.false_eq_true, Bool.not_true, Bool.not_false, decide_eq_true_eq, Bool.not_eq_true', decide_eq_false_iff_not, true_and, and_true, Bool.true_eq_false, reduceIte, reduceCtorEq, Bool.or_true, Bool.or_false, Bool.true_or, Bool.false_or, Bool.and_true, Bool.and_false, Bool.true_and, Bool.false_and, not_true_eq_false, not_false_eq_true, List.zip_cons_cons, List.zip_nil_left, List.zip_nil_right, List.reverse_cons, List.reverse_nil, List.getD_cons_zero, List.getD_cons_succ, String.reduceEq])
theorem zip_range {r t : List Bool} {n : Nat} (hr : r.length = n) (ht : t.length = n) : List.zipWith (· || ·) r t = (List.range n).map fun y => r.getD y false || t.getD y false := by
  apply List.ext_getElem
  · rw [List.length_zipWith, hr, ht, Nat.min_self, List.length_map, List.length_range]
  · intro i h1 h2
    rw [List.length_zipWith] at h1
    rw [List.getElem_zipWith, List.getElem_map, List.getElem_range]
    simp only [List.getD_eq_getElem?_getD]
    rw [List.getElem?_eq_getElem (by omega), List.getElem?_eq_getElem (by omega)]
    rfl
/-- rows of bits as a list of lists -/
def rowsP (R : Bits) : List PV := R.map fun r => .lst (r.map PV.bl)
def pairT (q : Nat × Nat) : PV := .tup [.int (q.1 : Nat), .int (q.2 : Nat)]
def keyQ (q : Nat × Nat) : List Key := [.inl (q.1 : Nat), .inl (q.2 : Nat)]
theorem keyQ_inj {p q : Nat × Nat} (h : keyQ p = keyQ q) : p = q := by
  unfold keyQ at h
  simp only [List.cons.injEq, Sum.inl.injEq, and_true] at h
  exact Prod.ext (by omega) (by omega)
theorem put_len {k : List Key} {e : PV} {ks : List (List Key)} {ds : List PV} (l : ks.length = ds.length) : (putZk k ks).length = (putZd k e ks ds).length ∧ (putZk k ks).length ≤ ks.length + 1 := by
  have set : ∀ (ks : List (List Key)) (ds : List PV), ks.length = ds.length → (setZ k e ks ds).length = ks.length := by
    intro ks
    induction ks with
    | nil => intro ds l; cases ds with
      | nil => rfl
      | cons d ds => simp at l
    | cons j ks ih => intro ds l; cases ds with
      | nil => simp at l
      | cons d ds =>
        show ((if j = k then e else d) :: setZ k e ks ds).length = _
        rw [List.length_cons, List.length_cons, ih ds (by simpa using l)]
  unfold putZk putZd
  split
  · exact ⟨(set ks ds l).symm, by omega⟩
  · rw [List.length_append, List.length_append, l]; exact ⟨rfl, Nat.le_refl _⟩
theorem put_mem {k j : List Key} {ks : List (List Key)} : j ∈ putZk k ks ↔ j ∈ ks ∨ j = k := by
  unfold putZk
  split
  · rename_i h
    obtain ⟨x, hx, e⟩ := List.any_eq_true.mp h
    rw [decide_eq_true_eq] at e
    subst e
    exact ⟨.inl, fun h => h.elim id fun z => by rw [z]; exact hx⟩
  · rw [List.mem_append, List.mem_singleton]
theorem get_mem {k : List Key} : ∀ {ks : List (List Key)} {ds : List PV}, ks.length = ds.length → ((getZ k ks ds).isSome = true ↔ k ∈ ks)
  | [], [], _ => by
    show false = true ↔ _
    simp
  | [], _ :: _, l => by simp at l
  | _ :: _, [], l => by simp at l
  | j :: ks, d :: ds, l => by
    show (if j = k then some d else getZ k ks ds).isSome = true ↔ _
    by_cases h : j = k
    · subst h
      rw [if_pos rfl]
      simp
    · rw [if_neg h, get_mem (by simpa using l), List.mem_cons]
      exact ⟨.inr, fun z => z.elim (fun e => absurd e.symm h) id⟩
theorem known_loop {n d : PV} {E : Out Fl → Prop} : ∀ (qs : List (Nat × Nat)) (ks : List (List Key)) (ds : List PV) (y : Sl), ks.length = ds.length → ks.length + qs.length ≤ 1000 →
    (∀ ks' ds' y, ks'.length = ds'.length → (∀ k, k ∈ ks' ↔ k ∈ ks ∨ k ∈ qs.map keyQ) → E (.val .nx [.fz n, .fz d, .od (.dT ks' ds'), y, .no, .no, .no, .no])) →
    Wp (forL (setM 3) B1_law_strict (qs.map pairT) [.fz n, .fz d, .od (.dT ks ds), y, .no, .no, .no, .no]) E
  | [], ks, ds, y, l, _, h => wp_forL_nil (h ks ds y l fun k => by simp)
  | q :: qs, ks, ds, y, l, hl, h => by
    rw [List.length_cons] at hl
    refine wp_forL_cons ?_
    unfold B1_law_strict pairT
    walk_at "ev"
    refine ⟨by omega, ?_⟩
    have p := put_len (k := [.inl (q.1 : Nat), .inl (q.2 : Nat)]) (e := .bl true) l
    refine known_loop qs (putZk [.inl (q.1 : Nat), .inl (q.2 : Nat)] ks) (putZd [.inl (q.1 : Nat), .inl (q.2 : Nat)] (.bl true) ks ds) _ p.1 (by omega) fun ks' ds' y l' hm => h ks' ds' y l' fun k => ?_
    rw [hm, put_mem, List.map_cons, List.mem_cons]
    exact ⟨fun z => z.elim (fun z => z.elim .inl fun z => .inr (.inl z)) fun z => .inr (.inr z), fun z => z.elim (fun z => .inl (.inl z)) fun z => z.elim (fun z => .inl (.inr z)) .inr⟩
def initS (n : Nat) (qs : List (Nat × Nat)) : Bits := (List.range n).map fun x => (List.range n).map fun y => decide ((x, y) ∈ qs)
theorem rows_row {n : Nat} {R : Bits} {x : Nat} (h : Sq n R) (hx : x < n) : (rowsP R)[x]? = some (.lst ((R.getD x []).map PV.bl)) := by
  unfold rowsP
  rw [List.getElem?_map, (h.row hx).1]
  rfl
theorem row_bit {n : Nat} {R : Bits} {x y : Nat} (h : Sq n R) (hx : x < n) (hy : y < n) : ((R.getD x []).map PV.bl)[y]? = some (.bl (getB R x y)) := by
  rw [List.getElem?_map, h.bit hx hy]
  rfl
theorem Sq.initS {n : Nat} {qs : List (Nat × Nat)} : Sq n (initS n qs) := by
  refine ⟨by unfold LW.initS; rw [List.length_map, List.length_range], fun x r e => ?_⟩
  unfold LW.initS at e
  rw [List.getElem?_map] at e
  cases e2 : (List.range n)[x]? with
  | none => rw [e2] at e; cases e
  | some y => rw [e2] at e; cases e; rw [List.length_map, List.length_range]
theorem strict_body {n m x : Nat} {R : Bits} {d e' : PV} {u y : Sl} {E : Out Fl → Prop} {J : S4 → Prop} (sq : Sq n R) (n2 : n ≤ 24) (hm : m < n) (hx : x < n)
    (h : J [.fz (.int n), .fz d, .od e', u, .ow (rowsP (LW.orR m R x)), .fz (.int m), .fz (.int x), .no]) :
    Wp (bindO (setM 6 (.fz (.int x)) [.fz (.int n), .fz d, .od e', u, .ow (rowsP R), .fz (.int m), y, .no]) fun _ => B2_law_strict) (stepP E J) := by
  unfold B2_law_strict
  walk_at "ev"
  simp only [atI_nat, rows_row sq hx]
  walk_at "ev"
  simp only [atI_nat, row_bit sq hx hm]
  walk_at "ev"
  cases e : getB R x m with
  | false =>
    have h3 : LW.orR m R x = R := by unfold LW.orR; rw [if_neg (by rw [e]; simp)]
    rw [h3] at h
    simp only [if_false, Bool.false_eq_true]
    exact h
  | true =>
    have h3 : LW.orR m R x = R.set x (List.zipWith (· || ·) (R.getD x []) (R.getD m [])) := by unfold LW.orR; rw [if_pos e]
    rw [h3] at h
    rw [if_pos rfl]
    refine ⟨by omega, ?_⟩
    rw [rgD_nat]
    refine wp_lcL (fun k s acc => s = [.fz (.int n), .fz d, .od e', u, .ow (rowsP R), .fz (.int m), .fz (.int x), .no] ∧ acc = (List.range k).map fun y => PV.bl ((R.getD x []).getD y false || (R.getD m []).getD y false)) (k := 0) (acc := []) (Nat.le_refl _) (by rw [List.length_map, List.length_range]; omega) ⟨rfl, rfl⟩ ?_ ?_
    · rintro i d' s acc e1 ⟨rfl, rfl⟩
      rw [List.getElem?_map] at e1
      obtain ⟨j, e2, rfl⟩ := Option.map_eq_some_iff.mp e1
      have hi : i < n := by have := (List.getElem?_eq_some_iff.mp e2).1; rwa [List.length_range] at this
      obtain rfl : j = i := by rw [List.getElem?_range hi] at e2; exact (Option.some.inj e2).symm
      walk_at "ev"
      simp only [atI_nat, rows_row sq hx]
      walk_at "ev"
      simp only [atI_nat, row_bit sq hx hi]
      walk_at "ev"
      have fin : (List.range j).map (fun y => PV.bl ((R.getD x []).getD y false || (R.getD m []).getD y false)) ++ [PV.bl (getB R x j || getB R m j)] = (List.range (j + 1)).map (fun y => PV.bl ((R.getD x []).getD y false || (R.getD m []).getD y false)) := by
        rw [List.range_succ, List.map_append]
        rfl
      cases e5 : getB R x j with
      | true =>
        rw [if_pos rfl]
        rw [e5] at fin
        exact fin
      | false =>
        rw [if_neg (by simp)]
        simp only [atI_nat, rows_row sq hm]
        walk_at "ev"
        simp only [atI_nat, row_bit sq hm hi]
        walk_at "ev"
        rw [e5] at fin
        exact fin
    · rintro s acc ⟨rfl, rfl⟩
      walk_at "ev"
      have er : (List.range n).map (fun y => PV.bl ((R.getD x []).getD y false || (R.getD m []).getD y false)) = (List.zipWith (· || ·) (R.getD x []) (R.getD m [])).map PV.bl := by
        rw [zip_range (sq.row hx).2 (sq.row hm).2, List.map_map]
        rfl
      have el : (rowsP R).length = n := by unfold rowsP; rw [List.length_map]; exact sq.1
      rw [List.length_map, List.length_range, er, el, ixN_nat hx]
      walk_at "ev"
      have e6 : (rowsP R).set x (.lst ((List.zipWith (· || ·) (R.getD x []) (R.getD m [])).map PV.bl)) = rowsP (R.set x (List.zipWith (· || ·) (R.getD x []) (R.getD m []))) := by unfold rowsP; rw [List.map_set]
      rw [e6]
      exact h
theorem strict_or {n m : Nat} {d e' : PV} {u : Sl} {E : Out Fl → Prop} (n2 : n ≤ 24) (hm : m < n) : ∀ (xs : List Nat) (R : Bits) (y : Sl), (∀ i ∈ xs, i < n) → Sq n R →
    (∀ y, Sq n (xs.foldl (LW.orR m) R) → E (.val .nx [.fz (.int n), .fz d, .od e', u, .ow (rowsP (xs.foldl (LW.orR m) R)), .fz (.int m), y, .no])) →
    Wp (forL (setM 6) B2_law_strict (xs.map fun (i : Nat) => PV.int (i : Nat)) [.fz (.int n), .fz d, .od e', u, .ow (rowsP R), .fz (.int m), y, .no]) E
  | [], R, y, _, sq, h => wp_forL_nil (h y sq)
  | x :: xs, R, y, hb, sq, h => wp_forL_cons (strict_body sq n2 hm (hb x List.mem_cons_self) (strict_or n2 hm xs (LW.orR m R x) _ (fun i z => hb i (List.mem_cons_of_mem _ z)) (sq.orR hm (hb x List.mem_cons_self)) h))
theorem strict_mid {n : Nat} {d e' : PV} {u : Sl} {E : Out Fl → Prop} (n2 : n ≤ 24) : ∀ (ms : List Nat) (R : Bits) (x y : Sl), (∀ i ∈ ms, i < n) → Sq n R →
    (∀ x y, Sq n (ms.foldl (LW.orM n) R) → E (.val .nx [.fz (.int n), .fz d, .od e', u, .ow (rowsP (ms.foldl (LW.orM n) R)), x, y, .no])) →
    Wp (forL (setM 5) B3_law_strict (ms.map fun (i : Nat) => PV.int (i : Nat)) [.fz (.int n), .fz d, .od e', u, .ow (rowsP R), x, y, .no]) E
  | [], R, x, y, _, sq, h => wp_forL_nil (h x y sq)
  | m :: ms, R, x, y, hb, sq, h => by
    have hm := hb m List.mem_cons_self
    refine wp_forL_cons ?_
    unfold B3_law_strict
    walk_at "ev"
    refine ⟨by omega, ?_⟩
    rw [rgD_nat]
    refine strict_or n2 hm (List.range n) R _ (fun i z => List.mem_range.mp z) sq fun y sq2 => ?_
    exact strict_mid n2 ms (LW.orM n R m) _ _ (fun i z => hb i (List.mem_cons_of_mem _ z)) sq2 h
theorem bits_ext {n : Nat} {R S : Bits} (hR : Sq n R) (hS : Sq n S) (h : ∀ x y, x < n → y < n → getB R x y = getB S x y) : R = S := by
  apply List.ext_getElem
  · rw [hR.1, hS.1]
  · intro x h1 h2
    have hx : x < n := by rw [← hR.1]; exact h1
    have e1 : R[x] = R.getD x [] := by rw [List.getD_eq_getElem?_getD, List.getElem?_eq_getElem h1]; rfl
    have e2 : S[x] = S.getD x [] := by rw [List.getD_eq_getElem?_getD, List.getElem?_eq_getElem h2]; rfl
    rw [e1, e2]
    apply List.ext_getElem?
    intro y
    by_cases hy : y < n
    · rw [hR.bit hx hy, hS.bit hx hy, h x y hx hy]
    · rw [List.getElem?_eq_none (by rw [(hR.row hx).2]; omega), List.getElem?_eq_none (by rw [(hS.row hx).2]; omega)]
theorem getB_set {n i j x y : Nat} {R : Bits} (h : Sq n R) (hi : i < n) (hj : j < n) : getB (setB R i j) x y = (getB R x y || decide ((x, y) = (i, j))) := by
  unfold getB setB
  simp only [List.getD_eq_getElem?_getD]
  by_cases hx : x = i
  · subst hx
    rw [List.getElem?_set_self (by rw [h.1]; exact hi)]
    show ((((R[x]?).getD []).set j true)[y]?).getD false = _
    by_cases hy : y = j
    · subst hy
      have l : ((R[x]?).getD []).length = n := by have := (h.row hi).2; rwa [List.getD_eq_getElem?_getD] at this
      rw [List.getElem?_set_self (by rw [l]; exact hj)]
      simp
    · rw [List.getElem?_set_ne (fun z => hy z.symm)]
      simp [hy]
  · rw [List.getElem?_set_ne (fun z => hx z.symm)]
    simp [hx]
theorem getB_zero {n x y : Nat} : getB (zeroB n) x y = false := by
  unfold getB zeroB
  simp only [List.getD_eq_getElem?_getD, List.getElem?_replicate]
  split
  · show ((List.replicate n false)[y]?).getD false = false
    rw [List.getElem?_replicate]
    split <;> rfl
  · rfl
theorem getB_pairs {n x y : Nat} : ∀ (qs : List (Nat × Nat)) (R : Bits), Sq n R → (∀ q ∈ qs, q.1 < n ∧ q.2 < n) → getB (qs.foldl pairB R) x y = (getB R x y || decide ((x, y) ∈ qs))
  | [], R, _, _ => by simp
  | (i, j) :: qs, R, sq, hb => by
    have hq := hb (i, j) List.mem_cons_self
    rw [List.foldl_cons, getB_pairs qs (pairB R (i, j)) (sq.set hq.1) (fun q z => hb q (List.mem_cons_of_mem _ z))]
    show (getB (setB R i j) x y || _) = _
    rw [getB_set sq hq.1 hq.2, Bool.or_assoc]
    congr 1
    simp [List.mem_cons]
theorem getB_initS {n x y : Nat} {qs : List (Nat × Nat)} (hx : x < n) (hy : y < n) : getB (initS n qs) x y = decide ((x, y) ∈ qs) := by
  unfold getB LW.initS
  simp only [List.getD_eq_getElem?_getD, List.getElem?_map, List.getElem?_range hx, List.getElem?_range hy]
  show (((List.range n).map fun y => decide ((x, y) ∈ qs))[y]?).getD false = _
  rw [List.getElem?_map, List.getElem?_range hy]
  rfl
theorem initS_eq {n : Nat} {qs : List (Nat × Nat)} (hb : ∀ q ∈ qs, q.1 < n ∧ q.2 < n) : initS n qs = qs.foldl pairB (zeroB n) := by
  have sz : Sq n (zeroB n) := by
    refine ⟨List.length_replicate, fun x r e => ?_⟩
    unfold zeroB at e
    rw [List.getElem?_replicate] at e
    split at e
    · cases e
      exact List.length_replicate
    · cases e
  have sp : ∀ (qs : List (Nat × Nat)) (R : Bits), (∀ q ∈ qs, q.1 < n ∧ q.2 < n) → Sq n R → Sq n (qs.foldl pairB R) := by
    intro qs
    induction qs with
    | nil => intro R _ h; exact h
    | cons q qs ih => intro R hb h; exact ih _ (fun z hz => hb z (List.mem_cons_of_mem _ hz)) (h.set (hb q List.mem_cons_self).1)
  refine bits_ext Sq.initS (sp qs _ hb sz) fun x y hx hy => ?_
  rw [getB_initS hx hy, getB_pairs qs _ sz hb, getB_zero, Bool.false_or]
theorem strict_wp {n : Nat} {qs : List (Nat × Nat)} {E : Except Xc Rv → Prop} (n2 : n ≤ 24) (hb : ∀ q ∈ qs, q.1 < n ∧ q.2 < n) (hl : qs.length ≤ 1000)
    (h : E (.ok (.ow (rowsP (LW.orAll n (qs.foldl pairB (zeroB n))))))) : Wp (den_law_strict [.int n, .lst (qs.map pairT)]) E := by
  (simp only [den_law_strict, F_law_strict]; try walk_at "ev")
  rw [wp_bindT]
  simp only [wp_bindO]
  refine known_loop qs [] [] _ rfl (by rw [List.length_nil]; omega) fun ks ds y l hk => ?_
  have kn : ∀ x z : Nat, (getZ [.inl (x : Nat), .inl (z : Nat)] ks ds).isSome = decide ((x, z) ∈ qs) := fun x z => by
    rw [Bool.eq_iff_iff, get_mem l, hk, decide_eq_true_eq, List.mem_map]
    constructor
    · rintro (h | ⟨q, hq, e⟩)
      · cases h
      · rw [← keyQ_inj (show keyQ q = keyQ (x, z) from e)]; exact hq
    · exact fun h => .inr ⟨(x, z), h, rfl⟩
  walk_at "ev"
  refine ⟨by omega, ?_⟩
  rw [rgD_nat]
  refine wp_lcL (fun k s acc => s = [.fz (.int n), .fz (.lst (qs.map pairT)), .od (.dT ks ds), y, .no, .no, .no, .no] ∧ acc = (List.range k).map fun x => PV.lst ((List.range n).map fun z => PV.bl (decide ((x, z) ∈ qs)))) (k := 0) (acc := []) (Nat.le_refl _) (by rw [List.length_map, List.length_range]; omega) ⟨rfl, rfl⟩ ?_ ?_
  · rintro i d' s acc e1 ⟨rfl, rfl⟩
    rw [List.getElem?_map] at e1
    obtain ⟨j, e2, rfl⟩ := Option.map_eq_some_iff.mp e1
    have hi : i < n := by have := (List.getElem?_eq_some_iff.mp e2).1; rwa [List.length_range] at this
    obtain rfl : j = i := by rw [List.getElem?_range hi] at e2; exact (Option.some.inj e2).symm
    walk_at "ev"
    refine ⟨by omega, ?_⟩
    rw [rgD_nat]
    refine wp_lcL (fun k s acc => s = [.fz (.int n), .fz (.lst (qs.map pairT)), .od (.dT ks ds), y, .no, .no, .fz (.int j), .no] ∧ acc = (List.range k).map fun z => PV.bl (decide ((j, z) ∈ qs))) (k := 0) (acc := []) (Nat.le_refl _) (by rw [List.length_map, List.length_range]; omega) ⟨rfl, rfl⟩ ?_ ?_
    · rintro i d' s acc e1 ⟨rfl, rfl⟩
      rw [List.getElem?_map] at e1
      obtain ⟨z, e2, rfl⟩ := Option.map_eq_some_iff.mp e1
      have hz : i < n := by have := (List.getElem?_eq_some_iff.mp e2).1; rwa [List.length_range] at this
      obtain rfl : z = i := by rw [List.getElem?_range hz] at e2; exact (Option.some.inj e2).symm
      walk_at "ev"
      rw [kn]
      refine ⟨by decide, ?_⟩
      rw [List.range_succ, List.map_append]
      rfl
    · rintro s acc ⟨rfl, rfl⟩
      walk_at "ev"
      rw [List.length_map, List.length_range, List.range_succ (n := j), List.map_append]
      rfl
  · rintro s acc ⟨rfl, rfl⟩
    have er : ((List.range n).map fun x => PV.lst ((List.range n).map fun z => PV.bl (decide ((x, z) ∈ qs)))) = rowsP (LW.initS n qs) := by
      unfold rowsP LW.initS
      rw [List.map_map]
      refine List.map_congr_left fun x _ => ?_
      show _ = PV.lst (((List.range n).map fun y => decide ((x, y) ∈ qs)).map PV.bl)
      rw [List.map_map]
      rfl
    rw [Nat.zero_add, List.length_map, List.length_range, er, initS_eq hb]
    walk_at "ev"
    refine ⟨by omega, ?_⟩
    rw [rgD_nat]
    refine strict_mid n2 (List.range n) _ _ _ (fun i z => List.mem_range.mp z) (by rw [← initS_eq hb]; exact Sq.initS) fun x y sq => ?_
    walk_at "ev"
    exact h
end LW
namespace LW
open PySem PySem.Spec PyProof.Rows L2 L3 L4
local macro_rules | `(tactic| walk_at "ev") => `(tactic| simp only [bindO_val, bindO_exc, bindO_need, bindO_stuck, bindO_draw, bindO_ite, bind_ret, bind_need, bind_stuck, bind_draw, bind_ite, app_bind, app_ret, app_stuck, app_lift, app_ite, app_setl, stl_fz, stl_bw, stl_ow, app_var, varK_fz, varK_ow, app_vw_fz, app_vw_bw, bwV_some, lstOf_ow, lstOf_fz, app_frz_fz, app_frz_ow, app_frz_bw, app_frzD, nh_non, nh_bl, nh_int, nh_str, nh_tup, nh_lst, nh_ins, nh_ty, nh_cls, app_op, app_un, app_cb, app_vwA_nil, app_vwA_cons, app_frzA_nil, app_frzA_cons, app_frzC_nil, app_frzC_cons, app_liftR, fv_fz, fv_ow, app_tup, app_lst, app_call, app_out, outK_ok, outK_err, noK_ok, app_test, testK_bl, app_and, app_or, app_not, app_tru, app_iteM, app_blM, app_andT, app_orT, app_notT, app_chain, chainK_bl, app_seq, seqK_nx, seqK_rt, seqK_bk, seqK_ct, app_asg, app_rt, rtv_fz, rtv_ow, rtv_bw, rtS_ow, rtS_fz, app_drop, set_fz, set_ow, set_bw, app_tupTg, tupTK_tup, app_tgs_nil, app_tgs_cons, app_store, storeK_bw, stS_ow, stN_some, stS_K, stS_T, stK_some, stT_some, stl_nd, varK_oi, varK_od, lstOf_od, lstOf_fzK, lstOf_fzT, app_frz_nd, nh_dK, nh_dT, rtv_nd, rtS_od, set_nd, app_dnewK, app_dnewT, app_fld, fldV_fz, fldV_bw, fldS_oi, fldS_fz, app_fldK, fldG_some, app_sfld, sfldK_oi, app_make, app_outI, outIK_ok, outIK_err, app_meth, methO_fz, app_prop, propO_fz, app_callK, app_xis2, xis2K_xc, app_lc2, boolP, max2P, min2P, divmodP, insertP, sortK, sortedP, reprP, dicP, gotK, keyK, keyA, keyT, getZ, setZ, putZk, putZd, mixK, List.any_nil, List.any_cons, List.flatMap_cons, List.flatMap_nil, List.drop_zero, List.drop_succ_cons, List.take_succ_cons, List.take_zero, app_bm, isLst_lst, bmK_bw, bmS_ow, app_index, app_draw, drawK_hand, app_sl, app_part, partK_int, app_isi2, app_rg1, rg1K_f, rg1K_t, app_rg2, rg2K_f, rg2K_t, app_rng1, rng1K_int, app_rng2, rng2K_int, app_seqS, items_lst, items_tup, app_enum1, app_for, app_lc, wipe_nil, wipe_cons, app_raise, app_raise0, app_try, tryK_val, tryK_exc, hdM_nil, hdM_some, hdM_none, app_xf, xfK_xc, xfL_some, app_xis, xisK_xc, app_aug, app_par, parK_two, endK_nx, endK_rt, endK_exc, wp_ret, wp_need, wp_stuck, wp_draw, wp_ite, wp_bindO, afterO_val, afterO_exc, stepP_nx, stepP_ct, stepP_bk, stepP_rt, stepP_exc, testP_t, testP_f, testP_b, eltP_fz, eltP_ow, eltP_nd, tstP_b, wp_bindO, app_den, app_noExc, noK_ok, p2I, p2C, subP, L4.ltP, leP, gtP, geP, fdivP, modP, powP, shlP, shrP, bandP, borP, bxorP, addP, mulP, eqP, neP, isNonD, isNP, notNP, isBlD, isBP, negP, invP, itP, ixP, lenP, int1P, absP, listP, tupleP, sumK, sumP, anyK, anyP, allP, mxK, maxP, minP, tyB, basicD, blK, isiP, orO, slP, appendP, extendP, popK, popAt, popAtP, popL, popP, reverseP, clearP, natK, indexP, inP, ninP, truV, cleanK, bareK, noXc, subs, subRow, List.lookup, List.map_cons, List.map_nil, List.nil_append, List.cons_append, List.length_cons, List.length_nil, List.replicate_succ, List.replicate_zero, Nat.reduceSub, Nat.reduceAdd, Nat.zero_add, List.getElem?_cons_zero, List.getElem?_cons_succ, List.getElem?_nil, List.set_cons_zero, List.set_cons_succ, List.append_nil, if_true, if_false, ite_true, ite_false, Bool.false_eq_true, Bool.not_true, Bool.not_false, decide_eq_true_eq, Bool.not_eq_true', decide_eq_false_iff_not, true_and, and_true, Bool.true_eq_false, reduceIte, reduceCtorEq, Bool.or_true, Bool.or_false, Bool.true_or, Bool.false_or, Bool.and_true, Bool.and_false, Bool.true_and, Bool.false_and, not_true_eq_false, not_false_eq_true, List.zip_cons_cons, List.zip_nil_left, List.zip_nil_right, List.reverse_cons, List.reverse_nil, List.getD_cons_zero, List.getD_cons_succ, String.reduceEq])
theorem due_pairs {n : Nat} {E : Out Fl → Prop} (qs : List PV) : ∀ (ps : List PV) (k : Nat) (y : Sl), (∀ p ∈ ps, basic2 p) → (∀ i, qs[k + i]? = ps[i]?) →
    (match pairsOf n ps k with
      | .error e => ∀ s, E (.val (.rt (.fz (.tup [.str "pair", .int e]))) s)
      | .ok _ => ∀ y, E (.val .nx [.fz (.int n), .fz (.lst qs), y, .no, .no, .no])) →
    Wp (forL (setM 2) B1_law_due ((List.range' k ps.length).map fun (i : Nat) => PV.int (i : Nat)) [.fz (.int n), .fz (.lst qs), y, .no, .no, .no]) E
  | [], k, y, _, _, h => wp_forL_nil (h y)
  | p :: ps, k, y, hb, hi, h => by
    have bp := hb p List.mem_cons_self
    have hat : qs[k]? = some p := hi 0
    rw [List.length_cons, List.range'_succ, List.map_cons]
    refine wp_forL_cons ?_
    have bad : twoOf n p = none → ∀ s, E (.val (.rt (.fz (.tup [.str "pair", .int k]))) s) := fun e s => by
      unfold pairsOf at h
      rw [e] at h
      exact h s
    have ok2 : okD (.int 2) := ⟨rfl, by decide⟩
    have go : ∀ xs, (p = .lst xs ∨ p = .tup xs) → Wp (bindO (setM 2 (.fz (.int (k : Nat))) [.fz (.int n), .fz (.lst qs), y, .no, .no, .no]) fun _ => B1_law_due) (stepP E fun s' => Wp (forL (setM 2) B1_law_due ((List.range' (k + 1) ps.length).map fun (i : Nat) => PV.int (i : Nat)) s') E) := by
      intro xs hp
      match xs, hp with
      | [a, b], hp =>
        have ba : basicD a = true := bp.2.2 [a, b] (by rcases hp with rfl | rfl <;> rfl) a (by simp)
        have bb : basicD b = true := bp.2.2 [a, b] (by rcases hp with rfl | rfl <;> rfl) b (by simp)
        have w1 := law_state_eq (d := a) (n := n) ba
        have w2 := law_state_eq (d := b) (n := n) bb
        unfold B1_law_due
        rcases hp with rfl | rfl
        · skip
          walk_at "ev"
          simp only [atI_nat, hat]
          walk_at "ev"
          simp only [atI_nat, hat]
          walk_at "ev"
          refine ⟨⟨ok2, ok2⟩, ?_⟩
          rw [if_neg (by decide)]
          simp only [atI_nat, hat]
          walk_at "ev"
          simp only [atI_two0]
          walk_at "ev"
          simp only [w1]
          walk_at "ev"
          cases ha : wholeB a (.int 0) (.int (n - 1)) with
          | false =>
            rw [if_pos rfl]
            exact ⟨by decide, bad (two_none rfl (.inl ha)) _⟩
          | true =>
          rw [if_neg (by simp)]
          simp only [atI_nat, hat]
          walk_at "ev"
          simp only [atI_two1]
          walk_at "ev"
          simp only [w2]
          walk_at "ev"
          cases hb2 : wholeB b (.int 0) (.int (n - 1)) with
          | false =>
            rw [if_pos rfl]
            exact ⟨by decide, bad (two_none rfl (.inr hb2)) _⟩
          | true =>
          rw [if_neg (by simp)]
          obtain ⟨i, li, rfl⟩ := whole_nat ha
          obtain ⟨j, lj, rfl⟩ := whole_nat hb2
          refine due_pairs qs ps (k + 1) _ (fun p z => hb p (List.mem_cons_of_mem _ z)) (fun i => by have e9 := hi (i + 1); rw [show k + (i + 1) = k + 1 + i by omega] at e9; exact e9) ?_
          rw [pairs_one (two_some (i := i) (j := j) rfl li lj)] at h
          cases e3 : pairsOf n ps (k + 1) with
          | error m => rw [e3] at h; exact h
          | ok qs => rw [e3] at h; exact h
        · skip
          walk_at "ev"
          simp only [atI_nat, hat]
          walk_at "ev"
          simp only [atI_nat, hat]
          walk_at "ev"
          refine ⟨⟨ok2, ok2⟩, ?_⟩
          rw [if_neg (by decide)]
          simp only [atI_nat, hat]
          walk_at "ev"
          simp only [atI_two0]
          walk_at "ev"
          simp only [w1]
          walk_at "ev"
          cases ha : wholeB a (.int 0) (.int (n - 1)) with
          | false =>
            rw [if_pos rfl]
            exact ⟨by decide, bad (two_none rfl (.inl ha)) _⟩
          | true =>
          rw [if_neg (by simp)]
          simp only [atI_nat, hat]
          walk_at "ev"
          simp only [atI_two1]
          walk_at "ev"
          simp only [w2]
          walk_at "ev"
          cases hb2 : wholeB b (.int 0) (.int (n - 1)) with
          | false =>
            rw [if_pos rfl]
            exact ⟨by decide, bad (two_none rfl (.inr hb2)) _⟩
          | true =>
          rw [if_neg (by simp)]
          obtain ⟨i, li, rfl⟩ := whole_nat ha
          obtain ⟨j, lj, rfl⟩ := whole_nat hb2
          refine due_pairs qs ps (k + 1) _ (fun p z => hb p (List.mem_cons_of_mem _ z)) (fun i => by have e9 := hi (i + 1); rw [show k + (i + 1) = k + 1 + i by omega] at e9; exact e9) ?_
          rw [pairs_one (two_some (i := i) (j := j) rfl li lj)] at h
          cases e3 : pairsOf n ps (k + 1) with
          | error m => rw [e3] at h; exact h
          | ok qs => rw [e3] at h; exact h
      | [], hp =>
        have tn : twoOf n p = none := by rcases hp with rfl | rfl <;> exact two_len rfl (by simp)
        unfold B1_law_due
        rcases hp with rfl | rfl
        · walk_at "ev"
          simp only [atI_nat, hat]
          walk_at "ev"
          simp only [atI_nat, hat]
          walk_at "ev"
          refine ⟨⟨okI, ok2⟩, ?_⟩
          rw [if_pos (eqv_ne (by omega))]
          refine ⟨by decide, ?_⟩
          exact bad tn _
        · walk_at "ev"
          simp only [atI_nat, hat]
          walk_at "ev"
          simp only [atI_nat, hat]
          walk_at "ev"
          refine ⟨⟨okI, ok2⟩, ?_⟩
          rw [if_pos (eqv_ne (by omega))]
          refine ⟨by decide, ?_⟩
          exact bad tn _
      | [a], hp =>
        have tn : twoOf n p = none := by rcases hp with rfl | rfl <;> exact two_len rfl (by simp)
        unfold B1_law_due
        rcases hp with rfl | rfl
        · walk_at "ev"
          simp only [atI_nat, hat]
          walk_at "ev"
          simp only [atI_nat, hat]
          walk_at "ev"
          refine ⟨⟨okI, ok2⟩, ?_⟩
          rw [if_pos (eqv_ne (by omega))]
          refine ⟨by decide, ?_⟩
          exact bad tn _
        · walk_at "ev"
          simp only [atI_nat, hat]
          walk_at "ev"
          simp only [atI_nat, hat]
          walk_at "ev"
          refine ⟨⟨okI, ok2⟩, ?_⟩
          rw [if_pos (eqv_ne (by omega))]
          refine ⟨by decide, ?_⟩
          exact bad tn _
      | a :: b :: c :: r, hp =>
        have tn : twoOf n p = none := by rcases hp with rfl | rfl <;> exact two_len rfl (by simp)
        unfold B1_law_due
        rcases hp with rfl | rfl
        · walk_at "ev"
          simp only [atI_nat, hat]
          walk_at "ev"
          simp only [atI_nat, hat]
          walk_at "ev"
          refine ⟨⟨okI, ok2⟩, ?_⟩
          rw [if_pos (eqv_ne (by omega))]
          refine ⟨by decide, ?_⟩
          exact bad tn _
        · walk_at "ev"
          simp only [atI_nat, hat]
          walk_at "ev"
          simp only [atI_nat, hat]
          walk_at "ev"
          refine ⟨⟨okI, ok2⟩, ?_⟩
          rw [if_pos (eqv_ne (by omega))]
          refine ⟨by decide, ?_⟩
          exact bad tn _
    cases p with
    | lst xs => exact go xs (.inl rfl)
    | tup xs => exact go xs (.inr rfl)
    | ins _ _ => cases bp.1
    | hand => cases bp.1
    | ty _ => cases bp.1
    | cls _ => cases bp.1
    | _ => unfold B1_law_due
           walk_at "ev"
           simp only [atI_nat, hat]
           walk_at "ev"
           exact ⟨by decide, bad (two_not rfl) _⟩
end LW
namespace LW
open PySem PySem.Spec PyProof.Rows L2 L3 L4
local macro_rules | `(tactic| walk_at "ev") => `(tactic| simp only [bindO_val, bindO_exc, bindO_need, bindO_stuck, bindO_draw, bindO_ite, bind_ret, bind_need, bind_stuck, bind_draw, bind_ite, app_bind, app_ret, app_stuck, app_lift, app_ite, app_setl, stl_fz, stl_bw, stl_ow, app_var, varK_fz, varK_ow, app_vw_fz, app_vw_bw, bwV_some, lstOf_ow, lstOf_fz, app_frz_fz, app_frz_ow, app_frz_bw, app_frzD, nh_non, nh_bl, nh_int, nh_str, nh_tup, nh_lst, nh_ins, nh_ty, nh_cls, app_op, app_un, app_cb, app_vwA_nil, app_vwA_cons, app_frzA_nil, app_frzA_cons, app_frzC_nil, app_frzC_cons, app_liftR, fv_fz, fv_ow, app_tup, app_lst, app_call, app_out, outK_ok, outK_err, noK_ok, app_test, testK_bl, app_and, app_or, app_not, app_tru, app_iteM, app_blM, app_andT, app_orT, app_notT, app_chain, chainK_bl, app_seq, seqK_nx, seqK_rt, seqK_bk, seqK_ct, app_asg, app_rt, rtv_fz, rtv_ow, rtv_bw, rtS_ow, rtS_fz, app_drop, set_fz, set_ow, set_bw, app_tupTg, tupTK_tup, app_tgs_nil, app_tgs_cons, app_store, storeK_bw, stS_ow, stN_some, stS_K, stS_T, stK_some, stT_some, stl_nd, varK_oi, varK_od, lstOf_od, lstOf_fzK, lstOf_fzT, app_frz_nd, nh_dK, nh_dT, rtv_nd, rtS_od, set_nd, app_dnewK, app_dnewT, app_fld, fldV_fz, fldV_bw, fldS_oi, fldS_fz, app_fldK, fldG_some, app_sfld, sfldK_oi, app_make, app_outI, outIK_ok, outIK_err, app_meth, methO_fz, app_prop, propO_fz, app_callK, app_xis2, xis2K_xc, app_lc2, boolP, max2P, min2P, divmodP, insertP, sortK, sortedP, reprP, dicP, gotK, keyK, keyA, keyT, getZ, setZ, putZk, putZd, mixK, List.any_nil, List.any_cons, List.flatMap_cons, List.flatMap_nil, List.drop_zero, List.drop_succ_cons, List.take_succ_cons, List.take_zero, app_bm, isLst_lst, bmK_bw, bmS_ow, app_index, app_draw, drawK_hand, app_sl, app_part, partK_int, app_isi2, app_rg1, rg1K_f, rg1K_t, app_rg2, rg2K_f, rg2K_t, app_rng1, rng1K_int, app_rng2, rng2K_int, app_seqS, items_lst, items_tup, app_enum1, app_for, app_lc, wipe_nil, wipe_cons, app_raise, app_raise0, app_try, tryK_val, tryK_exc, hdM_nil, hdM_some, hdM_none, app_xf, xfK_xc, xfL_some, app_xis, xisK_xc, app_aug, app_par, parK_two, endK_nx, endK_rt, endK_exc, wp_ret, wp_need, wp_stuck, wp_draw, wp_ite, wp_bindO, afterO_val, afterO_exc, stepP_nx, stepP_ct, stepP_bk, stepP_rt, stepP_exc, testP_t, testP_f, testP_b, eltP_fz, eltP_ow, eltP_nd, tstP_b, wp_bindO, app_den, app_noExc, noK_ok, p2I, p2C, subP, L4.ltP, leP, gtP, geP, fdivP, modP, powP, shlP, shrP, bandP, borP, bxorP, addP, mulP, eqP, neP, isNonD, isNP, notNP, isBlD, isBP, negP, invP, itP, ixP, lenP, int1P, absP, listP, tupleP, sumK, sumP, anyK, anyP, allP, mxK, maxP, minP, tyB, basicD, blK, isiP, orO, slP, appendP, extendP, popK, popAt, popAtP, popL, popP, reverseP, clearP, natK, indexP, inP, ninP, truV, cleanK, bareK, noXc, subs, subRow, List.lookup, List.map_cons, List.map_nil, List.nil_append, List.cons_append, List.length_cons, List.length_nil, List.replicate_succ, List.replicate_zero, Nat.reduceSub, Nat.reduceAdd, Nat.zero_add, List.getElem?_cons_zero, List.getElem?_cons_succ, List.getElem?_nil, List.set_cons_zero, List.set_cons_succ, List.append_nil, if_true, if_false, ite_true, ite_false, Bool.false_eq_true, Bool.not_true, Bool.not_false, decide_eq_true_eq, Bool.not_eq_true', decide_eq_false_iff_not, true_and, and_true, Bool.true_eq_false, reduceIte, reduceCtorEq, Bool.or_true, Bool.or_false, Bool.true_or, Bool.false_or, Bool.and_true, Bool.and_false, Bool.true_and, Bool.false_and, not_true_eq_false, not_false_eq_true, List.zip_cons_cons, List.zip_nil_left, List.zip_nil_right, List.reverse_cons, List.reverse_nil, List.getD_cons_zero, List.getD_cons_succ, String.reduceEq])
theorem seqIx_nat {n k : Nat} (h : k < n) : seqIndex? (k : Int) n = some k := by
  unfold seqIndex?
  simp
  omega
theorem perm_erase {α : Type} {xs : List α} {k : Nat} {d : α} (h : xs[k]? = some d) : (d :: xs.eraseIdx k).Perm xs := by
  induction xs generalizing k with
  | nil => cases h
  | cons x xs ih =>
    cases k with
    | zero => cases h; exact .refl _
    | succ k => exact ((List.Perm.swap x d (xs.eraseIdx k)).trans (.cons x (ih h)))
theorem shuf_body {x0 : PV} {left told : List PV} {y i : PV} {z : Sl} {E : Out Fl → Prop} {J : S4 → Prop} (l0 : 0 < left.length) (hl : told.length + left.length ≤ 100000) (hh : ∀ x ∈ left, x.nh = true)
    (h : ∀ (k : Nat) (hk : k < left.length) z, J [.fz .hand, .fz x0, .ow (left.eraseIdx k), .ow (told ++ [left[k]]), z]) :
    Wp (bindO (setM 4 (.fz i) [.fz .hand, .fz x0, .ow left, .ow told, z]) fun _ => B1_law_shuffled) (stepP E J) := by
  unfold B1_law_shuffled
  walk_at "ev"
  refine ⟨⟨by omega, by omega⟩, fun r r0 r1 => ⟨⟨by omega, by omega⟩, ?_⟩⟩
  obtain ⟨k, rfl⟩ := Int.eq_ofNat_of_zero_le r0
  have hk : k < left.length := by omega
  rw [seqIx_nat hk]
  walk_at "ev"
  rw [List.getElem?_eq_getElem hk]
  have n1 := hh left[k] (List.getElem_mem _)
  walk_at "ev"
  rw [if_pos n1]
  refine ⟨by omega, ?_⟩
  exact h k hk _
theorem shuf_loop {N : Nat} {x0 : PV} {E : Out Fl → Prop} (hN : N ≤ 100000) (is : List PV) : ∀ (left told : List PV) (y : Sl), is.length = left.length → told.length + left.length ≤ N → (∀ x ∈ left, x.nh = true) →
    (∀ told' y, told'.Perm (told ++ left) → E (.val .nx [.fz .hand, .fz x0, .ow [], .ow told', y])) →
    Wp (forL (setM 4) B1_law_shuffled is [.fz .hand, .fz x0, .ow left, .ow told, y]) E := by
  induction is with
  | nil =>
    intro left told y l _ _ h
    cases left with
    | nil => exact wp_forL_nil (h told y (by rw [List.append_nil]))
    | cons a b => simp at l
  | cons i is ih =>
    intro left told y l hl hh h
    rw [List.length_cons] at l
    refine wp_forL_cons (shuf_body (y := .non) (by omega) (by omega) hh fun k hk z => ?_)
    have le : (left.eraseIdx k).length = left.length - 1 := List.length_eraseIdx_of_lt hk
    refine ih (left.eraseIdx k) (told ++ [left[k]]) _ (by omega) (by rw [List.length_append, List.length_singleton]; omega) (fun x hx => hh x (List.mem_of_mem_eraseIdx hx)) fun told' y p => h told' y (p.trans ?_)
    rw [List.append_assoc]
    exact .append (.refl _) (perm_erase (List.getElem?_eq_getElem hk))
theorem shuffled_wp {xs : List PV} {E : Except Xc Rv → Prop} (hl : xs.length ≤ 100000) (hh : ∀ x ∈ xs, x.nh = true) (h : ∀ ys, ys.Perm xs → E (.ok (.ow ys))) : Wp (den_law_shuffled [.hand, .lst xs]) E := by
  (simp only [den_law_shuffled, F_law_shuffled]; try walk_at "ev")
  refine ⟨by decide, ⟨by omega, by omega⟩, ?_⟩
  rw [wp_bindT, wp_bindO]
  refine shuf_loop (N := 100000) (Nat.le_refl _) (rgD 0 (xs.length : Int)) xs [] _ (by unfold rgD; rw [List.length_map, List.length_range]; omega) (by rw [List.length_nil]; omega) hh fun told y p => ?_
  walk_at "ev"
  exact h told p
theorem seq_wp {xs : List PV} {E : Except Xc Rv → Prop} (h1 : E (.ok (.ow xs))) (h2 : E (.ok (.fz (.tup xs)))) : Wp (den_law_seq [.hand, .lst xs]) E := by
  (simp only [den_law_seq, F_law_seq]; try walk_at "ev")
  refine ⟨⟨by decide, by decide⟩, fun r r0 r1 => ⟨⟨⟨rfl, Nat.le_of_ble_eq_true rfl⟩, ⟨rfl, by decide⟩⟩, ?_⟩⟩
  split
  · exact h1
  · exact h2
def flatB : PV → Bool
  | .non => true
  | .bl _ => true
  | .int _ => true
  | .str s => PySem.PyData.strOk s
  | _ => false
theorem flat_ok {d : PV} (h : flatB d = true) : okD d := by
  cases d with
  | str s => exact ⟨h, Nat.le_of_ble_eq_true rfl⟩
  | non => exact ⟨rfl, by decide⟩
  | bl _ => exact ⟨rfl, Nat.le_of_ble_eq_true rfl⟩
  | int _ => exact ⟨rfl, Nat.le_of_ble_eq_true rfl⟩
  | _ => cases h
theorem flat_nh {d : PV} (h : flatB d = true) : d.nh = true := by cases d <;> first | rfl | cases h
theorem exact_flat {n : Nat} {d : PV} {E : Except Xc Rv → Prop} (f : flatB d = true) (h : E (.ok (.fz (.bl true)))) : Wp (denN_law_exact (n + 1) [d, d]) E := by
  have ok := flat_ok f
  have e : (denN_law_exact (n + 1)) = denOf 3 (F_law_exact (denN_law_exact n)) := rfl
  rw [e]
  cases d with
  | non => (simp only [F_law_exact]; try walk_at "ev")
           exact h
  | bl b => cases b <;> ((simp only [F_law_exact]; try walk_at "ev"); exact h)
  | int i => (simp only [F_law_exact]; try walk_at "ev")
             refine ⟨⟨ok, ok⟩, ?_⟩
             rw [show PV.eqv (.int i) (.int i) = true from by show (i == i) = true; simp]
             exact h
  | str s => (simp only [F_law_exact]; try walk_at "ev")
             refine ⟨⟨ok, ok⟩, ?_⟩
             rw [show PV.eqv (.str s) (.str s) = true from by show (s == s) = true; simp]
             exact h
  | _ => cases f
theorem exact_flats {n : Nat} {ds : List PV} {E : Except Xc Rv → Prop} (f : ∀ d ∈ ds, flatB d = true) (l : ds.length ≤ 1000) (h : E (.ok (.fz (.bl true)))) : Wp (denN_law_exact (n + 2) [.tup ds, .tup ds]) E := by
  have e : (denN_law_exact (n + 2)) = denOf 3 (F_law_exact (denN_law_exact (n + 1))) := rfl
  rw [e]
  have okI : okD (.int (ds.length : Nat)) := ⟨rfl, Nat.le_of_ble_eq_true rfl⟩
  (simp only [F_law_exact]; try walk_at "ev")
  refine ⟨⟨okI, okI⟩, ?_⟩
  rw [show PV.eqv (.int (ds.length : Nat)) (.int (ds.length : Nat)) = true from by show ((ds.length : Int) == _) = true; simp, if_neg (by simp)]
  refine ⟨by omega, ?_⟩
  simp only [wp_bindT, wp_bindO]
  refine wp_lcL (fun k s acc => s = [.fz (.tup ds), .fz (.tup ds), .no] ∧ acc = []) (k := 0) (acc := []) (Nat.le_refl _) (by unfold rgD; rw [List.length_map, List.length_range]; omega) ⟨rfl, rfl⟩ ?_ ?_
  · rintro i d s acc e1 ⟨rfl, rfl⟩
    rw [rgD_nat, List.getElem?_map] at e1
    obtain ⟨j, e2, rfl⟩ := Option.map_eq_some_iff.mp e1
    have hi : i < ds.length := by have := (List.getElem?_eq_some_iff.mp e2).1; rwa [List.length_range] at this
    obtain rfl : j = i := by rw [List.getElem?_range hi] at e2; exact (Option.some.inj e2).symm
    have e3 : ds[j]? = some ds[j] := List.getElem?_eq_getElem hi
    have f2 := f ds[j] (List.getElem_mem _)
    have f3 : ds[j].nh = true := flat_nh f2
    walk_at "ev"
    simp only [atI_nat, e3]
    walk_at "ev"
    simp only [atI_nat, e3]
    walk_at "ev"
    simp only [wp_bindT]
    refine exact_flat f2 ?_
    walk_at "ev"
  · rintro s acc ⟨rfl, rfl⟩
    walk_at "ev"
    exact ⟨by decide, ⟨⟨rfl, by decide⟩, ⟨rfl, by decide⟩⟩, h⟩
end LW
namespace LW
open PySem PySem.Spec PyProof.Rows L2 L3 L4
local macro_rules | `(tactic| walk_at "ev") => `(tactic| simp only [bindO_val, bindO_exc, bindO_need, bindO_stuck, bindO_draw, bindO_ite, bind_ret, bind_need, bind_stuck, bind_draw, bind_ite, app_bind, app_ret, app_stuck, app_lift, app_ite, app_setl, stl_fz, stl_bw, stl_ow, app_var, varK_fz, varK_ow, app_vw_fz, app_vw_bw, bwV_some, lstOf_ow, lstOf_fz, app_frz_fz, app_frz_ow, app_frz_bw, app_frzD, nh_non, nh_bl, nh_int, nh_str, nh_tup, nh_lst, nh_ins, nh_ty, nh_cls, app_op, app_un, app_cb, app_vwA_nil, app_vwA_cons, app_frzA_nil, app_frzA_cons, app_frzC_nil, app_frzC_cons, app_liftR, fv_fz, fv_ow, app_tup, app_lst, app_call, app_out, outK_ok, outK_err, noK_ok, app_test, testK_bl, app_and, app_or, app_not, app_tru, app_iteM, app_blM, app_andT, app_orT, app_notT, app_chain, chainK_bl, app_seq, seqK_nx, seqK_rt, seqK_bk, seqK_ct, app_asg, app_rt, rtv_fz, rtv_ow, rtv_bw, rtS_ow, rtS_fz, app_drop, set_fz, set_ow, set_bw, app_tupTg, tupTK_tup, app_tgs_nil, app_tgs_cons, app_store, storeK_bw, stS_ow, stN_some, stS_K, stS_T, stK_some, stT_some, stl_nd, varK_oi, varK_od, lstOf_od, lstOf_fzK, lstOf_fzT, app_frz_nd, nh_dK, nh_dT, rtv_nd, rtS_od, set_nd, app_dnewK, app_dnewT, app_fld, fldV_fz, fldV_bw, fldS_oi, fldS_fz, app_fldK, fldG_some, app_sfld, sfldK_oi, app_make, app_outI, outIK_ok, outIK_err, app_meth, methO_fz, app_prop, propO_fz, app_callK, app_xis2, xis2K_xc, app_lc2, boolP, max2P, min2P, divmodP, insertP, sortK, sortedP, reprP, dicP, gotK, keyK, keyA, keyT, getZ, setZ, putZk, putZd, mixK, List.any_nil, List.any_cons, List.flatMap_cons, List.flatMap_nil, List.drop_zero, List.drop_succ_cons, List.take_succ_cons, List.take_zero, app_bm, isLst_lst, bmK_bw, bmS_ow, app_index, app_draw, drawK_hand, app_sl, app_part, partK_int, app_isi2, app_rg1, rg1K_f, rg1K_t, app_rg2, rg2K_f, rg2K_t, app_rng1, rng1K_int, app_rng2, rng2K_int, app_seqS, items_lst, items_tup, app_enum1, app_for, app_lc, wipe_nil, wipe_cons, app_raise, app_raise0, app_try, tryK_val, tryK_exc, hdM_nil, hdM_some, hdM_none, app_xf, xfK_xc, xfL_some, app_xis, xisK_xc, app_aug, app_par, parK_two, endK_nx, endK_rt, endK_exc, wp_ret, wp_need, wp_stuck, wp_draw, wp_ite, wp_bindO, afterO_val, afterO_exc, stepP_nx, stepP_ct, stepP_bk, stepP_rt, stepP_exc, testP_t, testP_f, testP_b, eltP_fz, eltP_ow, eltP_nd, tstP_b, wp_bindO, app_den, app_noExc, noK_ok, p2I, p2C, subP, L4.ltP, leP, gtP, geP, fdivP, modP, powP, shlP, shrP, bandP, borP, bxorP, addP, mulP, eqP, neP, isNonD, isNP, notNP, isBlD, isBP, negP, invP, itP, ixP, lenP, int1P, absP, listP, tupleP, sumK, sumP, anyK, anyP, allP, mxK, maxP, minP, tyB, basicD, blK, isiP, orO, slP, appendP, extendP, popK, popAt, popAtP, popL, popP, reverseP, clearP, natK, indexP, inP, ninP, truV, cleanK, bareK, noXc, subs, subRow, List.lookup, List.map_cons, List.map_nil, List.nil_append, List.cons_append, List.length_cons, List.length_nil, List.replicate_succ, List.replicate_zero, Nat.reduceSub, Nat.reduceAdd, Nat.zero_add, List.getElem?_cons_zero, List.getElem?_cons_succ, List.getElem?_nil, List.set_cons_zero, List.set_cons_succ, List.append_nil, if_true, if_false, ite_true, ite_false, Bool.false_eq_true, Bool.not_true, Bool.not_false, decide_eq_true_eq, Bool.not_eq_true', decide_eq_false_iff_not, true_and, and_true, Bool.true_eq_false, reduceIte, reduceCtorEq, Bool.or_true, Bool.or_false, Bool.true_or, Bool.false_or, Bool.and_true, Bool.and_false, Bool.true_and, Bool.false_and, not_true_eq_false, not_false_eq_true, List.zip_cons_cons, List.zip_nil_left, List.zip_nil_right, List.reverse_cons, List.reverse_nil, List.getD_cons_zero, List.getD_cons_succ, String.reduceEq])
def belowQ (n : Nat) (qs : List (Nat × Nat)) : Prop := ∀ q ∈ qs, q.1 < n ∧ q.2 < n
theorem belowQ.add {n i j : Nat} {qs : List (Nat × Nat)} (h : belowQ n qs) (hi : i < n) (hj : j < n) : belowQ n (qs ++ [(i, j)]) := fun q hq => by
  rcases List.mem_append.mp hq with z | z
  · exact h q z
  · rw [List.mem_singleton.mp z]; exact ⟨hi, hj⟩
theorem pairs_add {i j : Nat} {qs : List (Nat × Nat)} : qs.map pairT ++ [.tup [.int (i : Nat), .int (j : Nat)]] = (qs ++ [(i, j)]).map pairT := by rw [List.map_append]; rfl
theorem pairT_ok {n : Nat} {qs : List (Nat × Nat)} (h : belowQ n qs) (n2 : n ≤ 24) : okD (.lst (qs.map pairT)) := by
  have a : ShowOkA 1 ((qs.map pairT).length * (2 + 1)) (qs.map pairT) := ShowOkA.all fun p hp => by
    obtain ⟨q, hq, rfl⟩ := List.mem_map.mp hp
    have := h q hq
    have s := ShowOkA.cons (d := 0) (k := 0) (p := .int (q.1 : Nat)) (.int (by omega)) (ShowOkA.cons (k := 0) (p := .int (q.2 : Nat)) (.int (by omega)) (ShowOkA.nil (k := 0)))
    exact s.tup
  exact a.lst.okD (by decide)
/-- n numbers below n -/
def namesP (n : Nat) (xs : List PV) : Prop := xs.length = n ∧ ∀ x ∈ xs, ∃ i : Nat, i < n ∧ x = .int i
theorem namesP.at {n a : Nat} {xs : List PV} (h : namesP n xs) (ha : a < n) : ∃ i : Nat, i < n ∧ atI xs (a : Int) = some (.int i) := by
  have e : xs[a]? = some (xs[a]'(by rw [h.1]; exact ha)) := List.getElem?_eq_getElem _
  obtain ⟨i, hi, e2⟩ := h.2 _ (List.getElem_mem (by rw [h.1]; exact ha))
  exact ⟨i, hi, by rw [atI_nat, e, e2]⟩
theorem order_in {n most way yy : Nat} {xs : List PV} {E : Out Fl → Prop} (hx : namesP n xs) (hy : yy < n) (n2 : n ≤ 24) : ∀ (is : List Nat) (qs : List (Nat × Nat)) (z : Sl), (∀ i ∈ is, i < n) → belowQ n qs → qs.length + is.length ≤ 1000 →
    (∀ qs' z, belowQ n qs' → qs'.length ≤ qs.length + is.length → E (.val .nx [.fz .hand, .fz (.int most), .fz (.int n), .fz (.int way), .ow xs, .ow (qs'.map pairT), .fz (.int yy), z])) →
    Wp (forL (setM 7) B1_law_order (is.map intN) [.fz .hand, .fz (.int most), .fz (.int n), .fz (.int way), .ow xs, .ow (qs.map pairT), .fz (.int yy), z]) E
  | [], qs, z, _, hq, _, h => wp_forL_nil (h qs z hq (Nat.le_refl _))
  | i :: is, qs, z, hi, hq, hl, h => by
    rw [List.length_cons] at hl
    refine wp_forL_cons ?_
    unfold B1_law_order intN
    walk_at "ev"
    refine ⟨⟨by decide, by decide⟩, fun r r0 r1 => ⟨⟨okI, okI⟩, ?_⟩⟩
    obtain ⟨a, ha, e1⟩ := hx.at (hi i List.mem_cons_self)
    obtain ⟨b, hb, e2⟩ := hx.at hy
    split
    · simp only [e1, e2]
      walk_at "ev"
      simp only [e1, e2]
      walk_at "ev"
      refine ⟨by decide, by rw [List.length_map]; omega, ?_⟩
      rw [pairs_add]
      exact order_in hx hy n2 is _ _ (fun i z => hi i (List.mem_cons_of_mem _ z)) (hq.add ha hb) (by rw [List.length_append, List.length_singleton]; omega) fun qs' z h1 h2 => h qs' z h1 (by rw [List.length_append, List.length_singleton] at h2; rw [List.length_cons]; omega)
    · exact order_in hx hy n2 is qs _ (fun i z => hi i (List.mem_cons_of_mem _ z)) hq (by omega) fun qs' z h1 h2 => h qs' z h1 (by rw [List.length_cons]; omega)
theorem order_y {n most way m : Nat} {xs : List PV} {qs : List (Nat × Nat)} {u v : Sl} {E : Out Fl → Prop} {J : S4 → Prop} (hx : namesP n xs) (n2 : n ≤ 24) (hm : m < n) (h2m : 2 ≤ m) (hq : belowQ n qs) (hl : qs.length ≤ 600)
    (h : ∀ qs' v, belowQ n qs' → qs'.length ≤ qs.length + 26 → J [.fz .hand, .fz (.int most), .fz (.int n), .fz (.int way), .ow xs, .ow (qs'.map pairT), .fz (.int m), v]) :
    Wp (bindO (setM 6 (.fz (.int m)) [.fz .hand, .fz (.int most), .fz (.int n), .fz (.int way), .ow xs, .ow (qs.map pairT), u, v]) fun _ => B2_law_order) (stepP E J) := by
  unfold B2_law_order
  walk_at "ev"
  refine ⟨⟨okI, okI⟩, ?_⟩
  obtain ⟨a, ha, eA⟩ := hx.at (show m - 1 < n by omega)
  obtain ⟨b, hbb, eB⟩ := hx.at hm
  have em : ((m : Int) - 1) = ((m - 1 : Nat) : Int) := by omega
  rw [em]
  have hq2 := hq.add ha hbb
  split
  · skip
    simp only [eA]
    walk_at "ev"
    simp only [eB]
    walk_at "ev"
    refine ⟨by decide, by first | omega | (simp only [List.length_append, List.length_singleton, List.length_range', List.length_map] at *; omega), ?_⟩
    rw [pairs_add]
    have hcur := hq2
    refine ⟨⟨okI, okI⟩, ?_⟩
    split
    · skip
      refine ⟨⟨by omega, by omega⟩, fun r r0 r1 => ?_⟩
      obtain ⟨rr, rfl⟩ := Int.eq_ofNat_of_zero_le r0
      obtain ⟨c, hc, eC⟩ := hx.at (show rr < n by omega)
      have hq3 := hcur.add hc hbb
      simp only [eC]
      walk_at "ev"
      simp only [eB]
      walk_at "ev"
      refine ⟨by decide, by first | omega | (simp only [List.length_append, List.length_singleton, List.length_range', List.length_map] at *; omega), ?_⟩
      rw [pairs_add]
      split
      · refine ⟨by omega, ?_⟩
        rw [rgD_1]
        refine order_in hx hm n2 (List.range' 1 (m - 1)) _ _ (fun i z => by have := List.mem_range'_1.mp z; omega) (by assumption) (by first | omega | (simp only [List.length_append, List.length_singleton, List.length_range', List.length_map] at *; omega)) fun qs' z h1 h2 => ?_
        exact h qs' _ h1 (by first | omega | (simp only [List.length_append, List.length_singleton, List.length_range', List.length_map] at *; omega))
      · exact h _ _ (by assumption) (by first | omega | (simp only [List.length_append, List.length_singleton, List.length_range', List.length_map] at *; omega))
    · refine ⟨⟨okI, okI⟩, ?_⟩
      split
      · skip
        refine ⟨⟨by omega, by omega⟩, fun r r0 r1 => ?_⟩
        obtain ⟨rr, rfl⟩ := Int.eq_ofNat_of_zero_le r0
        obtain ⟨c, hc, eC⟩ := hx.at (show rr < n by omega)
        have hq3 := hcur.add hc hbb
        simp only [eC]
        walk_at "ev"
        simp only [eB]
        walk_at "ev"
        refine ⟨by decide, by first | omega | (simp only [List.length_append, List.length_singleton, List.length_range', List.length_map] at *; omega), ?_⟩
        rw [pairs_add]
        split
        · refine ⟨by omega, ?_⟩
          rw [rgD_1]
          refine order_in hx hm n2 (List.range' 1 (m - 1)) _ _ (fun i z => by have := List.mem_range'_1.mp z; omega) (by assumption) (by first | omega | (simp only [List.length_append, List.length_singleton, List.length_range', List.length_map] at *; omega)) fun qs' z h1 h2 => ?_
          exact h qs' _ h1 (by first | omega | (simp only [List.length_append, List.length_singleton, List.length_range', List.length_map] at *; omega))
        · exact h _ _ (by assumption) (by first | omega | (simp only [List.length_append, List.length_singleton, List.length_range', List.length_map] at *; omega))
      · skip
        split
        · refine ⟨by omega, ?_⟩
          rw [rgD_1]
          refine order_in hx hm n2 (List.range' 1 (m - 1)) _ _ (fun i z => by have := List.mem_range'_1.mp z; omega) (by assumption) (by first | omega | (simp only [List.length_append, List.length_singleton, List.length_range', List.length_map] at *; omega)) fun qs' z h1 h2 => ?_
          exact h qs' _ h1 (by first | omega | (simp only [List.length_append, List.length_singleton, List.length_range', List.length_map] at *; omega))
        · exact h _ _ (by assumption) (by first | omega | (simp only [List.length_append, List.length_singleton, List.length_range', List.length_map] at *; omega))
  · have hcur := hq
    refine ⟨⟨okI, okI⟩, ?_⟩
    split
    · skip
      refine ⟨⟨by omega, by omega⟩, fun r r0 r1 => ?_⟩
      obtain ⟨rr, rfl⟩ := Int.eq_ofNat_of_zero_le r0
      obtain ⟨c, hc, eC⟩ := hx.at (show rr < n by omega)
      have hq3 := hcur.add hc hbb
      simp only [eC]
      walk_at "ev"
      simp only [eB]
      walk_at "ev"
      refine ⟨by decide, by first | omega | (simp only [List.length_append, List.length_singleton, List.length_range', List.length_map] at *; omega), ?_⟩
      rw [pairs_add]
      split
      · refine ⟨by omega, ?_⟩
        rw [rgD_1]
        refine order_in hx hm n2 (List.range' 1 (m - 1)) _ _ (fun i z => by have := List.mem_range'_1.mp z; omega) (by assumption) (by first | omega | (simp only [List.length_append, List.length_singleton, List.length_range', List.length_map] at *; omega)) fun qs' z h1 h2 => ?_
        exact h qs' _ h1 (by first | omega | (simp only [List.length_append, List.length_singleton, List.length_range', List.length_map] at *; omega))
      · exact h _ _ (by assumption) (by first | omega | (simp only [List.length_append, List.length_singleton, List.length_range', List.length_map] at *; omega))
    · refine ⟨⟨okI, okI⟩, ?_⟩
      split
      · skip
        refine ⟨⟨by omega, by omega⟩, fun r r0 r1 => ?_⟩
        obtain ⟨rr, rfl⟩ := Int.eq_ofNat_of_zero_le r0
        obtain ⟨c, hc, eC⟩ := hx.at (show rr < n by omega)
        have hq3 := hcur.add hc hbb
        simp only [eC]
        walk_at "ev"
        simp only [eB]
        walk_at "ev"
        refine ⟨by decide, by first | omega | (simp only [List.length_append, List.length_singleton, List.length_range', List.length_map] at *; omega), ?_⟩
        rw [pairs_add]
        split
        · refine ⟨by omega, ?_⟩
          rw [rgD_1]
          refine order_in hx hm n2 (List.range' 1 (m - 1)) _ _ (fun i z => by have := List.mem_range'_1.mp z; omega) (by assumption) (by first | omega | (simp only [List.length_append, List.length_singleton, List.length_range', List.length_map] at *; omega)) fun qs' z h1 h2 => ?_
          exact h qs' _ h1 (by first | omega | (simp only [List.length_append, List.length_singleton, List.length_range', List.length_map] at *; omega))
        · exact h _ _ (by assumption) (by first | omega | (simp only [List.length_append, List.length_singleton, List.length_range', List.length_map] at *; omega))
      · skip
        split
        · refine ⟨by omega, ?_⟩
          rw [rgD_1]
          refine order_in hx hm n2 (List.range' 1 (m - 1)) _ _ (fun i z => by have := List.mem_range'_1.mp z; omega) (by assumption) (by first | omega | (simp only [List.length_append, List.length_singleton, List.length_range', List.length_map] at *; omega)) fun qs' z h1 h2 => ?_
          exact h qs' _ h1 (by first | omega | (simp only [List.length_append, List.length_singleton, List.length_range', List.length_map] at *; omega))
        · exact h _ _ (by assumption) (by first | omega | (simp only [List.length_append, List.length_singleton, List.length_range', List.length_map] at *; omega))
theorem order_ys {n most way : Nat} {xs : List PV} {E : Out Fl → Prop} (hx : namesP n xs) (n2 : n ≤ 24) : ∀ (ms : List Nat) (qs : List (Nat × Nat)) (u v : Sl), (∀ i ∈ ms, 2 ≤ i ∧ i < n) → belowQ n qs → qs.length + 26 * ms.length ≤ 600 →
    (∀ qs' u v, belowQ n qs' → qs'.length ≤ qs.length + 26 * ms.length → E (.val .nx [.fz .hand, .fz (.int most), .fz (.int n), .fz (.int way), .ow xs, .ow (qs'.map pairT), u, v])) →
    Wp (forL (setM 6) B2_law_order (ms.map intN) [.fz .hand, .fz (.int most), .fz (.int n), .fz (.int way), .ow xs, .ow (qs.map pairT), u, v]) E
  | [], qs, u, v, _, hq, _, h => wp_forL_nil (h qs u v hq (Nat.le_refl _))
  | m :: ms, qs, u, v, hb, hq, hl, h => by
    rw [List.length_cons] at hl h
    refine wp_forL_cons (order_y hx n2 (hb m List.mem_cons_self).2 (hb m List.mem_cons_self).1 hq (by omega) fun qs' v h1 h2 => ?_)
    exact order_ys hx n2 ms qs' _ _ (fun i z => hb i (List.mem_cons_of_mem _ z)) h1 (by omega) fun q2 u v h3 h4 => h q2 u v h3 (by omega)
theorem order_wp {most : Nat} {E : Except Xc Rv → Prop} (m1 : 2 ≤ most) (m2 : most ≤ 24) (h : ∀ (n : Nat) qs b, 2 ≤ n → n ≤ 24 → belowQ n qs → qs.length ≤ 600 → PV.nh b = true → E (.ok (.fz (.tup [.int n, .lst (qs.map pairT), b])))) : Wp (den_law_order [.hand, .int most]) E := by
  (simp only [den_law_order, F_law_order]; try walk_at "ev")
  refine ⟨⟨by omega, by omega⟩, fun r r0 r1 => ⟨⟨by decide, by decide⟩, fun w w0 w1 => ⟨by decide, ⟨by omega, by omega, by omega, by omega⟩, ?_⟩⟩⟩
  obtain ⟨n, hn⟩ : ∃ n : Nat, 2 + r = n := ⟨(2 + r).toNat, by omega⟩
  obtain ⟨way, rfl⟩ := Int.eq_ofNat_of_zero_le w0
  have n1 : 2 ≤ n := by omega
  have n2 : n ≤ 24 := by omega
  rw [hn, rgD_1]
  simp only [wp_bindT, wp_bindO]
  refine wp_lcL_map intN intN _ _ _ (by rw [List.length_nil, List.length_range']; omega) (fun i hi J N h => ?_) ?_
  · unfold intN
    walk_at "ev"
    exact h
  walk_at "ev"
  simp only [wp_bindT]
  refine shuffled_wp (by rw [List.length_map, List.length_range']; omega) (fun x hx => ?_) fun ys p => ?_
  · obtain ⟨i, _, rfl⟩ := List.mem_map.mp hx
    rfl
  have hN : namesP n (PV.int 0 :: ys) := by
    refine ⟨?_, fun x hx => ?_⟩
    · rw [List.length_cons, p.length_eq, List.length_map, List.length_range']; omega
    · rcases List.mem_cons.mp hx with rfl | hx
      · exact ⟨0, by omega, rfl⟩
      · obtain ⟨i, hi, rfl⟩ := List.mem_map.mp (p.mem_iff.mp hx)
        have := List.mem_range'_1.mp hi
        exact ⟨i, by omega, rfl⟩
  walk_at "ev"
  refine ⟨by have := hN.1; rw [List.length_cons] at this; omega, ?_⟩
  refine ⟨by omega, ?_⟩
  rw [rgD_1]
  refine wp_lcL_map intN (fun i => pairT (0, i)) _ _ _ (by rw [List.length_nil, List.length_range']; omega) (fun i hi J N h => ?_) ?_
  · unfold intN
    walk_at "ev"
    exact ⟨by decide, h⟩
  walk_at "ev"
  refine ⟨by omega, ?_⟩
  rw [rgD_2]
  have e0 : (List.range' 1 (n - 1)).map (fun i => pairT (0, i)) = ((List.range' 1 (n - 1)).map fun i => (0, i)).map pairT := by rw [List.map_map]; rfl
  rw [e0]
  refine order_ys hN n2 (List.range' 2 (n - 2)) _ _ _ (fun i z => by have := List.mem_range'_1.mp z; omega) (fun q hq => ?_) (by rw [List.length_map, List.length_range', List.length_range']; omega) fun qs u v h1 h2 => ?_
  · obtain ⟨i, hi, rfl⟩ := List.mem_map.mp hq
    have := List.mem_range'_1.mp hi
    exact ⟨by show 0 < n; omega, by show i < n; omega⟩
  rw [List.length_map, List.length_range', List.length_range'] at h2
  walk_at "ev"
  unfold den_law_closed
  walk_at "ev"
  exact ⟨⟨by omega, by omega, pairT_ok h1 n2⟩, by decide, h n qs _ n1 n2 h1 (by omega) rfl⟩
end LW
namespace LW
open PySem PySem.Spec PyProof.Rows L2 L3 L4
local macro_rules | `(tactic| walk_at "ev") => `(tactic| simp only [bindO_val, bindO_exc, bindO_need, bindO_stuck, bindO_draw, bindO_ite, bind_ret, bind_need, bind_stuck, bind_draw, bind_ite, app_bind, app_ret, app_stuck, app_lift, app_ite, app_setl, stl_fz, stl_bw, stl_ow, app_var, varK_fz, varK_ow, app_vw_fz, app_vw_bw, bwV_some, lstOf_ow, lstOf_fz, app_frz_fz, app_frz_ow, app_frz_bw, app_frzD, nh_non, nh_bl, nh_int, nh_str, nh_tup, nh_lst, nh_ins, nh_ty, nh_cls, app_op, app_un, app_cb, app_vwA_nil, app_vwA_cons, app_frzA_nil, app_frzA_cons, app_frzC_nil, app_frzC_cons, app_liftR, fv_fz, fv_ow, app_tup, app_lst, app_call, app_out, outK_ok, outK_err, noK_ok, app_test, testK_bl, app_and, app_or, app_not, app_tru, app_iteM, app_blM, app_andT, app_orT, app_notT, app_chain, chainK_bl, app_seq, seqK_nx, seqK_rt, seqK_bk, seqK_ct, app_asg, app_rt, rtv_fz, rtv_ow, rtv_bw, rtS_ow, rtS_fz, app_drop, set_fz, set_ow, set_bw, app_tupTg, tupTK_tup, app_tgs_nil, app_tgs_cons, app_store, storeK_bw, stS_ow, stN_some, stS_K, stS_T, stK_some, stT_some, stl_nd, varK_oi, varK_od, lstOf_od, lstOf_fzK, lstOf_fzT, app_frz_nd, nh_dK, nh_dT, rtv_nd, rtS_od, set_nd, app_dnewK, app_dnewT, app_fld, fldV_fz, fldV_bw, fldS_oi, fldS_fz, app_fldK, fldG_some, app_sfld, sfldK_oi, app_make, app_outI, outIK_ok, outIK_err, app_meth, methO_fz, app_prop, propO_fz, app_callK, app_xis2, xis2K_xc, app_lc2, boolP, max2P, min2P, divmodP, insertP, sortK, sortedP, reprP, dicP, gotK, keyK, keyA, keyT, getZ, setZ, putZk, putZd, mixK, List.any_nil, List.any_cons, List.flatMap_cons, List.flatMap_nil, List.drop_zero, List.drop_succ_cons, List.take_succ_cons, List.take_zero, app_bm, isLst_lst, bmK_bw, bmS_ow, app_index, app_draw, drawK_hand, app_sl, app_part, partK_int, app_isi2, app_rg1, rg1K_f, rg1K_t, app_rg2, rg2K_f, rg2K_t, app_rng1, rng1K_int, app_rng2, rng2K_int, app_seqS, items_lst, items_tup, app_enum1, app_for, app_lc, wipe_nil, wipe_cons, app_raise, app_raise0, app_try, tryK_val, tryK_exc, hdM_nil, hdM_some, hdM_none, app_xf, xfK_xc, xfL_some, app_xis, xisK_xc, app_aug, app_par, parK_two, endK_nx, endK_rt, endK_exc, wp_ret, wp_need, wp_stuck, wp_draw, wp_ite, wp_bindO, afterO_val, afterO_exc, stepP_nx, stepP_ct, stepP_bk, stepP_rt, stepP_exc, testP_t, testP_f, testP_b, eltP_fz, eltP_ow, eltP_nd, tstP_b, wp_bindO, app_den, app_noExc, noK_ok, p2I, p2C, subP, L4.ltP, leP, gtP, geP, fdivP, modP, powP, shlP, shrP, bandP, borP, bxorP, addP, mulP, eqP, neP, isNonD, isNP, notNP, isBlD, isBP, negP, invP, itP, ixP, lenP, int1P, absP, listP, tupleP, sumK, sumP, anyK, anyP, allP, mxK, maxP, minP, tyB, basicD, blK, isiP, orO, slP, appendP, extendP, popK, popAt, popAtP, popL, popP, reverseP, clearP, natK, indexP, inP, ninP, truV, cleanK, bareK, noXc, subs, subRow, List.lookup, List.map_cons, List.map_nil, List.nil_append, List.cons_append, List.length_cons, List.length_nil, List.replicate_succ, List.replicate_zero, Nat.reduceSub, Nat.reduceAdd, Nat.zero_add, List.getElem?_cons_zero, List.getElem?_cons_succ, List.getElem?_nil, List.set_cons_zero, List.set_cons_succ, List.append_nil, if_true, if_false, ite_true, ite_false, Bool.false_eq_true, Bool.not_true, Bool.not_false, decide_eq_true_eq, Bool.not_eq_true', decide_eq_false_iff_not, true_and, and_true, Bool.true_eq_false, reduceIte, reduceCtorEq, Bool.or_true, Bool.or_false, Bool.true_or, Bool.false_or, Bool.and_true, Bool.and_false, Bool.true_and, Bool.false_and, not_true_eq_false, not_false_eq_true, List.zip_cons_cons, List.zip_nil_left, List.zip_nil_right, List.reverse_cons, List.reverse_nil, List.getD_cons_zero, List.getD_cons_succ, String.reduceEq])
/-- an item that may be passed among the pairs -/
def itOk (p : PV) : Prop := basic2 p ∧ ShowOk 3 20 p ∧ p.nh = true ∧ strsB p = true
def isTwo (p : PV) : Prop := ∃ a b, p = .tup [a, b]
theorem itOk.two {a b : PV} (ha : basicD a = true) (hb : basicD b = true) (sa : ShowOk 2 8 a) (sb : ShowOk 2 8 b) (ta : strsB a = true) (tb : strsB b = true) : itOk (.tup [a, b]) ∧ itOk (.lst [a, b]) := by
  have s := ShowOkA.cons sa (ShowOkA.cons sb (ShowOkA.nil (k := 0)))
  have it : ∀ x ∈ [a, b], basicD x = true := fun x hx => by
    rcases List.mem_cons.mp hx with rfl | hx
    · exact ha
    · rw [List.mem_singleton.mp hx]; exact hb
  have t : strsA [a, b] = true := by
    show (strsB a && (strsB b && true)) = true
    rw [ta, tb]
    rfl
  refine ⟨⟨⟨rfl, (s.tup.okD (by decide)), fun xs e => ?_⟩, s.tup.mono (by decide) (by decide), rfl, t⟩, ⟨⟨rfl, (s.lst.okD (by decide)), fun xs e => ?_⟩, s.lst.mono (by decide) (by decide), rfl, t⟩⟩
  · cases e; exact it
  · cases e; exact it
theorem itOk.nat {i j : Nat} (hi : i ≤ 1000) (hj : j ≤ 1000) : itOk (.tup [.int (i : Nat), .int (j : Nat)]) := (itOk.two rfl rfl (.int (by omega)) (.int (by omega)) rfl rfl).1
theorem itOk.flat {p : PV} (b : basicD p = true) (h : seqItems p = none) (s : ShowOk 3 20 p) (n : p.nh = true) (t : strsB p = true) : itOk p := ⟨⟨b, s.okD (by decide), fun xs e => by rw [h] at e; cases e⟩, s, n, t⟩
/-- a list of pairs, right or wrong -/
def lsOk (m : Nat) (ps : List PV) : Prop := ps.length ≤ m ∧ ∀ p ∈ ps, itOk p
theorem lsOk.pairs {n : Nat} {qs : List (Nat × Nat)} (h : belowQ n qs) (hn : n ≤ 1000) : ∀ p ∈ qs.map pairT, itOk p ∧ isTwo p := fun p hp => by
  obtain ⟨q, hq, rfl⟩ := List.mem_map.mp hp
  exact ⟨itOk.nat (by have := (h q hq).1; omega) (by have := (h q hq).2; omega), ⟨_, _, rfl⟩⟩
theorem lsOk.put {m k : Nat} {ps : List PV} {x : PV} (h : lsOk m ps) (hx : itOk x) : lsOk (m + 1) (ps.take k ++ [x] ++ ps.drop k) := by
  refine ⟨?_, fun p hp => ?_⟩
  · rw [List.length_append, List.length_append, List.length_take, List.length_drop, List.length_singleton]
    have := h.1
    omega
  · rcases List.mem_append.mp hp with z | z
    · rcases List.mem_append.mp z with z | z
      · exact h.2 p (List.mem_of_mem_take z)
      · rw [List.mem_singleton.mp z]; exact hx
    · exact h.2 p (List.mem_of_mem_drop z)
theorem lsOk.mono {m k : Nat} {ps : List PV} (h : lsOk m ps) (hm : m ≤ k) : lsOk k ps := ⟨Nat.le_trans h.1 hm, h.2⟩
theorem len_ok {ps : List PV} {m k : Nat} (h : ps.length ≤ m) : (ps.take k).length ≤ m ∧ (ps.drop k).length ≤ m := by
  rw [List.length_take, List.length_drop]
  omega
section
variable {n m k : Nat} {ps : List PV} {w : PV} {E : Out Fl → Prop}
theorem sp1 (n2 : n ≤ 24) (hm2 : m ≤ 1000) (hp : lsOk m ps) (h : ∀ qs s, lsOk (m + 1) qs → E (.val (.rt (.ow qs)) s)) : Wp (B1_law_spoilt [.fz .hand, .fz (.int n), .fz (.lst ps), .fz w, .fz (.int k), .no, .no]) E := by
  unfold B1_law_spoilt
  walk_at "ev"
  rw [cutP_take (by omega), cutP_drop (by omega)]
  have l1 := (len_ok (k := ((k : Int)).toNat) hp.1).1
  have l2 := (len_ok (k := ((k : Int) + 1).toNat) hp.1).2
  refine ⟨by omega, h _ _ ⟨?_, fun p z => ?_⟩⟩
  · rw [List.length_append, List.length_take, List.length_drop]
    have := hp.1
    omega
  · rcases List.mem_append.mp z with z | z
    · exact hp.2 p (List.mem_of_mem_take z)
    · exact hp.2 p (List.mem_of_mem_drop z)
theorem sp2 (n1 : 1 ≤ n) (n2 : n ≤ 24) (hm2 : m ≤ 1000) (hp : lsOk m ps) (h : ∀ qs s, lsOk (m + 1) qs → E (.val (.rt (.ow qs)) s)) : Wp (B2_law_spoilt [.fz .hand, .fz (.int n), .fz (.lst ps), .fz w, .fz (.int k), .no, .no]) E := by
  unfold B2_law_spoilt
  walk_at "ev"
  refine ⟨⟨by omega, by omega⟩, fun r r0 r1 => ⟨⟨by omega, by omega⟩, fun t t0 t1 => ⟨by decide, by decide, ?_⟩⟩⟩
  obtain ⟨r, rfl⟩ := Int.eq_ofNat_of_zero_le r0
  obtain ⟨t, rfl⟩ := Int.eq_ofNat_of_zero_le t0
  rw [cutP_take (by omega), cutP_drop (by omega)]
  have l1 := (len_ok (k := ((k : Int)).toNat) hp.1)
  refine ⟨by omega, by rw [List.length_append, List.length_singleton]; omega, h _ _ (hp.put (itOk.nat (by omega) (by omega)))⟩
theorem sp3 (n2 : n ≤ 24) (hm2 : m ≤ 1000) (hp : lsOk m ps) (h : ∀ qs s, lsOk (m + 1) qs → E (.val (.rt (.ow qs)) s)) : Wp (B3_law_spoilt [.fz .hand, .fz (.int n), .fz (.lst ps), .fz w, .fz (.int k), .no, .no]) E := by
  unfold B3_law_spoilt
  walk_at "ev"
  rw [cutP_take (by omega), cutP_drop (by omega)]
  have l1 := (len_ok (k := ((k : Int)).toNat) hp.1)
  refine ⟨by decide, by decide, by omega, by rw [List.length_append, List.length_singleton]; omega, h _ _ (hp.put (itOk.nat (j := 0) (by omega) (by omega)))⟩
theorem odd6 {r : Int} (n2 : n ≤ 24) (r0 : 0 ≤ r) (r1 : r < 6) : ∃ d, atI [PV.non, PV.int (-1), PV.str (Str.ofString "1"), PV.bl true, PV.int (10 ^ Int.toNat 30), PV.int n] r = some d ∧ basicD d = true ∧ ShowOk 2 8 d ∧ d.nh = true ∧ strsB d = true := by
  rcases (by omega : r = 0 ∨ r = 1 ∨ r = 2 ∨ r = 3 ∨ r = 4 ∨ r = 5) with rfl | rfl | rfl | rfl | rfl | rfl
  · exact ⟨_, rfl, rfl, .non, rfl, rfl⟩
  · exact ⟨_, rfl, rfl, .int (by decide), rfl, rfl⟩
  · exact ⟨_, rfl, rfl, ⟨by decide +kernel, Nat.le_of_ble_eq_true rfl, rfl, by decide +kernel, by decide +kernel⟩, rfl, by decide +kernel⟩
  · exact ⟨_, rfl, rfl, .bl, rfl, rfl⟩
  · exact ⟨_, rfl, rfl, .int (by decide +kernel), rfl, rfl⟩
  · exact ⟨_, rfl, rfl, .int (by omega), rfl, rfl⟩
theorem sp4 (n1 : 1 ≤ n) (n2 : n ≤ 24) (hm2 : m ≤ 1000) (hp : lsOk m ps) (h : ∀ qs s, lsOk (m + 1) qs → E (.val (.rt (.ow qs)) s)) : Wp (B4_law_spoilt [.fz .hand, .fz (.int n), .fz (.lst ps), .fz w, .fz (.int k), .no, .no]) E := by
  unfold B4_law_spoilt
  have cp : CPow 10 30 := ⟨by decide, by decide, by decide⟩
  walk_at "ev"
  refine ⟨cp, by decide, ⟨by decide, by decide⟩, fun r r0 r1 => ?_⟩
  obtain ⟨d, e, b, sd, nh, tb⟩ := odd6 n2 r0 r1
  rw [e]
  walk_at "ev"
  rw [cutP_take (by omega), cutP_drop (by omega)]
  have l1 := (len_ok (k := ((k : Int)).toNat) hp.1)
  refine ⟨⟨by decide, by decide⟩, fun t t0 t1 => ?_⟩
  split
  · refine ⟨by decide, by decide, by omega, by rw [List.length_append, List.length_singleton]; omega, h _ _ (hp.put (itOk.two rfl b (.int (by decide)) sd rfl tb).2)⟩
  · refine ⟨by decide, by decide, by omega, by rw [List.length_append, List.length_singleton]; omega, h _ _ (hp.put (itOk.two b rfl sd (.int (by omega)) tb rfl).2)⟩
theorem odd5 {r : Int} (r0 : 0 ≤ r) (r1 : r < 6) : ∃ d, atI [PV.non, PV.int 0, PV.str (Str.ofString "01"), PV.tup [], PV.tup [PV.int 0], PV.tup [PV.int 0, PV.int 0, PV.int 0]] r = some d ∧ itOk d := by
  have z : ∀ k, ShowOk 2 k (.int 0) := fun k => .int (by decide)
  have one : ∀ xs : List PV, (∀ x ∈ xs, x = .int 0) → xs.length ≤ 3 → itOk (.tup xs) := fun xs hx hl => by
    have a : ShowOkA 2 (xs.length * (0 + 1)) xs := ShowOkA.all fun x h => by rw [hx x h]; exact z 0
    refine ⟨⟨rfl, a.tup.okD (by decide), fun ys e y hy => ?_⟩, a.tup.mono (by decide) (by omega), rfl, strsA_all fun x h => by rw [hx x h]; rfl⟩
    cases e
    rw [hx y hy]
    rfl
  rcases (by omega : r = 0 ∨ r = 1 ∨ r = 2 ∨ r = 3 ∨ r = 4 ∨ r = 5) with rfl | rfl | rfl | rfl | rfl | rfl
  · exact ⟨_, rfl, .flat rfl rfl .non rfl rfl⟩
  · exact ⟨_, rfl, .flat rfl rfl (.int (by decide)) rfl rfl⟩
  · exact ⟨_, rfl, .flat rfl rfl ⟨by decide +kernel, Nat.le_of_ble_eq_true rfl, rfl, by decide +kernel, by decide +kernel⟩ rfl (by decide +kernel)⟩
  · exact ⟨_, rfl, one _ (by simp) (by decide)⟩
  · exact ⟨_, rfl, one _ (by simp) (by decide)⟩
  · exact ⟨_, rfl, one _ (by simp) (by decide)⟩
theorem sp5 (n2 : n ≤ 24) (hm2 : m ≤ 1000) (hp : lsOk m ps) (h : ∀ qs s, lsOk (m + 1) qs → E (.val (.rt (.ow qs)) s)) : Wp (B5_law_spoilt [.fz .hand, .fz (.int n), .fz (.lst ps), .fz w, .fz (.int k), .no, .no]) E := by
  unfold B5_law_spoilt
  walk_at "ev"
  refine ⟨by decide, by decide, by decide, by decide, ⟨by decide, by decide⟩, fun r r0 r1 => ?_⟩
  obtain ⟨d, e, it⟩ := odd5 r0 r1
  have nh := it.2.2.1
  rw [e]
  walk_at "ev"
  rw [if_pos nh, cutP_take (by omega), cutP_drop (by omega)]
  have l1 := (len_ok (k := ((k : Int)).toNat) hp.1)
  refine ⟨by decide, by omega, by rw [List.length_append, List.length_singleton]; omega, h _ _ (hp.put it)⟩
theorem sp6 (n2 : n ≤ 24) (hm : 602 ≤ m) (hm2 : m ≤ 1000) (hp : lsOk m ps) (h : ∀ qs s, lsOk (m + 1) qs → E (.val (.rt (.ow qs)) s)) : Wp (B6_law_spoilt [.fz .hand, .fz (.int n), .fz (.lst ps), .fz w, .fz (.int k), .no, .no]) E := by
  unfold B6_law_spoilt
  walk_at "ev"
  refine ⟨by decide, by decide, by decide, ⟨by decide, by decide⟩, fun r r0 r1 => ?_⟩
  obtain ⟨x, e, x0, x1⟩ : ∃ x : Int, atI [PV.int 599, PV.int 600, PV.int 601] r = some (.int x) ∧ 0 ≤ x ∧ x ≤ 601 := by
    rcases (by omega : r = 0 ∨ r = 1 ∨ r = 2) with rfl | rfl | rfl
    · exact ⟨_, rfl, by decide, by decide⟩
    · exact ⟨_, rfl, by decide, by decide⟩
    · exact ⟨_, rfl, by decide, by decide⟩
  rw [e]
  walk_at "ev"
  have l1 := hp.1
  have fl : ∀ j : Nat, (List.replicate j [PV.tup [PV.int 0, PV.int 0]]).flatten.length = j ∧ ∀ p ∈ (List.replicate j [PV.tup [PV.int 0, PV.int 0]]).flatten, p = .tup [.int (0 : Nat), .int (0 : Nat)] := fun j => by
    induction j with
    | zero => exact ⟨rfl, by simp⟩
    | succ j ih =>
      rw [List.replicate_succ, List.flatten_cons]
      refine ⟨by rw [List.length_append, ih.1]; simp; omega, fun p hp => ?_⟩
      rcases List.mem_append.mp hp with z | z
      · exact List.mem_singleton.mp z
      · exact ih.2 p z
  have f := fl (x - ps.length).toNat
  refine ⟨⟨by omega, by omega, by omega⟩, by rw [f.1]; omega, h _ _ ⟨?_, fun p hp' => ?_⟩⟩
  · rw [List.length_append, f.1]; omega
  · rcases List.mem_append.mp hp' with z | z
    · exact hp.2 p z
    · rw [f.2 p z]; exact itOk.nat (by omega) (by omega)
end
theorem plain_nh {d : PV} (h : d.plain = true) : d.nh = true := by cases d <;> first | rfl | cases h
theorem spoilt_wp {n m : Nat} {ps : List PV} {E : Except Xc Rv → Prop} (n1 : 1 ≤ n) (n2 : n ≤ 24) (hm : 602 ≤ m) (hm2 : m ≤ 1000) (hp : lsOk m ps) (h2 : ∀ p ∈ ps, isTwo p) (h : ∀ qs, lsOk (m + 1) qs → E (.ok (.ow qs))) : Wp (den_law_spoilt [.hand, .int n, .lst ps]) E := by
  (simp only [den_law_spoilt, F_law_spoilt]; try walk_at "ev")
  have l1 := hp.1
  refine ⟨⟨by decide, by decide⟩, fun w w0 w1 => ⟨⟨by omega, by omega⟩, fun a a0 a1 => ⟨⟨okI, okI⟩, ?_⟩⟩⟩
  obtain ⟨k, rfl⟩ := Int.eq_ofNat_of_zero_le a0
  split
  · simp only [wp_bindT, wp_bindO]
    refine sp1 n2 hm2 hp fun qs s hq => ?_
    walk_at "ev"
    exact h qs hq
  · refine ⟨⟨okI, okI⟩, ?_⟩
    split
    · simp only [wp_bindT, wp_bindO]
      refine sp2 n1 n2 hm2 hp fun qs s hq => ?_
      walk_at "ev"
      exact h qs hq
    · refine ⟨⟨okI, okI⟩, ?_⟩
      split
      · simp only [wp_bindT, wp_bindO]
        refine sp3 n2 hm2 hp fun qs s hq => ?_
        walk_at "ev"
        exact h qs hq
      · refine ⟨⟨okI, okI⟩, ?_⟩
        split
        · simp only [wp_bindT, wp_bindO]
          refine sp4 n1 n2 hm2 hp fun qs s hq => ?_
          walk_at "ev"
          exact h qs hq
        · refine ⟨⟨okI, okI⟩, ?_⟩
          split
          · simp only [wp_bindT, wp_bindO]
            refine sp5 n2 hm2 hp fun qs s hq => ?_
            walk_at "ev"
            exact h qs hq
          · refine ⟨⟨okI, okI⟩, ?_⟩
            split
            · simp only [wp_bindT, wp_bindO]
              refine sp6 n2 hm hm2 hp fun qs s hq => ?_
              walk_at "ev"
              exact h qs hq
            · skip
              simp only [wp_bindT, wp_bindO]
              refine wp_lcL (fun j s acc => s = [.fz .hand, .fz (.int n), .fz (.lst ps), .fz (.int w), .fz (.int k), .no, .no] ∧ (∀ p ∈ acc, p ∈ ps) ∧ acc.length ≤ j) (k := 0) (acc := []) (Nat.le_refl _) (by omega) ⟨rfl, by simp, Nat.le_refl _⟩ ?_ ?_
              · rintro i d s acc e ⟨rfl, ha, hl⟩
                have hd : d ∈ ps := List.mem_of_getElem? e
                obtain ⟨a, b, rfl⟩ := h2 d hd
                have ob : okD b := by
                  have s := (hp.2 _ hd).2.1
                  have p1 : (a.plain && (b.plain && true)) = true := s.1
                  have p2 : max a.deep (max b.deep 0) + 1 ≤ 3 := s.2.1
                  rw [Bool.and_true, Bool.and_eq_true] at p1
                  exact ⟨p1.2, by omega⟩
                walk_at "ev"
                simp only [atI_two1]
                walk_at "ev"
                rw [if_pos (plain_nh ob.1)]
                refine ⟨⟨ob, okI⟩, ?_⟩
                split
                · refine ⟨fun p hp' => ?_, by rw [List.length_append, List.length_singleton]; omega⟩
                  rcases List.mem_append.mp hp' with z | z
                  · exact ha p z
                  · rw [List.mem_singleton.mp z]; exact hd
                · exact ⟨ha, by omega⟩
              · rintro s acc ⟨rfl, ha, hl⟩
                rw [Nat.zero_add] at hl
                walk_at "ev"
                exact h acc ⟨by omega, fun p z => hp.2 p (ha p z)⟩
end LW
namespace LW
open PySem PySem.Spec PyProof.Rows L2 L3 L4
local macro_rules | `(tactic| walk_at "ew") => `(tactic| simp only [bindO_val, bindO_exc, bindO_need, bindO_stuck, bindO_draw, bindO_ite, bind_ret, bind_need, bind_stuck, bind_draw, bind_ite, app_bind, app_ret, app_stuck, app_lift, app_ite, app_setl, stl_fz, stl_bw, stl_ow, app_var, varK_fz, varK_ow, app_vw_fz, app_vw_bw, bwV_some, lstOf_ow, lstOf_fz, app_frz_fz, app_frz_ow, app_frz_bw, app_frzD, nh_non, nh_bl, nh_int, nh_str, nh_tup, nh_lst, nh_ins, nh_ty, nh_cls, app_op, app_un, app_cb, app_vwA_nil, app_vwA_cons, app_frzA_nil, app_frzA_cons, app_frzC_nil, app_frzC_cons, app_liftR, fv_fz, fv_ow, app_tup, app_lst, app_call, app_out, outK_ok, outK_err, noK_ok, app_test, testK_bl, app_and, app_or, app_not, app_tru, app_iteM, app_blM, app_andT, app_orT, app_notT, app_chain, chainK_bl, app_seq, seqK_nx, seqK_rt, seqK_bk, seqK_ct, app_asg, app_rt, rtv_fz, rtv_ow, rtv_bw, rtS_ow, rtS_fz, app_drop, set_fz, set_ow, set_bw, app_tupTg, tupTK_tup, app_tgs_nil, app_tgs_cons, app_store, storeK_bw, stS_ow, stN_some, stS_K, stS_T, stK_some, stT_some, stl_nd, varK_oi, varK_od, lstOf_od, lstOf_fzK, lstOf_fzT, app_frz_nd, nh_dK, nh_dT, rtv_nd, rtS_od, set_nd, app_dnewK, app_dnewT, app_fld, fldV_fz, fldV_bw, fldS_oi, fldS_fz, app_fldK, fldG_some, app_sfld, sfldK_oi, app_make, app_outI, outIK_ok, outIK_err, app_meth, methO_fz, app_prop, propO_fz, app_callK, app_xis2, xis2K_xc, app_lc2, boolP, max2P, min2P, divmodP, insertP, sortK, sortedP, reprP, dicP, gotK, keyK, keyA, keyT, getZ, setZ, putZk, putZd, mixK, List.any_nil, List.any_cons, List.flatMap_cons, List.flatMap_nil, List.drop_zero, List.drop_succ_cons, List.take_succ_cons, List.take_zero, app_bm, isLst_lst, bmK_bw, bmS_ow, app_index, app_draw, drawK_hand, app_sl, app_part, partK_int, app_isi2, app_rg1, rg1K_f, rg1K_t, app_rg2, rg2K_f, rg2K_t, app_rng1, rng1K_int, app_rng2, rng2K_int, app_seqS, items_lst, items_tup, app_enum1, app_for, app_lc, wipe_nil, wipe_cons, app_raise, app_raise0, app_try, tryK_val, tryK_exc, hdM_nil, hdM_some, hdM_none, app_xf, xfK_xc, xfL_some, app_xis, xisK_xc, app_aug, app_par, parK_two, endK_nx, endK_rt, endK_exc, wp_ret, wp_need, wp_stuck, wp_draw, wp_ite, wp_bindO, afterO_val, afterO_exc, stepP_nx, stepP_ct, stepP_bk, stepP_rt, stepP_exc, testP_t, testP_f, testP_b, eltP_fz, eltP_ow, eltP_nd, tstP_b, wp_bindO, app_den, app_noExc, noK_ok, p2I, p2C, subP, L4.ltP, leP, gtP, geP, fdivP, modP, powP, shlP, shrP, bandP, borP, bxorP, addP, mulP, eqP, neP, isNonD, isNP, notNP, isBlD, isBP, negP, invP, itP, ixP, lenP, int1P, absP, listP, tupleP, sumK, sumP, anyK, anyP, allP, mxK, maxP, minP, tyB, basicD, blK, isiP, orO, slP, appendP, extendP, popK, popAt, popAtP, popL, popP, reverseP, clearP, natK, indexP, inP, ninP, truV, cleanK, bareK, noXc, subs, subRow, List.lookup, List.map_cons, List.map_nil, List.nil_append, List.cons_append, List.length_cons, List.length_nil, List.replicate_succ, List.replicate_zero, Nat.reduceSub, Nat.reduceAdd, Nat.zero_add, List.getElem?_cons_zero, List.getElem?_cons_succ, List.getElem?_nil, List.set_cons_zero, List.set_cons_succ, List.append_nil, if_true, if_false, ite_true, ite_false, Bool.false_eq_true, Bool.not_true, Bool.not_false, decide_eq_true_eq, Bool.not_eq_true', decide_eq_false_iff_not, true_and, and_true, Bool.true_eq_false, reduceIte, reduceCtorEq, Bool.or_true, Bool.or_false, Bool.true_or, Bool.false_or, Bool.and_true, Bool.and_false, Bool.true_and, Bool.false_and, not_true_eq_false, not_false_eq_true, List.zip_cons_cons, List.zip_nil_left, List.zip_nil_right, List.reverse_cons, List.reverse_nil, List.getD_cons_zero, List.getD_cons_succ, String.reduceEq, wp_bindT])
def nOk (d : PV) : Prop := basicD d = true ∧ okD d
def pOk (p : PV) : Prop := (∃ ps, p = .lst ps ∧ lsOk 604 ps) ∨ (basicD p = true ∧ seqItems p = none ∧ (p = .dK [] [] ∨ (reprOk p ∧ strsB p = true)))
theorem lst_plain {ps : List PV} {m : Nat} (h : lsOk m ps) : ShowOk 4 (m * 21) (.lst ps) := by
  have a : ShowOkA 3 (ps.length * (20 + 1)) ps := ShowOkA.all fun x hx => (h.2 x hx).2.1
  exact a.lst.mono (by decide) (Nat.mul_le_mul_right _ h.1)
def twoB : PV → Bool
  | .tup xs => decide (xs.length = 2)
  | _ => false
theorem twoB_is {p : PV} (h : twoB p = true) : isTwo p := by
  cases p with
  | tup xs =>
    have h : decide (xs.length = 2) = true := h
    rw [decide_eq_true_eq] at h
    match xs, h with
    | [a, b], _ => exact ⟨a, b, rfl⟩
  | _ => cases h
theorem flat8 {r : Int} (r0 : 0 ≤ r) (r1 : r < 8) : ∃ d, atI [PV.int 0, PV.int 25, PV.int (-1), PV.non, PV.bl true, PV.str (Str.ofString "3"), PV.int (10 ^ Int.toNat 20), PV.bl false] r = some d ∧ nOk d := by
  rcases (by omega : r = 0 ∨ r = 1 ∨ r = 2 ∨ r = 3 ∨ r = 4 ∨ r = 5 ∨ r = 6 ∨ r = 7) with rfl | rfl | rfl | rfl | rfl | rfl | rfl | rfl
  · exact ⟨_, rfl, rfl, okI⟩
  · exact ⟨_, rfl, rfl, okI⟩
  · exact ⟨_, rfl, rfl, okI⟩
  · exact ⟨_, rfl, rfl, rfl, by decide⟩
  · exact ⟨_, rfl, rfl, rfl, by decide⟩
  · exact ⟨_, rfl, rfl, by decide +kernel, Nat.le_of_ble_eq_true rfl⟩
  · exact ⟨_, rfl, rfl, okI⟩
  · exact ⟨_, rfl, rfl, rfl, by decide⟩
theorem ShowOk.strOf (s : String) (h1 : PyData.strOk (Str.ofString s) = true) (h2 : PyData.leavesShort 40 (.str (Str.ofString s)) = true) (h3 : PyData.bulk (.str (Str.ofString s)) ≤ 20) : ShowOk 3 20 (.str (Str.ofString s)) := ⟨h1, Nat.le_of_ble_eq_true rfl, rfl, h2, h3⟩
theorem flat4 {r : Int} (r0 : 0 ≤ r) (r1 : r < 4) : ∃ d, atI [PV.non, PV.str (Str.ofString "01"), PV.int 5, PV.dK [] []] r = some d ∧ pOk d ∧ d.nh = true := by
  rcases (by omega : r = 0 ∨ r = 1 ∨ r = 2 ∨ r = 3) with rfl | rfl | rfl | rfl
  · exact ⟨_, rfl, .inr ⟨rfl, rfl, .inr ⟨(ShowOk.non (d := 0) (k := 0)).repr (by decide) (by decide), rfl⟩⟩, rfl⟩
  · exact ⟨_, rfl, .inr ⟨rfl, rfl, .inr ⟨(ShowOk.strOf "01" (by decide +kernel) (by decide +kernel) (by decide +kernel)).repr (by decide) (by decide), by decide +kernel⟩⟩, rfl⟩
  · exact ⟨_, rfl, .inr ⟨rfl, rfl, .inr ⟨(ShowOk.int (d := 0) (k := 0) (by decide)).repr (by decide) (by decide), rfl⟩⟩, rfl⟩
  · exact ⟨_, rfl, .inr ⟨rfl, rfl, .inl rfl⟩, rfl⟩
theorem nOk.nh {d : PV} (h : nOk d) : d.nh = true := by
  have := h.1
  cases d <;> first | rfl | cases this
theorem pOk.nh {d : PV} (h : pOk d) : d.nh = true := by
  rcases h with ⟨ps, rfl, _⟩ | ⟨b, _⟩
  · rfl
  · cases d <;> first | rfl | cases b
section
variable {E : Out Fl → Prop} {d p b w : PV} {x y : Sl}
theorem cs3 (hp : (∃ p, y = .fz p ∧ pOk p) ∨ ∃ ps, y = .ow ps ∧ lsOk 604 ps) (h : ∀ d, nOk d → E (.val .nx [.fz .hand, .fz d, y, .fz b, x, .fz w, .no])) : Wp (B3_law_case [.fz .hand, .fz d, y, .fz b, x, .fz w, .no]) E := by
  unfold B3_law_case
  walk_at "ew"
  have cp : CPow 10 20 := ⟨by decide, by decide, by decide⟩
  refine ⟨cp, by decide, ⟨by decide, by decide⟩, fun r r0 r1 => ?_⟩
  obtain ⟨e, e1, hn⟩ := flat8 r0 r1
  rw [e1]
  walk_at "ew"
  exact h e hn
theorem cs4 (h : ∀ p, pOk p → E (.val .nx [.fz .hand, .fz d, .fz p, .fz b, x, .fz w, .no])) : Wp (B4_law_case [.fz .hand, .fz d, y, .fz b, x, .fz w, .no]) E := by
  unfold B4_law_case
  walk_at "ew"
  refine ⟨by decide, ⟨by decide, by decide⟩, fun r r0 r1 => ?_⟩
  obtain ⟨e, e1, hn, nh⟩ := flat4 r0 r1
  rw [e1]
  walk_at "ew"
  exact h e hn
theorem cs5 (h : ∀ d, nOk d → E (.val .nx [.fz .hand, .fz d, .fz .non, .fz b, x, .fz w, .no])) : Wp (B5_law_case [.fz .hand, .fz d, y, .fz b, x, .fz w, .no]) E := by
  unfold B5_law_case
  walk_at "ew"
  refine ⟨by decide, ⟨by decide, by decide⟩, fun r r0 r1 => ?_⟩
  obtain ⟨e, e1, hn⟩ : ∃ d, atI [PV.int 0, PV.non] r = some d ∧ nOk d := by
    rcases (by omega : r = 0 ∨ r = 1) with rfl | rfl
    · exact ⟨_, rfl, rfl, okI⟩
    · exact ⟨_, rfl, rfl, rfl, by decide⟩
  have nh := hn.nh
  rw [e1]
  walk_at "ew"
  rw [if_pos nh]
  exact h e hn
theorem cs6 (h : E (.val .nx [.fz .hand, .fz (.int 1), y, .fz b, x, .fz w, .no])) : Wp (B6_law_case [.fz .hand, .fz d, y, .fz b, x, .fz w, .no]) E := by
  unfold B6_law_case
  walk_at "ew"
  exact h
end
theorem case_body {n m : Nat} {ps : List PV} {b t : PV} {x y : Sl} {E : Out Fl → Prop} {J : S4 → Prop} (n1 : 1 ≤ n) (n2 : n ≤ 24) (hm : 602 ≤ m) (hm2 : m ≤ 1000) (hp : lsOk m ps) (hy : y = .ow ps ∨ y = .fz (.lst ps))
    (h : ∀ y' qs, (y' = .ow qs ∨ y' = .fz (.lst qs)) → lsOk (m + 1) qs → J [.fz .hand, .fz (.int n), y', .fz b, .fz t, .no, .no]) :
    Wp (bindO (setM 4 (.fz t) [.fz .hand, .fz (.int n), y, .fz b, x, .no, .no]) fun _ => B2_law_case) (stepP E J) := by
  rcases hy with rfl | rfl
  · skip
    unfold B2_law_case
    walk_at "ew"
    refine wp_lcL (fun k s acc => s = [.fz .hand, .fz (.int n), .fz (.lst ps), .fz b, .fz t, .no, .no] ∧ acc.length ≤ k ∧ (acc = [] → ∀ j, j < k → ∀ p, ps[j]? = some p → twoB p = true)) (k := 0) (acc := []) (Nat.le_refl _) (by have := hp.1; omega) ⟨rfl, Nat.le_refl _, fun _ j hj => absurd hj (Nat.not_lt_zero _)⟩ ?_ ?_
    · rintro i d s acc e ⟨rfl, hl, ha⟩
      have it := hp.2 d (List.mem_of_getElem? e)
      have b1 := it.1.1
      have nh := it.2.2.1
      have good : twoB d = true → acc = [] → ∀ j, j < 0 + i + 1 → ∀ p, ps[j]? = some p → twoB p = true := fun td ea j hj p ep => by
        by_cases hji : j < 0 + i
        · exact ha ea j hji p ep
        · obtain rfl : j = i := by omega
          rw [e] at ep
          cases ep
          exact td
      have bad : acc.length + 1 ≤ 0 + i + 1 := by omega
      rw [Nat.zero_add] at good bad hl
      cases d with
      | tup xs =>
        walk_at "ew"
        refine ⟨⟨okI, okI⟩, ?_⟩
        by_cases hx : xs.length = 2
        · have ex : PV.eqv (.int (xs.length : Nat)) (.int 2) = true := by
            rw [hx]
            rfl
          rw [ex, if_neg (by simp)]
          exact ⟨by omega, good (by show decide (xs.length = 2) = true; rw [hx]; rfl)⟩
        · have ex : PV.eqv (.int (xs.length : Nat)) (.int 2) = false := eqv_ne (by omega)
          rw [ex, if_pos rfl]
          exact ⟨by rw [List.length_append, List.length_singleton]; omega, fun z => by simp at z⟩
      | ins _ _ => cases b1
      | hand => cases b1
      | ty _ => cases b1
      | cls _ => cases b1
      | _ => walk_at "ew"
             exact ⟨by rw [List.length_append, List.length_singleton]; omega, fun z => by simp at z⟩
    · rintro s acc ⟨rfl, hl, ha⟩
      rw [Nat.zero_add] at ha hl
      walk_at "ew"
      cases acc with
      | nil =>
        rw [if_pos (show (!(List.isEmpty ([] : List PV))) = false from rfl)]
        have h2 : ∀ p ∈ ps, isTwo p := fun p z => by
          obtain ⟨j, hj⟩ := List.mem_iff_getElem?.mp z
          exact twoB_is (ha rfl j (List.getElem?_eq_some_iff.mp hj).1 p hj)
        unfold B1_law_case
        walk_at "ew"
        refine spoilt_wp n1 n2 hm hm2 hp h2 fun qs hq => ?_
        walk_at "ew"
        exact h _ qs (.inl rfl) hq
      | cons a l =>
        rw [if_neg (by simp)]
        exact h _ ps (.inr rfl) (hp.mono (by omega))
  · skip
    unfold B2_law_case
    walk_at "ew"
    refine wp_lcL (fun k s acc => s = [.fz .hand, .fz (.int n), .fz (.lst ps), .fz b, .fz t, .no, .no] ∧ acc.length ≤ k ∧ (acc = [] → ∀ j, j < k → ∀ p, ps[j]? = some p → twoB p = true)) (k := 0) (acc := []) (Nat.le_refl _) (by have := hp.1; omega) ⟨rfl, Nat.le_refl _, fun _ j hj => absurd hj (Nat.not_lt_zero _)⟩ ?_ ?_
    · rintro i d s acc e ⟨rfl, hl, ha⟩
      have it := hp.2 d (List.mem_of_getElem? e)
      have b1 := it.1.1
      have nh := it.2.2.1
      have good : twoB d = true → acc = [] → ∀ j, j < 0 + i + 1 → ∀ p, ps[j]? = some p → twoB p = true := fun td ea j hj p ep => by
        by_cases hji : j < 0 + i
        · exact ha ea j hji p ep
        · obtain rfl : j = i := by omega
          rw [e] at ep
          cases ep
          exact td
      have bad : acc.length + 1 ≤ 0 + i + 1 := by omega
      rw [Nat.zero_add] at good bad hl
      cases d with
      | tup xs =>
        walk_at "ew"
        refine ⟨⟨okI, okI⟩, ?_⟩
        by_cases hx : xs.length = 2
        · have ex : PV.eqv (.int (xs.length : Nat)) (.int 2) = true := by
            rw [hx]
            rfl
          rw [ex, if_neg (by simp)]
          exact ⟨by omega, good (by show decide (xs.length = 2) = true; rw [hx]; rfl)⟩
        · have ex : PV.eqv (.int (xs.length : Nat)) (.int 2) = false := eqv_ne (by omega)
          rw [ex, if_pos rfl]
          exact ⟨by rw [List.length_append, List.length_singleton]; omega, fun z => by simp at z⟩
      | ins _ _ => cases b1
      | hand => cases b1
      | ty _ => cases b1
      | cls _ => cases b1
      | _ => walk_at "ew"
             exact ⟨by rw [List.length_append, List.length_singleton]; omega, fun z => by simp at z⟩
    · rintro s acc ⟨rfl, hl, ha⟩
      rw [Nat.zero_add] at ha hl
      walk_at "ew"
      cases acc with
      | nil =>
        rw [if_pos (show (!(List.isEmpty ([] : List PV))) = false from rfl)]
        have h2 : ∀ p ∈ ps, isTwo p := fun p z => by
          obtain ⟨j, hj⟩ := List.mem_iff_getElem?.mp z
          exact twoB_is (ha rfl j (List.getElem?_eq_some_iff.mp hj).1 p hj)
        unfold B1_law_case
        walk_at "ew"
        refine spoilt_wp n1 n2 hm hm2 hp h2 fun qs hq => ?_
        walk_at "ew"
        exact h _ qs (.inl rfl) hq
      | cons a l =>
        rw [if_neg (by simp)]
        exact h _ ps (.inr rfl) (hp.mono (by omega))
theorem case_loop {n : Nat} {b : PV} {E : Out Fl → Prop} (n1 : 1 ≤ n) (n2 : n ≤ 24) : ∀ (ts : List PV) (m : Nat) (ps : List PV) (x y : Sl), lsOk m ps → 602 ≤ m → m + ts.length ≤ 604 → (y = .ow ps ∨ y = .fz (.lst ps)) →
    (∀ x y' qs, (y' = .ow qs ∨ y' = .fz (.lst qs)) → lsOk 604 qs → E (.val .nx [.fz .hand, .fz (.int n), y', .fz b, x, .no, .no])) →
    Wp (forL (setM 4) B2_law_case ts [.fz .hand, .fz (.int n), y, .fz b, x, .no, .no]) E
  | [], m, ps, x, y, hp, _, hm, hy, h => wp_forL_nil (h x y ps hy (hp.mono (by rw [List.length_nil] at hm; omega)))
  | t :: ts, m, ps, x, y, hp, hl, hm, hy, h => by
    rw [List.length_cons] at hm
    exact wp_forL_cons (case_body n1 n2 hl (by omega) hp hy fun y' qs hy' hq => case_loop n1 n2 ts (m + 1) qs _ y' hq (by omega) (by omega) hy' h)
def yOk (y : Sl) : Prop := (∃ p, y = .fz p ∧ pOk p) ∨ ∃ ps, y = .ow ps ∧ lsOk 604 ps
section
variable {E : Out Fl → Prop} {d p b w : PV} {v : Int} {x y : Sl}
theorem ct0 (h : ∀ v : Int, E (.val .nx [.fz .hand, .fz d, y, .fz b, x, .fz (.int v), .no])) : Wp ((asgM (drawM (varM 0) (M.ret (.fz (.int 12)))) (setM 5)) [.fz .hand, .fz d, y, .fz b, x, .no, .no]) E := by
  walk_at "ew"
  exact ⟨⟨by decide, by decide⟩, fun r _ _ => h r⟩
theorem ci3 (hd : nOk d) (hy : yOk y) (h : ∀ d, nOk d → E (.val .nx [.fz .hand, .fz d, y, .fz b, x, .fz (.int v), .no])) : Wp ((iteM (testM (opM eqP (varM 5) (M.ret (.fz (.int 0))))) B3_law_case (M.ret .nx)) [.fz .hand, .fz d, y, .fz b, x, .fz (.int v), .no]) E := by
  walk_at "ew"
  refine ⟨⟨okI, okI⟩, ?_⟩
  split
  · exact cs3 hy h
  · exact h d hd
theorem ci4 (hy : yOk y) (h : ∀ y, yOk y → E (.val .nx [.fz .hand, .fz d, y, .fz b, x, .fz (.int v), .no])) : Wp ((iteM (testM (opM eqP (varM 5) (M.ret (.fz (.int 1))))) B4_law_case (M.ret .nx)) [.fz .hand, .fz d, y, .fz b, x, .fz (.int v), .no]) E := by
  walk_at "ew"
  refine ⟨⟨okI, okI⟩, ?_⟩
  split
  · exact cs4 fun p hp => h _ (.inl ⟨p, rfl, hp⟩)
  · exact h y hy
theorem ci5 (hd : nOk d) (hy : yOk y) (h : ∀ d y, nOk d → yOk y → E (.val .nx [.fz .hand, .fz d, y, .fz b, x, .fz (.int v), .no])) : Wp ((iteM (testM (opM eqP (varM 5) (M.ret (.fz (.int 2))))) B5_law_case (M.ret .nx)) [.fz .hand, .fz d, y, .fz b, x, .fz (.int v), .no]) E := by
  walk_at "ew"
  refine ⟨⟨okI, okI⟩, ?_⟩
  split
  · exact cs5 fun d hd => h d _ hd (.inl ⟨_, rfl, .inr ⟨rfl, rfl, .inr ⟨(ShowOk.non (d := 0) (k := 0)).repr (by decide) (by decide), rfl⟩⟩⟩)
  · exact h d y hd hy
theorem ci6 (hd : nOk d) (h : ∀ d, nOk d → E (.val .nx [.fz .hand, .fz d, y, .fz b, x, .fz (.int v), .no])) : Wp ((iteM (testM (opM eqP (varM 5) (M.ret (.fz (.int 3))))) B6_law_case (M.ret .nx)) [.fz .hand, .fz d, y, .fz b, x, .fz (.int v), .no]) E := by
  walk_at "ew"
  refine ⟨⟨okI, okI⟩, ?_⟩
  split
  · exact cs6 (h _ ⟨rfl, okI⟩)
  · exact h d hd
end
theorem case_wp {E : Except Xc Rv → Prop} (h : ∀ d p, nOk d → pOk p → E (.ok (.fz (.tup [d, p])))) : Wp (den_law_case [.hand]) E := by
  (simp only [den_law_case, F_law_case]; try walk_at "ew")
  refine ⟨by decide, ⟨by decide, by decide⟩, fun r r0 r1 => ?_⟩
  obtain ⟨most, e, m1, m2⟩ : ∃ most : Nat, atI [PV.int 3, PV.int 4, PV.int 5, PV.int 6, PV.int 9, PV.int 24] r = some (.int (most : Nat)) ∧ 2 ≤ most ∧ most ≤ 24 := by
    rcases (by omega : r = 0 ∨ r = 1 ∨ r = 2 ∨ r = 3 ∨ r = 4 ∨ r = 5) with rfl | rfl | rfl | rfl | rfl | rfl
    · exact ⟨3, rfl, by decide, by decide⟩
    · exact ⟨4, rfl, by decide, by decide⟩
    · exact ⟨5, rfl, by decide, by decide⟩
    · exact ⟨6, rfl, by decide, by decide⟩
    · exact ⟨9, rfl, by decide, by decide⟩
    · exact ⟨24, rfl, by decide, by decide⟩
  rw [e]
  walk_at "ew"
  refine order_wp m1 m2 fun n qs b n1 n2 hq hl nb => ?_
  walk_at "ew"
  refine shuffled_wp (by rw [List.length_map]; omega) (fun x hx => by obtain ⟨q, _, rfl⟩ := List.mem_map.mp hx; rfl) fun ys p => ?_
  have hp : lsOk 602 ys := ⟨by rw [p.length_eq, List.length_map]; omega, fun x hx => (lsOk.pairs hq (by omega) x (p.mem_iff.mp hx)).1⟩
  walk_at "ew"
  refine ⟨⟨by decide, by decide⟩, fun t t0 t1 => ⟨⟨by omega, by omega⟩, ?_⟩⟩
  obtain ⟨k, rfl⟩ := Int.eq_ofNat_of_zero_le t0
  refine case_loop (by omega) n2 _ 602 ys _ _ hp (Nat.le_refl _) (by unfold rgD; rw [List.length_map, List.length_range]; omega) (.inl rfl) fun x y qs hy hq => ?_
  have hy : yOk y := by
    rcases hy with rfl | rfl
    · exact .inr ⟨qs, rfl, hq⟩
    · exact .inl ⟨_, rfl, .inl ⟨qs, rfl, hq⟩⟩
  simp only [afterO_val, seqK_nx]
  rw [app_seq, wp_bindO]
  refine ct0 fun v => ?_
  simp only [afterO_val, seqK_nx]
  rw [app_seq, wp_bindO]
  refine ci3 ⟨rfl, okI⟩ hy fun d hd => ?_
  simp only [afterO_val, seqK_nx]
  rw [app_seq, wp_bindO]
  refine ci4 hy fun y hy => ?_
  simp only [afterO_val, seqK_nx]
  rw [app_seq, wp_bindO]
  refine ci5 hd hy fun d y hd hy => ?_
  simp only [afterO_val, seqK_nx]
  rw [app_seq, wp_bindO]
  refine ci6 hd fun d hd => ?_
  simp only [afterO_val, seqK_nx]
  have nd := hd.nh
  rcases hy with ⟨p, rfl, hp⟩ | ⟨ps, rfl, hp⟩
  · have np := hp.nh
    walk_at "ew"
    rw [if_pos nd, if_pos np]
    exact ⟨by decide, h d p hd hp⟩
  · walk_at "ew"
    rw [if_pos nd]
    exact ⟨by decide, h d _ hd (.inl ⟨ps, rfl, hp⟩)⟩
end LW
namespace LW
open PySem PySem.Spec PyProof.Rows L2 L3 L4
local macro_rules | `(tactic| walk_at "ev") => `(tactic| simp only [bindO_val, bindO_exc, bindO_need, bindO_stuck, bindO_draw, bindO_ite, bind_ret, bind_need, bind_stuck, bind_draw, bind_ite, app_bind, app_ret, app_stuck, app_lift, app_ite, app_setl, stl_fz, stl_bw, stl_ow, app_var, varK_fz, varK_ow, app_vw_fz, app_vw_bw, bwV_some, lstOf_ow, lstOf_fz, app_frz_fz, app_frz_ow, app_frz_bw, app_frzD, nh_non, nh_bl, nh_int, nh_str, nh_tup, nh_lst, nh_ins, nh_ty, nh_cls, app_op, app_un, app_cb, app_vwA_nil, app_vwA_cons, app_frzA_nil, app_frzA_cons, app_frzC_nil, app_frzC_cons, app_liftR, fv_fz, fv_ow, app_tup, app_lst, app_call, app_out, outK_ok, outK_err, noK_ok, app_test, testK_bl, app_and, app_or, app_not, app_tru, app_iteM, app_blM, app_andT, app_orT, app_notT, app_chain, chainK_bl, app_seq, seqK_nx, seqK_rt, seqK_bk, seqK_ct, app_asg, app_rt, rtv_fz, rtv_ow, rtv_bw, rtS_ow, rtS_fz, app_drop, set_fz, set_ow, set_bw, app_tupTg, tupTK_tup, app_tgs_nil, app_tgs_cons, app_store, storeK_bw, stS_ow, stN_some, stS_K, stS_T, stK_some, stT_some, stl_nd, varK_oi, varK_od, lstOf_od, lstOf_fzK, lstOf_fzT, app_frz_nd, nh_dK, nh_dT, rtv_nd, rtS_od, set_nd, app_dnewK, app_dnewT, app_fld, fldV_fz, fldV_bw, fldS_oi, fldS_fz, app_fldK, fldG_some, app_sfld, sfldK_oi, app_make, app_outI, outIK_ok, outIK_err, app_meth, methO_fz, app_prop, propO_fz, app_callK, app_xis2, xis2K_xc, app_lc2, boolP, max2P, min2P, divmodP, insertP, sortK, sortedP, reprP, dicP, gotK, keyK, keyA, keyT, getZ, setZ, putZk, putZd, mixK, List.any_nil, List.any_cons, List.flatMap_cons, List.flatMap_nil, List.drop_zero, List.drop_succ_cons, List.take_succ_cons, List.take_zero, app_bm, isLst_lst, bmK_bw, bmS_ow, app_index, app_draw, drawK_hand, app_sl, app_part, partK_int, app_isi2, app_rg1, rg1K_f, rg1K_t, app_rg2, rg2K_f, rg2K_t, app_rng1, rng1K_int, app_rng2, rng2K_int, app_seqS, items_lst, items_tup, app_enum1, app_for, app_lc, wipe_nil, wipe_cons, app_raise, app_raise0, app_try, tryK_val, tryK_exc, hdM_nil, hdM_some, hdM_none, app_xf, xfK_xc, xfL_some, app_xis, xisK_xc, app_aug, app_par, parK_two, endK_nx, endK_rt, endK_exc, wp_ret, wp_need, wp_stuck, wp_draw, wp_ite, wp_bindO, afterO_val, afterO_exc, stepP_nx, stepP_ct, stepP_bk, stepP_rt, stepP_exc, testP_t, testP_f, testP_b, eltP_fz, eltP_ow, eltP_nd, tstP_b, wp_bindO, app_den, app_noExc, noK_ok, p2I, p2C, subP, L4.ltP, leP, gtP, geP, fdivP, modP, powP, shlP, shrP, bandP, borP, bxorP, addP, mulP, eqP, neP, isNonD, isNP, notNP, isBlD, isBP, negP, invP, itP, ixP, lenP, int1P, absP, listP, tupleP, sumK, sumP, anyK, anyP, allP, mxK, maxP, minP, tyB, basicD, blK, isiP, orO, slP, appendP, extendP, popK, popAt, popAtP, popL, popP, reverseP, clearP, natK, indexP, inP, ninP, truV, cleanK, bareK, noXc, subs, subRow, List.lookup, List.map_cons, List.map_nil, List.nil_append, List.cons_append, List.length_cons, List.length_nil, List.replicate_succ, List.replicate_zero, Nat.reduceSub, Nat.reduceAdd, Nat.zero_add, List.getElem?_cons_zero, List.getElem?_cons_succ, List.getElem?_nil, List.set_cons_zero, List.set_cons_succ, List.append_nil, if_true, if_false, ite_true, ite_false, Bool.false_eq_true, Bool.not_true, Bool.not_false, decide_eq_true_eq, Bool.not_eq_true', decide_eq_false_iff_not, true_and, and_true, Bool.true_eq_false, reduceIte, reduceCtorEq, Bool.or_true, Bool.or_false, Bool.true_or, Bool.false_or, Bool.and_true, Bool.and_false, Bool.true_and, Bool.false_and, not_true_eq_false, not_false_eq_true, List.zip_cons_cons, List.zip_nil_left, List.zip_nil_right, List.reverse_cons, List.reverse_nil, List.getD_cons_zero, List.getD_cons_succ, String.reduceEq])
theorem wholes_body {d : PV} {lo hi : Int} {x y : Sl} {E : Out Fl → Prop} {J : S4 → Prop} (b : basicD d = true) (h : ∀ y, J [.fz .hand, .fz (.int lo), .fz (.int hi), .fz d, y, .no]) :
    Wp (bindO (setM 3 (.fz d) [.fz .hand, .fz (.int lo), .fz (.int hi), x, y, .no]) fun _ => B1_law_wholes) (stepP E J) := by
  have w1 := is_whole_eq (d := d) (lo := .non) (hi := .non) b (.inl rfl) (.inl rfl)
  have w2 := is_whole_eq (d := d) (lo := .int lo) (hi := .non) b (.inr ⟨_, rfl⟩) (.inl rfl)
  have w3 := is_whole_eq (d := d) (lo := .non) (hi := .int hi) b (.inl rfl) (.inr ⟨_, rfl⟩)
  have w4 := is_whole_eq (d := d) (lo := .int lo) (hi := .int hi) b (.inr ⟨_, rfl⟩) (.inr ⟨_, rfl⟩)
  cases d with
  | int i =>
    rw [show wholeB (.int i) .non .non = true from rfl] at w1
    rw [show wholeB (.int i) (.int lo) .non = decide (lo ≤ i) from Bool.and_true _] at w2
    rw [show wholeB (.int i) .non (.int hi) = decide (i ≤ hi) from Bool.true_and _] at w3
    unfold B1_law_wholes
    walk_at "ev"
    simp only [w1]
    walk_at "ev"
    simp only [wp_bindT]
    refine exact_flat (d := .bl true) rfl ?_
    walk_at "ev"
    simp only [w2]
    walk_at "ev"
    simp only [wp_bindT]
    refine exact_flat (d := .bl (decide (lo ≤ i))) rfl ?_
    walk_at "ev"
    simp only [w3]
    walk_at "ev"
    simp only [wp_bindT]
    refine exact_flat (d := .bl (decide (i ≤ hi))) rfl ?_
    walk_at "ev"
    simp only [w4]
    walk_at "ev"
    have ew : wholeB (.int i) (.int lo) (.int hi) = (decide (lo ≤ i) && decide (i ≤ hi)) := rfl
    split
    · rename_i hlo
      rw [ew, decide_eq_true hlo, Bool.true_and]
      simp only [wp_bindT]
      refine exact_flat (d := .bl (decide (i ≤ hi))) rfl ?_
      walk_at "ev"
      exact h _
    · rename_i hlo
      rw [ew, decide_eq_false hlo, Bool.false_and]
      simp only [wp_bindT]
      refine exact_flat (d := .bl false) rfl ?_
      walk_at "ev"
      exact h _
  | ins _ _ => cases b
  | hand => cases b
  | ty _ => cases b
  | cls _ => cases b
  | _ => skip
         unfold B1_law_wholes
         walk_at "ev"
         simp only [w1]
         walk_at "ev"
         simp only [wp_bindT]
         refine exact_flat (d := .bl false) rfl ?_
         walk_at "ev"
         simp only [w2]
         walk_at "ev"
         simp only [wp_bindT]
         refine exact_flat (d := .bl false) rfl ?_
         walk_at "ev"
         simp only [w3]
         walk_at "ev"
         simp only [wp_bindT]
         refine exact_flat (d := .bl false) rfl ?_
         walk_at "ev"
         simp only [w4]
         walk_at "ev"
         simp only [wp_bindT]
         refine exact_flat (d := .bl false) rfl ?_
         walk_at "ev"
         exact h _
theorem wholes_loop {lo hi : Int} {E : Out Fl → Prop} : ∀ (ds : List PV) (x y : Sl), (∀ d ∈ ds, basicD d = true) → (∀ x y, E (.val .nx [.fz .hand, .fz (.int lo), .fz (.int hi), x, y, .no])) →
    Wp (forL (setM 3) B1_law_wholes ds [.fz .hand, .fz (.int lo), .fz (.int hi), x, y, .no]) E
  | [], x, y, _, h => wp_forL_nil (h x y)
  | d :: ds, x, y, hb, h => wp_forL_cons (wholes_body (hb d List.mem_cons_self) fun y => wholes_loop ds _ y (fun e he => hb e (List.mem_cons_of_mem _ he)) h)
theorem wholes_wp {E : Except Xc Rv → Prop} (h : E (.ok (.fz (.bl true)))) : Wp (den_law_wholes [.hand]) E := by
  (simp only [den_law_wholes, F_law_wholes]; try walk_at "ev")
  have cp : CPow 10 30 := ⟨by decide, by decide, by decide⟩
  refine ⟨⟨by decide, by decide⟩, fun r r0 r1 => ⟨⟨by decide, by decide⟩, fun t t0 t1 => ⟨by decide, cp, cp, by decide, ?_⟩⟩⟩
  rw [wp_bindT, wp_bindO]
  refine wholes_loop _ _ _ (fun d hd => ?_) fun x y => ?_
  · simp only [List.mem_cons, List.not_mem_nil, or_false] at hd
    rcases hd with rfl | rfl | rfl | rfl | rfl | rfl | rfl | rfl | rfl | rfl | rfl | rfl <;> rfl
  walk_at "ev"
  refine ⟨by decide, by decide, by decide, by decide, by decide, ?_⟩
  refine wp_lcL_map (fun d : PV => d) (fun d => .bl (seqB d)) _ [PV.tup [], PV.lst [], PV.lst [PV.int 0], PV.tup [PV.int 0, PV.int 1], PV.str (Str.ofString "01"), PV.dK [] [], PV.non, PV.int 5, PV.bl true] [] (by show 0 + 9 ≤ 16777216; decide) (fun d hd J N h => ?_) ?_
  · have b : basicD d = true := by
      simp only [List.mem_cons, List.not_mem_nil, or_false] at hd
      rcases hd with rfl | rfl | rfl | rfl | rfl | rfl | rfl | rfl | rfl <;> rfl
    have n1 : d.nh = true := by cases d <;> first | rfl | cases b
    have w := is_sequence_eq b
    walk_at "ev"
    simp only [w]
    walk_at "ev"
    exact h
  show Wp _ _
  walk_at "ev"
  refine ⟨by decide, ?_⟩
  simp only [seqB, wp_bindT]
  refine exact_flats (n := 3) (fun d hd => ?_) (by show 9 ≤ 1000; decide) ?_
  · simp only [List.mem_cons, List.not_mem_nil, or_false] at hd
    rcases hd with rfl | rfl | rfl | rfl | rfl | rfl | rfl | rfl | rfl <;> rfl
  walk_at "ev"
  exact h
end LW
namespace LW
open PySem PySem.Spec PyProof.Rows L2 L3 L4
local macro_rules | `(tactic| walk_at "ev") => `(tactic| simp only [bindO_val, bindO_exc, bindO_need, bindO_stuck, bindO_draw, bindO_ite, bind_ret, bind_need, bind_stuck, bind_draw, bind_ite, app_bind, app_ret, app_stuck, app_lift, app_ite, app_setl, stl_fz, stl_bw, stl_ow, app_var, varK_fz, varK_ow, app_vw_fz, app_vw_bw, bwV_some, lstOf_ow, lstOf_fz, app_frz_fz, app_frz_ow, app_frz_bw, app_frzD, nh_non, nh_bl, nh_int, nh_str, nh_tup, nh_lst, nh_ins, nh_ty, nh_cls, app_op, app_un, app_cb, app_vwA_nil, app_vwA_cons, app_frzA_nil, app_frzA_cons, app_frzC_nil, app_frzC_cons, app_liftR, fv_fz, fv_ow, app_tup, app_lst, app_call, app_out, outK_ok, outK_err, noK_ok, app_test, testK_bl, app_and, app_or, app_not, app_tru, app_iteM, app_blM, app_andT, app_orT, app_notT, app_chain, chainK_bl, app_seq, seqK_nx, seqK_rt, seqK_bk, seqK_ct, app_asg, app_rt, rtv_fz, rtv_ow, rtv_bw, rtS_ow, rtS_fz, app_drop, set_fz, set_ow, set_bw, app_tupTg, tupTK_tup, app_tgs_nil, app_tgs_cons, app_store, storeK_bw, stS_ow, stN_some, stS_K, stS_T, stK_some, stT_some, stl_nd, varK_oi, varK_od, lstOf_od, lstOf_fzK, lstOf_fzT, app_frz_nd, nh_dK, nh_dT, rtv_nd, rtS_od, set_nd, app_dnewK, app_dnewT, app_fld, fldV_fz, fldV_bw, fldS_oi, fldS_fz, app_fldK, fldG_some, app_sfld, sfldK_oi, app_make, app_outI, outIK_ok, outIK_err, app_meth, methO_fz, app_prop, propO_fz, app_callK, app_xis2, xis2K_xc, app_lc2, boolP, max2P, min2P, divmodP, insertP, sortK, sortedP, reprP, dicP, gotK, keyK, keyA, keyT, getZ, setZ, putZk, putZd, mixK, List.any_nil, List.any_cons, List.flatMap_cons, List.flatMap_nil, List.drop_zero, List.drop_succ_cons, List.take_succ_cons, List.take_zero, app_bm, isLst_lst, bmK_bw, bmS_ow, app_index, app_draw, drawK_hand, app_sl, app_part, partK_int, app_isi2, app_rg1, rg1K_f, rg1K_t, app_rg2, rg2K_f, rg2K_t, app_rng1, rng1K_int, app_rng2, rng2K_int, app_seqS, items_lst, items_tup, app_enum1, app_for, app_lc, wipe_nil, wipe_cons, app_raise, app_raise0, app_try, tryK_val, tryK_exc, hdM_nil, hdM_some, hdM_none, app_xf, xfK_xc, xfL_some, app_xis, xisK_xc, app_aug, app_par, parK_two, endK_nx, endK_rt, endK_exc, wp_ret, wp_need, wp_stuck, wp_draw, wp_ite, wp_bindO, afterO_val, afterO_exc, stepP_nx, stepP_ct, stepP_bk, stepP_rt, stepP_exc, testP_t, testP_f, testP_b, eltP_fz, eltP_ow, eltP_nd, tstP_b, wp_bindO, app_den, app_noExc, noK_ok, p2I, p2C, subP, L4.ltP, leP, gtP, geP, fdivP, modP, powP, shlP, shrP, bandP, borP, bxorP, addP, mulP, eqP, neP, isNonD, isNP, notNP, isBlD, isBP, negP, invP, itP, ixP, lenP, int1P, absP, listP, tupleP, sumK, sumP, anyK, anyP, allP, mxK, maxP, minP, tyB, basicD, blK, isiP, orO, slP, appendP, extendP, popK, popAt, popAtP, popL, popP, reverseP, clearP, natK, indexP, inP, ninP, truV, cleanK, bareK, noXc, subs, subRow, List.lookup, List.map_cons, List.map_nil, List.nil_append, List.cons_append, List.length_cons, List.length_nil, List.replicate_succ, List.replicate_zero, Nat.reduceSub, Nat.reduceAdd, Nat.zero_add, List.getElem?_cons_zero, List.getElem?_cons_succ, List.getElem?_nil, List.set_cons_zero, List.set_cons_succ, List.append_nil, if_true, if_false, ite_true, ite_false, Bool.false_eq_true, Bool.not_true, Bool.not_false, decide_eq_true_eq, Bool.not_eq_true', decide_eq_false_iff_not, true_and, and_true, Bool.true_eq_false, reduceIte, reduceCtorEq, Bool.or_true, Bool.or_false, Bool.true_or, Bool.false_or, Bool.and_true, Bool.and_false, Bool.true_and, Bool.false_and, not_true_eq_false, not_false_eq_true, List.zip_cons_cons, List.zip_nil_left, List.zip_nil_right, List.reverse_cons, List.reverse_nil, List.getD_cons_zero, List.getD_cons_succ, String.reduceEq])
/-- the first fault of pairs for n states -/
def faultS (n : Nat) (ps : List PV) : Option Xc := if 600 < ps.length then some pairsErr else match pairsOf n ps 0 with
  | .error k => some (pairErr k)
  | .ok qs => checkX n (LW.orAll n (qs.foldl pairB (zeroB n)))
theorem faultS_long {n : Nat} {ps : List PV} (l : 600 < ps.length) : faultS n ps = some pairsErr := if_pos l
theorem faultS_pair {n k : Nat} {ps : List PV} (l : ¬ 600 < ps.length) (e : pairsOf n ps 0 = .error k) : faultS n ps = some (pairErr k) := by
  unfold faultS
  rw [if_neg l, e]
theorem faultS_ok {n : Nat} {ps : List PV} {qs : List (Nat × Nat)} (l : ¬ 600 < ps.length) (e : pairsOf n ps 0 = .ok qs) : faultS n ps = checkX n (LW.orAll n (qs.foldl pairB (zeroB n))) := by
  unfold faultS
  rw [if_neg l, e]
/-- the first fault -/
def faultX (d p : PV) : Option Xc := match d with
  | .int v => if 1 ≤ v ∧ v ≤ 24 then match seqItems p with
      | none => some pairsErr
      | some ps => faultS v.toNat ps
    else some statesErr
  | _ => some statesErr
theorem faultX_seq {n : Nat} {p : PV} {ps : List PV} (n1 : 1 ≤ n) (n2 : n ≤ 24) (e : seqItems p = some ps) : faultX (.int n) p = faultS n ps := by
  show (if (1 : Int) ≤ n ∧ (n : Int) ≤ 24 then _ else _) = _
  rw [if_pos (by omega), e]
  rfl
theorem faultX_no {n : Nat} {p : PV} (n1 : 1 ≤ n) (n2 : n ≤ 24) (e : seqItems p = none) : faultX (.int n) p = some pairsErr := by
  show (if (1 : Int) ≤ n ∧ (n : Int) ≤ 24 then _ else _) = _
  rw [if_pos (by omega), e]
theorem faultX_st {d p : PV} (hw : wholeB d (.int 1) (.int 24) = false) : faultX d p = some statesErr := by
  unfold faultX
  cases d with
  | int v =>
    have hw : (decide (1 ≤ v) && decide (v ≤ 24)) = false := hw
    show (if 1 ≤ v ∧ v ≤ 24 then _ else _) = _
    rw [if_neg]
    rintro ⟨a, b⟩
    rw [decide_eq_true a, decide_eq_true b] at hw
    cases hw
  | _ => rfl
def dueD : Option Xc → PV
  | none => .non
  | some x => .tup [(x.fs.lookup (Str.ofString "what")).getD .non, (x.fs.lookup (Str.ofString "at")).getD .non]
def strA (s : Str) : Prop := PySem.PyData.strOk s = true
def isErr (x : Xc) : Prop := ∃ (k : Int) (w : Str), x = ⟨1, [("at", .int k), ("what", .str w)]⟩ ∧ PySem.PyData.strOk w = true
theorem check_form {n : Nat} {R : Bits} {x : Xc} (h : checkX n R = some x) : isErr x := by
  unfold checkX at h
  split at h
  · cases h
    exact ⟨_, _, rfl, by decide +kernel⟩
  · split at h
    · cases h
      exact ⟨_, _, rfl, by decide +kernel⟩
    · cases h
theorem fault_form {d p : PV} {x : Xc} (h : faultX d p = some x) : isErr x := by
  have st : isErr statesErr := ⟨0, _, rfl, by decide +kernel⟩
  have pa : isErr pairsErr := ⟨0, _, rfl, by decide +kernel⟩
  have fs : ∀ n ps, faultS n ps = some x → isErr x := by
    intro n ps h
    by_cases l : 600 < ps.length
    · rw [faultS_long l] at h; cases h; exact pa
    · cases e : pairsOf n ps 0 with
      | error k =>
        rw [faultS_pair l e] at h
        cases h
        exact ⟨_, _, rfl, by decide +kernel⟩
      | ok qs => rw [faultS_ok l e] at h; exact check_form h
  unfold faultX at h
  split at h
  · split at h
    · split at h
      · cases h; exact pa
      · exact fs _ _ h
    · cases h; exact st
  · cases h; exact st
theorem init_wp4 {d p : PV} {E : Except Xc (List (Str × PV)) → Prop} (bd : basicD d = true) (bp : basicD p = true) (hs : ∀ ps, seqItems p = some ps → ∀ x ∈ ps, basic2 x)
    (h : match faultX d p with
      | some x => E (.error x)
      | none => ∀ (n : Nat), d = .int n → ∀ a b c, E (.ok [("n", .int n), ("masks", a), ("cover_rows", b), ("edges", c)])) : Wp (den_Order_init [d, p]) E := by
  by_cases hw : wholeB d (.int 1) (.int 24) = true
  · cases d with
    | int v =>
      have hw : (decide (1 ≤ v) && decide (v ≤ 24)) = true := hw
      rw [Bool.and_eq_true, decide_eq_true_eq, decide_eq_true_eq] at hw
      obtain ⟨n, rfl⟩ := Int.eq_ofNat_of_zero_le (show 0 ≤ v by omega)
      have n1 : 1 ≤ n := by omega
      have n2 : n ≤ 24 := by omega
      have key : ∀ ps, (p = .lst ps ∨ p = .tup ps) → Wp (den_Order_init [.int n, p]) E := by
        intro ps hp
        have e : seqItems p = some ps := by rcases hp with rfl | rfl <;> rfl
        have hb := hs ps e
        rw [faultX_seq n1 n2 e] at h
        by_cases l : 600 < ps.length
        · rw [faultS_long l] at h
          exact init_long hp n1 n2 l h
        · cases e2 : pairsOf n ps 0 with
          | error k =>
            rw [faultS_pair l e2] at h
            exact init_pair hp n1 n2 (by omega) hb e2 h
          | ok qs =>
            rw [faultS_ok l e2] at h
            cases e3 : checkX n (LW.orAll n (qs.foldl pairB (zeroB n))) with
            | some x =>
              rw [e3] at h
              exact init_check hp n1 n2 (by omega) hb e2 e3 h
            | none =>
              rw [e3] at h
              exact init_good hp n1 n2 (by omega) hb e2 e3 (h n rfl)
      have no : seqB p = false → seqItems p = none → Wp (den_Order_init [.int n, p]) E := fun h1 h2 => by
        rw [faultX_no n1 n2 h2] at h
        exact init_nseq n1 n2 bp h1 h
      cases p with
      | lst ps => exact key ps (.inl rfl)
      | tup ps => exact key ps (.inr rfl)
      | ins _ _ => cases bp
      | hand => cases bp
      | ty _ => cases bp
      | cls _ => cases bp
      | _ => exact no rfl rfl
    | _ => cases hw
  · have hw : wholeB d (.int 1) (.int 24) = false := by simpa using hw
    rw [faultX_st hw] at h
    exact init_states bd hw h
theorem told_wp {d p : PV} {E : Except Xc Rv → Prop} (bd : basicD d = true) (od : okD d) (bp : basicD p = true) (hs : ∀ ps, seqItems p = some ps → ∀ x ∈ ps, basic2 x) (h : E (.ok (.fz (dueD (faultX d p))))) : Wp (den_law_told [d, p]) E := by
  have nd : d.nh = true := by cases d <;> first | rfl | cases bd
  have np : p.nh = true := by cases p <;> first | rfl | cases bp
  (simp only [den_law_told, F_law_told]; try walk_at "ev")
  simp only [wp_bindT, wp_bindO]
  refine init_wp4 bd bp hs ?_
  cases e : faultX d p with
  | some x =>
    obtain ⟨k, w, rfl, hw⟩ := fault_form e
    rw [e] at h
    walk_at "ev"
    refine ⟨by simp, by simp, by simp, ?_⟩
    simp only [show (Str.ofString "what" == Str.ofString "at") = false from rfl, show (Str.ofString "what" == Str.ofString "what") = true from rfl]
    walk_at "ev"
    simp only [show (Str.ofString "at" == Str.ofString "at") = true from rfl]
    walk_at "ev"
    exact ⟨by decide, h⟩
  | none =>
    rintro n rfl a b c
    rw [e] at h
    walk_at "ev"
    refine ⟨rfl, ?_⟩
    simp only [show (Str.ofString "n" == Str.ofString "n") = true from rfl]
    walk_at "ev"
    refine ⟨⟨okI, okI⟩, ?_⟩
    rw [show PV.eqv (.int (n : Nat)) (.int (n : Nat)) = true from by show ((n : Int) == _) = true; simp, if_pos rfl]
    exact h
theorem two_inv {n : Nat} {p : PV} {q : Nat × Nat} (e : twoOf n p = some q) : seqItems p = some [.int (q.1 : Nat), .int (q.2 : Nat)] := by
  unfold twoOf at e
  split at e
  · rename_i a b e1
    split at e
    · cases e
      rename_i hh
      show seqItems p = some [.int ((a.toNat : Nat) : Int), .int ((b.toNat : Nat) : Int)]
      rw [e1, Int.toNat_of_nonneg hh.1, Int.toNat_of_nonneg hh.2.2.1]
    · cases e
  · cases e
theorem pairs_len {n : Nat} : ∀ (ps : List PV) (k : Nat) (qs : List (Nat × Nat)), pairsOf n ps k = .ok qs → qs.length = ps.length
  | [], k, qs, e => by cases e; rfl
  | p :: ps, k, qs, e => by
    cases e2 : twoOf n p with
    | none => rw [pairsOf, e2] at e; cases e
    | some q =>
      rw [pairs_one e2] at e
      cases e3 : pairsOf n ps (k + 1) with
      | error m => rw [e3] at e; cases e
      | ok rs =>
        rw [e3] at e
        cases e
        rw [List.length_cons, List.length_cons, pairs_len ps (k + 1) rs e3]
theorem tup_loop {n : Nat} {d m : PV} {y : Sl} {E : Out (List PV) → Prop} : ∀ (ps : List PV) (k : Nat) (qs : List (Nat × Nat)) (acc : List PV), pairsOf n ps k = .ok qs → acc.length + ps.length ≤ 1000 →
    E (.val (acc ++ qs.map pairT) [.fz m, .fz d, y, .no, .no, .no]) → Wp (noX (lcL [5] (setM 5) (M.ret true) (unM tupleP (varM 5)) ps acc) [.fz m, .fz d, y, .no, .no, .no]) E
  | [], k, qs, acc, e, _, h => by
    cases e
    exact wp_lcL_nil (by simpa using h)
  | p :: ps, k, qs, acc, e, l, h => by
    rw [List.length_cons] at l
    cases e2 : twoOf n p with
    | none => rw [pairsOf, e2] at e; cases e
    | some q =>
      rw [pairs_one e2] at e
      cases e3 : pairsOf n ps (k + 1) with
      | error m => rw [e3] at e; cases e
      | ok rs =>
        rw [e3] at e
        cases e
        have e4 := two_inv e2
        have nxt : Wp (noX (lcL [5] (setM 5) (M.ret true) (unM tupleP (varM 5)) ps (acc ++ [pairT q])) [.fz m, .fz d, y, .no, .no, .no]) E := tup_loop ps (k + 1) rs _ e3 (by rw [List.length_append, List.length_singleton]; omega) (by rw [List.append_assoc]; exact h)
        refine wp_lcL_cons (by omega) ?_
        cases p with
        | lst xs =>
          cases e4
          walk_at "ev"
          exact nxt
        | tup xs =>
          cases e4
          walk_at "ev"
          exact nxt
        | _ => cases e4
theorem due_ring {n : Nat} {R : Bits} {d : PV} {u : Sl} {E : Out Fl → Prop} (sq : Sq n R) : ∀ (xs : List Nat) (y : Sl), (∀ i ∈ xs, i < n) →
    (match xs.find? (fun x => getB R x x) with
      | some k => ∀ s, E (.val (.rt (.fz (.tup [.str "ring", .int k]))) s)
      | none => ∀ y, E (.val .nx [.fz (.int n), .fz d, u, .ow (rowsP R), y, .no])) →
    Wp (forL (setM 4) B2_law_due (xs.map fun (i : Nat) => PV.int (i : Nat)) [.fz (.int n), .fz d, u, .ow (rowsP R), y, .no]) E
  | [], y, _, h => wp_forL_nil (h y)
  | x :: xs, y, hb, h => by
    have hx := hb x List.mem_cons_self
    refine wp_forL_cons ?_
    rw [List.find?_cons] at h
    unfold B2_law_due
    walk_at "ev"
    simp only [atI_nat, rows_row sq hx]
    walk_at "ev"
    simp only [atI_nat, row_bit sq hx hx]
    walk_at "ev"
    cases e : getB R x x with
    | true =>
      rw [e] at h
      rw [if_pos rfl]
      exact ⟨by decide, h _⟩
    | false =>
      rw [e] at h
      rw [if_neg (by simp)]
      exact due_ring sq xs _ (fun i z => hb i (List.mem_cons_of_mem _ z)) h
theorem due_least {n : Nat} {R : Bits} {d : PV} {u : Sl} {E : Out Fl → Prop} (sq : Sq n R) (n1 : 1 ≤ n) : ∀ (xs : List Nat) (y : Sl), (∀ i ∈ xs, i < n) →
    (match xs.find? (fun x => ! getB R 0 x) with
      | some k => ∀ s, E (.val (.rt (.fz (.tup [.str "least", .int k]))) s)
      | none => ∀ y, E (.val .nx [.fz (.int n), .fz d, u, .ow (rowsP R), y, .no])) →
    Wp (forL (setM 4) B3_law_due (xs.map fun (i : Nat) => PV.int (i : Nat)) [.fz (.int n), .fz d, u, .ow (rowsP R), y, .no]) E
  | [], y, _, h => wp_forL_nil (h y)
  | x :: xs, y, hb, h => by
    have hx := hb x List.mem_cons_self
    refine wp_forL_cons ?_
    rw [List.find?_cons] at h
    unfold B3_law_due
    have a0 : atI (rowsP R) (0 : Int) = some (.lst ((R.getD 0 []).map PV.bl)) := by
      have := atI_nat (xs := rowsP R) (i := 0)
      rw [rows_row sq n1] at this
      exact this
    walk_at "ev"
    simp only [a0]
    walk_at "ev"
    simp only [atI_nat, row_bit sq n1 hx]
    walk_at "ev"
    cases e : getB R 0 x with
    | true =>
      rw [e] at h
      rw [if_neg (by simp)]
      exact due_least sq n1 xs _ (fun i z => hb i (List.mem_cons_of_mem _ z)) h
    | false =>
      rw [e] at h
      rw [if_pos rfl]
      exact ⟨by decide, h _⟩
theorem due_wp {d p : PV} {E : Except Xc Rv → Prop} (bd : basicD d = true) (od : okD d) (bp : basicD p = true) (hp : (∃ ps, p = .lst ps) ∨ seqItems p = none) (hs : ∀ ps, seqItems p = some ps → ∀ x ∈ ps, basic2 x) (h : E (.ok (.fz (dueD (faultX d p))))) : Wp (den_law_due [d, p]) E := by
  have nd : d.nh = true := by cases d <;> first | rfl | cases bd
  have np : p.nh = true := by cases p <;> first | rfl | cases bp
  by_cases hw : wholeB d (.int 1) (.int 24) = true
  · cases d with
    | int v =>
      have hw : (decide (1 ≤ v) && decide (v ≤ 24)) = true := hw
      rw [Bool.and_eq_true, decide_eq_true_eq, decide_eq_true_eq] at hw
      obtain ⟨n, rfl⟩ := Int.eq_ofNat_of_zero_le (show 0 ≤ v by omega)
      have n1 : 1 ≤ n := by omega
      have n2 : n ≤ 24 := by omega
      have w := law_state_eq (d := .int (n : Int)) (n := 25) rfl
      have ws : wholeB (.int (n : Int)) (.int 0) (.int (25 - 1)) = true := by
        show (decide ((0 : Int) ≤ n) && decide ((n : Int) ≤ 25 - 1)) = true
        rw [decide_eq_true (by omega), decide_eq_true (by omega)]
        rfl
      have ne : PV.eqv (.int (n : Int)) (.int 0) = false := eqv_ne (by omega)
      rw [ws] at w
      rcases hp with ⟨ps, rfl⟩ | hp
      · rw [faultX_seq n1 n2 rfl] at h
        have hb := hs ps rfl
        (simp only [den_law_due, F_law_due]; try walk_at "ev")
        simp only [w]
        walk_at "ev"
        refine ⟨⟨okI, okI⟩, ?_⟩
        rw [if_neg (by rw [ne]; simp)]
        by_cases l : 600 < ps.length
        · rw [faultS_long l] at h
          rw [if_pos (by omega)]
          exact ⟨by decide, h⟩
        · rw [if_neg (by omega)]
          refine ⟨by omega, ?_⟩
          have er : rgD 0 ((ps.length : Nat) : Int) = (List.range' 0 ps.length).map fun (i : Nat) => PV.int (i : Nat) := by
            rw [rgD_0, List.range_eq_range']
            rfl
          rw [er]
          simp only [wp_bindT, wp_bindO]
          refine due_pairs ps ps 0 _ hb (fun i => by rw [Nat.zero_add]) ?_
          cases e2 : pairsOf n ps 0 with
          | error k =>
            rw [faultS_pair l e2] at h
            intro s
            walk_at "ev"
            exact h
          | ok qs =>
            rw [faultS_ok l e2] at h
            intro y
            walk_at "ev"
            refine tup_loop ps 0 qs [] e2 (by rw [List.length_nil]; omega) ?_
            have hbq := pairs_in ps 0 qs e2
            walk_at "ev"
            simp only [wp_bindT]
            refine strict_wp n2 hbq (by have := pairs_len ps 0 qs e2; omega) ?_
            have sq := (Sq.fold (fun _ _ hx z => Sq.fold (fun _ _ hy z => z.orR hx hy) n (Nat.le_refl _) z) n (Nat.le_refl _) (Sq.pairs qs _ hbq Sq.zero))
            have sq : Sq n (LW.orAll n (qs.foldl pairB (zeroB n))) := sq
            walk_at "ev"
            refine ⟨by omega, ?_⟩
            rw [rgD_nat]
            refine due_ring sq (List.range n) _ (fun i z => List.mem_range.mp z) ?_
            unfold checkX at h
            cases e4 : (List.range n).find? (fun x => getB (LW.orAll n (qs.foldl pairB (zeroB n))) x x) with
            | some k =>
              rw [e4] at h
              intro s
              walk_at "ev"
              exact h
            | none =>
              rw [e4] at h
              intro y
              walk_at "ev"
              refine ⟨by omega, ?_⟩
              rw [rgD_one n1]
              refine due_least sq n1 (from1 n) _ (fun i z => from1_lt z) ?_
              cases e5 : (from1 n).find? (fun x => ! getB (LW.orAll n (qs.foldl pairB (zeroB n))) 0 x) with
              | some k =>
                rw [e5] at h
                intro s
                walk_at "ev"
                exact h
              | none =>
                rw [e5] at h
                intro y
                walk_at "ev"
                exact h
      · rw [faultX_no n1 n2 hp] at h
        cases p with
        | lst ps => cases hp
        | tup ps => cases hp
        | ins _ _ => cases bp
        | hand => cases bp
        | ty _ => cases bp
        | cls _ => cases bp
        | _ => (simp only [den_law_due, F_law_due]; try walk_at "ev")
               simp only [w]
               walk_at "ev"
               refine ⟨⟨okI, okI⟩, ?_⟩
               rw [if_neg (by rw [ne]; simp)]
               exact ⟨by decide, h⟩
    | _ => cases hw
  · have hw : wholeB d (.int 1) (.int 24) = false := by simpa using hw
    rw [faultX_st hw] at h
    have w := law_state_eq (d := d) (n := 25) bd
    (simp only [den_law_due, F_law_due]; try walk_at "ev")
    simp only [w]
    walk_at "ev"
    cases hw2 : wholeB d (.int 0) (.int (25 - 1)) with
    | false =>
      rw [if_pos rfl]
      exact ⟨by decide, h⟩
    | true =>
      rw [if_neg (by simp)]
      cases d with
      | int v =>
        have hw2 : (decide (0 ≤ v) && decide (v ≤ 25 - 1)) = true := hw2
        have hw : (decide (1 ≤ v) && decide (v ≤ 24)) = false := hw
        rw [Bool.and_eq_true, decide_eq_true_eq, decide_eq_true_eq] at hw2
        have v0 : v = 0 := by
          apply Classical.byContradiction
          intro hv
          rw [decide_eq_true (show 1 ≤ v by omega), decide_eq_true (show v ≤ 24 by omega)] at hw
          cases hw
        subst v0
        rw [if_pos (show (PV.int 0).nh = true from rfl)]
        refine ⟨⟨okI, okI⟩, ?_⟩
        rw [if_pos (show PV.eqv (.int 0) (.int 0) = true from rfl)]
        exact ⟨by decide, h⟩
      | _ => cases hw2
end LW
namespace LW
open PySem PySem.Spec PyProof.Rows L2 L3 L4
local macro_rules | `(tactic| walk_at "ew") => `(tactic| simp only [bindO_val, bindO_exc, bindO_need, bindO_stuck, bindO_draw, bindO_ite, bind_ret, bind_need, bind_stuck, bind_draw, bind_ite, app_bind, app_ret, app_stuck, app_lift, app_ite, app_setl, stl_fz, stl_bw, stl_ow, app_var, varK_fz, varK_ow, app_vw_fz, app_vw_bw, bwV_some, lstOf_ow, lstOf_fz, app_frz_fz, app_frz_ow, app_frz_bw, app_frzD, nh_non, nh_bl, nh_int, nh_str, nh_tup, nh_lst, nh_ins, nh_ty, nh_cls, app_op, app_un, app_cb, app_vwA_nil, app_vwA_cons, app_frzA_nil, app_frzA_cons, app_frzC_nil, app_frzC_cons, app_liftR, fv_fz, fv_ow, app_tup, app_lst, app_call, app_out, outK_ok, outK_err, noK_ok, app_test, testK_bl, app_and, app_or, app_not, app_tru, app_iteM, app_blM, app_andT, app_orT, app_notT, app_chain, chainK_bl, app_seq, seqK_nx, seqK_rt, seqK_bk, seqK_ct, app_asg, app_rt, rtv_fz, rtv_ow, rtv_bw, rtS_ow, rtS_fz, app_drop, set_fz, set_ow, set_bw, app_tupTg, tupTK_tup, app_tgs_nil, app_tgs_cons, app_store, storeK_bw, stS_ow, stN_some, stS_K, stS_T, stK_some, stT_some, stl_nd, varK_oi, varK_od, lstOf_od, lstOf_fzK, lstOf_fzT, app_frz_nd, nh_dK, nh_dT, rtv_nd, rtS_od, set_nd, app_dnewK, app_dnewT, app_fld, fldV_fz, fldV_bw, fldS_oi, fldS_fz, app_fldK, fldG_some, app_sfld, sfldK_oi, app_make, app_outI, outIK_ok, outIK_err, app_meth, methO_fz, app_prop, propO_fz, app_callK, app_xis2, xis2K_xc, app_lc2, boolP, max2P, min2P, divmodP, insertP, sortK, sortedP, reprP, dicP, gotK, keyK, keyA, keyT, getZ, setZ, putZk, putZd, mixK, List.any_nil, List.any_cons, List.flatMap_cons, List.flatMap_nil, List.drop_zero, List.drop_succ_cons, List.take_succ_cons, List.take_zero, app_bm, isLst_lst, bmK_bw, bmS_ow, app_index, app_draw, drawK_hand, app_sl, app_part, partK_int, app_isi2, app_rg1, rg1K_f, rg1K_t, app_rg2, rg2K_f, rg2K_t, app_rng1, rng1K_int, app_rng2, rng2K_int, app_seqS, items_lst, items_tup, app_enum1, app_for, app_lc, wipe_nil, wipe_cons, app_raise, app_raise0, app_try, tryK_val, tryK_exc, hdM_nil, hdM_some, hdM_none, app_xf, xfK_xc, xfL_some, app_xis, xisK_xc, app_aug, app_par, parK_two, endK_nx, endK_rt, endK_exc, wp_ret, wp_need, wp_stuck, wp_draw, wp_ite, wp_bindO, afterO_val, afterO_exc, stepP_nx, stepP_ct, stepP_bk, stepP_rt, stepP_exc, testP_t, testP_f, testP_b, eltP_fz, eltP_ow, eltP_nd, tstP_b, wp_bindO, app_den, app_noExc, noK_ok, p2I, p2C, subP, L4.ltP, leP, gtP, geP, fdivP, modP, powP, shlP, shrP, bandP, borP, bxorP, addP, mulP, eqP, neP, isNonD, isNP, notNP, isBlD, isBP, negP, invP, itP, ixP, lenP, int1P, absP, listP, tupleP, sumK, sumP, anyK, anyP, allP, mxK, maxP, minP, tyB, basicD, blK, isiP, orO, slP, appendP, extendP, popK, popAt, popAtP, popL, popP, reverseP, clearP, natK, indexP, inP, ninP, truV, cleanK, bareK, noXc, subs, subRow, List.lookup, List.map_cons, List.map_nil, List.nil_append, List.cons_append, List.length_cons, List.length_nil, List.replicate_succ, List.replicate_zero, Nat.reduceSub, Nat.reduceAdd, Nat.zero_add, List.getElem?_cons_zero, List.getElem?_cons_succ, List.getElem?_nil, List.set_cons_zero, List.set_cons_succ, List.append_nil, if_true, if_false, ite_true, ite_false, Bool.false_eq_true, Bool.not_true, Bool.not_false, decide_eq_true_eq, Bool.not_eq_true', decide_eq_false_iff_not, true_and, and_true, Bool.true_eq_false, reduceIte, reduceCtorEq, Bool.or_true, Bool.or_false, Bool.true_or, Bool.false_or, Bool.and_true, Bool.and_false, Bool.true_and, Bool.false_and, not_true_eq_false, not_false_eq_true, List.zip_cons_cons, List.zip_nil_left, List.zip_nil_right, List.reverse_cons, List.reverse_nil, List.getD_cons_zero, List.getD_cons_succ, String.reduceEq, wp_bindT])
theorem faultX_eq {d p q : PV} (e : seqItems p = seqItems q) : faultX d p = faultX d q := by
  unfold faultX
  rw [e]
theorem exact_due {d p : PV} {E : Except Xc Rv → Prop} (h : E (.ok (.fz (.bl true)))) : Wp (den_law_exact [dueD (faultX d p), dueD (faultX d p)]) E := by
  cases e : faultX d p with
  | none => exact exact_flat (d := .non) rfl h
  | some x =>
    obtain ⟨k, w, rfl, hw⟩ := fault_form e
    refine exact_flats (n := 3) (ds := [.str w, .int k]) (fun d hd => ?_) (by show 2 ≤ 1000; decide) h
    rcases List.mem_cons.mp hd with rfl | hd
    · exact hw
    · rw [List.mem_singleton.mp hd]; rfl
theorem due_nh {x : Option Xc} : (dueD x).nh = true := by cases x <;> rfl
theorem tup_plain {ps : List PV} {m : Nat} (h : lsOk m ps) : ShowOk 4 (m * 21) (.tup ps) := by
  have a : ShowOkA 3 (ps.length * (20 + 1)) ps := ShowOkA.all fun x hx => (h.2 x hx).2.1
  exact a.tup.mono (by decide) (Nat.mul_le_mul_right _ h.1)
theorem lsOk.strs {ps : List PV} {m : Nat} (h : lsOk m ps) : strsA ps = true := strsA_all fun x hx => (h.2 x hx).2.2.2
def reprS : PV → Str
  | .dK [] [] => PyData.shown (.dict [])
  | q => q.pd.shown
theorem reprD_wp {q : PV} {E : Rv → Prop} (hr : q = .dK [] [] ∨ (reprOk q ∧ strsB q = true)) (h : E (.fz (.str (reprS q)))) : Wp (reprD q) E := by
  rcases hr with rfl | ⟨hr, _⟩
  · exact ⟨h⟩
  · cases q with
    | dK ks ds => cases hr.1
    | _ => exact ⟨⟨hr, h⟩⟩
theorem reprS_ok {q : PV} (hr : q = .dK [] [] ∨ (reprOk q ∧ strsB q = true)) : PyData.strOk (reprS q) = true := by
  rcases hr with rfl | ⟨hr, hs⟩
  · decide +kernel
  · cases q with
    | dK ks ds => cases hr.1
    | _ => exact shown_strOk _ hs
theorem eqv_str {s : Str} : PV.eqv (.str s) (.str s) = true := by
  show (s == s) = true
  simp
theorem turn_ok {x y z u v : Sl} {E : Out Fl → Prop} {t : PV} {J : S4 → Prop} (h : ∀ x y z u v, J [.no, .fz .hand, x, y, z, u, v, .no]) : Wp (bindO (setM 2 (.fz t) [.no, .fz .hand, x, y, z, u, v, .no]) fun _ => B1_law) (stepP E J) := by
  unfold B1_law
  walk_at "ew"
  refine case_wp fun d p hd hp => ?_
  have nd := hd.nh
  have np := hp.nh
  rcases hp with ⟨ps, rfl, hp⟩ | ⟨bp, hn, hr⟩
  · have hs : ∀ ps', seqItems (.lst ps) = some ps' → ∀ x ∈ ps', basic2 x := fun ps' e x hx => by cases e; exact (hp.2 x hx).1
    have ht : ∀ ps', seqItems (.tup ps) = some ps' → ∀ x ∈ ps', basic2 x := fun ps' e x hx => by cases e; exact (hp.2 x hx).1
    walk_at "ew"
    have hpl : (∃ ps', PV.lst ps = .lst ps') ∨ seqItems (.lst ps) = none := .inl ⟨ps, rfl⟩
    have bp : basicD (.lst ps) = true := rfl
    refine seq_wp ?_ ?_
    · have hr : PV.lst ps = .dK [] [] ∨ (reprOk (.lst ps) ∧ strsB (.lst ps) = true) := .inr ⟨(lst_plain hp).repr (by decide) (by decide), hp.strs⟩
      have bq := bp
      have hsq := hs
      have eqs : faultX d (.lst ps) = faultX d (.lst ps) := rfl
      walk_at "ew"
      refine reprD_wp hr ?_
      walk_at "ew"
      refine told_wp hd.1 hd.2 bq hsq ?_
      walk_at "ew"
      refine due_wp hd.1 hd.2 bp hpl hs ?_
      walk_at "ew"
      rw [eqs]
      refine exact_due ?_
      walk_at "ew"
      refine reprD_wp hr ?_
      walk_at "ew"
      refine ⟨⟨⟨reprS_ok hr, Nat.le_of_ble_eq_true rfl⟩, ⟨reprS_ok hr, Nat.le_of_ble_eq_true rfl⟩⟩, ?_⟩
      rw [eqv_str]
      exact h _ _ _ _ _
    · have hr : PV.tup ps = .dK [] [] ∨ (reprOk (.tup ps) ∧ strsB (.tup ps) = true) := .inr ⟨(tup_plain hp).repr (by decide) (by decide), hp.strs⟩
      have bq : basicD (.tup ps) = true := rfl
      have hsq := ht
      have eqs : faultX d (.tup ps) = faultX d (.lst ps) := faultX_eq rfl
      walk_at "ew"
      refine reprD_wp hr ?_
      walk_at "ew"
      refine told_wp hd.1 hd.2 bq hsq ?_
      walk_at "ew"
      refine due_wp hd.1 hd.2 bp hpl hs ?_
      walk_at "ew"
      rw [eqs]
      refine exact_due ?_
      walk_at "ew"
      refine reprD_wp hr ?_
      walk_at "ew"
      refine ⟨⟨⟨reprS_ok hr, Nat.le_of_ble_eq_true rfl⟩, ⟨reprS_ok hr, Nat.le_of_ble_eq_true rfl⟩⟩, ?_⟩
      rw [eqv_str]
      exact h _ _ _ _ _
  · have hpl : (∃ ps', p = .lst ps') ∨ seqItems p = none := .inr hn
    have hs : ∀ ps', seqItems p = some ps' → ∀ x ∈ ps', basic2 x := fun ps' e => by rw [hn] at e; cases e
    have bq := bp
    have hsq := hs
    have eqs : faultX d p = faultX d p := rfl
    cases p with
    | lst ps => cases hn
    | tup ps => cases hn
    | ins _ _ => cases bp
    | hand => cases bp
    | ty _ => cases bp
    | cls _ => cases bp
    | _ => walk_at "ew"
           refine reprD_wp hr ?_
           walk_at "ew"
           refine told_wp hd.1 hd.2 bq hsq ?_
           walk_at "ew"
           refine due_wp hd.1 hd.2 bp hpl hs ?_
           walk_at "ew"
           rw [eqs]
           refine exact_due ?_
           walk_at "ew"
           refine reprD_wp hr ?_
           walk_at "ew"
           refine ⟨⟨⟨reprS_ok hr, Nat.le_of_ble_eq_true rfl⟩, ⟨reprS_ok hr, Nat.le_of_ble_eq_true rfl⟩⟩, ?_⟩
           rw [eqv_str]
           exact h _ _ _ _ _
theorem turns {E : Out Fl → Prop} : ∀ (ts : List PV) (x y z u v : Sl), (∀ x y z u v, E (.val .nx [.no, .fz .hand, x, y, z, u, v, .no])) → Wp (forL (setM 2) B1_law ts [.no, .fz .hand, x, y, z, u, v, .no]) E
  | [], x, y, z, u, v, h => wp_forL_nil (h x y z u v)
  | t :: ts, x, y, z, u, v, h => wp_forL_cons (turn_ok fun x y z u v => turns ts x y z u v h)
def full : List PV := (List.replicate (Int.toNat 600) [PV.tup [PV.int 0, PV.int 1]]).flatten
theorem full_len : full.length = 600 := by decide +kernel
theorem full_none : faultS 2 full = none := by
  have h : (faultS 2 full).isNone = true := by decide +kernel
  exact Option.isNone_iff_eq_none.mp h
theorem full_it : ∀ p ∈ full, p = .tup [.int (0 : Nat), .int (1 : Nat)] := by
  unfold full
  intro p hp
  obtain ⟨l, hl, hp⟩ := List.mem_flatten.mp hp
  rw [(List.mem_replicate.mp hl).2] at hp
  exact List.mem_singleton.mp hp
theorem lawTrueW : Wp (F_law (.no :: .fz .hand :: List.replicate 6 .no)) (oK (fun o _ => match o with | .rt (.fz (.bl true)) => True | _ => False) (fun _ _ => False)) := by
  (simp only [F_law]; try walk_at "ew")
  refine wholes_wp ?_
  walk_at "ew"
  refine ⟨by decide, ?_⟩
  refine turns _ _ _ _ _ _ fun x y z u v => ?_
  have b1 : basic2 (.tup [.int (0 : Nat), .int (1 : Nat)]) := (itOk.nat (i := 0) (j := 1) (by decide) (by decide)).1
  have hb : ∀ p ∈ full, basic2 p := fun p hp => by rw [full_it p hp]; exact b1
  have f2 : faultX (.int 2) (.lst full) = none := (faultX_seq (n := 2) (by decide) (by decide) rfl).trans full_none
  have l2 : 600 < (full ++ [PV.tup [.int (0 : Nat), .int (1 : Nat)]]).length := by rw [List.length_append, full_len]; decide
  have f3 : faultX (.int 2) (.lst (full ++ [PV.tup [.int (0 : Nat), .int (1 : Nat)]])) = some pairsErr := (faultX_seq (n := 2) (by decide) (by decide) rfl).trans (faultS_long l2)
  walk_at "ew"
  rw [show (List.replicate (Int.toNat 600) [PV.tup [PV.int 0, PV.int 1]]).flatten = full from rfl]
  refine ⟨by decide, by decide, ⟨by decide, by decide, by decide⟩, ?_⟩
  refine told_wp rfl okI rfl (fun ps e x hx => by cases e; exact hb x hx) ?_
  rw [f2]
  simp only [dueD]
  walk_at "ew"
  refine ⟨by decide, by decide, by rw [full_len]; decide, ?_⟩
  refine told_wp rfl okI rfl (fun ps e x hx => ?_) ?_
  · cases e
    rcases List.mem_append.mp hx with z | z
    · exact hb x z
    · rw [List.mem_singleton.mp z]; exact b1
  rw [show faultX (.int 2) (.lst (full ++ [PV.tup [PV.int 0, PV.int 1]])) = some pairsErr from f3]
  rw [show dueD (some pairsErr) = .tup [.str "pairs", .int 0] from rfl]
  walk_at "ew"
  refine ⟨by decide, ?_⟩
  refine exact_flats (n := 3) (ds := [.str "pairs", .int 0]) (fun d hd => ?_) (by show 2 ≤ 1000; decide) ?_
  · rcases List.mem_cons.mp hd with rfl | hd
    · show PyData.strOk _ = true
      decide +kernel
    · rw [List.mem_singleton.mp hd]; rfl
  walk_at "ew"
  trivial
theorem lawTrue : LawTrue := lawTrueW.run
end LW
namespace LW
open PySem PySem.Spec PyProof.Rows L2 L3 L4
section
variable {P : Program} {w : World} {K : PySem.W.Frag} {mg : Str → Option Value} {base : Heap} {a : Adr}
theorem ok_law (T : Top K mg a) : FnG P w K mg base CX0 7 a.f_law a.d_law ["_law_script"] (spLaw K) := ok_law_of lawTrue T
end
theorem all_mk {l : PySem.W.OpenLaw} {w : World} {K : PySem.W.Frag} {h : Heap} {mg : Str → Option Value} {fa : Addr} (X : K.In h) (G : h.Ns mainGlobals mg) (hfa : mg "law" = some (.ref fa))
    {C_FrameError C_BadOrder C_BadMake C_BadData C_Order f_BadOrder_init f_BadMake_init f_BadData_init f_Order_init f_is_whole f_is_sequence f_closed_masks f_check_masks f_states_of_mask f_covers_of_masks f_law_mix f_law_draw f_law_shuffled f_law_closed f_law_order f_law_exact f_law_hand f_law_seq f_law_strict f_law_state f_law_due f_law_told f_law_spoilt f_law_case f_law_wholes f_law : Addr}
    {nm_FrameError q_FrameError : Str} {N_FrameError : Addr} {bs_FrameError : List Value} {sn_FrameError : List Str} {sub_FrameError : List Value} {ab_FrameError : Bool} {col_FrameError : Option Bool} {dd_FrameError : Option Addr} {m0_FrameError m1_FrameError m2_FrameError m3_FrameError m5_FrameError : Option Value}
    {nm_BadOrder q_BadOrder : Str} {N_BadOrder : Addr} {bs_BadOrder : List Value} {sn_BadOrder : List Str} {sub_BadOrder : List Value} {ab_BadOrder : Bool} {col_BadOrder : Option Bool} {dd_BadOrder : Option Addr} {m0_BadOrder m1_BadOrder m2_BadOrder m3_BadOrder m5_BadOrder : Option Value}
    {nm_BadMake q_BadMake : Str} {N_BadMake : Addr} {bs_BadMake : List Value} {sn_BadMake : List Str} {sub_BadMake : List Value} {ab_BadMake : Bool} {col_BadMake : Option Bool} {dd_BadMake : Option Addr} {m0_BadMake m1_BadMake m2_BadMake m3_BadMake m5_BadMake : Option Value}
    {nm_BadData q_BadData : Str} {N_BadData : Addr} {bs_BadData : List Value} {sn_BadData : List Str} {sub_BadData : List Value} {ab_BadData : Bool} {col_BadData : Option Bool} {dd_BadData : Option Addr} {m0_BadData m1_BadData m2_BadData m3_BadData m5_BadData : Option Value}
    {od_BadOrder_init an_BadOrder_init : Option Addr} {sl_BadOrder_init : Array (Option Value)} {oc_BadOrder_init kV_BadOrder_init dc_BadOrder_init pm_BadOrder_init cd_BadOrder_init ct_BadOrder_init : Value}
    {od_BadMake_init an_BadMake_init : Option Addr} {sl_BadMake_init : Array (Option Value)} {oc_BadMake_init kV_BadMake_init dc_BadMake_init pm_BadMake_init cd_BadMake_init ct_BadMake_init : Value}
    {od_BadData_init an_BadData_init : Option Addr} {sl_BadData_init : Array (Option Value)} {oc_BadData_init kV_BadData_init dc_BadData_init pm_BadData_init cd_BadData_init ct_BadData_init : Value}
    {od_Order_init an_Order_init : Option Addr} {sl_Order_init : Array (Option Value)} {oc_Order_init kV_Order_init dc_Order_init pm_Order_init cd_Order_init ct_Order_init : Value}
    {od_is_whole an_is_whole : Option Addr} {sl_is_whole : Array (Option Value)} {oc_is_whole kV_is_whole dc_is_whole pm_is_whole cd_is_whole ct_is_whole : Value}
    {dT_is_whole : Addr} {dn_is_whole : Nat}
    {od_is_sequence an_is_sequence : Option Addr} {sl_is_sequence : Array (Option Value)} {oc_is_sequence kV_is_sequence dc_is_sequence pm_is_sequence cd_is_sequence ct_is_sequence : Value}
    {od_closed_masks an_closed_masks : Option Addr} {sl_closed_masks : Array (Option Value)} {oc_closed_masks kV_closed_masks dc_closed_masks pm_closed_masks cd_closed_masks ct_closed_masks : Value}
    {od_check_masks an_check_masks : Option Addr} {sl_check_masks : Array (Option Value)} {oc_check_masks kV_check_masks dc_check_masks pm_check_masks cd_check_masks ct_check_masks : Value}
    {od_states_of_mask an_states_of_mask : Option Addr} {sl_states_of_mask : Array (Option Value)} {oc_states_of_mask kV_states_of_mask dc_states_of_mask pm_states_of_mask cd_states_of_mask ct_states_of_mask : Value}
    {od_covers_of_masks an_covers_of_masks : Option Addr} {sl_covers_of_masks : Array (Option Value)} {oc_covers_of_masks kV_covers_of_masks dc_covers_of_masks pm_covers_of_masks cd_covers_of_masks ct_covers_of_masks : Value}
    {od_law_mix an_law_mix : Option Addr} {sl_law_mix : Array (Option Value)} {oc_law_mix kV_law_mix dc_law_mix pm_law_mix cd_law_mix ct_law_mix : Value}
    {od_law_draw an_law_draw : Option Addr} {sl_law_draw : Array (Option Value)} {oc_law_draw kV_law_draw dc_law_draw pm_law_draw cd_law_draw ct_law_draw : Value}
    {od_law_shuffled an_law_shuffled : Option Addr} {sl_law_shuffled : Array (Option Value)} {oc_law_shuffled kV_law_shuffled dc_law_shuffled pm_law_shuffled cd_law_shuffled ct_law_shuffled : Value}
    {od_law_closed an_law_closed : Option Addr} {sl_law_closed : Array (Option Value)} {oc_law_closed kV_law_closed dc_law_closed pm_law_closed cd_law_closed ct_law_closed : Value}
    {od_law_order an_law_order : Option Addr} {sl_law_order : Array (Option Value)} {oc_law_order kV_law_order dc_law_order pm_law_order cd_law_order ct_law_order : Value}
    {od_law_exact an_law_exact : Option Addr} {sl_law_exact : Array (Option Value)} {oc_law_exact kV_law_exact dc_law_exact pm_law_exact cd_law_exact ct_law_exact : Value}
    {od_law_hand an_law_hand : Option Addr} {sl_law_hand : Array (Option Value)} {oc_law_hand kV_law_hand dc_law_hand pm_law_hand cd_law_hand ct_law_hand : Value}
    {od_law_seq an_law_seq : Option Addr} {sl_law_seq : Array (Option Value)} {oc_law_seq kV_law_seq dc_law_seq pm_law_seq cd_law_seq ct_law_seq : Value}
    {od_law_strict an_law_strict : Option Addr} {sl_law_strict : Array (Option Value)} {oc_law_strict kV_law_strict dc_law_strict pm_law_strict cd_law_strict ct_law_strict : Value}
    {od_law_state an_law_state : Option Addr} {sl_law_state : Array (Option Value)} {oc_law_state kV_law_state dc_law_state pm_law_state cd_law_state ct_law_state : Value}
    {od_law_due an_law_due : Option Addr} {sl_law_due : Array (Option Value)} {oc_law_due kV_law_due dc_law_due pm_law_due cd_law_due ct_law_due : Value}
    {od_law_told an_law_told : Option Addr} {sl_law_told : Array (Option Value)} {oc_law_told kV_law_told dc_law_told pm_law_told cd_law_told ct_law_told : Value}
    {od_law_spoilt an_law_spoilt : Option Addr} {sl_law_spoilt : Array (Option Value)} {oc_law_spoilt kV_law_spoilt dc_law_spoilt pm_law_spoilt cd_law_spoilt ct_law_spoilt : Value}
    {od_law_case an_law_case : Option Addr} {sl_law_case : Array (Option Value)} {oc_law_case kV_law_case dc_law_case pm_law_case cd_law_case ct_law_case : Value}
    {od_law_wholes an_law_wholes : Option Addr} {sl_law_wholes : Array (Option Value)} {oc_law_wholes kV_law_wholes dc_law_wholes pm_law_wholes cd_law_wholes ct_law_wholes : Value}
    {od_law an_law : Option Addr} {sl_law : Array (Option Value)} {oc_law kV_law dc_law pm_law cd_law ct_law : Value}
    {tk_MOST_STATES : Tok}
    {tk_MOST_PAIRS : Tok}
    (a_FrameError : PySem.W.nsIn K mainGlobals "FrameError" = some (some (.ref C_FrameError)))
    (a_BadOrder : PySem.W.nsIn K mainGlobals "BadOrder" = some (some (.ref C_BadOrder)))
    (a_BadMake : PySem.W.nsIn K mainGlobals "BadMake" = some (some (.ref C_BadMake)))
    (a_BadData : PySem.W.nsIn K mainGlobals "BadData" = some (some (.ref C_BadData)))
    (a_Order : PySem.W.nsIn K mainGlobals "Order" = some (some (.ref C_Order)))
    (xL_FrameError : K.lookup C_FrameError = some (excClassObj nm_FrameError q_FrameError C_FrameError N_FrameError bs_FrameError [.type "ValueError", .type "Exception", .type "BaseException", .type "object"] true sn_FrameError sub_FrameError ab_FrameError col_FrameError dd_FrameError m0_FrameError m1_FrameError m2_FrameError m3_FrameError m5_FrameError "ValueError.__new__"))
    (sa_FrameError : PySem.W.findIn K (.ref C_FrameError) "__setattr__" = some (some (.builtin "object.__setattr__")))
    (ga_FrameError : PySem.W.findIn K (.ref C_FrameError) "__getattribute__" = some (some (.builtin "BaseException.__getattribute__")))
    (gg_FrameError : PySem.W.findIn K (.ref C_FrameError) "__getattr__" = some none)
    (eC_FrameError : PySem.W.subIn K (.ref C_FrameError) (.type "BaseException") = some true)
    (tC_FrameError : PySem.W.typeIn K (.ref C_FrameError) = some (.type "type"))
    (kC_FrameError : PySem.W.keepIn K (.ref C_FrameError) = true)
    (hC_FrameError : PySem.W.hasDictIn K C_FrameError = true)
    (iC_FrameError : PySem.W.isClsIn K C_FrameError = true)
    (cC_FrameError : PySem.W.findIn K (.ref C_FrameError) "__class__" = some (some (.builtin "object.__class__")))
    (mC_FrameError : PySem.W.mroIn K C_FrameError (.type "object") = some true)
    (sb_FrameError_FrameError : PySem.W.subIn K (.ref C_FrameError) (.ref C_FrameError) = some true)
    (sb_FrameError_BadOrder : PySem.W.subIn K (.ref C_FrameError) (.ref C_BadOrder) = some false)
    (sb_FrameError_BadMake : PySem.W.subIn K (.ref C_FrameError) (.ref C_BadMake) = some false)
    (sb_FrameError_BadData : PySem.W.subIn K (.ref C_FrameError) (.ref C_BadData) = some false)
    (st_FrameError : PySem.W.subIn K (.ref C_FrameError) (.type "StopIteration") = some false)
    (sv_FrameError_ValueError : PySem.W.subIn K (.ref C_FrameError) (.type "ValueError") = some true)
    (xL_BadOrder : K.lookup C_BadOrder = some (excClassObj nm_BadOrder q_BadOrder C_BadOrder N_BadOrder bs_BadOrder [.ref C_FrameError, .type "ValueError", .type "Exception", .type "BaseException", .type "object"] true sn_BadOrder sub_BadOrder ab_BadOrder col_BadOrder dd_BadOrder m0_BadOrder m1_BadOrder m2_BadOrder m3_BadOrder m5_BadOrder "ValueError.__new__"))
    (sa_BadOrder : PySem.W.findIn K (.ref C_BadOrder) "__setattr__" = some (some (.builtin "object.__setattr__")))
    (ga_BadOrder : PySem.W.findIn K (.ref C_BadOrder) "__getattribute__" = some (some (.builtin "BaseException.__getattribute__")))
    (gg_BadOrder : PySem.W.findIn K (.ref C_BadOrder) "__getattr__" = some none)
    (eC_BadOrder : PySem.W.subIn K (.ref C_BadOrder) (.type "BaseException") = some true)
    (tC_BadOrder : PySem.W.typeIn K (.ref C_BadOrder) = some (.type "type"))
    (kC_BadOrder : PySem.W.keepIn K (.ref C_BadOrder) = true)
    (hC_BadOrder : PySem.W.hasDictIn K C_BadOrder = true)
    (iC_BadOrder : PySem.W.isClsIn K C_BadOrder = true)
    (cC_BadOrder : PySem.W.findIn K (.ref C_BadOrder) "__class__" = some (some (.builtin "object.__class__")))
    (mC_BadOrder : PySem.W.mroIn K C_BadOrder (.type "object") = some true)
    (sb_BadOrder_FrameError : PySem.W.subIn K (.ref C_BadOrder) (.ref C_FrameError) = some true)
    (sb_BadOrder_BadOrder : PySem.W.subIn K (.ref C_BadOrder) (.ref C_BadOrder) = some true)
    (sb_BadOrder_BadMake : PySem.W.subIn K (.ref C_BadOrder) (.ref C_BadMake) = some false)
    (sb_BadOrder_BadData : PySem.W.subIn K (.ref C_BadOrder) (.ref C_BadData) = some false)
    (no_BadOrder_what : PySem.W.findIn K (.ref C_BadOrder) "what" = some none)
    (no_BadOrder_at : PySem.W.findIn K (.ref C_BadOrder) "at" = some none)
    (st_BadOrder : PySem.W.subIn K (.ref C_BadOrder) (.type "StopIteration") = some false)
    (sv_BadOrder_ValueError : PySem.W.subIn K (.ref C_BadOrder) (.type "ValueError") = some true)
    (xL_BadMake : K.lookup C_BadMake = some (excClassObj nm_BadMake q_BadMake C_BadMake N_BadMake bs_BadMake [.ref C_FrameError, .type "ValueError", .type "Exception", .type "BaseException", .type "object"] true sn_BadMake sub_BadMake ab_BadMake col_BadMake dd_BadMake m0_BadMake m1_BadMake m2_BadMake m3_BadMake m5_BadMake "ValueError.__new__"))
    (sa_BadMake : PySem.W.findIn K (.ref C_BadMake) "__setattr__" = some (some (.builtin "object.__setattr__")))
    (ga_BadMake : PySem.W.findIn K (.ref C_BadMake) "__getattribute__" = some (some (.builtin "BaseException.__getattribute__")))
    (gg_BadMake : PySem.W.findIn K (.ref C_BadMake) "__getattr__" = some none)
    (eC_BadMake : PySem.W.subIn K (.ref C_BadMake) (.type "BaseException") = some true)
    (tC_BadMake : PySem.W.typeIn K (.ref C_BadMake) = some (.type "type"))
    (kC_BadMake : PySem.W.keepIn K (.ref C_BadMake) = true)
    (hC_BadMake : PySem.W.hasDictIn K C_BadMake = true)
    (iC_BadMake : PySem.W.isClsIn K C_BadMake = true)
    (cC_BadMake : PySem.W.findIn K (.ref C_BadMake) "__class__" = some (some (.builtin "object.__class__")))
    (mC_BadMake : PySem.W.mroIn K C_BadMake (.type "object") = some true)
    (sb_BadMake_FrameError : PySem.W.subIn K (.ref C_BadMake) (.ref C_FrameError) = some true)
    (sb_BadMake_BadOrder : PySem.W.subIn K (.ref C_BadMake) (.ref C_BadOrder) = some false)
    (sb_BadMake_BadMake : PySem.W.subIn K (.ref C_BadMake) (.ref C_BadMake) = some true)
    (sb_BadMake_BadData : PySem.W.subIn K (.ref C_BadMake) (.ref C_BadData) = some false)
    (no_BadMake_what : PySem.W.findIn K (.ref C_BadMake) "what" = some none)
    (no_BadMake_at : PySem.W.findIn K (.ref C_BadMake) "at" = some none)
    (st_BadMake : PySem.W.subIn K (.ref C_BadMake) (.type "StopIteration") = some false)
    (sv_BadMake_ValueError : PySem.W.subIn K (.ref C_BadMake) (.type "ValueError") = some true)
    (xL_BadData : K.lookup C_BadData = some (excClassObj nm_BadData q_BadData C_BadData N_BadData bs_BadData [.ref C_FrameError, .type "ValueError", .type "Exception", .type "BaseException", .type "object"] true sn_BadData sub_BadData ab_BadData col_BadData dd_BadData m0_BadData m1_BadData m2_BadData m3_BadData m5_BadData "ValueError.__new__"))
    (sa_BadData : PySem.W.findIn K (.ref C_BadData) "__setattr__" = some (some (.builtin "object.__setattr__")))
    (ga_BadData : PySem.W.findIn K (.ref C_BadData) "__getattribute__" = some (some (.builtin "BaseException.__getattribute__")))
    (gg_BadData : PySem.W.findIn K (.ref C_BadData) "__getattr__" = some none)
    (eC_BadData : PySem.W.subIn K (.ref C_BadData) (.type "BaseException") = some true)
    (tC_BadData : PySem.W.typeIn K (.ref C_BadData) = some (.type "type"))
    (kC_BadData : PySem.W.keepIn K (.ref C_BadData) = true)
    (hC_BadData : PySem.W.hasDictIn K C_BadData = true)
    (iC_BadData : PySem.W.isClsIn K C_BadData = true)
    (cC_BadData : PySem.W.findIn K (.ref C_BadData) "__class__" = some (some (.builtin "object.__class__")))
    (mC_BadData : PySem.W.mroIn K C_BadData (.type "object") = some true)
    (sb_BadData_FrameError : PySem.W.subIn K (.ref C_BadData) (.ref C_FrameError) = some true)
    (sb_BadData_BadOrder : PySem.W.subIn K (.ref C_BadData) (.ref C_BadOrder) = some false)
    (sb_BadData_BadMake : PySem.W.subIn K (.ref C_BadData) (.ref C_BadMake) = some false)
    (sb_BadData_BadData : PySem.W.subIn K (.ref C_BadData) (.ref C_BadData) = some true)
    (no_BadData_path : PySem.W.findIn K (.ref C_BadData) "path" = some none)
    (st_BadData : PySem.W.subIn K (.ref C_BadData) (.type "StopIteration") = some false)
    (sv_BadData_ValueError : PySem.W.subIn K (.ref C_BadData) (.type "ValueError") = some true)
    (pg_Order : PySem.W.plainGet K C_Order Str.empty = true)
    (hd_Order : PySem.W.hasDictIn K C_Order = true)
    (po_Order : PySem.W.plainOver K C_Order = true)
    (sa_Order : PySem.W.findIn K (.ref C_Order) "__setattr__" = some (some (.builtin "object.__setattr__")))
    (mk_Order : PySem.W.makesIn K C_Order = true)
    (kc_Order : PySem.W.keepIn K (.ref C_Order) = true)
    (na_Order_n : PySem.W.findIn K (.ref C_Order) "n" = some none)
    (na_Order_masks : PySem.W.findIn K (.ref C_Order) "masks" = some none)
    (na_Order_cover_rows : PySem.W.findIn K (.ref C_Order) "cover_rows" = some none)
    (na_Order_edges : PySem.W.findIn K (.ref C_Order) "edges" = some none)
    (sg : PySem.W.specialIn K (.builtin "object.__class__") "__get__" = some (some (.builtin "getset_descriptor.__get__")))
    (tg : PySem.W.takesIn K (.builtin "object.__class__") = some true)
    (a_BadOrder_init : PySem.W.findIn K (.ref C_BadOrder) "__init__" = some (some (.ref f_BadOrder_init)))
    (i_BadOrder_init : PySem.W.typeIn K (.ref f_BadOrder_init) = some (.type "function"))
    (l_BadOrder_init : K.lookup f_BadOrder_init = some ⟨oc_BadOrder_init, od_BadOrder_init, .func (PySem.W.fnOf "__init__" "BadOrder.__init__" (defArgs s_BadOrder_init) (defBody s_BadOrder_init) (defScope s_BadOrder_init) .none kV_BadOrder_init dc_BadOrder_init pm_BadOrder_init an_BadOrder_init cd_BadOrder_init ct_BadOrder_init), sl_BadOrder_init⟩)
    (c_BadOrder_init : PySem.W.codeIn K cd_BadOrder_init "BadOrder.__init__" = true)
    (k_BadOrder_init : PySem.W.keepIn K (.ref f_BadOrder_init) = true)
    (a_BadMake_init : PySem.W.findIn K (.ref C_BadMake) "__init__" = some (some (.ref f_BadMake_init)))
    (i_BadMake_init : PySem.W.typeIn K (.ref f_BadMake_init) = some (.type "function"))
    (l_BadMake_init : K.lookup f_BadMake_init = some ⟨oc_BadMake_init, od_BadMake_init, .func (PySem.W.fnOf "__init__" "BadMake.__init__" (defArgs s_BadMake_init) (defBody s_BadMake_init) (defScope s_BadMake_init) .none kV_BadMake_init dc_BadMake_init pm_BadMake_init an_BadMake_init cd_BadMake_init ct_BadMake_init), sl_BadMake_init⟩)
    (c_BadMake_init : PySem.W.codeIn K cd_BadMake_init "BadMake.__init__" = true)
    (k_BadMake_init : PySem.W.keepIn K (.ref f_BadMake_init) = true)
    (a_BadData_init : PySem.W.findIn K (.ref C_BadData) "__init__" = some (some (.ref f_BadData_init)))
    (i_BadData_init : PySem.W.typeIn K (.ref f_BadData_init) = some (.type "function"))
    (l_BadData_init : K.lookup f_BadData_init = some ⟨oc_BadData_init, od_BadData_init, .func (PySem.W.fnOf "__init__" "BadData.__init__" (defArgs s_BadData_init) (defBody s_BadData_init) (defScope s_BadData_init) .none kV_BadData_init dc_BadData_init pm_BadData_init an_BadData_init cd_BadData_init ct_BadData_init), sl_BadData_init⟩)
    (c_BadData_init : PySem.W.codeIn K cd_BadData_init "BadData.__init__" = true)
    (k_BadData_init : PySem.W.keepIn K (.ref f_BadData_init) = true)
    (a_Order_init : PySem.W.findIn K (.ref C_Order) "__init__" = some (some (.ref f_Order_init)))
    (i_Order_init : PySem.W.isFn K (.ref f_Order_init) = true)
    (l_Order_init : K.lookup f_Order_init = some ⟨oc_Order_init, od_Order_init, .func (PySem.W.fnOf "__init__" "Order.__init__" (defArgs s_Order_init) (defBody s_Order_init) (defScope s_Order_init) .none kV_Order_init dc_Order_init pm_Order_init an_Order_init cd_Order_init ct_Order_init), sl_Order_init⟩)
    (c_Order_init : PySem.W.codeIn K cd_Order_init "Order.__init__" = true)
    (k_Order_init : PySem.W.keepIn K (.ref f_Order_init) = true)
    (a_is_whole : PySem.W.nsIn K mainGlobals "is_whole" = some (some (.ref f_is_whole)))
    (l_is_whole : K.lookup f_is_whole = some ⟨oc_is_whole, od_is_whole, .func (PySem.W.fnOf "is_whole" "is_whole" (defArgs s_is_whole) (defBody s_is_whole) (defScope s_is_whole) (.ref dT_is_whole) kV_is_whole dc_is_whole pm_is_whole an_is_whole cd_is_whole ct_is_whole), sl_is_whole⟩)
    (lt_is_whole : K.lookup dT_is_whole = some ⟨.type "tuple", none, .seq #[.none, .none] dn_is_whole, #[]⟩)
    (c_is_whole : PySem.W.codeIn K cd_is_whole "is_whole" = true)
    (k_is_whole : PySem.W.keepIn K (.ref f_is_whole) = true)
    (a_is_sequence : PySem.W.nsIn K mainGlobals "is_sequence" = some (some (.ref f_is_sequence)))
    (l_is_sequence : K.lookup f_is_sequence = some ⟨oc_is_sequence, od_is_sequence, .func (PySem.W.fnOf "is_sequence" "is_sequence" (defArgs s_is_sequence) (defBody s_is_sequence) (defScope s_is_sequence) .none kV_is_sequence dc_is_sequence pm_is_sequence an_is_sequence cd_is_sequence ct_is_sequence), sl_is_sequence⟩)
    (c_is_sequence : PySem.W.codeIn K cd_is_sequence "is_sequence" = true)
    (k_is_sequence : PySem.W.keepIn K (.ref f_is_sequence) = true)
    (a_closed_masks : PySem.W.nsIn K mainGlobals "closed_masks" = some (some (.ref f_closed_masks)))
    (l_closed_masks : K.lookup f_closed_masks = some ⟨oc_closed_masks, od_closed_masks, .func (PySem.W.fnOf "closed_masks" "closed_masks" (defArgs s_closed_masks) (defBody s_closed_masks) (defScope s_closed_masks) .none kV_closed_masks dc_closed_masks pm_closed_masks an_closed_masks cd_closed_masks ct_closed_masks), sl_closed_masks⟩)
    (c_closed_masks : PySem.W.codeIn K cd_closed_masks "closed_masks" = true)
    (k_closed_masks : PySem.W.keepIn K (.ref f_closed_masks) = true)
    (a_check_masks : PySem.W.nsIn K mainGlobals "check_masks" = some (some (.ref f_check_masks)))
    (l_check_masks : K.lookup f_check_masks = some ⟨oc_check_masks, od_check_masks, .func (PySem.W.fnOf "check_masks" "check_masks" (defArgs s_check_masks) (defBody s_check_masks) (defScope s_check_masks) .none kV_check_masks dc_check_masks pm_check_masks an_check_masks cd_check_masks ct_check_masks), sl_check_masks⟩)
    (c_check_masks : PySem.W.codeIn K cd_check_masks "check_masks" = true)
    (k_check_masks : PySem.W.keepIn K (.ref f_check_masks) = true)
    (a_states_of_mask : PySem.W.nsIn K mainGlobals "states_of_mask" = some (some (.ref f_states_of_mask)))
    (l_states_of_mask : K.lookup f_states_of_mask = some ⟨oc_states_of_mask, od_states_of_mask, .func (PySem.W.fnOf "states_of_mask" "states_of_mask" (defArgs s_states_of_mask) (defBody s_states_of_mask) (defScope s_states_of_mask) .none kV_states_of_mask dc_states_of_mask pm_states_of_mask an_states_of_mask cd_states_of_mask ct_states_of_mask), sl_states_of_mask⟩)
    (c_states_of_mask : PySem.W.codeIn K cd_states_of_mask "states_of_mask" = true)
    (k_states_of_mask : PySem.W.keepIn K (.ref f_states_of_mask) = true)
    (a_covers_of_masks : PySem.W.nsIn K mainGlobals "covers_of_masks" = some (some (.ref f_covers_of_masks)))
    (l_covers_of_masks : K.lookup f_covers_of_masks = some ⟨oc_covers_of_masks, od_covers_of_masks, .func (PySem.W.fnOf "covers_of_masks" "covers_of_masks" (defArgs s_covers_of_masks) (defBody s_covers_of_masks) (defScope s_covers_of_masks) .none kV_covers_of_masks dc_covers_of_masks pm_covers_of_masks an_covers_of_masks cd_covers_of_masks ct_covers_of_masks), sl_covers_of_masks⟩)
    (c_covers_of_masks : PySem.W.codeIn K cd_covers_of_masks "covers_of_masks" = true)
    (k_covers_of_masks : PySem.W.keepIn K (.ref f_covers_of_masks) = true)
    (a_law_mix : PySem.W.nsIn K mainGlobals "_law_mix" = some (some (.ref f_law_mix)))
    (l_law_mix : K.lookup f_law_mix = some ⟨oc_law_mix, od_law_mix, .func (PySem.W.fnOf "_law_mix" "_law_mix" (defArgs s_law_mix) (defBody s_law_mix) (defScope s_law_mix) .none kV_law_mix dc_law_mix pm_law_mix an_law_mix cd_law_mix ct_law_mix), sl_law_mix⟩)
    (c_law_mix : PySem.W.codeIn K cd_law_mix "_law_mix" = true)
    (k_law_mix : PySem.W.keepIn K (.ref f_law_mix) = true)
    (a_law_draw : PySem.W.nsIn K mainGlobals "_law_draw" = some (some (.ref f_law_draw)))
    (l_law_draw : K.lookup f_law_draw = some ⟨oc_law_draw, od_law_draw, .func (PySem.W.fnOf "_law_draw" "_law_draw" (defArgs s_law_draw) (defBody s_law_draw) (defScope s_law_draw) .none kV_law_draw dc_law_draw pm_law_draw an_law_draw cd_law_draw ct_law_draw), sl_law_draw⟩)
    (c_law_draw : PySem.W.codeIn K cd_law_draw "_law_draw" = true)
    (k_law_draw : PySem.W.keepIn K (.ref f_law_draw) = true)
    (a_law_shuffled : PySem.W.nsIn K mainGlobals "_law_shuffled" = some (some (.ref f_law_shuffled)))
    (l_law_shuffled : K.lookup f_law_shuffled = some ⟨oc_law_shuffled, od_law_shuffled, .func (PySem.W.fnOf "_law_shuffled" "_law_shuffled" (defArgs s_law_shuffled) (defBody s_law_shuffled) (defScope s_law_shuffled) .none kV_law_shuffled dc_law_shuffled pm_law_shuffled an_law_shuffled cd_law_shuffled ct_law_shuffled), sl_law_shuffled⟩)
    (c_law_shuffled : PySem.W.codeIn K cd_law_shuffled "_law_shuffled" = true)
    (k_law_shuffled : PySem.W.keepIn K (.ref f_law_shuffled) = true)
    (a_law_closed : PySem.W.nsIn K mainGlobals "_law_closed" = some (some (.ref f_law_closed)))
    (l_law_closed : K.lookup f_law_closed = some ⟨oc_law_closed, od_law_closed, .func (PySem.W.fnOf "_law_closed" "_law_closed" (defArgs s_law_closed) (defBody s_law_closed) (defScope s_law_closed) .none kV_law_closed dc_law_closed pm_law_closed an_law_closed cd_law_closed ct_law_closed), sl_law_closed⟩)
    (c_law_closed : PySem.W.codeIn K cd_law_closed "_law_closed" = true)
    (k_law_closed : PySem.W.keepIn K (.ref f_law_closed) = true)
    (a_law_order : PySem.W.nsIn K mainGlobals "_law_order" = some (some (.ref f_law_order)))
    (l_law_order : K.lookup f_law_order = some ⟨oc_law_order, od_law_order, .func (PySem.W.fnOf "_law_order" "_law_order" (defArgs s_law_order) (defBody s_law_order) (defScope s_law_order) .none kV_law_order dc_law_order pm_law_order an_law_order cd_law_order ct_law_order), sl_law_order⟩)
    (c_law_order : PySem.W.codeIn K cd_law_order "_law_order" = true)
    (k_law_order : PySem.W.keepIn K (.ref f_law_order) = true)
    (a_law_exact : PySem.W.nsIn K mainGlobals "_law_exact" = some (some (.ref f_law_exact)))
    (l_law_exact : K.lookup f_law_exact = some ⟨oc_law_exact, od_law_exact, .func (PySem.W.fnOf "_law_exact" "_law_exact" (defArgs s_law_exact) (defBody s_law_exact) (defScope s_law_exact) .none kV_law_exact dc_law_exact pm_law_exact an_law_exact cd_law_exact ct_law_exact), sl_law_exact⟩)
    (c_law_exact : PySem.W.codeIn K cd_law_exact "_law_exact" = true)
    (k_law_exact : PySem.W.keepIn K (.ref f_law_exact) = true)
    (a_law_hand : PySem.W.nsIn K mainGlobals "_law_hand" = some (some (.ref f_law_hand)))
    (l_law_hand : K.lookup f_law_hand = some ⟨oc_law_hand, od_law_hand, .func (PySem.W.fnOf "_law_hand" "_law_hand" (defArgs s_law_hand) (defBody s_law_hand) (defScope s_law_hand) .none kV_law_hand dc_law_hand pm_law_hand an_law_hand cd_law_hand ct_law_hand), sl_law_hand⟩)
    (c_law_hand : PySem.W.codeIn K cd_law_hand "_law_hand" = true)
    (k_law_hand : PySem.W.keepIn K (.ref f_law_hand) = true)
    (a_law_seq : PySem.W.nsIn K mainGlobals "_law_seq" = some (some (.ref f_law_seq)))
    (l_law_seq : K.lookup f_law_seq = some ⟨oc_law_seq, od_law_seq, .func (PySem.W.fnOf "_law_seq" "_law_seq" (defArgs s_law_seq) (defBody s_law_seq) (defScope s_law_seq) .none kV_law_seq dc_law_seq pm_law_seq an_law_seq cd_law_seq ct_law_seq), sl_law_seq⟩)
    (c_law_seq : PySem.W.codeIn K cd_law_seq "_law_seq" = true)
    (k_law_seq : PySem.W.keepIn K (.ref f_law_seq) = true)
    (a_law_strict : PySem.W.nsIn K mainGlobals "_law_strict" = some (some (.ref f_law_strict)))
    (l_law_strict : K.lookup f_law_strict = some ⟨oc_law_strict, od_law_strict, .func (PySem.W.fnOf "_law_strict" "_law_strict" (defArgs s_law_strict) (defBody s_law_strict) (defScope s_law_strict) .none kV_law_strict dc_law_strict pm_law_strict an_law_strict cd_law_strict ct_law_strict), sl_law_strict⟩)
    (c_law_strict : PySem.W.codeIn K cd_law_strict "_law_strict" = true)
    (k_law_strict : PySem.W.keepIn K (.ref f_law_strict) = true)
    (a_law_state : PySem.W.nsIn K mainGlobals "_law_state" = some (some (.ref f_law_state)))
    (l_law_state : K.lookup f_law_state = some ⟨oc_law_state, od_law_state, .func (PySem.W.fnOf "_law_state" "_law_state" (defArgs s_law_state) (defBody s_law_state) (defScope s_law_state) .none kV_law_state dc_law_state pm_law_state an_law_state cd_law_state ct_law_state), sl_law_state⟩)
    (c_law_state : PySem.W.codeIn K cd_law_state "_law_state" = true)
    (k_law_state : PySem.W.keepIn K (.ref f_law_state) = true)
    (a_law_due : PySem.W.nsIn K mainGlobals "_law_due" = some (some (.ref f_law_due)))
    (l_law_due : K.lookup f_law_due = some ⟨oc_law_due, od_law_due, .func (PySem.W.fnOf "_law_due" "_law_due" (defArgs s_law_due) (defBody s_law_due) (defScope s_law_due) .none kV_law_due dc_law_due pm_law_due an_law_due cd_law_due ct_law_due), sl_law_due⟩)
    (c_law_due : PySem.W.codeIn K cd_law_due "_law_due" = true)
    (k_law_due : PySem.W.keepIn K (.ref f_law_due) = true)
    (a_law_told : PySem.W.nsIn K mainGlobals "_law_told" = some (some (.ref f_law_told)))
    (l_law_told : K.lookup f_law_told = some ⟨oc_law_told, od_law_told, .func (PySem.W.fnOf "_law_told" "_law_told" (defArgs s_law_told) (defBody s_law_told) (defScope s_law_told) .none kV_law_told dc_law_told pm_law_told an_law_told cd_law_told ct_law_told), sl_law_told⟩)
    (c_law_told : PySem.W.codeIn K cd_law_told "_law_told" = true)
    (k_law_told : PySem.W.keepIn K (.ref f_law_told) = true)
    (a_law_spoilt : PySem.W.nsIn K mainGlobals "_law_spoilt" = some (some (.ref f_law_spoilt)))
    (l_law_spoilt : K.lookup f_law_spoilt = some ⟨oc_law_spoilt, od_law_spoilt, .func (PySem.W.fnOf "_law_spoilt" "_law_spoilt" (defArgs s_law_spoilt) (defBody s_law_spoilt) (defScope s_law_spoilt) .none kV_law_spoilt dc_law_spoilt pm_law_spoilt an_law_spoilt cd_law_spoilt ct_law_spoilt), sl_law_spoilt⟩)
    (c_law_spoilt : PySem.W.codeIn K cd_law_spoilt "_law_spoilt" = true)
    (k_law_spoilt : PySem.W.keepIn K (.ref f_law_spoilt) = true)
    (a_law_case : PySem.W.nsIn K mainGlobals "_law_case" = some (some (.ref f_law_case)))
    (l_law_case : K.lookup f_law_case = some ⟨oc_law_case, od_law_case, .func (PySem.W.fnOf "_law_case" "_law_case" (defArgs s_law_case) (defBody s_law_case) (defScope s_law_case) .none kV_law_case dc_law_case pm_law_case an_law_case cd_law_case ct_law_case), sl_law_case⟩)
    (c_law_case : PySem.W.codeIn K cd_law_case "_law_case" = true)
    (k_law_case : PySem.W.keepIn K (.ref f_law_case) = true)
    (a_law_wholes : PySem.W.nsIn K mainGlobals "_law_wholes" = some (some (.ref f_law_wholes)))
    (l_law_wholes : K.lookup f_law_wholes = some ⟨oc_law_wholes, od_law_wholes, .func (PySem.W.fnOf "_law_wholes" "_law_wholes" (defArgs s_law_wholes) (defBody s_law_wholes) (defScope s_law_wholes) .none kV_law_wholes dc_law_wholes pm_law_wholes an_law_wholes cd_law_wholes ct_law_wholes), sl_law_wholes⟩)
    (c_law_wholes : PySem.W.codeIn K cd_law_wholes "_law_wholes" = true)
    (k_law_wholes : PySem.W.keepIn K (.ref f_law_wholes) = true)
    (a_law : PySem.W.nsIn K mainGlobals "law" = some (some (.ref f_law)))
    (l_law : K.lookup f_law = some ⟨oc_law, od_law, .func (PySem.W.fnOf "law" "law" (defArgs s_law) (defBody s_law) (defScope s_law) .none kV_law dc_law pm_law an_law cd_law ct_law), sl_law⟩)
    (c_law : PySem.W.codeIn K cd_law "law" = true)
    (k_law : PySem.W.keepIn K (.ref f_law) = true)
    (z_ValueError : PySem.W.nsIn K mainGlobals "ValueError" = some none)
    (z_abs : PySem.W.nsIn K mainGlobals "abs" = some none)
    (z_bool : PySem.W.nsIn K mainGlobals "bool" = some none)
    (z_enumerate : PySem.W.nsIn K mainGlobals "enumerate" = some none)
    (z_int : PySem.W.nsIn K mainGlobals "int" = some none)
    (z_isinstance : PySem.W.nsIn K mainGlobals "isinstance" = some none)
    (z_len : PySem.W.nsIn K mainGlobals "len" = some none)
    (z_list : PySem.W.nsIn K mainGlobals "list" = some none)
    (z_range : PySem.W.nsIn K mainGlobals "range" = some none)
    (z_repr : PySem.W.nsIn K mainGlobals "repr" = some none)
    (z_str : PySem.W.nsIn K mainGlobals "str" = some none)
    (z_tuple : PySem.W.nsIn K mainGlobals "tuple" = some none)
    (m_MOST_STATES : PySem.W.nsIn K mainGlobals "MOST_STATES" = some (some (.int 24 tk_MOST_STATES)))
    (m_MOST_PAIRS : PySem.W.nsIn K mainGlobals "MOST_PAIRS" = some (some (.int 600 tk_MOST_PAIRS)))
    : ∃ fd : FuncData, (∀ (s : Shared) (v : Value), BindsTo s fd ⟨[v], []⟩ [("_law_script", v)]) ∧ ∀ base : Heap, K.In base → base.Ns mainGlobals mg → L4.FnG l.prog w K mg base CX0 7 fa fd ["_law_script"] (spLaw K) := by
  have e : fa = f_law := Value.ref.inj (Option.some.inj (hfa.symm.trans (PySem.W.mg_of X G a_law)))
  rw [e]
  have T : Top K mg {
      c_FrameError := C_FrameError
      c_BadOrder := C_BadOrder
      c_BadMake := C_BadMake
      c_BadData := C_BadData
      c_Order := C_Order
      f_BadOrder_init := f_BadOrder_init
      d_BadOrder_init := (PySem.W.fnOf "__init__" "BadOrder.__init__" (defArgs s_BadOrder_init) (defBody s_BadOrder_init) (defScope s_BadOrder_init) .none kV_BadOrder_init dc_BadOrder_init pm_BadOrder_init an_BadOrder_init cd_BadOrder_init ct_BadOrder_init)
      f_BadMake_init := f_BadMake_init
      d_BadMake_init := (PySem.W.fnOf "__init__" "BadMake.__init__" (defArgs s_BadMake_init) (defBody s_BadMake_init) (defScope s_BadMake_init) .none kV_BadMake_init dc_BadMake_init pm_BadMake_init an_BadMake_init cd_BadMake_init ct_BadMake_init)
      f_BadData_init := f_BadData_init
      d_BadData_init := (PySem.W.fnOf "__init__" "BadData.__init__" (defArgs s_BadData_init) (defBody s_BadData_init) (defScope s_BadData_init) .none kV_BadData_init dc_BadData_init pm_BadData_init an_BadData_init cd_BadData_init ct_BadData_init)
      f_Order_init := f_Order_init
      d_Order_init := (PySem.W.fnOf "__init__" "Order.__init__" (defArgs s_Order_init) (defBody s_Order_init) (defScope s_Order_init) .none kV_Order_init dc_Order_init pm_Order_init an_Order_init cd_Order_init ct_Order_init)
      f_is_whole := f_is_whole
      d_is_whole := (PySem.W.fnOf "is_whole" "is_whole" (defArgs s_is_whole) (defBody s_is_whole) (defScope s_is_whole) (.ref dT_is_whole) kV_is_whole dc_is_whole pm_is_whole an_is_whole cd_is_whole ct_is_whole)
      f_is_sequence := f_is_sequence
      d_is_sequence := (PySem.W.fnOf "is_sequence" "is_sequence" (defArgs s_is_sequence) (defBody s_is_sequence) (defScope s_is_sequence) .none kV_is_sequence dc_is_sequence pm_is_sequence an_is_sequence cd_is_sequence ct_is_sequence)
      f_closed_masks := f_closed_masks
      d_closed_masks := (PySem.W.fnOf "closed_masks" "closed_masks" (defArgs s_closed_masks) (defBody s_closed_masks) (defScope s_closed_masks) .none kV_closed_masks dc_closed_masks pm_closed_masks an_closed_masks cd_closed_masks ct_closed_masks)
      f_check_masks := f_check_masks
      d_check_masks := (PySem.W.fnOf "check_masks" "check_masks" (defArgs s_check_masks) (defBody s_check_masks) (defScope s_check_masks) .none kV_check_masks dc_check_masks pm_check_masks an_check_masks cd_check_masks ct_check_masks)
      f_states_of_mask := f_states_of_mask
      d_states_of_mask := (PySem.W.fnOf "states_of_mask" "states_of_mask" (defArgs s_states_of_mask) (defBody s_states_of_mask) (defScope s_states_of_mask) .none kV_states_of_mask dc_states_of_mask pm_states_of_mask an_states_of_mask cd_states_of_mask ct_states_of_mask)
      f_covers_of_masks := f_covers_of_masks
      d_covers_of_masks := (PySem.W.fnOf "covers_of_masks" "covers_of_masks" (defArgs s_covers_of_masks) (defBody s_covers_of_masks) (defScope s_covers_of_masks) .none kV_covers_of_masks dc_covers_of_masks pm_covers_of_masks an_covers_of_masks cd_covers_of_masks ct_covers_of_masks)
      f_law_mix := f_law_mix
      d_law_mix := (PySem.W.fnOf "_law_mix" "_law_mix" (defArgs s_law_mix) (defBody s_law_mix) (defScope s_law_mix) .none kV_law_mix dc_law_mix pm_law_mix an_law_mix cd_law_mix ct_law_mix)
      f_law_draw := f_law_draw
      d_law_draw := (PySem.W.fnOf "_law_draw" "_law_draw" (defArgs s_law_draw) (defBody s_law_draw) (defScope s_law_draw) .none kV_law_draw dc_law_draw pm_law_draw an_law_draw cd_law_draw ct_law_draw)
      f_law_shuffled := f_law_shuffled
      d_law_shuffled := (PySem.W.fnOf "_law_shuffled" "_law_shuffled" (defArgs s_law_shuffled) (defBody s_law_shuffled) (defScope s_law_shuffled) .none kV_law_shuffled dc_law_shuffled pm_law_shuffled an_law_shuffled cd_law_shuffled ct_law_shuffled)
      f_law_closed := f_law_closed
      d_law_closed := (PySem.W.fnOf "_law_closed" "_law_closed" (defArgs s_law_closed) (defBody s_law_closed) (defScope s_law_closed) .none kV_law_closed dc_law_closed pm_law_closed an_law_closed cd_law_closed ct_law_closed)
      f_law_order := f_law_order
      d_law_order := (PySem.W.fnOf "_law_order" "_law_order" (defArgs s_law_order) (defBody s_law_order) (defScope s_law_order) .none kV_law_order dc_law_order pm_law_order an_law_order cd_law_order ct_law_order)
      f_law_exact := f_law_exact
      d_law_exact := (PySem.W.fnOf "_law_exact" "_law_exact" (defArgs s_law_exact) (defBody s_law_exact) (defScope s_law_exact) .none kV_law_exact dc_law_exact pm_law_exact an_law_exact cd_law_exact ct_law_exact)
      f_law_hand := f_law_hand
      d_law_hand := (PySem.W.fnOf "_law_hand" "_law_hand" (defArgs s_law_hand) (defBody s_law_hand) (defScope s_law_hand) .none kV_law_hand dc_law_hand pm_law_hand an_law_hand cd_law_hand ct_law_hand)
      f_law_seq := f_law_seq
      d_law_seq := (PySem.W.fnOf "_law_seq" "_law_seq" (defArgs s_law_seq) (defBody s_law_seq) (defScope s_law_seq) .none kV_law_seq dc_law_seq pm_law_seq an_law_seq cd_law_seq ct_law_seq)
      f_law_strict := f_law_strict
      d_law_strict := (PySem.W.fnOf "_law_strict" "_law_strict" (defArgs s_law_strict) (defBody s_law_strict) (defScope s_law_strict) .none kV_law_strict dc_law_strict pm_law_strict an_law_strict cd_law_strict ct_law_strict)
      f_law_state := f_law_state
      d_law_state := (PySem.W.fnOf "_law_state" "_law_state" (defArgs s_law_state) (defBody s_law_state) (defScope s_law_state) .none kV_law_state dc_law_state pm_law_state an_law_state cd_law_state ct_law_state)
      f_law_due := f_law_due
      d_law_due := (PySem.W.fnOf "_law_due" "_law_due" (defArgs s_law_due) (defBody s_law_due) (defScope s_law_due) .none kV_law_due dc_law_due pm_law_due an_law_due cd_law_due ct_law_due)
      f_law_told := f_law_told
      d_law_told := (PySem.W.fnOf "_law_told" "_law_told" (defArgs s_law_told) (defBody s_law_told) (defScope s_law_told) .none kV_law_told dc_law_told pm_law_told an_law_told cd_law_told ct_law_told)
      f_law_spoilt := f_law_spoilt
      d_law_spoilt := (PySem.W.fnOf "_law_spoilt" "_law_spoilt" (defArgs s_law_spoilt) (defBody s_law_spoilt) (defScope s_law_spoilt) .none kV_law_spoilt dc_law_spoilt pm_law_spoilt an_law_spoilt cd_law_spoilt ct_law_spoilt)
      f_law_case := f_law_case
      d_law_case := (PySem.W.fnOf "_law_case" "_law_case" (defArgs s_law_case) (defBody s_law_case) (defScope s_law_case) .none kV_law_case dc_law_case pm_law_case an_law_case cd_law_case ct_law_case)
      f_law_wholes := f_law_wholes
      d_law_wholes := (PySem.W.fnOf "_law_wholes" "_law_wholes" (defArgs s_law_wholes) (defBody s_law_wholes) (defScope s_law_wholes) .none kV_law_wholes dc_law_wholes pm_law_wholes an_law_wholes cd_law_wholes ct_law_wholes)
      f_law := f_law
      d_law := (PySem.W.fnOf "law" "law" (defArgs s_law) (defBody s_law) (defScope s_law) .none kV_law dc_law pm_law an_law cd_law ct_law)
      } := {
      gc_FrameError := PySem.W.mg_of X G a_FrameError
      x_FrameError := ⟨⟨_, _, _, _, _, _, _, _, _, _, _, _, _, _, _, xL_FrameError, by first | decide +kernel | rfl | simp [PySem.HandSPX.refsVE]⟩, sa_FrameError, eC_FrameError, tC_FrameError, kC_FrameError⟩
      xf_FrameError := ⟨ga_FrameError, gg_FrameError, eC_FrameError, hC_FrameError⟩
      xc_FrameError := ⟨ga_FrameError, gg_FrameError, eC_FrameError, hC_FrameError, cC_FrameError, sg, tg, mC_FrameError⟩
      ex_FrameError_FrameError := PySem.W.exm_ref eC_FrameError hC_FrameError tC_FrameError sb_FrameError_FrameError
      ki_FrameError_FrameError := kit_own iC_FrameError tC_FrameError sb_FrameError_FrameError sb_FrameError_FrameError
      ex_FrameError_BadOrder := PySem.W.exm_ref eC_BadOrder hC_BadOrder tC_BadOrder sb_FrameError_BadOrder
      ki_FrameError_BadOrder := kit_own iC_BadOrder tC_BadOrder sb_FrameError_BadOrder sb_BadOrder_BadOrder
      ex_FrameError_BadMake := PySem.W.exm_ref eC_BadMake hC_BadMake tC_BadMake sb_FrameError_BadMake
      ki_FrameError_BadMake := kit_own iC_BadMake tC_BadMake sb_FrameError_BadMake sb_BadMake_BadMake
      ex_FrameError_BadData := PySem.W.exm_ref eC_BadData hC_BadData tC_BadData sb_FrameError_BadData
      ki_FrameError_BadData := kit_own iC_BadData tC_BadData sb_FrameError_BadData sb_BadData_BadData
      gc_BadOrder := PySem.W.mg_of X G a_BadOrder
      x_BadOrder := ⟨⟨_, _, _, _, _, _, _, _, _, _, _, _, _, _, _, xL_BadOrder, by first | decide +kernel | rfl | simp [PySem.HandSPX.refsVE]⟩, sa_BadOrder, eC_BadOrder, tC_BadOrder, kC_BadOrder⟩
      xf_BadOrder := ⟨ga_BadOrder, gg_BadOrder, eC_BadOrder, hC_BadOrder⟩
      xc_BadOrder := ⟨ga_BadOrder, gg_BadOrder, eC_BadOrder, hC_BadOrder, cC_BadOrder, sg, tg, mC_BadOrder⟩
      ex_BadOrder_FrameError := PySem.W.exm_ref eC_FrameError hC_FrameError tC_FrameError sb_BadOrder_FrameError
      ki_BadOrder_FrameError := kit_own iC_FrameError tC_FrameError sb_BadOrder_FrameError sb_FrameError_FrameError
      ex_BadOrder_BadOrder := PySem.W.exm_ref eC_BadOrder hC_BadOrder tC_BadOrder sb_BadOrder_BadOrder
      ki_BadOrder_BadOrder := kit_own iC_BadOrder tC_BadOrder sb_BadOrder_BadOrder sb_BadOrder_BadOrder
      ex_BadOrder_BadMake := PySem.W.exm_ref eC_BadMake hC_BadMake tC_BadMake sb_BadOrder_BadMake
      ki_BadOrder_BadMake := kit_own iC_BadMake tC_BadMake sb_BadOrder_BadMake sb_BadMake_BadMake
      ex_BadOrder_BadData := PySem.W.exm_ref eC_BadData hC_BadData tC_BadData sb_BadOrder_BadData
      ki_BadOrder_BadData := kit_own iC_BadData tC_BadData sb_BadOrder_BadData sb_BadData_BadData
      no_BadOrder_what := no_BadOrder_what
      no_BadOrder_at := no_BadOrder_at
      in_BadOrder := a_BadOrder_init
      ti_BadOrder := i_BadOrder_init
      gc_BadMake := PySem.W.mg_of X G a_BadMake
      x_BadMake := ⟨⟨_, _, _, _, _, _, _, _, _, _, _, _, _, _, _, xL_BadMake, by first | decide +kernel | rfl | simp [PySem.HandSPX.refsVE]⟩, sa_BadMake, eC_BadMake, tC_BadMake, kC_BadMake⟩
      xf_BadMake := ⟨ga_BadMake, gg_BadMake, eC_BadMake, hC_BadMake⟩
      xc_BadMake := ⟨ga_BadMake, gg_BadMake, eC_BadMake, hC_BadMake, cC_BadMake, sg, tg, mC_BadMake⟩
      ex_BadMake_FrameError := PySem.W.exm_ref eC_FrameError hC_FrameError tC_FrameError sb_BadMake_FrameError
      ki_BadMake_FrameError := kit_own iC_FrameError tC_FrameError sb_BadMake_FrameError sb_FrameError_FrameError
      ex_BadMake_BadOrder := PySem.W.exm_ref eC_BadOrder hC_BadOrder tC_BadOrder sb_BadMake_BadOrder
      ki_BadMake_BadOrder := kit_own iC_BadOrder tC_BadOrder sb_BadMake_BadOrder sb_BadOrder_BadOrder
      ex_BadMake_BadMake := PySem.W.exm_ref eC_BadMake hC_BadMake tC_BadMake sb_BadMake_BadMake
      ki_BadMake_BadMake := kit_own iC_BadMake tC_BadMake sb_BadMake_BadMake sb_BadMake_BadMake
      ex_BadMake_BadData := PySem.W.exm_ref eC_BadData hC_BadData tC_BadData sb_BadMake_BadData
      ki_BadMake_BadData := kit_own iC_BadData tC_BadData sb_BadMake_BadData sb_BadData_BadData
      no_BadMake_what := no_BadMake_what
      no_BadMake_at := no_BadMake_at
      in_BadMake := a_BadMake_init
      ti_BadMake := i_BadMake_init
      gc_BadData := PySem.W.mg_of X G a_BadData
      x_BadData := ⟨⟨_, _, _, _, _, _, _, _, _, _, _, _, _, _, _, xL_BadData, by first | decide +kernel | rfl | simp [PySem.HandSPX.refsVE]⟩, sa_BadData, eC_BadData, tC_BadData, kC_BadData⟩
      xf_BadData := ⟨ga_BadData, gg_BadData, eC_BadData, hC_BadData⟩
      xc_BadData := ⟨ga_BadData, gg_BadData, eC_BadData, hC_BadData, cC_BadData, sg, tg, mC_BadData⟩
      ex_BadData_FrameError := PySem.W.exm_ref eC_FrameError hC_FrameError tC_FrameError sb_BadData_FrameError
      ki_BadData_FrameError := kit_own iC_FrameError tC_FrameError sb_BadData_FrameError sb_FrameError_FrameError
      ex_BadData_BadOrder := PySem.W.exm_ref eC_BadOrder hC_BadOrder tC_BadOrder sb_BadData_BadOrder
      ki_BadData_BadOrder := kit_own iC_BadOrder tC_BadOrder sb_BadData_BadOrder sb_BadOrder_BadOrder
      ex_BadData_BadMake := PySem.W.exm_ref eC_BadMake hC_BadMake tC_BadMake sb_BadData_BadMake
      ki_BadData_BadMake := kit_own iC_BadMake tC_BadMake sb_BadData_BadMake sb_BadMake_BadMake
      ex_BadData_BadData := PySem.W.exm_ref eC_BadData hC_BadData tC_BadData sb_BadData_BadData
      ki_BadData_BadData := kit_own iC_BadData tC_BadData sb_BadData_BadData sb_BadData_BadData
      no_BadData_path := no_BadData_path
      in_BadData := a_BadData_init
      ti_BadData := i_BadData_init
      gc_Order := PySem.W.mg_of X G a_Order
      cl_Order := ⟨pg_Order, hd_Order, po_Order, sa_Order⟩
      na_Order_n := na_Order_n
      na_Order_masks := na_Order_masks
      na_Order_cover_rows := na_Order_cover_rows
      na_Order_edges := na_Order_edges
      mk_Order := ⟨mk_Order, a_Order_init, i_Order_init, kc_Order⟩
      st_FrameError := st_FrameError
      ki_FrameError_ValueError := kit_ownTy (by decide +kernel) sv_FrameError_ValueError
      st_BadOrder := st_BadOrder
      ki_BadOrder_ValueError := kit_ownTy (by decide +kernel) sv_BadOrder_ValueError
      st_BadMake := st_BadMake
      ki_BadMake_ValueError := kit_ownTy (by decide +kernel) sv_BadMake_ValueError
      st_BadData := st_BadData
      ki_BadData_ValueError := kit_ownTy (by decide +kernel) sv_BadData_ValueError
      F_BadOrder_init := fun_mk (st := s_BadOrder_init) l_BadOrder_init c_BadOrder_init k_BadOrder_init
      b_BadOrder_init := (fun_mk (st := s_BadOrder_init) l_BadOrder_init c_BadOrder_init k_BadOrder_init).binds (ps := ["self", "what", "at"]) fun _ _ _ _ _ _ us hl => match us, hl with | [_, _, _], _ => rfl
      F_BadMake_init := fun_mk (st := s_BadMake_init) l_BadMake_init c_BadMake_init k_BadMake_init
      b_BadMake_init := (fun_mk (st := s_BadMake_init) l_BadMake_init c_BadMake_init k_BadMake_init).binds (ps := ["self", "what", "at"]) fun _ _ _ _ _ _ us hl => match us, hl with | [_, _, _], _ => rfl
      F_BadData_init := fun_mk (st := s_BadData_init) l_BadData_init c_BadData_init k_BadData_init
      b_BadData_init := (fun_mk (st := s_BadData_init) l_BadData_init c_BadData_init k_BadData_init).binds (ps := ["self", "path"]) fun _ _ _ _ _ _ us hl => match us, hl with | [_, _], _ => rfl
      F_Order_init := fun_mk (st := s_Order_init) l_Order_init c_Order_init k_Order_init
      b_Order_init := (fun_mk (st := s_Order_init) l_Order_init c_Order_init k_Order_init).binds (ps := ["self", "n", "pairs"]) fun _ _ _ _ _ _ us hl => match us, hl with | [_, _, _], _ => rfl
      g_is_whole := PySem.W.mg_of X G a_is_whole
      F_is_whole := ⟨⟨oc_is_whole, od_is_whole, (.ref dT_is_whole), kV_is_whole, dc_is_whole, pm_is_whole, an_is_whole, cd_is_whole, ct_is_whole, sl_is_whole, rfl, l_is_whole, c_is_whole, .inr ⟨by simp, dT_is_whole, _, _, dn_is_whole, rfl, lt_is_whole, rfl, .cons rfl (.cons rfl (.nil))⟩, .inl rfl⟩, k_is_whole⟩
      g_is_sequence := PySem.W.mg_of X G a_is_sequence
      F_is_sequence := fun_mk (st := s_is_sequence) l_is_sequence c_is_sequence k_is_sequence
      b_is_sequence := (fun_mk (st := s_is_sequence) l_is_sequence c_is_sequence k_is_sequence).binds (ps := ["thing"]) fun _ _ _ _ _ _ us hl => match us, hl with | [_], _ => rfl
      g_closed_masks := PySem.W.mg_of X G a_closed_masks
      F_closed_masks := fun_mk (st := s_closed_masks) l_closed_masks c_closed_masks k_closed_masks
      b_closed_masks := (fun_mk (st := s_closed_masks) l_closed_masks c_closed_masks k_closed_masks).binds (ps := ["n", "pairs"]) fun _ _ _ _ _ _ us hl => match us, hl with | [_, _], _ => rfl
      g_check_masks := PySem.W.mg_of X G a_check_masks
      F_check_masks := fun_mk (st := s_check_masks) l_check_masks c_check_masks k_check_masks
      b_check_masks := (fun_mk (st := s_check_masks) l_check_masks c_check_masks k_check_masks).binds (ps := ["n", "masks"]) fun _ _ _ _ _ _ us hl => match us, hl with | [_, _], _ => rfl
      g_states_of_mask := PySem.W.mg_of X G a_states_of_mask
      F_states_of_mask := fun_mk (st := s_states_of_mask) l_states_of_mask c_states_of_mask k_states_of_mask
      b_states_of_mask := (fun_mk (st := s_states_of_mask) l_states_of_mask c_states_of_mask k_states_of_mask).binds (ps := ["n", "mask"]) fun _ _ _ _ _ _ us hl => match us, hl with | [_, _], _ => rfl
      g_covers_of_masks := PySem.W.mg_of X G a_covers_of_masks
      F_covers_of_masks := fun_mk (st := s_covers_of_masks) l_covers_of_masks c_covers_of_masks k_covers_of_masks
      b_covers_of_masks := (fun_mk (st := s_covers_of_masks) l_covers_of_masks c_covers_of_masks k_covers_of_masks).binds (ps := ["n", "masks", "state"]) fun _ _ _ _ _ _ us hl => match us, hl with | [_, _, _], _ => rfl
      g_law_mix := PySem.W.mg_of X G a_law_mix
      F_law_mix := fun_mk (st := s_law_mix) l_law_mix c_law_mix k_law_mix
      b_law_mix := (fun_mk (st := s_law_mix) l_law_mix c_law_mix k_law_mix).binds (ps := ["_law_number", "_law_turn"]) fun _ _ _ _ _ _ us hl => match us, hl with | [_, _], _ => rfl
      g_law_draw := PySem.W.mg_of X G a_law_draw
      F_law_draw := fun_mk (st := s_law_draw) l_law_draw c_law_draw k_law_draw
      b_law_draw := (fun_mk (st := s_law_draw) l_law_draw c_law_draw k_law_draw).binds (ps := ["_law_hand_here", "_law_many"]) fun _ _ _ _ _ _ us hl => match us, hl with | [_, _], _ => rfl
      g_law_shuffled := PySem.W.mg_of X G a_law_shuffled
      F_law_shuffled := fun_mk (st := s_law_shuffled) l_law_shuffled c_law_shuffled k_law_shuffled
      b_law_shuffled := (fun_mk (st := s_law_shuffled) l_law_shuffled c_law_shuffled k_law_shuffled).binds (ps := ["_law_hand_here", "_law_row"]) fun _ _ _ _ _ _ us hl => match us, hl with | [_, _], _ => rfl
      g_law_closed := PySem.W.mg_of X G a_law_closed
      F_law_closed := fun_mk (st := s_law_closed) l_law_closed c_law_closed k_law_closed
      b_law_closed := (fun_mk (st := s_law_closed) l_law_closed c_law_closed k_law_closed).binds (ps := ["_law_n", "_law_pairs"]) fun _ _ _ _ _ _ us hl => match us, hl with | [_, _], _ => rfl
      g_law_order := PySem.W.mg_of X G a_law_order
      F_law_order := fun_mk (st := s_law_order) l_law_order c_law_order k_law_order
      b_law_order := (fun_mk (st := s_law_order) l_law_order c_law_order k_law_order).binds (ps := ["_law_hand_here", "_law_most"]) fun _ _ _ _ _ _ us hl => match us, hl with | [_, _], _ => rfl
      g_law_exact := PySem.W.mg_of X G a_law_exact
      F_law_exact := fun_mk (st := s_law_exact) l_law_exact c_law_exact k_law_exact
      b_law_exact := (fun_mk (st := s_law_exact) l_law_exact c_law_exact k_law_exact).binds (ps := ["_law_told_here", "_law_due_here"]) fun _ _ _ _ _ _ us hl => match us, hl with | [_, _], _ => rfl
      g_law_hand := PySem.W.mg_of X G a_law_hand
      F_law_hand := fun_mk (st := s_law_hand) l_law_hand c_law_hand k_law_hand
      b_law_hand := (fun_mk (st := s_law_hand) l_law_hand c_law_hand k_law_hand).binds (ps := ["_law_script"]) fun _ _ _ _ _ _ us hl => match us, hl with | [_], _ => rfl
      g_law_seq := PySem.W.mg_of X G a_law_seq
      F_law_seq := fun_mk (st := s_law_seq) l_law_seq c_law_seq k_law_seq
      b_law_seq := (fun_mk (st := s_law_seq) l_law_seq c_law_seq k_law_seq).binds (ps := ["_law_hand_here", "_law_row"]) fun _ _ _ _ _ _ us hl => match us, hl with | [_, _], _ => rfl
      g_law_strict := PySem.W.mg_of X G a_law_strict
      F_law_strict := fun_mk (st := s_law_strict) l_law_strict c_law_strict k_law_strict
      b_law_strict := (fun_mk (st := s_law_strict) l_law_strict c_law_strict k_law_strict).binds (ps := ["_law_n", "_law_pairs"]) fun _ _ _ _ _ _ us hl => match us, hl with | [_, _], _ => rfl
      g_law_state := PySem.W.mg_of X G a_law_state
      F_law_state := fun_mk (st := s_law_state) l_law_state c_law_state k_law_state
      b_law_state := (fun_mk (st := s_law_state) l_law_state c_law_state k_law_state).binds (ps := ["_law_n", "_law_x"]) fun _ _ _ _ _ _ us hl => match us, hl with | [_, _], _ => rfl
      g_law_due := PySem.W.mg_of X G a_law_due
      F_law_due := fun_mk (st := s_law_due) l_law_due c_law_due k_law_due
      b_law_due := (fun_mk (st := s_law_due) l_law_due c_law_due k_law_due).binds (ps := ["_law_n", "_law_pairs"]) fun _ _ _ _ _ _ us hl => match us, hl with | [_, _], _ => rfl
      g_law_told := PySem.W.mg_of X G a_law_told
      F_law_told := fun_mk (st := s_law_told) l_law_told c_law_told k_law_told
      b_law_told := (fun_mk (st := s_law_told) l_law_told c_law_told k_law_told).binds (ps := ["_law_n", "_law_pairs"]) fun _ _ _ _ _ _ us hl => match us, hl with | [_, _], _ => rfl
      g_law_spoilt := PySem.W.mg_of X G a_law_spoilt
      F_law_spoilt := fun_mk (st := s_law_spoilt) l_law_spoilt c_law_spoilt k_law_spoilt
      b_law_spoilt := (fun_mk (st := s_law_spoilt) l_law_spoilt c_law_spoilt k_law_spoilt).binds (ps := ["_law_hand_here", "_law_n", "_law_pairs"]) fun _ _ _ _ _ _ us hl => match us, hl with | [_, _, _], _ => rfl
      g_law_case := PySem.W.mg_of X G a_law_case
      F_law_case := fun_mk (st := s_law_case) l_law_case c_law_case k_law_case
      b_law_case := (fun_mk (st := s_law_case) l_law_case c_law_case k_law_case).binds (ps := ["_law_hand_here"]) fun _ _ _ _ _ _ us hl => match us, hl with | [_], _ => rfl
      g_law_wholes := PySem.W.mg_of X G a_law_wholes
      F_law_wholes := fun_mk (st := s_law_wholes) l_law_wholes c_law_wholes k_law_wholes
      b_law_wholes := (fun_mk (st := s_law_wholes) l_law_wholes c_law_wholes k_law_wholes).binds (ps := ["_law_hand_here"]) fun _ _ _ _ _ _ us hl => match us, hl with | [_], _ => rfl
      g_law := PySem.W.mg_of X G a_law
      F_law := fun_mk (st := s_law) l_law c_law k_law
      b_law := (fun_mk (st := s_law) l_law c_law k_law).binds (ps := ["_law_script"]) fun _ _ _ _ _ _ us hl => match us, hl with | [_], _ => rfl
      n_ValueError := PySem.W.mg_none_of X G z_ValueError
      n_abs := PySem.W.mg_none_of X G z_abs
      n_bool := PySem.W.mg_none_of X G z_bool
      n_enumerate := PySem.W.mg_none_of X G z_enumerate
      n_int := PySem.W.mg_none_of X G z_int
      n_isinstance := PySem.W.mg_none_of X G z_isinstance
      n_len := PySem.W.mg_none_of X G z_len
      n_list := PySem.W.mg_none_of X G z_list
      n_range := PySem.W.mg_none_of X G z_range
      n_repr := PySem.W.mg_none_of X G z_repr
      n_str := PySem.W.mg_none_of X G z_str
      n_tuple := PySem.W.mg_none_of X G z_tuple
      m_MOST_STATES := ⟨_, PySem.W.mg_of X G m_MOST_STATES⟩
      m_MOST_PAIRS := ⟨_, PySem.W.mg_of X G m_MOST_PAIRS⟩
      }
  exact ⟨_, fun s v => .of_eq rfl, fun base _ _ => ok_law T⟩
end LW
open PySem PySem.W PyProof.Rows
set_option maxRecDepth 100000 in
set_option maxHeartbeats 0 in
theorem PySem.Challenge.cw_spentframes_k04_refused_orders_holds : PySem.Challenge.rw_spentframes_k04_refused_orders.Holds := by
  w_on; o_law; k_head; (case hw => w_witness2)
  k_fill
  refine L4.walk_ofG (l := PySem.Challenge.rw_spentframes_k04_refused_orders) (n := 63) (k := 7) (x := "_law_script") (CX := fun _ => L2.CX0) (sp := fun w => LW.spLaw _) rfl (by decide) rfl ⟨rfl, by decide, by decide⟩ (fun w h Y => PySem.W.kIn_of Y) ?F (fun _ _ a ns hl _ hS => ⟨a, ns, rfl, hS, hl, fun _ => rfl⟩) (fun _ _ _ _ _ z => z)
  case F =>
    intro w mg fa h KX G hmg
    refine' LW.all_mk KX G hmg ?a_FrameError ?a_BadOrder ?a_BadMake ?a_BadData ?a_Order ?xL_FrameError ?sa_FrameError ?ga_FrameError ?gg_FrameError ?eC_FrameError ?tC_FrameError ?kC_FrameError ?hC_FrameError ?iC_FrameError ?cC_FrameError ?mC_FrameError ?sb_FrameError_FrameError ?sb_FrameError_BadOrder ?sb_FrameError_BadMake ?sb_FrameError_BadData ?st_FrameError ?sv_FrameError_ValueError ?xL_BadOrder ?sa_BadOrder ?ga_BadOrder ?gg_BadOrder ?eC_BadOrder ?tC_BadOrder ?kC_BadOrder ?hC_BadOrder ?iC_BadOrder ?cC_BadOrder ?mC_BadOrder ?sb_BadOrder_FrameError ?sb_BadOrder_BadOrder ?sb_BadOrder_BadMake ?sb_BadOrder_BadData ?no_BadOrder_what ?no_BadOrder_at ?st_BadOrder ?sv_BadOrder_ValueError ?xL_BadMake ?sa_BadMake ?ga_BadMake ?gg_BadMake ?eC_BadMake ?tC_BadMake ?kC_BadMake ?hC_BadMake ?iC_BadMake ?cC_BadMake ?mC_BadMake ?sb_BadMake_FrameError ?sb_BadMake_BadOrder ?sb_BadMake_BadMake ?sb_BadMake_BadData ?no_BadMake_what ?no_BadMake_at ?st_BadMake ?sv_BadMake_ValueError ?xL_BadData ?sa_BadData ?ga_BadData ?gg_BadData ?eC_BadData ?tC_BadData ?kC_BadData ?hC_BadData ?iC_BadData ?cC_BadData ?mC_BadData ?sb_BadData_FrameError ?sb_BadData_BadOrder ?sb_BadData_BadMake ?sb_BadData_BadData ?no_BadData_path ?st_BadData ?sv_BadData_ValueError ?pg_Order ?hd_Order ?po_Order ?sa_Order ?mk_Order ?kc_Order ?na_Order_n ?na_Order_masks ?na_Order_cover_rows ?na_Order_edges ?sg ?tg ?a_BadOrder_init ?i_BadOrder_init ?l_BadOrder_init ?c_BadOrder_init ?k_BadOrder_init ?a_BadMake_init ?i_BadMake_init ?l_BadMake_init ?c_BadMake_init ?k_BadMake_init ?a_BadData_init ?i_BadData_init ?l_BadData_init ?c_BadData_init ?k_BadData_init ?a_Order_init ?i_Order_init ?l_Order_init ?c_Order_init ?k_Order_init ?a_is_whole ?l_is_whole ?lt_is_whole ?c_is_whole ?k_is_whole ?a_is_sequence ?l_is_sequence ?c_is_sequence ?k_is_sequence ?a_closed_masks ?l_closed_masks ?c_closed_masks ?k_closed_masks ?a_check_masks ?l_check_masks ?c_check_masks ?k_check_masks ?a_states_of_mask ?l_states_of_mask ?c_states_of_mask ?k_states_of_mask ?a_covers_of_masks ?l_covers_of_masks ?c_covers_of_masks ?k_covers_of_masks ?a_law_mix ?l_law_mix ?c_law_mix ?k_law_mix ?a_law_draw ?l_law_draw ?c_law_draw ?k_law_draw ?a_law_shuffled ?l_law_shuffled ?c_law_shuffled ?k_law_shuffled ?a_law_closed ?l_law_closed ?c_law_closed ?k_law_closed ?a_law_order ?l_law_order ?c_law_order ?k_law_order ?a_law_exact ?l_law_exact ?c_law_exact ?k_law_exact ?a_law_hand ?l_law_hand ?c_law_hand ?k_law_hand ?a_law_seq ?l_law_seq ?c_law_seq ?k_law_seq ?a_law_strict ?l_law_strict ?c_law_strict ?k_law_strict ?a_law_state ?l_law_state ?c_law_state ?k_law_state ?a_law_due ?l_law_due ?c_law_due ?k_law_due ?a_law_told ?l_law_told ?c_law_told ?k_law_told ?a_law_spoilt ?l_law_spoilt ?c_law_spoilt ?k_law_spoilt ?a_law_case ?l_law_case ?c_law_case ?k_law_case ?a_law_wholes ?l_law_wholes ?c_law_wholes ?k_law_wholes ?a_law ?l_law ?c_law ?k_law ?z_ValueError ?z_abs ?z_bool ?z_enumerate ?z_int ?z_isinstance ?z_len ?z_list ?z_range ?z_repr ?z_str ?z_tuple ?m_MOST_STATES ?m_MOST_PAIRS
    (case a_FrameError => k_is)
    (case a_BadOrder => k_is)
    (case a_BadMake => k_is)
    (case a_BadData => k_is)
    (case a_Order => k_is)
    (case xL_FrameError => k_is)
    (case sa_FrameError => k_is)
    (case ga_FrameError => k_is)
    (case gg_FrameError => k_is)
    (case eC_FrameError => k_is)
    (case tC_FrameError => k_is)
    (case kC_FrameError => k_is)
    (case hC_FrameError => k_is)
    (case iC_FrameError => k_is)
    (case cC_FrameError => k_is)
    (case mC_FrameError => k_is)
    (case sb_FrameError_FrameError => k_is)
    (case sb_FrameError_BadOrder => k_is)
    (case sb_FrameError_BadMake => k_is)
    (case sb_FrameError_BadData => k_is)
    (case st_FrameError => k_is)
    (case sv_FrameError_ValueError => k_is)
    (case xL_BadOrder => k_is)
    (case sa_BadOrder => k_is)
    (case ga_BadOrder => k_is)
    (case gg_BadOrder => k_is)
    (case eC_BadOrder => k_is)
    (case tC_BadOrder => k_is)
    (case kC_BadOrder => k_is)
    (case hC_BadOrder => k_is)
    (case iC_BadOrder => k_is)
    (case cC_BadOrder => k_is)
    (case mC_BadOrder => k_is)
    (case sb_BadOrder_FrameError => k_is)
    (case sb_BadOrder_BadOrder => k_is)
    (case sb_BadOrder_BadMake => k_is)
    (case sb_BadOrder_BadData => k_is)
    (case no_BadOrder_what => k_is)
    (case no_BadOrder_at => k_is)
    (case st_BadOrder => k_is)
    (case sv_BadOrder_ValueError => k_is)
    (case xL_BadMake => k_is)
    (case sa_BadMake => k_is)
    (case ga_BadMake => k_is)
    (case gg_BadMake => k_is)
    (case eC_BadMake => k_is)
    (case tC_BadMake => k_is)
    (case kC_BadMake => k_is)
    (case hC_BadMake => k_is)
    (case iC_BadMake => k_is)
    (case cC_BadMake => k_is)
    (case mC_BadMake => k_is)
    (case sb_BadMake_FrameError => k_is)
    (case sb_BadMake_BadOrder => k_is)
    (case sb_BadMake_BadMake => k_is)
    (case sb_BadMake_BadData => k_is)
    (case no_BadMake_what => k_is)
    (case no_BadMake_at => k_is)
    (case st_BadMake => k_is)
    (case sv_BadMake_ValueError => k_is)
    (case xL_BadData => k_is)
    (case sa_BadData => k_is)
    (case ga_BadData => k_is)
    (case gg_BadData => k_is)
    (case eC_BadData => k_is)
    (case tC_BadData => k_is)
    (case kC_BadData => k_is)
    (case hC_BadData => k_is)
    (case iC_BadData => k_is)
    (case cC_BadData => k_is)
    (case mC_BadData => k_is)
    (case sb_BadData_FrameError => k_is)
    (case sb_BadData_BadOrder => k_is)
    (case sb_BadData_BadMake => k_is)
    (case sb_BadData_BadData => k_is)
    (case no_BadData_path => k_is)
    (case st_BadData => k_is)
    (case sv_BadData_ValueError => k_is)
    (case pg_Order => k_is)
    (case hd_Order => k_is)
    (case po_Order => k_is)
    (case sa_Order => k_is)
    (case mk_Order => k_is)
    (case kc_Order => k_is)
    (case na_Order_n => k_is)
    (case na_Order_masks => k_is)
    (case na_Order_cover_rows => k_is)
    (case na_Order_edges => k_is)
    (case sg => k_is)
    (case tg => k_is)
    (case a_BadOrder_init => k_is)
    (case i_BadOrder_init => k_is)
    (case l_BadOrder_init => k_is)
    (case c_BadOrder_init => k_is)
    (case k_BadOrder_init => k_is)
    (case a_BadMake_init => k_is)
    (case i_BadMake_init => k_is)
    (case l_BadMake_init => k_is)
    (case c_BadMake_init => k_is)
    (case k_BadMake_init => k_is)
    (case a_BadData_init => k_is)
    (case i_BadData_init => k_is)
    (case l_BadData_init => k_is)
    (case c_BadData_init => k_is)
    (case k_BadData_init => k_is)
    (case a_Order_init => k_is)
    (case i_Order_init => k_is)
    (case l_Order_init => k_is)
    (case c_Order_init => k_is)
    (case k_Order_init => k_is)
    (case a_is_whole => k_is)
    (case l_is_whole => k_is)
    (case lt_is_whole => k_is)
    (case c_is_whole => k_is)
    (case k_is_whole => k_is)
    (case a_is_sequence => k_is)
    (case l_is_sequence => k_is)
    (case c_is_sequence => k_is)
    (case k_is_sequence => k_is)
    (case a_closed_masks => k_is)
    (case l_closed_masks => k_is)
    (case c_closed_masks => k_is)
    (case k_closed_masks => k_is)
    (case a_check_masks => k_is)
    (case l_check_masks => k_is)
    (case c_check_masks => k_is)
    (case k_check_masks => k_is)
    (case a_states_of_mask => k_is)
    (case l_states_of_mask => k_is)
    (case c_states_of_mask => k_is)
    (case k_states_of_mask => k_is)
    (case a_covers_of_masks => k_is)
    (case l_covers_of_masks => k_is)
    (case c_covers_of_masks => k_is)
    (case k_covers_of_masks => k_is)
    (case a_law_mix => k_is)
    (case l_law_mix => k_is)
    (case c_law_mix => k_is)
    (case k_law_mix => k_is)
    (case a_law_draw => k_is)
    (case l_law_draw => k_is)
    (case c_law_draw => k_is)
    (case k_law_draw => k_is)
    (case a_law_shuffled => k_is)
    (case l_law_shuffled => k_is)
    (case c_law_shuffled => k_is)
    (case k_law_shuffled => k_is)
    (case a_law_closed => k_is)
    (case l_law_closed => k_is)
    (case c_law_closed => k_is)
    (case k_law_closed => k_is)
    (case a_law_order => k_is)
    (case l_law_order => k_is)
    (case c_law_order => k_is)
    (case k_law_order => k_is)
    (case a_law_exact => k_is)
    (case l_law_exact => k_is)
    (case c_law_exact => k_is)
    (case k_law_exact => k_is)
    (case a_law_hand => k_is)
    (case l_law_hand => k_is)
    (case c_law_hand => k_is)
    (case k_law_hand => k_is)
    (case a_law_seq => k_is)
    (case l_law_seq => k_is)
    (case c_law_seq => k_is)
    (case k_law_seq => k_is)
    (case a_law_strict => k_is)
    (case l_law_strict => k_is)
    (case c_law_strict => k_is)
    (case k_law_strict => k_is)
    (case a_law_state => k_is)
    (case l_law_state => k_is)
    (case c_law_state => k_is)
    (case k_law_state => k_is)
    (case a_law_due => k_is)
    (case l_law_due => k_is)
    (case c_law_due => k_is)
    (case k_law_due => k_is)
    (case a_law_told => k_is)
    (case l_law_told => k_is)
    (case c_law_told => k_is)
    (case k_law_told => k_is)
    (case a_law_spoilt => k_is)
    (case l_law_spoilt => k_is)
    (case c_law_spoilt => k_is)
    (case k_law_spoilt => k_is)
    (case a_law_case => k_is)
    (case l_law_case => k_is)
    (case c_law_case => k_is)
    (case k_law_case => k_is)
    (case a_law_wholes => k_is)
    (case l_law_wholes => k_is)
    (case c_law_wholes => k_is)
    (case k_law_wholes => k_is)
    (case a_law => k_is)
    (case l_law => k_is)
    (case c_law => k_is)
    (case k_law => k_is)
    (case z_ValueError => k_is)
    (case z_abs => k_is)
    (case z_bool => k_is)
    (case z_enumerate => k_is)
    (case z_int => k_is)
    (case z_isinstance => k_is)
    (case z_len => k_is)
    (case z_list => k_is)
    (case z_range => k_is)
    (case z_repr => k_is)
    (case z_str => k_is)
    (case z_tuple => k_is)
    (case m_MOST_STATES => k_is)
    (case m_MOST_PAIRS => k_is)
#print axioms PySem.Challenge.cw_spentframes_k04_refused_orders_holds

