import PyProof.Rows.All
import Wide.All
import OpenK.AllK
import Wide.FinOn
import PySem.Challenge.RW_spentframes_k07_whole_rows_counted_and_f
import KE.GoesMore
import KE.GoesEnum
import HandS.ForMost
import HandS.ForExc
import HandS.Walk
import HandS.Deep
import HandS.IsInst
import HandS.Conv
import HandS.TupAny
import HandS.TupLe
import HandS.ExcInit
import HandS.ExcField
import HandS.ExcIs
import HandS.Defaults
import HandS.Flow
import HandS.Strs
import HandS.Wide
import PyProof.GenComp
import HandS.GenList
import HandS.GenYield
import HandS.CallSlots
set_option Elab.async false
set_option linter.all false
set_option maxRecDepth 100000
set_option maxHeartbeats 4000000
/-! Own rules beside the hand layer: walks over a list or a tuple, enumerate of a tuple, tuple.index of flat items. -/
namespace L3
open PySem PySem.Spec PyProof.Rows L2

/-! ### one of two readings of what is walked -/
theorem piOr {X : Cx} {tg e : Expr} {t u : TI} (h : PI X tg e t) (h' : PI X tg e u) :
    PI X tg e (fun σ H R => t σ H R ∨ u σ H R) := by
  constructor
  intro pins s σ H R I q
  cases q with
  | inl q => exact h.run pins s σ H R I q
  | inr q => exact h'.run pins s σ H R I q
def iSeq (K : PySem.W.Frag) (tl : TE) : TI := fun σ H R => iList K tl σ H R ∨ iTup K tl σ H R
theorem pi_seq {X : Cx} {tg l : Expr} {tl : TE} (hl : PE X l tl) : PI X tg l (iSeq X.K tl) :=
  piOr (pi_list hl) (pi_tup hl)

/-! ### enumerate of a tuple -/
def IteT (K : PySem.W.Frag) (a : Addr) : It where
  go := fun i H => ∃ (xs : List V) (x : V), SqT K H a xs ∧ xs[i]? = some x
  yld := fun i H v H' => ∃ T x, v = .ref T ∧ H T = none ∧ H' = upd H T (.tup [.int (i : Nat), x]) ∧
    ∀ xs, SqT K H a xs → xs[i]? = some x
  stop := fun i H => ∃ xs : List V, SqT K H a xs ∧ xs.length = i
theorem enum_ne_tup {h : Heap} {e it a : Addr} {i : Int} {old : Value} {items : Array Value}
    (he : IsEnum h e it i old) (p : h.IsTuple a items) : e ≠ a := by
  intro z
  obtain ⟨o, ho, hc, _⟩ := p
  rw [← z] at ho
  have q := he.symm.trans ho
  have q' := Option.some.inj q
  rw [← q'] at hc
  exact absurd (show Value.type "enumerate" = Value.type "tuple" from hc) (by decide)
theorem iter_ne_tup {h : Heap} {it a : Addr} {i : Nat} {items : Array Value}
    (hi : h.IsTupleIter it a i) (p : h.IsTuple a items) : a ≠ it := by
  intro z
  obtain ⟨o, ho, hc, _⟩ := p
  obtain ⟨o', ho', hc', _⟩ := hi
  rw [z] at ho
  have q := Option.some.inj (ho.symm.trans ho')
  subst q
  rw [hc] at hc'
  exact absurd hc' (by decide)
theorem turn_enumT {P : Program} {w : World} {K : PySem.W.Frag} {elts : List Expr} {kk : Nat} {tpos : Pos} (a e it : Addr) :
    Turn P w K (.Tuple elts kk tpos) (IteT K a) [e, it] e
      (fun i h => (∃ old, IsEnum h e it ((i : Nat) : Int) old) ∧ h.IsTupleIter it a i ∧ e ≠ it) where
  mem := by simp
  obj := by
    intro i h st b hb
    obtain ⟨⟨old, he⟩, ⟨o, ho, hc, hd⟩, _⟩ := st
    have e' : b = e ∨ b = it := by simpa using hb
    cases e' with
    | inl z => subst z; exact ⟨_, he, fun v q => nomatch q⟩
    | inr z => subst z; exact ⟨o, ho, fun v q => by rw [hd] at q; cases q⟩
  keep := by
    intro i h h' st k
    obtain ⟨⟨old, he⟩, hi, hne⟩ := st
    exact ⟨⟨old, k e (by simp) _ he⟩, hi.at fun o q => k it (by simp) o q, hne⟩
  item := by
    intro X hP hw hK hc i pins s σ H E I hf st hg
    subst hP hw hK
    obtain ⟨⟨old, he⟩, hit, hne⟩ := st
    obtain ⟨xs, x, hq, hx⟩ := hg
    obtain ⟨its, rv, p, hz⟩ := I.tuple hq
    obtain ⟨u, hu, ru⟩ := rv.get hx
    have hel : e < s.heap.objs.size := Heap.lt_size he
    have hil : it < s.heap.objs.size := by
      obtain ⟨_, q, _⟩ := hit
      exact Heap.lt_size q
    have p' : s.heap.IsTuple a its.toArray := p
    have n1 : e ≠ a := enum_ne_tup he p'
    have n2 : a ≠ it := iter_ne_tup hit p'
    have hh : X.A.in1.handled = none := I.ok.hd hc
    have D := Draws.tuple (prog := X.prog) (w := X.w) (A := X.A.in1) hh it a n2 its.toArray
    have hlt : i < its.toArray.size := by
      rw [List.size_toArray]
      exact (List.getElem?_eq_some_iff.mp hu).1
    have nef : e ∉ [it, a] := by simp [hne, n1]
    refine wpAny_pyNext_enum_itemD D he ⟨hit, p'⟩ hlt hne nef fun y h' tk hy ho hit' hT hsz hk => ?_
    have ey : y = u := by
      have hu' : its.toArray[i]? = some u := by simpa using hu
      exact Option.some.inj (hy.symm.trans hu')
    subst ey
    refine ⟨_, rfl, wpAny_letOwnedTupleGo_enum (s := { s with heap := h', toks := tk + 1 }) ho fun h'' he' sb => ?_⟩
    have hT2 : h''.get? s.heap.objs.size = some { cls := .type "tuple", data := .seq #[.int i tk, y] } :=
      (sb.2 _ (Nat.ne_of_gt hel)).trans hT
    have new : ObjOk X.prog X.w (upd H s.heap.objs.size (.tup [.int (i : Nat), x])) h'' s.heap.objs.size (.tup [.int (i : Nat), x]) :=
      ⟨by show 2 ≤ sizeLine; decide, [.int i tk, y], .cons ⟨_, rfl⟩ (.cons ru .nil), ⟨_, hT2, rfl, _, rfl⟩⟩
    have I1 : Inv X pins σ (upd H s.heap.objs.size (.tup [.int (i : Nat), x])) { s with heap := h'', toks := tk + 1 } := by
      refine I.turnedNew (ch := [e, it]) (fun b ob hb q => ?_) hf (Nat.le_refl _) new
      have b1 : b ≠ e := fun z => hb (by simp [z])
      have b2 : b ≠ it := fun z => hb (by simp [z])
      exact (sb.2 b b1).trans (hk b ob b1 b2 q)
    refine ⟨.ref s.heap.objs.size, _, I1, rfl, ⟨_, x, rfl, I.hok.fresh (Nat.le_refl _), rfl, fun ys hy' => ?_⟩, ⟨⟨y, ?_⟩, ?_, hne⟩, fun b hb => ?_⟩
    · rw [I.tuple_inj hy' hq]; exact hx
    · have e1 : ((i + 1 : Nat) : Int) = (i : Int) + 1 := by omega
      rw [e1]; exact he'
    · exact hit'.1.at fun o q => (sb.2 it (Ne.symm hne)).trans q
    · have hb' : b < s.heap.objs.size := by
        have e' : b = e ∨ b = it := by simpa using hb
        cases e' with
        | inl z => rw [z]; exact hel
        | inr z => rw [z]; exact hil
      rw [upd_ne (Nat.ne_of_lt hb')]
      exact (hf b hb).1
  done := by
    intro X hP hw hK hc i pins s σ H E I hf st hg
    subst hP hw hK
    obtain ⟨⟨old, he⟩, hit, hne⟩ := st
    obtain ⟨xs, hq, hx⟩ := hg
    obtain ⟨its, rv, p, hz⟩ := I.tuple hq
    obtain ⟨f0, f1, f2, f3, f4, f5⟩ := hf it (by simp)
    have p' : s.heap.IsTuple a its.toArray := p
    have n2 : a ≠ it := iter_ne_tup hit p'
    have hh : X.A.in1.handled = none := I.ok.hd hc
    have D := Draws.tuple (prog := X.prog) (w := X.w) (A := X.A.in1) hh it a n2 its.toArray
    have hi : i = its.toArray.size := by rw [List.size_toArray, ← rv.length]; exact hx.symm
    subst hi
    exact wpAny_pyNext_enum_endD D he ⟨hit, p'⟩ fun h' eb => ⟨rfl, I.turned (t' := s.toks) (fun b o hb q => eb b o hb q) f0 f1 f3 f4 f5⟩
  self := by
    intro A i s Q E st h
    obtain ⟨⟨_, he⟩, _⟩ := st
    exact wpAny_pyIter_enum he h

theorem meets_enum_tup (l : Addr) (items : Array Value) (n : Nat) (dct : Option Addr) (sl : Array (Option Value)) :
    Meets (Builtin.«enumerate.__new__» ⟨[.type "enumerate", .ref l], []⟩) (fun _ R s =>
      s.heap.get? l = some { cls := .type "tuple", dict := dct, data := .seq items n, slots := sl } ∧
      R (.ok (.ret (.ref (s.heap.push { cls := .type "tuple_iterator", data := .fields #[.ref l, .int 0 0] }).objs.size)))
        { s with heap := ((s.heap.push { cls := .type "tuple_iterator", data := .fields #[.ref l, .int 0 0] }).push { cls := .type "enumerate", data := .fields #[.none, .bool false, .ref s.heap.objs.size, rawInt 0, .none, .none] }) }) :=
  .of_wp fun prog w A R s h => by
    obtain ⟨hp, g, d, tk, os⟩ := s
    obtain ⟨hl, h⟩ := h
    have hsub := sub_enumerate
    have hL : Heap.IsTuple (Shared.heap ⟨hp, g, d, tk, os⟩) l items := ⟨_, hl, rfl, n, rfl⟩
    wp_walk using AutoSeq1.wpAny_loadPart' hl
    refine wpAny_stack_any fun st => wpAny_pure ?_
    split
    · rename_i c _ _ _ _ _
      cases (c == Value.type "enumerate")
      · wp_walk using AutoSeq1.wpAny_loadPart' hl, wpAny_pyIter_tuple hL
        exact ⟨_, rfl, h⟩
      · wp_walk using AutoSeq1.wpAny_loadPart' hl, wpAny_pyIter_tuple hL
        exact ⟨_, rfl, h⟩
    · wp_walk using AutoSeq1.wpAny_loadPart' hl, wpAny_pyIter_tuple hL
      exact ⟨_, rfl, h⟩
theorem call_enum_tup {prog : Program} {w : World} {A : Around} {E : Value → Shared → Prop} {s : Shared} {l : Addr} {items : Array Value}
    {Q : Value → Shared → Prop} (hL : s.heap.IsTuple l items)
    (h : ∀ h', IsEnum h' (s.heap.objs.size + 1) s.heap.objs.size 0 .none → h'.IsTupleIter s.heap.objs.size l 0 →
      h'.objs.size = s.heap.objs.size + 2 → (∀ b o, s.heap.get? b = some o → h'.get? b = some o) →
      Q (.ref (s.heap.objs.size + 1)) { s with heap := h' }) :
    wpAny (model prog w) A (call (.type "enumerate") [.ref l]) Q E s := by
  obtain ⟨⟨c, dct, dt, sl⟩, hl, hc, n, hd⟩ := hL
  replace hc : c = .type "tuple" := hc
  replace hd : dt = .seq items n := hd
  subst hc hd
  refine callType_new F.called_enumerate (by decide) (F.typeCall_enumerate_1 _) (F.newCall_enumerate_1 _)
    (fun obj => F.args_object_init_2 obj _) F.entry_enumerate_new (meets_enum_tup l items n dct sl) ⟨hl, ?_⟩
  have hz : (s.heap.push { cls := .type "tuple_iterator", data := .fields #[.ref l, .int 0 0] }).objs.size = s.heap.objs.size + 1 :=
    Heap.size_push ..
  show _ ∧ _
  rw [hz]
  have he : IsEnum ((s.heap.push { cls := .type "tuple_iterator", data := .fields #[.ref l, .int 0 0] }).push
      { cls := .type "enumerate", data := .fields #[.none, .bool false, .ref s.heap.objs.size, rawInt 0, .none, .none] })
      (s.heap.objs.size + 1) s.heap.objs.size 0 .none := by
    have q := Heap.get?_push_size (s.heap.push { cls := .type "tuple_iterator", data := .fields #[.ref l, .int 0 0] })
      (o := { cls := .type "enumerate", data := .fields #[.none, .bool false, .ref s.heap.objs.size, rawInt 0, .none, .none] }) rfl
    rw [hz] at q
    exact q
  have hi : ((s.heap.push { cls := .type "tuple_iterator", data := .fields #[.ref l, .int 0 0] }).push
      { cls := .type "enumerate", data := .fields #[.none, .bool false, .ref s.heap.objs.size, rawInt 0, .none, .none] }).IsTupleIter s.heap.objs.size l 0 :=
    ⟨_, Heap.get?_push_of_some _ (Heap.get?_push_size _ rfl), rfl, rfl⟩
  refine ⟨⟨_, he, rfl⟩, h _ he hi (by rw [Heap.size_push, hz]) fun b o x => ?_⟩
  exact Heap.get?_push_of_some _ (Heap.get?_push_of_some _ x)
def iEnumT (K : PySem.W.Frag) (ta : TA) : TI := fun σ H R => ta σ H fun vs H1 => ∃ a xs, vs = [.ref a] ∧ SqT K H1 a xs ∧ R (IteT K a) H1
theorem pi_enumT {X : Cx} {e : Expr} {ta : TA} {p pos tpos : Pos} {elts : List Expr} {kk : Nat} (hg : Gl X "enumerate")
    (hm : X.mg "enumerate" = none) (ha : PA X [e] ta) (hs : starEach [e] X.env = [(false, eval e X.env)] := by rfl) :
    PI X (.Tuple elts kk tpos) (.Call (.Name "enumerate" p) [e] [] pos) (iEnumT X.K ta) := by
  constructor
  intro pins s σ H R I h
  refine Call_ (ld_blt I hg hm boot_enumerate (PyProof.Rows.callWith_type1 (thn (ha.run pos pins s σ H _ I h) fun us s1 hh => ?_) hs rfl))
  obtain ⟨vs, H1, I1, r1, a, xs, ex, hq, q⟩ := hh
  subst ex
  cases r1 with
  | cons r rr =>
    cases rr
    cases r
    obtain ⟨its, rv, p', hz⟩ := I1.tuple hq
    refine call_enum_tup (show s1.heap.IsTuple a its.toArray from p') fun h' he hit hsz hk => wpAny_pyIter_enum he ?_
    have I2 : Inv X pins σ H1 { s1 with heap := h' } := I1.kept (t' := s1.toks) hk
    refine ⟨s1.heap.objs.size + 1, [s1.heap.objs.size + 1, s1.heap.objs.size], _, _, H1, rfl, I2,
      turn_enumT a (s1.heap.objs.size + 1) s1.heap.objs.size, ⟨⟨.none, he⟩, hit, Nat.succ_ne_self _⟩, fun b hb => ?_, q⟩
    have e' : b = s1.heap.objs.size + 1 ∨ b = s1.heap.objs.size := by simpa using hb
    have hle : s1.heap.objs.size ≤ b := by
      cases e' with
      | inl z => rw [z]; exact Nat.le_add_right _ _
      | inr z => rw [z]; exact Nat.le_refl _
    exact I1.fpOk hle (I1.hok.fresh hle)
def iEnumS (K : PySem.W.Frag) (ta : TA) : TI := fun σ H R => iEnum K ta σ H R ∨ iEnumT K ta σ H R
theorem pi_enumS {X : Cx} {e : Expr} {ta : TA} {p pos tpos : Pos} {elts : List Expr} {kk : Nat} (hg : Gl X "enumerate")
    (hm : X.mg "enumerate" = none) (ha : PA X [e] ta) (hs : starEach [e] X.env = [(false, eval e X.env)] := by rfl) :
    PI X (.Tuple elts kk tpos) (.Call (.Name "enumerate" p) [e] [] pos) (iEnumS X.K ta) :=
  piOr (pi_enum hg hm ha hs) (pi_enumT hg hm ha hs)
theorem walk_enumT {K : PySem.W.Frag} {a : Addr} {xs : List V} :
    Walk (IteT K a) xs.length (fun H => SqT K H a xs) (YPair (fun i => some (.int (i : Nat))) (fun i => xs[i]?)) := by
  refine ⟨fun i _ hi q => ⟨xs, xs[i], q, by simp [hi]⟩, fun _ q => ⟨xs, q, rfl⟩, fun i H v H' _ q y => ?_⟩
  obtain ⟨T, x, h1, h2, h3, h4⟩ := y
  exact ⟨T, .int (i : Nat), x, h1, h2, h3, rfl, h4 xs q⟩

/-! ### tuple.index over flat items -/
def rIndexT (K : PySem.W.Frag) : V → List V → Hp → VK → Prop := fun x xs H Q => ∃ (a : Addr) (ys : List V) (y : V) (j : Nat) (z : V),
  x = V.ref a ∧ xs = [y] ∧ SqT K H a ys ∧ flatV y = true ∧ ys.all flatV = true ∧ ys[j]? = some z ∧ eqV z y = true ∧
  (∀ (m : Nat) (z' : V), m < j → ys[m]? = some z' → eqV z' y = false) ∧ Q (.int (j : Nat)) H
theorem mt_indexT {X : Cx} : MtR X "tuple.index" (rIndexT X.K) := by
  intro pins s σ H x xs v us Q I rx rs h
  obtain ⟨p, ys, y, j, z, rfl, rfl, hq, fy, fys, hy, hz1, hno, q⟩ := h
  cases rx
  cases rs with
  | cons ry rt =>
    rename_i uy ut
    cases rt
    obtain ⟨its, r, pl, hz⟩ := I.tuple hq
    obtain ⟨⟨cls, dd, dt, sl⟩, ho, hc, n, hd⟩ := pl
    simp only at hc hd
    subst hc
    subst hd
    have hl : its.toArray.size = ys.length := by rw [List.size_toArray, ← r.length]
    have hj : j < its.toArray.size := by rw [hl]; exact (List.getElem?_eq_some_iff.mp hy).1
    have eqAt : ∀ (m : Nat) (hm : m < its.toArray.size), ∃ w, ys[m]? = some w ∧ eqU y its.toArray[m] = eqV w y := by
      intro m hm
      have hm' : m < ys.length := by rw [← hl]; exact hm
      obtain ⟨u', hu', ru'⟩ := r.get (i := m) (x := ys[m]) (by simp [hm'])
      refine ⟨ys[m], List.getElem?_eq_getElem hm', ?_⟩
      have e0 : its.toArray[m] = u' := by
        have e1 := (List.getElem?_eq_some_iff.mp hu').2
        rw [← e1]
        simp
      rw [e0]
      exact eqU_of ru' (flat_at fys (List.getElem?_eq_getElem hm'))
    refine call_meets PySem.F.slot_tuple_index ⟨_, ho, rfl⟩ PySem.F.entry_tuple_index (PySem.F.args_tuple_index_2 _ _)
      (TI.tuple_indexAt p its.toArray n dd sl uy (eqU y) j hj ?_ ?_)
      ⟨ho, fun w hw => mem_eqAt ry fy r fys w (by simpa using hw), ⟨.int (j : Nat), H, I.tok _, ⟨_, rfl⟩, q⟩⟩
    · obtain ⟨w, h1, h2⟩ := eqAt j hj
      rw [hy] at h1
      cases h1
      rw [h2]
      exact hz1
    · intro m hm hmj
      obtain ⟨w, h1, h2⟩ := eqAt m hm
      rw [h2]
      exact hno m w hmj h1

/-! ### several except clauses, each with a name -/
/-- one clause: the class, the name's slot, the suite's reading -/
structure Cl where
  c : Value
  i : Option Nat
  ts : Addr → Value → Option Addr → TS
def wMas (K : PySem.W.Frag) (Wout : WX) (D : Ends) : List Cl → WX
  | [] => Wout
  | ⟨c, some i, ts⟩ :: r => wAs K c i ts (wMas K Wout D r) D
  | ⟨c, none, ts⟩ :: r => fun cls d σ H => ∃ b, PySem.W.exmOne K cls c = some b ∧ (b = true → ∀ a, H a = none → ts a cls d D σ H) ∧ (b = false → wMas K Wout D r cls d σ H)
inductive HdsAs (X : Cx) : List ExceptHandler → List Cl → Prop
  | nil : HdsAs X [] []
  | cons {x n : Str} {c : Value} {i : Nat} {ts : Addr → Value → Option Addr → TS} {b₀ : Stmt} {suite : List Stmt} {np pos' : Pos}
      {hds : List ExceptHandler} {l : List Cl} (hi : X.N[i]? = some n) (hln : X.env.kindOf n = some .local) (hc : Names X x c)
      (hsu : ∀ (a : Addr) (oe : Obj) (cls : Value) (d : Option Addr) (pn : List (Addr × Obj)), Zc cls d oe →
        (∃ vs, oe.data = .fields vs) → PSs (X.suite a ((a, oe) :: pn)) (b₀ :: suite) (ts a cls d))
      (r : HdsAs X hds l) :
      HdsAs X (.ExceptHandler (some (.Name x np)) (some n) (b₀ :: suite) pos' :: hds) (⟨c, some i, ts⟩ :: l)
  | bare {x : Str} {c : Value} {ts : Addr → Value → Option Addr → TS} {b₀ : Stmt} {suite : List Stmt} {np pos' : Pos}
      {hds : List ExceptHandler} {l : List Cl} (hc : Names X x c)
      (hsu : ∀ (a : Addr) (oe : Obj) (cls : Value) (d : Option Addr) (pn : List (Addr × Obj)), Zc cls d oe →
        (∃ vs, oe.data = .fields vs) → PSs (X.suite a ((a, oe) :: pn)) (b₀ :: suite) (ts a cls d))
      (r : HdsAs X hds l) :
      HdsAs X (.ExceptHandler (some (.Name x np)) none (b₀ :: suite) pos' :: hds) (⟨c, none, ts⟩ :: l)
section
variable {X : Cx} {body : List Stmt} {h₀ : ExceptHandler} {hds : List ExceptHandler} {l : List Cl} {pos : Pos} {tb : WX → TS} {Wout : WX}
/-- the clauses one after another, the exception on the ground at h3 -/
theorem mas_go {pins : List (Addr × Obj)} {σ' : L2.St} {H' : Hp} {sI s' : Shared} {a : Addr} {B : Heap} {cls : Value} {d : Option Addr} {D : Ends}
    {h3 : Heap} (ok : X.Ok) (hs : X.stack = X.env :: X.outer) (hf : X.env.frame = some X.env.locals) (hN : X.N.Nodup) (tk : Takes X Wout)
    (J : Inv X pins σ' H' sI) (nb : ∀ b o, sI.heap.get? b = some o → b ∉ frs X.stack → B.get? b = some o)
    (up : sI.heap.UpToSlots h3) (na : H' a = none) (os : s'.os = sI.os) (ag : AllBare s'.gens)
    (fl3 : HandSPX.FlyingZ B (X.env :: X.outer) a (Zc cls d) h3) :
    ∀ {hds' : List ExceptHandler} {l' : List Cl}, HdsAs X hds' l' → wMas X.K Wout D l' cls d σ' H' →
      wpAny (model X.prog X.w) X.A (handleBy (.ref a) X.env hds') (SP X pins D) X.xe { s' with heap := h3 } := by
  have J3 : Inv X pins σ' H' { s' with heap := h3 } := J.landed nb fl3.1 up os ag
  obtain ⟨oe3, vs3, he3, hz3, hd3⟩ := fl3.there
  have nfr : a ∉ frs (X.env :: X.outer) := by
    intro hm
    obtain ⟨_, o', e', hnf⟩ := fl3.2.2.1.mem hm
    rw [he3] at e'
    cases e'
    exact hnf _ hd3
  have nL : a ≠ X.env.locals := by
    intro z
    exact nfr (List.mem_filterMap.mpr ⟨X.env, List.mem_cons_self, by rw [hf, z]⟩)
  have nF : a ∉ X.fs := by
    intro hm
    obtain ⟨e, he, q⟩ := List.mem_filterMap.mp hm
    exact nfr (List.mem_filterMap.mpr ⟨e, List.mem_cons_of_mem _ he, q⟩)
  have S3 := J3.suite he3 hd3 na nL nF
  have LT : PySem.W.Looks (model X.prog X.w) h3 (typeOf (.ref a)) cls := by
    intro A Q E s k q
    exact wpAny_typeOf_ref (k _ _ he3) (by rw [hz3.1]; exact q)
  intro hds' l' hk
  induction hk with
  | nil =>
    intro w
    refine wpAny_handleBy_nil ?_
    obtain ⟨k1, k2, k3, oe, vs, T, oT, ts', he, hz, hd, h1, hr⟩ := id fl3
    unfold PySem.passOn
    refine wpAny_bind (wpAny_field he hd h1 ?_)
    rw [if_neg (show ¬ ((Value.ref T == Value.none) = true) by simp)]
    have fin : wpAny (model X.prog X.w) X.A (setFlight (.ref a) X.env.frame)
        (fun _ s4 => wpAny (model X.prog X.w) X.A (throw (.ref a) : Sem Flow) (SP X pins D) X.xe s4) X.xe { s' with heap := h3 } := by
      rw [hf]
      refine HandSPX.setFlight_upZ fl3 fun h4 hh4 up4 => ?_
      refine wpAny_throw (tk _ _ ?_)
      exact ⟨a, B, sI, pins, σ', H', cls, d, rfl, J, nb, up.trans up4, .inr (.inr (by rw [hs]; exact hh4)), na, os, ag, w⟩
    first
      | exact wpAny_bind (wpAny_pure (wpAny_bind fin))
      | exact wpAny_bind fin
  | @cons x n c i ts b₀ suite np pos' hds2 l2 hi hln hc hsu r ih =>
    intro w
    obtain ⟨b, hb1, hyes, hno⟩ := w
    have hloc : Loc X.env.scope n := .inl hln
    refine wpAny_handleBy_cons (codeAny_handlers_test ?_) (by intro q; cases q)
    have LM := PySem.W.exm_one (M := model X.prog X.w) (J3.kIn) LT hb1
    have test : ∀ {Q : Value → Shared → Prop} {E : Value → Shared → Prop}, Q c { s' with heap := h3 } →
        wpAny (model X.prog X.w) (X.A.mark (some (.ref a))) (eval (.Name x np) X.env) Q E { s' with heap := h3 } := by
      intro Q E q
      obtain ⟨hg, hdbg, hm | ⟨hm, hv, hnn⟩⟩ := hc
      · exact ld_glob (X := X.suite a ((a, oe3) :: (X.pn ++ pins))) S3 hg hm q hdbg
      · exact ld_blt (X := X.suite a ((a, oe3) :: (X.pn ++ pins))) S3 hg hm hv q hnn hdbg
    refine test (LM.here ?_)
    cases b with
    | true =>
      refine codeAny_handlers_suite_as ?_
      refine HandSPX.lands_againZ fl3 fun h4 fl4 up4 => ?_
      have J4 : Inv X pins σ' H' { s' with heap := h4 } := J.landed nb fl4.1 (up.trans up4) os ag
      obtain ⟨oe4, vs4, he4, hz4, hd4⟩ := fl4.there
      have S4 := J4.suite he4 hd4 na nL nF
      refine store_ok (X := X.suite a ((a, oe4) :: (X.pn ++ pins))) (v := .ref a) S4 hN hi hloc rfl (fun s5 S5 => ?_) (.inr hln)
      refine wpAny_mono ((hsu a oe4 cls d (X.pn ++ pins) hz4 ⟨_, hd4⟩).run [] s5 _ H' _ S5 (hyes rfl a na)) (fun f s6 hsp => ?_) (fun _ _ z => False.elim z)
      have end_ : ∀ {σ6 : L2.St} {H6 : Hp} {Q : Shared → Prop}, Inv (X.suite a ((a, oe4) :: (X.pn ++ pins))) [] σ6 H6 s6 →
          (∀ s7, Inv X pins (σ6.set i none) H6 s7 → Q s7) →
          wpAny (model X.prog X.w) X.A (do bindName X.env n .none; unbindBehindTheSuite X.env n pos') (fun _ s7 => Q s7) X.xe s6 := by
        intro σ6 H6 Q S6 hq
        exact gone_ok (S6.unsuite ok) hN hi hln hq
      cases f with
      | next =>
        obtain ⟨σ6, H6, S6, q6⟩ := hsp
        exact end_ S6 fun s7 J7 => ⟨_, _, J7, q6⟩
      | brk =>
        obtain ⟨σ6, H6, S6, q6⟩ := hsp
        exact end_ S6 fun s7 J7 => ⟨_, _, J7, q6⟩
      | cont =>
        obtain ⟨σ6, H6, S6, q6⟩ := hsp
        exact end_ S6 fun s7 J7 => ⟨_, _, J7, q6⟩
      | ret u =>
        obtain ⟨v6, σ6, H6, S6, r6, q6⟩ := hsp
        exact end_ S6 fun s7 J7 => ⟨_, _, _, J7, r6, q6⟩
    | false =>
      show wpAny _ X.A (handleBy (.ref a) X.env hds2) _ _ _
      exact ih (hno rfl)
  | @bare x c ts b₀ suite np pos' hds2 l2 hc hsu r ih =>
    intro w
    obtain ⟨b, hb1, hyes, hno⟩ := w
    refine wpAny_handleBy_cons (codeAny_handlers_test ?_) (by intro q; cases q)
    have LM := PySem.W.exm_one (M := model X.prog X.w) (J3.kIn) LT hb1
    have test : ∀ {Q : Value → Shared → Prop} {E : Value → Shared → Prop}, Q c { s' with heap := h3 } →
        wpAny (model X.prog X.w) (X.A.mark (some (.ref a))) (eval (.Name x np) X.env) Q E { s' with heap := h3 } := by
      intro Q E q
      obtain ⟨hg, hdbg, hm | ⟨hm, hv, hnn⟩⟩ := hc
      · exact ld_glob (X := X.suite a ((a, oe3) :: (X.pn ++ pins))) S3 hg hm q hdbg
      · exact ld_blt (X := X.suite a ((a, oe3) :: (X.pn ++ pins))) S3 hg hm hv q hnn hdbg
    refine test (LM.here ?_)
    cases b with
    | true =>
      refine codeAny_handlers_suite ?_
      refine HandSPX.lands_againZ fl3 fun h4 fl4 up4 => ?_
      have J4 : Inv X pins σ' H' { s' with heap := h4 } := J.landed nb fl4.1 (up.trans up4) os ag
      obtain ⟨oe4, vs4, he4, hz4, hd4⟩ := fl4.there
      have S4 := J4.suite he4 hd4 na nL nF
      refine wpAny_mono ((hsu a oe4 cls d (X.pn ++ pins) hz4 ⟨_, hd4⟩).run [] _ _ H' _ S4 (hyes rfl a na)) (fun f s6 hsp => ?_) (fun _ _ z => False.elim z)
      cases f with
      | next =>
        obtain ⟨σ6, H6, S6, q6⟩ := hsp
        exact ⟨_, _, S6.unsuite ok, q6⟩
      | brk =>
        obtain ⟨σ6, H6, S6, q6⟩ := hsp
        exact ⟨_, _, S6.unsuite ok, q6⟩
      | cont =>
        obtain ⟨σ6, H6, S6, q6⟩ := hsp
        exact ⟨_, _, S6.unsuite ok, q6⟩
      | ret u =>
        obtain ⟨v6, σ6, H6, S6, r6, q6⟩ := hsp
        exact ⟨_, _, _, S6.unsuite ok, r6, q6⟩
    | false =>
      show wpAny _ X.A (handleBy (.ref a) X.env hds2) _ _ _
      exact ih (hno rfl)
/-- X(), X an own error without fields -/
theorem pmk_own0 {X : Cx} {C : Addr} {bmB : List Value} {B newId initId : String} {x : Str} {p pos : Pos} (F : ExcBaseFacts B newId initId bmB) (q : PySem.W.excIn X.K C bmB newId = true) (gC : X.mg x = some (.ref C))
    (kC : PySem.W.keepIn X.K (.ref C) = true) (r : Raises X (.ref C)) (hg : Gl X x) (hdb : (x == ("__debug__" : Str)) = false := by decide) :
    PMk X (.Call (.Name x p) [] [] pos) (fun _ H Q => Q (.ref C) none H) := by
  intro pins s σ H Q I h
  refine wpAny_Call_Name_kw (ld_glob I hg gC ?_ hdb)
  refine PySem.W.callWith_K0 I.kIn kC ?_
  show wpAny _ _ (call (.ref C) []) _ _ _
  obtain ⟨bm, N, nm, qn, bs, hdct, sn, sub, ab, col, dd, k0, k1, k2, k3, k5, mN, hC, hN, hni, T⟩ := exc_obj I.kIn q
  exact wpAny_call_exc_subT F T hC hN hni (fun h' e hm => mk_of I hm r h (I.hok.gone hm.new)) (Nat.zero_le _)
theorem ps_try_mas (hs : X.stack = X.env :: X.outer) (hf : X.env.frame = some X.env.locals) (hN : X.N.Nodup) (tk : Takes X Wout)
    (hb : ∀ (W : WX) (pn : List (Addr × Obj)) (xe : Value → Shared → Prop), Takes (X.tr pn xe) W →
      PassesOwn (model X.prog X.w) X.A X.env xe → PSs (X.tr pn xe) body (tb W))
    (hh : HdsAs X (h₀ :: hds) l) : PS X (.Try body (h₀ :: hds) [] [] pos) (fun D σ H => tb (wMas X.K Wout D l) D σ H) := by
  constructor
  intro pins s σ H D I h
  have ok := I.ok
  have hfr : X.A.frames = some (X.env :: X.outer) := by rw [ok.frames, hs]
  refine wpAny_Try_except ?_
  have run := (hb (wMas X.K Wout D l) (X.pn ++ pins)
    (fun e s₁ => wpAny (model X.prog X.w) X.A (noteFrame e X.env) (fun _ s₂ => wpAny (model X.prog X.w) X.A (setFlight e none)
      (fun _ s₃ => wpAny (model X.prog X.w) X.A (handleBy e X.env (h₀ :: hds)) (SP X pins D) X.xe s₃) X.xe s₂) X.xe s₁)
    (fun u s' xx => ?_) PassesOwn.looking).run [] s σ H D (I.toTry _) h
  · refine wpAny_mono run (fun f s1 hsp => ?_) (fun e s1 he => he)
    cases f with
    | next =>
      obtain ⟨σ', H', J', q⟩ := hsp
      exact wpAny_execs_nil ⟨σ', H', J'.ofTry ok, q⟩
    | brk =>
      obtain ⟨σ', H', J', q⟩ := hsp
      exact ⟨σ', H', J'.ofTry ok, q⟩
    | cont =>
      obtain ⟨σ', H', J', q⟩ := hsp
      exact ⟨σ', H', J'.ofTry ok, q⟩
    | ret u =>
      obtain ⟨v, σ', H', J', r, q⟩ := hsp
      exact ⟨v, σ', H', J'.ofTry ok, r, q⟩
  · obtain ⟨a, B, sI, pins', σ', H', cls, d, rfl, J', nb, up, sky, na, os, ag, w⟩ := xx
    have J : Inv X pins σ' H' sI := J'.ofTry ok
    have sky' : Sky B (X.env :: X.outer) a (Zc cls d) X.env.locals s'.heap := by rw [← hs]; exact sky
    show wpAny (model X.prog X.w) X.A (noteFrame (.ref a) X.env) _ _ _
    refine Sky.land Zc.steady hfr hf sky' fun h3 fl3 up3 => ?_
    exact mas_go ok hs hf hN tk J nb (up.trans up3) na os ag fl3 hh w
end

/-! ### isinstance of own classes -/
theorem kit_own {K : PySem.W.Frag} {C D : Addr} {b : Bool} (i : PySem.W.isClsIn K D = true) (ty : PySem.W.typeIn K (.ref D) = some (.type "type"))
    (s : PySem.W.subIn K (.ref C) (.ref D) = some b) (sd : PySem.W.subIn K (.ref D) (.ref D) = some true) : PySem.W.kitOne K (.ref C) (.ref D) = some b := by
  unfold PySem.W.kitOne
  by_cases e : ((Value.ref C == Value.ref D) = true)
  · rw [if_pos e]
    have e' : C = D := Value.ref.inj (beq_iff_eq.mp e)
    subst e'
    exact sd.symm.trans s
  · rw [if_neg e]
    have i' : (PySem.W.clsIn K D).isSome = true := i
    show (if ((PySem.W.clsIn K D).isSome && PySem.W.typeIn K (.ref D) == some (.type "type")) = true then PySem.W.subIn K (.ref C) (.ref D) else none) = some b
    rw [i', ty]
    exact s

/-! ### tuple(x): the new tuple's object is known to have no dict; t.index(x) of such -/
def TupO (o : Obj) : Prop := o.cls = .type "tuple" ∧ o.dict = none
def kTupZ (K : PySem.W.Frag) (x : V) (H : Hp) (Q : VK) : Prop :=
  (∃ p xs, x = .ref p ∧ SqL K H p xs ∧ ∀ q o, H q = none → TupO o → Q (.ref q) (upd H q (.frz o (.tup xs)))) ∨
    (∃ p xs, x = .ref p ∧ SqT K H p xs ∧ Q (.ref p) H)
section
variable {X : Cx}
theorem rl_tupZ (pins : List (Addr × Obj)) (s : Shared) (σ : L2.St) (H : Hp) (x : V) (v : Value) (Q : VK) (I : Inv X pins σ H s) (r : RelV x v)
    (h : kTupZ X.K x H Q) : wpAny (model X.prog X.w) X.A (call (.type "tuple") [v]) (EP X pins σ Q) X.xe s := by
  cases h with
  | inl h =>
    obtain ⟨p, xs, rfl, hs, q⟩ := h
    obtain rfl : v = .ref p := r
    obtain ⟨its, rv, pl, hz⟩ := I.list hs
    refine call_tuple_list pl.isList (fun h' hk => ?_) (by rw [List.size_toArray, ← rv.length]; exact hz)
    have I1 : Inv X pins σ H { s with heap := h' } := I.kept (t' := s.toks) hk
    have I2 : Inv X pins σ (upd H h'.objs.size (.frz { cls := .type "tuple", data := .seq its.toArray } (.tup xs)))
        { s with heap := h'.push { cls := .type "tuple", data := .seq its.toArray } } := by
      refine I1.laid (t' := s.toks) (fun b o e => Heap.get?_push_of_some _ e) (Nat.le_refl _) ?_
      have e1 : (h'.push { cls := .type "tuple", data := .seq its.toArray }).get? h'.objs.size = some { cls := .type "tuple", data := .seq its.toArray } :=
        Heap.get?_push_size _ rfl
      exact ⟨e1, hz, its, rv, IsTup.new _ _⟩
    exact ⟨.ref h'.objs.size, _, I2, rfl, q _ _ (I1.hok.fresh (Nat.le_refl _)) ⟨rfl, rfl⟩⟩
  | inr h =>
    obtain ⟨p, xs, rfl, hs, q⟩ := h
    obtain rfl : v = .ref p := r
    obtain ⟨its, rv, pl, hz⟩ := I.tuple hs
    exact call_tuple_tup pl ⟨.ref p, H, I, rfl, q⟩
theorem pe_tupleZ {a : Expr} {ta : TE} {p pos : Pos} (hg : Gl X "tuple") (hm : X.mg "tuple" = none) (ha : PE X a ta)
    (na : starEach [a] X.env = (false, eval a X.env) :: starEach [] X.env := by rfl) :
    PE X (.Call (.Name "tuple" p) [a] [] pos) (tThen ta (kTupZ X.K)) := by
  constructor
  intro pins s σ H Q I h
  exact Call_ (ld_blt I hg hm boot_tuple (PyProof.Rows.callWith_type1 (one_arg ha I h (fun v s2 x H2 I2 r q => rl_tupZ pins s2 σ H2 x v Q I2 r q) na) na))
/-- a tuple whose object has no dict -/
def TupZ (H : Hp) (a : Addr) (xs : List V) : Prop := ∃ o, H a = some (.frz o (.tup xs)) ∧ TupO o
theorem TupZ.sq {K : PySem.W.Frag} {H : Hp} {a : Addr} {xs : List V} (h : TupZ H a xs) : SqT K H a xs := by
  obtain ⟨o, h, _⟩ := h
  exact .inl (.inr ⟨o, h⟩)
def tBMZ (r : V → List V → Hp → VK → Prop) (to : TE) (t : TA) : TE := fun σ H Q => to σ H fun x H1 => (∃ a xs, x = .ref a ∧ TupZ H1 a xs) ∧ t σ H1 fun xs H2 => r x xs H2 Q
variable {o e : Expr} {es : List Expr} {to : TE} {t : TA} {name : Str} {apos cpos : Pos} {id : String} {r : V → List V → Hp → VK → Prop}
theorem pe_bmZ (slot : Slot "tuple" name id) (hty : typeOf (.builtin id) = pure (.type "method_descriptor")) (hm : MtR X id r) (ho : PE X o to) (ha : PA X (e :: es) t)
    (hbase : attributeBase o name X.env (eval o X.env) = eval o X.env := by rfl)
    (hfew : ((backTo cpos (starEach (e :: es) X.env)).all (fun x => !x.1) && (backToKw cpos (keywordEach [] X.env)).all (fun x => x.1.isSome)
      && decide ((e :: es).length + ([] : List Keyword).length + (if ([] : List Keyword).isEmpty then 0 else 1) < 30)) = true := by rfl)
    (hline : (apos.endLine == cpos.line) = true := by rfl) (hs : starEach (e :: es) X.env = (false, eval e X.env) :: starEach es X.env := by rfl)
    (hplain : (backTo cpos (starEach es X.env)).any (·.1) = false := by rfl) :
    PE X (.Call (.Attribute o name apos) (e :: es) [] cpos) (tBMZ r to t) := by
  constructor
  intro pins s σ H Q I h
  refine wpAny_Call_method_late hbase hfew hline rfl (thn (ho.run pins s σ H _ I h) fun v s1 hh => ?_)
  obtain ⟨x, H1, I1, r1, ⟨a, xs, ex, ob, hob, hc, hd⟩, q1⟩ := hh
  subst ex
  obtain rfl : v = .ref a := r1
  obtain ⟨hget, _⟩ := (show ObjOk X.prog X.w H1 s1.heap a (.frz ob (.tup xs)) from I1.hok a _ hob)
  refine ⟨"tuple", id, PySem.F.plainAttrs_tuple, slot, hty, ⟨ob, hget, hc⟩, fun b e => ?_, ?_⟩
  · cases e
    exact ⟨ob, hget, hd⟩
  · have hA := ha.run cpos pins s1 σ H1 _ I1 q1
    rw [hs] at hA ⊢
    refine Calls.callWith_builtin (by show (false || (backTo cpos (starEach es X.env)).any (·.1)) = false; rw [hplain] <;> rfl) (Calls.evalArgs_plain ?_)
    exact thn hA fun us s2 hh => by
      obtain ⟨vs, H2, I2, r2, q2⟩ := hh
      exact hm pins s2 σ H2 (.ref a) vs (.ref a) us Q I2 rfl r2 q2

/-! ### is True, is False, of any value -/
theorem rel_bl {x : V} {v : Value} (r : RelV x v) (b : Bool) : (v = Value.bool b) ↔ x = .bl b := by
  cases x with
  | bl c =>
    cases (show v = Value.bool c from r)
    exact ⟨fun e => by cases e; rfl, fun e => by cases e; rfl⟩
  | non => cases (show v = Value.none from r); exact ⟨(fun e => nomatch e), (fun e => nomatch e)⟩
  | int _ => obtain ⟨t, rfl⟩ := r; exact ⟨(fun e => nomatch e), (fun e => nomatch e)⟩
  | str _ => obtain ⟨t, rfl⟩ := r; exact ⟨(fun e => nomatch e), (fun e => nomatch e)⟩
  | byt _ => obtain ⟨t, rfl⟩ := r; exact ⟨(fun e => nomatch e), (fun e => nomatch e)⟩
  | flt _ => obtain ⟨t, rfl⟩ := r; exact ⟨(fun e => nomatch e), (fun e => nomatch e)⟩
  | ref _ => cases r; exact ⟨(fun e => nomatch e), (fun e => nomatch e)⟩
  | ty _ => cases r; exact ⟨(fun e => nomatch e), (fun e => nomatch e)⟩
def rIsB : R2 := fun x y H Q => ∃ b, y = .bl b ∧ Q (.bl (decide (x = .bl b))) H
theorem op_isB : OpR X (compareOp .Is) rIsB := by
  intro pins s σ H x y v u Q I rx ry h
  obtain ⟨b, rfl, q⟩ := h
  cases (show u = Value.bool b from ry)
  by_cases e : x = .bl b
  · have ev := (rel_bl rx b).mpr e
    subst ev
    exact wpAny_is_self rfl ⟨.bl true, H, I, rfl, by simpa [e] using q⟩
  · have ev : ¬ v = Value.bool b := fun z => e ((rel_bl rx b).mp z)
    refine wpAny_is_other ?_ ev ⟨.bl false, H, I, rfl, by simpa [e] using q⟩
    cases x with
    | bl c => cases (show v = Value.bool c from rx); rfl
    | non => cases (show v = Value.none from rx); rfl
    | int _ => obtain ⟨t, rfl⟩ := rx; rfl
    | str _ => obtain ⟨t, rfl⟩ := rx; rfl
    | byt _ => obtain ⟨t, rfl⟩ := rx; rfl
    | flt _ => obtain ⟨t, rfl⟩ := rx; rfl
    | ref _ => cases rx; rfl
    | ty _ => cases rx; rfl
end
end L3
/-! What stays (I, a part of the heap H that is never written again), what a call may change (Lf), data told by Dp over I; the law's hand. -/
namespace L3
open PySem PySem.Spec PyProof.Rows L2

/-! ### what a call may change -/
structure Lf (M : Addr → Prop) (I H I' H' : Hp) : Prop where
  ext : Same I I'
  sub : Same I' H'
  new : ∀ b, I' b ≠ none → I b ≠ none ∨ H b = none
  keep : ∀ b o, ¬ M b → H b = some o → H' b = some o
  there : ∀ b, H b ≠ none → H' b ≠ none
def No : Addr → Prop := fun _ => False
section
variable {M M' : Addr → Prop} {I H I1 H1 I2 H2 : Hp} {a p : Addr} {o u : HO}
theorem Lf.refl (s : Same I H) : Lf M I H I H := ⟨Same.refl I, s, fun _ h => .inl h, fun _ _ _ h => h, fun _ h => h⟩
theorem Lf.trans (x : Lf M I H I1 H1) (y : Lf M I1 H1 I2 H2) : Lf M I H I2 H2 where
  ext := x.ext.trans y.ext
  sub := y.sub
  new := by
    intro b h
    cases y.new b h with
    | inl q => exact x.new b q
    | inr q =>
      cases e : H b with
      | none => exact .inr rfl
      | some z => exact absurd q (x.there b (by rw [e]; simp))
  keep := fun b o n h => y.keep b o n (x.keep b o n h)
  there := fun b h => y.there b (x.there b h)
theorem Lf.mono (x : Lf M I H I1 H1) (h : ∀ b, M b → M' b) : Lf M' I H I1 H1 :=
  ⟨x.ext, x.sub, x.new, fun b o n e => x.keep b o (fun z => n (h b z)) e, x.there⟩
theorem Lf.any (x : Lf No I H I1 H1) : Lf M I H I1 H1 := x.mono fun _ h => h.elim
theorem Lf.same (x : Lf No I H I1 H1) : Same H H1 := fun b o e => x.keep b o (fun h => h) e
theorem Lf.off (x : Lf M I H I1 H1) (h : I a = none) (t : H a ≠ none) : I1 a = none := by
  cases e : I1 a with
  | none => rfl
  | some o =>
    cases x.new a (by rw [e]; simp) with
    | inl q => exact absurd h q
    | inr q => exact absurd q t
theorem Lf.free (x : Lf M I H I1 H1) (h : H1 a = none) : H a = none := by
  cases e : H a with
  | none => rfl
  | some o => exact absurd h (x.there a (by rw [e]; simp))
theorem Same.sub (s : Same I H) (h : H a = none) : I a = none := by
  cases e : I a with
  | none => rfl
  | some o => rw [s a o e] at h; cases h
/-- a new object that may still change -/
theorem Lf.alloc (s : Same I H) (h : H p = none) : Lf M I H I (upd H p o) :=
  ⟨Same.refl I, fun b z e => by rw [upd_ne (ne_of_none (s b z e) h)]; exact s b z e, fun _ q => .inl q,
    fun b z _ e => by rw [upd_ne (ne_of_none e h)]; exact e, fun b e => by unfold upd; split <;> simp_all⟩
/-- a new object that stays -/
theorem Lf.put (s : Same I H) (h : H p = none) : Lf M I H (upd I p o) (upd H p o) where
  ext := fun b z e => by rw [upd_ne (ne_of_none (s b z e) h)]; exact e
  sub := fun b z e => by
    unfold upd at e ⊢
    split
    · rename_i hb; rw [if_pos hb] at e; exact e
    · rename_i hb; rw [if_neg hb] at e; exact s b z e
  new := fun b q => by
    by_cases hb : b = p
    · subst hb; exact .inr h
    · rw [upd_ne hb] at q; exact .inl q
  keep := fun b z _ e => by rw [upd_ne (ne_of_none e h)]; exact e
  there := fun b e => by unfold upd; split <;> simp_all
/-- the new object at p stays from now on -/
theorem Lf.freeze (x : Lf M I H I1 H1) (s : Same I H) (h : H p = none) (e : H1 p = some o) : Lf M I H (upd I1 p o) H1 where
  ext := fun b z q => by rw [upd_ne (ne_of_none (s b z q) h)]; exact x.ext b z q
  sub := fun b z q => by
    by_cases hb : b = p
    · subst hb; rw [upd_same] at q; rw [← q]; exact e
    · rw [upd_ne hb] at q; exact x.sub b z q
  new := fun b q => by
    by_cases hb : b = p
    · subst hb; exact .inr h
    · rw [upd_ne hb] at q; exact x.new b q
  keep := x.keep
  there := x.there
/-- an object that is new since H is written -/
theorem Lf.set (x : Lf M I H I1 H1) (h : H p = none) (e : H1 p = some u) (n : I1 p = none) : Lf M I H I1 (upd H1 p o) where
  ext := x.ext
  sub := fun b z q => by
    have hb : b ≠ p := fun z => by rw [z, n] at q; cases q
    rw [upd_ne hb]; exact x.sub b z q
  new := x.new
  keep := fun b z nm q => by rw [upd_ne (ne_of_none q h)]; exact x.keep b z nm q
  there := fun b q => by
    by_cases hb : b = p
    · subst hb; rw [upd_same]; simp
    · rw [upd_ne hb]; exact x.there b q
/-- an object of M is written -/
theorem Lf.setM (s : Same I H) (m : M p) (e : H p = some u) (n : I p = none) : Lf M I H I (upd H p o) where
  ext := Same.refl I
  sub := fun b z q => by
    have hb : b ≠ p := fun z => by rw [z, n] at q; cases q
    rw [upd_ne hb]; exact s b z q
  new := fun _ q => .inl q
  keep := fun b z nm q => by
    have hb : b ≠ p := fun z => nm (z ▸ m)
    rw [upd_ne hb]; exact q
  there := fun b q => by
    by_cases hb : b = p
    · subst hb; rw [upd_same]; simp
    · rw [upd_ne hb]; exact q
theorem Same.updI (s : Same I H) (n : I p = none) : Same I (upd H p o) := fun b z q => by
  have hb : b ≠ p := fun z => by rw [z, n] at q; cases q
  rw [upd_ne hb]; exact s b z q
theorem none_ne {b : Addr} (h : H b = some o) : H b ≠ none := by rw [h]; simp
end

/-! ### data -/
section
variable {K : PySem.W.Frag} {I J : Hp}
theorem Same.seqT {a : Addr} {xs : List V} (e : Same I J) (h : SqT K I a xs) : SqT K J a xs := by
  rcases h with (h | ⟨o, h⟩) | h
  · exact .inl (.inl (e _ _ h))
  · exact .inl (.inr ⟨o, e _ _ h⟩)
  · exact .inr h
mutual
theorem dmono (e : Same I J) : ∀ (d : PyData) (v : V), Dp K I v d → Dp K J v d
  | .none, _, .non => .non
  | .bool _, _, .bl b => .bl b
  | .int _, _, .int i => .int i
  | .str _, _, .str x => .str x
  | .list ds, _, .lst h q => .lst (e.seq h) (dmonoA e ds _ q)
  | .tuple ds, _, .tup h q => .tup (Same.seqT e h) (dmonoA e ds _ q)
theorem dmonoA (e : Same I J) : ∀ (ds : List PyData) (vs : List V), DpAll K I vs ds → DpAll K J vs ds
  | [], _, .nil => .nil
  | d :: ds, _, .cons h q => .cons (dmono e d _ h) (dmonoA e ds _ q)
end
theorem Dp.up {v : V} {d : PyData} (h : Dp K I v d) (e : Same I J) : Dp K J v d := dmono e d v h
theorem DpAll.up {vs : List V} {ds : List PyData} (h : DpAll K I vs ds) (e : Same I J) : DpAll K J vs ds := dmonoA e ds vs h
theorem DpAll.append {vs ws : List V} {ds es : List PyData} : DpAll K I vs ds → DpAll K I ws es → DpAll K I (vs ++ ws) (ds ++ es)
  | .nil, q => q
  | .cons h t, q => .cons h (DpAll.append t q)
theorem DpAll.length : ∀ {vs : List V} {ds : List PyData}, DpAll K I vs ds → vs.length = ds.length
  | _, _, .nil => rfl
  | _, _, .cons _ t => by rw [List.length_cons, List.length_cons, DpAll.length t]
theorem DpAll.get : ∀ {vs : List V} {ds : List PyData} {i : Nat} {d : PyData}, DpAll K I vs ds → ds[i]? = some d → ∃ v, vs[i]? = some v ∧ Dp K I v d
  | _, _, _, _, .nil, e => by simp at e
  | _, _, 0, _, .cons h _, e => by simp at e; subst e; exact ⟨_, rfl, h⟩
  | _, _, i + 1, d, .cons _ t, e => by
    obtain ⟨v, h1, h2⟩ := DpAll.get (i := i) (d := d) t (by simpa using e)
    exact ⟨v, by simpa using h1, h2⟩
theorem DpAll.getV : ∀ {vs : List V} {ds : List PyData} {i : Nat} {v : V}, DpAll K I vs ds → vs[i]? = some v → ∃ d, ds[i]? = some d ∧ Dp K I v d
  | _, _, _, _, .nil, e => by simp at e
  | _, _, 0, _, .cons h _, e => by simp at e; subst e; exact ⟨_, rfl, h⟩
  | _, _, i + 1, v, .cons _ t, e => by
    obtain ⟨d, h1, h2⟩ := DpAll.getV (i := i) (v := v) t (by simpa using e)
    exact ⟨d, by simpa using h1, h2⟩
theorem DpAll.ints : ∀ (ns : List Int), DpAll K I (ns.map V.int) (ns.map PyData.int)
  | [] => .nil
  | n :: ns => .cons (.int n) (DpAll.ints ns)
theorem DpAll.isInts : ∀ {vs : List V} {ns : List Int}, DpAll K I vs (ns.map PyData.int) → vs = ns.map V.int
  | _, [], .nil => rfl
  | _, n :: ns, .cons h t => by
    cases h
    rw [DpAll.isInts t]
    rfl
theorem DpAll.take : ∀ {vs : List V} {ds : List PyData} (n : Nat), DpAll K I vs ds → DpAll K I (vs.take n) (ds.take n)
  | _, _, 0, _ => .nil
  | _, _, _ + 1, .nil => .nil
  | _, _, n + 1, .cons h t => .cons h (DpAll.take n t)
theorem DpAll.drop : ∀ {vs : List V} {ds : List PyData} (n : Nat), DpAll K I vs ds → DpAll K I (vs.drop n) (ds.drop n)
  | _, _, 0, h => h
  | _, _, _ + 1, .nil => .nil
  | _, _, n + 1, .cons _ t => DpAll.drop n t
theorem Dp.ofInt {v : V} {n : Int} (h : Dp K I v (.int n)) : v = .int n := by cases h; rfl
theorem Dp.tupAt {a : Addr} {ds : List PyData} (h : Dp K I (.ref a) (.tuple ds)) : ∃ xs, SqT K I a xs ∧ DpAll K I xs ds := by
  cases h with
  | tup h q => exact ⟨_, h, q⟩
theorem Dp.lstAt {a : Addr} {ds : List PyData} (h : Dp K I (.ref a) (.list ds)) : ∃ xs, SqL K I a xs ∧ DpAll K I xs ds := by
  cases h with
  | lst h q => exact ⟨_, h, q⟩
theorem Dp.tupRef {v : V} {ds : List PyData} (h : Dp K I v (.tuple ds)) : ∃ a xs, v = .ref a ∧ SqT K I a xs ∧ DpAll K I xs ds := by
  cases h with
  | tup h q => exact ⟨_, _, rfl, h, q⟩
theorem Dp.lstRef {v : V} {ds : List PyData} (h : Dp K I v (.list ds)) : ∃ a xs, v = .ref a ∧ SqL K I a xs ∧ DpAll K I xs ds := by
  cases h with
  | lst h q => exact ⟨_, _, rfl, h, q⟩
end

/-! ### readings, step by step -/
section
variable {σ : L2.St} {H : Hp} {Q : VK} {i : Nat} {v x y : V} {ta tb te : TE} {K : PySem.W.Frag}
theorem w_var (e : σ[i]? = some (some v)) (q : Q v H) : tVar i σ H Q := ⟨v, e, q⟩
theorem w_c (q : Q v H) : tC v σ H Q := q
theorem w_op {r : R2} (q : ta σ H fun x H1 => tb σ H1 fun y H2 => r x y H2 Q) : tOp r ta tb σ H Q := q
theorem w_un {r : V → Hp → VK → Prop} (q : ta σ H fun x H1 => r x H1 Q) : tUn r ta σ H Q := q
theorem w_rU {g : Int → V} {n : Int} (q : Q (g n) H) : rU g (.int n) H Q := ⟨n, rfl, q⟩
theorem w_cons {tr : TA} {Q : List V → Hp → Prop} (q : ta σ H fun x H1 => tr σ H1 fun xs H2 => Q (x :: xs) H2) : tCons ta tr σ H Q := q
theorem w_nil {Q : List V → Hp → Prop} (q : Q [] H) : tNil σ H Q := q
theorem w_test {Q : Bool → Hp → Prop} (q : te σ H fun x H' => ∃ k, x = .bl k ∧ Q k H') : tTest te σ H Q := q
theorem w_tB {Q : Bool → Hp → Prop} (q : te σ H fun x H' => ∃ k, x = .bl k ∧ Q k H') : tB te σ H Q := q
theorem w_bl {k : Bool} {Q : Bool → Prop} (q : Q k) : ∃ k', V.bl k = .bl k' ∧ Q k' := ⟨k, rfl, q⟩
theorem w_rI0 {g : Int → Int → V} {m n : Int} (q : Q (g m n) H) : rI0 g (.int m) (.int n) H Q := ⟨m, n, rfl, rfl, q⟩
theorem w_rI {C : Int → Int → Prop} {g : Int → Int → V} {m n : Int} (c : C m n) (q : Q (g m n) H) : rI C g (.int m) (.int n) H Q := ⟨m, n, rfl, rfl, c, q⟩
theorem w_call {sp : Sp} {dvs : List V} {E : XK} {t : TA} (q : t σ H fun vs H1 => sp (vs ++ dvs) H1 Q E) : tCall sp dvs E t σ H Q := q
theorem w_CB {r : List V → Hp → VK → Prop} {t : TA} (q : t σ H fun vs H1 => r vs H1 Q) : tCB r t σ H Q := q
theorem w_tup {t : TA} (q : t σ H fun xs H1 => xs.length ≤ sizeLine ∧ ∀ p, H1 p = none → Q (.ref p) (upd H1 p (.tup xs))) : tTup t σ H Q := q
theorem w_lst {t : TA} (q : t σ H fun xs H1 => xs.length ≤ sizeLine ∧ ∀ p, H1 p = none → Q (.ref p) (upd H1 p (.lst xs))) : tLst t σ H Q := q
theorem w_ifE {t : TT} (q : t σ H fun c H1 => if c = true then ta σ H1 Q else tb σ H1 Q) : tIf t ta tb σ H Q := q
theorem w_then {k : V → Hp → VK → Prop} (q : ta σ H fun x H1 => k x H1 Q) : tThen ta k σ H Q := q
theorem w_BM {T : String} {r : V → List V → Hp → VK → Prop} {t : TA} (q : ta σ H fun x H1 => tyV K T x H1 ∧ t σ H1 fun xs H2 => r x xs H2 Q) : tBM K T r ta t σ H Q := q
theorem w_not {t : TT} {Q : Bool → Hp → Prop} (q : t σ H fun c H1 => Q (!c) H1) : tNot t σ H Q := q
theorem w_and {t u : TT} {Q : Bool → Hp → Prop} (q : t σ H fun c H1 => if c = true then u σ H1 Q else Q false H1) : tAnd t u σ H Q := q
theorem w_or {t u : TT} {Q : Bool → Hp → Prop} (q : t σ H fun c H1 => if c = true then Q true H1 else u σ H1 Q) : tOr t u σ H Q := q
theorem w_andV (q : ta σ H fun x H1 => ∃ c, x = .bl c ∧ if c = true then tb σ H1 Q else Q (.bl false) H1) : tAndV ta tb σ H Q := q
theorem w_orV (q : ta σ H fun x H1 => ∃ c, x = .bl c ∧ if c = true then Q (.bl true) H1 else tb σ H1 Q) : tOrV ta tb σ H Q := q
theorem w_notV (q : ta σ H fun x H1 => ∃ c, x = .bl c ∧ Q (.bl (!c)) H1) : tNotV ta σ H Q := q
theorem w_isN (q : Q (.bl (decide (x = .non))) H) : (fun x y H Q => y = V.non ∧ Q (.bl (decide (x = .non))) H : R2) x .non H Q := ⟨rfl, q⟩
theorem w_eqI {m n : Int} (q : Q (.bl (decide (m = n))) H) : rEq (.int m) (.int n) H Q := ⟨rfl, by
  have e : decide (V.int m = V.int n) = decide (m = n) := by simp
  rw [e]; exact q⟩
theorem w_neI {m n : Int} (q : Q (.bl (!decide (m = n))) H) : rNe (.int m) (.int n) H Q := ⟨rfl, by
  have e : decide (V.int m = V.int n) = decide (m = n) := by simp
  rw [e]; exact q⟩
variable {D : Ends}
theorem w_seq {t u : TS} (q : t { D with nx := u D } σ H) : tSeq t u D σ H := q
theorem w_next (q : D.nx σ H) : tNext D σ H := q
theorem w_ret (q : te σ H D.rt) : tRet te D σ H := q
theorem w_retN (q : D.rt .non H) : tRetN D σ H := q
theorem w_drop (q : te σ H fun _ H1 => D.nx σ H1) : tDrop te D σ H := q
theorem w_asg {g : TG} (q : te σ H fun x H1 => g x σ H1 D.nx) : tAsg te g D σ H := q
theorem w_name {Q : L2.St → Hp → Prop} (q : Q (σ.set i (some v)) H) : gName i v σ H Q := q
theorem w_ifS {c : TT} {t u : TS} (q : c σ H fun b H1 => if b = true then t D σ H1 else u D σ H1) : tIfS c t u D σ H := q
theorem w_if {p : Prop} [Decidable p] {A B : Prop} (h1 : p → A) (h2 : ¬ p → B) : if decide p = true then A else B := by
  by_cases h : p
  · rw [if_pos (decide_eq_true h)]; exact h1 h
  · rw [if_neg (by simpa using h)]; exact h2 h
theorem w_ifn {p : Prop} [Decidable p] {A B : Prop} (h1 : ¬ p → A) (h2 : p → B) : if (!decide p) = true then A else B := by
  by_cases h : p
  · rw [if_neg (by simpa using h)]; exact h2 h
  · rw [if_pos (by simpa using h)]; exact h1 h
theorem w_ifb {b : Bool} {A B : Prop} (h1 : b = true → A) (h2 : b = false → B) : if b = true then A else B := by
  cases b with
  | true => rw [if_pos rfl]; exact h1 rfl
  | false => rw [if_neg Bool.false_ne_true]; exact h2 rfl
/-- an item -/
theorem w_ixL {p : Addr} {xs : List V} {n : Int} (h : SqL K H p xs) (e : atI xs n = some v) (q : Q v H) : rIx K (.ref p) (.int n) H Q := .inl ⟨p, xs, n, v, rfl, rfl, h, e, q⟩
theorem w_ixT {p : Addr} {xs : List V} {n : Int} (h : SqT K H p xs) (e : atI xs n = some v) (q : Q v H) : rIx K (.ref p) (.int n) H Q := .inr (.inl ⟨p, xs, n, v, rfl, rfl, h, e, q⟩)
theorem w_len {r : Nat → Prop} {p : Addr} {xs : List V} (h : SqL K H p xs ∨ SqT K H p xs) (q : Q (.int xs.length) H) :
    ∃ p' ys, [V.ref p] = [V.ref p'] ∧ (SqL K H p' ys ∨ SqT K H p' ys) ∧ Q (.int ys.length) H := ⟨p, xs, rfl, h, q⟩
end

/-! ### named readings of built-in calls -/
section
variable {X : Cx} {H : Hp} {Q : VK} {K : PySem.W.Frag}
def rInt1 : List V → Hp → VK → Prop := fun xs H Q => ∃ i, xs = [.int i] ∧ Q (.int i) H
theorem call_intI : CallR X (.type "int") rInt1 := fun pins s σ H xs us Q I r h => call_int1 pins s σ H xs us Q I r (.inl h)
theorem w_int1 {n : Int} (q : Q (.int n) H) : rInt1 [.int n] H Q := ⟨n, rfl, q⟩
def rAbsI : List V → Hp → VK → Prop := fun xs H Q => ∃ i, xs = [.int i] ∧ Q (.int (if i < 0 then -i else i)) H
theorem call_absI : CallR X (.builtin "abs") rAbsI := call_abs
theorem w_abs {n : Int} (q : Q (.int (if n < 0 then -n else n)) H) : rAbsI [.int n] H Q := ⟨n, rfl, q⟩
def rLenS (K : PySem.W.Frag) : List V → Hp → VK → Prop := fun xs H Q => ∃ p ys, xs = [.ref p] ∧ (SqL K H p ys ∨ SqT K H p ys) ∧ Q (.int ys.length) H
theorem call_lenS : CallR X (.builtin "len") (rLenS X.K) := call_len_seq
theorem w_lenL {p : Addr} {xs : List V} (h : SqL K H p xs) (q : Q (.int xs.length) H) : rLenS K [.ref p] H Q := ⟨p, xs, rfl, .inl h, q⟩
theorem w_lenT {p : Addr} {xs : List V} (h : SqT K H p xs) (q : Q (.int xs.length) H) : rLenS K [.ref p] H Q := ⟨p, xs, rfl, .inr h, q⟩
def rListOf (K : PySem.W.Frag) : List V → Hp → VK → Prop := fun xs H Q => ∃ p ys, xs = [.ref p] ∧ (SqL K H p ys ∨ SqT K H p ys) ∧ ∀ l, H l = none → Q (.ref l) (upd H l (.lst ys))
theorem call_listOf : CallR X (.type "list") (rListOf X.K) := call_list_of
def rIsN' : R2 := fun x y H Q => y = .non ∧ Q (.bl (decide (x = .non))) H
def rNotN' : R2 := fun x y H Q => y = .non ∧ Q (.bl (!decide (x = .non))) H
theorem op_isN' : OpR X (compareOp .Is) rIsN' := op_isN
theorem op_notN' : OpR X (compareOp .IsNot) rNotN' := op_notN
theorem w_isN' {x : V} (q : Q (.bl (decide (x = .non))) H) : rIsN' x .non H Q := ⟨rfl, q⟩
theorem w_notN' {x : V} (q : Q (.bl (!decide (x = .non))) H) : rNotN' x .non H Q := ⟨rfl, q⟩
/-- isinstance: the type of a value, the answer -/
theorem w_isi {x : V} {n : String} {t : Value} {b : Bool} (ty : TyX K H x t) (e : PySem.W.kitOne K t (.type n) = some b) (q : Q (.bl b) H) : rIsi K [x, .ty n] H Q :=
  ⟨x, .ty n, t, .type n, b, rfl, .ty n, ty, e, q⟩
end

/-! ### types of data -/
def tyD : PyData → String
  | .none => "NoneType"
  | .bool _ => "bool"
  | .int _ => "int"
  | .str _ => "str"
  | .list _ => "list"
  | .tuple _ => "tuple"
  | .dict _ => "dict"
section
variable {K : PySem.W.Frag} {I H : Hp} {Q : VK} {v : V} {d : PyData}
theorem SqL.tyx {a : Addr} {xs : List V} (h : SqL K H a xs) : TyX K H (.ref a) (.type "list") := by
  rcases h with (h | ⟨o, h⟩) | ⟨o, its, n, h, c, _⟩
  · exact .base (.lst h)
  · exact .base (.frz h)
  · exact .kList h c
theorem SqT.tyx {a : Addr} {xs : List V} (h : SqT K H a xs) : TyX K H (.ref a) (.type "tuple") := by
  rcases h with (h | ⟨o, h⟩) | ⟨o, its, n, h, c, _⟩
  · exact .base (.tup h)
  · exact .fTuple h
  · exact .kTuple h c
theorem Dp.tyx (h : Dp K H v d) : TyX K H v (.type (tyD d)) := by
  cases h with
  | non => exact .base .non
  | bl b => exact .base (.bl b)
  | int i => exact .base (.int i)
  | str x => exact .base (.str x)
  | lst h _ => exact SqL.tyx h
  | tup h _ => exact SqT.tyx h
def dInt : PyData → Bool
  | .int _ => true
  | .bool _ => true
  | _ => false
def dBool : PyData → Bool
  | .bool _ => true
  | _ => false
def dStr : PyData → Bool
  | .str _ => true
  | _ => false
def dTup : PyData → Bool
  | .tuple _ => true
  | _ => false
def dLst : PyData → Bool
  | .list _ => true
  | _ => false
theorem kit_int : ∀ d : PyData, PySem.W.kitOne K (.type (tyD d)) (.type "int") = some (dInt d)
  | .none => kit_ty (a := "NoneType") (b := "int") (r := false) (by decide +kernel)
  | .bool _ => kit_ty (a := "bool") (b := "int") (r := true) (by decide +kernel)
  | .int _ => kit_ty (a := "int") (b := "int") (r := true) (by decide +kernel)
  | .str _ => kit_ty (a := "str") (b := "int") (r := false) (by decide +kernel)
  | .list _ => kit_ty (a := "list") (b := "int") (r := false) (by decide +kernel)
  | .tuple _ => kit_ty (a := "tuple") (b := "int") (r := false) (by decide +kernel)
  | .dict _ => kit_ty (a := "dict") (b := "int") (r := false) (by decide +kernel)
theorem kit_bool : ∀ d : PyData, PySem.W.kitOne K (.type (tyD d)) (.type "bool") = some (dBool d)
  | .none => kit_ty (a := "NoneType") (b := "bool") (r := false) (by decide +kernel)
  | .bool _ => kit_ty (a := "bool") (b := "bool") (r := true) (by decide +kernel)
  | .int _ => kit_ty (a := "int") (b := "bool") (r := false) (by decide +kernel)
  | .str _ => kit_ty (a := "str") (b := "bool") (r := false) (by decide +kernel)
  | .list _ => kit_ty (a := "list") (b := "bool") (r := false) (by decide +kernel)
  | .tuple _ => kit_ty (a := "tuple") (b := "bool") (r := false) (by decide +kernel)
  | .dict _ => kit_ty (a := "dict") (b := "bool") (r := false) (by decide +kernel)
theorem kit_str : ∀ d : PyData, PySem.W.kitOne K (.type (tyD d)) (.type "str") = some (dStr d)
  | .none => kit_ty (a := "NoneType") (b := "str") (r := false) (by decide +kernel)
  | .bool _ => kit_ty (a := "bool") (b := "str") (r := false) (by decide +kernel)
  | .int _ => kit_ty (a := "int") (b := "str") (r := false) (by decide +kernel)
  | .str _ => kit_ty (a := "str") (b := "str") (r := true) (by decide +kernel)
  | .list _ => kit_ty (a := "list") (b := "str") (r := false) (by decide +kernel)
  | .tuple _ => kit_ty (a := "tuple") (b := "str") (r := false) (by decide +kernel)
  | .dict _ => kit_ty (a := "dict") (b := "str") (r := false) (by decide +kernel)
theorem kit_tup : ∀ d : PyData, PySem.W.kitOne K (.type (tyD d)) (.type "tuple") = some (dTup d)
  | .none => kit_ty (a := "NoneType") (b := "tuple") (r := false) (by decide +kernel)
  | .bool _ => kit_ty (a := "bool") (b := "tuple") (r := false) (by decide +kernel)
  | .int _ => kit_ty (a := "int") (b := "tuple") (r := false) (by decide +kernel)
  | .str _ => kit_ty (a := "str") (b := "tuple") (r := false) (by decide +kernel)
  | .list _ => kit_ty (a := "list") (b := "tuple") (r := false) (by decide +kernel)
  | .tuple _ => kit_ty (a := "tuple") (b := "tuple") (r := true) (by decide +kernel)
  | .dict _ => kit_ty (a := "dict") (b := "tuple") (r := false) (by decide +kernel)
theorem kit_lst : ∀ d : PyData, PySem.W.kitOne K (.type (tyD d)) (.type "list") = some (dLst d)
  | .none => kit_ty (a := "NoneType") (b := "list") (r := false) (by decide +kernel)
  | .bool _ => kit_ty (a := "bool") (b := "list") (r := false) (by decide +kernel)
  | .int _ => kit_ty (a := "int") (b := "list") (r := false) (by decide +kernel)
  | .str _ => kit_ty (a := "str") (b := "list") (r := false) (by decide +kernel)
  | .list _ => kit_ty (a := "list") (b := "list") (r := true) (by decide +kernel)
  | .tuple _ => kit_ty (a := "tuple") (b := "list") (r := false) (by decide +kernel)
  | .dict _ => kit_ty (a := "dict") (b := "list") (r := false) (by decide +kernel)
theorem w_isInt (h : Dp K H v d) (q : Q (.bl (dInt d)) H) : rIsi K [v, .ty "int"] H Q := w_isi (Dp.tyx h) (kit_int d) q
theorem w_isBool (h : Dp K H v d) (q : Q (.bl (dBool d)) H) : rIsi K [v, .ty "bool"] H Q := w_isi (Dp.tyx h) (kit_bool d) q
theorem w_isStr (h : Dp K H v d) (q : Q (.bl (dStr d)) H) : rIsi K [v, .ty "str"] H Q := w_isi (Dp.tyx h) (kit_str d) q
theorem w_isTup (h : Dp K H v d) (q : Q (.bl (dTup d)) H) : rIsi K [v, .ty "tuple"] H Q := w_isi (Dp.tyx h) (kit_tup d) q
theorem w_isLst (h : Dp K H v d) (q : Q (.bl (dLst d)) H) : rIsi K [v, .ty "list"] H Q := w_isi (Dp.tyx h) (kit_lst d) q
/-- isinstance(x, (list, tuple)) -/
theorem w_isSeq {p : Addr} (e : H p = some (.tup [.ty "list", .ty "tuple"])) (h : Dp K H v d) (q : Q (.bl (dLst d || dTup d)) H) : rIsiT K [v, .ref p] H Q := by
  refine ⟨v, p, [.ty "list", .ty "tuple"], .type (tyD d), [.type "list", .type "tuple"], dLst d || dTup d, rfl, e, .cons (.ty _) (.cons (.ty _) .nil), Dp.tyx h, ?_, q⟩
  have h1 := kit_lst (K := K) d
  have h2 := kit_tup (K := K) d
  unfold PySem.W.kitAny
  rw [h1]
  cases d <;> first | rfl | (unfold PySem.W.kitAny; rw [h2]; rfl)
end

/-! ### stores and items -/
section
variable {σ : L2.St} {H : Hp} {v : V} {K : PySem.W.Frag} {to ti : TE}
theorem w_gsub {t : TSet} {Q : L2.St → Hp → Prop} (q : to σ H fun o H1 => ti σ H1 fun i H2 => t o i v H2 fun H3 => Q σ H3) : gSub to ti t v σ H Q := q
theorem w_setL {p : Addr} {xs : List V} {n : Int} {j : Nat} {Q : Hp → Prop} (h : H p = some (.lst xs)) (e : ixN xs.length n = some j) (q : Q (upd H p (.lst (xs.set j v)))) : rSetL (.ref p) (.int n) v H Q :=
  ⟨p, xs, n, j, rfl, rfl, h, e, q⟩
theorem upd2 {p : Addr} {o u : HO} : upd (upd H p o) p u = upd H p u := by
  funext b
  by_cases h : b = p
  · rw [h, upd_same, upd_same]
  · rw [upd_ne h, upd_ne h, upd_ne h]
theorem ofL {p : Addr} {xs : List V} (h : H p = some (.lst xs)) : SqL K H p xs := .inl (.inl h)
theorem ofT {p : Addr} {xs : List V} (h : H p = some (.tup xs)) : SqT K H p xs := .inl (.inl h)
theorem w_append {p : Addr} {xs : List V} {Q : VK} (h : H p = some (.lst xs)) (l : xs.length < sizeLine) (q : Q .non (upd H p (.lst (xs ++ [v])))) :
    tyV K "list" (.ref p) H ∧ rAppend (.ref p) [v] H Q := ⟨.inl ⟨rfl, xs, .inl (.inl h)⟩, p, xs, v, rfl, rfl, h, l, q⟩
end

/-! ### the law's hand: a list of the cells, how many were taken, what is left of a great one, a running number -/
def Hand (K : PySem.W.Frag) (I H : Hp) (hd : Addr) : Prop := Same I H ∧ I hd = none ∧ ∃ (c : Addr) (cells : List Int) (p cur tot : Int),
  H hd = some (.lst [.ref c, .int p, .int cur, .int tot]) ∧ SqL K I c (cells.map V.int) ∧ (∀ x ∈ cells, 0 ≤ x) ∧ 0 ≤ p ∧ 0 ≤ cur
section
variable {K : PySem.W.Frag} {I H I' H' : Hp} {hd : Addr} {M : Addr → Prop}
theorem Hand.ne (h : Hand K I H hd) : H hd ≠ none := by
  obtain ⟨_, _, c, cells, p, cur, tot, e, _⟩ := h
  rw [e]; simp
theorem Hand.sub (h : Hand K I H hd) : Same I H := h.1
theorem Hand.to (h : Hand K I H hd) (x : Lf M I H I' H') (m : ¬ M hd) : Hand K I' H' hd := by
  have n := Hand.ne h
  obtain ⟨_, i, c, cells, p, cur, tot, e, r⟩ := h
  exact ⟨x.sub, x.off i n, c, cells, p, cur, tot, x.keep _ _ m e, x.ext.seq r.1, r.2⟩
def spDraw (K : PySem.W.Frag) : Sp := fun vs H Q _ => ∃ (I : Hp) (hd : Addr) (m : Int), vs = [.ref hd, .int m] ∧ Hand K I H hd ∧ 0 < m ∧ m < 1073741824 ∧
  ∀ H' r, Lf (· = hd) I H I H' → Hand K I H' hd → 0 ≤ r → r < m → Q (.int r) H'
end

section
variable {K : PySem.W.Frag} {H : Hp} {Q : VK} {p : Addr}
theorem atI_of {α : Type} {xs : List α} {n : Int} {v : α} (h0 : 0 ≤ n) (h : xs[n.toNat]? = some v) : atI xs n = some v := by
  obtain ⟨j, rfl⟩ : ∃ j : Nat, n = (j : Int) := ⟨n.toNat, by omega⟩
  exact atI_nat (by simpa using h)
theorem w_ixInts {ns : List Int} {n : Int} (h : SqL K H p (ns.map V.int)) (h0 : 0 ≤ n) (h1 : n < ns.length) (q : ∀ z, z ∈ ns → Q (.int z) H) : rIx K (.ref p) (.int n) H Q := by
  have hn : n.toNat < ns.length := by omega
  refine w_ixL h (atI_of h0 (v := .int ns[n.toNat]) (by simp [hn])) (q _ (List.getElem_mem hn))
theorem w_ixIntsT {ns : List Int} {n : Int} (h : SqT K H p (ns.map V.int)) (h0 : 0 ≤ n) (h1 : n < ns.length) (q : ∀ z, z ∈ ns → Q (.int z) H) : rIx K (.ref p) (.int n) H Q := by
  have hn : n.toNat < ns.length := by omega
  refine w_ixT h (atI_of h0 (v := .int ns[n.toNat]) (by simp [hn])) (q _ (List.getElem_mem hn))
end
section
variable {H : Hp} {Q : VK}
theorem w_isN_non (q : Q (.bl true) H) : rIsN' .non .non H Q := ⟨rfl, q⟩
theorem w_ntN_non (q : Q (.bl false) H) : rNotN' .non .non H Q := ⟨rfl, q⟩
theorem w_isN_int {n : Int} (q : Q (.bl false) H) : rIsN' (.int n) .non H Q := ⟨rfl, q⟩
theorem w_ntN_int {n : Int} (q : Q (.bl true) H) : rNotN' (.int n) .non H Q := ⟨rfl, q⟩
theorem w_isN_bl {n : Bool} (q : Q (.bl false) H) : rIsN' (.bl n) .non H Q := ⟨rfl, q⟩
theorem w_ntN_bl {n : Bool} (q : Q (.bl true) H) : rNotN' (.bl n) .non H Q := ⟨rfl, q⟩
theorem w_isN_str {n : Str} (q : Q (.bl false) H) : rIsN' (.str n) .non H Q := ⟨rfl, q⟩
theorem w_ntN_str {n : Str} (q : Q (.bl true) H) : rNotN' (.str n) .non H Q := ⟨rfl, q⟩
theorem w_isN_ref {n : Addr} (q : Q (.bl false) H) : rIsN' (.ref n) .non H Q := ⟨rfl, q⟩
theorem w_ntN_ref {n : Addr} (q : Q (.bl true) H) : rNotN' (.ref n) .non H Q := ⟨rfl, q⟩
end
section
variable {K : PySem.W.Frag} {H : Hp} {Q : VK}
theorem w_isInt_int {n : Int} (q : Q (.bl true) H) : rIsi K [(.int n), .ty "int"] H Q := w_isInt ((.int n : Dp K H _ _)) q
theorem w_isInt_bl {n : Bool} (q : Q (.bl true) H) : rIsi K [(.bl n), .ty "int"] H Q := w_isInt ((.bl n : Dp K H _ _)) q
theorem w_isInt_str {n : Str} (q : Q (.bl false) H) : rIsi K [(.str n), .ty "int"] H Q := w_isInt ((.str n : Dp K H _ _)) q
theorem w_isInt_non (q : Q (.bl false) H) : rIsi K [.non, .ty "int"] H Q := w_isInt ((.non : Dp K H _ _)) q
theorem w_isBool_int {n : Int} (q : Q (.bl false) H) : rIsi K [(.int n), .ty "bool"] H Q := w_isBool ((.int n : Dp K H _ _)) q
theorem w_isBool_bl {n : Bool} (q : Q (.bl true) H) : rIsi K [(.bl n), .ty "bool"] H Q := w_isBool ((.bl n : Dp K H _ _)) q
theorem w_isBool_str {n : Str} (q : Q (.bl false) H) : rIsi K [(.str n), .ty "bool"] H Q := w_isBool ((.str n : Dp K H _ _)) q
theorem w_isBool_non (q : Q (.bl false) H) : rIsi K [.non, .ty "bool"] H Q := w_isBool ((.non : Dp K H _ _)) q
theorem w_isStr_int {n : Int} (q : Q (.bl false) H) : rIsi K [(.int n), .ty "str"] H Q := w_isStr ((.int n : Dp K H _ _)) q
theorem w_isStr_bl {n : Bool} (q : Q (.bl false) H) : rIsi K [(.bl n), .ty "str"] H Q := w_isStr ((.bl n : Dp K H _ _)) q
theorem w_isStr_str {n : Str} (q : Q (.bl true) H) : rIsi K [(.str n), .ty "str"] H Q := w_isStr ((.str n : Dp K H _ _)) q
theorem w_isStr_non (q : Q (.bl false) H) : rIsi K [.non, .ty "str"] H Q := w_isStr ((.non : Dp K H _ _)) q
theorem w_isTup_int {n : Int} (q : Q (.bl false) H) : rIsi K [(.int n), .ty "tuple"] H Q := w_isTup ((.int n : Dp K H _ _)) q
theorem w_isTup_bl {n : Bool} (q : Q (.bl false) H) : rIsi K [(.bl n), .ty "tuple"] H Q := w_isTup ((.bl n : Dp K H _ _)) q
theorem w_isTup_str {n : Str} (q : Q (.bl false) H) : rIsi K [(.str n), .ty "tuple"] H Q := w_isTup ((.str n : Dp K H _ _)) q
theorem w_isTup_non (q : Q (.bl false) H) : rIsi K [.non, .ty "tuple"] H Q := w_isTup ((.non : Dp K H _ _)) q
end
theorem w_nf {A B : Prop} (h : A) : if (!false) = true then A else B := h
theorem w_nt {A B : Prop} (h : B) : if (!true) = true then A else B := h
end L3
/-! Readings over data: displays, sums, slices, items, tuple(x), list(x), errors raised and caught. -/
namespace L3
open PySem PySem.Spec PyProof.Rows L2
section
variable {K : PySem.W.Frag} {I H H' : Hp} {Q : VK} {M : Addr → Prop} {v x y : V} {ds es : List PyData} {xs : List V} {p : Addr} {o : HO}
theorem Lf.ofSame (S : Same I H) (s : Same H H') : Lf M I H I H' :=
  ⟨Same.refl I, S.trans s, fun _ q => .inl q, fun b z _ e => s b z e, fun b q => by
    cases e : H b with
    | none => exact absurd e q
    | some z => rw [s b z e]; simp⟩
theorem same_new (h : H p = none) : Same H (upd H p o) := fun b z e => by rw [upd_ne (ne_of_none e h)]; exact e
/-- a new tuple that stays -/
theorem w_newT {R : Addr → Prop} (S : Same I H) (h : DpAll K I xs ds) (l : xs.length ≤ sizeLine)
    (q : ∀ I' p, Lf No I H I' (upd H p (.tup xs)) → Dp K I' (.ref p) (.tuple ds) → R p) :
    xs.length ≤ sizeLine ∧ ∀ p, H p = none → R p :=
  ⟨l, fun p hp => q (upd I p (.tup xs)) p (Lf.put S hp) (.tup (ofT upd_same) (DpAll.up h (Lf.put (M := No) S hp).ext))⟩
/-- a new list that stays -/
theorem w_newL {R : Addr → Prop} (S : Same I H) (h : DpAll K I xs ds) (l : xs.length ≤ sizeLine)
    (q : ∀ I' p, Lf No I H I' (upd H p (.lst xs)) → Dp K I' (.ref p) (.list ds) → R p) :
    xs.length ≤ sizeLine ∧ ∀ p, H p = none → R p :=
  ⟨l, fun p hp => q (upd I p (.lst xs)) p (Lf.put S hp) (.lst (ofL upd_same) (DpAll.up h (Lf.put (M := No) S hp).ext))⟩
/-- tuple + tuple -/
theorem w_catT (S : Same I H) (h1 : Dp K I x (.tuple ds)) (h2 : Dp K I y (.tuple es)) (l : ds.length + es.length ≤ sizeLine)
    (q : ∀ I' H' v, Lf No I H I' H' → Dp K I' v (.tuple (ds ++ es)) → Q v H') : rCatA K x y H Q := by
  obtain ⟨a, xs, rfl, ha, da⟩ := Dp.tupRef h1
  obtain ⟨b, ys, rfl, hb, db⟩ := Dp.tupRef h2
  have la := DpAll.length da
  have lb := DpAll.length db
  refine ⟨a, b, xs, ys, rfl, rfl, Same.seqT S ha, Same.seqT S hb, by omega, fun e => ?_, fun _ e => ?_, fun _ _ p hp => ?_⟩
  · subst e
    have e2 : ds = [] := List.length_eq_zero_iff.mp la.symm
    subst e2
    exact q I H _ (Lf.refl S) h2
  · subst e
    have e2 : es = [] := List.length_eq_zero_iff.mp lb.symm
    subst e2
    rw [List.append_nil] at q
    exact q I H _ (Lf.refl S) h1
  · have f := Lf.put (M := No) (o := .tup (xs ++ ys)) S hp
    exact q _ _ _ f (.tup (ofT upd_same) (DpAll.up (DpAll.append da db) f.ext))
theorem cut_take (n : Int) (h0 : 0 ≤ n) : cutV xs none (some n) = xs.take n.toNat := by
  obtain ⟨k, rfl⟩ : ∃ k : Nat, n = (k : Int) := ⟨n.toNat, by omega⟩
  unfold cutV
  rw [HT.sIx_none, HT.sIx_nat, List.drop_zero, Nat.sub_zero, Int.toNat_natCast]
  by_cases h : k ≤ xs.length
  · rw [Nat.min_eq_left h]
  · rw [Nat.min_eq_right (by omega), List.take_of_length_le (Nat.le_refl _), List.take_of_length_le (by omega)]
theorem cut_drop (n : Int) (h0 : 0 ≤ n) : cutV xs (some n) none = xs.drop n.toNat := by
  obtain ⟨k, rfl⟩ : ∃ k : Nat, n = (k : Int) := ⟨n.toNat, by omega⟩
  unfold cutV
  rw [HT.sIx_none, HT.sIx_nat, Int.toNat_natCast]
  by_cases h : k ≤ xs.length
  · rw [Nat.min_eq_left h]
    exact List.take_of_length_le (by rw [List.length_drop]; omega)
  · rw [Nat.min_eq_right (by omega), List.drop_of_length_le (Nat.le_refl _), List.drop_of_length_le (by omega)]
    simp
/-- t[:n], t[n:] of a tuple -/
theorem w_slT (S : Same I H) (h1 : Dp K I x (.tuple ds)) (lo hi : Option Int) (es : List PyData)
    (hc : ∀ xs : List V, DpAll K I xs ds → DpAll K I (cutV xs lo hi) es) (hw : ∀ xs : List V, DpAll K I xs ds → DpAll K I xs ds →
      HT.sIx xs.length 0 lo = 0 ∧ HT.sIx xs.length xs.length hi = xs.length → ds = es)
    (q : ∀ I' H' v, Lf No I H I' H' → Dp K I' v (.tuple es) → Q v H') : rSlA K x lo hi H Q := by
  obtain ⟨a, xs, rfl, ha, da⟩ := Dp.tupRef h1
  refine ⟨a, xs, rfl, Same.seqT S ha, fun e => ?_, fun _ p hp => ?_⟩
  · have e2 := hw xs da da e
    subst e2
    exact q I H _ (Lf.refl S) h1
  · have f := Lf.put (M := No) (o := .tup (cutV xs lo hi)) S hp
    exact q _ _ _ f (.tup (ofT upd_same) (DpAll.up (hc xs da) f.ext))
theorem w_takeT {n : Int} (S : Same I H) (h1 : Dp K I x (.tuple ds)) (h0 : 0 ≤ n)
    (q : ∀ I' H' v, Lf No I H I' H' → Dp K I' v (.tuple (ds.take n.toNat)) → Q v H') : rSlA K x none (some n) H Q := by
  refine w_slT S h1 none (some n) (ds.take n.toNat) (fun xs h => ?_) (fun xs h _ e => ?_) q
  · rw [cut_take n h0]; exact DpAll.take _ h
  · have e2 := e.2
    obtain ⟨k, rfl⟩ : ∃ k : Nat, n = (k : Int) := ⟨n.toNat, by omega⟩
    rw [HT.sIx_nat] at e2
    have l := DpAll.length h
    rw [Int.toNat_natCast, List.take_of_length_le (by omega)]
theorem w_dropT {n : Int} (S : Same I H) (h1 : Dp K I x (.tuple ds)) (h0 : 0 ≤ n)
    (q : ∀ I' H' v, Lf No I H I' H' → Dp K I' v (.tuple (ds.drop n.toNat)) → Q v H') : rSlA K x (some n) none H Q := by
  refine w_slT S h1 (some n) none (ds.drop n.toNat) (fun xs h => ?_) (fun xs h _ e => ?_) q
  · rw [cut_drop n h0]; exact DpAll.drop _ h
  · have e2 := e.1
    obtain ⟨k, rfl⟩ : ∃ k : Nat, n = (k : Int) := ⟨n.toNat, by omega⟩
    rw [HT.sIx_nat] at e2
    have l := DpAll.length h
    rw [Int.toNat_natCast]
    by_cases hk : k = 0
    · subst hk; rfl
    · have : ds = [] := List.length_eq_zero_iff.mp (by omega)
      subst this
      simp
/-- xs[:n], xs[n:] of a list: a new list that stays -/
theorem w_takeL {n : Int} (S : Same I H) (h1 : Dp K I x (.list ds)) (h0 : 0 ≤ n)
    (q : ∀ I' H' v, Lf No I H I' H' → Dp K I' v (.list (ds.take n.toNat)) → Q v H') : rSlL K x none (some n) H Q := by
  obtain ⟨a, xs, rfl, ha, da⟩ := Dp.lstRef h1
  refine ⟨a, xs, rfl, S.seq ha, fun p hp => ?_⟩
  have f := Lf.put (M := No) (o := .lst (cutV xs none (some n))) S hp
  rw [cut_take n h0] at f ⊢
  exact q _ _ _ f (.lst (ofL upd_same) (DpAll.up (DpAll.take _ da) f.ext))
/-- a[i] of data -/
theorem w_ixD {n : Int} {d : PyData} (S : Same I H) (h1 : Dp K I x (.tuple ds) ∨ Dp K I x (.list ds)) (h0 : 0 ≤ n) (e : ds[n.toNat]? = some d)
    (q : ∀ v, Dp K I v d → Q v H) : rIx K x (.int n) H Q := by
  rcases h1 with h1 | h1
  · obtain ⟨a, xs, rfl, ha, da⟩ := Dp.tupRef h1
    obtain ⟨v, e1, e2⟩ := DpAll.get da e
    exact w_ixT (Same.seqT S ha) (atI_of h0 e1) (q v e2)
  · obtain ⟨a, xs, rfl, ha, da⟩ := Dp.lstRef h1
    obtain ⟨v, e1, e2⟩ := DpAll.get da e
    exact w_ixL (S.seq ha) (atI_of h0 e1) (q v e2)
/-- len(x) of data -/
theorem w_lenD (S : Same I H) (h1 : Dp K I x (.tuple ds) ∨ Dp K I x (.list ds)) (q : Q (.int ds.length) H) : rLenS K [x] H Q := by
  rcases h1 with h1 | h1
  · obtain ⟨a, xs, rfl, ha, da⟩ := Dp.tupRef h1
    rw [← DpAll.length da] at q
    exact w_lenT (Same.seqT S ha) q
  · obtain ⟨a, xs, rfl, ha, da⟩ := Dp.lstRef h1
    rw [← DpAll.length da] at q
    exact w_lenL (S.seq ha) q
/-- tuple(x) -/
theorem w_tupOfL (S : Same I H) (h : SqL K H p xs) (hd : DpAll K I xs ds)
    (q : ∀ I' H' q, Lf No I H I' H' → TupZ I' q xs → DpAll K I' xs ds → Q (.ref q) H') : kTupZ K (.ref p) H Q := by
  refine .inl ⟨p, xs, rfl, h, fun r o hr ho => ?_⟩
  have f := Lf.put (M := No) (o := .frz o (.tup xs)) S hr
  exact q _ _ _ f ⟨o, upd_same, ho⟩ (DpAll.up hd f.ext)
theorem w_tupOfD (S : Same I H) (h1 : Dp K I x (.tuple ds) ∨ Dp K I x (.list ds))
    (q : ∀ I' H' v, Lf No I H I' H' → Dp K I' v (.tuple ds) → Q v H') : kTupZ K x H Q := by
  rcases h1 with h1 | h1
  · obtain ⟨a, xs, rfl, ha, da⟩ := Dp.tupRef h1
    exact .inr ⟨a, xs, rfl, Same.seqT S ha, q I H _ (Lf.refl S) h1⟩
  · obtain ⟨a, xs, rfl, ha, da⟩ := Dp.lstRef h1
    exact w_tupOfL S (S.seq ha) da fun I' H' r f z dd => q I' H' _ f (.tup (TupZ.sq z) dd)
theorem TupZ.up {J : Hp} (h : TupZ I p xs) (e : Same I J) : TupZ J p xs := by
  obtain ⟨o, h, z⟩ := h
  exact ⟨o, e _ _ h, z⟩
theorem TupZ.dp {ns : List Int} (h : TupZ I p (ns.map V.int)) : Dp K I (.ref p) (.tuple (ns.map PyData.int)) := .tup (TupZ.sq h) (DpAll.ints ns)
/-- a == b, a != b of data -/
theorem w_eqD {d e : PyData} (h1 : Dp K H x d) (h2 : Dp K H y e) (s1 : SeqAt.shaped d = true) (s2 : SeqAt.shaped e = true) (q : Q (.bl (PyData.eqv d e)) H) :
    rEqD K x y H Q := ⟨d, e, h1, h2, s1, s2, q⟩
theorem w_neD {d e : PyData} (h1 : Dp K H x d) (h2 : Dp K H y e) (s1 : SeqAt.shaped d = true) (s2 : SeqAt.shaped e = true) (q : Q (.bl (!PyData.eqv d e)) H) :
    rNeD K x y H Q := ⟨d, e, h1, h2, s1, s2, q⟩
theorem canLayAll_ints : ∀ ns : List Int, PyData.canLayAll0 (ns.map PyData.int) = true
  | [] => rfl
  | n :: r => by
    show (PyData.canLay0 (.int n) && PyData.canLayAll0 (r.map PyData.int)) = true
    rw [canLayAll_ints r]; rfl
theorem depthAll_ints : ∀ ns : List Int, PyData.depthAll (ns.map PyData.int) = 0
  | [] => rfl
  | n :: r => by
    show max (PyData.depth (.int n)) (PyData.depthAll (r.map PyData.int)) = 0
    rw [depthAll_ints r]; rfl
theorem shaped_ints (ns : List Int) : SeqAt.shaped (.tuple (ns.map PyData.int)) = true := by
  unfold SeqAt.shaped
  rw [show PyData.canLay0 (.tuple (ns.map PyData.int)) = PyData.canLayAll0 (ns.map PyData.int) from rfl, canLayAll_ints]
  rw [show PyData.depth (.tuple (ns.map PyData.int)) = PyData.depthAll (ns.map PyData.int) + 1 from rfl, depthAll_ints]
  rfl
theorem shaped_intsL (ns : List Int) : SeqAt.shaped (.list (ns.map PyData.int)) = true := shaped_ints ns
theorem eqvAll_ints : ∀ ns ms : List Int, PyData.eqvAll (ns.map PyData.int) (ms.map PyData.int) = decide (ns = ms)
  | [], [] => rfl
  | [], _ :: _ => rfl
  | _ :: _, [] => rfl
  | n :: r, m :: t => by
    show ((n == m) && PyData.eqvAll (r.map PyData.int) (t.map PyData.int)) = decide (n :: r = m :: t)
    rw [eqvAll_ints r t]
    by_cases h : n = m
    · subst h; simp
    · simp [h]
/-- x in xs, ints -/
theorem inV_ints {n : Int} : ∀ ns : List Int, inV (.int n) (ns.map V.int) = decide (n ∈ ns)
  | [] => rfl
  | m :: r => by
    show (eqV (.int m) (.int n) || inV (.int n) (r.map V.int)) = decide (n ∈ m :: r)
    rw [inV_ints r]
    show ((m == n) || decide (n ∈ r)) = _
    by_cases h : m = n
    · subst h; simp
    · have h' : ¬ n = m := fun e => h e.symm
      simp [h, h']
theorem flat_ints (ns : List Int) : (ns.map V.int).all flatV = true := by simp [flatV]
theorem w_inInts {n : Int} {ns : List Int} {neg : Bool} (h : SqL K H p (ns.map V.int) ∨ SqT K H p (ns.map V.int)) (q : Q (.bl (if neg then !decide (n ∈ ns) else decide (n ∈ ns))) H) :
    rIn K neg (.int n) (.ref p) H Q := ⟨p, ns.map V.int, rfl, h, rfl, flat_ints ns, by rw [inV_ints]; exact q⟩
end

/-! ### errors with one or two fields -/
section
variable {K : PySem.W.Frag} {C : Addr} {f g : Str}
def spIni1 (C : Addr) (f : Str) : Sp := fun vs H Q _ => ∃ (a : Addr) (v : V), vs = [.ref a, v] ∧ H a = some (exo a C none) ∧
  ∀ d, H d = none → d ≠ a → Q .non (upd (upd H d (exd d [(f, v)])) a (exo a C (some d)))
def spIni2 (C : Addr) (f g : Str) : Sp := fun vs H Q _ => ∃ (a : Addr) (v w : V), vs = [.ref a, v, w] ∧ H a = some (exo a C none) ∧
  ∀ d, H d = none → d ≠ a → Q .non (upd (upd (upd H d (exd d [(f, v)])) a (exo a C (some d))) d (exd d [(g, w), (f, v)]))
theorem w_raise1 {H1 : Hp} {v : V} {Q : XK} (q : ∀ H' d, Same H1 H' → H' d = some (.xd [(f, v)]) → Q (.ref C) (some d) H') :
    [v].length ≤ 1000 ∧ ∀ a, H1 a = none → spIni1 C f (.ref a :: ([v] ++ [])) (upd H1 a (exo a C none))
      (fun x H2 => x = .non ∧ ∃ (d : Addr) (fs : List (Str × V)), H2 a = some (exo a C (some d)) ∧ H2 d = some (exd d fs) ∧ H1 d = none ∧
        Q (.ref C) (some d) (upd (del H2 a) d (.xd fs))) (fun _ _ _ => False) := by
  refine ⟨by show 1 ≤ 1000; decide, fun a ha => ⟨a, v, rfl, upd_same, fun d hd hda => ⟨rfl, d, [(f, v)], upd_same, ?_, ?_, ?_⟩⟩⟩
  · rw [upd_ne hda, upd_same]
  · rw [upd_ne hda] at hd; exact hd
  · rw [upd_ne hda] at hd
    refine q _ d (fun b z e => ?_) upd_same
    have ba : b ≠ a := ne_of_none e ha
    have bd : b ≠ d := ne_of_none e hd
    rw [upd_ne bd, del_ne ba, upd_ne ba, upd_ne bd, upd_ne ba]
    exact e
theorem w_raise2 {H1 : Hp} {v w : V} {Q : XK} (q : ∀ H' d, Same H1 H' → H' d = some (.xd [(g, w), (f, v)]) → Q (.ref C) (some d) H') :
    [v, w].length ≤ 1000 ∧ ∀ a, H1 a = none → spIni2 C f g (.ref a :: ([v, w] ++ [])) (upd H1 a (exo a C none))
      (fun x H2 => x = .non ∧ ∃ (d : Addr) (fs : List (Str × V)), H2 a = some (exo a C (some d)) ∧ H2 d = some (exd d fs) ∧ H1 d = none ∧
        Q (.ref C) (some d) (upd (del H2 a) d (.xd fs))) (fun _ _ _ => False) := by
  refine ⟨by show 2 ≤ 1000; decide, fun a ha => ⟨a, v, w, rfl, upd_same, fun d hd hda => ⟨rfl, d, [(g, w), (f, v)], ?_, upd_same, ?_, ?_⟩⟩⟩
  · rw [upd_ne hda.symm, upd_same]
  · rw [upd_ne hda] at hd; exact hd
  · rw [upd_ne hda] at hd
    refine q _ d (fun b z e => ?_) upd_same
    have ba : b ≠ a := ne_of_none e ha
    have bd : b ≠ d := ne_of_none e hd
    rw [upd_ne bd, del_ne ba, upd_ne bd, upd_ne ba, upd_ne bd, upd_ne ba]
    exact e
end

/-! ### loops -/
section
variable {K : PySem.W.Frag} {H : Hp} {p : Addr} {xs : List V} {g : TG} {tb : TS} {D : Ends} {σ : L2.St} {te : TE}
theorem qb {Q : VK} {b c : Bool} (q : Q (.bl b) H) (e : b = c) : Q (.bl c) H := e ▸ q
theorem w_gpair {i j : Nat} {T : Addr} {x y : V} {Q : L2.St → Hp → Prop} (e : H T = some (.tup [x, y])) (q : Q ((σ.set i (some x)).set j (some y)) H) :
    gTup K 2 (gCons (gName i) (gCons (gName j) gNil)) (.ref T) σ H Q := ⟨T, [x, y], rfl, ofT e, rfl, x, [y], rfl, y, [], rfl, rfl, q⟩
theorem w_gpairS {i j : Nat} {T : Addr} {x y : V} {Q : L2.St → Hp → Prop} (e : SqT K H T [x, y]) (q : Q ((σ.set i (some x)).set j (some y)) H) :
    gTup K 2 (gCons (gName i) (gCons (gName j) gNil)) (.ref T) σ H Q := ⟨T, [x, y], rfl, e, rfl, x, [y], rfl, y, [], rfl, rfl, q⟩
theorem w_forEnum (h : SqL K H p xs ∨ SqT K H p xs) (Pv : Nat → L2.St → Hp → Prop) (he : ∀ Q : VK, Q (.ref p) H → te σ H Q) (h0 : Pv 0 σ H)
    (hG : ∀ i σ H', i ≤ xs.length → Pv i σ H' → Same H H')
    (hs : ∀ i x T σ H', xs[i]? = some x → Pv i σ H' → H' T = none →
      g (.ref T) σ (upd H' T (.tup [.int (i : Nat), x])) fun σ2 H2 => tb { D with nx := Pv (i + 1), ct := Pv (i + 1), bk := D.nx } σ2 H2)
    (hd : ∀ σ H', Pv xs.length σ H' → D.nx σ H') : tFor (iEnumS K (tCons te tNil)) g tb D σ H := by
  have turn : ∀ i x σ H1 H', i < xs.length → Pv i σ H1 → YPair (fun i => some (.int (i : Nat))) (fun i => xs[i]?) i H1 x H' →
      g x σ H' fun σ2 H2 => tb { D with nx := Pv (i + 1), ct := Pv (i + 1), bk := D.nx } σ2 H2 := by
    intro i x σ H1 H' _ p1 y
    obtain ⟨T, u, v, rfl, hT, rfl, e1, e2⟩ := y
    cases e1
    exact hs i v T σ H1 e2 p1 hT
  cases h with
  | inl h => exact .inl (he _ ⟨p, xs, rfl, h, for_it walk_enum Pv h0 (fun i σ H' hi q => (hG i σ H' hi q).seq h) turn hd⟩)
  | inr h => exact .inr (he _ ⟨p, xs, rfl, h, for_it walk_enumT Pv h0 (fun i σ H' hi q => Same.seqT (hG i σ H' hi q) h) turn hd⟩)
theorem w_forL (h : SqL K H p xs) (Pv : Nat → L2.St → Hp → Prop) (he : ∀ Q : VK, Q (.ref p) H → te σ H Q) (h0 : Pv 0 σ H)
    (hG : ∀ i σ H', i ≤ xs.length → Pv i σ H' → SqL K H' p xs)
    (hs : ∀ i x σ H', xs[i]? = some x → Pv i σ H' → g x σ H' fun σ2 H2 => tb { D with nx := Pv (i + 1), ct := Pv (i + 1), bk := D.nx } σ2 H2)
    (hd : ∀ σ H', Pv xs.length σ H' → D.nx σ H') : tFor (iSeq K te) g tb D σ H :=
  .inl (he _ ⟨p, rfl, ⟨_, h⟩, for_list Pv h0 hG hs hd⟩)
theorem w_forT (h : SqT K H p xs) (Pv : Nat → L2.St → Hp → Prop) (he : ∀ Q : VK, Q (.ref p) H → te σ H Q) (h0 : Pv 0 σ H)
    (hG : ∀ i σ H', i ≤ xs.length → Pv i σ H' → SqT K H' p xs)
    (hs : ∀ i x σ H', xs[i]? = some x → Pv i σ H' → g x σ H' fun σ2 H2 => tb { D with nx := Pv (i + 1), ct := Pv (i + 1), bk := D.nx } σ2 H2)
    (hd : ∀ σ H', Pv xs.length σ H' → D.nx σ H') : tFor (iSeq K te) g tb D σ H :=
  .inr (he _ ⟨p, rfl, ⟨_, h⟩, for_tup Pv h0 hG hs hd⟩)
theorem w_forR1 {n : Int} (h0' : 0 ≤ n) (h1 : n < 2 ^ 62) (Pv : Nat → L2.St → Hp → Prop) (he : ∀ Q : List V → Hp → Prop, Q [.int n] H → (tCons te tNil) σ H Q) (h0 : Pv 0 σ H)
    (hs : ∀ i σ H', i < n.toNat → Pv i σ H' → g (.int (i : Nat)) σ H' fun σ2 H2 => tb { D with nx := Pv (i + 1), ct := Pv (i + 1), bk := D.nx } σ2 H2)
    (hd : ∀ σ H', Pv n.toNat σ H' → D.nx σ H') : tFor (iRng1 (tCons te tNil)) g tb D σ H := by
  unfold tFor iRng1
  apply he
  refine ⟨n, rfl, by omega, h1, for_range (lo := 0) (n := n.toNat) Pv h0 (fun i σ H' hi q => ?_) hd⟩
  rw [Int.zero_add]
  exact hs i σ H' hi q
theorem w_forR2 {m n : Int} {tf : TE} (h0' : 0 ≤ m) (hmn : m < 2 ^ 62) (h1 : n < 2 ^ 62) (h2 : -(2 ^ 62) ≤ n) (Pv : Nat → L2.St → Hp → Prop)
    (he : ∀ Q : List V → Hp → Prop, Q [.int m, .int n] H → (tCons te (tCons tf tNil)) σ H Q) (h0 : Pv 0 σ H)
    (hs : ∀ i σ H', i < (n - m).toNat → Pv i σ H' → g (.int (m + (i : Nat))) σ H' fun σ2 H2 => tb { D with nx := Pv (i + 1), ct := Pv (i + 1), bk := D.nx } σ2 H2)
    (hd : ∀ σ H', Pv (n - m).toNat σ H' → D.nx σ H') : tFor (iRng2 (tCons te (tCons tf tNil))) g tb D σ H := by
  unfold tFor iRng2
  apply he
  exact ⟨m, n, rfl, ⟨by omega, hmn, h2, h1⟩, for_range (lo := m) (n := (n - m).toNat) Pv h0 hs hd⟩
end

/-! ### comprehensions: Pv by the turn, the heap, and what the new list at E holds -/
section
variable {K : PySem.W.Frag} {H : Hp} {p : Addr} {xs : List V} {g : TG} {tt : TT} {te tl : TE} {σ : L2.St} {vs : List Nat} {Q : VK}
theorem w_lcL (h : SqL K H p xs) (he : ∀ Q : VK, Q (.ref p) H → tl σ H Q)
    (W : ∀ E : Addr, H E = none → ∃ Pv : Nat → Hp → Prop, Pv 0 (upd H E (.lst [])) ∧ (∀ i H', i ≤ xs.length → Pv i H' → SqL K H' p xs) ∧
      (∀ i x H', xs[i]? = some x → Pv i H' → g x (wipe σ vs) H' fun σ2 H2 => wipe σ2 vs = wipe σ vs ∧ tt σ2 H2 fun b H3 =>
        if b = true then te σ2 H3 fun y H4 => ∃ acc, H4 E = some (.lst acc) ∧ acc.length < sizeLine ∧ Pv (i + 1) (upd H4 E (.lst (acc ++ [y]))) else Pv (i + 1) H3) ∧
      (∀ H', Pv xs.length H' → Q (.ref E) H')) : tLc (iSeq K tl) g tt te vs σ H Q := by
  refine .inl (he _ ⟨p, rfl, ⟨_, h⟩, fun E hE => ?_⟩)
  obtain ⟨Pv, h0, hl, hs, hd⟩ := W E hE
  exact lc_list Pv h0 hl hs hd
theorem w_lcT (h : SqT K H p xs) (he : ∀ Q : VK, Q (.ref p) H → tl σ H Q)
    (W : ∀ E : Addr, H E = none → ∃ Pv : Nat → Hp → Prop, Pv 0 (upd H E (.lst [])) ∧ (∀ i H', i ≤ xs.length → Pv i H' → SqT K H' p xs) ∧
      (∀ i x H', xs[i]? = some x → Pv i H' → g x (wipe σ vs) H' fun σ2 H2 => wipe σ2 vs = wipe σ vs ∧ tt σ2 H2 fun b H3 =>
        if b = true then te σ2 H3 fun y H4 => ∃ acc, H4 E = some (.lst acc) ∧ acc.length < sizeLine ∧ Pv (i + 1) (upd H4 E (.lst (acc ++ [y]))) else Pv (i + 1) H3) ∧
      (∀ H', Pv xs.length H' → Q (.ref E) H')) : tLc (iSeq K tl) g tt te vs σ H Q := by
  refine .inr (he _ ⟨p, rfl, ⟨_, h⟩, fun E hE => ?_⟩)
  obtain ⟨Pv, h0, hl, hs, hd⟩ := W E hE
  exact lc_tup Pv h0 hl hs hd
theorem w_lcR1 {n : Int} (h0' : 0 ≤ n) (h1 : n < 2 ^ 62) (he : ∀ Q : List V → Hp → Prop, Q [.int n] H → (tCons tl tNil) σ H Q)
    (W : ∀ E : Addr, H E = none → ∃ Pv : Nat → Hp → Prop, Pv 0 (upd H E (.lst [])) ∧
      (∀ i H', i < n.toNat → Pv i H' → g (.int (i : Nat)) (wipe σ vs) H' fun σ2 H2 => wipe σ2 vs = wipe σ vs ∧ tt σ2 H2 fun b H3 =>
        if b = true then te σ2 H3 fun y H4 => ∃ acc, H4 E = some (.lst acc) ∧ acc.length < sizeLine ∧ Pv (i + 1) (upd H4 E (.lst (acc ++ [y]))) else Pv (i + 1) H3) ∧
      (∀ H', Pv n.toNat H' → Q (.ref E) H')) : tLc (iRng1 (tCons tl tNil)) g tt te vs σ H Q := by
  unfold tLc iRng1
  apply he
  refine ⟨n, rfl, by omega, h1, fun E hE => ?_⟩
  obtain ⟨Pv, h0, hs, hd⟩ := W E hE
  refine lc_range (lo := 0) (n := n.toNat) Pv h0 (fun i H' hi q => ?_) hd
  rw [Int.zero_add]
  exact hs i H' hi q
end

/-! ### slices of a list or a tuple -/
section
variable {X : Cx} {K : PySem.W.Frag}
def rSlU (K : PySem.W.Frag) : V → Option Int → Option Int → Hp → VK → Prop := fun x lo hi H Q => rSlA K x lo hi H Q ∨ rSlL K x lo hi H Q
theorem slU : SlR X (rSlU X.K) := SlR.or sl_tupA sl_list
/-- x[:n], a list or a tuple of ints -/
theorem w_slUInts {H : Hp} {Q : VK} {p : Addr} {xs : List V} {n : Int} (h : SqL K H p xs ∨ SqT K H p xs) (h0 : 0 ≤ n)
    (q : ∀ H' r, Same H H' → (SqL K H' r (xs.take n.toNat) ∨ SqT K H' r (xs.take n.toNat)) → Q (.ref r) H') : rSlU K (.ref p) none (some n) H Q := by
  cases h with
  | inl h =>
    refine .inr ⟨p, xs, rfl, h, fun r hr => ?_⟩
    rw [cut_take n h0]
    exact q _ r (same_new hr) (.inl (ofL upd_same))
  | inr h =>
    refine .inl ⟨p, xs, rfl, h, fun e => ?_, fun _ r hr => ?_⟩
    · have e2 := e.2
      obtain ⟨k, rfl⟩ : ∃ k : Nat, n = (k : Int) := ⟨n.toNat, by omega⟩
      rw [HT.sIx_nat] at e2
      rw [Int.toNat_natCast, List.take_of_length_le (by omega)] at q
      exact q H p (Same.refl H) (.inr h)
    · rw [cut_take n h0]
      exact q _ r (same_new hr) (.inr (ofT upd_same))
theorem w_tSl {r : V → Option Int → Option Int → Hp → VK → Prop} {te : TE} {tl th : TO} {σ : L2.St} {H : Hp} {Q : VK}
    (q : te σ H fun x H1 => tl σ H1 fun l H2 => th σ H2 fun u H3 => r x l u H3 Q) : tSl r te tl th σ H Q := q
theorem w_noPart {σ : L2.St} {H : Hp} {Q : Option Int → Hp → Prop} (q : Q none H) : tNoPart σ H Q := q
theorem w_part {te : TE} {σ : L2.St} {H : Hp} {Q : Option Int → Hp → Prop} (q : te σ H fun x H1 => ∃ i, x = .int i ∧ Q (some i) H1) : tPart te σ H Q := q
theorem w_ofInt {n : Int} {P : Int → Prop} (q : P n) : ∃ i, V.int n = .int i ∧ P i := ⟨n, rfl, q⟩
end

/-! ### a sequence, or none -/
def seqOf : PyData → Option (List PyData)
  | .list ds => some ds
  | .tuple ds => some ds
  | _ => none
theorem dp_seq {K : PySem.W.Frag} {H : Hp} {v : V} {d : PyData} (h : Dp K H v d) :
    (∃ p xs ds, v = .ref p ∧ (SqL K H p xs ∨ SqT K H p xs) ∧ DpAll K H xs ds ∧ seqOf d = some ds ∧ (dLst d || dTup d) = true) ∨ (seqOf d = none ∧ (dLst d || dTup d) = false) := by
  cases h with
  | lst h q => exact .inl ⟨_, _, _, rfl, .inl h, q, rfl, rfl⟩
  | tup h q => exact .inl ⟨_, _, _, rfl, .inr h, q, rfl, rfl⟩
  | _ => exact .inr ⟨rfl, rfl⟩
theorem drop_at {α : Type} {xs : List α} {i : Nat} {x : α} (h : xs[i]? = some x) : xs.drop i = x :: xs.drop (i + 1) := by
  obtain ⟨h1, h2⟩ := List.getElem?_eq_some_iff.mp h
  rw [List.drop_eq_getElem_cons h1, h2]
theorem take_at {α : Type} {xs : List α} {i : Nat} {x : α} (h : xs[i]? = some x) : xs.take (i + 1) = xs.take i ++ [x] := by
  rw [List.take_add_one, h]; rfl
theorem seq_up {K : PySem.W.Frag} {H H' : Hp} {p : Addr} {xs : List V} (h : SqL K H p xs ∨ SqT K H p xs) (s : Same H H') : SqL K H' p xs ∨ SqT K H' p xs :=
  h.elim (fun z => .inl (s.seq z)) fun z => .inr (Same.seqT s z)
/-- the first item that is no int of al, or stands earlier -/
def rf (al : List Int) : List Int → List PyData → Nat → Option Nat
  | seen, .int n :: r, i => if n ∈ al ∧ n ∉ seen then rf al (seen ++ [n]) r (i + 1) else some i
  | _, _ :: _, i => some i
  | _, [], _ => none
theorem rf_odd {al seen : List Int} {d : PyData} {r : List PyData} {i : Nat} (h : ∀ n, d ≠ .int n) : rf al seen (d :: r) i = some i := by
  cases d with
  | int n => exact absurd rfl (h n)
  | _ => rfl
theorem rf_int {al seen : List Int} {n : Int} {r : List PyData} {i : Nat} : rf al seen (.int n :: r) i = if n ∈ al ∧ n ∉ seen then rf al (seen ++ [n]) r (i + 1) else some i := rfl
theorem rf_none {al : List Int} : ∀ (ds : List PyData) (seen : List Int) (i : Nat), rf al seen ds i = none → seen.Nodup → ∃ ns : List Int, ds = ns.map .int ∧ (seen ++ ns).Nodup ∧ ∀ n ∈ ns, n ∈ al
  | [], seen, i, _, hs => ⟨[], rfl, by simpa using hs, by simp⟩
  | d :: r, seen, i, h, hs => by
    cases d with
    | int n =>
      rw [rf_int] at h
      by_cases c : n ∈ al ∧ n ∉ seen
      · rw [if_pos c] at h
        have hs' : (seen ++ [n]).Nodup := by
          rw [List.nodup_append]
          exact ⟨hs, by simp, by rintro a ha b hb rfl; simp at hb; subst hb; exact c.2 ha⟩
        obtain ⟨ns, e, h1, h2⟩ := rf_none r (seen ++ [n]) (i + 1) h hs'
        refine ⟨n :: ns, by rw [e]; rfl, by simpa using h1, fun m hm => ?_⟩
        rcases List.mem_cons.mp hm with rfl | hm
        · exact c.1
        · exact h2 m hm
      · rw [if_neg c] at h; cases h
    | _ => exact absurd h (by simp [rf])
theorem rf_ok {al : List Int} : ∀ (ns seen : List Int) (i : Nat), (seen ++ ns).Nodup → (∀ n ∈ ns, n ∈ al) → ∀ r, rf al seen (ns.map .int ++ r) i = rf al (seen ++ ns) r (i + ns.length)
  | [], seen, i, _, _, r => by simp
  | n :: ns, seen, i, h1, h2, r => by
    have c : n ∈ al ∧ n ∉ seen := by
      refine ⟨h2 n (by simp), fun hn => ?_⟩
      rw [List.nodup_append] at h1
      exact h1.2.2 n hn n (by simp) rfl
    show rf al seen (.int n :: (ns.map .int ++ r)) i = _
    rw [rf_int, if_pos c, rf_ok ns (seen ++ [n]) (i + 1) (by simpa using h1) (fun m hm => h2 m (by simp [hm])) r]
    rw [List.append_assoc, List.length_cons]
    rw [show i + 1 + ns.length = i + (ns.length + 1) by omega]
    rfl
section
variable {K : PySem.W.Frag} {H : Hp} {Q : VK} {p : Addr} {n : Int} {ns : List Int}
theorem w_inI (h : SqL K H p (ns.map V.int) ∨ SqT K H p (ns.map V.int)) (q : Q (.bl (decide (n ∈ ns))) H) : rIn K false (.int n) (.ref p) H Q := w_inInts h q
theorem w_ninI (h : SqL K H p (ns.map V.int) ∨ SqT K H p (ns.map V.int)) (q : Q (.bl (!decide (n ∈ ns))) H) : rIn K true (.int n) (.ref p) H Q := w_inInts h q
end
theorem w_mkO {C : Addr} {sp : Sp} {dvs : List V} {ta : TA} {σ : L2.St} {H : Hp} {Q : XK}
    (q : ta σ H fun vs H1 => vs.length ≤ 1000 ∧ ∀ a, H1 a = none → sp (.ref a :: (vs ++ dvs)) (upd H1 a (exo a C none))
      (fun v H2 => v = .non ∧ ∃ (d : Addr) (fs : List (Str × V)), H2 a = some (exo a C (some d)) ∧ H2 d = some (exd d fs) ∧ H1 d = none ∧ Q (.ref C) (some d) (upd (del H2 a) d (.xd fs))) (fun _ _ _ => False)) :
    tMkO C sp dvs ta σ H Q := q
theorem w_lstRg {te : L2.St → Hp → (Int → Int → Hp → Prop) → Prop} {σ : L2.St} {H : Hp} {Q : VK} (q : te σ H fun a b H1 => RgOk a b ∧ ∀ q, H1 q = none → Q (.ref q) (upd H1 q (.lst (rgV a b)))) : tLstRg te σ H Q := q
theorem w_tupRg {te : L2.St → Hp → (Int → Int → Hp → Prop) → Prop} {σ : L2.St} {H : Hp} {Q : VK} (q : te σ H fun a b H1 => RgOk a b ∧ ∀ q, H1 q = none → Q (.ref q) (upd H1 q (.tup (rgV a b)))) : tTupRg te σ H Q := q
theorem w_rg1 {ta : TE} {σ : L2.St} {H : Hp} {Q : Int → Int → Hp → Prop} (q : ta σ H fun x H1 => ∃ n, x = .int n ∧ Q 0 n H1) : tRg1 ta σ H Q := q
theorem w_rg2 {ta tb : TE} {σ : L2.St} {H : Hp} {Q : Int → Int → Hp → Prop} (q : ta σ H fun x H1 => tb σ H1 fun y H2 => ∃ i j, x = .int i ∧ y = .int j ∧ Q i j H2) : tRg2 ta tb σ H Q := q
theorem rgOk0 {m : Int} (h0 : 0 ≤ m) (h1 : m ≤ 16777216) : RgOk 0 m := RgOk.of_le (by omega) h1 (by omega) h0
end L3
/-! More readings. -/
namespace L3
open PySem PySem.Spec PyProof.Rows L2
section
variable {K : PySem.W.Frag} {I H : Hp} {Q : VK} {p : Addr} {xs : List V} {v : V} {n : Int}
theorem w_lenS (h : SqL K H p xs ∨ SqT K H p xs) (q : Q (.int xs.length) H) : rLenS K [.ref p] H Q := ⟨p, xs, rfl, h, q⟩
theorem w_ixS (h : SqL K H p xs ∨ SqT K H p xs) (h0 : 0 ≤ n) (e : xs[n.toNat]? = some v) (q : Q v H) : rIx K (.ref p) (.int n) H Q :=
  h.elim (fun z => w_ixL z (atI_of h0 e) q) fun z => w_ixT z (atI_of h0 e) q
theorem get_map {α β : Type} {f : α → β} {l : List α} {i : Nat} (h : i < l.length) : (l.map f)[i]? = some (f l[i]) := by simp [h]
end

/-! ### rules with the written part named (within a comprehension the context's own K is no plain name) -/
section
variable {X : Cx} {K : PySem.W.Frag}
theorem op_inK (h : X.K = K) : OpR X (compareOp .In) (rIn K false) := h ▸ op_in_seq
theorem op_ninK (h : X.K = K) : OpR X (compareOp .NotIn) (rIn K true) := h ▸ op_notIn_seq
theorem ix_K (h : X.K = K) : IxR X (rIx K) := h ▸ ix_seq
theorem call_lenK (h : X.K = K) : CallR X (.builtin "len") (rLenS K) := h ▸ call_lenS
theorem call_isiK' (h : X.K = K) : CallR X (.builtin "isinstance") (rIsi K) := h ▸ call_isi
theorem call_isiTK (h : X.K = K) : CallR X (.builtin "isinstance") (rIsiT K) := h ▸ call_isiT
theorem call_listK (h : X.K = K) : CallR X (.type "list") (rListOf K) := h ▸ call_listOf
theorem slUK (h : X.K = K) : SlR X (rSlU K) := h ▸ slU
theorem sl_listK (h : X.K = K) : SlR X (rSlL K) := h ▸ sl_list
theorem sl_tupK (h : X.K = K) : SlR X (rSlA K) := h ▸ sl_tupA
theorem op_catK (h : X.K = K) : OpR X (binaryOp .Add) (rCatA K) := h ▸ op_catA
theorem op_eqK (h : X.K = K) (hu : X.A.units + 64 < cLine) : OpR X (compareOp .Eq) (rEqD K) := h ▸ op_eqD hu
theorem op_neK (h : X.K = K) (hu : X.A.units + 64 < cLine) : OpR X (compareOp .NotEq) (rNeD K) := h ▸ op_neD hu
theorem op_inDK (h : X.K = K) (hu : X.A.units + 65 < cLine) : OpR X (compareOp .In) (rInD K) := h ▸ op_inD (by first | exact hu | omega)
theorem op_ninDK (h : X.K = K) (hu : X.A.units + 65 < cLine) : OpR X (compareOp .NotIn) (rNotInD K) := h ▸ op_notInD (by first | exact hu | omega)
theorem mt_indexK (h : X.K = K) : MtR X "list.index" (rIndex K) := h ▸ mt_index
theorem mt_indexTK (h : X.K = K) : MtR X "tuple.index" (rIndexT K) := h ▸ mt_indexT
theorem pi_seqK {tg l : Expr} {tl : TE} (h : X.K = K) (hl : PE X l tl) : PI X tg l (iSeq K tl) := h ▸ pi_seq hl
theorem pi_enumK {e : Expr} {ta : TA} {p pos tpos : Pos} {elts : List Expr} {kk : Nat} (h : X.K = K) (hg : Gl X "enumerate")
    (hm : X.mg "enumerate" = none) (ha : PA X [e] ta) (hs : starEach [e] X.env = [(false, eval e X.env)] := by rfl) :
    PI X (.Tuple elts kk tpos) (.Call (.Name "enumerate" p) [e] [] pos) (iEnumS K ta) := h ▸ pi_enumS hg hm ha hs
theorem pe_tupleK {a : Expr} {ta : TE} {p pos : Pos} (h : X.K = K) (hg : Gl X "tuple") (hm : X.mg "tuple" = none) (ha : PE X a ta)
    (na : starEach [a] X.env = (false, eval a X.env) :: starEach [] X.env := by rfl) :
    PE X (.Call (.Name "tuple" p) [a] [] pos) (tThen ta (kTupZ K)) := h ▸ pe_tupleZ hg hm ha na
end
theorem units65 {k : Nat} {A : Around} (hr : Room k A) : A.units + 65 < cLine := by have := hr.un; omega

/-! ### a comprehension of one name: Inv by the turn, what stays, the heap and the data made so far -/
theorem wipe1 (σ : L2.St) (i : Nat) (v : V) : (wipe σ [i]).set i (some v) = σ.set i (some v) := by
  show (σ.set i none).set i (some v) = _
  rw [List.set_set]
theorem wipe2 (σ : L2.St) (i : Nat) (v : V) : wipe (σ.set i (some v)) [i] = wipe σ [i] := by
  show (σ.set i (some v)).set i none = σ.set i none
  rw [List.set_set]
section
variable {K : PySem.W.Frag} {I H : Hp} {M : Addr → Prop} {J : It} {n : Nat} {G : Hp → Prop} {Y : Nat → Hp → V → Hp → Prop} {item : Nat → V} {i : Nat} {σ : L2.St} {tt : TT} {te : TE} {Q : VK}
structure CompOk (K : PySem.W.Frag) (I H : Hp) (M : Addr → Prop) (n : Nat) (item : Nat → V) (i : Nat) (σ : L2.St) (tt : TT) (te : TE) (Q : VK)
    (Inv : Nat → Hp → Hp → List PyData → Prop) (Mid : Nat → Bool → Hp → Hp → List PyData → Prop) : Prop where
  sub : Same I H
  hM : ∀ b, M b → H b ≠ none
  small : n < sizeLine
  i0 : Inv 0 I H []
  stab : ∀ k I' H' ds E o, H E = none → I' E = none → Inv k I' H' ds → Inv k I' (upd H' E o) ds
  test : ∀ k I1 H1 ds (R : Bool → Hp → Prop), k < n → Lf M I H I1 H1 → Inv k I1 H1 ds →
    (∀ b I2 H2, Lf M I1 H1 I2 H2 → Mid k b I2 H2 ds → R b H2) → tt (σ.set i (some (item k))) H1 R
  elt : ∀ k I2 H2 ds (R : VK), k < n → Lf M I H I2 H2 → Mid k true I2 H2 ds →
    (∀ v d I3 H3, Lf M I2 H2 I3 H3 → Dp K I3 v d → Inv (k + 1) I3 H3 (ds ++ [d]) → R v H3) → te (σ.set i (some (item k))) H2 R
  skip : ∀ k I2 H2 ds, k < n → Mid k false I2 H2 ds → Inv (k + 1) I2 H2 ds
  fin : ∀ I' H' E vs ds, Lf M I H I' H' → H E = none → I' E = none → H' E = some (.lst vs) → DpAll K I' vs ds → Inv n I' H' ds → Q (.ref E) H'
variable {Inv : Nat → Hp → Hp → List PyData → Prop} {Mid : Nat → Bool → Hp → Hp → List PyData → Prop}
theorem comp_core (w : Walk J n G Y) (hG : ∀ H', (∀ b o, ¬ M b → H b = some o → H' b = some o) → G H') (hY : ∀ k H x H', k < n → Y k H x H' → H' = H ∧ x = item k)
    (C : CompOk K I H M n item i σ tt te Q Inv Mid) (E : Addr) (hE : H E = none) :
    ∃ W : Nat → Nat → Hp → Prop, (∃ m, W 0 m (upd H E (.lst []))) ∧ ∀ k m H, W k m H →
      (J.stop k H ∧ Q (.ref E) H) ∨ (J.go k H ∧ ∃ Nx : Hp → Prop, (∀ H', Nx H' → ∃ m', m' < m ∧ W (k + 1) m' H') ∧ ∀ x H', J.yld k H x H' → gName i x (wipe σ [i]) H' fun σ2 H2 => wipe σ2 [i] = wipe σ [i] ∧ tt σ2 H2 fun b H3 =>
        if b = true then te σ2 H3 fun y H4 => ∃ acc, H4 E = some (.lst acc) ∧ acc.length < sizeLine ∧ Nx (upd H4 E (.lst (acc ++ [y]))) else Nx H3) := by
  have nM : ¬ M E := fun m => C.hM E m hE
  refine lc_it w (fun k H' => ∃ I' vs ds, Lf M I H I' H' ∧ I' E = none ∧ H' E = some (.lst vs) ∧ vs.length ≤ k ∧ DpAll K I' vs ds ∧ Inv k I' H' ds)
    ⟨I, [], [], (Lf.refl C.sub).trans (Lf.alloc C.sub hE), Same.sub C.sub hE, upd_same, Nat.le_refl _, .nil, C.stab 0 I H [] E _ hE (Same.sub C.sub hE) C.i0⟩
    (fun k H' _ h => ?_) (fun k x H1 H1' hk h y => ?_) (fun H' h => ?_)
  · obtain ⟨I', vs, ds, f, _⟩ := h
    exact hG H' f.keep
  · obtain ⟨I1, vs, ds, f, e1, e2, e3, e4, e5⟩ := h
    obtain ⟨rfl, rfl⟩ := hY k H1 x H1' hk y
    refine w_name ?_
    rw [wipe1]
    refine ⟨wipe2 _ _ _, C.test k I1 H1' ds _ hk f e5 fun b I2 H2 f2 hm => ?_⟩
    have e1' : I2 E = none := f2.off e1 (none_ne e2)
    have e2' : H2 E = some (.lst vs) := f2.keep _ _ nM e2
    cases b with
    | false =>
      rw [if_neg Bool.false_ne_true]
      exact ⟨I2, vs, ds, f.trans f2, e1', e2', by omega, DpAll.up e4 f2.ext, C.skip k I2 H2 ds hk hm⟩
    | true =>
      rw [if_pos rfl]
      refine C.elt k I2 H2 ds _ hk (f.trans f2) hm fun v d I3 H3 f3 hd hi => ?_
      have e1'' : I3 E = none := f3.off e1' (none_ne e2')
      have e2'' : H3 E = some (.lst vs) := f3.keep _ _ nM e2'
      have hsm := C.small
      refine ⟨vs, e2'', by omega, I3, vs ++ [v], ds ++ [d], Lf.set ((f.trans f2).trans f3) hE e2'' e1'', e1'', upd_same, ?_, ?_, ?_⟩
      · rw [List.length_append, List.length_singleton]; omega
      · exact DpAll.append (DpAll.up e4 (f2.ext.trans f3.ext)) (.cons hd .nil)
      · exact C.stab _ _ _ _ _ _ hE e1'' hi
  · obtain ⟨I', vs, ds, f, e1, e2, e3, e4, e5⟩ := h
    exact C.fin I' H' E vs ds f hE e1 e2 e4 e5
theorem w_compR {m : Int} {tl : TE} (h0 : 0 ≤ m) (h1 : m < 2 ^ 62) (he : ∀ Q : List V → Hp → Prop, Q [.int m] H → (tCons tl tNil) σ H Q)
    (C : CompOk K I H M m.toNat (fun k => .int (k : Nat)) i σ tt te Q Inv Mid) : tLc (iRng1 (tCons tl tNil)) (gName i) tt te [i] σ H Q := by
  unfold tLc iRng1
  apply he
  refine ⟨m, rfl, by omega, h1, fun E hE => comp_core (walk_range (lo := 0)) (fun _ _ => True.intro) (fun k H x H' _ y => ⟨y.1, ?_⟩) C E hE⟩
  rw [y.2]
  show V.int (0 + (k : Int)) = V.int (k : Int)
  rw [Int.zero_add]
theorem w_compL {p : Addr} {xs : List V} {tl : TE} (h : SqL K I p xs) (he : ∀ Q : VK, Q (.ref p) H → tl σ H Q) (nM : ¬ M p)
    (C : CompOk K I H M xs.length (fun k => xs.getD k .non) i σ tt te Q Inv Mid) : tLc (iSeq K tl) (gName i) tt te [i] σ H Q := by
  refine .inl (he _ ⟨p, rfl, ⟨xs, C.sub.seq h⟩, fun E hE => comp_core walk_list (fun H' k => ?_) (fun k H x H' hk y => ⟨y.1, ?_⟩) C E hE⟩)
  · rcases C.sub.seq h with (h | ⟨o, h⟩) | h
    · exact .inl (.inl (k _ _ nM h))
    · exact .inl (.inr ⟨o, k _ _ nM h⟩)
    · exact .inr h
  · rw [List.getD_eq_getElem?_getD, y.2]; rfl
theorem w_compT {p : Addr} {xs : List V} {tl : TE} (h : SqT K I p xs) (he : ∀ Q : VK, Q (.ref p) H → tl σ H Q) (nM : ¬ M p)
    (C : CompOk K I H M xs.length (fun k => xs.getD k .non) i σ tt te Q Inv Mid) : tLc (iSeq K tl) (gName i) tt te [i] σ H Q := by
  refine .inr (he _ ⟨p, rfl, ⟨xs, Same.seqT C.sub h⟩, fun E hE => comp_core walk_tup (fun H' k => ?_) (fun k H x H' hk y => ⟨y.1, ?_⟩) C E hE⟩)
  · rcases Same.seqT C.sub h with (h | ⟨o, h⟩) | h
    · exact .inl (.inl (k _ _ nM h))
    · exact .inl (.inr ⟨o, k _ _ nM h⟩)
    · exact .inr h
  · rw [List.getD_eq_getElem?_getD, y.2]; rfl
end
end L3
/-! Comprehensions whose test and element are known turn by turn; pops; index. -/
namespace L3
open PySem PySem.Spec PyProof.Rows L2
section
variable {K : PySem.W.Frag} {I H : Hp} {M : Addr → Prop} {n : Nat} {item : Nat → V} {i : Nat} {σ : L2.St} {tt : TT} {te : TE} {Q : VK}
variable {Inv : Nat → Hp → Hp → List PyData → Prop} {Mid : Nat → Bool → Hp → Hp → List PyData → Prop}
theorem w_compS {p : Addr} {xs : List V} {tl : TE} (h : SqL K I p xs ∨ SqT K I p xs) (he : ∀ Q : VK, Q (.ref p) H → tl σ H Q) (nM : ¬ M p)
    (C : CompOk K I H M xs.length (fun k => xs.getD k .non) i σ tt te Q Inv Mid) : tLc (iSeq K tl) (gName i) tt te [i] σ H Q :=
  h.elim (fun z => w_compL z he nM C) fun z => w_compT z he nM C
theorem CompOk.map (sub : Same I H) (hM : ∀ b, M b → H b ≠ none) (small : n < sizeLine) (i0 : Inv 0 I H [])
    (stab : ∀ k I' H' ds E o, H E = none → I' E = none → Inv k I' H' ds → Inv k I' (upd H' E o) ds)
    (elt : ∀ k I2 H2 ds (R : VK), k < n → Lf M I H I2 H2 → Inv k I2 H2 ds →
      (∀ v d I3 H3, Lf M I2 H2 I3 H3 → Dp K I3 v d → Inv (k + 1) I3 H3 (ds ++ [d]) → R v H3) → te (σ.set i (some (item k))) H2 R)
    (fin : ∀ I' H' E vs ds, Lf M I H I' H' → H E = none → I' E = none → H' E = some (.lst vs) → DpAll K I' vs ds → Inv n I' H' ds → Q (.ref E) H') :
    CompOk K I H M n item i σ tYes te Q Inv (fun k b I' H' ds => b = true ∧ Inv k I' H' ds) where
  sub := sub
  hM := hM
  small := small
  i0 := i0
  stab := stab
  test := fun k I1 H1 ds R _ f h q => q true I1 H1 (Lf.refl f.sub) ⟨rfl, h⟩
  elt := fun k I2 H2 ds R hk f h q => elt k I2 H2 ds R hk f h.2 q
  skip := fun k I2 H2 ds _ h => nomatch h.1
  fin := fin
theorem CompOk.pure (D : Nat → PyData) (sub : Same I H) (hM : ∀ b, M b → H b ≠ none) (small : n < sizeLine)
    (elt : ∀ k I2 H2 (R : VK), k < n → Lf M I H I2 H2 → (∀ v I3 H3, Lf M I2 H2 I3 H3 → Dp K I3 v (D k) → R v H3) → te (σ.set i (some (item k))) H2 R)
    (fin : ∀ I' H' E vs, Lf M I H I' H' → H E = none → I' E = none → H' E = some (.lst vs) → DpAll K I' vs ((List.range n).map D) → Q (.ref E) H') :
    CompOk K I H M n item i σ tYes te Q (fun k _ _ ds => ds = (List.range k).map D) (fun k b _ _ ds => b = true ∧ ds = (List.range k).map D) :=
  CompOk.map sub hM small rfl (fun _ _ _ _ _ _ _ _ h => h)
    (fun k I2 H2 ds R hk f h q => elt k I2 H2 R hk f fun v I3 H3 f3 d => q v (D k) I3 H3 f3 d (by rw [h, List.range_succ, List.map_append]; rfl))
    (fun I' H' E vs ds f e1 e2 e3 d h => fin I' H' E vs f e1 e2 e3 (h ▸ d))
theorem CompOk.filt (T : Nat → Bool) (D : Nat → PyData) (sub : Same I H) (hM : ∀ b, M b → H b ≠ none) (small : n < sizeLine)
    (test : ∀ k I1 H1 (R : Bool → Hp → Prop), k < n → Lf M I H I1 H1 → (∀ b I2 H2, b = T k → Lf M I1 H1 I2 H2 → R b H2) → tt (σ.set i (some (item k))) H1 R)
    (elt : ∀ k I2 H2 (R : VK), k < n → T k = true → Lf M I H I2 H2 → (∀ v I3 H3, Lf M I2 H2 I3 H3 → Dp K I3 v (D k) → R v H3) → te (σ.set i (some (item k))) H2 R)
    (fin : ∀ I' H' E vs, Lf M I H I' H' → H E = none → I' E = none → H' E = some (.lst vs) → DpAll K I' vs (((List.range n).filter T).map D) → Q (.ref E) H') :
    CompOk K I H M n item i σ tt te Q (fun k _ _ ds => ds = ((List.range k).filter T).map D) (fun k b _ _ ds => b = T k ∧ ds = ((List.range k).filter T).map D) where
  sub := sub
  hM := hM
  small := small
  i0 := rfl
  stab := fun _ _ _ _ _ _ _ _ h => h
  test := fun k I1 H1 ds R hk f h q => test k I1 H1 R hk f fun b I2 H2 e f2 => q b I2 H2 f2 ⟨e, h⟩
  elt := fun k I2 H2 ds R hk f h q => elt k I2 H2 R hk h.1.symm f fun v I3 H3 f3 d => q v (D k) I3 H3 f3 d (by
    rw [h.2, List.range_succ, List.filter_append, List.map_append, List.filter_cons_of_pos h.1.symm]; rfl)
  skip := fun k I2 H2 ds _ h => by
    rw [h.2, List.range_succ, List.filter_append, List.filter_cons_of_neg (by rw [← h.1]; simp)]; simp
  fin := fun I' H' E vs ds f e1 e2 e3 d h => fin I' H' E vs f e1 e2 e3 (h ▸ d)
end
section
variable {K : PySem.W.Frag} {H : Hp} {Q : VK} {p : Addr} {ns : List Int}
theorem seqIndex_nat {i n : Nat} (h : i < n) : seqIndex? (i : Int) n = some i := by
  have h' : ¬ (i : Int) < 0 := by omega
  unfold seqIndex?
  simp [h', h]
theorem erase_map {α β : Type} (f : α → β) : ∀ (l : List α) (j : Nat), (l.map f).eraseIdx j = (l.eraseIdx j).map f
  | [], _ => rfl
  | _ :: _, 0 => rfl
  | x :: l, j + 1 => by
    show f x :: (l.map f).eraseIdx j = f x :: (l.eraseIdx j).map f
    rw [erase_map f l j]
/-- left.pop(r) -/
theorem w_popInts {r : Int} (e : H p = some (.lst (ns.map V.int))) (h0 : 0 ≤ r) (h1 : r < ns.length) (l : ns.length < sizeLine)
    (q : ∀ (z : Int), ns[r.toNat]? = some z → Q (.int z) (upd H p (.lst ((ns.eraseIdx r.toNat).map V.int)))) :
    tyV K "list" (.ref p) H ∧ rPopAt (.ref p) [.int r] H Q := by
  obtain ⟨j, rfl⟩ : ∃ j : Nat, r = (j : Int) := ⟨r.toNat, by omega⟩
  have hj : j < ns.length := by omega
  rw [Int.toNat_natCast] at q
  have s : sizeLine ≤ 2 ^ 62 := by decide
  refine ⟨.inl ⟨rfl, _, ofL e⟩, p, ns.map V.int, (j : Int), j, .int ns[j], rfl, rfl, e, by omega, by omega, ?_, by simp [hj], ?_⟩
  · rw [List.length_map]; exact seqIndex_nat hj
  · have z := q ns[j] (by simp [hj])
    rw [erase_map]
    exact z
/-- t.index(n) of a tuple of distinct ints -/
theorem w_indexZ {n : Int} {j : Nat} (h : TupZ H p (ns.map V.int)) (e : ns[j]? = some n) (hno : ∀ m, m < j → ns[m]? ≠ some n) (q : Q (.int (j : Nat)) H) :
    (∃ a xs, V.ref p = .ref a ∧ TupZ H a xs) ∧ rIndexT K (.ref p) [.int n] H Q := by
  refine ⟨⟨p, _, rfl, h⟩, p, ns.map V.int, .int n, j, .int n, rfl, rfl, TupZ.sq h, rfl, flat_ints ns, by rw [List.getElem?_map, e]; rfl, beq_self_eq_true n, fun m z hm hz => ?_, q⟩
  rw [List.getElem?_map] at hz
  cases e2 : ns[m]? with
  | none => rw [e2] at hz; cases hz
  | some k =>
    rw [e2] at hz
    cases hz
    show (k == n) = false
    rw [beq_eq_false_iff_ne]
    intro e3
    exact hno m hm (e3 ▸ e2)
theorem map_range_get {α : Type} (f : Int → α) (ks : List Int) (g : Nat → Int) (hg : ∀ k, (h : k < ks.length) → g k = ks[k]) : (List.range ks.length).map (fun k => f (g k)) = ks.map f := by
  refine List.ext_getElem (by simp) fun i h1 h2 => ?_
  simp only [List.length_map, List.length_range] at h1
  simp [hg i h1]
end
section
variable {K : PySem.W.Frag} {I H : Hp} {p : Addr} {xs : List V} {g : TG} {tb : TS} {D : Ends} {σ : L2.St} {te : TE}
theorem w_forS (h : SqL K I p xs ∨ SqT K I p xs) (Pv : Nat → L2.St → Hp → Prop) (he : ∀ Q : VK, Q (.ref p) H → te σ H Q) (h0 : Pv 0 σ H)
    (hG : ∀ i σ H', i ≤ xs.length → Pv i σ H' → Same I H')
    (hs : ∀ i x σ H', xs[i]? = some x → Pv i σ H' → g x σ H' fun σ2 H2 => tb { D with nx := Pv (i + 1), ct := Pv (i + 1), bk := D.nx } σ2 H2)
    (hd : ∀ σ H', Pv xs.length σ H' → D.nx σ H') : tFor (iSeq K te) g tb D σ H := by
  have s := hG 0 σ H (Nat.zero_le _) h0
  rcases h with h | h
  · exact w_forL (s.seq h) Pv he h0 (fun i σ H' hi q => (hG i σ H' hi q).seq h) hs hd
  · exact w_forT (Same.seqT s h) Pv he h0 (fun i σ H' hi q => Same.seqT (hG i σ H' hi q) h) hs hd
end
section
variable {K : PySem.W.Frag} {H : Hp} {p : Addr} {xs : List V} {v : V}
theorem w_tyL {B : Prop} (h : H p = some (.lst xs)) (q : B) : tyV K "list" (.ref p) H ∧ B := ⟨.inl ⟨rfl, xs, ofL h⟩, q⟩
theorem w_append' {Q : VK} (h : H p = some (.lst xs)) (l : xs.length < sizeLine) (q : Q .non (upd H p (.lst (xs ++ [v])))) : rAppend (.ref p) [v] H Q := ⟨p, xs, v, rfl, rfl, h, l, q⟩
end
section
variable {K : PySem.W.Frag} {I H : Hp} {hd p : Addr} {o : HO}
theorem Hand.upd (h : Hand K I H hd) (n : I p = none) (ne : hd ≠ p) : Hand K I (upd H p o) hd := by
  obtain ⟨s, i, c, cells, pp, cur, tot, e, r⟩ := h
  exact ⟨Same.updI s n, i, c, cells, pp, cur, tot, by rw [upd_ne ne]; exact e, r⟩
theorem Hand.neOf (h : Hand K I H hd) (e : H p = none) : hd ≠ p := fun z => h.ne (z ▸ e)
end
theorem FnOk.none {P : Program} {w : World} {K : PySem.W.Frag} {mg : Str → Option Value} {base : Heap} {CX : CXT} {k : Nat} {f : Addr} {fd : FuncData} {ps : List Str} :
    FnOk P w K mg base CX k f fd ps (fun _ _ _ _ => False) := ⟨fun _ _ _ _ h => h.elim, fun _ _ _ _ _ _ _ _ _ _ _ _ _ h => h.elim⟩
section
variable {K : PySem.W.Frag} {I H : Hp} {p : Addr} {xs : List V} {g : TG} {tb : TS} {D : Ends} {σ : L2.St} {te : TE}
/-- enumerate of what stays, the rest of the heap may change -/
theorem w_forEnumI (h : SqL K I p xs ∨ SqT K I p xs) (Pv : Nat → L2.St → Hp → Prop) (he : ∀ Q : VK, Q (.ref p) H → te σ H Q) (h0 : Pv 0 σ H)
    (hG : ∀ i σ H', i ≤ xs.length → Pv i σ H' → Same I H')
    (hs : ∀ i x T σ H', xs[i]? = some x → Pv i σ H' → H' T = none →
      g (.ref T) σ (upd H' T (.tup [.int (i : Nat), x])) fun σ2 H2 => tb { D with nx := Pv (i + 1), ct := Pv (i + 1), bk := D.nx } σ2 H2)
    (hd : ∀ σ H', Pv xs.length σ H' → D.nx σ H') : tFor (iEnumS K (tCons te tNil)) g tb D σ H := by
  have turn : ∀ i x σ H1 H', i < xs.length → Pv i σ H1 → YPair (fun i => some (.int (i : Nat))) (fun i => xs[i]?) i H1 x H' →
      g x σ H' fun σ2 H2 => tb { D with nx := Pv (i + 1), ct := Pv (i + 1), bk := D.nx } σ2 H2 := by
    intro i x σ H1 H' _ p1 y
    obtain ⟨T, u, v, rfl, hT, rfl, e1, e2⟩ := y
    cases e1
    exact hs i v T σ H1 e2 p1 hT
  have s := hG 0 σ H (Nat.zero_le _) h0
  cases h with
  | inl h => exact .inl (he _ ⟨p, xs, rfl, s.seq h, for_it walk_enum Pv h0 (fun i σ H' hi q => (hG i σ H' hi q).seq h) turn hd⟩)
  | inr h => exact .inr (he _ ⟨p, xs, rfl, Same.seqT s h, for_it walk_enumT Pv h0 (fun i σ H' hi q => Same.seqT (hG i σ H' hi q) h) turn hd⟩)
end
section
variable {H : Hp} {σ : L2.St} {te : TE} {ti : TIp} {i : Nat} {v : V} {D : Ends} {Q : VK}
theorem w_aug (e : σ[i]? = some (some v)) (q : te σ H fun y H1 => ti v y H1 fun z H2 => D.nx (σ.set i (some z)) H2) : tAug i te ti D σ H := ⟨v, e, q⟩
theorem w_ipI {f : Int → Int → Int} {m n : Int} (q : Q (.int (f m n)) H) : ipI f (.int m) (.int n) H Q := ⟨m, n, rfl, rfl, q⟩
end
section
variable {p : Prop} [Decidable p] {A B : Prop}
theorem w_ifT (h : p) (q : A) : if decide p = true then A else B := by rw [if_pos (decide_eq_true h)]; exact q
theorem w_ifF (h : ¬ p) (q : B) : if decide p = true then A else B := by rw [if_neg (by simpa using h)]; exact q
theorem w_ifnT (h : ¬ p) (q : A) : if (!decide p) = true then A else B := by rw [if_pos (by simpa using h)]; exact q
theorem w_ifnF (h : p) (q : B) : if (!decide p) = true then A else B := by rw [if_neg (by simpa using h)]; exact q
end
/-- data of plain kinds, nested less than n deep -/
def plainD : Nat → PyData → Prop
  | 0, _ => False
  | n + 1, .tuple ds => ds.length ≤ 1000 ∧ ∀ d ∈ ds, plainD n d
  | _ + 1, .list _ => False
  | _ + 1, .dict _ => False
  | _ + 1, .str x => SeqAt.shaped (.str x) = true
  | _ + 1, _ => True
section
variable {K : PySem.W.Frag} {H : Hp} {σ : L2.St} {Q : VK}
theorem w_callS {sp : Sp} {E : L2.St → XK} {t : TA} (q : t σ H fun vs H1 => sp vs H1 Q (E σ)) : tCallS sp E t σ H Q := q
variable {Wout : WX} {D : Ends} {cls c : Value} {d : Option Addr} {i : Nat} {ts : Addr → Value → Option Addr → TS} {r : List Cl}
theorem w_hit (e : PySem.W.exmOne K cls c = some true) (q : ∀ a, H a = none → ts a cls d { nx := fun σ' H' => D.nx (σ'.set i none) H', rt := D.rt, bk := fun σ' H' => D.bk (σ'.set i none) H', ct := fun σ' H' => D.ct (σ'.set i none) H' } (σ.set i (some (.ref a))) H) :
    wMas K Wout D (⟨c, some i, ts⟩ :: r) cls d σ H := ⟨true, e, fun _ => q, fun h => nomatch h⟩
theorem w_miss (e : PySem.W.exmOne K cls c = some false) (q : wMas K Wout D r cls d σ H) : wMas K Wout D (⟨c, some i, ts⟩ :: r) cls d σ H := ⟨false, e, (fun h => nomatch h), fun _ => q⟩
theorem w_hit0 (e : PySem.W.exmOne K cls c = some true) (q : ∀ a, H a = none → ts a cls d D σ H) : wMas K Wout D (⟨c, none, ts⟩ :: r) cls d σ H := ⟨true, e, fun _ => q, fun h => nomatch h⟩
theorem w_miss0 (e : PySem.W.exmOne K cls c = some false) (q : wMas K Wout D r cls d σ H) : wMas K Wout D (⟨c, none, ts⟩ :: r) cls d σ H := ⟨false, e, (fun h => nomatch h), fun _ => q⟩
theorem w_xf1 {a C dd : Addr} {f : Str} {v : V} (h : H dd = some (.xd [(f, v)])) (q : Q v H) (e : σ[i]? = some (some (.ref a))) : tXf a (.ref C) (some dd) C f (tVar i) σ H Q :=
  ⟨.ref a, e, rfl, rfl, dd, [(f, v)], v, rfl, h, by simp [List.lookup], q⟩
end
section
variable {K : PySem.W.Frag} {I H : Hp} {xs : List V} {R : Addr → Prop}
/-- a new list, a new tuple that stays, its items known -/
theorem w_putL (S : Same I H) (l : xs.length ≤ sizeLine) (q : ∀ I' p, Lf No I H I' (upd H p (.lst xs)) → SqL K I' p xs → R p) : xs.length ≤ sizeLine ∧ ∀ p, H p = none → R p :=
  ⟨l, fun p hp => q (upd I p (.lst xs)) p (Lf.put S hp) (ofL upd_same)⟩
theorem w_putT (S : Same I H) (l : xs.length ≤ sizeLine) (q : ∀ I' p, Lf No I H I' (upd H p (.tup xs)) → SqT K I' p xs → R p) : xs.length ≤ sizeLine ∧ ∀ p, H p = none → R p :=
  ⟨l, fun p hp => q (upd I p (.tup xs)) p (Lf.put S hp) (ofT upd_same)⟩
end
theorem plain_told {s : Str} {ns : List Int} (hs : SeqAt.shaped (.str s) = true) (l : ns.length ≤ 1000) : plainD 5 (.tuple [.str s, .tuple (ns.map .int)]) := by
  refine ⟨by show 2 ≤ 1000; decide, fun d hd => ?_⟩
  rcases List.mem_cons.mp hd with rfl | hd
  · exact hs
  · rcases List.mem_cons.mp hd with rfl | hd
    · refine ⟨by rw [List.length_map]; exact l, fun d hd => ?_⟩
      obtain ⟨n, _, rfl⟩ := List.mem_map.mp hd
      exact True.intro
    · cases hd
theorem plain_pair {s : Str} {n : Int} (hs : SeqAt.shaped (.str s) = true) : plainD 5 (.tuple [.str s, .int n]) := by
  refine ⟨by show 2 ≤ 1000; decide, fun d hd => ?_⟩
  rcases List.mem_cons.mp hd with rfl | hd
  · exact hs
  · rcases List.mem_cons.mp hd with rfl | hd
    · exact True.intro
    · cases hd
end L3
/-! isinstance of a caught error of an own class that has fields. -/
namespace L3
open PySem PySem.Spec PySem.Calls PyProof.Rows L2 PySem.W
section
variable {prog : Program} {w : World} {A : Around} {E : Value → Shared → Prop} {K : Frag} {e D : Addr} {oe : Obj} {od : Option Obj}
theorem dataFound {C : Addr} {n : Str} {at' g : Value} (c : (clsIn K C).isSome = true) (f : findIn K (.ref C) n = some (some at')) (sp : specialIn K at' "__get__" = some (some g)) (tk : takesIn K at' = some true) :
    findObj K C od n = some (.bind g at') := by
  obtain ⟨cd, c⟩ := Option.isSome_iff_exists.mp c
  unfold findObj
  rw [c, Option.bind_some, f, Option.bind_some]
  simp [sp, tk]
theorem clsOfErr {Q : Option Value → Shared → Prop} {s : Shared} (C : ExcC K D) (X : K.In s.heap) (J : InstAt s.heap e oe D od) (q : Q (some (.ref D)) { s with toks := s.toks + 1 }) :
    wpAny (model prog w) A (getAttr? (.ref e) "__class__") Q E s := by
  have found : findObj K D od "__class__" = some (.bind (.builtin "getset_descriptor.__get__") (.builtin "object.__class__")) := dataFound (by obtain ⟨cd, hc, _⟩ := any_some C.hd; rw [hc]; rfl) C.ha C.hn C.ht
  obtain ⟨hp, gn, dr, tk, os⟩ := s
  have M0 := J.type (M := model prog w)
  have M1 := looks_findIn (M := model prog w) X C.hg
  have M2 := looks_findIn (M := model prog w) X C.hk
  have M3 := looks_find (M := model prog w) X J found
  have isExc : Looks (model prog w) hp (isInstance (.ref e) (.type "BaseException")) true := M0.andThen (looks_subIn X C.hs)
  have y0 : (false && onTheHeap (Value.builtin "BaseException.__getattribute__")) = false := rfl
  have y2 : (Value.builtin "BaseException.__getattribute__" == Value.builtin "object.__getattribute__") = false := by decide +kernel
  have y1 : (onTheHeap (Value.ref D) && Value.builtin "BaseException.__getattribute__" == Value.builtin "object.__getattribute__") = false := by rw [y2]; rfl
  unfold getAttr? getAttrBy? getAttrBy
  refine wpAny_bind (wpAny_mkText (wpAny_bind (wpAny_attempt (wpAny_holding (wpAny_bind (M0.at (wpAny_bind (M1.at ?_))))))))
  show wpAny _ _ (if (onTheHeap (Value.ref D) && Value.builtin "BaseException.__getattribute__" == Value.builtin "object.__getattribute__") = true then _ else _) _ _ _
  rw [y1, if_neg Bool.false_ne_true]
  unfold getAttrByItsOwn hookBefore
  refine wpAny_bind ?_
  rw [if_pos (show onTheHeap (Value.ref D) = true from rfl)]
  refine M2.at ?_
  refine wpAny_bind (wpAny_attempt (wpAny_holding ?_))
  unfold callGetattribute
  rw [y0, if_neg Bool.false_ne_true]
  unfold boundAndCalled
  rw [PySem.F.excAttr_ValueError.ga.bind (.ref e)]
  refine wpAny_bind (wpAny_pure ?_)
  show wpAny _ _ (call (.builtin "BaseException.__getattribute__") [.ref e, .str "__class__" tk]) _ _ _
  refine wpAny_call (codeAny_call_builtin PySem.F.excAttr_ValueError.ga.plain PySem.F.entry_bexc_ga ?_)
  refine @check_slot (model prog w) _ _ ⟨hp, gn, dr, tk + 1, os⟩ "BaseException.__getattribute__" "BaseException" "__getattribute__" (.ref e) [.str "__class__" tk] [] _ (by decide +kernel) (by decide +kernel) isExc (PySem.F.args_bexc_ga (.ref e) (.str "__class__" tk)) ?_
  unfold Builtin.«object.__getattribute__»
  refine wpAny_bind (wpAny_of_eq (a := ((Value.ref e : Value), [Value.str "__class__" tk])) (by first | rfl | (simp only [slotArgs]; rfl)) ?_)
  refine wpAny_bind (wpAny_pure (wpAny_bind (M0.at (wpAny_bind (M3.at ?_)))))
  show wpAny _ _ (holding [Value.builtin "object.__class__"] (call (.builtin "getset_descriptor.__get__") [.builtin "object.__class__", .ref e, .ref D]) >>= ret) _ _ _
  refine wpAny_bind (wpAny_holding (wpAny_call (class_get (s := ⟨hp, gn, dr, tk + 1, os⟩) (ox := oe) (od := od) X J C.hm ?_)))
  refine wpAny_pure ?_
  show wpAny _ _ (handedOut (.ref D)) _ _ _
  rw [handedOut_of (v := .ref D) rfl]
  first
    | exact wpAny_pure (wpAny_pure q)
    | exact wpAny_pure q
    | exact wpAny_pure (wpAny_bind (wpAny_pure (wpAny_pure q)))
theorem kitErr (C : ExcC K D) : KitX K (.ref e) (.ref D) (fun h => InstAt h e oe D od) where
  ty := fun _ _ _ J => J.type
  it := fun _ _ X _ => by
    obtain ⟨cdD, hcD, _⟩ := any_some C.hd
    unfold clsIn at hcD
    split at hcD
    · rename_i c' d' cd' sl' ho
      intro A' Q' E' s' k q
      unfold isType loadHead
      exact wpAny_bind (wpAny_loadPart (k _ _ (X _ _ ho)) (wpAny_pure q))
    · cases hcD
  ne := fun h tp dd its n sl X htp => by
    obtain ⟨cdD, hcD, _⟩ := any_some C.hd
    refine Bool.eq_false_iff.mpr fun q => ?_
    have z : D = tp := Value.ref.inj (beq_iff_eq.mp q)
    subst z
    unfold clsIn at hcD
    split at hcD
    · rename_i c' d' cd' sl' ho
      cases (X _ _ ho).symm.trans htp
    · cases hcD
  ca := fun X J k => clsOfErr C X J k
end
/-- isinstance(e, c), e the exception that the suite holds, of the class D, with the fields at d -/
def rIsF (K : PySem.W.Frag) (D a : Addr) (cls : Value) (d : Option Addr) : List V → Hp → VK → Prop := fun xs H Q =>
  cls = .ref D ∧ (∃ dd fs, d = some dd ∧ H dd = some (.xd fs)) ∧ ∃ (c : V) (cv : Value) (b : Bool), xs = [.ref a, c] ∧ (∀ u, RelV c u → u = cv) ∧ PySem.W.kitOne K (.ref D) cv = some b ∧ Q (.bl b) H
theorem call_isF {X : Cx} {a D : Addr} {cls : Value} {d : Option Addr} {oe : Obj} {pn : List (Addr × Obj)} (C : ExcC X.K D) (hz : Zc cls d oe) (hf : ∃ vs, oe.data = .fields vs) :
    CallR (X.suite a ((a, oe) :: pn)) (.builtin "isinstance") (rIsF X.K D a cls d) := by
  intro pins s σ H xs us Q I r h
  obtain ⟨rfl, ⟨dd, fs, rfl, hdd⟩, c, cv, b, rfl, hcv, e, q⟩ := h
  cases r with
  | cons rx rr =>
    cases rr with
    | cons rt rr =>
      cases rr
      cases rx
      have ec := hcv _ rt
      subst ec
      obtain ⟨hget, _⟩ := I.pin (a, oe) (List.mem_append.mpr (.inl List.mem_cons_self))
      obtain ⟨vs, hv⟩ := hf
      have hx : ObjOk X.prog X.w H s.heap dd (.xd fs) := I.hok dd _ hdd
      obtain ⟨mA, hns, hr⟩ := hx
      obtain ⟨od, ho, hl⟩ := lookIn_ns hns
      have J : PySem.W.InstAt s.heap a oe D (some od) := ⟨hget, hz.1, by unfold PySem.W.notCls; rw [hv] <;> rfl, by rw [hz.2]; exact ho⟩
      exact PySem.W.kia_one (kitErr C) I.kIn J e (fun z => nomatch z) fun tk => ⟨.bl b, H, I.kept (t' := tk) fun _ _ z => z, rfl, q⟩
theorem w_isF {K : PySem.W.Frag} {D C a dd : Addr} {f : Str} {v : V} {b : Bool} {H : Hp} {Q : VK} (hd : H dd = some (.xd [(f, v)])) (e : PySem.W.kitOne K (.ref D) (.ref C) = some b) (q : Q (.bl b) H) :
    rIsF K D a (.ref D) (some dd) [.ref a, .ref C] H Q := ⟨rfl, ⟨dd, _, rfl, hd⟩, .ref C, .ref C, b, rfl, fun u r => r, e, q⟩
section
variable {K : PySem.W.Frag} {I H : Hp} {hd p : Addr} {o : HO} {Q : VK} {σ : L2.St} {te0 te : TE} {tt : TT} {g : TG} {vs : List Nat} {tb : TS} {D : Ends}
theorem handFreeze (h : Hand K I H hd) (e : H p = some o) (n : I p = none) (ne : hd ≠ p) : Hand K (upd I p o) H hd := by
  obtain ⟨s, i, c, cells, pp, cur, tot, e2, hc, r⟩ := h
  have up : Same I (upd I p o) := fun b z q => by rw [upd_ne (fun h => by rw [h, n] at q; cases q)]; exact q
  refine ⟨fun b z q => ?_, by rw [upd_ne ne]; exact i, c, cells, pp, cur, tot, e2, up.seq hc, r⟩
  by_cases hb : b = p
  · subst hb
    rw [upd_same] at q
    rw [← q]
    exact e
  · rw [upd_ne hb] at q
    exact s b z q
/-- the count of turns is worked out first -/
theorem w_lcIter (q : te0 σ H fun x H1 => tLc (iRng1 (tCons (tC x) tNil)) g tt te vs σ H1 Q) : tLc (iRng1 (tCons te0 tNil)) g tt te vs σ H Q := q
theorem w_forIter (q : te0 σ H fun x H1 => tFor (iRng1 (tCons (tC x) tNil)) g tb D σ H1) : tFor (iRng1 (tCons te0 tNil)) g tb D σ H := q
end
theorem plain_tup {ns : List Int} (l : ns.length ≤ 1000) : plainD 5 (.tuple (ns.map .int)) := by
  refine ⟨by rw [List.length_map]; exact l, fun d hd => ?_⟩
  obtain ⟨n, _, rfl⟩ := List.mem_map.mp hd
  exact True.intro
/-- the first of a list, or None -/
def headD {α : Type} (f : α → PyData) : Option α → PyData
  | none => .none
  | some x => f x
section
variable {K : PySem.W.Frag} {I H : Hp} {b : Addr} {Q : VK} {σ : L2.St} {xs : List V} {i : Nat}
theorem w_firstOf {α : Type} {f : α → PyData} {L : List α} (e : σ[i]? = some (some (.ref b))) (h : H b = some (.lst xs)) (S : Same I H) (aX : DpAll K I xs (L.map f)) (q : ∀ x, Dp K I x (headD f L.head?) → Q x H) :
    ∃ k, TruV K (.ref b) H k ∧ (fun c H1 => if c = true then tOp (rIx K) (tVar i) (tC (.int 0)) σ H1 Q else tC .non σ H1 Q) k H := by
  cases L with
  | nil =>
    cases aX
    exact ⟨false, .inl ⟨[], ofL h, rfl⟩, q .non .non⟩
  | cons x L =>
    cases aX with
    | cons h1 h2 => exact ⟨true, .inl ⟨_, ofL h, rfl⟩, w_op (w_var e (w_c (w_ixL (ofL h) (atI_of (by decide) rfl) (q _ h1))))⟩
end
theorem kit_ownTy {K : PySem.W.Frag} {C : Addr} {T : String} {b : Bool} (m : PySem.W.kitMeta T = true) (s : PySem.W.subIn K (.ref C) (.type T) = some b) : PySem.W.kitOne K (.ref C) (.type T) = some b := by
  unfold PySem.W.kitOne
  rw [if_neg (show ¬ ((Value.ref C == Value.type T) = true) from fun h => by cases h)]
  show (if PySem.W.kitMeta T = true then PySem.W.subIn K (.ref C) (.type T) else none) = some b
  rw [if_pos m]
  exact s
theorem w_isFty {K : PySem.W.Frag} {D a dd : Addr} {T : String} {f : Str} {v : V} {b : Bool} {H : Hp} {Q : VK} (hd : H dd = some (.xd [(f, v)])) (e : PySem.W.kitOne K (.ref D) (.type T) = some b) (q : Q (.bl b) H) :
    rIsF K D a (.ref D) (some dd) [.ref a, .ty T] H Q := ⟨rfl, ⟨dd, _, rfl, hd⟩, .ty T, .type T, b, rfl, fun u r => r, e, q⟩
end L3
/-! for loops within a generator's body. -/
namespace L3
open PySem PySem.Spec PySem.Calls PyProof.Rows L2
section
variable {prog : Program} {w : World} {A : Around} {R : GenEnd} {Y : Protocol} {n : Nat} {s₀ : Shared} {c : Code} {fs : List Frame} {s : Shared} {env : Env}
  {K : Flow → Sem PySem.Fin} {J : Value → Sem PySem.Fin} {gd : Bool → Bool} {lv : List Value → List Value}
theorem seg_For {tg iter : Expr} {body : List Stmt} {pos : Pos} {M : Model} (hs : ∀ x, foldedSetIterable iter env x = pure x)
    (h : wpAny M (A.over c fs) (eval iter env) (fun x s1 => wpAny M (A.over c fs) (pyIter x) (fun it s2 =>
      ∀ p, Seg M A R Y n s₀ (.forLoop tg it body [] env) (M.den (.forLoop tg it body [] env))
        (.ret (fun r => ((match r with | .ok f => (.pure f : Sem Flow) | .error e => .raise e).onRaise (cameBack env)).wrap K J gd lv) none (gd false) (lv []) c p [] :: fs) s2)
      (fun e s' => Seg M A R Y n s₀ c (J e) fs s') s1) (fun e s' => Seg M A R Y n s₀ c (J e) fs s') s) :
    Seg M A R Y n s₀ c ((exec (.For tg iter body [] pos) env).wrap K J gd lv) fs s := by
  rw [exec_For]
  refine seg_at ?_
  show Seg M A R Y n s₀ c ((eval iter env >>= fun x0 => do
    let x ← foldedSetIterable iter env x0
    standAt iter.pos
    runOwn (.forLoop tg (← holding [x] (pyIter x)) body [] env) env).wrap K J gd lv) fs s
  refine seg_bind_wrap (wpAny_mono h (fun x s1 h1 => ?_) fun _ _ z => z)
  rw [hs x]
  refine seg_at ?_
  show Seg M A R Y n s₀ c ((holding [x] (pyIter x) >>= fun it => runOwn (.forLoop tg it body [] env) env).wrap K J gd lv) fs s1
  refine seg_bind_wrap (wpAny_holding (wpAny_mono h1 (fun it s2 h2 => ?_) fun _ _ z => z))
  exact seg_call h2
theorem seg_forLoop {tg : Expr} {it : Value} {body : List Stmt}
    (h : wpAny (model prog w) (A.over (.forLoop tg it body [] env) fs) (pyNext it) (fun r s1 => match r with
        | none => Seg (model prog w) A R Y n s₀ (.forLoop tg it body [] env) (.pure (.again (.block [] env))) fs s1
        | some v => wpAny (model prog w) (A.over (.forLoop tg it body [] env) fs) (letOwnedTupleGo tg it v) (fun _ s2 =>
            wpAny (model prog w) (A.over (.forLoop tg it body [] env) fs) (assign tg env v) (fun _ s3 =>
              Seg (model prog w) A R Y n s₀ (.forLoop tg it body [] env) ((execs body env).wrap (fun f => match f with
                | .next | .cont => .pure (.again (.forLoop tg it body [] env))
                | .brk => .pure (.done .next)
                | .ret v => .pure (.done (.ret v))) (fun e => (do noteFrame e env; theTreesLotGoes e : Sem Unit).wrap (fun _ => .raise e) .raise id id) id id) fs s3)
            (fun x s' => Seg (model prog w) A R Y n s₀ (.forLoop tg it body [] env) ((do noteFrame x env; theTreesLotGoes x : Sem Unit).wrap (fun _ => .raise x) .raise id id) fs s') s2)
            (fun x s' => Seg (model prog w) A R Y n s₀ (.forLoop tg it body [] env) ((do noteFrame x env; theTreesLotGoes x : Sem Unit).wrap (fun _ => .raise x) .raise id id) fs s') s1)
      (fun x s' => Seg (model prog w) A R Y n s₀ (.forLoop tg it body [] env) ((do noteFrame x env; theTreesLotGoes x : Sem Unit).wrap (fun _ => .raise x) .raise id id) fs s') s) :
    Seg (model prog w) A R Y n s₀ (.forLoop tg it body [] env) ((model prog w).den (.forLoop tg it body [] env)) fs s := by
  have hx : ∀ e : Value, ((do noteFrame e env; theTreesLotGoes e : Sem Unit).bind fun _ => (.raise e : Sem PySem.Fin)) = (do noteFrame e env; theTreesLotGoes e : Sem Unit).wrap (fun _ => .raise e) .raise id id := fun e => Sem.bind_eq_wrap _ _
  show Seg _ A R Y n s₀ _ ((forTurn tg it body [] env).onRaise (fun x => do noteFrame x env; theTreesLotGoes x)) fs s
  unfold forTurn
  rw [Sem.onRaise_eq_wrap]
  refine seg_at ?_
  show Seg (model prog w) A R Y n s₀ (.forLoop tg it body [] env) ((((pyNext it).onRaise fun _ => standAt { tg.pos with line := 0 }) >>= fun r => (match r with
      | none => again (.block [] env)
      | some v => do
        letOwnedTupleGo tg it v
        assign tg env v
        match ← execs body env with
        | .next | .cont => again (.forLoop tg it body [] env)
        | .brk => pure (.done .next)
        | .ret v => pure (.done (.ret v)) : Sem PySem.Fin)).wrap Sem.pure (fun e => (do noteFrame e env; theTreesLotGoes e : Sem Unit).bind fun _ => .raise e) id id) fs s
  refine seg_bind_wrap (wpAny_onRaise (wpAny_mono h (fun r s1 h1 => ?_) fun x s' z => wpAny_standAt ?_))
  · cases r with
    | none => exact h1
    | some v =>
      refine seg_bind_wrap (wpAny_mono h1 (fun _ s2 h2 => ?_) fun x s' z => ?_)
      · refine seg_bind_wrap (wpAny_mono h2 (fun _ s3 h3 => ?_) fun x s' z => ?_)
        · rw [Sem.bind_eq_wrap', Sem.wrap_wrap]
          exact Eq.mpr (congrArg (fun t => Seg (model prog w) A R Y n s₀ (.forLoop tg it body [] env) t fs s3)
            (Sem.wrap_congr (execs body env) id id (fun f => by cases f <;> rfl) (fun e => hx e))) h3
        · rw [hx]; exact z
      · rw [hx]; exact z
  · rw [hx]; exact z
end
section
variable {X : Cx}
def tGFor (wi : TI) (g : TG) (tb : TGn) : TGn := fun D ys σ H => wi σ H fun J H1 => ∃ W : Nat → Nat → List V → L2.St → Hp → Prop, (∃ m, W 0 m ys σ H1) ∧ ∀ i m ys σ H, W i m ys σ H →
  (J.stop i H ∧ D.nx ys σ H) ∨ (J.go i H ∧ ∃ N : List V → L2.St → Hp → Prop, (∀ ys' σ' H', N ys' σ' H' → ∃ m', m' < m ∧ W (i + 1) m' ys' σ' H') ∧
    ∀ x H', J.yld i H x H' → g x σ H' fun σ2 H2 => tb { D with nx := N, ct := N, bk := D.nx } ys σ2 H2)
theorem gs_for {tg iter : Expr} {body : List Stmt} {pos : Pos} {wi : TI} {g : TG} {tb : TGn} (hp : PassesOwn (model X.prog X.w) X.A X.env X.xe) (hc : X.calm = true) (hi : PI X tg iter wi) (hg : PG X tg g) (hb : GSs X body tb)
    (hs : ∀ x, foldedSetIterable iter X.env x = pure x := by intro _; rfl) : GS X (.For tg iter body [] pos) (tGFor wi g tb) := by
  refine ⟨fun A S ip R n ys s₀ c fs K J gd lv s σ H D gc hn k hI ht => ?_⟩
  obtain ⟨acc, cc, r, I⟩ := hI
  refine seg_For hs ?_
  rw [gc.over]
  have ex0 : ∀ x s', X.xe x s' → Seg (model X.prog X.w) A R (GY X S) n s₀ c (J x) fs s' := fun x s' hx => k.exc n s₀ x s' hx
  refine wpAny_mono (hi.run ((S, lstObj acc cc) :: ip) s σ H _ I ht) (fun v s1 h1 => wpAny_mono h1 (fun itv s2 h2 => ?_) ex0) ex0
  obtain ⟨it, fp, tn, Jt, H2, rfl, I2, T, st2, f2, W, ⟨m0, w0⟩, turn⟩ := h2
  intro p
  have stat : ∀ {acc' : Array Value} {cc' : Nat} {H' : Hp}, (∀ b ∈ fp, H' b = none) → ∀ b ∈ fp, FpOk X ((S, lstObj acc' cc') :: ip) H' b := by
    intro acc' cc' H' hn' b hb'
    obtain ⟨_, q1, q2, q3, q4, q5⟩ := f2 b hb'
    refine ⟨hn' b hb', q1, q2, q3, q4, fun p hp => ?_⟩
    rcases List.mem_append.mp hp with hp | hp
    · exact q5 p (List.mem_append_left _ hp)
    · rcases List.mem_cons.mp hp with rfl | hp
      · exact q5 (S, lstObj acc cc) (List.mem_append_right _ List.mem_cons_self)
      · exact q5 p (List.mem_append_right _ (List.mem_cons_of_mem _ hp))
  have offS : ∀ b ∈ fp, b ≠ S := fun b hb' z => (stat (acc' := acc) (cc' := cc) (fun b hb => (f2 b hb).1) b hb').2.2.2.2.2 (S, lstObj acc cc) (List.mem_append_right _ List.mem_cons_self) z.symm
  have loop : ∀ (m n : Nat) (ys : List V) (s₀ s : Shared) (σ : L2.St) (H : Hp) (i : Nat) (acc : Array Value) (cc : Nat), n + ys.length = sizeLine → W i m ys σ H → Vals ys acc.toList → Inv X ((S, lstObj acc cc) :: ip) σ H s →
      tn i s.heap → (∀ b ∈ fp, H b = none) →
      Seg (model X.prog X.w) A R (GY X S) n s₀ (.forLoop tg (.ref it) body [] X.env) ((model X.prog X.w).den (.forLoop tg (.ref it) body [] X.env))
        (.ret (fun r => ((match r with | .ok f => (.pure f : Sem Flow) | .error e => .raise e).onRaise (cameBack X.env)).wrap K J gd lv) none (gd false) (lv []) c p [] :: fs) s := by
    intro m
    induction m using Nat.strongRecOn with
    | ind m ih =>
      intro n ys s₀ s σ H i acc cc hn w r I st fr
      have gl := fun (kk : Result → Sem PySem.Fin) => gc_loop (k := kk) (c' := .forLoop tg (.ref it) body [] X.env) (l := lv []) (kp := []) (p := p) gc rfl rfl
      have ee : ∀ (n : Nat) (s₀ : Shared) (x : Value) (s' : Shared), X.xe x s' → Seg (model X.prog X.w) A R (GY X S) n s₀ (.forLoop tg (.ref it) body [] X.env)
          ((do noteFrame x X.env; theTreesLotGoes x : Sem Unit).wrap (fun _ => .raise x) .raise id id)
          (.ret (fun r => ((match r with | .ok f => (.pure f : Sem Flow) | .error e => .raise e).onRaise (cameBack X.env)).wrap K J gd lv) none (gd false) (lv []) c p [] :: fs) s' := fun n s₀ x s' hx => by
        refine seg_wrap ?_
        rw [(gl _).over]
        refine wpAny_bind (wpAny_mono (hp x s' hx) (fun _ s'' hcb => wpAny_theTreesLotGoes ?_) fun y s'' hcb => ?_)
        · exact seg_leaf (.error x) (seg_cameBack gc k hcb)
        · exact seg_leaf (.error y) (seg_cameBack gc k hcb)
      refine seg_forLoop ?_
      rw [(gl _).over]
      rcases turn i m ys σ H w with ⟨stop, qn⟩ | ⟨go, N, hN, step⟩
      · refine wpAny_mono (T.done X rfl rfl rfl hc i _ s σ H X.xe I (stat fr) st stop) (fun r1 s4 hr => ?_) fun x s' hx => ee n s₀ x s' hx
        obtain ⟨rfl, I4⟩ := hr
        refine seg_again rfl ?_
        exact seg_leaf (.ok .next) (k.ok n ys s₀ s4 .next hn ⟨σ, H, ⟨acc, cc, r, I4⟩, qn⟩)
      · refine wpAny_mono (T.item X rfl rfl rfl hc i _ s σ H X.xe I (stat fr) st go) (fun r1 s4 hr => ?_) fun x s' hx => ee n s₀ x s' hx
        obtain ⟨u, rfl, h4⟩ := hr
        refine wpAny_mono h4 (fun _ s5 h5 => ?_) fun x s' hx => ee n s₀ x s' hx
        obtain ⟨x, H5, I5, r5, y5, st5, fr5⟩ := h5
        have I5' := I5.pinned (stat fr5) (T.obj _ _ st5)
        refine wpAny_mono (hg.run _ s5 σ H5 x u _ I5' r5 (step x H5 y5)) (fun _ s6 h6 => ?_) fun x s' hx => ee n s₀ x s' hx
        obtain ⟨σ6, H6, I6, q6⟩ := h6
        have gb : GC X S (ip ++ pinsAt fp s5.heap) A (.forLoop tg (.ref it) body [] X.env)
            (.ret (fun r => ((match r with | .ok f => (.pure f : Sem Flow) | .error e => .raise e).onRaise (cameBack X.env)).wrap K J gd lv) none (gd false) (lv []) c p [] :: fs) id :=
          ⟨gc.pn, fun q hq => (List.mem_append.mp hq).elim (gc.ip q) fun z => offS _ (of_pinsAt z).1, gc.apart, (gl _).over, (gl _).split, (gl _).guard, rfl⟩
        have back : ∀ {σ7 : L2.St} {H7 : Hp} {s7 : Shared} {acc7 : Array Value} {cc7 : Nat}, Inv X ((S, lstObj acc7 cc7) :: (ip ++ pinsAt fp s5.heap)) σ7 H7 s7 →
            Inv X ((S, lstObj acc7 cc7) :: ip) σ7 H7 s7 ∧ tn (i + 1) s7.heap ∧ ∀ b ∈ fp, H7 b = none := by
          intro σ7 H7 s7 acc7 cc7 I7
          refine ⟨Inv.unpinned (pins := (S, lstObj acc7 cc7) :: ip) I7, T.keep _ _ _ st5 fun b hb' o e => ?_, fun b hb' => ?_⟩
          · exact (I7.pin (b, o) (List.mem_append_right _ (List.mem_cons_of_mem _ (List.mem_append_right _ (mem_pinsAt hb' e))))).1
          · obtain ⟨o, e, _⟩ := T.obj _ _ st5 b hb'
            exact (I7.pin (b, o) (List.mem_append_right _ (List.mem_cons_of_mem _ (List.mem_append_right _ (mem_pinsAt hb' e))))).2.1
        refine hb.run A S (ip ++ pinsAt fp s5.heap) R n ys s₀ _ _ _ _ id id s6 σ6 H6 { D with nx := N, ct := N, bk := D.nx } gb hn ⟨fun n' ys' s₀' s3 f hn' hf => ?_, fun n' s₀' x s3 hx => ee n' s₀' x s3 hx⟩ ⟨acc, cc, r, I6⟩ q6
        cases f with
        | next =>
          obtain ⟨σ3, H3, ⟨a3, c3, r3, I3⟩, n3⟩ := hf
          obtain ⟨m', hm, w3⟩ := hN ys' σ3 H3 n3
          obtain ⟨b1, b2, b3⟩ := back I3
          exact seg_again rfl (ih m' hm n' ys' s₀' s3 σ3 H3 (i + 1) a3 c3 hn' w3 r3 b1 b2 b3)
        | cont =>
          obtain ⟨σ3, H3, ⟨a3, c3, r3, I3⟩, n3⟩ := hf
          obtain ⟨m', hm, w3⟩ := hN ys' σ3 H3 n3
          obtain ⟨b1, b2, b3⟩ := back I3
          exact seg_again rfl (ih m' hm n' ys' s₀' s3 σ3 H3 (i + 1) a3 c3 hn' w3 r3 b1 b2 b3)
        | brk =>
          obtain ⟨σ3, H3, ⟨a3, c3, r3, I3⟩, n3⟩ := hf
          exact seg_leaf (.ok .next) (k.ok n' ys' s₀' s3 .next hn' ⟨σ3, H3, ⟨a3, c3, r3, (back I3).1⟩, n3⟩)
        | ret v =>
          obtain ⟨v3, σ3, H3, ⟨a3, c3, r3, I3⟩, rv, n3⟩ := hf
          exact seg_leaf (.ok (.ret v)) (k.ok n' ys' s₀' s3 (.ret v) hn' ⟨v3, σ3, H3, ⟨a3, c3, r3, (back I3).1⟩, rv, n3⟩)
  exact loop m0 n ys s₀ s2 σ H2 0 acc cc hn w0 r I2 st2 fun b hb' => (f2 b hb').1
end
/-! ### readings of a generator's body -/
section
variable {D : GEnds} {ys : List V} {σ : L2.St} {H : Hp}
theorem w_gThen {t u : TGn} (q : t { D with nx := fun ys' σ' H' => u D ys' σ' H' } ys σ H) : tGThen t u D ys σ H := q
theorem w_gPlain {t : TS} (q : t (D.at ys) σ H) : tPlain t D ys σ H := q
theorem w_g0 (q : D.nx ys σ H) : tG0 D ys σ H := q
theorem w_gYield {te : TE} (l : ys.length < sizeLine) (q : te σ H fun x H1 => D.nx (ys ++ [x]) σ H1) : tGYield te D ys σ H := ⟨l, q⟩
theorem w_gForIter {te0 : TE} {g : TG} {tb : TGn} (q : te0 σ H fun x H1 => tGFor (iRng1 (tCons (tC x) tNil)) g tb D ys σ H1) : tGFor (iRng1 (tCons te0 tNil)) g tb D ys σ H := q
theorem gfor_it {J : It} {n : Nat} {G : Hp → Prop} {Y : Nat → Hp → V → Hp → Prop} (w : Walk J n G Y) {g : TG} {tb : TGn} (Pv : Nat → List V → L2.St → Hp → Prop) (h0 : Pv 0 ys σ H) (hG : ∀ i ys σ H, i ≤ n → Pv i ys σ H → G H)
    (hs : ∀ i x ys σ H H', i < n → Pv i ys σ H → Y i H x H' → g x σ H' fun σ2 H2 => tb { D with nx := Pv (i + 1), ct := Pv (i + 1), bk := D.nx } ys σ2 H2) (hd : ∀ ys σ H, Pv n ys σ H → D.nx ys σ H) :
    ∃ W : Nat → Nat → List V → L2.St → Hp → Prop, (∃ m, W 0 m ys σ H) ∧ ∀ i m ys σ H, W i m ys σ H →
      (J.stop i H ∧ D.nx ys σ H) ∨ (J.go i H ∧ ∃ N : List V → L2.St → Hp → Prop, (∀ ys' σ' H', N ys' σ' H' → ∃ m', m' < m ∧ W (i + 1) m' ys' σ' H') ∧
        ∀ x H', J.yld i H x H' → g x σ H' fun σ2 H2 => tb { D with nx := N, ct := N, bk := D.nx } ys σ2 H2) := by
  refine ⟨fun i m ys σ H => m = n - i ∧ i ≤ n ∧ Pv i ys σ H, ⟨n, by simp, Nat.zero_le _, h0⟩, ?_⟩
  rintro i m ys σ H ⟨rfl, hi, p⟩
  have z := hG i ys σ H hi p
  by_cases hlt : i < n
  · exact .inr ⟨w.goes i H hlt z, Pv (i + 1), fun ys' σ' H' p' => ⟨n - (i + 1), by omega, rfl, hlt, p'⟩, fun x H' y => hs i x ys σ H H' hlt p (w.yields i H x H' hlt z y)⟩
  · obtain rfl : i = n := by omega
    exact .inl ⟨w.stops H z, hd ys σ H p⟩
theorem w_gForR1 {n : Int} {te : TE} {g : TG} {tb : TGn} (n0 : 0 ≤ n) (n1 : n < 2 ^ 62) (Pv : Nat → List V → L2.St → Hp → Prop) (he : ∀ Q : List V → Hp → Prop, Q [.int n] H → (tCons te tNil) σ H Q) (h0 : Pv 0 ys σ H)
    (hs : ∀ i ys σ H', i < n.toNat → Pv i ys σ H' → g (.int (i : Nat)) σ H' fun σ2 H2 => tb { D with nx := Pv (i + 1), ct := Pv (i + 1), bk := D.nx } ys σ2 H2)
    (hd : ∀ ys σ H', Pv n.toNat ys σ H' → D.nx ys σ H') : tGFor (iRng1 (tCons te tNil)) g tb D ys σ H := by
  unfold tGFor iRng1
  apply he
  refine ⟨n, rfl, by omega, n1, gfor_it (walk_range (lo := 0) (n := n.toNat)) Pv h0 (fun _ _ _ _ _ _ => True.intro) (fun i x ys σ H H' hi p y => ?_) hd⟩
  obtain ⟨rfl, rfl⟩ := y
  dsimp only
  rw [Int.zero_add]
  exact hs i ys σ H' hi p
end
/-! ### a generator def; list(f(e, ..)) of it -/
section
variable {P : Program} {w : World} {K : PySem.W.Frag} {mg : Str → Option Value} {base : Heap}
theorem gok {x qual : Str} {st : Stmt} {f : Addr} {fd : FuncData} {N ps : List Str} {k : Nat} {sp : SpG} (F : Fun K x qual st f fd) (S : GScope N ps (defScope st)) (len : ∀ vs H Q E, sp vs H Q E → vs.length = ps.length)
    (hbody : ∀ (cdv : Value) (A : Around) (outer : List Env) (s : Shared) (H : Hp) (vs : List V) (Q : List V → Hp → Prop) (E : XK) (pn : List (Addr × Obj)), Room k (A.deeper (envOfC qual (defScope st) s.heap.objs.size f cdv)) → sp vs H Q E →
      ∃ t, GSs (gcxOf P w K mg base N qual (defScope st) f cdv A outer s H E pn) (defBody st) t ∧ t { nx := fun ys _ H' => Q ys H', rt := fun ys v H' => v = .non ∧ Q ys H' } [] (start N vs) H) :
    GFn P w K mg base (k + 1) f fd ps sp := by
  obtain ⟨oc, od, kV, doc, pm, an, cdv, ct, osl, rfl, lk, hcd⟩ := F.ex
  exact gfn_of lk hcd S len fun A outer s H vs Q E pn hr hsp => hbody cdv A outer s H vs Q E pn hr hsp
variable {X : Cx} {k : Nat} {f : Addr} {fd : FuncData} {ps : List Str} {sp : SpG} {ds : List Value} {dvs : List V} {x nm : Str} {p p2 pos pos2 : Pos} {e : Expr} {es : List Expr} {t : TA}
/-- what may leave: no StopIteration, and what the caller's wish takes -/
def noStopE (K : PySem.W.Frag) (E : XK) : XK := fun cls d H => PySem.W.subIn K cls (.type "StopIteration") = some false ∧ E cls d H
def tListGS (K : PySem.W.Frag) (sp : SpG) (dvs : List V) (E : L2.St → XK) (t : TA) : TE := fun σ H Q => t σ H fun vs H1 => sp (vs ++ dvs) H1 (fun out H2 => ∀ p, H2 p = none → Q (.ref p) (upd H2 p (.lst out))) (noStopE K (E σ))
theorem pe_listGS {E : L2.St → XK} (F : GFn X.prog X.w X.K X.mg X.base k f fd ps sp) (hr : Room (k + 3) X.A) (hgx : Gl X x) (hmx : X.mg x = some (.ref f)) (hk : PySem.W.keepIn X.K (.ref f) = true) (hb : Binds X.K fd ps ds) (hd : Vals dvs ds)
    (hx : ∀ σ, PassesAt (L2.CX X.prog X.w) X σ (E σ)) (ha : PA X (e :: es) t) (hg : Gl X nm) (hmg : X.mg nm = none) (hv : bootBuiltins nm = some (.type "list")) (hnm : nm ≠ "__name__" := by decide) (hdb : (nm == ("__debug__" : Str)) = false := by decide)
    (hdx : (x == ("__debug__" : Str)) = false := by decide) (hex : starEach (e :: es) X.env = (false, eval e X.env) :: starEach es X.env := by rfl) (hpl : (backTo pos2 (starEach es X.env)).any (·.1) = false := by rfl)
    (he : starEach [.Call (.Name x p2) (e :: es) [] pos2] X.env = (false, eval (.Call (.Name x p2) (e :: es) [] pos2) X.env) :: starEach [] X.env := by rfl) :
    PE X (.Call (.Name nm p) [.Call (.Name x p2) (e :: es) [] pos2] [] pos) (tListGS X.K sp dvs E t) := by
  refine ⟨fun pins s σ H Q I hq => ?_⟩
  have G : PGen X k (.Call (.Name x p2) (e :: es) [] pos2) (tCallG sp dvs (noStopE X.K (E σ)) t) (noStopE X.K (E σ)) := pgen_call F ((hr.mono (by omega))) hgx hmx hk hb hd ha hdx hex hpl
  refine wpAny_Call_Name_kw (ld_blt I hg hmg hv ?_ hnm hdb)
  refine PyProof.Rows.callWith_type1 ?_ he rfl
  rw [he]
  show wpAny _ _ (spliced ((false, eval (.Call (.Name x p2) (e :: es) [] pos2) X.env) :: backTo pos (starEach [] X.env))) _ _ s
  refine Calls.spliced_cons (thn (G.run pins s σ H _ I hq) fun u s1 hh => ?_)
  obtain ⟨H1, sc, ex, I1, hex', hG⟩ := hh
  refine Calls.spliced_nil ?_
  have hsz : sc.heap.objs.size ≤ s1.heap.objs.size := by
    obtain ⟨a, g, c, _, y1, y2, _⟩ := hG
    exact Nat.le_trans y1 (Nat.le_of_lt y2)
  refine call_list_new hr I1.ok.frames hG (fun S s' acc c H' ys q0 q1 q2 hl q3 q4 q5 q6 q7 q8 => ?_) fun e' s' g hc => ?_
  · exact ⟨.ref S, upd H' S (.lst ys), I1.drained (Nat.le_trans hsz q0) hl q1 q2 hex' q3 q4 q5 q6 q7, rfl, q8 S q7⟩
  · have kin : X.K.In s'.heap := by
      obtain ⟨a, B, H', cls, d, _, fl, _, ub, _⟩ := id hc
      refine I1.ok.mod.kin.keeps fun b o eb => fl.1 b o (ub.keep b o (I1.bs b o eb).1 (I1.bs b o eb).2 fun hm => ?_)
      rcases List.mem_cons.mp (I1.stkSub b hm) with z | z
      · have y1 := Heap.lt_size eb
        have y2 := Nat.le_trans I1.ok.bsz I1.ok.above
        rw [z] at y1
        exact absurd (Nat.lt_of_lt_of_le y1 y2) (Nat.lt_irrefl _)
      · exact I1.ok.nofr eb z
    refine ⟨notStop_of (E := noStopE X.K (E σ)) (fun cls d H h => h.1) kin hc, hx σ pins H1 sc e' _ I1 ?_⟩
    obtain ⟨a, B, H', cls, d, z1, fl, z2, ub, z3, z4, z5, z6⟩ := hc
    exact ⟨a, B, H', cls, d, z1, fl, z2, ub, z3, z4, allBare_setGen z5 rfl, z6.2⟩
end
section
variable {tb : TS} {D : Ends} {σ : L2.St} {H : Hp}
/-- one turn of a while: Pv by a measure -/
theorem w_turn {Pv : Nat → L2.St → Hp → Prop} {m : Nat} (q : tb { D with nx := fun σ' H' => ∃ m', m' < m ∧ Pv m' σ' H', ct := fun σ' H' => ∃ m', m' < m ∧ Pv m' σ' H', bk := D.nx } σ H) :
    ∃ N : L2.St → Hp → Prop, (∀ σ' H', N σ' H' → ∃ m', m' < m ∧ Pv m' σ' H') ∧ tb { D with nx := N, ct := N, bk := D.nx } σ H := ⟨_, fun _ _ h => h, q⟩
end
section
variable {X : Cx} {K : PySem.W.Frag} {k : Nat} {f : Addr} {fd : FuncData} {ps : List Str} {sp : SpG} {ds : List Value} {dvs : List V} {x nm : Str} {p p2 pos pos2 : Pos} {e : Expr} {es : List Expr} {t : TA}
theorem pe_listGSK {E : L2.St → XK} (hK : X.K = K) (F : GFn X.prog X.w K X.mg X.base k f fd ps sp) (hr : Room (k + 3) X.A) (hgx : Gl X x) (hmx : X.mg x = some (.ref f)) (hk : PySem.W.keepIn K (.ref f) = true) (hb : Binds K fd ps ds) (hd : Vals dvs ds)
    (hx : ∀ σ, PassesAt (L2.CX X.prog X.w) X σ (E σ)) (ha : PA X (e :: es) t) (hg : Gl X nm) (hmg : X.mg nm = none) (hv : bootBuiltins nm = some (.type "list")) (hnm : nm ≠ "__name__" := by decide) (hdb : (nm == ("__debug__" : Str)) = false := by decide)
    (hdx : (x == ("__debug__" : Str)) = false := by decide) (hex : starEach (e :: es) X.env = (false, eval e X.env) :: starEach es X.env := by rfl) (hpl : (backTo pos2 (starEach es X.env)).any (·.1) = false := by rfl)
    (he : starEach [.Call (.Name x p2) (e :: es) [] pos2] X.env = (false, eval (.Call (.Name x p2) (e :: es) [] pos2) X.env) :: starEach [] X.env := by rfl) :
    PE X (.Call (.Name nm p) [.Call (.Name x p2) (e :: es) [] pos2] [] pos) (tListGS K sp dvs E t) := by
  subst hK
  exact pe_listGS F hr hgx hmx hk hb hd hx ha hg hmg hv hnm hdb hdx hex hpl he
theorem w_listGS {H : Hp} {σ : L2.St} {Q : VK} {E : L2.St → XK} (q : t σ H fun vs H1 => sp (vs ++ dvs) H1 (fun out H2 => ∀ p, H2 p = none → Q (.ref p) (upd H2 p (.lst out))) (noStopE K (E σ))) : tListGS K sp dvs E t σ H Q := q
/-- nothing may leave -/
theorem passAtNo {σ : L2.St} : PassesAt (L2.CX X.prog X.w) X σ ((fun _ => E0 : L2.St → XK) σ) := fun _ _ _ _ _ _ hc => by
  obtain ⟨a, B, H', cls, d, z1, fl, z2, ub, z3, z4, z5, z6⟩ := hc
  exact z6.elim
end
section
variable {K : PySem.W.Frag} {I H : Hp} {M : Addr → Prop} {i : Nat} {σ : L2.St} {tt : TT} {te te0 : TE} {Q : VK} {g : TG} {vs : List Nat} {p : Addr} {xs : List V}
variable {Inv : Nat → Hp → Hp → List PyData → Prop} {Mid : Nat → Bool → Hp → Hp → List PyData → Prop}
theorem w_lcIterL (q : te0 σ H fun x H1 => tLc (iList K (tC x)) g tt te vs σ H1 Q) : tLc (iSeq K te0) g tt te vs σ H Q := .inl q
theorem w_compL0 (h : SqL K I p xs) (nM : ¬ M p) (C : CompOk K I H M xs.length (fun k => xs.getD k .non) i σ tt te Q Inv Mid) : tLc (iList K (tC (.ref p))) (gName i) tt te [i] σ H Q := by
  refine ⟨p, rfl, ⟨xs, C.sub.seq h⟩, fun E hE => comp_core walk_list (fun H' k => ?_) (fun k H x H' hk y => ⟨y.1, ?_⟩) C E hE⟩
  · rcases C.sub.seq h with (h | ⟨o, h⟩) | h
    · exact .inl (.inl (k _ _ nM h))
    · exact .inl (.inr ⟨o, k _ _ nM h⟩)
    · exact .inr h
  · rw [List.getD_eq_getElem?_getD, y.2]; rfl
end
section
variable {K : PySem.W.Frag} {H : Hp} {p : Addr} {xs : List V} {g : TG} {tb : TS} {D : Ends} {σ : L2.St} {te0 : TE}
theorem w_forIterT (q : te0 σ H fun x H1 => tFor (iTup K (tC x)) g tb D σ H1) : tFor (iSeq K te0) g tb D σ H := .inr q
theorem w_forIterL (q : te0 σ H fun x H1 => tFor (iList K (tC x)) g tb D σ H1) : tFor (iSeq K te0) g tb D σ H := .inl q
theorem w_forT0 (h : SqT K H p xs) (Pv : Nat → L2.St → Hp → Prop) (h0 : Pv 0 σ H) (hG : ∀ i σ H', i ≤ xs.length → Pv i σ H' → SqT K H' p xs)
    (hs : ∀ i x σ H', xs[i]? = some x → Pv i σ H' → g x σ H' fun σ2 H2 => tb { D with nx := Pv (i + 1), ct := Pv (i + 1), bk := D.nx } σ2 H2)
    (hd : ∀ σ H', Pv xs.length σ H' → D.nx σ H') : tFor (iTup K (tC (.ref p))) g tb D σ H := ⟨p, rfl, ⟨_, h⟩, for_tup Pv h0 hG hs hd⟩
end
theorem w_callSD {H : Hp} {σ : L2.St} {Q : VK} {sp : Sp} {dvs : List V} {E : L2.St → XK} {t : TA} (q : t σ H fun vs H1 => sp (vs ++ dvs) H1 Q (E σ)) : tCallSD sp dvs E t σ H Q := q
end L3
namespace LW
open PySem PySem.Spec PyProof.Rows L2 L3
def topS (i : Nat) : Stmt := PySem.Challenge.pw_spentframes_k07_whole_rows_counted_and_f.main.body.getD i (.Pass ⟨0, 0, 0, 0⟩)
abbrev s_BadCount_init : Stmt := inClass (topS 2) 0
theorem sc_BadCount_init : FnScope ["self", "most"] ["self", "most"] (defScope s_BadCount_init) := ⟨rfl, rfl, rfl, by decide +kernel, rfl, by decide +kernel, by decide +kernel⟩
abbrev s_BadRow_init : Stmt := inClass (topS 3) 0
theorem sc_BadRow_init : FnScope ["self", "at"] ["self", "at"] (defScope s_BadRow_init) := ⟨rfl, rfl, rfl, by decide +kernel, rfl, by decide +kernel, by decide +kernel⟩
abbrev s_is_whole : Stmt := topS 6
theorem sc_is_whole : FnScope ["thing", "low", "high"] ["thing", "low", "high"] (defScope s_is_whole) := ⟨rfl, rfl, rfl, by decide +kernel, rfl, by decide +kernel, by decide +kernel⟩
abbrev s_is_sequence : Stmt := topS 7
theorem sc_is_sequence : FnScope ["thing"] ["thing"] (defScope s_is_sequence) := ⟨rfl, rfl, rfl, by decide +kernel, rfl, by decide +kernel, by decide +kernel⟩
abbrev s_check_count : Stmt := topS 10
theorem sc_check_count : FnScope ["m", "most"] ["m", "most"] (defScope s_check_count) := ⟨rfl, rfl, rfl, by decide +kernel, rfl, by decide +kernel, by decide +kernel⟩
abbrev s_row_fault : Stmt := topS 11
theorem sc_row_fault : FnScope ["allowed", "row", "at", "frame"] ["allowed", "row"] (defScope s_row_fault) := ⟨rfl, rfl, rfl, by decide +kernel, rfl, by decide +kernel, by decide +kernel⟩
abbrev s_check_row : Stmt := topS 12
theorem sc_check_row : FnScope ["m", "row", "at"] ["m", "row"] (defScope s_check_row) := ⟨rfl, rfl, rfl, by decide +kernel, rfl, by decide +kernel, by decide +kernel⟩
abbrev s_ways_of : Stmt := topS 13
theorem sc_ways_of : FnScope ["m", "d", "many", "step"] ["m", "d"] (defScope s_ways_of) := ⟨rfl, rfl, rfl, by decide +kernel, rfl, by decide +kernel, by decide +kernel⟩
abbrev s_count_falling : Stmt := topS 14
theorem sc_count_falling : FnScope ["m", "d"] ["m", "d"] (defScope s_count_falling) := ⟨rfl, rfl, rfl, by decide +kernel, rfl, by decide +kernel, by decide +kernel⟩
abbrev s_count_all_rows : Stmt := topS 15
theorem sc_count_all_rows : FnScope ["m", "d"] ["m"] (defScope s_count_all_rows) := ⟨rfl, rfl, rfl, by decide +kernel, rfl, by decide +kernel, by decide +kernel⟩
abbrev s_row_place : Stmt := topS 16
theorem sc_row_place : FnScope ["m", "row", "left", "place", "step", "frame", "at"] ["m", "row"] (defScope s_row_place) := ⟨rfl, rfl, rfl, by decide +kernel, rfl, by decide +kernel, by decide +kernel⟩
abbrev s_row_of_place : Stmt := topS 17
theorem sc_row_of_place : FnScope ["m", "d", "place", "left", "row", "step", "block"] ["m", "d", "place"] (defScope s_row_of_place) := ⟨rfl, rfl, rfl, by decide +kernel, rfl, by decide +kernel, by decide +kernel⟩
abbrev s_row_at : Stmt := topS 18
theorem sc_row_at : FnScope ["m", "d", "place"] ["m", "d", "place"] (defScope s_row_at) := ⟨rfl, rfl, rfl, by decide +kernel, rfl, by decide +kernel, by decide +kernel⟩
abbrev s_row_number : Stmt := topS 19
theorem sc_row_number : FnScope ["m", "row", "place", "d"] ["m", "row"] (defScope s_row_number) := ⟨rfl, rfl, rfl, by decide +kernel, rfl, by decide +kernel, by decide +kernel⟩
abbrev s_row_numbered : Stmt := topS 20
theorem sc_row_numbered : FnScope ["m", "number", "d"] ["m", "number"] (defScope s_row_numbered) := ⟨rfl, rfl, rfl, by decide +kernel, rfl, by decide +kernel, by decide +kernel⟩
abbrev s_all_rows : Stmt := topS 21
theorem sc_all_rows : GScope ["m", "d", "place"] ["m"] (defScope s_all_rows) := ⟨rfl, rfl, rfl, by decide +kernel, rfl, by decide +kernel, by decide +kernel⟩
abbrev s_law_falling : Stmt := topS 23
theorem sc_law_falling : FnScope ["_law_m", "_law_d", "_law_many", "_law_step"] ["_law_m", "_law_d"] (defScope s_law_falling) := ⟨rfl, rfl, rfl, by decide +kernel, rfl, by decide +kernel, by decide +kernel⟩
abbrev s_law_rows_of : Stmt := topS 24
theorem sc_law_rows_of : FnScope ["_law_m", "_law_d", "_law_level", "_law_step", "_law_longer", "_law_row", "_law_f"] ["_law_m", "_law_d"] (defScope s_law_rows_of) := ⟨rfl, rfl, rfl, by decide +kernel, rfl, by decide +kernel, by decide +kernel⟩
abbrev s_law_exact : Stmt := topS 25
theorem sc_law_exact : FnScope ["_law_told", "_law_due", "_law_k"] ["_law_told", "_law_due"] (defScope s_law_exact) := ⟨rfl, rfl, rfl, by decide +kernel, rfl, by decide +kernel, by decide +kernel⟩
abbrev s_law_mix : Stmt := topS 26
theorem sc_law_mix : FnScope ["_law_number", "_law_turn", "_law_once", "_law_twice"] ["_law_number", "_law_turn"] (defScope s_law_mix) := ⟨rfl, rfl, rfl, by decide +kernel, rfl, by decide +kernel, by decide +kernel⟩
abbrev s_law_draw : Stmt := topS 27
theorem sc_law_draw : FnScope ["_law_hand_here", "_law_many", "_law_cell", "_law_rest"] ["_law_hand_here", "_law_many"] (defScope s_law_draw) := ⟨rfl, rfl, rfl, by decide +kernel, rfl, by decide +kernel, by decide +kernel⟩
abbrev s_law_some_row : Stmt := topS 28
theorem sc_law_some_row : FnScope ["_law_hand_here", "_law_m", "_law_d", "_law_left", "_law_row", "_law_step"] ["_law_hand_here", "_law_m", "_law_d"] (defScope s_law_some_row) := ⟨rfl, rfl, rfl, by decide +kernel, rfl, by decide +kernel, by decide +kernel⟩
abbrev s_law_seq : Stmt := topS 29
theorem sc_law_seq : FnScope ["_law_hand_here", "_law_row"] ["_law_hand_here", "_law_row"] (defScope s_law_seq) := ⟨rfl, rfl, rfl, by decide +kernel, rfl, by decide +kernel, by decide +kernel⟩
abbrev s_law_no_count : Stmt := topS 30
theorem sc_law_no_count : FnScope ["_law_hand_here", "_law_most"] ["_law_hand_here", "_law_most"] (defScope s_law_no_count) := ⟨rfl, rfl, rfl, by decide +kernel, rfl, by decide +kernel, by decide +kernel⟩
abbrev s_law_hand : Stmt := topS 31
theorem sc_law_hand : FnScope ["_law_script", "_law_total", "_law_k", "_law_cell"] ["_law_script"] (defScope s_law_hand) := ⟨rfl, rfl, rfl, by decide +kernel, rfl, by decide +kernel, by decide +kernel⟩
abbrev s_law_asked : Stmt := topS 32
theorem sc_law_asked : FnScope ["_law_which", "_law_one", "_law_two", "_law_three", "raised"] ["_law_which", "_law_one", "_law_two", "_law_three"] (defScope s_law_asked) := ⟨rfl, rfl, rfl, by decide +kernel, rfl, by decide +kernel, by decide +kernel⟩
abbrev s_law_of_row : Stmt := topS 33
theorem sc_law_of_row : FnScope ["_law_which", "_law_m", "_law_row"] ["_law_which", "_law_m", "_law_row"] (defScope s_law_of_row) := ⟨rfl, rfl, rfl, by decide +kernel, rfl, by decide +kernel, by decide +kernel⟩
abbrev s_law_own_place : Stmt := topS 34
theorem sc_law_own_place : FnScope ["_law_m", "_law_row", "_law_place", "_law_at", "_law_lesser", "_law_f"] ["_law_m", "_law_row"] (defScope s_law_own_place) := ⟨rfl, rfl, rfl, by decide +kernel, rfl, by decide +kernel, by decide +kernel⟩
abbrev s_law_listed : Stmt := topS 35
theorem sc_law_listed : FnScope ["_law_m", "_law_due", "_law_d", "_law_level", "_law_number", "_law_row", "_law_before", "_law_one"] ["_law_m"] (defScope s_law_listed) := ⟨rfl, rfl, rfl, by decide +kernel, rfl, by decide +kernel, by decide +kernel⟩
abbrev s_law_great : Stmt := topS 36
theorem sc_law_great : FnScope ["_law_hand_here", "_law_m", "_law_row", "_law_d", "_law_place", "_law_shorter", "_law_handed", "_law_which", "_law_due", "_law_last", "_law_many", "_law_above", "_law_wide", "_law_length", "_law_at"] ["_law_hand_here"] (defScope s_law_great) := ⟨rfl, rfl, rfl, by decide +kernel, rfl, by decide +kernel, by decide +kernel⟩
abbrev s_law_spoilt_row : Stmt := topS 37
theorem sc_law_spoilt_row : FnScope ["_law_hand_here", "_law_m", "_law_row", "_law_at", "_law_way"] ["_law_hand_here", "_law_m", "_law_row"] (defScope s_law_spoilt_row) := ⟨rfl, rfl, rfl, by decide +kernel, rfl, by decide +kernel, by decide +kernel⟩
abbrev s_law_refused : Stmt := topS 38
theorem sc_law_refused : FnScope ["_law_hand_here", "_law_m", "_law_row", "_law_bad", "_law_at", "_law_which", "_law_odd", "_law_top"] ["_law_hand_here"] (defScope s_law_refused) := ⟨rfl, rfl, rfl, by decide +kernel, rfl, by decide +kernel, by decide +kernel⟩
abbrev s_law_classes : Stmt := topS 39
theorem sc_law_classes : FnScope ["raised"] [] (defScope s_law_classes) := ⟨rfl, rfl, rfl, by decide +kernel, rfl, by decide +kernel, by decide +kernel⟩
abbrev s_law : Stmt := topS 40
theorem sc_law : FnScope ["_law_script", "_law_hand_here", "_law_turn"] ["_law_script"] (defScope s_law) := ⟨rfl, rfl, rfl, by decide +kernel, rfl, by decide +kernel, by decide +kernel⟩
/-- where the defs and classes stand -/
structure Adr where
  c_FrameError : Addr
  c_BadCount : Addr
  c_BadRow : Addr
  c_BadPlace : Addr
  f_BadCount_init : Addr
  d_BadCount_init : FuncData
  f_BadRow_init : Addr
  d_BadRow_init : FuncData
  f_is_whole : Addr
  d_is_whole : FuncData
  f_is_sequence : Addr
  d_is_sequence : FuncData
  f_check_count : Addr
  d_check_count : FuncData
  f_row_fault : Addr
  d_row_fault : FuncData
  f_check_row : Addr
  d_check_row : FuncData
  f_ways_of : Addr
  d_ways_of : FuncData
  f_count_falling : Addr
  d_count_falling : FuncData
  f_count_all_rows : Addr
  d_count_all_rows : FuncData
  f_row_place : Addr
  d_row_place : FuncData
  f_row_of_place : Addr
  d_row_of_place : FuncData
  f_row_at : Addr
  d_row_at : FuncData
  f_row_number : Addr
  d_row_number : FuncData
  f_row_numbered : Addr
  d_row_numbered : FuncData
  f_all_rows : Addr
  d_all_rows : FuncData
  f_law_falling : Addr
  d_law_falling : FuncData
  f_law_rows_of : Addr
  d_law_rows_of : FuncData
  f_law_exact : Addr
  d_law_exact : FuncData
  f_law_mix : Addr
  d_law_mix : FuncData
  f_law_draw : Addr
  d_law_draw : FuncData
  f_law_some_row : Addr
  d_law_some_row : FuncData
  f_law_seq : Addr
  d_law_seq : FuncData
  f_law_no_count : Addr
  d_law_no_count : FuncData
  f_law_hand : Addr
  d_law_hand : FuncData
  f_law_asked : Addr
  d_law_asked : FuncData
  f_law_of_row : Addr
  d_law_of_row : FuncData
  f_law_own_place : Addr
  d_law_own_place : FuncData
  f_law_listed : Addr
  d_law_listed : FuncData
  f_law_great : Addr
  d_law_great : FuncData
  f_law_spoilt_row : Addr
  d_law_spoilt_row : FuncData
  f_law_refused : Addr
  d_law_refused : FuncData
  f_law_classes : Addr
  d_law_classes : FuncData
  f_law : Addr
  d_law : FuncData
/-- what the top has written -/
structure Top (K : PySem.W.Frag) (mg : Str → Option Value) (a : Adr) : Prop where
  gc_FrameError : mg "FrameError" = some (.ref a.c_FrameError)
  x_FrameError : OexC K a.c_FrameError
  xf_FrameError : XfC K a.c_FrameError
  xc_FrameError : ExcC K a.c_FrameError
  gc_BadCount : mg "BadCount" = some (.ref a.c_BadCount)
  x_BadCount : OexC K a.c_BadCount
  xf_BadCount : XfC K a.c_BadCount
  xc_BadCount : ExcC K a.c_BadCount
  gc_BadRow : mg "BadRow" = some (.ref a.c_BadRow)
  x_BadRow : OexC K a.c_BadRow
  xf_BadRow : XfC K a.c_BadRow
  xc_BadRow : ExcC K a.c_BadRow
  gc_BadPlace : mg "BadPlace" = some (.ref a.c_BadPlace)
  x_BadPlace : OexC K a.c_BadPlace
  xf_BadPlace : XfC K a.c_BadPlace
  xc_BadPlace : ExcC K a.c_BadPlace
  ex_FrameError_FrameError : PySem.W.exmOne K (.ref a.c_FrameError) (.ref a.c_FrameError) = some true
  ki_FrameError_FrameError : PySem.W.kitOne K (.ref a.c_FrameError) (.ref a.c_FrameError) = some true
  ex_FrameError_BadCount : PySem.W.exmOne K (.ref a.c_FrameError) (.ref a.c_BadCount) = some false
  ki_FrameError_BadCount : PySem.W.kitOne K (.ref a.c_FrameError) (.ref a.c_BadCount) = some false
  ex_FrameError_BadRow : PySem.W.exmOne K (.ref a.c_FrameError) (.ref a.c_BadRow) = some false
  ki_FrameError_BadRow : PySem.W.kitOne K (.ref a.c_FrameError) (.ref a.c_BadRow) = some false
  ex_FrameError_BadPlace : PySem.W.exmOne K (.ref a.c_FrameError) (.ref a.c_BadPlace) = some false
  ki_FrameError_BadPlace : PySem.W.kitOne K (.ref a.c_FrameError) (.ref a.c_BadPlace) = some false
  ex_BadCount_FrameError : PySem.W.exmOne K (.ref a.c_BadCount) (.ref a.c_FrameError) = some true
  ki_BadCount_FrameError : PySem.W.kitOne K (.ref a.c_BadCount) (.ref a.c_FrameError) = some true
  ex_BadCount_BadCount : PySem.W.exmOne K (.ref a.c_BadCount) (.ref a.c_BadCount) = some true
  ki_BadCount_BadCount : PySem.W.kitOne K (.ref a.c_BadCount) (.ref a.c_BadCount) = some true
  ex_BadCount_BadRow : PySem.W.exmOne K (.ref a.c_BadCount) (.ref a.c_BadRow) = some false
  ki_BadCount_BadRow : PySem.W.kitOne K (.ref a.c_BadCount) (.ref a.c_BadRow) = some false
  ex_BadCount_BadPlace : PySem.W.exmOne K (.ref a.c_BadCount) (.ref a.c_BadPlace) = some false
  ki_BadCount_BadPlace : PySem.W.kitOne K (.ref a.c_BadCount) (.ref a.c_BadPlace) = some false
  no_BadCount_most : PySem.W.findIn K (.ref a.c_BadCount) "most" = some none
  in_BadCount : PySem.W.findIn K (.ref a.c_BadCount) "__init__" = some (some (.ref a.f_BadCount_init))
  ti_BadCount : PySem.W.typeIn K (.ref a.f_BadCount_init) = some (.type "function")
  ex_BadRow_FrameError : PySem.W.exmOne K (.ref a.c_BadRow) (.ref a.c_FrameError) = some true
  ki_BadRow_FrameError : PySem.W.kitOne K (.ref a.c_BadRow) (.ref a.c_FrameError) = some true
  ex_BadRow_BadCount : PySem.W.exmOne K (.ref a.c_BadRow) (.ref a.c_BadCount) = some false
  ki_BadRow_BadCount : PySem.W.kitOne K (.ref a.c_BadRow) (.ref a.c_BadCount) = some false
  ex_BadRow_BadRow : PySem.W.exmOne K (.ref a.c_BadRow) (.ref a.c_BadRow) = some true
  ki_BadRow_BadRow : PySem.W.kitOne K (.ref a.c_BadRow) (.ref a.c_BadRow) = some true
  ex_BadRow_BadPlace : PySem.W.exmOne K (.ref a.c_BadRow) (.ref a.c_BadPlace) = some false
  ki_BadRow_BadPlace : PySem.W.kitOne K (.ref a.c_BadRow) (.ref a.c_BadPlace) = some false
  no_BadRow_at : PySem.W.findIn K (.ref a.c_BadRow) "at" = some none
  in_BadRow : PySem.W.findIn K (.ref a.c_BadRow) "__init__" = some (some (.ref a.f_BadRow_init))
  ti_BadRow : PySem.W.typeIn K (.ref a.f_BadRow_init) = some (.type "function")
  ex_BadPlace_FrameError : PySem.W.exmOne K (.ref a.c_BadPlace) (.ref a.c_FrameError) = some true
  ki_BadPlace_FrameError : PySem.W.kitOne K (.ref a.c_BadPlace) (.ref a.c_FrameError) = some true
  ex_BadPlace_BadCount : PySem.W.exmOne K (.ref a.c_BadPlace) (.ref a.c_BadCount) = some false
  ki_BadPlace_BadCount : PySem.W.kitOne K (.ref a.c_BadPlace) (.ref a.c_BadCount) = some false
  ex_BadPlace_BadRow : PySem.W.exmOne K (.ref a.c_BadPlace) (.ref a.c_BadRow) = some false
  ki_BadPlace_BadRow : PySem.W.kitOne K (.ref a.c_BadPlace) (.ref a.c_BadRow) = some false
  ex_BadPlace_BadPlace : PySem.W.exmOne K (.ref a.c_BadPlace) (.ref a.c_BadPlace) = some true
  ki_BadPlace_BadPlace : PySem.W.kitOne K (.ref a.c_BadPlace) (.ref a.c_BadPlace) = some true
  xe_BadPlace : PySem.W.excIn K a.c_BadPlace [.type "ValueError", .type "Exception", .type "BaseException", .type "object"] "ValueError.__new__" = true
  kp_BadPlace : PySem.W.keepIn K (.ref a.c_BadPlace) = true
  be_BadPlace : PySem.W.subIn K (.ref a.c_BadPlace) (.type "BaseException") = some true
  ty_BadPlace : PySem.W.typeIn K (.ref a.c_BadPlace) = some (.type "type")
  ki_FrameError_ValueError : PySem.W.kitOne K (.ref a.c_FrameError) (.type "ValueError") = some true
  ki_BadCount_ValueError : PySem.W.kitOne K (.ref a.c_BadCount) (.type "ValueError") = some true
  ki_BadRow_ValueError : PySem.W.kitOne K (.ref a.c_BadRow) (.type "ValueError") = some true
  ki_BadPlace_ValueError : PySem.W.kitOne K (.ref a.c_BadPlace) (.type "ValueError") = some true
  st_FrameError : PySem.W.subIn K (.ref a.c_FrameError) (.type "StopIteration") = some false
  st_BadCount : PySem.W.subIn K (.ref a.c_BadCount) (.type "StopIteration") = some false
  st_BadRow : PySem.W.subIn K (.ref a.c_BadRow) (.type "StopIteration") = some false
  st_BadPlace : PySem.W.subIn K (.ref a.c_BadPlace) (.type "StopIteration") = some false
  F_BadCount_init : Fun K "__init__" "BadCount.__init__" s_BadCount_init a.f_BadCount_init a.d_BadCount_init
  b_BadCount_init : Binds K a.d_BadCount_init ["self", "most"] []
  F_BadRow_init : Fun K "__init__" "BadRow.__init__" s_BadRow_init a.f_BadRow_init a.d_BadRow_init
  b_BadRow_init : Binds K a.d_BadRow_init ["self", "at"] []
  g_is_whole : mg "is_whole" = some (.ref a.f_is_whole)
  F_is_whole : FunD K "is_whole" "is_whole" (defArgs s_is_whole) (defBody s_is_whole) (defScope s_is_whole) [.non, .non] [] a.f_is_whole a.d_is_whole
  g_is_sequence : mg "is_sequence" = some (.ref a.f_is_sequence)
  F_is_sequence : Fun K "is_sequence" "is_sequence" s_is_sequence a.f_is_sequence a.d_is_sequence
  b_is_sequence : Binds K a.d_is_sequence ["thing"] []
  g_check_count : mg "check_count" = some (.ref a.f_check_count)
  F_check_count : FunD K "check_count" "check_count" (defArgs s_check_count) (defBody s_check_count) (defScope s_check_count) [.int 24] [] a.f_check_count a.d_check_count
  g_row_fault : mg "row_fault" = some (.ref a.f_row_fault)
  F_row_fault : Fun K "row_fault" "row_fault" s_row_fault a.f_row_fault a.d_row_fault
  b_row_fault : Binds K a.d_row_fault ["allowed", "row"] []
  g_check_row : mg "check_row" = some (.ref a.f_check_row)
  F_check_row : Fun K "check_row" "check_row" s_check_row a.f_check_row a.d_check_row
  b_check_row : Binds K a.d_check_row ["m", "row"] []
  g_ways_of : mg "ways_of" = some (.ref a.f_ways_of)
  F_ways_of : Fun K "ways_of" "ways_of" s_ways_of a.f_ways_of a.d_ways_of
  b_ways_of : Binds K a.d_ways_of ["m", "d"] []
  g_count_falling : mg "count_falling" = some (.ref a.f_count_falling)
  F_count_falling : Fun K "count_falling" "count_falling" s_count_falling a.f_count_falling a.d_count_falling
  b_count_falling : Binds K a.d_count_falling ["m", "d"] []
  g_count_all_rows : mg "count_all_rows" = some (.ref a.f_count_all_rows)
  F_count_all_rows : Fun K "count_all_rows" "count_all_rows" s_count_all_rows a.f_count_all_rows a.d_count_all_rows
  b_count_all_rows : Binds K a.d_count_all_rows ["m"] []
  g_row_place : mg "row_place" = some (.ref a.f_row_place)
  F_row_place : Fun K "row_place" "row_place" s_row_place a.f_row_place a.d_row_place
  b_row_place : Binds K a.d_row_place ["m", "row"] []
  g_row_of_place : mg "row_of_place" = some (.ref a.f_row_of_place)
  F_row_of_place : Fun K "row_of_place" "row_of_place" s_row_of_place a.f_row_of_place a.d_row_of_place
  b_row_of_place : Binds K a.d_row_of_place ["m", "d", "place"] []
  g_row_at : mg "row_at" = some (.ref a.f_row_at)
  F_row_at : Fun K "row_at" "row_at" s_row_at a.f_row_at a.d_row_at
  b_row_at : Binds K a.d_row_at ["m", "d", "place"] []
  g_row_number : mg "row_number" = some (.ref a.f_row_number)
  F_row_number : Fun K "row_number" "row_number" s_row_number a.f_row_number a.d_row_number
  b_row_number : Binds K a.d_row_number ["m", "row"] []
  g_row_numbered : mg "row_numbered" = some (.ref a.f_row_numbered)
  F_row_numbered : Fun K "row_numbered" "row_numbered" s_row_numbered a.f_row_numbered a.d_row_numbered
  b_row_numbered : Binds K a.d_row_numbered ["m", "number"] []
  g_all_rows : mg "all_rows" = some (.ref a.f_all_rows)
  F_all_rows : Fun K "all_rows" "all_rows" s_all_rows a.f_all_rows a.d_all_rows
  b_all_rows : Binds K a.d_all_rows ["m"] []
  g_law_falling : mg "_law_falling" = some (.ref a.f_law_falling)
  F_law_falling : Fun K "_law_falling" "_law_falling" s_law_falling a.f_law_falling a.d_law_falling
  b_law_falling : Binds K a.d_law_falling ["_law_m", "_law_d"] []
  g_law_rows_of : mg "_law_rows_of" = some (.ref a.f_law_rows_of)
  F_law_rows_of : Fun K "_law_rows_of" "_law_rows_of" s_law_rows_of a.f_law_rows_of a.d_law_rows_of
  b_law_rows_of : Binds K a.d_law_rows_of ["_law_m", "_law_d"] []
  g_law_exact : mg "_law_exact" = some (.ref a.f_law_exact)
  F_law_exact : Fun K "_law_exact" "_law_exact" s_law_exact a.f_law_exact a.d_law_exact
  b_law_exact : Binds K a.d_law_exact ["_law_told", "_law_due"] []
  g_law_mix : mg "_law_mix" = some (.ref a.f_law_mix)
  F_law_mix : Fun K "_law_mix" "_law_mix" s_law_mix a.f_law_mix a.d_law_mix
  b_law_mix : Binds K a.d_law_mix ["_law_number", "_law_turn"] []
  g_law_draw : mg "_law_draw" = some (.ref a.f_law_draw)
  F_law_draw : Fun K "_law_draw" "_law_draw" s_law_draw a.f_law_draw a.d_law_draw
  b_law_draw : Binds K a.d_law_draw ["_law_hand_here", "_law_many"] []
  g_law_some_row : mg "_law_some_row" = some (.ref a.f_law_some_row)
  F_law_some_row : Fun K "_law_some_row" "_law_some_row" s_law_some_row a.f_law_some_row a.d_law_some_row
  b_law_some_row : Binds K a.d_law_some_row ["_law_hand_here", "_law_m", "_law_d"] []
  g_law_seq : mg "_law_seq" = some (.ref a.f_law_seq)
  F_law_seq : Fun K "_law_seq" "_law_seq" s_law_seq a.f_law_seq a.d_law_seq
  b_law_seq : Binds K a.d_law_seq ["_law_hand_here", "_law_row"] []
  g_law_no_count : mg "_law_no_count" = some (.ref a.f_law_no_count)
  F_law_no_count : Fun K "_law_no_count" "_law_no_count" s_law_no_count a.f_law_no_count a.d_law_no_count
  b_law_no_count : Binds K a.d_law_no_count ["_law_hand_here", "_law_most"] []
  g_law_hand : mg "_law_hand" = some (.ref a.f_law_hand)
  F_law_hand : Fun K "_law_hand" "_law_hand" s_law_hand a.f_law_hand a.d_law_hand
  b_law_hand : Binds K a.d_law_hand ["_law_script"] []
  g_law_asked : mg "_law_asked" = some (.ref a.f_law_asked)
  F_law_asked : Fun K "_law_asked" "_law_asked" s_law_asked a.f_law_asked a.d_law_asked
  b_law_asked : Binds K a.d_law_asked ["_law_which", "_law_one", "_law_two", "_law_three"] []
  g_law_of_row : mg "_law_of_row" = some (.ref a.f_law_of_row)
  F_law_of_row : Fun K "_law_of_row" "_law_of_row" s_law_of_row a.f_law_of_row a.d_law_of_row
  b_law_of_row : Binds K a.d_law_of_row ["_law_which", "_law_m", "_law_row"] []
  g_law_own_place : mg "_law_own_place" = some (.ref a.f_law_own_place)
  F_law_own_place : Fun K "_law_own_place" "_law_own_place" s_law_own_place a.f_law_own_place a.d_law_own_place
  b_law_own_place : Binds K a.d_law_own_place ["_law_m", "_law_row"] []
  g_law_listed : mg "_law_listed" = some (.ref a.f_law_listed)
  F_law_listed : Fun K "_law_listed" "_law_listed" s_law_listed a.f_law_listed a.d_law_listed
  b_law_listed : Binds K a.d_law_listed ["_law_m"] []
  g_law_great : mg "_law_great" = some (.ref a.f_law_great)
  F_law_great : Fun K "_law_great" "_law_great" s_law_great a.f_law_great a.d_law_great
  b_law_great : Binds K a.d_law_great ["_law_hand_here"] []
  g_law_spoilt_row : mg "_law_spoilt_row" = some (.ref a.f_law_spoilt_row)
  F_law_spoilt_row : Fun K "_law_spoilt_row" "_law_spoilt_row" s_law_spoilt_row a.f_law_spoilt_row a.d_law_spoilt_row
  b_law_spoilt_row : Binds K a.d_law_spoilt_row ["_law_hand_here", "_law_m", "_law_row"] []
  g_law_refused : mg "_law_refused" = some (.ref a.f_law_refused)
  F_law_refused : Fun K "_law_refused" "_law_refused" s_law_refused a.f_law_refused a.d_law_refused
  b_law_refused : Binds K a.d_law_refused ["_law_hand_here"] []
  g_law_classes : mg "_law_classes" = some (.ref a.f_law_classes)
  F_law_classes : Fun K "_law_classes" "_law_classes" s_law_classes a.f_law_classes a.d_law_classes
  b_law_classes : Binds K a.d_law_classes [] []
  g_law : mg "law" = some (.ref a.f_law)
  F_law : Fun K "law" "law" s_law a.f_law a.d_law
  b_law : Binds K a.d_law ["_law_script"] []
  n_ValueError : mg "ValueError" = none
  n_abs : mg "abs" = none
  n_bool : mg "bool" = none
  n_enumerate : mg "enumerate" = none
  n_int : mg "int" = none
  n_isinstance : mg "isinstance" = none
  n_len : mg "len" = none
  n_list : mg "list" = none
  n_range : mg "range" = none
  n_str : mg "str" = none
  n_sum : mg "sum" = none
  n_tuple : mg "tuple" = none
  m_MOST_FRAMES : ∃ t, mg "MOST_FRAMES" = some (.int 24 t)
theorem bD_is_whole_1 {K : PySem.W.Frag} {mg : Str → Option Value} {a : Adr} (T : Top K mg a) : ∃ ds, Vals [.non, .non] ds ∧ Binds K a.d_is_whole ["thing", "low", "high"] ds :=
  T.F_is_whole.binds1 1 0 (by simp) rfl fun _ _ _ _ _ _ _ us its h1 h2 => match us, its, h1, h2 with | [_], [_, _], _, _ => ⟨_, rfl, rfl⟩
theorem bD_is_whole_2 {K : PySem.W.Frag} {mg : Str → Option Value} {a : Adr} (T : Top K mg a) : ∃ ds, Vals [.non] ds ∧ Binds K a.d_is_whole ["thing", "low", "high"] ds :=
  T.F_is_whole.binds1 2 1 (by simp) rfl fun _ _ _ _ _ _ _ us its h1 h2 => match us, its, h1, h2 with | [_, _], [_, _], _, _ => ⟨_, rfl, rfl⟩
theorem bD_is_whole_3 {K : PySem.W.Frag} {mg : Str → Option Value} {a : Adr} (T : Top K mg a) : ∃ ds, Vals [] ds ∧ Binds K a.d_is_whole ["thing", "low", "high"] ds :=
  T.F_is_whole.binds1 3 2 (by simp) rfl fun _ _ _ _ _ _ _ us its h1 h2 => match us, its, h1, h2 with | [_, _, _], [_, _], _, _ => ⟨_, rfl, rfl⟩
theorem bD_check_count_1 {K : PySem.W.Frag} {mg : Str → Option Value} {a : Adr} (T : Top K mg a) : ∃ ds, Vals [.int 24] ds ∧ Binds K a.d_check_count ["m", "most"] ds :=
  T.F_check_count.binds1 1 0 (by simp) rfl fun _ _ _ _ _ _ _ us its h1 h2 => match us, its, h1, h2 with | [_], [_], _, _ => ⟨_, rfl, rfl⟩
theorem bD_check_count_2 {K : PySem.W.Frag} {mg : Str → Option Value} {a : Adr} (T : Top K mg a) : ∃ ds, Vals [] ds ∧ Binds K a.d_check_count ["m", "most"] ds :=
  T.F_check_count.binds1 2 1 (by simp) rfl fun _ _ _ _ _ _ _ us its h1 h2 => match us, its, h1, h2 with | [_, _], [_], _, _ => ⟨_, rfl, rfl⟩
local macro_rules | `(tactic| walk_at "dp") => `(tactic| first
  | assumption
  | exact .int _
  | exact .non
  | exact .bl _
  | exact .str _
  | exact Dp.up (by assumption) (by assumption))
local macro_rules | `(tactic| walk_at "sq") => `(tactic| first
  | assumption
  | exact ofL (by assumption)
  | exact ofL upd_same
)
local macro_rules | `(tactic| walk_at "st") => `(tactic| simp only [L2.cxOf, L2.start, List.map_cons, List.map_nil, List.length_cons, List.length_nil, Nat.zero_add, Nat.reduceAdd, Nat.reduceSub, List.replicate_succ, List.replicate_zero, List.cons_append, List.nil_append, List.append_nil, List.replicate])
local macro_rules | `(tactic| walk_at "cnd") => `(tactic| first
  | (show (0 : Int) < _; first | decide | omega)
  | (show (0 : Int) < _ ∧ _; constructor <;> first | decide | omega)
  | (show (0 : Int) ≤ _; first | decide | omega)
  | (refine Or.inr ⟨?_, ?_⟩ <;> first | decide | omega)
  | (refine Or.inl ⟨?_, ?_⟩ <;> first | decide | omega)
  | (refine ⟨?_, ?_, ?_⟩ <;> first | decide | omega))
local macro_rules | `(tactic| walk_at "wp1") => `(tactic| first
  | ((with_reducible refine' w_var ?we ?_); (case we => exact rfl))
  | with_reducible refine w_c ?_
  | with_reducible refine w_op ?_
  | with_reducible refine w_cons ?_
  | with_reducible refine w_nil ?_
  | with_reducible refine w_rI0 ?_
  | ((with_reducible refine w_rI ?wc ?_); (case wc => walk_at "cnd"))
  | with_reducible refine w_un ?_
  | with_reducible refine w_rU ?_
  | with_reducible refine w_call ?_
  | with_reducible refine w_callS ?_
  | with_reducible refine w_CB ?_
  | with_reducible refine w_test ?_
  | with_reducible refine w_tB ?_
  | with_reducible refine w_bl ?_
  | with_reducible refine w_eqI ?_
  | with_reducible refine w_neI ?_
  | with_reducible refine w_isN_non ?_
  | with_reducible refine w_ntN_non ?_
  | with_reducible refine w_isN_int ?_
  | with_reducible refine w_ntN_int ?_
  | with_reducible refine w_isN_bl ?_
  | with_reducible refine w_ntN_bl ?_
  | with_reducible refine w_isN_str ?_
  | with_reducible refine w_ntN_str ?_
  | with_reducible refine w_isN_ref ?_
  | with_reducible refine w_ntN_ref ?_
  | with_reducible refine w_isN' ?_
  | with_reducible refine w_notN' ?_
  | with_reducible refine w_int1 ?_
  | with_reducible refine w_abs ?_
  | ((with_reducible refine' w_aug ?we ?_); (case we => exact rfl))
  | ((with_reducible refine w_ipI ?_); dsimp only [List.set_cons_zero, List.set_cons_succ])
  | with_reducible refine w_seq ?_
  | with_reducible refine w_asg ?_
  | ((with_reducible refine w_name ?_); dsimp only [List.set_cons_zero, List.set_cons_succ])
  | with_reducible refine w_ret ?_
  | with_reducible refine w_retN ?_
  | with_reducible refine w_next ?_
  | with_reducible refine w_drop ?_
  | with_reducible refine w_ifS ?_
  | with_reducible refine w_ifE ?_
  | with_reducible refine w_and ?_
  | with_reducible refine w_or ?_
  | with_reducible refine w_not ?_
  | with_reducible refine w_andV ?_
  | with_reducible refine w_orV ?_
  | with_reducible refine w_notV ?_
  | with_reducible refine w_then ?_
  | with_reducible refine w_tup ?_
  | with_reducible refine w_lst ?_
  | with_reducible refine w_BM ?_
  | with_reducible refine w_gsub ?_
  | with_reducible refine w_tSl ?_
  | with_reducible refine w_noPart ?_
  | with_reducible refine w_part ?_
  | with_reducible refine w_ofInt ?_
  | ((with_reducible refine' w_setL ?h1 ?h2 ?_); (case h1 => first | assumption | exact upd_same); (case h2 => exact rfl); simp only [Int.reduceToNat, List.set_cons_zero, List.set_cons_succ]; try rw [upd2])
  | ((with_reducible refine' w_ixL ?h1 ?h2 ?_); (case h1 => walk_at "sq"); (case h2 => exact rfl))
  | ((with_reducible refine' w_lenL ?h1 ?_); (case h1 => walk_at "sq"))
  | with_reducible refine w_isInt_int ?_
  | with_reducible refine w_isInt_bl ?_
  | with_reducible refine w_isInt_str ?_
  | with_reducible refine w_isInt_non ?_
  | with_reducible refine w_isBool_int ?_
  | with_reducible refine w_isBool_bl ?_
  | with_reducible refine w_isBool_str ?_
  | with_reducible refine w_isBool_non ?_
  | with_reducible refine w_isStr_int ?_
  | with_reducible refine w_isStr_bl ?_
  | with_reducible refine w_isStr_str ?_
  | with_reducible refine w_isStr_non ?_
  | with_reducible refine w_isTup_int ?_
  | with_reducible refine w_isTup_bl ?_
  | with_reducible refine w_isTup_str ?_
  | with_reducible refine w_isTup_non ?_
  | ((with_reducible refine' w_isInt ?h1 ?_); (case h1 => walk_at "dp"))
  | ((with_reducible refine' w_isBool ?h1 ?_); (case h1 => walk_at "dp"))
  | ((with_reducible refine' w_isStr ?h1 ?_); (case h1 => walk_at "dp"))
  | ((with_reducible refine' w_isTup ?h1 ?_); (case h1 => walk_at "dp"))
  | with_reducible refine iteT ?_
  | with_reducible refine iteF ?_
  | with_reducible refine w_mkO ?_
  | with_reducible refine w_lstRg ?_
  | with_reducible refine w_tupRg ?_
  | with_reducible refine w_rg1 ?_
  | with_reducible refine w_nf ?_
  | with_reducible refine w_nt ?_)
local macro_rules | `(tactic| walk_at "wp") => `(tactic| repeat walk_at "wp1")
local macro_rules | `(tactic| walk_at "wq1") => `(tactic| first
  | walk_at "wp1"
  | with_reducible refine w_callSD ?_
  | with_reducible refine w_listGS ?_
  | ((with_reducible refine' w_ifT ?hd ?_); (case hd => decide))
  | ((with_reducible refine' w_ifF ?hd ?_); (case hd => decide))
  | ((with_reducible refine' w_ifnT ?hd ?_); (case hd => decide))
  | ((with_reducible refine' w_ifnF ?hd ?_); (case hd => decide)))
local macro_rules | `(tactic| walk_at "wq") => `(tactic| repeat walk_at "wq1")
section
variable {P : Program} {w : World} {K : PySem.W.Frag} {mg : Str → Option Value} {base : Heap} {a : Adr}
/-! ### the law's hand -/
def spMix : Sp := fun vs H Q _ => ∃ n t : Int, vs = [.int n, .int t] ∧ ∀ r : Int, 0 ≤ r → Q (.int r) H
theorem ok_law_mix (T : Top K mg a) : FnOk P w K mg base CX0 1 a.f_law_mix a.d_law_mix ["_law_number", "_law_turn"] spMix := by
  refine T.F_law_mix.ok sc_law_mix (fun vs H Q E h => ?_) (fun cdv A outer s H vs Q E hr h => ?_)
  · obtain ⟨n, t, rfl, _⟩ := h
    rfl
  · obtain ⟨n, t, rfl, q⟩ := h
    refine ⟨_, (pss_cons (ps_set (i := 2) sc_law_mix.nd rfl (Or.inl rfl) (pe_op op_mod (pe_callTy call_intI (by rfl) T.n_int (by decide +kernel) (pa_cons (pe_op op_add (pe_op op_add (pe_op op_mul (pv 0) pe_int) (pe_op op_mul (pv 1) pe_int)) pe_int) pa_nil)) pe_int)) (pss_cons (ps_set (i := 3) sc_law_mix.nd rfl (Or.inl rfl) (pe_op op_mod (pe_callTy call_intI (by rfl) T.n_int (by decide +kernel) (pa_cons (pe_op op_add (pe_op op_add (pe_op op_mul (pv 2) (pv 2)) (pe_op op_mul (pv 1) pe_int)) (pe_op op_fdiv (pv 2) pe_int)) pa_nil)) pe_int)) (pss_one (ps_ret (pe_op op_fdiv (pe_op op_mod (pe_callTy call_intI (by rfl) T.n_int (by decide +kernel) (pa_cons (pe_op op_add (pe_op op_mul (pv 3) pe_int) (pv 2)) pa_nil)) pe_int) pe_int))))), ?_⟩
    walk_at "st"
    walk_at "wp"
    refine q _ ?_
    omega
theorem ok_law_draw (T : Top K mg a) : FnOk P w K mg base CX0 2 a.f_law_draw a.d_law_draw ["_law_hand_here", "_law_many"] (spDraw K) := by
  refine T.F_law_draw.ok sc_law_draw (fun vs H Q E h => ?_) (fun cdv A outer s H vs Q E hr h => ?_)
  · obtain ⟨I, hd, m, rfl, _⟩ := h
    rfl
  · obtain ⟨I, hd, m, rfl, hh, m0, m1, q⟩ := h
    obtain ⟨sI, iN, c, cells, p, cur, tot, e, hc, hc0, p0, cur0⟩ := id hh
    have hcH : SqL K H c (cells.map V.int) := sI.seq hc
    have fin : ∀ (p2 cur2 tot2 r : Int), 0 ≤ p2 → 0 ≤ cur2 → 0 ≤ r → r < m → Q (.int r) (upd H hd (.lst [.ref c, .int p2, .int cur2, .int tot2])) :=
      fun p2 cur2 tot2 r b1 b2 b3 b4 => q _ r (Lf.setM sI rfl e iN) ⟨Same.updI sI iN, iN, c, cells, p2, cur2, tot2, upd_same, hc, hc0, b1, b2⟩ b3 b4
    refine ⟨_, (pss_cons (ps_if (PW.pt (pw_and (pt_cmpR op_eq (pe_ix (ix_K (K := K) rfl) (pv 0) pe_int (fun _ _ => rfl)) pe_int (nomark _)) (pw_and1 (pt_cmpR op_lt (pe_ix (ix_K (K := K) rfl) (pv 0) pe_int (fun _ _ => rfl)) (pe_callB (call_lenK (K := K) rfl) (by rfl) T.n_len (by decide +kernel) (pa_cons (pe_ix (ix_K (K := K) rfl) (pv 0) pe_int (fun _ _ => rfl)) pa_nil)) (nomark _))))) (pss_cons (ps_set (i := 2) sc_law_draw.nd rfl (Or.inl rfl) (pe_ix (ix_K (K := K) rfl) (pe_ix (ix_K (K := K) rfl) (pv 0) pe_int (fun _ _ => rfl)) (pe_ix (ix_K (K := K) rfl) (pv 0) pe_int (fun _ _ => rfl)) (fun _ _ => rfl))) (pss_cons (ps_asg (pe_op op_add (pe_ix (ix_K (K := K) rfl) (pv 0) pe_int (fun _ _ => rfl)) pe_int) (pg_sub (pv 0) pe_int set_list)) (pss_cons (ps_if (pt_cmpR op_lt (pv 2) (pe_op op_pow pe_int pe_int) (nomark _)) (pss_one (ps_ret (pe_op op_mod (pe_callTy call_intI (by rfl) T.n_int (by decide +kernel) (pa_cons (pe_call (ok_law_mix T) (hr.mono (by decide)) (by rfl) T.g_law_mix T.F_law_mix.kp T.b_law_mix .nil pass0 (pa_cons (pe_op op_mod (pe_callTy call_intI (by rfl) T.n_int (by decide +kernel) (pa_cons (pv 2) pa_nil)) pe_int) (pa_cons (pe_ix (ix_K (K := K) rfl) (pv 0) pe_int (fun _ _ => rfl)) pa_nil))) pa_nil)) (pv 1)))) pss_nil) (pss_one (ps_asg (pv 2) (pg_sub (pv 0) pe_int set_list)))))) pss_nil) (pss_cons (ps_if (pt_cmpR op_gt (pe_ix (ix_K (K := K) rfl) (pv 0) pe_int (fun _ _ => rfl)) pe_int (nomark _)) (pss_cons (ps_set (i := 3) sc_law_draw.nd rfl (Or.inl rfl) (pe_ix (ix_K (K := K) rfl) (pv 0) pe_int (fun _ _ => rfl))) (pss_cons (ps_asg (pe_op op_fdiv (pv 3) (pv 1)) (pg_sub (pv 0) pe_int set_list)) (pss_one (ps_ret (pe_op op_mod (pe_callTy call_intI (by rfl) T.n_int (by decide +kernel) (pa_cons (pv 3) pa_nil)) (pv 1)))))) pss_nil) (pss_cons (ps_asg (pe_op op_mod (pe_callTy call_intI (by rfl) T.n_int (by decide +kernel) (pa_cons (pe_op op_add (pe_ix (ix_K (K := K) rfl) (pv 0) pe_int (fun _ _ => rfl)) pe_int) pa_nil)) pe_int) (pg_sub (pv 0) pe_int set_list)) (pss_one (ps_ret (pe_op op_mod (pe_callTy call_intI (by rfl) T.n_int (by decide +kernel) (pa_cons (pe_call (ok_law_mix T) (hr.mono (by decide)) (by rfl) T.g_law_mix T.F_law_mix.kp T.b_law_mix .nil pass0 (pa_cons (pe_ix (ix_K (K := K) rfl) (pv 0) pe_int (fun _ _ => rfl)) (pa_cons (pe_ix (ix_K (K := K) rfl) (pv 0) pe_int (fun _ _ => rfl)) pa_nil))) pa_nil)) (pv 1))))))), ?_⟩
    walk_at "st"
    walk_at "wp"
    refine w_if (fun h0 => ?_) (fun h0 => ?_)
    · walk_at "wp"
      refine w_if (fun h1 => ?_) (fun h1 => ?_)
      · walk_at "wp"
        rw [List.length_map] at h1
        refine w_ixInts hcH p0 h1 fun z hz => ?_
        have z0 := hc0 z hz
        walk_at "wp"
        refine w_if (fun h2 => ?_) (fun h2 => ?_)
        · walk_at "wp"
          refine ⟨_, _, rfl, fun r r0 => ?_⟩
          walk_at "wp"
          exact fin _ _ _ _ (by omega) (by omega) (Int.emod_nonneg _ (by omega)) (Int.emod_lt_of_pos _ (by omega))
        · walk_at "wp"
          refine w_if (fun hg => ?_) (fun hg => ?_)
          · walk_at "wp"
            exact fin _ _ _ _ (by omega) (Int.ediv_nonneg (by omega) (by omega)) (Int.emod_nonneg _ (by omega)) (Int.emod_lt_of_pos _ (by omega))
          · walk_at "wp"
            refine ⟨_, _, rfl, fun r r0 => ?_⟩
            walk_at "wp"
            exact fin _ _ _ _ (by omega) (by omega) (Int.emod_nonneg _ (by omega)) (Int.emod_lt_of_pos _ (by omega))
      · walk_at "wp"
        refine w_if (fun hg => ?_) (fun hg => ?_)
        · walk_at "wp"
          exact fin _ _ _ _ (by omega) (Int.ediv_nonneg (by omega) (by omega)) (Int.emod_nonneg _ (by omega)) (Int.emod_lt_of_pos _ (by omega))
        · walk_at "wp"
          refine ⟨_, _, rfl, fun r r0 => ?_⟩
          walk_at "wp"
          exact fin _ _ _ _ (by omega) (by omega) (Int.emod_nonneg _ (by omega)) (Int.emod_lt_of_pos _ (by omega))
    · walk_at "wp"
      refine w_if (fun hg => ?_) (fun hg => ?_)
      · walk_at "wp"
        exact fin _ _ _ _ (by omega) (Int.ediv_nonneg (by omega) (by omega)) (Int.emod_nonneg _ (by omega)) (Int.emod_lt_of_pos _ (by omega))
      · walk_at "wp"
        refine ⟨_, _, rfl, fun r r0 => ?_⟩
        walk_at "wp"
        exact fin _ _ _ _ (by omega) (by omega) (Int.emod_nonneg _ (by omega)) (Int.emod_lt_of_pos _ (by omega))
end
section
variable {P : Program} {w : World} {K : PySem.W.Frag} {mg : Str → Option Value} {base : Heap} {a : Adr}
def oV : Option Int → V
  | none => .non
  | some n => .int n
def geB (n : Int) : Option Int → Bool
  | none => true
  | some l => decide (l ≤ n)
def leB (n : Int) : Option Int → Bool
  | none => true
  | some l => decide (n ≤ l)
def wholeB : PyData → Option Int → Option Int → Bool
  | .int n, lo, hi => geB n lo && leB n hi
  | _, _, _ => false
def spWhole (K : PySem.W.Frag) : Sp := fun vs H Q _ => ∃ (v : V) (d : PyData) (lo hi : Option Int), vs = [v, oV lo, oV hi] ∧ Dp K H v d ∧ ∀ b, b = wholeB d lo hi → Q (.bl b) H
theorem ok_is_whole (T : Top K mg a) : FnOk P w K mg base CX0 1 a.f_is_whole a.d_is_whole ["thing", "low", "high"] (spWhole K) := by
  refine T.F_is_whole.ok sc_is_whole (fun vs H Q E h => ?_) (fun cdv A outer s H vs Q E hr h => ?_)
  · obtain ⟨v, d, lo, hi, rfl, _⟩ := h
    rfl
  · obtain ⟨v, d, lo, hi, rfl, hd, q⟩ := h
    refine ⟨_, (pss_cons (ps_if (PW.pt (pw_or (pt_not (pt_val (pe_callB (call_isiK' (K := K) rfl) (by rfl) T.n_isinstance (by decide +kernel) (pa_cons (pv 0) (pa_cons (pe_bltn (v := .ty "int") (u := .type "int") (by rfl) T.n_int (by decide +kernel) rfl) pa_nil))))) (pw_or1 (pt_val (pe_callB (call_isiK' (K := K) rfl) (by rfl) T.n_isinstance (by decide +kernel) (pa_cons (pv 0) (pa_cons (pe_bltn (v := .ty "bool") (u := .type "bool") (by rfl) T.n_bool (by decide +kernel) rfl) pa_nil))))))) (pss_one (ps_ret pe_bl)) pss_nil) (pss_cons (ps_if (PW.pt (pw_and (pt_cmpR op_notN' (pv 1) pe_non (nomark _)) (pw_and1 (pt_cmpR op_lt (pv 0) (pv 1) (nomark _))))) (pss_one (ps_ret pe_bl)) pss_nil) (pss_one (ps_ret (pe_or (pe_cmpR op_isN' (pv 2) pe_non (nomark _)) (pe_one (pe_cmpR op_le (pv 0) (pv 2) (nomark _)))))))), ?_⟩
    walk_at "st"
    have hd' := hd
    cases hd with
    | int n =>
      cases lo with
      | none =>
        cases hi with
        | none => dsimp only [oV]; walk_at "wp"; exact q _ rfl
        | some h => dsimp only [oV]; walk_at "wp"; exact q _ (by simp [wholeB, geB, leB])
      | some l =>
        cases hi with
        | none =>
          dsimp only [oV]; walk_at "wp"
          refine w_if (fun c => ?_) (fun c => ?_)
          · walk_at "wp"; exact q _ (by simp [wholeB, geB, leB]; omega)
          · walk_at "wp"; exact q _ (by simp [wholeB, geB, leB]; omega)
        | some h =>
          dsimp only [oV]; walk_at "wp"
          refine w_if (fun c => ?_) (fun c => ?_)
          · walk_at "wp"; exact q _ (by simp [wholeB, geB, leB]; omega)
          · walk_at "wp"; exact q _ (by simp [wholeB, geB, leB]; omega)
    | lst h1 h2 => walk_at "wp"; exact q _ rfl
    | tup h1 h2 => walk_at "wp"; exact q _ rfl
    | _ => walk_at "wp"; exact q _ rfl
theorem whole_int {d : PyData} {l h : Int} (e : wholeB d (some l) (some h) = true) : ∃ m, d = .int m ∧ l ≤ m ∧ m ≤ h := by
  cases d with
  | int m =>
    simp [wholeB, geB, leB] at e
    exact ⟨m, rfl, e.1, e.2⟩
  | _ => cases e
/-- 0, 1, .. below m -/
def rgI (m : Int) : List Int := (List.range m.toNat).map fun (i : Nat) => (i : Int)
theorem mem_rgI {m n : Int} : n ∈ rgI m ↔ 0 ≤ n ∧ n < m := by
  unfold rgI
  rw [List.mem_map]
  constructor
  · rintro ⟨i, hi, rfl⟩
    rw [List.mem_range] at hi
    omega
  · rintro ⟨h0, h1⟩
    exact ⟨n.toNat, by rw [List.mem_range]; omega, by omega⟩
theorem rgV_rgI (m : Int) : rgV 0 m = (rgI m).map V.int := by
  unfold rgV rgI
  rw [List.map_map, Int.sub_zero]
  refine List.map_congr_left fun i _ => ?_
  show V.int (0 + (i : Int)) = V.int (i : Int)
  rw [Int.zero_add]
def spIsSeq (K : PySem.W.Frag) : Sp := fun vs H Q _ => ∃ (v : V) (d : PyData), vs = [v] ∧ Dp K H v d ∧ ∀ b H', b = (dLst d || dTup d) → Same H H' → Q (.bl b) H'
theorem ok_is_sequence (T : Top K mg a) : FnOk P w K mg base CX0 1 a.f_is_sequence a.d_is_sequence ["thing"] (spIsSeq K) := by
  refine T.F_is_sequence.ok sc_is_sequence (fun vs H Q E h => ?_) (fun cdv A outer s H vs Q E hr h => ?_)
  · obtain ⟨v, d, rfl, _⟩ := h
    rfl
  · obtain ⟨v, d, rfl, hd, q⟩ := h
    refine ⟨_, (pss_one (ps_ret (pe_callB (call_isiTK (K := K) rfl) (by rfl) T.n_isinstance (by decide +kernel) (pa_cons (pv 0) (pa_cons (pe_tup (pa_cons (pe_bltn (v := .ty "list") (u := .type "list") (by rfl) T.n_list (by decide +kernel) rfl) (pa_cons (pe_bltn (v := .ty "tuple") (u := .type "tuple") (by rfl) T.n_tuple (by decide +kernel) rfl) pa_nil))) pa_nil))))), ?_⟩
    walk_at "st"
    walk_at "wp"
    refine ⟨by show 2 ≤ sizeLine; decide, fun p hp => ?_⟩
    walk_at "wp"
    exact w_isSeq upd_same (Dp.up hd (same_new hp)) (q _ _ rfl (same_new hp))
def rfD (al : List Int) (d : PyData) : V := match seqOf d with
  | none => .int (-1)
  | some ds => match rf al [] ds 0 with
    | none => .non
    | some i => .int (i : Nat)
theorem rfD_none {al : List Int} {d : PyData} (h : rfD al d = .non) : ∃ ns : List Int, (d = .tuple (ns.map .int) ∨ d = .list (ns.map .int)) ∧ ns.Nodup ∧ ∀ n ∈ ns, n ∈ al := by
  have go : ∀ ds : List PyData, (match rf al [] ds 0 with | none => V.non | some i => .int (i : Nat)) = .non → ∃ ns : List Int, ds = ns.map .int ∧ ns.Nodup ∧ ∀ n ∈ ns, n ∈ al := by
    intro ds e
    cases hr : rf al [] ds 0 with
    | some i => rw [hr] at e; cases e
    | none =>
      obtain ⟨ns, e1, e2, e3⟩ := rf_none ds [] 0 hr List.nodup_nil
      exact ⟨ns, e1, by simpa using e2, e3⟩
  cases d with
  | list ds =>
    obtain ⟨ns, e1, e2⟩ := go ds h
    exact ⟨ns, .inr (by rw [e1]), e2⟩
  | tuple ds =>
    obtain ⟨ns, e1, e2⟩ := go ds h
    exact ⟨ns, .inl (by rw [e1]), e2⟩
  | _ => cases h
def spRowFault (K : PySem.W.Frag) : Sp := fun vs H Q _ => ∃ (av : Addr) (v : V) (al : List Int) (d : PyData), vs = [.ref av, v] ∧
  (SqL K H av (al.map V.int) ∨ SqT K H av (al.map V.int)) ∧ Dp K H v d ∧ ∀ H', Same H H' → Q (rfD al d) H'
theorem ok_row_fault (T : Top K mg a) : FnOk P w K mg base CX0 2 a.f_row_fault a.d_row_fault ["allowed", "row"] (spRowFault K) := by
  refine T.F_row_fault.ok sc_row_fault (fun vs H Q E h => ?_) (fun cdv A outer s H vs Q E hr h => ?_)
  · obtain ⟨av, v, al, d, rfl, _⟩ := h
    rfl
  · obtain ⟨av, v, al, d, rfl, hal, hd, q⟩ := h
    refine ⟨_, (pss_cons (ps_if (pt_not (pt_val (pe_call (ok_is_sequence T) (hr.mono (by decide)) (by rfl) T.g_is_sequence T.F_is_sequence.kp T.b_is_sequence .nil pass0 (pa_cons (pv 1) pa_nil)))) (pss_one (ps_ret (pe_un un_neg pe_int))) pss_nil) (pss_cons (ps_for PassesOwn.never rfl (pi_enumK (K := K) rfl (by rfl) T.n_enumerate (pa_cons (pv 1) pa_nil)) (pg_tup rfl (pgs_cons (pg_name (i := 2) sc_row_fault.nd rfl (Or.inl rfl)) (pgs_cons (pg_name (i := 3) sc_row_fault.nd rfl (Or.inl rfl)) pgs_nil))) (pss_one (ps_if (PW.pt (pw_or (pt_not (pt_val (pe_call (ok_is_whole T) (hr.mono (by decide)) (by rfl) T.g_is_whole T.F_is_whole.kp (bD_is_whole_1 T).choose_spec.2 (bD_is_whole_1 T).choose_spec.1 pass0 (pa_cons (pv 3) pa_nil)))) (pw_or (pt_cmpR (op_ninK (K := K) rfl) (pv 3) (pv 0) (by rfl)) (pw_or1 (pt_cmpR (op_inK (K := K) rfl) (pv 3) (pe_slice (slUK (K := K) rfl) (pv 1) po_none (po_some (pv 2))) (by rfl)))))) (pss_one (ps_ret (pv 2))) pss_nil))) (pss_one (ps_ret pe_non)))), ?_⟩
    walk_at "st"
    walk_at "wp"
    refine ⟨v, d, rfl, hd, fun b H1 hb s1 => ?_⟩
    walk_at "wp"
    rcases dp_seq hd with ⟨p, xs, ds, rfl, hx, hds, e1, e2⟩ | ⟨e1, e2⟩
    · obtain rfl := hb.trans e2
      walk_at "wp"
      have q' : ∀ H', Same H H' → Q (match rf al [] ds 0 with | none => .non | some i => .int (i : Nat)) H' := fun H' s => by
        have z := q H' s
        unfold rfD at z
        rw [e1] at z
        exact z
      refine w_forEnum (seq_up hx s1) (fun i σ H' => ∃ (ns : List Int) (y z : Option V), σ = [some (.ref av), some (.ref p), y, z] ∧ Same H1 H' ∧
        xs.take i = ns.map V.int ∧ rf al [] ds 0 = rf al ns (ds.drop i) i) (fun Q q => ⟨_, rfl, q⟩) ⟨[], none, none, rfl, Same.refl _, rfl, rfl⟩
        (fun i σ H' _ h => ?_) (fun i x Tp σ H' hi h hT => ?_) (fun σ H' h => ?_)
      · obtain ⟨_, _, _, _, s2, _⟩ := h
        exact s2
      · obtain ⟨ns, y, z, rfl, s2, ht, hrf⟩ := h
        have s3 : Same H (upd H' Tp (.tup [.int (i : Nat), x])) := (s1.trans s2).trans (same_new hT)
        obtain ⟨dx, ei, hdx⟩ := DpAll.getV hds hi
        rw [drop_at ei] at hrf
        refine w_gpair upd_same ?_
        simp only [List.set_cons_zero, List.set_cons_succ]
        walk_at "wp"
        refine ⟨x, dx, none, none, rfl, Dp.up hdx s3, fun b hb => ?_⟩
        walk_at "wp"
        by_cases hw : ∃ n, dx = .int n
        · obtain ⟨n, rfl⟩ := hw
          obtain rfl := Dp.ofInt hdx
          obtain rfl : b = true := hb
          walk_at "wp"
          refine w_ninI (seq_up hal s3) ?_
          walk_at "wp"
          have hlen : ns.length = i := by
            have e := congrArg List.length ht
            have l := (List.getElem?_eq_some_iff.mp hi).1
            rw [List.length_take, List.length_map, Nat.min_eq_left (by omega)] at e
            exact e.symm
          refine w_ifn (fun c => ?_) (fun c => ?_)
          · walk_at "wp"
            rw [rf_int, if_neg (fun z => c z.1)] at hrf
            have z := q' _ s3
            rw [hrf] at z
            exact z
          · walk_at "wp"
            refine w_slUInts (seq_up hx s3) (by omega) fun H4 r s4 hr4 => ?_
            rw [Int.toNat_natCast, ht] at hr4
            refine w_inI hr4 ?_
            walk_at "wp"
            refine w_if (fun c2 => ?_) (fun c2 => ?_)
            · walk_at "wp"
              rw [rf_int, if_neg (fun z => z.2 c2)] at hrf
              have z := q' _ (s3.trans s4)
              rw [hrf] at z
              exact z
            · walk_at "wp"
              rw [rf_int, if_pos ⟨c, c2⟩] at hrf
              exact ⟨ns ++ [n], _, _, rfl, (s2.trans (same_new hT)).trans s4, by rw [take_at hi, ht, List.map_append]; rfl, hrf⟩
        · have hodd : ∀ n, dx ≠ .int n := fun n e => hw ⟨n, e⟩
          obtain rfl : b = false := hb.trans (by cases dx <;> first | rfl | exact absurd rfl (hodd _))
          walk_at "wp"
          rw [rf_odd hodd] at hrf
          have z := q' _ s3
          rw [hrf] at z
          exact z
      · obtain ⟨ns, y, z, rfl, s2, ht, hrf⟩ := h
        rw [List.drop_of_length_le (by rw [← DpAll.length hds]; omega)] at hrf
        walk_at "wp"
        have z := q' _ (s1.trans s2)
        rw [hrf] at z
        exact z
    · obtain rfl := hb.trans e2
      walk_at "wp"
      have z := q H1 s1
      unfold rfD at z
      rw [e1] at z
      exact z
/-! ### errors -/
def Err1 (C : Addr) (f : Str) (v : V) (H : Hp) (E : XK) : Prop := ∀ H' e, Same H H' → H' e = some (.xd [(f, v)]) → E (.ref C) (some e) H'
theorem ok_BadCount_init (T : Top K mg a) : FnOk P w K mg base CX0 1 a.f_BadCount_init a.d_BadCount_init ["self", "most"] (spIni1 a.c_BadCount "most") := by
  refine T.F_BadCount_init.ok sc_BadCount_init (fun vs H Q E h => ?_) (fun cdv A outer s H vs Q E hr h => ?_)
  · obtain ⟨e, v, rfl, _⟩ := h
    rfl
  · obtain ⟨e, v, rfl, he, q⟩ := h
    refine ⟨_, (pss_one (ps_ost (pv 0) (pv 1))), ?_⟩
    exact ⟨v, rfl, .ref e, rfl, e, a.c_BadCount, rfl, T.x_BadCount, T.no_BadCount_most, .inl ⟨he, fun d hd hda => q d hd hda⟩⟩
theorem ok_BadRow_init (T : Top K mg a) : FnOk P w K mg base CX0 1 a.f_BadRow_init a.d_BadRow_init ["self", "at"] (spIni1 a.c_BadRow "at") := by
  refine T.F_BadRow_init.ok sc_BadRow_init (fun vs H Q E h => ?_) (fun cdv A outer s H vs Q E hr h => ?_)
  · obtain ⟨e, v, rfl, _⟩ := h
    rfl
  · obtain ⟨e, v, rfl, he, q⟩ := h
    refine ⟨_, (pss_one (ps_ost (pv 0) (pv 1))), ?_⟩
    exact ⟨v, rfl, .ref e, rfl, e, a.c_BadRow, rfl, T.x_BadRow, T.no_BadRow_at, .inl ⟨he, fun d hd hda => q d hd hda⟩⟩
def spCheckCount (K : PySem.W.Frag) (a : Adr) : Sp := fun vs H Q E => ∃ (v : V) (d : PyData) (m : Int), vs = [v, .int m] ∧ Dp K H v d ∧
  (wholeB d (some 0) (some m) = true → Q v H) ∧ (wholeB d (some 0) (some m) = false → Err1 a.c_BadCount "most" (.int m) H E)
theorem ok_check_count (T : Top K mg a) : FnOk P w K mg base (L2.CX P w) 3 a.f_check_count a.d_check_count ["m", "most"] (spCheckCount K a) := by
  refine T.F_check_count.ok sc_check_count (fun vs H Q E h => ?_) (fun cdv A outer s H vs Q E hr h => ?_)
  · obtain ⟨v, d, m, rfl, _⟩ := h
    rfl
  · obtain ⟨v, d, m, rfl, hd, q1, q2⟩ := h
    refine ⟨_, (pss_cons (ps_if (pt_not (pt_val (pe_call (ok_is_whole T) (hr.mono (by decide)) (by rfl) T.g_is_whole T.F_is_whole.kp (bD_is_whole_3 T).choose_spec.2 (bD_is_whole_3 T).choose_spec.1 pass0 (pa_cons (pv 0) (pa_cons pe_int (pa_cons (pv 1) pa_nil)))))) (pss_one (ps_raise rfl (takes_of rfl rfl rfl rfl) (pmk_oex T.x_BadCount T.in_BadCount T.ti_BadCount (ok_BadCount_init T) (hr.mono (by decide)) T.b_BadCount_init .nil pass0 (by rfl) T.gc_BadCount (pa_cons (pv 1) pa_nil)))) pss_nil) (pss_one (ps_ret (pv 0)))), ?_⟩
    walk_at "st"
    walk_at "wp"
    refine ⟨v, d, some 0, some m, rfl, hd, fun b hb => ?_⟩
    walk_at "wp"
    cases b with
    | true => walk_at "wp"; exact q1 hb.symm
    | false =>
      walk_at "wp"
      exact w_raise1 fun H' e s x => q2 hb.symm H' e s x
def spCheckRow (K : PySem.W.Frag) (a : Adr) : Sp := fun vs H Q E => ∃ (I : Hp) (v r : V) (d e : PyData), vs = [v, r] ∧ Same I H ∧ Dp K I v d ∧ Dp K I r e ∧
  (wholeB d (some 0) (some 24) = false → Err1 a.c_BadCount "most" (.int 24) H E) ∧
  (∀ m : Int, d = .int m → 0 ≤ m → m ≤ 24 → rfD (rgI m) e ≠ .non → Err1 a.c_BadRow "at" (rfD (rgI m) e) H E) ∧
  (∀ (m : Int) (ns : List Int), d = .int m → 0 ≤ m → m ≤ 24 → (e = .tuple (ns.map .int) ∨ e = .list (ns.map .int)) → ns.Nodup → (∀ n ∈ ns, 0 ≤ n ∧ n < m) →
    ∀ I' H' r', Lf No I H I' H' → Dp K I' r' (.tuple (ns.map .int)) → Q r' H')
theorem ok_check_row (T : Top K mg a) : FnOk P w K mg base (L2.CX P w) 4 a.f_check_row a.d_check_row ["m", "row"] (spCheckRow K a) := by
  refine T.F_check_row.okX sc_check_row (fun vs H Q E h => ?_) (fun cdv A outer s H vs Q E hr h => ?_)
  · obtain ⟨I, v, r, d, e, rfl, _⟩ := h
    rfl
  · obtain ⟨I, v, r, d, e, rfl, sI, hd, he, q1, q2, q3⟩ := h
    refine ⟨_, (pss_cons (ps_expr (pe_call (ok_check_count T) (hr.mono (by decide)) (by rfl) T.g_check_count T.F_check_count.kp (bD_check_count_1 T).choose_spec.2 (bD_check_count_1 T).choose_spec.1 (passes_call (takes_of rfl rfl rfl rfl) (fun _ _ _ _ h => h)) (pa_cons (pv 0) pa_nil))) (pss_cons (ps_set (i := 2) sc_check_row.nd rfl (Or.inl rfl) (pe_call (ok_row_fault T) (hr.mono (by decide)) (by rfl) T.g_row_fault T.F_row_fault.kp T.b_row_fault .nil pass0 (pa_cons (pe_listRg rfl (by rfl) T.n_list (prg_1 (by rfl) T.n_range (pv 0))) (pa_cons (pv 1) pa_nil)))) (pss_cons (ps_if (pt_cmpR op_notN' (pv 2) pe_non (nomark _)) (pss_one (ps_raise rfl (takes_of rfl rfl rfl rfl) (pmk_oex T.x_BadRow T.in_BadRow T.ti_BadRow (ok_BadRow_init T) (hr.mono (by decide)) T.b_BadRow_init .nil pass0 (by rfl) T.gc_BadRow (pa_cons (pv 2) pa_nil)))) pss_nil) (pss_one (ps_ret (pe_tupleK (K := K) rfl (by rfl) T.n_tuple (pv 1))))))), ?_⟩
    walk_at "st"
    walk_at "wp"
    refine ⟨v, d, 24, rfl, Dp.up hd sI, fun hw => ?_, q1⟩
    obtain ⟨m, rfl, m0, m1⟩ := whole_int hw
    obtain rfl := Dp.ofInt hd
    walk_at "wp"
    refine ⟨rgOk0 m0 (by omega), fun p hp => ?_⟩
    have s1 := same_new (o := .lst (rgV 0 m)) hp
    walk_at "wp"
    refine ⟨p, r, rgI m, e, rfl, .inl (ofL (by rw [upd_same, rgV_rgI])), Dp.up he (sI.trans s1), fun H2 s2 => ?_⟩
    walk_at "wp"
    by_cases hn : rfD (rgI m) e = .non
    · rw [show decide (rfD (rgI m) e = .non) = true from decide_eq_true hn]
      walk_at "wp"
      obtain ⟨ns, he2, hnd, hin⟩ := rfD_none hn
      exact w_tupOfD (sI.trans (s1.trans s2)) (he2.elim (fun z => .inl (z ▸ he)) (fun z => .inr (z ▸ he))) (fun I' H' v' f dd => q3 m ns rfl m0 m1 he2 hnd (fun n h => mem_rgI.mp (hin n h)) I' H' v' ((Lf.ofSame sI (s1.trans s2)).trans f) dd)
    · rw [show decide (rfD (rgI m) e = .non) = false from decide_eq_false hn]
      walk_at "wp"
      exact w_raise1 fun H' x s3 hx => q2 m rfl m0 m1 hn H' x ((s1.trans s2).trans s3) hx
end
section
variable {P : Program} {w : World} {K : PySem.W.Frag} {mg : Str → Option Value} {base : Heap} {a : Adr}
/-! ### numbers of rows -/
def fallI (m : Int) : Nat → Int
  | 0 => 1
  | d + 1 => fallI m d * (m - d)
theorem fall_succ : ∀ (d : Nat) (m : Int), fallI m (d + 1) = m * fallI (m - 1) d
  | 0, m => by simp [fallI]
  | d + 1, m => by
    rw [show fallI m (d + 1 + 1) = fallI m (d + 1) * (m - ((d + 1 : Nat) : Int)) from rfl, fall_succ d m]
    rw [show fallI (m - 1) (d + 1) = fallI (m - 1) d * (m - 1 - (d : Nat)) from rfl, Int.mul_assoc]
    congr 2
    omega
theorem fall_pos : ∀ (d : Nat) (m : Int), (d : Int) ≤ m → 0 < fallI m d
  | 0, _, _ => (by decide : (0 : Int) < 1)
  | d + 1, m, h => Int.mul_pos (fall_pos d m (by omega)) (by omega)
theorem fall_bound : ∀ (d : Nat) (m : Int), (d : Int) ≤ m → m ≤ 31 → (fallI m d).natAbs < 2 ^ (5 * d + 1)
  | 0, _, _, _ => (by decide : (1 : Int).natAbs < 2 ^ 1)
  | d + 1, m, h, h2 => by
    show (fallI m d * (m - d)).natAbs < _
    rw [Int.natAbs_mul]
    have h1 := fall_bound d m (by omega) h2
    have h3 : (m - (d : Int)).natAbs ≤ 31 := by omega
    calc (fallI m d).natAbs * (m - (d : Int)).natAbs ≤ (fallI m d).natAbs * 31 := Nat.mul_le_mul_left _ h3
      _ ≤ 2 ^ (5 * d + 1) * 31 := Nat.mul_le_mul_right _ (Nat.le_of_lt h1)
      _ < 2 ^ (5 * d + 1) * 32 := Nat.mul_lt_mul_of_pos_left (by decide) (Nat.pow_pos (by decide))
      _ = 2 ^ (5 * (d + 1) + 1) := by rw [show 5 * (d + 1) + 1 = (5 * d + 1) + 5 by omega, Nat.pow_add 2 (5 * d + 1) 5]
def spWays : Sp := fun vs H Q _ => ∃ m d : Int, vs = [.int m, .int d] ∧ -1000 ≤ m ∧ m ≤ 1000 ∧ 0 ≤ d ∧ d ≤ 1000 ∧ Q (.int (fallI m d.toNat)) H
theorem ok_ways_of (T : Top K mg a) : FnOk P w K mg base CX0 1 a.f_ways_of a.d_ways_of ["m", "d"] spWays := by
  refine T.F_ways_of.ok sc_ways_of (fun vs H Q E h => ?_) (fun cdv A outer s H vs Q E hr h => ?_)
  · obtain ⟨m, d, rfl, _⟩ := h
    rfl
  · obtain ⟨m, d, rfl, m0, m1, d0, d1, q⟩ := h
    refine ⟨_, (pss_cons (ps_set (i := 2) sc_ways_of.nd rfl (Or.inl rfl) pe_int) (pss_cons (ps_for PassesOwn.never rfl (pi_range1 (by rfl) T.n_range (pa_cons (pv 1) pa_nil)) (pg_name (i := 3) sc_ways_of.nd rfl (Or.inl rfl)) (pss_one (ps_set (i := 2) sc_ways_of.nd rfl (Or.inl rfl) (pe_op op_mul (pv 2) (pe_op op_sub (pv 0) (pv 3)))))) (pss_one (ps_ret (pv 2))))), ?_⟩
    walk_at "st"
    walk_at "wp"
    refine w_forR1 d0 (by omega) (fun i σ H' => ∃ y : Option V, σ = [some (.int m), some (.int d), some (.int (fallI m i)), y] ∧ H' = H) (fun Q q => ?_) ⟨none, rfl, rfl⟩ (fun i σ H' hi h => ?_) (fun σ H' h => ?_)
    · walk_at "wp"
      exact q
    · obtain ⟨y, rfl, rfl⟩ := h
      refine w_name ?_
      simp only [List.set_cons_zero, List.set_cons_succ]
      walk_at "wp"
      exact ⟨_, rfl, rfl⟩
    · obtain ⟨y, rfl, rfl⟩ := h
      walk_at "wp"
      exact q
def spCountFall (K : PySem.W.Frag) (a : Adr) : Sp := fun vs H Q E => ∃ (v u : V) (d e : PyData), vs = [v, u] ∧ Dp K H v d ∧ Dp K H u e ∧
  (wholeB d (some 0) (some 24) = false ∨ wholeB e (some 0) (some 24) = false → Err1 a.c_BadCount "most" (.int 24) H E) ∧
  (∀ m k : Int, d = .int m → e = .int k → 0 ≤ m → m ≤ 24 → 0 ≤ k → k ≤ 24 → Q (.int (if k ≤ m then fallI m k.toNat else 0)) H)
theorem ok_count_falling (T : Top K mg a) : FnOk P w K mg base (L2.CX P w) 4 a.f_count_falling a.d_count_falling ["m", "d"] (spCountFall K a) := by
  refine T.F_count_falling.okX sc_count_falling (fun vs H Q E h => ?_) (fun cdv A outer s H vs Q E hr h => ?_)
  · obtain ⟨v, u, d, e, rfl, _⟩ := h
    rfl
  · obtain ⟨v, u, d, e, rfl, hd, he, q1, q2⟩ := h
    refine ⟨_, (pss_cons (ps_expr (pe_call (ok_check_count T) (hr.mono (by decide)) (by rfl) T.g_check_count T.F_check_count.kp (bD_check_count_1 T).choose_spec.2 (bD_check_count_1 T).choose_spec.1 (passes_call (takes_of rfl rfl rfl rfl) (fun _ _ _ _ h => h)) (pa_cons (pv 0) pa_nil))) (pss_cons (ps_expr (pe_call (ok_check_count T) (hr.mono (by decide)) (by rfl) T.g_check_count T.F_check_count.kp (bD_check_count_1 T).choose_spec.2 (bD_check_count_1 T).choose_spec.1 (passes_call (takes_of rfl rfl rfl rfl) (fun _ _ _ _ h => h)) (pa_cons (pv 1) pa_nil))) (pss_one (ps_ret (pe_ifExp (pt_cmpR op_le (pv 1) (pv 0) (nomark _)) (pe_call (ok_ways_of T) (hr.mono (by decide)) (by rfl) T.g_ways_of T.F_ways_of.kp T.b_ways_of .nil pass0 (pa_cons (pv 0) (pa_cons (pv 1) pa_nil))) pe_int))))), ?_⟩
    walk_at "st"
    walk_at "wp"
    refine ⟨v, d, 24, rfl, hd, fun hw => ?_, fun h => q1 (.inl h)⟩
    obtain ⟨m, rfl, m0, m1⟩ := whole_int hw
    obtain rfl := Dp.ofInt hd
    walk_at "wp"
    refine ⟨u, e, 24, rfl, he, fun hw => ?_, fun h => q1 (.inr h)⟩
    obtain ⟨k, rfl, k0, k1⟩ := whole_int hw
    obtain rfl := Dp.ofInt he
    have z := q2 m k rfl rfl m0 m1 k0 k1
    walk_at "wp"
    refine w_if (fun c => ?_) (fun c => ?_)
    · walk_at "wp"
      refine ⟨m, k, rfl, by omega, by omega, by omega, by omega, ?_⟩
      rw [if_pos c] at z
      exact z
    · walk_at "wp"
      rw [if_neg c] at z
      exact z
def sumFall (m : Int) (n : Nat) : Int := ((List.range n).map fun d => fallI m d).sum
theorem sumFall_succ (m : Int) (n : Nat) : sumFall m (n + 1) = sumFall m n + fallI m n := by
  unfold sumFall
  rw [List.range_succ, List.map_append, List.sum_append]
  simp
def allI (m : Int) : Int := sumFall m (m.toNat + 1)
theorem w_sum {H : Hp} {Q : VK} {p : Addr} {ns : List Int} (h : SqL K H p (ns.map V.int)) (q : Q (.int ns.sum) H) : rSum K [.ref p] H Q := ⟨p, ns, rfl, h, q⟩
def spCountAll (K : PySem.W.Frag) (a : Adr) : Sp := fun vs H Q E => ∃ (v : V) (d : PyData), vs = [v] ∧ Dp K H v d ∧
  (wholeB d (some 0) (some 24) = false → Err1 a.c_BadCount "most" (.int 24) H E) ∧
  (∀ m : Int, d = .int m → 0 ≤ m → m ≤ 24 → ∀ H', Same H H' → Q (.int (allI m)) H')
theorem ok_count_all_rows (T : Top K mg a) : FnOk P w K mg base (L2.CX P w) 4 a.f_count_all_rows a.d_count_all_rows ["m"] (spCountAll K a) := by
  refine T.F_count_all_rows.okX sc_count_all_rows (fun vs H Q E h => ?_) (fun cdv A outer s H vs Q E hr h => ?_)
  · obtain ⟨v, d, rfl, _⟩ := h
    rfl
  · obtain ⟨v, d, rfl, hd, q1, q2⟩ := h
    refine ⟨_, (pss_cons (ps_expr (pe_call (ok_check_count T) (hr.mono (by decide)) (by rfl) T.g_check_count T.F_check_count.kp (bD_check_count_1 T).choose_spec.2 (bD_check_count_1 T).choose_spec.1 (passes_call (takes_of rfl rfl rfl rfl) (fun _ _ _ _ h => h)) (pa_cons (pv 0) pa_nil))) (pss_one (ps_ret (pe_callB (cr_sum rfl) (by rfl) T.n_sum (by decide +kernel) (pa_cons (pe_lc (own := [("d", 1)]) (g := gName 1) (by rfl) sc_count_all_rows.nd (pi_range1 (by rfl) T.n_range (pa_cons (pe_op op_add (pv 0) pe_int) pa_nil)) (blkOk_by (own := [("d", 1)]) (N := ["m", "d"]) (sc := defScope s_count_all_rows) (by decide +kernel)) (fun _ _ _ _ _ => (pg_name (i := 1) sc_count_all_rows.nd rfl (Or.inl rfl))) (fun _ _ _ _ _ => pts_nil) (fun _ _ _ _ _ => (pe_call (ok_ways_of T) (hr.mono (by decide)) (by rfl) T.g_ways_of T.F_ways_of.kp T.b_ways_of .nil pass0 (pa_cons (pv 0) (pa_cons (pv 1) pa_nil))))) pa_nil))))), ?_⟩
    walk_at "st"
    walk_at "wp"
    refine ⟨v, d, 24, rfl, hd, fun hw => ?_, q1⟩
    obtain ⟨m, rfl, m0, m1⟩ := whole_int hw
    obtain rfl := Dp.ofInt hd
    walk_at "wp"
    refine w_compR (K := K) (I := H) (M := No) (m := m + 1) (by omega) (by omega) (fun Q q => ?_)
      (CompOk.pure (fun k => .int (fallI m k)) (Same.refl H) (fun b h => h.elim) (small1000 (by omega)) (fun k I5 H5 R hk f5 hR => ?_) (fun I5 H5 E vs f5 e1 e2 e3 hv => ?_))
    · walk_at "wp"
      exact q
    · simp only [List.set_cons_zero, List.set_cons_succ]
      walk_at "wp"
      refine ⟨m, (k : Nat), rfl, by omega, by omega, by omega, by omega, ?_⟩
      exact hR _ I5 H5 (Lf.refl f5.sub) (by rw [Int.toNat_natCast]; exact .int _)
    · have e4 : (m + 1).toNat = m.toNat + 1 := by omega
      rw [e4] at hv
      have hv2 : DpAll K I5 vs (((List.range (m.toNat + 1)).map fun d => fallI m d).map PyData.int) := by rw [List.map_map]; exact hv
      obtain rfl := DpAll.isInts hv2
      walk_at "wp"
      refine w_sum (ofL e3) ?_
      exact q2 m rfl m0 m1 _ f5.same
end
section
variable {P : Program} {w : World} {K : PySem.W.Frag} {mg : Str → Option Value} {base : Heap} {a : Adr}
def tupI (ns : List Int) : PyData := .tuple (ns.map .int)
/-- where n stands first -/
def posI : List Int → Int → Nat
  | [], _ => 0
  | m :: r, n => if m = n then 0 else posI r n + 1
theorem posI_get : ∀ {ns : List Int} {n : Int}, n ∈ ns → ns[posI ns n]? = some n ∧ ∀ m, m < posI ns n → ns[m]? ≠ some n
  | m :: r, n, h => by
    unfold posI
    by_cases e : m = n
    · rw [if_pos e]
      exact ⟨by rw [e]; rfl, fun k hk => absurd hk (by omega)⟩
    · rw [if_neg e]
      have h' : n ∈ r := by
        rcases List.mem_cons.mp h with z | z
        · exact absurd z.symm e
        · exact z
      have ih := posI_get h'
      refine ⟨by simpa using ih.1, fun k hk => ?_⟩
      cases k with
      | zero => simpa using e
      | succ k => simpa using ih.2 k (by omega)
theorem posI_lt {ns : List Int} {n : Int} (h : n ∈ ns) : posI ns n < ns.length := (List.getElem?_eq_some_iff.mp (posI_get h).1).1
theorem posI_nodup : ∀ {ns : List Int} {i : Nat} (h : ns.Nodup) (hi : i < ns.length), posI ns ns[i] = i
  | m :: r, 0, _, _ => by simp [posI]
  | m :: r, i + 1, h, hi => by
    have hi' : i < r.length := by simpa using hi
    have hn : m ≠ r[i] := by
      rw [List.nodup_cons] at h
      intro e
      exact h.1 (e ▸ List.getElem_mem hi')
    show posI (m :: r) r[i] = i + 1
    unfold posI
    rw [if_neg hn, posI_nodup (List.nodup_cons.mp h).2 hi']
/-- the rest when n is taken out -/
theorem mem_erase {ls : List Int} {n x : Int} (hd : ls.Nodup) (hn : n ∈ ls) : x ∈ ls.eraseIdx (posI ls n) ↔ x ∈ ls ∧ x ≠ n := by
  induction ls with
  | nil => cases hn
  | cons m r ih =>
    have hd' := List.nodup_cons.mp hd
    unfold posI
    by_cases e : m = n
    · subst e
      rw [if_pos rfl, List.eraseIdx_cons_zero]
      constructor
      · intro h
        exact ⟨List.mem_cons_of_mem _ h, fun e => hd'.1 (e ▸ h)⟩
      · rintro ⟨h, hx⟩
        rcases List.mem_cons.mp h with h | h
        · exact absurd h hx
        · exact h
    · rw [if_neg e, List.eraseIdx_cons_succ, List.mem_cons]
      have hn' : n ∈ r := by
        rcases List.mem_cons.mp hn with h | h
        · exact absurd h.symm e
        · exact h
      rw [ih hd'.2 hn', List.mem_cons]
      constructor
      · rintro (h | ⟨h, h2⟩)
        · exact ⟨.inl h, by rw [h]; exact e⟩
        · exact ⟨.inr h, h2⟩
      · rintro ⟨h | h, h2⟩
        · exact .inl h
        · exact .inr ⟨h, h2⟩
theorem erase_nodup {ls : List Int} {i : Nat} (hd : ls.Nodup) : (ls.eraseIdx i).Nodup := hd.sublist (List.eraseIdx_sublist _ _)
theorem erase_len {ls : List Int} {i : Nat} (h : i < ls.length) : (ls.eraseIdx i).length = ls.length - 1 := by rw [List.length_eraseIdx, if_pos h]
def rankI : List Int → List Int → Int
  | _, [] => 0
  | left, n :: ns => (posI left n : Nat) * fallI ((left.length : Int) - 1) ns.length + rankI (left.eraseIdx (posI left n)) ns
def unrankI : List Int → Nat → Int → List Int
  | _, 0, _ => []
  | left, d + 1, p => left.getD (p / fallI ((left.length : Int) - 1) d).toNat 0 :: unrankI (left.eraseIdx (p / fallI ((left.length : Int) - 1) d).toNat) d (p % fallI ((left.length : Int) - 1) d)
theorem rank_range : ∀ (ns left : List Int), left.Nodup → ns.Nodup → (∀ n ∈ ns, n ∈ left) → 0 ≤ rankI left ns ∧ rankI left ns < fallI left.length ns.length
  | [], left, _, _, _ => ⟨(by decide : (0 : Int) ≤ 0), (by decide : (0 : Int) < 1)⟩
  | n :: ns, left, hl, hn, hin => by
    have hn' := List.nodup_cons.mp hn
    have hm := hin n (by simp)
    have hp := posI_lt hm
    have hin' : ∀ x ∈ ns, x ∈ left.eraseIdx (posI left n) := fun x hx => (mem_erase hl hm).mpr ⟨hin x (by simp [hx]), fun e => hn'.1 (e ▸ hx)⟩
    have ih := rank_range ns (left.eraseIdx (posI left n)) (erase_nodup hl) hn'.2 hin'
    rw [erase_len hp] at ih
    have e1 : ((left.length - 1 : Nat) : Int) = (left.length : Int) - 1 := by omega
    rw [e1] at ih
    show 0 ≤ ((posI left n : Nat) : Int) * fallI ((left.length : Int) - 1) ns.length + rankI (left.eraseIdx (posI left n)) ns ∧ _ < fallI left.length (ns.length + 1)
    rw [fall_succ]
    have b0 : 0 ≤ fallI ((left.length : Int) - 1) ns.length := by omega
    refine ⟨Int.add_nonneg (Int.mul_nonneg (by omega) b0) ih.1, ?_⟩
    have h2 : ((posI left n : Nat) : Int) + 1 ≤ left.length := by omega
    have h3 := Int.mul_le_mul_of_nonneg_right h2 b0
    rw [Int.add_mul, Int.one_mul] at h3
    show _ + _ < _
    omega
theorem div_of {i b r : Int} (h0 : 0 ≤ r) (h1 : r < b) : (i * b + r) / b = i ∧ (i * b + r) % b = r := by
  have hb : 0 < b := by omega
  refine ⟨?_, ?_⟩
  · rw [Int.add_comm, Int.add_mul_ediv_right _ _ (by omega), Int.ediv_eq_zero_of_lt h0 h1, Int.zero_add]
  · rw [Int.add_comm, Int.add_mul_emod_self_right, Int.emod_eq_of_lt h0 h1]
theorem unrank_rank : ∀ (ns left : List Int), left.Nodup → ns.Nodup → (∀ n ∈ ns, n ∈ left) → unrankI left ns.length (rankI left ns) = ns
  | [], _, _, _, _ => rfl
  | n :: ns, left, hl, hn, hin => by
    have hn' := List.nodup_cons.mp hn
    have hm := hin n (by simp)
    have hp := posI_lt hm
    have hin' : ∀ x ∈ ns, x ∈ left.eraseIdx (posI left n) := fun x hx => (mem_erase hl hm).mpr ⟨hin x (by simp [hx]), fun e => hn'.1 (e ▸ hx)⟩
    have hr := rank_range ns (left.eraseIdx (posI left n)) (erase_nodup hl) hn'.2 hin'
    rw [erase_len hp] at hr
    have e1 : ((left.length - 1 : Nat) : Int) = (left.length : Int) - 1 := by omega
    rw [e1] at hr
    have hd := div_of (i := ((posI left n : Nat) : Int)) hr.1 hr.2
    show left.getD ((((posI left n : Nat) : Int) * fallI ((left.length : Int) - 1) ns.length + rankI (left.eraseIdx (posI left n)) ns) / fallI ((left.length : Int) - 1) ns.length).toNat 0 ::
      unrankI (left.eraseIdx ((((posI left n : Nat) : Int) * fallI ((left.length : Int) - 1) ns.length + rankI (left.eraseIdx (posI left n)) ns) / fallI ((left.length : Int) - 1) ns.length).toNat) ns.length
        ((((posI left n : Nat) : Int) * fallI ((left.length : Int) - 1) ns.length + rankI (left.eraseIdx (posI left n)) ns) % fallI ((left.length : Int) - 1) ns.length) = n :: ns
    rw [hd.1, hd.2, Int.toNat_natCast, unrank_rank ns _ (erase_nodup hl) hn'.2 hin', List.getD_eq_getElem?_getD, (posI_get hm).1]
    rfl
theorem w_indexL {H : Hp} {Q : VK} {p : Addr} {ns : List Int} {n : Int} (h : H p = some (.lst (ns.map V.int))) (hn : n ∈ ns) (q : Q (.int (posI ns n : Nat)) H) : rIndex K (.ref p) [.int n] H Q := by
  have z := posI_get hn
  refine ⟨p, ns.map V.int, .int n, posI ns n, .int n, rfl, rfl, ofL h, rfl, flat_ints ns, by rw [List.getElem?_map, z.1]; rfl, beq_self_eq_true n, fun m x hm hx => ?_, q⟩
  rw [List.getElem?_map] at hx
  cases e2 : ns[m]? with
  | none => rw [e2] at hx; cases hx
  | some k =>
    rw [e2] at hx
    cases hx
    show (k == n) = false
    rw [beq_eq_false_iff_ne]
    intro e3
    exact z.2 m hm (e3 ▸ e2)
def spRowPlace (K : PySem.W.Frag) (a : Adr) : Sp := fun vs H Q E => ∃ (I : Hp) (v r : V) (d e : PyData), vs = [v, r] ∧ Same I H ∧ Dp K I v d ∧ Dp K I r e ∧
  (wholeB d (some 0) (some 24) = false → Err1 a.c_BadCount "most" (.int 24) H E) ∧
  (∀ m : Int, d = .int m → 0 ≤ m → m ≤ 24 → rfD (rgI m) e ≠ .non → Err1 a.c_BadRow "at" (rfD (rgI m) e) H E) ∧
  (∀ (m : Int) (ns : List Int), d = .int m → 0 ≤ m → m ≤ 24 → (e = .tuple (ns.map .int) ∨ e = .list (ns.map .int)) → ns.Nodup → (∀ n ∈ ns, 0 ≤ n ∧ n < m) →
    ∀ H', Same H H' → Q (.int (rankI (rgI m) ns)) H')
theorem rgI_nodup (m : Int) : (rgI m).Nodup := by
  unfold rgI
  rw [List.Nodup, List.pairwise_map]
  refine List.Pairwise.imp ?_ (List.nodup_range (n := m.toNat))
  intro a b h e
  omega
theorem rgI_len (m : Int) : (rgI m).length = m.toNat := by simp [rgI]
theorem ok_row_place (T : Top K mg a) : FnOk P w K mg base (L2.CX P w) 5 a.f_row_place a.d_row_place ["m", "row"] (spRowPlace K a) := by
  refine T.F_row_place.okX sc_row_place (fun vs H Q E h => ?_) (fun cdv A outer s H vs Q E hr h => ?_)
  · obtain ⟨I, v, r, d, e, rfl, _⟩ := h
    rfl
  · obtain ⟨I, v, r, d, e, rfl, sI, hd, he, q1, q2, q3⟩ := h
    refine ⟨_, (pss_cons (ps_set (i := 1) sc_row_place.nd rfl (Or.inl rfl) (pe_call (ok_check_row T) (hr.mono (by decide)) (by rfl) T.g_check_row T.F_check_row.kp T.b_check_row .nil (passes_call (takes_of rfl rfl rfl rfl) (fun _ _ _ _ h => h)) (pa_cons (pv 0) (pa_cons (pv 1) pa_nil)))) (pss_cons (ps_set (i := 2) sc_row_place.nd rfl (Or.inl rfl) (pe_listRg rfl (by rfl) T.n_list (prg_1 (by rfl) T.n_range (pv 0)))) (pss_cons (ps_set (i := 3) sc_row_place.nd rfl (Or.inl rfl) pe_int) (pss_cons (ps_for PassesOwn.leaving rfl (pi_enumK (K := K) rfl (by rfl) T.n_enumerate (pa_cons (pv 1) pa_nil)) (pg_tup rfl (pgs_cons (pg_name (i := 4) sc_row_place.nd rfl (Or.inl rfl)) (pgs_cons (pg_name (i := 5) sc_row_place.nd rfl (Or.inl rfl)) pgs_nil))) (pss_cons (ps_set (i := 6) sc_row_place.nd rfl (Or.inl rfl) (pe_bm PySem.F.plainAttrs_list PySem.F.slot_list_index PySem.F.type_list_index (mt_indexK (K := K) rfl) (pv 2) (pa_cons (pv 5) pa_nil))) (pss_cons (ps_aug (i := 3) sc_row_place.nd rfl (Or.inl rfl) (pe_op op_mul (pv 6) (pe_call (ok_ways_of T) (hr.mono (by decide)) (by rfl) T.g_ways_of T.F_ways_of.kp T.b_ways_of .nil pass0 (pa_cons (pe_op op_sub (pe_op op_sub (pv 0) (pv 4)) pe_int) (pa_cons (pe_op op_sub (pe_op op_sub (pe_callB (call_lenK (K := K) rfl) (by rfl) T.n_len (by decide +kernel) (pa_cons (pv 1) pa_nil)) (pv 4)) pe_int) pa_nil)))) ip_add) (pss_one (ps_expr (pe_bm PySem.F.plainAttrs_list PySem.F.slot_list_pop PySem.F.type_list_pop mt_popAt (pv 2) (pa_cons (pv 6) pa_nil))))))) (pss_one (ps_ret (pv 3))))))), ?_⟩
    walk_at "st"
    walk_at "wp"
    refine ⟨I, v, r, d, e, rfl, sI, hd, he, q1, q2, fun m ns e1 m0 m1 e2 hnd hin I1 H1 r' f1 dr => ?_⟩
    subst e1
    obtain rfl := Dp.ofInt hd
    obtain ⟨p, xs, rfl, hp, hxs⟩ := Dp.tupRef dr
    obtain rfl := DpAll.isInts hxs
    walk_at "wp"
    refine ⟨rgOk0 m0 (by omega), fun l hl => ?_⟩
    walk_at "wp"
    have lN : I1 l = none := Same.sub f1.sub hl
    have lH : H l = none := f1.free hl
    have f2 := f1.trans (Lf.alloc (o := .lst (rgV 0 m)) f1.sub hl)
    have lns : ns.length ≤ m.toNat := by
      have z := hnd.length_le_of_subset (l₂ := rgI m) (fun x hx => mem_rgI.mpr (hin x hx))
      rw [rgI_len] at z
      exact z
    refine w_forEnumI (I := I1) (.inr hp) (fun i σ H' => ∃ (lft : List Int) (pl : Int) (y1 y2 y3 : Option V), σ = [some (.int m), some (.ref p), some (.ref l), some (.int pl), y1, y2, y3] ∧ Lf No I H I1 H' ∧
      H' l = some (.lst (lft.map V.int)) ∧ pl + rankI lft (ns.drop i) = rankI (rgI m) ns ∧ lft.length + i = m.toNat ∧ lft.Nodup ∧ ∀ n ∈ ns.drop i, n ∈ lft) (fun Q q => ⟨_, rfl, q⟩)
      ⟨rgI m, 0, none, none, none, rfl, f2, by rw [upd_same, rgV_rgI], by rw [Int.zero_add]; rfl, rgI_len m, rgI_nodup m, fun n hn => mem_rgI.mpr (hin n hn)⟩
      (fun i σ H' _ h => ?_) (fun i x Tp σ H' hi h hT => ?_) (fun σ H' h => ?_)
    · obtain ⟨_, _, _, _, _, _, f, _⟩ := h
      exact f.sub
    · obtain ⟨lft, pl, y1, y2, y3, rfl, f, hL, hp', hl', hnl, hml⟩ := h
      have hi' : i < ns.length := by simpa using (List.getElem?_eq_some_iff.mp hi).1
      rw [get_map hi'] at hi
      obtain rfl := Option.some.inj hi
      have ed := drop_at (List.getElem?_eq_getElem hi')
      rw [ed] at hp'
      have hm := hml ns[i] (by rw [ed]; exact List.mem_cons_self)
      have hpos := posI_lt hm
      have hnd2 : (ns[i] :: ns.drop (i + 1)).Nodup := by rw [← ed]; exact hnd.sublist (List.drop_sublist _ _)
      have ne : Tp ≠ l := fun z => by rw [z, hL] at hT; cases hT
      have f3 : Lf No I H I1 (upd H' Tp (.tup [.int (i : Nat), .int ns[i]])) := f.trans (Lf.alloc f.sub hT)
      have hL3 : upd H' Tp (.tup [.int (i : Nat), .int ns[i]]) l = some (.lst (lft.map V.int)) := by rw [upd_ne ne.symm]; exact hL
      refine w_gpair upd_same ?_
      simp only [List.set_cons_zero, List.set_cons_succ]
      walk_at "wp"
      refine w_tyL hL3 ?_
      walk_at "wp"
      refine w_indexL hL3 hm ?_
      walk_at "wp"
      refine w_lenS (.inr (Same.seqT f3.sub hp)) ?_
      rw [List.length_map]
      walk_at "wp"
      refine ⟨m - (i : Nat) - 1, (ns.length : Int) - (i : Nat) - 1, rfl, by omega, by omega, by omega, by omega, ?_⟩
      walk_at "wp"
      refine w_tyL hL3 ?_
      walk_at "wp"
      refine (w_popInts (K := K) hL3 (by omega) (by omega) (small1000 (by omega)) fun z hz => ?_).2
      walk_at "wp"
      have e5 : (((ns.length : Int) - (i : Nat) - 1).toNat) = (ns.drop (i + 1)).length := by rw [List.length_drop]; omega
      have e6 : m - (i : Nat) - 1 = (lft.length : Int) - 1 := by omega
      refine ⟨lft.eraseIdx (posI lft ns[i]), _, _, _, _, rfl, Lf.set f3 lH hL3 lN, by rw [upd_same, Int.toNat_natCast], ?_, by rw [erase_len hpos]; omega, erase_nodup hnl, fun n hn => ?_⟩
      · rw [← hp', e5, e6, Int.add_assoc]
        rfl
      · rw [List.nodup_cons] at hnd2
        exact (mem_erase hnl hm).mpr ⟨hml n (by rw [ed]; exact List.mem_cons_of_mem _ hn), fun e => hnd2.1 (e ▸ hn)⟩
    · obtain ⟨lft, pl, y1, y2, y3, rfl, f, hL, hp', hl', hnl, hml⟩ := h
      rw [List.length_map, List.drop_length] at hp'
      walk_at "wp"
      rw [show pl = rankI (rgI m) ns by rw [← hp']; show pl = pl + 0; omega]
      exact q3 m ns rfl m0 m1 e2 hnd hin _ f.same
end
section
variable {P : Program} {w : World} {K : PySem.W.Frag} {mg : Str → Option Value} {base : Heap} {a : Adr}
def spOfPlace (K : PySem.W.Frag) : Sp := fun vs H Q _ => ∃ (I : Hp) (m d p : Int), vs = [.int m, .int d, .int p] ∧ Same I H ∧ 0 ≤ d ∧ d ≤ m ∧ m ≤ 24 ∧ 0 ≤ p ∧ p < fallI m d.toNat ∧
  ∀ I' H' r, Lf No I H I' H' → Dp K I' r (tupI (unrankI (rgI m) d.toNat p)) → Q r H'
theorem ok_row_of_place (T : Top K mg a) : FnOk P w K mg base CX0 2 a.f_row_of_place a.d_row_of_place ["m", "d", "place"] (spOfPlace K) := by
  refine T.F_row_of_place.ok sc_row_of_place (fun vs H Q E h => ?_) (fun cdv A outer s H vs Q E hr h => ?_)
  · obtain ⟨I, m, d, p, rfl, _⟩ := h
    rfl
  · obtain ⟨I, m, d, p, rfl, sI, d0, dm, m1, p0, p1, q⟩ := h
    refine ⟨_, (pss_cons (ps_set (i := 3) sc_row_of_place.nd rfl (Or.inl rfl) (pe_listRg rfl (by rfl) T.n_list (prg_1 (by rfl) T.n_range (pv 0)))) (pss_cons (ps_set (i := 4) sc_row_of_place.nd rfl (Or.inl rfl) (pe_lst pa_nil)) (pss_cons (ps_for PassesOwn.never rfl (pi_range1 (by rfl) T.n_range (pa_cons (pv 1) pa_nil)) (pg_name (i := 5) sc_row_of_place.nd rfl (Or.inl rfl)) (pss_cons (ps_set (i := 6) sc_row_of_place.nd rfl (Or.inl rfl) (pe_call (ok_ways_of T) (hr.mono (by decide)) (by rfl) T.g_ways_of T.F_ways_of.kp T.b_ways_of .nil pass0 (pa_cons (pe_op op_sub (pe_op op_sub (pv 0) (pv 5)) pe_int) (pa_cons (pe_op op_sub (pe_op op_sub (pv 1) (pv 5)) pe_int) pa_nil)))) (pss_cons (ps_expr (pe_bm PySem.F.plainAttrs_list PySem.F.slot_list_append PySem.F.type_list_append mt_append (pv 4) (pa_cons (pe_bm PySem.F.plainAttrs_list PySem.F.slot_list_pop PySem.F.type_list_pop mt_popAt (pv 3) (pa_cons (pe_op op_fdivW (pv 2) (pv 6)) pa_nil)) pa_nil))) (pss_one (ps_set (i := 2) sc_row_of_place.nd rfl (Or.inl rfl) (pe_op op_mod (pv 2) (pv 6))))))) (pss_one (ps_ret (pe_tupleK (K := K) rfl (by rfl) T.n_tuple (pv 4))))))), ?_⟩
    walk_at "st"
    walk_at "wp"
    refine ⟨rgOk0 (by omega) (by omega), fun l hl => ?_⟩
    have f1 : Lf No I H I (upd H l (.lst (rgV 0 m))) := Lf.alloc sI hl
    have lN : I l = none := Same.sub sI hl
    walk_at "wp"
    refine ⟨by show 0 ≤ sizeLine; decide, fun r hr0 => ?_⟩
    walk_at "wp"
    have rN : I r = none := Same.sub f1.sub hr0
    have hr' : H r = none := f1.free hr0
    have ne3 : l ≠ r := by
      intro z
      subst z
      rw [upd_same] at hr0
      cases hr0
    have f2 := f1.trans (Lf.alloc (o := .lst []) f1.sub hr0)
    refine w_forR1 d0 (by omega) (fun i σ H' => ∃ (y1 y2 : Option V) (ls ks : List Int) (pl : Int), σ = [some (.int m), some (.int d), some (.int pl), some (.ref l), some (.ref r), y1, y2] ∧ Lf No I H I H' ∧
      H' l = some (.lst (ls.map V.int)) ∧ H' r = some (.lst (ks.map V.int)) ∧ ks ++ unrankI ls (d.toNat - i) pl = unrankI (rgI m) d.toNat p ∧ ls.length + i = m.toNat ∧ ks.length = i ∧ 0 ≤ pl ∧ pl < fallI (m - i) (d.toNat - i)) (fun Q q => ?_)
      ⟨none, none, rgI m, [], p, rfl, f2, by rw [upd_ne ne3, upd_same, rgV_rgI], upd_same, rfl, rgI_len m, rfl, p0, by show p < fallI (m - 0) d.toNat; rw [Int.sub_zero]; exact p1⟩
      (fun i σ H' hi h => ?_) (fun σ H' h => ?_)
    · walk_at "wp"
      exact q
    · obtain ⟨y1, y2, ls, ks, pl, rfl, f, hL, hR, hu, lls, lks, pl0, pl1⟩ := h
      refine w_name ?_
      simp only [List.set_cons_zero, List.set_cons_succ]
      walk_at "wp"
      refine ⟨m - (i : Nat) - 1, d - (i : Nat) - 1, rfl, by omega, by omega, by omega, by omega, ?_⟩
      walk_at "wp"
      have e1 : (d - (i : Nat) - 1).toNat = d.toNat - (i + 1) := by omega
      have e2 : d.toNat - i = (d.toNat - (i + 1)) + 1 := by omega
      have e3 : m - (i : Nat) - 1 = (ls.length : Int) - 1 := by omega
      obtain ⟨b, hb⟩ : ∃ b, fallI (m - (i : Nat) - 1) (d.toNat - (i + 1)) = b := ⟨_, rfl⟩
      have hbp : 0 < b := by rw [← hb]; exact fall_pos _ _ (by omega)
      have hbb : b.natAbs < 2 ^ (5 * (d.toNat - (i + 1)) + 1) := by rw [← hb]; exact fall_bound _ _ (by omega) (by omega)
      rw [e1, hb]
      rw [e2, fall_succ, hb] at pl1
      have hq : pl / b < m - i := Int.ediv_lt_of_lt_mul hbp pl1
      have hq0 : 0 ≤ pl / b := Int.ediv_nonneg pl0 (by omega)
      refine w_tyL hR ?_
      walk_at "wp"
      refine w_tyL hL ?_
      walk_at "wp"
      refine w_rI (wide_div hbp hbb (by omega) (by omega)) ?_
      walk_at "wp"
      refine (w_popInts (K := K) hL hq0 (by omega) (small1000 (by omega)) fun z hz => ?_).2
      walk_at "wp"
      have hR5 : upd H' l (.lst ((ls.eraseIdx (pl / b).toNat).map V.int)) r = some (.lst (ks.map V.int)) := by rw [upd_ne (Ne.symm ne3)]; exact hR
      refine w_append' hR5 (by rw [List.length_map]; exact small1000 (by omega)) ?_
      walk_at "wp"
      refine ⟨_, _, ls.eraseIdx (pl / b).toNat, ks ++ [z], pl % b, rfl, Lf.set (Lf.set f hl hL lN) hr' hR5 rN, by rw [upd_ne ne3, upd_same], by rw [upd_same, List.map_append]; rfl, ?_, ?_, by rw [List.length_append, lks]; rfl, Int.emod_nonneg _ (by omega), ?_⟩
      · rw [← hu, e2]
        show ks ++ [z] ++ _ = ks ++ (ls.getD (pl / fallI ((ls.length : Int) - 1) (d.toNat - (i + 1))).toNat 0 :: unrankI (ls.eraseIdx (pl / fallI ((ls.length : Int) - 1) (d.toNat - (i + 1))).toNat) (d.toNat - (i + 1)) (pl % fallI ((ls.length : Int) - 1) (d.toNat - (i + 1))))
        rw [← e3, hb, List.getD_eq_getElem?_getD, hz, List.append_assoc]
        rfl
      · rw [erase_len (by omega)]
        omega
      · rw [show m - ((i + 1 : Nat) : Int) = m - (i : Nat) - 1 by omega, hb]
        exact Int.emod_lt_of_pos _ hbp
    · obtain ⟨y1, y2, ls, ks, pl, rfl, f, hL, hR, hu, lls, lks, pl0, pl1⟩ := h
      rw [Nat.sub_self] at hu
      have hu2 : ks = unrankI (rgI m) d.toNat p := by rw [← hu]; exact (List.append_nil _).symm
      walk_at "wp"
      refine w_tupOfL f.sub (ofL hR) (DpAll.ints _) fun I' H' q' f2 z dd => ?_
      exact q I' H' _ (f.trans f2) (by rw [← hu2]; exact .tup (TupZ.sq z) dd)
def Err0 (C : Addr) (H : Hp) (E : XK) : Prop := ∀ H', Same H H' → E (.ref C) none H'
def spRowAt (K : PySem.W.Frag) (a : Adr) : Sp := fun vs H Q E => ∃ (I : Hp) (v u t : V) (d e g : PyData), vs = [v, u, t] ∧ Same I H ∧ Dp K I v d ∧ Dp K I u e ∧ Dp K I t g ∧
  (wholeB d (some 0) (some 24) = false → Err1 a.c_BadCount "most" (.int 24) H E) ∧
  (∀ m : Int, d = .int m → 0 ≤ m → m ≤ 24 → wholeB e (some 0) (some m) = false → Err1 a.c_BadCount "most" (.int m) H E) ∧
  (∀ m k : Int, d = .int m → e = .int k → 0 ≤ k → k ≤ m → m ≤ 24 → wholeB g (some 0) (some (fallI m k.toNat - 1)) = false → Err0 a.c_BadPlace H E) ∧
  (∀ m k p : Int, d = .int m → e = .int k → g = .int p → 0 ≤ k → k ≤ m → m ≤ 24 → 0 ≤ p → p < fallI m k.toNat → ∀ I' H' r, Lf No I H I' H' → Dp K I' r (tupI (unrankI (rgI m) k.toNat p)) → Q r H')
theorem ok_row_at (T : Top K mg a) : FnOk P w K mg base (L2.CX P w) 4 a.f_row_at a.d_row_at ["m", "d", "place"] (spRowAt K a) := by
  refine T.F_row_at.okX sc_row_at (fun vs H Q E h => ?_) (fun cdv A outer s H vs Q E hr h => ?_)
  · obtain ⟨I, v, u, t, d, e, g, rfl, _⟩ := h
    rfl
  · obtain ⟨I, v, u, t, d, e, g, rfl, sI, hd, he, hg, q1, q2, q3, q4⟩ := h
    refine ⟨_, (pss_cons (ps_expr (pe_call (ok_check_count T) (hr.mono (by decide)) (by rfl) T.g_check_count T.F_check_count.kp (bD_check_count_1 T).choose_spec.2 (bD_check_count_1 T).choose_spec.1 (passes_call (takes_of rfl rfl rfl rfl) (fun _ _ _ _ h => h)) (pa_cons (pv 0) pa_nil))) (pss_cons (ps_expr (pe_call (ok_check_count T) (hr.mono (by decide)) (by rfl) T.g_check_count T.F_check_count.kp (bD_check_count_2 T).choose_spec.2 (bD_check_count_2 T).choose_spec.1 (passes_call (takes_of rfl rfl rfl rfl) (fun _ _ _ _ h => h)) (pa_cons (pv 1) (pa_cons (pv 0) pa_nil)))) (pss_cons (ps_if (pt_not (pt_val (pe_call (ok_is_whole T) (hr.mono (by decide)) (by rfl) T.g_is_whole T.F_is_whole.kp (bD_is_whole_3 T).choose_spec.2 (bD_is_whole_3 T).choose_spec.1 pass0 (pa_cons (pv 2) (pa_cons pe_int (pa_cons (pe_op op_sub (pe_call (ok_ways_of T) (hr.mono (by decide)) (by rfl) T.g_ways_of T.F_ways_of.kp T.b_ways_of .nil pass0 (pa_cons (pv 0) (pa_cons (pv 1) pa_nil))) pe_int) pa_nil)))))) (pss_one (ps_raise rfl (takes_of rfl rfl rfl rfl) (pmk_own0 PySem.F.excBase_ValueError T.xe_BadPlace T.gc_BadPlace T.kp_BadPlace (raises_own T.be_BadPlace T.ty_BadPlace) (by rfl)))) pss_nil) (pss_one (ps_ret (pe_call (ok_row_of_place T) (hr.mono (by decide)) (by rfl) T.g_row_of_place T.F_row_of_place.kp T.b_row_of_place .nil pass0 (pa_cons (pv 0) (pa_cons (pv 1) (pa_cons (pv 2) pa_nil))))))))), ?_⟩
    walk_at "st"
    walk_at "wp"
    refine ⟨v, d, 24, rfl, Dp.up hd sI, fun hw => ?_, q1⟩
    obtain ⟨m, rfl, m0, m1⟩ := whole_int hw
    obtain rfl := Dp.ofInt hd
    walk_at "wp"
    refine ⟨u, e, m, rfl, Dp.up he sI, fun hw => ?_, fun h => q2 m rfl m0 m1 h⟩
    obtain ⟨k, rfl, k0, k1⟩ := whole_int hw
    obtain rfl := Dp.ofInt he
    walk_at "wp"
    refine ⟨m, k, rfl, by omega, by omega, by omega, by omega, ?_⟩
    walk_at "wp"
    refine ⟨t, g, some 0, some (fallI m k.toNat - 1), rfl, Dp.up hg sI, fun b hb => ?_⟩
    walk_at "wp"
    cases b with
    | false =>
      walk_at "wp"
      exact q3 m k rfl rfl k0 k1 m1 hb.symm H (Same.refl H)
    | true =>
      obtain ⟨p, rfl, p0, p1⟩ := whole_int hb.symm
      obtain rfl := Dp.ofInt hg
      walk_at "wp"
      exact ⟨I, m, k, p, rfl, sI, k0, k1, m1, p0, by omega, fun I' H' r f dr => q4 m k p rfl rfl rfl k0 k1 m1 p0 (by omega) I' H' r f dr⟩
def spRowNumber (K : PySem.W.Frag) (a : Adr) : Sp := fun vs H Q E => ∃ (I : Hp) (v r : V) (d e : PyData), vs = [v, r] ∧ Same I H ∧ Dp K I v d ∧ Dp K I r e ∧
  (wholeB d (some 0) (some 24) = false → Err1 a.c_BadCount "most" (.int 24) H E) ∧
  (∀ m : Int, d = .int m → 0 ≤ m → m ≤ 24 → rfD (rgI m) e ≠ .non → Err1 a.c_BadRow "at" (rfD (rgI m) e) H E) ∧
  (∀ (m : Int) (ns : List Int), d = .int m → 0 ≤ m → m ≤ 24 → (e = .tuple (ns.map .int) ∨ e = .list (ns.map .int)) → ns.Nodup → (∀ n ∈ ns, 0 ≤ n ∧ n < m) →
    ∀ H', Same H H' → Q (.int (rankI (rgI m) ns + sumFall m ns.length)) H')
theorem ok_row_number (T : Top K mg a) : FnOk P w K mg base (L2.CX P w) 6 a.f_row_number a.d_row_number ["m", "row"] (spRowNumber K a) := by
  refine T.F_row_number.okX sc_row_number (fun vs H Q E h => ?_) (fun cdv A outer s H vs Q E hr h => ?_)
  · obtain ⟨I, v, r, d, e, rfl, _⟩ := h
    rfl
  · obtain ⟨I, v, r, d, e, rfl, sI, hd, he, q1, q2, q3⟩ := h
    refine ⟨_, (pss_cons (ps_set (i := 2) sc_row_number.nd rfl (Or.inl rfl) (pe_call (ok_row_place T) (hr.mono (by decide)) (by rfl) T.g_row_place T.F_row_place.kp T.b_row_place .nil (passes_call (takes_of rfl rfl rfl rfl) (fun _ _ _ _ h => h)) (pa_cons (pv 0) (pa_cons (pv 1) pa_nil)))) (pss_one (ps_ret (pe_op op_add (pv 2) (pe_callB (cr_sum rfl) (by rfl) T.n_sum (by decide +kernel) (pa_cons (pe_lc (own := [("d", 3)]) (g := gName 3) (by rfl) sc_row_number.nd (pi_range1 (by rfl) T.n_range (pa_cons (pe_callB (call_lenK (K := K) rfl) (by rfl) T.n_len (by decide +kernel) (pa_cons (pv 1) pa_nil)) pa_nil)) (blkOk_by (own := [("d", 3)]) (N := ["m", "row", "place", "d"]) (sc := defScope s_row_number) (by decide +kernel)) (fun _ _ _ _ _ => (pg_name (i := 3) sc_row_number.nd rfl (Or.inl rfl))) (fun _ _ _ _ _ => pts_nil) (fun _ _ _ _ _ => (pe_call (ok_ways_of T) (hr.mono (by decide)) (by rfl) T.g_ways_of T.F_ways_of.kp T.b_ways_of .nil pass0 (pa_cons (pv 0) (pa_cons (pv 3) pa_nil))))) pa_nil)))))), ?_⟩
    walk_at "st"
    walk_at "wp"
    refine ⟨I, v, r, d, e, rfl, sI, hd, he, q1, q2, fun m ns e1 m0 m1 es hnd hin H1 s1 => ?_⟩
    subst e1
    obtain rfl := Dp.ofInt hd
    have lns : ns.length ≤ m.toNat := by
      have z := hnd.length_le_of_subset (l₂ := rgI m) (fun x hx => mem_rgI.mpr (hin x hx))
      rw [rgI_len] at z
      exact z
    walk_at "wp"
    have hs := sI.trans s1
    refine w_compR (K := K) (I := I) (M := No) (m := (ns.length : Int)) (by omega) (by omega) (fun Q q => ?_)
      (CompOk.pure (fun k => .int (fallI m k)) hs (fun b h => h.elim) (small1000 (by omega)) (fun k I5 H5 R hk f5 hR => ?_) (fun I5 H5 E vs f5 e1 e2 e3 hv => ?_))
    · walk_at "wp"
      refine w_lenD hs (by rcases es with rfl | rfl; exact .inl he; exact .inr he) ?_
      rw [List.length_map]
      walk_at "wp"
      exact q
    · simp only [List.set_cons_zero, List.set_cons_succ]
      walk_at "wp"
      refine ⟨m, (k : Nat), rfl, by omega, by omega, by omega, by omega, ?_⟩
      exact hR _ I5 H5 (Lf.refl f5.sub) (by rw [Int.toNat_natCast]; exact .int _)
    · rw [Int.toNat_natCast] at hv
      have hv2 : DpAll K I5 vs (((List.range ns.length).map fun d => fallI m d).map PyData.int) := by rw [List.map_map]; exact hv
      obtain rfl := DpAll.isInts hv2
      walk_at "wp"
      refine w_sum (ofL e3) ?_
      walk_at "wp"
      exact q3 m ns rfl m0 m1 es hnd hin _ (s1.trans f5.same)
end
section
variable {P : Program} {w : World} {K : PySem.W.Frag} {mg : Str → Option Value} {base : Heap} {a : Adr}
theorem sumFall_find {m n : Int} : ∀ (M : Nat), 0 ≤ n → n < sumFall m (M + 1) → ∃ (k : Nat) (p : Int), k ≤ M ∧ n = sumFall m k + p ∧ 0 ≤ p ∧ p < fallI m k
  | 0, h0, h1 => ⟨0, n, Nat.le_refl _, by show n = 0 + n; omega, h0, by rw [sumFall_succ] at h1; simpa [sumFall] using h1⟩
  | M + 1, h0, h1 => by
    by_cases c : n < sumFall m (M + 1)
    · obtain ⟨k, p, hk, r⟩ := sumFall_find M h0 c
      exact ⟨k, p, by omega, r⟩
    · rw [sumFall_succ] at h1
      exact ⟨M + 1, n - sumFall m (M + 1), Nat.le_refl _, by omega, by omega, by omega⟩
theorem sumFall_mono {m : Int} : ∀ {i j : Nat}, i ≤ j → (j : Int) ≤ m + 1 → sumFall m i ≤ sumFall m j := by
  intro i j h
  induction h with
  | refl => intro _; exact Int.le_refl _
  | step h ih =>
    intro hj
    rw [Nat.succ_eq_add_one, sumFall_succ]
    have := ih (by omega)
    rename_i j'
    have := fall_pos j' m (by omega)
    omega
def spRowNumbered (K : PySem.W.Frag) (a : Adr) : Sp := fun vs H Q E => ∃ (I : Hp) (v t : V) (d g : PyData), vs = [v, t] ∧ Same I H ∧ Dp K I v d ∧ Dp K I t g ∧
  (wholeB d (some 0) (some 24) = false → Err1 a.c_BadCount "most" (.int 24) H E) ∧
  (∀ m : Int, d = .int m → 0 ≤ m → m ≤ 24 → wholeB g (some 0) (some (allI m - 1)) = false → Err0 a.c_BadPlace H E) ∧
  (∀ (m : Int) (k : Nat) (p : Int), d = .int m → g = .int (sumFall m k + p) → (k : Int) ≤ m → m ≤ 24 → 0 ≤ p → p < fallI m k → ∀ I' H' r, Lf No I H I' H' → Dp K I' r (tupI (unrankI (rgI m) k p)) → Q r H')
theorem ok_row_numbered (T : Top K mg a) : FnOk P w K mg base (L2.CX P w) 5 a.f_row_numbered a.d_row_numbered ["m", "number"] (spRowNumbered K a) := by
  refine T.F_row_numbered.okX sc_row_numbered (fun vs H Q E h => ?_) (fun cdv A outer s H vs Q E hr h => ?_)
  · obtain ⟨I, v, t, d, g, rfl, _⟩ := h
    rfl
  · obtain ⟨I, v, t, d, g, rfl, sI, hd, hg, q1, q2, q3⟩ := h
    refine ⟨_, (pss_cons (ps_if (pt_not (pt_val (pe_call (ok_is_whole T) (hr.mono (by decide)) (by rfl) T.g_is_whole T.F_is_whole.kp (bD_is_whole_3 T).choose_spec.2 (bD_is_whole_3 T).choose_spec.1 pass0 (pa_cons (pv 1) (pa_cons pe_int (pa_cons (pe_op op_sub (pe_call (ok_count_all_rows T) (hr.mono (by decide)) (by rfl) T.g_count_all_rows T.F_count_all_rows.kp T.b_count_all_rows .nil (passes_call (takes_of rfl rfl rfl rfl) (fun _ _ _ _ h => h)) (pa_cons (pv 0) pa_nil)) pe_int) pa_nil)))))) (pss_one (ps_raise rfl (takes_of rfl rfl rfl rfl) (pmk_own0 PySem.F.excBase_ValueError T.xe_BadPlace T.gc_BadPlace T.kp_BadPlace (raises_own T.be_BadPlace T.ty_BadPlace) (by rfl)))) pss_nil) (pss_cons (ps_set (i := 2) sc_row_numbered.nd rfl (Or.inl rfl) pe_int) (pss_cons (ps_while PassesOwn.leaving (pt_cmpR op_ge (pv 1) (pe_call (ok_ways_of T) (hr.mono (by decide)) (by rfl) T.g_ways_of T.F_ways_of.kp T.b_ways_of .nil pass0 (pa_cons (pv 0) (pa_cons (pv 2) pa_nil))) (nomark _)) (pss_cons (ps_aug (i := 1) sc_row_numbered.nd rfl (Or.inl rfl) (pe_call (ok_ways_of T) (hr.mono (by decide)) (by rfl) T.g_ways_of T.F_ways_of.kp T.b_ways_of .nil pass0 (pa_cons (pv 0) (pa_cons (pv 2) pa_nil))) ip_sub) (pss_one (ps_aug (i := 2) sc_row_numbered.nd rfl (Or.inl rfl) pe_int ip_add)))) (pss_one (ps_ret (pe_call (ok_row_of_place T) (hr.mono (by decide)) (by rfl) T.g_row_of_place T.F_row_of_place.kp T.b_row_of_place .nil pass0 (pa_cons (pv 0) (pa_cons (pv 2) (pa_cons (pv 1) pa_nil))))))))), ?_⟩
    walk_at "st"
    walk_at "wp"
    refine ⟨v, d, rfl, Dp.up hd sI, q1, fun m e1 m0 m1 H1 s1 => ?_⟩
    subst e1
    obtain rfl := Dp.ofInt hd
    walk_at "wp"
    refine ⟨t, g, some 0, some (allI m - 1), rfl, Dp.up hg (sI.trans s1), fun b hb => ?_⟩
    walk_at "wp"
    cases b with
    | false =>
      walk_at "wp"
      exact q2 m rfl m0 m1 hb.symm H1 s1
    | true =>
      obtain ⟨n, rfl, n0, n1⟩ := whole_int hb.symm
      obtain rfl := Dp.ofInt hg
      obtain ⟨k, p, hk, hn, p0, p1⟩ := sumFall_find (m := m) m.toNat n0 (by show n < allI m; omega)
      walk_at "wp"
      refine ⟨fun c σ H' => ∃ j : Nat, c + j = k ∧ σ = [some (.int m), some (.int (n - sumFall m j)), some (.int (j : Nat))] ∧ H' = H1, ⟨k, 0, by omega, by show _ = [some (V.int m), some (V.int (n - 0)), some (V.int ((0 : Nat) : Int))]; rw [Int.sub_zero]; rfl, rfl⟩, fun c σ H' h => ?_⟩
      obtain ⟨j, hj, rfl, rfl⟩ := h
      walk_at "wp"
      refine ⟨m, (j : Nat), rfl, by omega, by omega, by omega, by omega, ?_⟩
      rw [Int.toNat_natCast]
      walk_at "wp"
      refine w_if (fun cc => ?_) (fun cc => ?_)
      · refine w_turn ?_
        walk_at "wp"
        refine ⟨m, (j : Nat), rfl, by omega, by omega, by omega, by omega, ?_⟩
        rw [Int.toNat_natCast]
        walk_at "wp"
        have hlt : j < k := by
          rcases Nat.lt_or_ge j k with h | h
          · exact h
          · obtain rfl : j = k := by omega
            omega
        refine ⟨c - 1, by omega, j + 1, by omega, ?_, rfl⟩
        rw [sumFall_succ]
        rw [show n - sumFall m j - fallI m j = n - (sumFall m j + fallI m j) by omega]
        rfl
      · have hge : j = k := by
          rcases Nat.lt_or_ge j k with h | h
          · have h2 := sumFall_mono (m := m) (i := j + 1) (j := k) (by omega) (by omega)
            rw [sumFall_succ] at h2
            omega
          · omega
        subst hge
        walk_at "wp"
        refine ⟨I, m, (j : Nat), n - sumFall m j, rfl, sI.trans s1, by omega, by omega, m1, by omega, by rw [Int.toNat_natCast]; omega, fun I' H' r f dr => ?_⟩
        rw [Int.toNat_natCast, show n - sumFall m j = p by omega] at dr
        exact q3 m j p rfl (by rw [hn]) (by omega) m1 p0 p1 I' H' r ((Lf.ofSame sI s1).trans f) dr
def preRows (m : Int) (d j : Nat) : List (List Int) := ((List.range d).flatMap fun d => (List.range (fallI m d).toNat).map fun (p : Nat) => unrankI (rgI m) d (p : Int)) ++ (List.range j).map fun (p : Nat) => unrankI (rgI m) d (p : Int)
def allRowsI (m : Int) : List (List Int) := (List.range (m.toNat + 1)).flatMap fun d => (List.range (fallI m d).toNat).map fun (p : Nat) => unrankI (rgI m) d (p : Int)
theorem preRows_succ (m : Int) (d j : Nat) : preRows m d (j + 1) = preRows m d j ++ [unrankI (rgI m) d (j : Int)] := by
  unfold preRows
  rw [List.range_succ, List.map_append, List.append_assoc]
  rfl
theorem preRows_end (m : Int) (d : Nat) : preRows m d (fallI m d).toNat = preRows m (d + 1) 0 := by
  unfold preRows
  rw [List.range_succ, List.flatMap_append, List.flatMap_singleton]
  simp
theorem fall_small : ∀ m : Nat, m < 7 → ∀ d : Nat, d < 8 → fallI m d ≤ 720 := by decide
def spAllRows (K : PySem.W.Frag) (a : Adr) : SpG := fun vs H Q E => ∃ (v : V) (d : PyData), vs = [v] ∧ Dp K H v d ∧
  (wholeB d (some 0) (some 6) = false → Err1 a.c_BadCount "most" (.int 6) H E) ∧
  (∀ m : Int, d = .int m → 0 ≤ m → m ≤ 6 → ∀ I' H' ys, Lf No H H I' H' → DpAll K I' ys ((allRowsI m).map tupI) → Q ys H')
theorem ok_all_rows (T : Top K mg a) : GFn P w K mg base 4 a.f_all_rows a.d_all_rows ["m"] (spAllRows K a) := by
  refine gok T.F_all_rows sc_all_rows (fun vs H Q E h => ?_) (fun cdv A outer s H vs Q E pn hr h => ?_)
  · obtain ⟨v, d, rfl, _⟩ := h
    rfl
  · obtain ⟨v, d, rfl, hd, q1, q2⟩ := h
    refine ⟨_, (gss_cons (gs_ps (ps_expr (pe_call (ok_check_count T) (hr.mono (by decide)) (by rfl) T.g_check_count T.F_check_count.kp (bD_check_count_2 T).choose_spec.2 (bD_check_count_2 T).choose_spec.1 (passes_call takes_gcx (fun _ _ _ _ h => h)) (pa_cons (pv 0) (pa_cons pe_int pa_nil))))) (gss_cons (gs_for owns_gcx rfl (pi_range1 (by rfl) T.n_range (pa_cons (pe_op op_add (pv 0) pe_int) pa_nil)) (pg_name (i := 1) sc_all_rows.nd rfl (Or.inl rfl)) (gss_cons (gs_for owns_gcx rfl (pi_range1 (by rfl) T.n_range (pa_cons (pe_call (ok_ways_of T) (hr.mono (by decide)) (by rfl) T.g_ways_of T.F_ways_of.kp T.b_ways_of .nil pass0 (pa_cons (pv 0) (pa_cons (pv 1) pa_nil))) pa_nil)) (pg_name (i := 2) sc_all_rows.nd rfl (Or.inl rfl)) (gss_cons (gs_yield (pe_call (ok_row_of_place T) (hr.mono (by decide)) (by rfl) T.g_row_of_place T.F_row_of_place.kp T.b_row_of_place .nil pass0 (pa_cons (pv 0) (pa_cons (pv 1) (pa_cons (pv 2) pa_nil))))) gss_nil)) gss_nil)) gss_nil)), ?_⟩
    simp only [gcxOf]
    walk_at "st"
    refine w_gThen (w_gPlain ?_)
    walk_at "wp"
    refine ⟨v, d, 6, rfl, hd, fun hw => ?_, q1⟩
    obtain ⟨m, rfl, m0, m1⟩ := whole_int hw
    obtain rfl := Dp.ofInt hd
    dsimp only [GEnds.at]
    refine w_gThen ?_
    have small : ∀ d : Nat, d ≤ 7 → fallI m d ≤ 720 := fun d h => by
      have z := fall_small m.toNat (by omega) d (by omega)
      rw [show ((m.toNat : Nat) : Int) = m by omega] at z
      exact z
    have big : 100000 < sizeLine := by decide
    refine w_gForR1 (n := m + 1) (by omega) (by omega) (fun i ys σ H' => ∃ (I' : Hp) (y1 y2 : Option V), σ = [some (.int m), y1, y2] ∧ Lf No H H I' H' ∧ DpAll K I' ys ((preRows m i 0).map tupI) ∧ ys.length ≤ 720 * i) (fun Q q => ?_)
      ⟨H, none, none, rfl, Lf.refl (Same.refl H), .nil, Nat.le_refl _⟩ (fun i ys σ H' hi h => ?_) (fun ys σ H' h => ?_)
    · walk_at "wp"
      exact q
    · obtain ⟨I', y1, y2, rfl, f, aY, ly⟩ := h
      refine w_name ?_
      simp only [List.set_cons_zero, List.set_cons_succ]
      refine w_gThen (w_gForIter ?_)
      walk_at "wp"
      refine ⟨m, (i : Nat), rfl, by omega, by omega, by omega, by omega, ?_⟩
      rw [Int.toNat_natCast]
      have hs := small i (by omega)
      have hpos := fall_pos i m (by omega)
      refine w_gForR1 (n := fallI m i) (by omega) (by omega) (fun j ys σ H' => ∃ (I' : Hp) (y2 : Option V), σ = [some (.int m), some (.int (i : Nat)), y2] ∧ Lf No H H I' H' ∧ DpAll K I' ys ((preRows m i j).map tupI) ∧ ys.length ≤ 720 * i + j) (fun Q q => q)
        ⟨I', _, rfl, f, aY, ly⟩ (fun j ys σ H' hj h => ?_) (fun ys σ H' h => ?_)
      · obtain ⟨I', y2, rfl, f, aY, ly⟩ := h
        refine w_name ?_
        simp only [List.set_cons_zero, List.set_cons_succ]
        refine w_gThen (w_gYield (by omega) ?_)
        walk_at "wp"
        refine ⟨I', m, (i : Nat), (j : Nat), rfl, f.sub, by omega, by omega, by omega, by omega, by rw [Int.toNat_natCast]; omega, fun I2 H2 r f2 dr => ?_⟩
        refine w_g0 ?_
        refine ⟨I2, _, rfl, f.trans f2, ?_, by rw [List.length_append, List.length_singleton]; omega⟩
        rw [preRows_succ, List.map_append]
        rw [Int.toNat_natCast] at dr
        exact DpAll.append (DpAll.up aY f2.ext) (.cons dr .nil)
      · obtain ⟨I', y2, rfl, f, aY, ly⟩ := h
        rw [preRows_end] at aY
        refine w_g0 ?_
        exact ⟨I', _, _, rfl, f, aY, by omega⟩
    · obtain ⟨I', y1, y2, rfl, f, aY, ly⟩ := h
      refine w_g0 ?_
      refine q2 m rfl m0 m1 I' H' ys f ?_
      have e : (m + 1).toNat = m.toNat + 1 := by omega
      rw [e] at aY
      have e2 : preRows m (m.toNat + 1) 0 = allRowsI m := List.append_nil _
      rw [e2] at aY
      exact aY
end
section
variable {P : Program} {w : World} {K : PySem.W.Frag} {mg : Str → Option Value} {base : Heap} {a : Adr}
def absI (n : Int) : Int := if n < 0 then -n else n
def spHand (K : PySem.W.Frag) : Sp := fun vs H Q _ => ∃ (I : Hp) (s : Addr) (ns : List Int), vs = [.ref s] ∧ Same I H ∧ SqL K I s (ns.map V.int) ∧ ns.length ≤ 1000 ∧
  ∀ I' H' hd, Lf No I H I' H' → Hand K I' H' hd → Q (.ref hd) H'
theorem ok_law_hand (T : Top K mg a) : FnOk P w K mg base CX0 1 a.f_law_hand a.d_law_hand ["_law_script"] (spHand K) := by
  refine T.F_law_hand.ok sc_law_hand (fun vs H Q E h => ?_) (fun cdv A outer s H vs Q E hr h => ?_)
  · obtain ⟨I, s, ns, rfl, _⟩ := h
    rfl
  · obtain ⟨I, p, ns, rfl, sI, hp, hl, q⟩ := h
    refine ⟨_, (pss_cons (ps_set (i := 1) sc_law_hand.nd rfl (Or.inl rfl) pe_int) (pss_cons (ps_for PassesOwn.never rfl (pi_enumK (K := K) rfl (by rfl) T.n_enumerate (pa_cons (pv 0) pa_nil)) (pg_tup rfl (pgs_cons (pg_name (i := 2) sc_law_hand.nd rfl (Or.inl rfl)) (pgs_cons (pg_name (i := 3) sc_law_hand.nd rfl (Or.inl rfl)) pgs_nil))) (pss_one (ps_set (i := 1) sc_law_hand.nd rfl (Or.inl rfl) (pe_op op_mod (pe_callTy call_intI (by rfl) T.n_int (by decide +kernel) (pa_cons (pe_op op_add (pe_op op_mul (pv 1) pe_int) (pe_op op_mul (pe_callTy call_intI (by rfl) T.n_int (by decide +kernel) (pa_cons (pv 3) pa_nil)) (pe_op op_add (pv 2) pe_int))) pa_nil)) pe_int)))) (pss_one (ps_ret (pe_lst (pa_cons (pe_lc (own := [("_law_cell", 3)]) (g := gName 3) (by rfl) sc_law_hand.nd (pi_seqK (K := K) rfl (pv 0)) (blkOk_by (own := [("_law_cell", 3)]) (N := ["_law_script", "_law_total", "_law_k", "_law_cell"]) (sc := defScope s_law_hand) (by decide +kernel)) (fun _ _ _ _ _ => (pg_name (i := 3) sc_law_hand.nd rfl (Or.inl rfl))) (fun _ _ _ _ _ => pts_nil) (fun _ _ _ _ _ => (pe_callB call_absI (by rfl) T.n_abs (by decide +kernel) (pa_cons (pe_callTy call_intI (by rfl) T.n_int (by decide +kernel) (pa_cons (pv 3) pa_nil)) pa_nil)))) (pa_cons pe_int (pa_cons pe_int (pa_cons (pv 1) pa_nil))))))))), ?_⟩
    walk_at "st"
    walk_at "wp"
    refine w_forEnum (.inl (sI.seq hp)) (fun i σ H' => ∃ (t : Int) (y z : Option V), σ = [some (.ref p), some (.int t), y, z] ∧ Same H H') (fun Q q => ⟨_, rfl, q⟩) ⟨0, none, none, rfl, Same.refl _⟩
      (fun i σ H' _ h => ?_) (fun i x Tp σ H' hi h hT => ?_) (fun σ H' h => ?_)
    · obtain ⟨_, _, _, _, s2⟩ := h
      exact s2
    · obtain ⟨t, y, z, rfl, s2⟩ := h
      have hi' : i < ns.length := by simpa using (List.getElem?_eq_some_iff.mp hi).1
      rw [get_map hi'] at hi
      obtain rfl := Option.some.inj hi
      refine w_gpair upd_same ?_
      simp only [List.set_cons_zero, List.set_cons_succ]
      walk_at "wp"
      exact ⟨_, _, _, rfl, s2.trans (same_new hT)⟩
    · obtain ⟨t, y, z, rfl, s2⟩ := h
      walk_at "wp"
      have f0 : Lf No I H I H' := Lf.ofSame sI s2
      refine w_compS (K := K) (I := I) (M := No) (.inl hp) (fun Q q => ?_) (fun h => h) (CompOk.pure (fun k => .int (absI (ns.getD k 0))) f0.sub (fun b h => h.elim) (by rw [List.length_map]; exact small1000 (by omega)) (fun k I5 H5 R hk f5 hR => ?_) (fun I5 H5 E vs f5 e1 e2 e3 hv => ?_))
      · walk_at "wp"
        exact q
      · rw [List.length_map] at hk
        have hg : (ns.map V.int).getD k .non = .int ns[k] := by simp [hk]
        rw [hg]
        simp only [List.set_cons_zero, List.set_cons_succ]
        walk_at "wp"
        refine hR _ I5 H5 (Lf.refl f5.sub) ?_
        rw [show ns.getD k 0 = ns[k] by simp [hk]]
        exact .int _
      · walk_at "wp"
        rw [List.length_map, map_range_get (fun z => PyData.int (absI z)) ns (fun k => ns.getD k 0) (fun k h => by simp [h])] at hv
        have hv2 : DpAll K I5 vs ((ns.map absI).map PyData.int) := by rw [List.map_map]; exact hv
        obtain rfl := DpAll.isInts hv2
        refine ⟨by show 4 ≤ sizeLine; decide, fun hd hh => ?_⟩
        have f6 := Lf.freeze f5 f0.sub e1 e3
        have f7 := (f0.trans f6).trans (Lf.alloc (o := .lst [.ref E, .int 0, .int 0, .int t]) f6.sub hh)
        refine q _ _ hd f7 ⟨f7.sub, Same.sub f6.sub hh, E, ns.map absI, 0, 0, t, upd_same, ofL upd_same, ?_, by omega, by omega⟩
        intro x hx
        obtain ⟨n, _, rfl⟩ := List.mem_map.mp hx
        unfold absI
        split <;> omega
/-! ### a list or a tuple -/
def spSeq (K : PySem.W.Frag) : Sp := fun vs H Q _ => ∃ (I : Hp) (hd : Addr) (v : V) (ds : List PyData), vs = [.ref hd, v] ∧ Hand K I H hd ∧
  (∀ I' H' r, Lf (· = hd) I H I' H' → Hand K I' H' hd → Dp K I' r (.list ds) → Q r H') ∧
  ((Dp K I v (.tuple ds) ∧ ∀ I' H', Lf (· = hd) I H I' H' → Hand K I' H' hd → Q v H') ∨
   (Dp K I v (.list ds) ∧ ∀ I' H' r, Lf (· = hd) I H I' H' → Hand K I' H' hd → Dp K I' r (.tuple ds) → Q r H'))
theorem ok_law_seq (T : Top K mg a) : FnOk P w K mg base CX0 3 a.f_law_seq a.d_law_seq ["_law_hand_here", "_law_row"] (spSeq K) := by
  refine T.F_law_seq.ok sc_law_seq (fun vs H Q E h => ?_) (fun cdv A outer s H vs Q E hr h => ?_)
  · obtain ⟨I, hd, v, ds, rfl, _⟩ := h
    rfl
  · obtain ⟨I, hd, v, ds, rfl, hh, q1, q2⟩ := h
    refine ⟨_, (pss_one (ps_ret (pe_ifExp (pt_cmpR op_eq (pe_call (ok_law_draw T) (hr.mono (by decide)) (by rfl) T.g_law_draw T.F_law_draw.kp T.b_law_draw .nil pass0 (pa_cons (pv 0) (pa_cons pe_int pa_nil))) pe_int (nomark _)) (pe_callTy (call_listK (K := K) rfl) (by rfl) T.n_list (by decide +kernel) (pa_cons (pv 1) pa_nil)) (pe_tupleK (K := K) rfl (by rfl) T.n_tuple (pv 1))))), ?_⟩
    walk_at "st"
    walk_at "wp"
    refine ⟨I, hd, 2, rfl, hh, by omega, by omega, fun H1 r f1 hh1 r0 r1 => ?_⟩
    walk_at "wp"
    have hs : ∃ p xs, v = .ref p ∧ (SqL K I p xs ∨ SqT K I p xs) ∧ DpAll K I xs ds := by
      rcases q2 with ⟨h, _⟩ | ⟨h, _⟩
      · obtain ⟨p, xs, e, h1, h2⟩ := Dp.tupRef h
        exact ⟨p, xs, e, .inr h1, h2⟩
      · obtain ⟨p, xs, e, h1, h2⟩ := Dp.lstRef h
        exact ⟨p, xs, e, .inl h1, h2⟩
    refine w_if (fun c => ?_) (fun c => ?_)
    · walk_at "wp"
      obtain ⟨p, xs, rfl, hp, hx⟩ := hs
      refine ⟨p, xs, rfl, seq_up hp f1.sub, fun b hb => ?_⟩
      have f2 := Lf.put (M := No) (o := .lst xs) f1.sub hb
      exact q1 _ _ _ (f1.trans f2.any) (hh1.to f2 (fun h => h)) (.lst (ofL upd_same) (DpAll.up hx (f1.ext.trans f2.ext)))
    · walk_at "wp"
      rcases q2 with ⟨h, q2⟩ | ⟨h, q2⟩
      · obtain ⟨p, xs, rfl, h1, h2⟩ := Dp.tupRef h
        exact .inr ⟨p, xs, rfl, Same.seqT f1.sub h1, q2 I H1 f1 hh1⟩
      · obtain ⟨p, xs, rfl, h1, h2⟩ := Dp.lstRef h
        refine w_tupOfL f1.sub (f1.sub.seq h1) (DpAll.up h2 f1.ext) fun I' H' q' f2 z dd => ?_
        exact q2 I' H' _ (f1.trans f2.any) (hh1.to f2 (fun h => h)) (.tup (TupZ.sq z) dd)
end
section
variable {P : Program} {w : World} {K : PySem.W.Frag} {mg : Str → Option Value} {base : Heap} {a : Adr}
def spExact (K : PySem.W.Frag) (n : Nat) : Sp := fun vs H Q _ => ∃ (t u : V) (d : PyData), vs = [t, u] ∧ Dp K H t d ∧ Dp K H u d ∧ plainD n d ∧ ∀ H', Same H H' → Q (.bl true) H'
theorem eqv_intS (n : Int) : PyData.eqv (.int n) (.int n) = true := beq_self_eq_true n
theorem eqv_strS (n : Str) : PyData.eqv (.str n) (.str n) = true := beq_self_eq_true n
theorem ok_exactN (T : Top K mg a) (n : Nat) : FnOk P w K mg base CX0 n a.f_law_exact a.d_law_exact ["_law_told", "_law_due"] (spExact K n) := by
  induction n with
  | zero =>
    refine FnOk.imp FnOk.none fun _ _ _ _ h => ?_
    obtain ⟨_, _, _, _, _, _, h, _⟩ := h
    exact h
  | succ n ih =>
    refine T.F_law_exact.ok sc_law_exact (fun vs H Q E h => ?_) (fun cdv A outer s H vs Q E hr h => ?_)
    · obtain ⟨t, u, d, rfl, _⟩ := h
      rfl
    · obtain ⟨t, u, d, rfl, ht, hu, hp, q⟩ := h
      refine ⟨_, (pss_cons (ps_if (pt_val (pe_callB (call_isiK' (K := K) rfl) (by rfl) T.n_isinstance (by decide +kernel) (pa_cons (pv 1) (pa_cons (pe_bltn (v := .ty "tuple") (u := .type "tuple") (by rfl) T.n_tuple (by decide +kernel) rfl) pa_nil)))) (pss_cons (ps_if (PW.pt (pw_or (pt_not (pt_val (pe_callB (call_isiK' (K := K) rfl) (by rfl) T.n_isinstance (by decide +kernel) (pa_cons (pv 0) (pa_cons (pe_bltn (v := .ty "tuple") (u := .type "tuple") (by rfl) T.n_tuple (by decide +kernel) rfl) pa_nil))))) (pw_or1 (pt_cmpR op_ne (pe_callB (call_lenK (K := K) rfl) (by rfl) T.n_len (by decide +kernel) (pa_cons (pv 0) pa_nil)) (pe_callB (call_lenK (K := K) rfl) (by rfl) T.n_len (by decide +kernel) (pa_cons (pv 1) pa_nil)) (nomark _))))) (pss_one (ps_ret pe_bl)) pss_nil) (pss_one (ps_ret (pe_cmpR (op_eqK (K := K) rfl hr.units) (pe_lc (own := [("_law_k", 2)]) (g := gName 2) (by rfl) sc_law_exact.nd (pi_range1 (by rfl) T.n_range (pa_cons (pe_callB (call_lenK (K := K) rfl) (by rfl) T.n_len (by decide +kernel) (pa_cons (pv 1) pa_nil)) pa_nil)) (blkOk_by (own := [("_law_k", 2)]) (N := ["_law_told", "_law_due", "_law_k"]) (sc := defScope s_law_exact) (by decide +kernel)) (fun _ _ _ _ _ => (pg_name (i := 2) sc_law_exact.nd rfl (Or.inl rfl))) (fun _ _ _ _ _ => pts_one (pt_not (pt_val (pe_call ih (hr.mono (Nat.le_refl _)) (by rfl) T.g_law_exact T.F_law_exact.kp T.b_law_exact .nil pass0 (pa_cons (pe_ix (ix_K (K := K) rfl) (pv 0) (pv 2) (fun _ _ => rfl)) (pa_cons (pe_ix (ix_K (K := K) rfl) (pv 1) (pv 2) (fun _ _ => rfl)) pa_nil)))))) (fun _ _ _ _ _ => (pv 2))) (pe_lst pa_nil) (nomark _))))) pss_nil) (pss_cons (ps_if (pt_cmpR op_isN' (pv 1) pe_non (nomark _)) (pss_one (ps_ret (pe_cmpR op_isN' (pv 0) pe_non (nomark _)))) pss_nil) (pss_cons (ps_if (pt_val (pe_callB (call_isiK' (K := K) rfl) (by rfl) T.n_isinstance (by decide +kernel) (pa_cons (pv 1) (pa_cons (pe_bltn (v := .ty "bool") (u := .type "bool") (by rfl) T.n_bool (by decide +kernel) rfl) pa_nil)))) (pss_one (ps_ret (pe_ifExp (pt_truth (pv 1) (by intro _; rfl)) (pe_cmpR op_isB (pv 0) pe_bl (nomark _)) (pe_cmpR op_isB (pv 0) pe_bl (nomark _))))) pss_nil) (pss_cons (ps_if (pt_val (pe_callB (call_isiK' (K := K) rfl) (by rfl) T.n_isinstance (by decide +kernel) (pa_cons (pv 1) (pa_cons (pe_bltn (v := .ty "str") (u := .type "str") (by rfl) T.n_str (by decide +kernel) rfl) pa_nil)))) (pss_one (ps_ret (pe_and (pe_callB (call_isiK' (K := K) rfl) (by rfl) T.n_isinstance (by decide +kernel) (pa_cons (pv 0) (pa_cons (pe_bltn (v := .ty "str") (u := .type "str") (by rfl) T.n_str (by decide +kernel) rfl) pa_nil))) (pe_one (pe_cmpR (op_eqK (K := K) rfl hr.units) (pv 0) (pv 1) (nomark _)))))) pss_nil) (pss_one (ps_ret (pe_and (pe_callB (call_isiK' (K := K) rfl) (by rfl) T.n_isinstance (by decide +kernel) (pa_cons (pv 0) (pa_cons (pe_bltn (v := .ty "int") (u := .type "int") (by rfl) T.n_int (by decide +kernel) rfl) pa_nil))) (pe_and (pe_not (pe_callB (call_isiK' (K := K) rfl) (by rfl) T.n_isinstance (by decide +kernel) (pa_cons (pv 0) (pa_cons (pe_bltn (v := .ty "bool") (u := .type "bool") (by rfl) T.n_bool (by decide +kernel) rfl) pa_nil)))) (pe_one (pe_cmpR (op_eqK (K := K) rfl hr.units) (pv 0) (pv 1) (nomark _))))))))))), ?_⟩
      walk_at "st"
      cases d with
      | tuple ds =>
        walk_at "wp"
        dsimp only [dTup]
        walk_at "wp"
        dsimp only [dTup]
        walk_at "wp"
        refine w_lenD (Same.refl H) (.inl ht) ?_
        walk_at "wp"
        refine w_lenD (Same.refl H) (.inl hu) ?_
        walk_at "wp"
        rw [show decide ((ds.length : Int) = (ds.length : Int)) = true from decide_eq_true rfl]
        walk_at "wp"
        obtain ⟨pt, xt, rfl, hpt, hxt⟩ := Dp.tupRef ht
        obtain ⟨pu, xu, rfl, hpu, hxu⟩ := Dp.tupRef hu
        refine w_compR (K := K) (I := H) (M := No) (m := (ds.length : Int)) (by omega) (by have := hp.1; omega) (fun Q q => ?_)
          (CompOk.filt (fun _ => false) (fun _ => .none) (Same.refl H) (fun b h => h.elim) (small1000 (by have := hp.1; omega)) (fun k I5 H5 R hk f5 hR => ?_) (fun k I5 H5 R hk hT f5 hR => by cases hT) (fun I5 H5 E vs f5 e1 e2 e3 hv => ?_))
        · walk_at "wp"
          refine w_lenD (Same.refl H) (.inl hu) ?_
          walk_at "wp"
          exact q
        · simp only [List.set_cons_zero, List.set_cons_succ]
          walk_at "wp"
          have s5 : Same H H5 := f5.same
          have hk' : k < ds.length := by omega
          have ek : ds[((k : Nat) : Int).toNat]? = some ds[k] := by simp [hk']
          refine w_ixD s5 (.inl ht) (by omega) ek fun x hx => ?_
          walk_at "wp"
          refine w_ixD s5 (.inl hu) (by omega) ek fun y hy => ?_
          walk_at "wp"
          refine ⟨x, y, ds[k], rfl, Dp.up hx s5, Dp.up hy s5, hp.2 _ (List.getElem_mem hk'), fun H6 s6 => ?_⟩
          walk_at "wp"
          exact hR _ _ H6 rfl (Lf.ofSame f5.sub s6)
        · have hv0 : vs = [] := by
            rw [show (List.range ((ds.length : Int)).toNat).filter (fun _ => false) = [] from List.filter_eq_nil_iff.mpr (fun _ _ h => by cases h)] at hv
            cases hv
            rfl
          subst hv0
          walk_at "wp"
          refine ⟨by show 0 ≤ sizeLine; decide, fun r hr0 => ?_⟩
          have s5 := f5.same
          refine w_eqD (d := .list []) (e := .list []) (.lst (ofL ?_) .nil) (.lst (ofL upd_same) .nil) rfl rfl ?_
          · rw [upd_ne (ne_of_none e3 hr0)]
            exact e3
          · exact q _ (s5.trans (same_new hr0))
      | list ds => exact hp.elim
      | dict ds => exact hp.elim
      | none =>
        cases ht
        cases hu
        walk_at "wp"
        exact q H (Same.refl H)
      | bool b =>
        cases ht
        cases hu
        walk_at "wp"
        refine ⟨b, rfl, ?_⟩
        cases b with
        | true =>
          walk_at "wp"
          exact ⟨true, rfl, by rw [show decide (V.bl true = V.bl true) = true from decide_eq_true rfl]; exact q H (Same.refl H)⟩
        | false =>
          walk_at "wp"
          exact ⟨false, rfl, by rw [show decide (V.bl false = V.bl false) = true from decide_eq_true rfl]; exact q H (Same.refl H)⟩
      | int i =>
        cases ht
        cases hu
        walk_at "wp"
        refine w_eqD (.int i) (.int i) rfl rfl ?_
        rw [eqv_intS]
        exact q H (Same.refl H)
      | str x =>
        cases ht
        cases hu
        walk_at "wp"
        refine w_eqD (.str x) (.str x) hp hp ?_
        rw [eqv_strS]
        exact q H (Same.refl H)
theorem ok_law_exact (T : Top K mg a) : FnOk P w K mg base CX0 5 a.f_law_exact a.d_law_exact ["_law_told", "_law_due"] (spExact K 5) := ok_exactN T 5
end
section
variable {P : Program} {w : World} {K : PySem.W.Frag} {mg : Str → Option Value} {base : Heap} {a : Adr}
/-! ### some row -/
theorem erase_perm : ∀ {ls : List Int} {j : Nat} {z : Int}, ls[j]? = some z → ([z] ++ ls.eraseIdx j).Perm ls
  | x :: ls, 0, z, h => by
    have e : x = z := by simpa using h
    rw [e]
    exact .refl _
  | x :: ls, j + 1, z, h => by
    have e : ls[j]? = some z := by simpa using h
    exact (List.Perm.swap x z _).trans (List.Perm.cons x (erase_perm e))
def spSomeRow (K : PySem.W.Frag) : Sp := fun vs H Q _ => ∃ (I : Hp) (hd : Addr) (m d : Int), vs = [.ref hd, .int m, .int d] ∧ Hand K I H hd ∧ 0 ≤ d ∧ d ≤ m ∧ m ≤ 1000 ∧
  ∀ (I' H' : Hp) (p : Addr) (ks : List Int), Lf (· = hd) I H I' H' → Hand K I' H' hd → TupZ I' p (ks.map V.int) → ks.Nodup → (ks.length : Int) = d → (∀ k ∈ ks, 0 ≤ k ∧ k < m) → Q (.ref p) H'
theorem ok_law_some_row (T : Top K mg a) : FnOk P w K mg base CX0 3 a.f_law_some_row a.d_law_some_row ["_law_hand_here", "_law_m", "_law_d"] (spSomeRow K) := by
  refine T.F_law_some_row.ok sc_law_some_row (fun vs H Q E h => ?_) (fun cdv A outer s H vs Q E hr h => ?_)
  · obtain ⟨I, hd, m, d, rfl, _⟩ := h
    rfl
  · obtain ⟨I, hd, m, d, rfl, hh, d0, dm, m1, q⟩ := h
    have sI := hh.sub
    refine ⟨_, (pss_cons (ps_set (i := 3) sc_law_some_row.nd rfl (Or.inl rfl) (pe_listRg rfl (by rfl) T.n_list (prg_1 (by rfl) T.n_range (pv 1)))) (pss_cons (ps_set (i := 4) sc_law_some_row.nd rfl (Or.inl rfl) (pe_lst pa_nil)) (pss_cons (ps_for PassesOwn.never rfl (pi_range1 (by rfl) T.n_range (pa_cons (pv 2) pa_nil)) (pg_name (i := 5) sc_law_some_row.nd rfl (Or.inl rfl)) (pss_one (ps_expr (pe_bm PySem.F.plainAttrs_list PySem.F.slot_list_append PySem.F.type_list_append mt_append (pv 4) (pa_cons (pe_bm PySem.F.plainAttrs_list PySem.F.slot_list_pop PySem.F.type_list_pop mt_popAt (pv 3) (pa_cons (pe_call (ok_law_draw T) (hr.mono (by decide)) (by rfl) T.g_law_draw T.F_law_draw.kp T.b_law_draw .nil pass0 (pa_cons (pv 0) (pa_cons (pe_callB (call_lenK (K := K) rfl) (by rfl) T.n_len (by decide +kernel) (pa_cons (pv 3) pa_nil)) pa_nil))) pa_nil)) pa_nil))))) (pss_one (ps_ret (pe_tupleK (K := K) rfl (by rfl) T.n_tuple (pv 4))))))), ?_⟩
    walk_at "st"
    walk_at "wp"
    refine ⟨rgOk0 (by omega) (by omega), fun l hl => ?_⟩
    have f1 : Lf (· = hd) I H I (upd H l (.lst (rgV 0 m))) := Lf.alloc sI hl
    have lN : I l = none := Same.sub sI hl
    have ne1 : hd ≠ l := hh.neOf hl
    have hh1 := Hand.upd (o := .lst (rgV 0 m)) hh lN ne1
    walk_at "wp"
    refine ⟨by show 0 ≤ sizeLine; decide, fun r hr0 => ?_⟩
    walk_at "wp"
    have rN : I r = none := Same.sub hh1.sub hr0
    have ne2 : hd ≠ r := hh1.neOf hr0
    have hr' : H r = none := f1.free hr0
    have ne3 : l ≠ r := by
      intro z
      subst z
      rw [upd_same] at hr0
      cases hr0
    have f2 := f1.trans (Lf.alloc (o := .lst []) f1.sub hr0)
    have hh2 := Hand.upd (o := .lst []) hh1 rN ne2
    refine w_forR1 d0 (by omega) (fun i σ H' => ∃ (y : Option V) (ls ks : List Int), σ = [some (.ref hd), some (.int m), some (.int d), some (.ref l), some (.ref r), y] ∧ Lf (· = hd) I H I H' ∧ Hand K I H' hd ∧
      H' l = some (.lst (ls.map V.int)) ∧ H' r = some (.lst (ks.map V.int)) ∧ (ks ++ ls).Perm (rgI m) ∧ ks.length = i) (fun Q q => ?_) ⟨_, rgI m, [], rfl, f2, hh2, ?_, upd_same, .refl _, rfl⟩
      (fun i σ H' hi h => ?_) (fun σ H' h => ?_)
    · walk_at "wp"
      exact q
    · rw [upd_ne ne3, upd_same, rgV_rgI]
    · obtain ⟨y, ls, ks, rfl, f, hh3, hL, hR, pm, lk⟩ := h
      have hlen : ks.length + ls.length = m.toNat := by
        have z := pm.length_eq
        rw [List.length_append] at z
        rw [z]
        simp [rgI]
      refine w_name ?_
      simp only [List.set_cons_zero, List.set_cons_succ]
      walk_at "wp"
      refine w_tyL hR ?_
      walk_at "wp"
      refine w_tyL hL ?_
      walk_at "wp"
      rw [List.length_map]
      refine ⟨I, hd, (ls.length : Int), rfl, hh3, by omega, by omega, fun H4 r4 f4 hh4 r0 r1 => ?_⟩
      walk_at "wp"
      have hL4 := f4.keep _ _ (fun z => ne1 z.symm) hL
      have hR4 := f4.keep _ _ (fun z => ne2 z.symm) hR
      have sm : ls.length < sizeLine := small1000 (by omega)
      refine (w_popInts (K := K) hL4 r0 r1 sm fun z hz => ?_).2
      walk_at "wp"
      have hR5 : upd H4 l (.lst ((ls.eraseIdx r4.toNat).map V.int)) r = some (.lst (ks.map V.int)) := by rw [upd_ne (Ne.symm ne3)]; exact hR4
      refine w_append' hR5 (by rw [List.length_map]; exact small1000 (by omega)) ?_
      have f5 := f.trans f4
      refine ⟨_, ls.eraseIdx r4.toNat, ks ++ [z], rfl, Lf.set (Lf.set f5 hl hL4 lN) hr' hR5 rN, Hand.upd (Hand.upd hh4 lN ne1) rN ne2, ?_, ?_, ?_, by rw [List.length_append]; simp [lk]⟩
      · rw [upd_ne ne3, upd_same]
      · rw [upd_same, List.map_append]; rfl
      · refine List.Perm.trans ?_ pm
        rw [List.append_assoc]
        refine List.Perm.append_left ks ?_
        exact erase_perm hz
    · obtain ⟨y, ls, ks, rfl, f, hh3, hL, hR, pm, lk⟩ := h
      walk_at "wp"
      have nd := pm.nodup_iff.mpr (rgI_nodup m)
      rw [List.nodup_append] at nd
      refine w_tupOfL f.sub (ofL hR) (DpAll.ints _) fun I' H' q' f2 z dd => ?_
      refine q I' H' q' ks (f.trans f2.any) (hh3.to f2 (fun h => h)) z nd.1 (by omega) fun k hk => ?_
      exact mem_rgI.mp (pm.mem_iff.mp (List.mem_append_left _ hk))
/-! ### no count -/
def spNoCount (K : PySem.W.Frag) : Sp := fun vs H Q _ => ∃ (I : Hp) (hd : Addr) (m : Int), vs = [.ref hd, .int m] ∧ Hand K I H hd ∧ 0 ≤ m ∧
  ∀ (I' H' : Hp) (v : V) (d : PyData), Lf (· = hd) I H I' H' → Hand K I' H' hd → Dp K I' v d → wholeB d (some 0) (some m) = false → Q v H'
theorem ok_law_no_count (T : Top K mg a) : FnOk P w K mg base CX0 3 a.f_law_no_count a.d_law_no_count ["_law_hand_here", "_law_most"] (spNoCount K) := by
  refine T.F_law_no_count.ok sc_law_no_count (fun vs H Q E h => ?_) (fun cdv A outer s H vs Q E hr h => ?_)
  · obtain ⟨I, hd, m, rfl, _⟩ := h
    rfl
  · obtain ⟨I, hd, m, rfl, hh, m0, q⟩ := h
    refine ⟨_, (pss_one (ps_ret (pe_ix (ix_K (K := K) rfl) (pe_lst (pa_cons pe_non (pa_cons (pe_un un_neg pe_int) (pa_cons (pe_op op_add (pv 1) pe_int) (pa_cons pe_bl (pa_cons pe_str (pa_cons (pe_tup (pa_cons pe_int pa_nil)) (pa_cons (pe_op op_add (pv 1) pe_int) (pa_cons (pe_lst (pa_cons pe_int pa_nil)) (pa_cons pe_bl (pa_cons (pe_un un_neg pe_int) pa_nil))))))))))) (pe_call (ok_law_draw T) (hr.mono (by decide)) (by rfl) T.g_law_draw T.F_law_draw.kp T.b_law_draw .nil pass0 (pa_cons (pv 0) (pa_cons pe_int pa_nil))) (fun _ _ => rfl)))), ?_⟩
    walk_at "st"
    walk_at "wp"
    refine w_newT (K := K) hh.sub (.cons (.int _) .nil) (by show 1 ≤ sizeLine; decide) fun I1 p1 f1 d1 => ?_
    walk_at "wp"
    refine w_newL (K := K) f1.sub (.cons (.int _) .nil) (by show 1 ≤ sizeLine; decide) fun I2 p2 f2 d2 => ?_
    walk_at "wp"
    refine w_newL (K := K) f2.sub (.cons .non (.cons (.int _) (.cons (.int _) (.cons (.bl _) (.cons (.str _) (.cons (Dp.up d1 f2.ext) (.cons (.int _) (.cons d2 (.cons (.bl _) (.cons (.int _) .nil)))))))))) (by show 10 ≤ sizeLine; decide) fun I3 p3 f3 d3 => ?_
    have f := ((f1.trans f2).trans f3)
    have hh3 := hh.to f (fun h => h)
    walk_at "wp"
    refine ⟨I3, hd, 10, rfl, hh3, by omega, by omega, fun H4 r f4 hh4 r0 r1 => ?_⟩
    walk_at "wp"
    obtain ⟨j, rfl⟩ : ∃ j : Nat, r = (j : Int) := ⟨r.toNat, by omega⟩
    have hj : j < 10 := by omega
    refine w_ixD f4.sub (.inr d3) r0 (List.getElem?_eq_getElem (by simpa using hj)) fun v hv => ?_
    refine q I3 H4 v _ (f.any.trans f4) hh4 hv ?_
    rcases j with _|_|_|_|_|_|_|_|_|_|j
    · rfl
    · simp [wholeB, geB, leB]
    · simp [wholeB, geB, leB]; omega
    · rfl
    · rfl
    · rfl
    · simp [wholeB, geB, leB]; omega
    · rfl
    · rfl
    · simp [wholeB, geB, leB]
    · omega
end
section
variable {P : Program} {w : World} {K : PySem.W.Frag} {mg : Str → Option Value} {base : Heap} {a : Adr}
def Ans (K : PySem.W.Frag) (I H : Hp) (Q : VK) (R : PyData) : Prop := ∀ I' H' r, Lf No I H I' H' → Dp K I' r R → Q r H'
def pairD (s : Str) (d : PyData) : PyData := .tuple [.str s, d]
def SeqD (d : PyData) (ns : List Int) : Prop := d = .tuple (ns.map .int) ∨ d = .list (ns.map .int)
def ansRow (w m : Int) (ns : List Int) : PyData := if w = 2 then tupI ns else if w = 3 then .int (rankI (rgI m) ns) else .int (rankI (rgI m) ns + sumFall m ns.length)
theorem rfD_cases {al : List Int} {d : PyData} (h : rfD al d ≠ .non) : ∃ k : Int, rfD al d = .int k := by
  unfold rfD at h ⊢
  cases e : seqOf d with
  | none => exact ⟨-1, rfl⟩
  | some ds =>
    rw [e] at h
    cases e2 : rf al [] ds 0 with
    | none => exact absurd (by dsimp only; rw [e2]) h
    | some i => exact ⟨(i : Nat), by dsimp only; rw [e2]⟩
def spOfRow (K : PySem.W.Frag) (a : Adr) : Sp := fun vs H Q E => ∃ (I : Hp) (w : Int) (v r : V) (d e : PyData), vs = [.int w, v, r] ∧ (w = 2 ∨ w = 3 ∨ w = 4) ∧ Same I H ∧ Dp K I v d ∧ Dp K I r e ∧
  (wholeB d (some 0) (some 24) = false → Err1 a.c_BadCount "most" (.int 24) H E) ∧
  (∀ m : Int, d = .int m → 0 ≤ m → m ≤ 24 → rfD (rgI m) e ≠ .non → Err1 a.c_BadRow "at" (rfD (rgI m) e) H E) ∧
  (∀ (m : Int) (ns : List Int), d = .int m → 0 ≤ m → m ≤ 24 → SeqD e ns → ns.Nodup → (∀ n ∈ ns, 0 ≤ n ∧ n < m) → Ans K I H Q (ansRow w m ns))
theorem ok_law_of_row (T : Top K mg a) : FnOk P w K mg base (L2.CX P w) 7 a.f_law_of_row a.d_law_of_row ["_law_which", "_law_m", "_law_row"] (spOfRow K a) := by
  refine T.F_law_of_row.okX sc_law_of_row (fun vs H Q E h => ?_) (fun cdv A outer s H vs Q E hr h => ?_)
  · obtain ⟨I, w, v, r, d, e, rfl, _⟩ := h
    rfl
  · obtain ⟨I, w, v, r, d, e, rfl, hw, sI, hd, he, q1, q2, q3⟩ := h
    refine ⟨_, (pss_cons (ps_if (pt_cmpR op_eq (pv 0) pe_int (nomark _)) (pss_one (ps_ret (pe_call (ok_check_row T) (hr.mono (by decide)) (by rfl) T.g_check_row T.F_check_row.kp T.b_check_row .nil (passes_call (takes_of rfl rfl rfl rfl) (fun _ _ _ _ h => h)) (pa_cons (pv 1) (pa_cons (pv 2) pa_nil))))) pss_nil) (pss_one (ps_ret (pe_ifExp (pt_cmpR op_eq (pv 0) pe_int (nomark _)) (pe_call (ok_row_place T) (hr.mono (by decide)) (by rfl) T.g_row_place T.F_row_place.kp T.b_row_place .nil (passes_call (takes_of rfl rfl rfl rfl) (fun _ _ _ _ h => h)) (pa_cons (pv 1) (pa_cons (pv 2) pa_nil))) (pe_call (ok_row_number T) (hr.mono (by decide)) (by rfl) T.g_row_number T.F_row_number.kp T.b_row_number .nil (passes_call (takes_of rfl rfl rfl rfl) (fun _ _ _ _ h => h)) (pa_cons (pv 1) (pa_cons (pv 2) pa_nil))))))), ?_⟩
    walk_at "st"
    walk_at "wq"
    rcases hw with rfl | rfl | rfl
    · walk_at "wq"
      exact ⟨I, v, r, d, e, rfl, sI, hd, he, q1, q2, fun m ns e1 m0 m1 e2 hn hin I' H' r' f dr => q3 m ns e1 m0 m1 e2 hn hin I' H' r' f dr⟩
    · walk_at "wq"
      exact ⟨I, v, r, d, e, rfl, sI, hd, he, q1, q2, fun m ns e1 m0 m1 e2 hn hin H' s => q3 m ns e1 m0 m1 e2 hn hin I H' _ (Lf.ofSame sI s) (.int _)⟩
    · walk_at "wq"
      exact ⟨I, v, r, d, e, rfl, sI, hd, he, q1, q2, fun m ns e1 m0 m1 e2 hn hin H' s => q3 m ns e1 m0 m1 e2 hn hin I H' _ (Lf.ofSame sI s) (.int _)⟩
inductive Out : Int → PyData → PyData → PyData → PyData → Prop
  | count {w : Int} {d e g : PyData} (hw : w = 0 ∨ w = 2 ∨ w = 3 ∨ w = 4 ∨ w = 5 ∨ w = 6 ∨ w = 7 ∨ w = 8) (h : wholeB d (some 0) (some 24) = false) : Out w d e g (pairD "count" (.int 24))
  | told0 {m : Int} {e g : PyData} (m0 : 0 ≤ m) (m1 : m ≤ 24) : Out 0 (.int m) e g (pairD "told" (.int m))
  | count1 {n : Int} {d g : PyData} (h : wholeB d (some 0) (some n) = false) : Out 1 d (.int n) g (pairD "count" (.int n))
  | told1 {m n : Int} {g : PyData} (m0 : 0 ≤ m) (m1 : m ≤ n) : Out 1 (.int m) (.int n) g (pairD "told" (.int m))
  | row {w m k : Int} {e g : PyData} (hw : w = 2 ∨ w = 3 ∨ w = 4) (m0 : 0 ≤ m) (m1 : m ≤ 24) (h : rfD (rgI m) e = .int k) : Out w (.int m) e g (pairD "row" (.int k))
  | toldRow {w m : Int} {ns : List Int} {e g : PyData} (hw : w = 2 ∨ w = 3 ∨ w = 4) (m0 : 0 ≤ m) (m1 : m ≤ 24) (h : SeqD e ns) (hn : ns.Nodup) (hin : ∀ n ∈ ns, 0 ≤ n ∧ n < m) : Out w (.int m) e g (pairD "told" (ansRow w m ns))
  | count5 {m : Int} {e g : PyData} (m0 : 0 ≤ m) (m1 : m ≤ 24) (h : wholeB e (some 0) (some m) = false) : Out 5 (.int m) e g (pairD "count" (.int m))
  | place5 {m k : Int} {g : PyData} (k0 : 0 ≤ k) (k1 : k ≤ m) (m1 : m ≤ 24) (h : wholeB g (some 0) (some (fallI m k.toNat - 1)) = false) : Out 5 (.int m) (.int k) g (.tuple [.str "place"])
  | told5 {m k p : Int} (k0 : 0 ≤ k) (k1 : k ≤ m) (m1 : m ≤ 24) (p0 : 0 ≤ p) (p1 : p < fallI m k.toNat) : Out 5 (.int m) (.int k) (.int p) (pairD "told" (tupI (unrankI (rgI m) k.toNat p)))
  | place6 {m : Int} {e g : PyData} (m0 : 0 ≤ m) (m1 : m ≤ 24) (h : wholeB e (some 0) (some (allI m - 1)) = false) : Out 6 (.int m) e g (.tuple [.str "place"])
  | told6 {m p : Int} {k : Nat} {g : PyData} (k1 : (k : Int) ≤ m) (m1 : m ≤ 24) (p0 : 0 ≤ p) (p1 : p < fallI m k) : Out 6 (.int m) (.int (sumFall m k + p)) g (pairD "told" (tupI (unrankI (rgI m) k p)))
  | count7 {m : Int} {e g : PyData} (m0 : 0 ≤ m) (m1 : m ≤ 24) (h : wholeB e (some 0) (some 24) = false) : Out 7 (.int m) e g (pairD "count" (.int 24))
  | told7 {m k : Int} {g : PyData} (m0 : 0 ≤ m) (m1 : m ≤ 24) (k0 : 0 ≤ k) (k1 : k ≤ 24) : Out 7 (.int m) (.int k) g (pairD "told" (.int (if k ≤ m then fallI m k.toNat else 0)))
  | told8 {m : Int} {e g : PyData} (m0 : 0 ≤ m) (m1 : m ≤ 24) : Out 8 (.int m) e g (pairD "told" (.int (allI m)))
  | count9 {d e g : PyData} (h : wholeB d (some 0) (some 6) = false) : Out 9 d e g (pairD "count" (.int 6))
def spAsked (K : PySem.W.Frag) : Sp := fun vs H Q _ => ∃ (I : Hp) (w : Int) (v u t : V) (d e g R : PyData), vs = [.int w, v, u, t] ∧ Same I H ∧ Dp K I v d ∧ Dp K I u e ∧ Dp K I t g ∧ Out w d e g R ∧ Ans K I H Q R
theorem whole_no {m : Int} {lo hi : Int} (h : wholeB (.int m) (some lo) (some hi) = false) (h0 : lo ≤ m) (h1 : m ≤ hi) : False := by
  simp [wholeB, geB, leB] at h
  omega
theorem SeqD.inj {d : PyData} {ns ms : List Int} (h : SeqD d ns) (h2 : SeqD d ms) : ms = ns := by
  have inj : ∀ {ns ms : List Int}, ns.map PyData.int = ms.map PyData.int → ns = ms := by
    intro ns
    induction ns with
    | nil => intro ms h; cases ms with
      | nil => rfl
      | cons _ _ => cases h
    | cons n ns ih => intro ms h; cases ms with
      | nil => cases h
      | cons m ms =>
        injection h with h1 h2
        injection h1 with h1
        rw [h1, ih h2]
  rcases h with rfl | rfl
  · rcases h2 with h2 | h2
    · injection h2 with h2; exact (inj h2).symm
    · cases h2
  · rcases h2 with h2 | h2
    · cases h2
    · injection h2 with h2; exact (inj h2).symm
theorem SeqD.seq {d : PyData} {ns : List Int} (h : SeqD d ns) : seqOf d = some (ns.map .int) := by
  rcases h with rfl | rfl <;> rfl
theorem rfD_ok {al : List Int} {d : PyData} {ks : List Int} (h : SeqD d ks) (hd : ks.Nodup) (hin : ∀ k ∈ ks, k ∈ al) : rfD al d = .non := by
  unfold rfD
  rw [SeqD.seq h]
  dsimp only
  have z := rf_ok ks [] 0 (by simpa using hd) hin []
  rw [List.append_nil] at z
  rw [z]
  rfl
theorem ok_law_asked (T : Top K mg a) : FnOk P w K mg base CX0 8 a.f_law_asked a.d_law_asked ["_law_which", "_law_one", "_law_two", "_law_three"] (spAsked K) := by
  refine T.F_law_asked.ok sc_law_asked (fun vs H Q E h => ?_) (fun cdv A outer s H vs Q E hr h => ?_)
  · obtain ⟨I, w, v, u, t, d, e, g, R, rfl, _⟩ := h
    rfl
  · obtain ⟨I, w, v, u, t, d, e, g, R, rfl, sI, hd, he, hg, ho, q⟩ := h
    refine ⟨_, (pss_one (ps_try_mas rfl rfl sc_law_asked.nd takes0 (fun W pn xe tk po => (pss_cons (ps_if (pt_cmpR op_lt (pv 0) pe_int (nomark _)) (pss_one (ps_ret (pe_tup (pa_cons pe_str (pa_cons (pe_ifExp (pt_cmpR op_eq (pv 0) pe_int (nomark _)) (pe_callSD (ok_check_count T) (hr.mono (by decide)) (by rfl) T.g_check_count T.F_check_count.kp (bD_check_count_1 T).choose_spec.2 (bD_check_count_1 T).choose_spec.1 (fun σ => passAt tk σ) (pa_cons (pv 1) pa_nil)) (pe_callSD (ok_check_count T) (hr.mono (by decide)) (by rfl) T.g_check_count T.F_check_count.kp (bD_check_count_2 T).choose_spec.2 (bD_check_count_2 T).choose_spec.1 (fun σ => passAt tk σ) (pa_cons (pv 1) (pa_cons (pv 2) pa_nil)))) pa_nil))))) pss_nil) (pss_cons (ps_if (pt_cmpR op_lt (pv 0) pe_int (nomark _)) (pss_one (ps_ret (pe_tup (pa_cons pe_str (pa_cons (pe_callS (ok_law_of_row T) (hr.mono (by decide)) (by rfl) T.g_law_of_row T.F_law_of_row.kp T.b_law_of_row (fun σ => passAt tk σ) (pa_cons (pv 0) (pa_cons (pv 1) (pa_cons (pv 2) pa_nil)))) pa_nil))))) pss_nil) (pss_cons (ps_if (pt_cmpR op_eq (pv 0) pe_int (nomark _)) (pss_one (ps_ret (pe_tup (pa_cons pe_str (pa_cons (pe_callS (ok_row_at T) (hr.mono (by decide)) (by rfl) T.g_row_at T.F_row_at.kp T.b_row_at (fun σ => passAt tk σ) (pa_cons (pv 1) (pa_cons (pv 2) (pa_cons (pv 3) pa_nil)))) pa_nil))))) pss_nil) (pss_cons (ps_if (pt_cmpR op_eq (pv 0) pe_int (nomark _)) (pss_one (ps_ret (pe_tup (pa_cons pe_str (pa_cons (pe_callS (ok_row_numbered T) (hr.mono (by decide)) (by rfl) T.g_row_numbered T.F_row_numbered.kp T.b_row_numbered (fun σ => passAt tk σ) (pa_cons (pv 1) (pa_cons (pv 2) pa_nil))) pa_nil))))) pss_nil) (pss_cons (ps_if (pt_cmpR op_eq (pv 0) pe_int (nomark _)) (pss_one (ps_ret (pe_tup (pa_cons pe_str (pa_cons (pe_callS (ok_count_falling T) (hr.mono (by decide)) (by rfl) T.g_count_falling T.F_count_falling.kp T.b_count_falling (fun σ => passAt tk σ) (pa_cons (pv 1) (pa_cons (pv 2) pa_nil))) pa_nil))))) pss_nil) (pss_one (ps_ret (pe_tup (pa_cons pe_str (pa_cons (pe_ifExp (pt_cmpR op_eq (pv 0) pe_int (nomark _)) (pe_callS (ok_count_all_rows T) (hr.mono (by decide)) (by rfl) T.g_count_all_rows T.F_count_all_rows.kp T.b_count_all_rows (fun σ => passAt tk σ) (pa_cons (pv 1) pa_nil)) (pe_callB (call_lenK (K := K) rfl) (by rfl) T.n_len (by decide +kernel) (pa_cons (pe_listGSK (K := K) rfl (ok_all_rows T) (hr.mono (by decide)) (by rfl) T.g_all_rows T.F_all_rows.kp T.b_all_rows .nil (fun σ => passAt tk σ) (pa_cons (pv 1) pa_nil) (by rfl) T.n_list (by decide +kernel)) pa_nil))) pa_nil))))))))))) (HdsAs.cons (i := 4) rfl rfl ⟨by rfl, by decide, Or.inl T.gc_BadCount⟩ (fun aa oe cls d pn hz hf => (pss_one (ps_ret (pe_tup (pa_cons pe_str (pa_cons (pe_xf T.xf_BadCount T.no_BadCount_most hz hf (pv 4)) pa_nil)))))) (HdsAs.cons (i := 4) rfl rfl ⟨by rfl, by decide, Or.inl T.gc_BadRow⟩ (fun aa oe cls d pn hz hf => (pss_one (ps_ret (pe_tup (pa_cons pe_str (pa_cons (pe_xf T.xf_BadRow T.no_BadRow_at hz hf (pv 4)) pa_nil)))))) (HdsAs.bare ⟨by rfl, by decide, Or.inl T.gc_BadPlace⟩ (fun aa oe cls d pn hz hf => (pss_one (ps_ret (pe_tup (pa_cons pe_str pa_nil))))) HdsAs.nil))))), ?_⟩
    walk_at "st"
    walk_at "wq"
    cases ho with
    | count hw h =>
      have no : ∀ {m : Int}, d = .int m → 0 ≤ m → m ≤ 24 → False := fun e1 m0 m1 => by subst e1; exact whole_no h m0 m1
      rcases hw with rfl | rfl | rfl | rfl | rfl | rfl | rfl | rfl
      · walk_at "wq"
        refine ⟨v, d, 24, rfl, Dp.up hd sI, fun z => by rw [h] at z; (cases z), fun _ H' x sx hx => ?_⟩
        refine w_hit T.ex_BadCount_BadCount fun aa haa => ?_
        simp only [List.set_cons_zero, List.set_cons_succ]
        walk_at "wq"
        refine w_xf1 hx ?_ rfl
        walk_at "wq"
        have f1 := Lf.ofSame (M := No) sI sx
        refine w_newT (K := K) f1.sub (.cons (.str _) (.cons (.int _) .nil)) (by show 2 ≤ sizeLine; decide) fun I2 p2 f2 d2 => ?_
        exact q I2 _ _ (f1.trans f2) d2
      · walk_at "wq"
        refine ⟨I, 2, v, u, d, e, rfl, .inl rfl, sI, hd, he, fun _ H' x sx hx => ?_, fun m e1 m0 m1 _ => (no e1 m0 m1).elim, fun m ns e1 m0 m1 _ _ _ => (no e1 m0 m1).elim⟩
        refine w_hit T.ex_BadCount_BadCount fun aa haa => ?_
        simp only [List.set_cons_zero, List.set_cons_succ]
        walk_at "wq"
        refine w_xf1 hx ?_ rfl
        walk_at "wq"
        have f1 := Lf.ofSame (M := No) sI sx
        refine w_newT (K := K) f1.sub (.cons (.str _) (.cons (.int _) .nil)) (by show 2 ≤ sizeLine; decide) fun I2 p2 f2 d2 => ?_
        exact q I2 _ _ (f1.trans f2) d2
      · walk_at "wq"
        refine ⟨I, 3, v, u, d, e, rfl, .inr (.inl rfl), sI, hd, he, fun _ H' x sx hx => ?_, fun m e1 m0 m1 _ => (no e1 m0 m1).elim, fun m ns e1 m0 m1 _ _ _ => (no e1 m0 m1).elim⟩
        refine w_hit T.ex_BadCount_BadCount fun aa haa => ?_
        simp only [List.set_cons_zero, List.set_cons_succ]
        walk_at "wq"
        refine w_xf1 hx ?_ rfl
        walk_at "wq"
        have f1 := Lf.ofSame (M := No) sI sx
        refine w_newT (K := K) f1.sub (.cons (.str _) (.cons (.int _) .nil)) (by show 2 ≤ sizeLine; decide) fun I2 p2 f2 d2 => ?_
        exact q I2 _ _ (f1.trans f2) d2
      · walk_at "wq"
        refine ⟨I, 4, v, u, d, e, rfl, .inr (.inr rfl), sI, hd, he, fun _ H' x sx hx => ?_, fun m e1 m0 m1 _ => (no e1 m0 m1).elim, fun m ns e1 m0 m1 _ _ _ => (no e1 m0 m1).elim⟩
        refine w_hit T.ex_BadCount_BadCount fun aa haa => ?_
        simp only [List.set_cons_zero, List.set_cons_succ]
        walk_at "wq"
        refine w_xf1 hx ?_ rfl
        walk_at "wq"
        have f1 := Lf.ofSame (M := No) sI sx
        refine w_newT (K := K) f1.sub (.cons (.str _) (.cons (.int _) .nil)) (by show 2 ≤ sizeLine; decide) fun I2 p2 f2 d2 => ?_
        exact q I2 _ _ (f1.trans f2) d2
      · walk_at "wq"
        refine ⟨I, v, u, t, d, e, g, rfl, sI, hd, he, hg, fun _ H' x sx hx => ?_, fun m e1 m0 m1 _ => (no e1 m0 m1).elim, fun m k e1 _ k0 k1 m1 _ => (no e1 (by omega) m1).elim, fun m k p e1 _ _ k0 k1 m1 _ _ => (no e1 (by omega) m1).elim⟩
        refine w_hit T.ex_BadCount_BadCount fun aa haa => ?_
        simp only [List.set_cons_zero, List.set_cons_succ]
        walk_at "wq"
        refine w_xf1 hx ?_ rfl
        walk_at "wq"
        have f1 := Lf.ofSame (M := No) sI sx
        refine w_newT (K := K) f1.sub (.cons (.str _) (.cons (.int _) .nil)) (by show 2 ≤ sizeLine; decide) fun I2 p2 f2 d2 => ?_
        exact q I2 _ _ (f1.trans f2) d2
      · walk_at "wq"
        refine ⟨I, v, u, d, e, rfl, sI, hd, he, fun _ H' x sx hx => ?_, fun m e1 m0 m1 _ => (no e1 m0 m1).elim, fun m k p e1 _ k1 m1 _ _ => (no e1 (by omega) m1).elim⟩
        refine w_hit T.ex_BadCount_BadCount fun aa haa => ?_
        simp only [List.set_cons_zero, List.set_cons_succ]
        walk_at "wq"
        refine w_xf1 hx ?_ rfl
        walk_at "wq"
        have f1 := Lf.ofSame (M := No) sI sx
        refine w_newT (K := K) f1.sub (.cons (.str _) (.cons (.int _) .nil)) (by show 2 ≤ sizeLine; decide) fun I2 p2 f2 d2 => ?_
        exact q I2 _ _ (f1.trans f2) d2
      · walk_at "wq"
        refine ⟨v, u, d, e, rfl, Dp.up hd sI, Dp.up he sI, fun _ H' x sx hx => ?_, fun m k e1 _ m0 m1 _ _ => (no e1 m0 m1).elim⟩
        refine w_hit T.ex_BadCount_BadCount fun aa haa => ?_
        simp only [List.set_cons_zero, List.set_cons_succ]
        walk_at "wq"
        refine w_xf1 hx ?_ rfl
        walk_at "wq"
        have f1 := Lf.ofSame (M := No) sI sx
        refine w_newT (K := K) f1.sub (.cons (.str _) (.cons (.int _) .nil)) (by show 2 ≤ sizeLine; decide) fun I2 p2 f2 d2 => ?_
        exact q I2 _ _ (f1.trans f2) d2
      · walk_at "wq"
        refine ⟨v, d, rfl, Dp.up hd sI, fun _ H' x sx hx => ?_, fun m e1 m0 m1 => (no e1 m0 m1).elim⟩
        refine w_hit T.ex_BadCount_BadCount fun aa haa => ?_
        simp only [List.set_cons_zero, List.set_cons_succ]
        walk_at "wq"
        refine w_xf1 hx ?_ rfl
        walk_at "wq"
        have f1 := Lf.ofSame (M := No) sI sx
        refine w_newT (K := K) f1.sub (.cons (.str _) (.cons (.int _) .nil)) (by show 2 ≤ sizeLine; decide) fun I2 p2 f2 d2 => ?_
        exact q I2 _ _ (f1.trans f2) d2
    | told0 m0 m1 =>
      obtain rfl := Dp.ofInt hd
      walk_at "wq"
      refine ⟨_, _, 24, rfl, .int _, fun _ => ?_, fun z => (whole_no z m0 m1).elim⟩
      have sx : Same H H := Same.refl H
      have f : Lf No I H I _ := Lf.ofSame sI sx
      walk_at "wq"
      refine w_newT (K := K) f.sub (.cons (.str _) (.cons (.int _) .nil)) (by show 2 ≤ sizeLine; decide) fun I2 p2 f2 d2 => ?_
      exact q I2 _ _ (f.trans f2) d2
    | count1 h =>
      obtain rfl := Dp.ofInt he
      walk_at "wq"
      refine ⟨v, d, _, rfl, Dp.up hd sI, fun z => by rw [h] at z; (cases z), fun _ H' x sx hx => ?_⟩
      refine w_hit T.ex_BadCount_BadCount fun aa haa => ?_
      simp only [List.set_cons_zero, List.set_cons_succ]
      walk_at "wq"
      refine w_xf1 hx ?_ rfl
      walk_at "wq"
      have f1 := Lf.ofSame (M := No) sI sx
      refine w_newT (K := K) f1.sub (.cons (.str _) (.cons (.int _) .nil)) (by show 2 ≤ sizeLine; decide) fun I2 p2 f2 d2 => ?_
      exact q I2 _ _ (f1.trans f2) d2
    | told1 m0 m1 =>
      obtain rfl := Dp.ofInt hd
      obtain rfl := Dp.ofInt he
      walk_at "wq"
      refine ⟨_, _, _, rfl, .int _, fun _ => ?_, fun z => (whole_no z m0 m1).elim⟩
      have sx : Same H H := Same.refl H
      have f : Lf No I H I _ := Lf.ofSame sI sx
      walk_at "wq"
      refine w_newT (K := K) f.sub (.cons (.str _) (.cons (.int _) .nil)) (by show 2 ≤ sizeLine; decide) fun I2 p2 f2 d2 => ?_
      exact q I2 _ _ (f.trans f2) d2
    | row hw m0 m1 h =>
      rcases hw with rfl | rfl | rfl
      · walk_at "wq"
        refine ⟨I, 2, v, u, _, e, rfl, .inl rfl, sI, hd, he, fun z => (whole_no z m0 m1).elim, fun m' e1 _ _ _ H' x sx hx => ?_, fun m' ns e1 _ _ hs hn hin => ?_⟩
        · cases e1
          rw [h] at hx
          refine w_miss T.ex_BadRow_BadCount (w_hit T.ex_BadRow_BadRow fun aa haa => ?_)
          simp only [List.set_cons_zero, List.set_cons_succ]
          walk_at "wq"
          refine w_xf1 hx ?_ rfl
          walk_at "wq"
          have f1 := Lf.ofSame (M := No) sI sx
          refine w_newT (K := K) f1.sub (.cons (.str _) (.cons (.int _) .nil)) (by show 2 ≤ sizeLine; decide) fun I2 p2 f2 d2 => ?_
          exact q I2 _ _ (f1.trans f2) d2
        · cases e1
          rw [rfD_ok hs hn fun k hk => mem_rgI.mpr (hin k hk)] at h
          cases h
      · walk_at "wq"
        refine ⟨I, 3, v, u, _, e, rfl, .inr (.inl rfl), sI, hd, he, fun z => (whole_no z m0 m1).elim, fun m' e1 _ _ _ H' x sx hx => ?_, fun m' ns e1 _ _ hs hn hin => ?_⟩
        · cases e1
          rw [h] at hx
          refine w_miss T.ex_BadRow_BadCount (w_hit T.ex_BadRow_BadRow fun aa haa => ?_)
          simp only [List.set_cons_zero, List.set_cons_succ]
          walk_at "wq"
          refine w_xf1 hx ?_ rfl
          walk_at "wq"
          have f1 := Lf.ofSame (M := No) sI sx
          refine w_newT (K := K) f1.sub (.cons (.str _) (.cons (.int _) .nil)) (by show 2 ≤ sizeLine; decide) fun I2 p2 f2 d2 => ?_
          exact q I2 _ _ (f1.trans f2) d2
        · cases e1
          rw [rfD_ok hs hn fun k hk => mem_rgI.mpr (hin k hk)] at h
          cases h
      · walk_at "wq"
        refine ⟨I, 4, v, u, _, e, rfl, .inr (.inr rfl), sI, hd, he, fun z => (whole_no z m0 m1).elim, fun m' e1 _ _ _ H' x sx hx => ?_, fun m' ns e1 _ _ hs hn hin => ?_⟩
        · cases e1
          rw [h] at hx
          refine w_miss T.ex_BadRow_BadCount (w_hit T.ex_BadRow_BadRow fun aa haa => ?_)
          simp only [List.set_cons_zero, List.set_cons_succ]
          walk_at "wq"
          refine w_xf1 hx ?_ rfl
          walk_at "wq"
          have f1 := Lf.ofSame (M := No) sI sx
          refine w_newT (K := K) f1.sub (.cons (.str _) (.cons (.int _) .nil)) (by show 2 ≤ sizeLine; decide) fun I2 p2 f2 d2 => ?_
          exact q I2 _ _ (f1.trans f2) d2
        · cases e1
          rw [rfD_ok hs hn fun k hk => mem_rgI.mpr (hin k hk)] at h
          cases h
    | toldRow hw m0 m1 h hn hin =>
      rcases hw with rfl | rfl | rfl
      · walk_at "wq"
        refine ⟨I, 2, v, u, _, e, rfl, .inl rfl, sI, hd, he, fun z => (whole_no z m0 m1).elim, fun m' e1 _ _ z => ?_, fun m' ns' e1 _ _ hs _ _ I' H' r' f dr => ?_⟩
        · cases e1
          exact absurd (rfD_ok h hn fun k hk => mem_rgI.mpr (hin k hk)) z
        · cases e1
          obtain rfl := SeqD.inj h hs
          walk_at "wq"
          refine w_newT (K := K) f.sub (.cons (.str _) (.cons dr .nil)) (by show 2 ≤ sizeLine; decide) fun I2 p2 f2 d2 => ?_
          exact q I2 _ _ (f.trans f2) d2
      · walk_at "wq"
        refine ⟨I, 3, v, u, _, e, rfl, .inr (.inl rfl), sI, hd, he, fun z => (whole_no z m0 m1).elim, fun m' e1 _ _ z => ?_, fun m' ns' e1 _ _ hs _ _ I' H' r' f dr => ?_⟩
        · cases e1
          exact absurd (rfD_ok h hn fun k hk => mem_rgI.mpr (hin k hk)) z
        · cases e1
          obtain rfl := SeqD.inj h hs
          walk_at "wq"
          refine w_newT (K := K) f.sub (.cons (.str _) (.cons dr .nil)) (by show 2 ≤ sizeLine; decide) fun I2 p2 f2 d2 => ?_
          exact q I2 _ _ (f.trans f2) d2
      · walk_at "wq"
        refine ⟨I, 4, v, u, _, e, rfl, .inr (.inr rfl), sI, hd, he, fun z => (whole_no z m0 m1).elim, fun m' e1 _ _ z => ?_, fun m' ns' e1 _ _ hs _ _ I' H' r' f dr => ?_⟩
        · cases e1
          exact absurd (rfD_ok h hn fun k hk => mem_rgI.mpr (hin k hk)) z
        · cases e1
          obtain rfl := SeqD.inj h hs
          walk_at "wq"
          refine w_newT (K := K) f.sub (.cons (.str _) (.cons dr .nil)) (by show 2 ≤ sizeLine; decide) fun I2 p2 f2 d2 => ?_
          exact q I2 _ _ (f.trans f2) d2
    | count5 m0 m1 h =>
      walk_at "wq"
      refine ⟨I, v, u, t, _, e, g, rfl, sI, hd, he, hg, fun z => (whole_no z m0 m1).elim, fun m' e1 _ _ _ H' x sx hx => ?_, fun m' k e1 e2 k0 k1 _ _ => ?_, fun m' k p e1 e2 _ k0 k1 _ _ _ => ?_⟩
      · cases e1
        refine w_hit T.ex_BadCount_BadCount fun aa haa => ?_
        simp only [List.set_cons_zero, List.set_cons_succ]
        walk_at "wq"
        refine w_xf1 hx ?_ rfl
        walk_at "wq"
        have f1 := Lf.ofSame (M := No) sI sx
        refine w_newT (K := K) f1.sub (.cons (.str _) (.cons (.int _) .nil)) (by show 2 ≤ sizeLine; decide) fun I2 p2 f2 d2 => ?_
        exact q I2 _ _ (f1.trans f2) d2
      · cases e1
        subst e2
        exact (whole_no h k0 k1).elim
      · cases e1
        subst e2
        exact (whole_no h k0 k1).elim
    | place5 k0 k1 m1 h =>
      walk_at "wq"
      refine ⟨I, v, u, t, _, _, g, rfl, sI, hd, he, hg, fun z => (whole_no z (by omega) m1).elim, fun m' e1 _ _ z => ?_, fun m' k' e1 e2 _ _ _ _ H' sx => ?_, fun m' k' p e1 e2 e3 _ _ _ p0 p1 => ?_⟩
      · cases e1
        exact (whole_no z k0 k1).elim
      · refine w_miss T.ex_BadPlace_BadCount (w_miss T.ex_BadPlace_BadRow (w_hit0 T.ex_BadPlace_BadPlace fun aa haa => ?_))
        walk_at "wq"
        have f1 := Lf.ofSame (M := No) sI sx
        refine w_newT (K := K) f1.sub (.cons (.str _) .nil) (by show 1 ≤ sizeLine; decide) fun I2 p2 f2 d2 => ?_
        exact q I2 _ _ (f1.trans f2) d2
      · cases e1
        cases e2
        subst e3
        exact (whole_no h p0 (by omega)).elim
    | told5 k0 k1 m1 p0 p1 =>
      walk_at "wq"
      refine ⟨I, v, u, t, _, _, _, rfl, sI, hd, he, hg, fun z => (whole_no z (by omega) m1).elim, fun m' e1 _ _ z => ?_, fun m' k' e1 e2 _ _ _ z => ?_, fun m' k' p e1 e2 e3 _ _ _ _ _ I' H' r' f dr => ?_⟩
      · cases e1
        exact (whole_no z k0 k1).elim
      · cases e1
        cases e2
        exact (whole_no z p0 (by omega)).elim
      · cases e1
        cases e2
        cases e3
        walk_at "wq"
        refine w_newT (K := K) f.sub (.cons (.str _) (.cons dr .nil)) (by show 2 ≤ sizeLine; decide) fun I2 p2 f2 d2 => ?_
        exact q I2 _ _ (f.trans f2) d2
    | place6 m0 m1 h =>
      walk_at "wq"
      refine ⟨I, v, u, _, e, rfl, sI, hd, he, fun z => (whole_no z m0 m1).elim, fun m' e1 _ _ _ H' sx => ?_, fun m' k p e1 e2 k1 _ p0 p1 => ?_⟩
      · refine w_miss T.ex_BadPlace_BadCount (w_miss T.ex_BadPlace_BadRow (w_hit0 T.ex_BadPlace_BadPlace fun aa haa => ?_))
        walk_at "wq"
        have f1 := Lf.ofSame (M := No) sI sx
        refine w_newT (K := K) f1.sub (.cons (.str _) .nil) (by show 1 ≤ sizeLine; decide) fun I2 p2 f2 d2 => ?_
        exact q I2 _ _ (f1.trans f2) d2
      · have z1 := sumFall_mono (m := m') (i := 0) (j := k) (by omega) (by omega)
        have z2 := sumFall_mono (m := m') (i := k + 1) (j := m'.toNat + 1) (by omega) (by omega)
        rw [sumFall_succ] at z2
        replace z2 : sumFall m' k + p ≤ allI m' - 1 := by
          show _ ≤ sumFall m' (m'.toNat + 1) - 1
          omega
        cases e1
        subst e2
        exact (whole_no h (Int.add_nonneg z1 p0) z2).elim
    | told6 k1 m1 p0 p1 =>
      rename_i m p k
      walk_at "wq"
      have hb0 : 0 ≤ sumFall m k := sumFall_mono (m := m) (i := 0) (j := k) (by omega) (by omega)
      have hb1 : sumFall m k + p ≤ allI m - 1 := by
        have z := sumFall_mono (m := m) (i := k + 1) (j := m.toNat + 1) (by omega) (by omega)
        rw [sumFall_succ] at z
        show _ ≤ sumFall m (m.toNat + 1) - 1
        omega
      refine ⟨I, v, u, _, _, rfl, sI, hd, he, fun z => (whole_no z (by omega) m1).elim, fun m' e1 _ _ z => ?_, fun m' k' p' e1 e2 k1' _ p0' p1' I' H' r' f dr => ?_⟩
      · cases e1
        exact (whole_no z (by omega) hb1).elim
      · cases e1
        injection e2 with e2
        have same : k' = k ∧ p' = p := by
          rcases Nat.lt_trichotomy k k' with c | c | c
          · have z := sumFall_mono (m := m) (i := k + 1) (j := k') (by omega) (by omega)
            rw [sumFall_succ] at z
            omega
          · subst c
            exact ⟨rfl, by omega⟩
          · have z := sumFall_mono (m := m) (i := k' + 1) (j := k) (by omega) (by omega)
            rw [sumFall_succ] at z
            omega
        obtain ⟨rfl, rfl⟩ := same
        walk_at "wq"
        refine w_newT (K := K) f.sub (.cons (.str _) (.cons dr .nil)) (by show 2 ≤ sizeLine; decide) fun I2 p2 f2 d2 => ?_
        exact q I2 _ _ (f.trans f2) d2
    | count7 m0 m1 h =>
      walk_at "wq"
      refine ⟨v, u, _, e, rfl, Dp.up hd sI, Dp.up he sI, fun _ H' x sx hx => ?_, fun m k e1 e2 _ _ k0 k1 => ?_⟩
      · refine w_hit T.ex_BadCount_BadCount fun aa haa => ?_
        simp only [List.set_cons_zero, List.set_cons_succ]
        walk_at "wq"
        refine w_xf1 hx ?_ rfl
        walk_at "wq"
        have f1 := Lf.ofSame (M := No) sI sx
        refine w_newT (K := K) f1.sub (.cons (.str _) (.cons (.int _) .nil)) (by show 2 ≤ sizeLine; decide) fun I2 p2 f2 d2 => ?_
        exact q I2 _ _ (f1.trans f2) d2
      · subst e2
        exact (whole_no h k0 k1).elim
    | told7 m0 m1 k0 k1 =>
      obtain rfl := Dp.ofInt hd
      obtain rfl := Dp.ofInt he
      walk_at "wq"
      refine ⟨_, _, _, _, rfl, .int _, .int _, fun z => ?_, fun m' k' e1 e2 _ _ _ _ => ?_⟩
      · rcases z with z | z
        · exact (whole_no z m0 m1).elim
        · exact (whole_no z k0 k1).elim
      · cases e1
        cases e2
        have sx : Same H H := Same.refl H
        have f : Lf No I H I _ := Lf.ofSame sI sx
        walk_at "wq"
        refine w_newT (K := K) f.sub (.cons (.str _) (.cons (.int _) .nil)) (by show 2 ≤ sizeLine; decide) fun I2 p2 f2 d2 => ?_
        exact q I2 _ _ (f.trans f2) d2
    | told8 m0 m1 =>
      obtain rfl := Dp.ofInt hd
      walk_at "wq"
      refine ⟨_, _, rfl, .int _, fun z => (whole_no z m0 m1).elim, fun m' e1 _ _ H' sx => ?_⟩
      cases e1
      have f : Lf No I H I _ := Lf.ofSame sI sx
      walk_at "wq"
      refine w_newT (K := K) f.sub (.cons (.str _) (.cons (.int _) .nil)) (by show 2 ≤ sizeLine; decide) fun I2 p2 f2 d2 => ?_
      exact q I2 _ _ (f.trans f2) d2
    | count9 h =>
      walk_at "wq"
      refine ⟨v, d, rfl, Dp.up hd sI, fun _ H' x sx hx => ⟨T.st_BadCount, ?_⟩, fun m e1 m0 m1 => ?_⟩
      · refine w_hit T.ex_BadCount_BadCount fun aa haa => ?_
        simp only [List.set_cons_zero, List.set_cons_succ]
        walk_at "wq"
        refine w_xf1 hx ?_ rfl
        walk_at "wq"
        have f1 := Lf.ofSame (M := No) sI sx
        refine w_newT (K := K) f1.sub (.cons (.str _) (.cons (.int _) .nil)) (by show 2 ≤ sizeLine; decide) fun I2 p2 f2 d2 => ?_
        exact q I2 _ _ (f1.trans f2) d2
      · subst e1
        exact (whole_no h m0 m1).elim
end
section
variable {P : Program} {w : World} {K : PySem.W.Frag} {mg : Str → Option Value} {base : Heap} {a : Adr}
theorem ok_law_falling (T : Top K mg a) : FnOk P w K mg base CX0 1 a.f_law_falling a.d_law_falling ["_law_m", "_law_d"] spWays := by
  refine T.F_law_falling.ok sc_law_falling (fun vs H Q E h => ?_) (fun cdv A outer s H vs Q E hr h => ?_)
  · obtain ⟨m, d, rfl, _⟩ := h
    rfl
  · obtain ⟨m, d, rfl, m0, m1, d0, d1, q⟩ := h
    refine ⟨_, (pss_cons (ps_set (i := 2) sc_law_falling.nd rfl (Or.inl rfl) pe_int) (pss_cons (ps_for PassesOwn.never rfl (pi_range1 (by rfl) T.n_range (pa_cons (pv 1) pa_nil)) (pg_name (i := 3) sc_law_falling.nd rfl (Or.inl rfl)) (pss_one (ps_set (i := 2) sc_law_falling.nd rfl (Or.inl rfl) (pe_op op_mul (pv 2) (pe_op op_sub (pv 0) (pv 3)))))) (pss_one (ps_ret (pv 2))))), ?_⟩
    walk_at "st"
    walk_at "wp"
    refine w_forR1 d0 (by omega) (fun i σ H' => ∃ y : Option V, σ = [some (.int m), some (.int d), some (.int (fallI m i)), y] ∧ H' = H) (fun Q q => ?_) ⟨none, rfl, rfl⟩ (fun i σ H' hi h => ?_) (fun σ H' h => ?_)
    · walk_at "wp"
      exact q
    · obtain ⟨y, rfl, rfl⟩ := h
      refine w_name ?_
      simp only [List.set_cons_zero, List.set_cons_succ]
      walk_at "wp"
      exact ⟨_, rfl, rfl⟩
    · obtain ⟨y, rfl, rfl⟩ := h
      walk_at "wp"
      exact q
theorem dpSeq {I : Hp} {v : V} {ns : List Int} (h : Dp K I v (.tuple (ns.map .int)) ∨ Dp K I v (.list (ns.map .int))) : ∃ p, v = .ref p ∧ (SqL K I p (ns.map V.int) ∨ SqT K I p (ns.map V.int)) := by
  rcases h with h | h
  · obtain ⟨p, xs, rfl, hp, hx⟩ := Dp.tupRef h
    obtain rfl := DpAll.isInts hx
    exact ⟨p, rfl, .inr hp⟩
  · obtain ⟨p, xs, rfl, hp, hx⟩ := Dp.lstRef h
    obtain rfl := DpAll.isInts hx
    exact ⟨p, rfl, .inl hp⟩
theorem w_extend {H : Hp} {Q : VK} {b e : Addr} {xs zs : List V} (h : H b = some (.lst xs)) (h2 : H e = some (.lst zs)) (l : xs.length + zs.length ≤ sizeLine) (q : Q .non (upd H b (.lst (xs ++ zs)))) : rExtend (.ref b) [.ref e] H Q :=
  ⟨b, e, xs, zs, rfl, rfl, h, h2, l, q⟩
def longI (m : Int) (r : List Int) : List (List Int) := ((rgI m).filter fun f => decide (f ∉ r)).map fun f => r ++ [f]
def rowsI (m : Int) : Nat → List (List Int)
  | 0 => [[]]
  | d + 1 => (rowsI m d).flatMap (longI m)
theorem longI_len (m : Int) (r : List Int) : (longI m r).length ≤ m.toNat := by
  unfold longI
  rw [List.length_map]
  exact Nat.le_trans (List.length_filter_le _ _) (by rw [rgI_len]; exact Nat.le_refl _)
theorem flat_len {m : Int} : ∀ (l : List (List Int)), (l.flatMap (longI m)).length ≤ l.length * m.toNat
  | [] => by simp
  | r :: l => by
    rw [List.flatMap_cons, List.length_append, List.length_cons, Nat.add_mul, Nat.one_mul]
    have := longI_len m r
    have := flat_len (m := m) l
    omega
theorem rowsI_len (m : Int) : ∀ d : Nat, (rowsI m d).length ≤ m.toNat ^ d
  | 0 => by simp [rowsI]
  | d + 1 => by
    have h1 := flat_len (m := m) (rowsI m d)
    have h2 := rowsI_len m d
    rw [Nat.pow_succ]
    exact Nat.le_trans h1 (Nat.mul_le_mul_right _ h2)
theorem rows_each {m : Int} : ∀ (d : Nat) (r : List Int), r ∈ rowsI m d → r.length = d
  | 0, r, h => by
    have e : r = [] := by simpa [rowsI] using h
    rw [e]
    rfl
  | d + 1, r, h => by
    obtain ⟨s, hs, hr⟩ := List.mem_flatMap.mp (show r ∈ (rowsI m d).flatMap (longI m) from h)
    obtain ⟨f, _, rfl⟩ := List.mem_map.mp hr
    rw [List.length_append, rows_each d s hs]
    rfl
theorem longI_range (m : Int) (r : List Int) : (((List.range m.toNat).filter fun k => decide (((k : Nat) : Int) ∉ r)).map fun (k : Nat) => tupI (r ++ [(k : Int)])) = (longI m r).map tupI := by
  unfold longI rgI
  rw [List.filter_map, List.map_map, List.map_map]
  rfl
def spRowsOf (K : PySem.W.Frag) : Sp := fun vs H Q _ => ∃ (I : Hp) (m d : Int), vs = [.int m, .int d] ∧ Same I H ∧ 0 ≤ d ∧ d ≤ 5 ∧ 0 ≤ m ∧ m ≤ 5 ∧
  ∀ I' H' p xs, Lf No I H I' H' → I' p = some (.lst xs) → DpAll K I' xs ((rowsI m d.toNat).map tupI) → Q (.ref p) H'
theorem pow_small {m : Nat} (h : m ≤ 5) {d : Nat} (hd : d ≤ 6) : m ^ d ≤ 15625 :=
  Nat.le_trans (Nat.pow_le_pow_left h d) (Nat.le_trans (Nat.pow_le_pow_right (by decide) hd) (by decide))
theorem ok_law_rows_of (T : Top K mg a) : FnOk P w K mg base CX0 1 a.f_law_rows_of a.d_law_rows_of ["_law_m", "_law_d"] (spRowsOf K) := by
  refine T.F_law_rows_of.ok sc_law_rows_of (fun vs H Q E h => ?_) (fun cdv A outer s H vs Q E hr h => ?_)
  · obtain ⟨I, m, d, rfl, _⟩ := h
    rfl
  · obtain ⟨I, m, d, rfl, sI, d0, d1, m0, m1, q⟩ := h
    refine ⟨_, (pss_cons (ps_set (i := 2) sc_law_rows_of.nd rfl (Or.inl rfl) (pe_lst (pa_cons (pe_tup pa_nil) pa_nil))) (pss_cons (ps_for PassesOwn.never rfl (pi_range1 (by rfl) T.n_range (pa_cons (pv 1) pa_nil)) (pg_name (i := 3) sc_law_rows_of.nd rfl (Or.inl rfl)) (pss_cons (ps_set (i := 4) sc_law_rows_of.nd rfl (Or.inl rfl) (pe_lst pa_nil)) (pss_cons (ps_for PassesOwn.never rfl (pi_seqK (K := K) rfl (pv 2)) (pg_name (i := 5) sc_law_rows_of.nd rfl (Or.inr rfl)) (pss_one (ps_expr (pe_bm PySem.F.plainAttrs_list PySem.F.slot_list_extend PySem.F.type_list_extend mt_extend (pv 4) (pa_cons (pe_lc (own := [("_law_f", 6)]) (g := gName 6) (by rfl) sc_law_rows_of.nd (pi_range1 (by rfl) T.n_range (pa_cons (pv 0) pa_nil)) (blkOk_by (own := [("_law_f", 6)]) (N := ["_law_m", "_law_d", "_law_level", "_law_step", "_law_longer", "_law_row", "_law_f"]) (sc := defScope s_law_rows_of) (by decide +kernel)) (fun _ _ _ _ _ => (pg_name (i := 6) sc_law_rows_of.nd rfl (Or.inl rfl))) (fun _ _ _ _ _ => pts_one (pt_cmpR (op_ninK (K := K) rfl) (pv 6) (pv 5) (by rfl))) (fun _ _ _ _ _ => (pe_op (op_catK (K := K) rfl) (pv 5) (pe_tup (pa_cons (pv 6) pa_nil))))) pa_nil))))) (pss_one (ps_set (i := 2) sc_law_rows_of.nd rfl (Or.inl rfl) (pe_callTy (call_listK (K := K) rfl) (by rfl) T.n_list (by decide +kernel) (pa_cons (pv 4) pa_nil))))))) (pss_one (ps_ret (pv 2))))), ?_⟩
    walk_at "st"
    walk_at "wp"
    have big : 15625 ≤ sizeLine := by decide
    refine w_newT (K := K) sI .nil (by show 0 ≤ sizeLine; decide) fun I1 p1 f1 d1' => ?_
    walk_at "wp"
    refine ⟨by show 1 ≤ sizeLine; decide, fun pl hpl => ?_⟩
    have f2 : Lf No I1 (upd H p1 (.tup [])) (upd I1 pl (.lst [.ref p1])) _ := Lf.put (o := .lst [.ref p1]) f1.sub hpl
    have F := f1.trans f2
    walk_at "wp"
    refine w_forR1 d0 (by omega) (fun i σ H' => ∃ (I' : Hp) (pv : Addr) (xs : List V) (y1 y2 y3 y4 : Option V), σ = [some (.int m), some (.int d), some (.ref pv), y1, y2, y3, y4] ∧ Lf No I H I' H' ∧ I' pv = some (.lst xs) ∧ DpAll K I' xs ((rowsI m i).map tupI)) (fun Q q => ?_)
      ⟨_, pl, _, none, none, none, none, rfl, F, upd_same, .cons (Dp.up d1' f2.ext) .nil⟩ (fun i σ H' hi h => ?_) (fun σ H' h => ?_)
    · walk_at "wp"
      exact q
    · obtain ⟨I', pv, xs, y1, y2, y3, y4, rfl, F, hpv, aX⟩ := h
      refine w_name ?_
      simp only [List.set_cons_zero, List.set_cons_succ]
      walk_at "wp"
      refine ⟨by show 0 ≤ sizeLine; decide, fun b hb => ?_⟩
      have bN : I' b = none := Same.sub F.sub hb
      have bH : H b = none := F.free hb
      have Fb := F.trans (Lf.alloc (o := .lst []) F.sub hb)
      walk_at "wp"
      have lxs : xs.length ≤ 3125 := by
        have z := rowsI_len m i
        have y := pow_small (m := m.toNat) (by omega) (d := i) (by omega)
        have x := DpAll.length aX
        rw [List.length_map] at x
        have w : m.toNat ^ i ≤ 5 ^ 4 := Nat.le_trans (Nat.pow_le_pow_left (by omega) i) (Nat.pow_le_pow_right (by decide) (by omega))
        omega
      refine w_forS (I := I') (.inl (ofL hpv)) (fun j σ H' => ∃ (I2 : Hp) (ys : List V) (y3 y4 : Option V), σ = [some (.int m), some (.int d), some (.ref pv), some (.int (i : Nat)), some (.ref b), y3, y4] ∧ Lf No I H I2 H' ∧ Same I' I2 ∧ I2 b = none ∧
        H' b = some (.lst ys) ∧ ys.length ≤ 5 * j ∧ DpAll K I2 ys ((((rowsI m i).take j).flatMap (longI m)).map tupI)) (fun Q q => ⟨_, rfl, q⟩) ⟨I', [], _, _, rfl, Fb, Same.refl _, bN, upd_same, Nat.le_refl _, .nil⟩
        (fun j σ H' _ h => ?_) (fun j x σ H' hj h => ?_) (fun σ H' h => ?_)
      · obtain ⟨I2, ys, y3, y4, _, f, s, _⟩ := h
        exact s.trans f.sub
      · obtain ⟨I2, ys, y3, y4, rfl, F, S, bN, hB, ly, aY⟩ := h
        obtain ⟨dx, ej, hdx⟩ := DpAll.getV aX hj
        have lj : j < (rowsI m i).length := by
          have z := (List.getElem?_eq_some_iff.mp ej).1
          rwa [List.length_map] at z
        have ljx : j < xs.length := (List.getElem?_eq_some_iff.mp hj).1
        rw [get_map lj] at ej
        obtain rfl : tupI (rowsI m i)[j] = dx := Option.some.inj ej
        obtain ⟨r, hr⟩ : ∃ r, (rowsI m i)[j] = r := ⟨_, rfl⟩
        rw [hr] at hdx
        have lr : r.length = i := rows_each i r (by rw [← hr]; exact List.getElem_mem lj)
        replace hdx := Dp.up hdx S
        refine w_name ?_
        simp only [List.set_cons_zero, List.set_cons_succ]
        walk_at "wp"
        refine w_tyL hB ?_
        walk_at "wp"
        refine w_compR (K := K) (I := I2) (M := No) (m := m) m0 (by omega) (fun Q q => ?_)
          (CompOk.filt (fun k => decide (((k : Nat) : Int) ∉ r)) (fun k => tupI (r ++ [((k : Nat) : Int)])) F.sub (fun b h => h.elim) (small1000 (by omega)) (fun k I5 H5 R hk f5 hR => ?_) (fun k I5 H5 R hk hT f5 hR => ?_) (fun I5 H5 E vs f5 e1 e2 e3 hv => ?_))
        · walk_at "wp"
          exact q
        · simp only [List.set_cons_zero, List.set_cons_succ]
          walk_at "wp"
          obtain ⟨pr, rfl, hpr⟩ := dpSeq (.inl (Dp.up hdx (f5.ext.trans f5.sub)))
          refine w_ninI hpr ?_
          walk_at "wp"
          exact hR _ I5 H5 (by simp) (Lf.refl f5.sub)
        · simp only [List.set_cons_zero, List.set_cons_succ]
          walk_at "wp"
          refine w_newT (K := K) f5.sub (.cons (.int _) .nil) (by show 1 ≤ sizeLine; decide) fun I6 p6 f6 d6 => ?_
          walk_at "wp"
          refine w_catT (K := K) f6.sub (Dp.up hdx (f5.ext.trans f6.ext)) d6 ?_ fun I7 H7 v7 f7 d7 => ?_
          · rw [List.length_map, List.length_singleton]
            omega
          refine hR v7 I7 H7 (f6.trans f7) ?_
          rw [tupI, List.map_append]
          exact d7
        · rw [longI_range] at hv
          have F5 := F.trans f5
          have hB5 := f5.keep _ _ (fun h => h) hB
          have bN5 := f5.off bN (none_ne hB)
          have lv : vs.length ≤ 5 := by
            have z := DpAll.length hv
            rw [List.length_map] at z
            have y := longI_len m r
            omega
          walk_at "wp"
          refine w_extend hB5 e3 (by omega) ?_
          refine ⟨I5, ys ++ vs, _, _, rfl, Lf.set F5 bH hB5 bN5, S.trans f5.ext, bN5, upd_same, by rw [List.length_append]; omega, ?_⟩
          rw [take_at (List.getElem?_eq_getElem lj), hr, List.flatMap_append, List.map_append, List.flatMap_singleton]
          exact DpAll.append (DpAll.up aY f5.ext) hv
      · obtain ⟨I2, ys, y3, y4, rfl, F, S, bN, hB, ly, aY⟩ := h
        have lx := DpAll.length aX
        rw [List.length_map] at lx
        rw [lx, List.take_length] at aY
        walk_at "wp"
        refine ⟨b, ys, rfl, .inl (ofL hB), fun l hl => ?_⟩
        have f9 : Lf No I2 _ (upd I2 l (.lst ys)) _ := Lf.put (o := .lst ys) F.sub hl
        exact ⟨_, l, ys, _, _, _, _, rfl, F.trans f9, upd_same, DpAll.up aY f9.ext⟩
    · obtain ⟨I', pv, xs, y1, y2, y3, y4, rfl, F, hpv, aX⟩ := h
      walk_at "wp"
      exact q I' H' pv xs F hpv aX
end
section
variable {P : Program} {w : World} {K : PySem.W.Frag} {mg : Str → Option Value} {base : Heap} {a : Adr}
theorem rg_split {m n : Int} (h0 : 0 ≤ n) (h1 : n < m) : ∃ B : List Int, rgI m = rgI n ++ n :: B ∧ ∀ x ∈ B, n < x := by
  refine ⟨(List.range (m.toNat - (n.toNat + 1))).map fun (k : Nat) => ((n.toNat + 1 + k : Nat) : Int), ?_, ?_⟩
  · unfold rgI
    have e : m.toNat = n.toNat + (1 + (m.toNat - (n.toNat + 1))) := by omega
    conv => lhs; rw [e, List.range_add, List.map_append]
    congr 1
    rw [show (1 + (m.toNat - (n.toNat + 1))) = (m.toNat - (n.toNat + 1)) + 1 by omega, List.range_succ_eq_map, List.map_cons, List.map_cons, List.map_map, List.map_map]
    congr 1
    · omega
    · refine List.map_congr_left fun k _ => ?_
      show ((n.toNat + (k + 1) : Nat) : Int) = ((n.toNat + 1 + k : Nat) : Int)
      omega
  · intro x hx
    obtain ⟨k, _, rfl⟩ := List.mem_map.mp hx
    omega
theorem pos_app : ∀ {A B : List Int} {n : Int}, n ∉ A → posI (A ++ n :: B) n = A.length ∧ (A ++ n :: B).eraseIdx A.length = A ++ B
  | [], B, n, _ => by simp [posI]
  | x :: A, B, n, h => by
    have hx : ¬ x = n := fun e => h (by rw [e]; exact List.mem_cons_self)
    have ih := pos_app (A := A) (B := B) (n := n) fun z => h (List.mem_cons_of_mem _ z)
    constructor
    · show posI (x :: (A ++ n :: B)) n = _
      unfold posI
      rw [if_neg hx, ih.1]
      rfl
    · show (x :: (A ++ n :: B)).eraseIdx (A.length + 1) = _
      rw [List.eraseIdx_cons_succ, ih.2]
      rfl
def leftI (m : Int) (seen : List Int) : List Int := (rgI m).filter fun f => decide (f ∉ seen)
theorem left_pos {m n : Int} {seen : List Int} (h0 : 0 ≤ n) (h1 : n < m) (hn : n ∉ seen) :
    posI (leftI m seen) n = ((rgI n).filter fun f => decide (f ∉ seen)).length ∧ (leftI m seen).eraseIdx (posI (leftI m seen) n) = leftI m (seen ++ [n]) := by
  obtain ⟨B, e, hB⟩ := rg_split h0 h1
  have e1 : leftI m seen = (rgI n).filter (fun f => decide (f ∉ seen)) ++ n :: B.filter fun f => decide (f ∉ seen) := by
    unfold leftI
    rw [e, List.filter_append, List.filter_cons_of_pos (p := fun f => decide (f ∉ seen)) (by simpa using hn)]
  have hA : n ∉ (rgI n).filter fun f => decide (f ∉ seen) := fun z => by
    have := mem_rgI.mp (List.mem_filter.mp z).1
    omega
  have z := pos_app (B := B.filter fun f => decide (f ∉ seen)) hA
  rw [e1, z.1, z.2]
  refine ⟨rfl, ?_⟩
  unfold leftI
  rw [e, List.filter_append, List.filter_cons_of_neg (by simp)]
  congr 1
  · refine List.filter_congr fun x hx => ?_
    have := mem_rgI.mp hx
    have ne : x ≠ n := by omega
    simp [ne]
  · refine List.filter_congr fun x hx => ?_
    have := hB x hx
    have ne : x ≠ n := by omega
    simp [ne]
theorem left_len {m : Int} : ∀ (seen : List Int), seen.Nodup → (∀ n ∈ seen, 0 ≤ n ∧ n < m) → (leftI m seen).length + seen.length = m.toNat := by
  intro seen
  induction h : seen.length generalizing seen with
  | zero =>
    intro _ _
    obtain rfl := List.length_eq_zero_iff.mp h
    rw [Nat.add_zero]
    unfold leftI
    rw [List.filter_eq_self.mpr (by simp)]
    exact rgI_len m
  | succ k ih =>
    intro hd hin
    have hne : seen ≠ [] := fun e => by rw [e] at h; cases h
    obtain ⟨init, n, rfl⟩ : ∃ init n, seen = init ++ [n] := ⟨seen.dropLast, seen.getLast hne, (List.dropLast_concat_getLast hne).symm⟩
    have hk : init.length = k := by simpa using h
    rw [List.nodup_append] at hd
    have hn : n ∉ init := fun z => hd.2.2 n z n (by simp) rfl
    have hb := hin n (by simp)
    have z := ih init hk hd.1 fun x hx => hin x (by simp [hx])
    have lp := left_pos (seen := init) hb.1 hb.2 hn
    have hm : n ∈ leftI m init := List.mem_filter.mpr ⟨mem_rgI.mpr hb, decide_eq_true hn⟩
    rw [← lp.2, erase_len (posI_lt hm)]
    have := posI_lt hm
    omega
def spOwnPlace (K : PySem.W.Frag) : Sp := fun vs H Q _ => ∃ (v : V) (m : Int) (ns : List Int), vs = [.int m, v] ∧ Dp K H v (tupI ns) ∧ m ≤ 24 ∧ ns.Nodup ∧ (∀ n ∈ ns, 0 ≤ n ∧ n < m) ∧ ∀ H', Same H H' → Q (.int (rankI (rgI m) ns)) H'
theorem ok_law_own_place (T : Top K mg a) : FnOk P w K mg base CX0 2 a.f_law_own_place a.d_law_own_place ["_law_m", "_law_row"] (spOwnPlace K) := by
  refine T.F_law_own_place.ok sc_law_own_place (fun vs H Q E h => ?_) (fun cdv A outer s H vs Q E hr h => ?_)
  · obtain ⟨v, m, ns, rfl, _⟩ := h
    rfl
  · obtain ⟨v, m, ns, rfl, hv, m1, hnd, hin, q⟩ := h
    refine ⟨_, (pss_cons (ps_set (i := 2) sc_law_own_place.nd rfl (Or.inl rfl) pe_int) (pss_cons (ps_for PassesOwn.never rfl (pi_range1 (by rfl) T.n_range (pa_cons (pe_callB (call_lenK (K := K) rfl) (by rfl) T.n_len (by decide +kernel) (pa_cons (pv 1) pa_nil)) pa_nil)) (pg_name (i := 3) sc_law_own_place.nd rfl (Or.inr rfl)) (pss_cons (ps_set (i := 4) sc_law_own_place.nd rfl (Or.inl rfl) (pe_callB (call_lenK (K := K) rfl) (by rfl) T.n_len (by decide +kernel) (pa_cons (pe_lc (own := [("_law_f", 5)]) (g := gName 5) (by rfl) sc_law_own_place.nd (pi_range1 (by rfl) T.n_range (pa_cons (pe_ix (ix_K (K := K) rfl) (pv 1) (pv 3) (fun _ _ => rfl)) pa_nil)) (blkOk_by (own := [("_law_f", 5)]) (N := ["_law_m", "_law_row", "_law_place", "_law_at", "_law_lesser", "_law_f"]) (sc := defScope s_law_own_place) (by decide +kernel)) (fun _ _ _ _ _ => (pg_name (i := 5) sc_law_own_place.nd rfl (Or.inl rfl))) (fun _ _ _ _ _ => pts_one (pt_cmpR (op_ninK (K := K) rfl) (pv 5) (pe_slice (sl_tupK (K := K) rfl) (pv 1) po_none (po_some (pv 3))) (by rfl))) (fun _ _ _ _ _ => (pv 5))) pa_nil))) (pss_one (ps_set (i := 2) sc_law_own_place.nd rfl (Or.inl rfl) (pe_op op_add (pv 2) (pe_op op_mul (pv 4) (pe_call (ok_law_falling T) (hr.mono (by decide)) (by rfl) T.g_law_falling T.F_law_falling.kp T.b_law_falling .nil pass0 (pa_cons (pe_op op_sub (pe_op op_sub (pv 0) (pv 3)) pe_int) (pa_cons (pe_op op_sub (pe_op op_sub (pe_callB (call_lenK (K := K) rfl) (by rfl) T.n_len (by decide +kernel) (pa_cons (pv 1) pa_nil)) (pv 3)) pe_int) pa_nil))))))))) (pss_one (ps_ret (pv 2))))), ?_⟩
    walk_at "st"
    walk_at "wp"
    have lns : ns.length ≤ m.toNat := by
      have z := hnd.length_le_of_subset (l₂ := rgI m) (fun x hx => mem_rgI.mpr (hin x hx))
      rw [rgI_len] at z
      exact z
    refine w_forR1 (n := (ns.length : Int)) (by omega) (by omega) (fun i σ H' => ∃ (pl : Int) (y1 y2 y3 : Option V), σ = [some (.int m), some v, some (.int pl), y1, y2, y3] ∧ Same H H' ∧ pl + rankI (leftI m (ns.take i)) (ns.drop i) = rankI (rgI m) ns) (fun Q q => ?_)
      ⟨0, none, none, none, rfl, Same.refl H, by
        rw [Int.zero_add]
        show rankI (leftI m []) ns = _
        unfold leftI
        rw [List.filter_eq_self.mpr (by simp)]⟩ (fun i σ H' hi h => ?_) (fun σ H' h => ?_)
    · walk_at "wp"
      refine w_lenD (Same.refl H) (.inl hv) ?_
      rw [List.length_map]
      walk_at "wp"
      exact q
    · obtain ⟨pl, y1, y2, y3, rfl, s, hp⟩ := h
      have hi' : i < ns.length := by omega
      have hb := hin ns[i] (List.getElem_mem hi')
      have ed := drop_at (List.getElem?_eq_getElem hi')
      have et := take_at (List.getElem?_eq_getElem hi')
      have hnt : ns[i] ∉ ns.take i := by
        have z := hnd
        rw [← List.take_append_drop i ns, List.nodup_append] at z
        intro h
        exact z.2.2 _ h _ (by rw [ed]; exact List.mem_cons_self) rfl
      have lp := left_pos (seen := ns.take i) hb.1 hb.2 hnt
      have hd' : (ns.take i).Nodup := hnd.sublist (List.take_sublist _ _)
      have ll := left_len (m := m) (ns.take i) hd' fun x hx => hin x (List.mem_of_mem_take hx)
      rw [List.length_take, Nat.min_eq_left (by omega)] at ll
      refine w_name ?_
      simp only [List.set_cons_zero, List.set_cons_succ]
      walk_at "wp"
      refine w_lcIter ?_
      refine w_op ?_
      walk_at "wp"
      refine w_ixD s (.inl hv) (by omega) (d := .int ns[i]) (by simp [hi']) fun v1 h1 => ?_
      obtain rfl := Dp.ofInt h1
      refine w_compR (K := K) (I := H) (M := No) (m := ns[i]) hb.1 (by omega) (fun Q q => q)
        (CompOk.filt (fun k => decide (((k : Nat) : Int) ∉ ns.take i)) (fun k => .int (k : Nat)) s (fun b h => h.elim) (small1000 (by omega)) (fun k I5 H5 R hk f5 hR => ?_) (fun k I5 H5 R hk hT f5 hR => ?_) (fun I5 H5 E vs f5 e1 e2 e3 hv2 => ?_))
      · simp only [List.set_cons_zero, List.set_cons_succ]
        walk_at "wp"
        refine w_takeT (K := K) f5.sub (Dp.up hv f5.ext) (by omega) fun I6 H6 v6 f6 d6 => ?_
        rw [Int.toNat_natCast, List.map_take.symm] at d6
        obtain ⟨pr, rfl, hpr⟩ := dpSeq (.inl (Dp.up d6 f6.sub))
        refine w_ninI hpr ?_
        walk_at "wp"
        exact hR _ I6 H6 (by simp) f6
      · simp only [List.set_cons_zero, List.set_cons_succ]
        walk_at "wp"
        exact hR _ I5 H5 (Lf.refl f5.sub) (.int _)
      · have lv : vs.length = ((rgI ns[i]).filter fun f => decide (f ∉ ns.take i)).length := by
          rw [DpAll.length hv2, List.length_map]
          unfold rgI
          rw [List.filter_map, List.length_map]
          rfl
        walk_at "wp"
        rw [lv, ← lp.1]
        have hm : ns[i] ∈ leftI m (ns.take i) := List.mem_filter.mpr ⟨mem_rgI.mpr hb, decide_eq_true hnt⟩
        have hpos := posI_lt hm
        refine w_lenD (s.trans f5.same) (.inl hv) ?_
        rw [List.length_map]
        walk_at "wp"
        refine ⟨m - (i : Nat) - 1, (ns.length : Int) - (i : Nat) - 1, rfl, by omega, by omega, by omega, by omega, ?_⟩
        walk_at "wp"
        refine ⟨_, _, _, _, rfl, s.trans f5.same, ?_⟩
        have e5 : (((ns.length : Int) - (i : Nat) - 1).toNat) = (ns.drop (i + 1)).length := by rw [List.length_drop]; omega
        have e6 : m - (i : Nat) - 1 = ((leftI m (ns.take i)).length : Int) - 1 := by omega
        rw [← hp, ed, e5, e6, Int.add_assoc]
        show _ = pl + (((posI (leftI m (ns.take i)) ns[i] : Nat) : Int) * _ + rankI ((leftI m (ns.take i)).eraseIdx (posI (leftI m (ns.take i)) ns[i])) (ns.drop (i + 1)))
        rw [lp.2, et]
    · obtain ⟨pl, y1, y2, y3, rfl, s, hp⟩ := h
      rw [Int.toNat_natCast, List.drop_length] at hp
      walk_at "wp"
      rw [show pl = rankI (rgI m) ns by rw [← hp]; show pl = pl + 0; omega]
      exact q H' s
end
section
variable {P : Program} {w : World} {K : PySem.W.Frag} {mg : Str → Option Value} {base : Heap} {a : Adr}
theorem rfD_bad {al ks : List Int} {x : PyData} {r : List PyData} (hd : ks.Nodup) (hin : ∀ k ∈ ks, k ∈ al) (hx : ∀ m, x = .int m → m ∉ al ∨ m ∈ ks) :
    rfD al (.tuple (ks.map .int ++ x :: r)) = .int (ks.length : Nat) := by
  have e : rfD al (.tuple (ks.map .int ++ x :: r)) = match rf al [] (ks.map .int ++ x :: r) 0 with
    | none => .non
    | some i => .int (i : Nat) := rfl
  rw [e, rf_ok ks [] 0 (by simpa using hd) hin, Nat.zero_add, List.nil_append]
  by_cases h : ∃ m, x = .int m
  · obtain ⟨m, rfl⟩ := h
    rw [rf_int, if_neg]
    intro c
    rcases hx m rfl with h | h
    · exact h c.1
    · exact c.2 h
  · rw [rf_odd fun n e => h ⟨n, e⟩]
def spSpoilt (K : PySem.W.Frag) : Sp := fun vs H Q _ => ∃ (I : Hp) (hd : Addr) (v : V) (m : Int) (ns : List Int), vs = [.ref hd, .int m, v] ∧ Hand K I H hd ∧ Dp K I v (tupI ns) ∧ 1 ≤ m ∧ m ≤ 24 ∧ ns.Nodup ∧ (∀ n ∈ ns, 0 ≤ n ∧ n < m) ∧ ns.length ≤ 24 ∧
  ∀ (I' H' : Hp) (r : V) (d : PyData) (n : Int), Lf (· = hd) I H I' H' → Hand K I' H' hd → Dp K I' r (.tuple [d, .int n]) → rfD (rgI m) d = .int n → Q r H'
theorem ok_law_spoilt_row (T : Top K mg a) : FnOk P w K mg base CX0 4 a.f_law_spoilt_row a.d_law_spoilt_row ["_law_hand_here", "_law_m", "_law_row"] (spSpoilt K) := by
  refine T.F_law_spoilt_row.ok sc_law_spoilt_row (fun vs H Q E h => ?_) (fun cdv A outer s H vs Q E hr h => ?_)
  · obtain ⟨I, hd, v, m, ns, rfl, _⟩ := h
    rfl
  · obtain ⟨I, hd, x, m, ns, rfl, hh, hx, m0, m1, hnd, hin, hl, q⟩ := h
    refine ⟨_, (pss_cons (ps_set (i := 3) sc_law_spoilt_row.nd rfl (Or.inl rfl) (pe_call (ok_law_draw T) (hr.mono (by decide)) (by rfl) T.g_law_draw T.F_law_draw.kp T.b_law_draw .nil pass0 (pa_cons (pv 0) (pa_cons (pe_op op_add (pe_callB (call_lenK (K := K) rfl) (by rfl) T.n_len (by decide +kernel) (pa_cons (pv 2) pa_nil)) pe_int) pa_nil)))) (pss_cons (ps_set (i := 4) sc_law_spoilt_row.nd rfl (Or.inl rfl) (pe_call (ok_law_draw T) (hr.mono (by decide)) (by rfl) T.g_law_draw T.F_law_draw.kp T.b_law_draw .nil pass0 (pa_cons (pv 0) (pa_cons pe_int pa_nil)))) (pss_cons (ps_if (pt_cmpR op_eq (pv 4) pe_int (nomark _)) (pss_one (ps_ret (pe_tup (pa_cons (pe_ix (ix_K (K := K) rfl) (pe_lst (pa_cons pe_non (pa_cons pe_int (pa_cons pe_str (pa_cons pe_bl pa_nil))))) (pe_call (ok_law_draw T) (hr.mono (by decide)) (by rfl) T.g_law_draw T.F_law_draw.kp T.b_law_draw .nil pass0 (pa_cons (pv 0) (pa_cons pe_int pa_nil))) (fun _ _ => rfl)) (pa_cons (pe_un un_neg pe_int) pa_nil))))) pss_nil) (pss_cons (ps_if (PW.pt (pw_and (pt_cmpR op_lt (pv 4) pe_int (nomark _)) (pw_and1 (pt_cmpR op_gt (pv 3) pe_int (nomark _))))) (pss_one (ps_ret (pe_tup (pa_cons (pe_op (op_catK (K := K) rfl) (pe_op (op_catK (K := K) rfl) (pe_slice (sl_tupK (K := K) rfl) (pv 2) po_none (po_some (pv 3))) (pe_tup (pa_cons (pe_ix (ix_K (K := K) rfl) (pv 2) (pe_call (ok_law_draw T) (hr.mono (by decide)) (by rfl) T.g_law_draw T.F_law_draw.kp T.b_law_draw .nil pass0 (pa_cons (pv 0) (pa_cons (pv 3) pa_nil))) (fun _ _ => rfl)) pa_nil))) (pe_slice (sl_tupK (K := K) rfl) (pv 2) (po_some (pv 3)) po_none)) (pa_cons (pv 3) pa_nil))))) pss_nil) (pss_one (ps_ret (pe_tup (pa_cons (pe_op (op_catK (K := K) rfl) (pe_op (op_catK (K := K) rfl) (pe_slice (sl_tupK (K := K) rfl) (pv 2) po_none (po_some (pv 3))) (pe_tup (pa_cons (pe_ifExp (pt_cmpR op_gt (pv 1) pe_int (nomark _)) (pe_call (ok_law_no_count T) (hr.mono (by decide)) (by rfl) T.g_law_no_count T.F_law_no_count.kp T.b_law_no_count .nil pass0 (pa_cons (pv 0) (pa_cons (pe_op op_sub (pv 1) pe_int) pa_nil))) pe_non) pa_nil))) (pe_slice (sl_tupK (K := K) rfl) (pv 2) (po_some (pe_op op_add (pv 3) pe_int)) po_none)) (pa_cons (pv 3) pa_nil))))))))), ?_⟩
    walk_at "st"
    walk_at "wp"
    refine w_lenD hh.sub (.inl hx) ?_
    rw [List.length_map]
    walk_at "wp"
    refine ⟨I, hd, (ns.length : Int) + 1, rfl, hh, by omega, by omega, fun H2 ati fa hha t0 t1 => ?_⟩
    walk_at "wp"
    refine ⟨I, hd, 9, rfl, hha, by omega, by omega, fun H1 way fb hhb w0 w1 => ?_⟩
    walk_at "wp"
    obtain ⟨j, rfl⟩ : ∃ j : Nat, ati = (j : Int) := ⟨ati.toNat, by omega⟩
    have hj : j ≤ ns.length := by omega
    have lj : (ns.take j).length = j := by rw [List.length_take]; omega
    have hnd' : (ns.take j).Nodup := hnd.sublist (List.take_sublist _ _)
    have hin' : ∀ n ∈ ns.take j, n ∈ rgI m := fun n h => mem_rgI.mpr (hin n (List.mem_of_mem_take h))
    have fab := fa.trans fb
    refine w_if (fun c => ?_) (fun c => ?_)
    · walk_at "wp"
      refine w_newL (K := K) fab.sub (.cons .non (.cons (.int _) (.cons (.str _) (.cons (.bl _) .nil)))) (by show 4 ≤ sizeLine; decide) fun I3 p3 f3 d3 => ?_
      have hh3 := hhb.to f3 (fun h => h)
      walk_at "wp"
      refine ⟨I3, hd, 4, rfl, hh3, by omega, by omega, fun H4 r f4 hh4 r0 r1 => ?_⟩
      walk_at "wp"
      obtain ⟨k, rfl⟩ : ∃ k : Nat, r = (k : Int) := ⟨r.toNat, by omega⟩
      have hk : k < 4 := by omega
      refine w_ixD f4.sub (.inr d3) r0 (List.getElem?_eq_getElem (by simpa using hk)) fun v hv => ?_
      walk_at "wp"
      refine w_newT (K := K) f4.sub (.cons hv (.cons (.int _) .nil)) (by show 2 ≤ sizeLine; decide) fun I5 p5 f5 d5 => ?_
      refine q I5 _ _ _ (-1) (((fab.trans f3.any).trans f4).trans f5.any) (hh4.to f5 (fun h => h)) d5 ?_
      rcases k with _|_|_|_|k
      · rfl
      · rfl
      · rfl
      · rfl
      · omega
    · walk_at "wp"
      refine w_if (fun c2 => ?_) (fun c2 => ?_)
      · walk_at "wp"
        refine w_if (fun c3 => ?_) (fun c3 => ?_)
        · walk_at "wp"
          refine w_takeT (K := K) fab.sub hx (by omega) fun I2 H2' v2 f2 d2 => ?_
          walk_at "wp"
          refine ⟨I2, hd, (j : Int), rfl, hhb.to f2 (fun h => h), by omega, by omega, fun H3 r fr hh3 r0 r1 => ?_⟩
          have F3 := (fab.trans f2.any).trans fr
          walk_at "wp"
          obtain ⟨k, rfl⟩ : ∃ k : Nat, r = (k : Int) := ⟨r.toNat, by omega⟩
          have hk : k < j := by omega
          have hk2 : k < ns.length := by omega
          refine w_ixD F3.sub (.inl (Dp.up hx F3.ext)) (by omega) (d := .int ns[k]) (by simp [hk2]) fun vy hy => ?_
          have hmem : ns[k] ∈ ns.take j := by
            have z : (ns.take j)[k]? = some ns[k] := by rw [List.getElem?_take, if_pos hk, List.getElem?_eq_getElem hk2]
            exact List.mem_of_getElem? z
          walk_at "wp"
          refine w_newT (K := K) F3.sub (.cons hy .nil) (by show 1 ≤ sizeLine; decide) fun I4 p4 f4 d4 => ?_
          walk_at "wp"
          refine w_catT (K := K) f4.sub (Dp.up d2 f4.ext) d4 ?_ fun I5 H5 v5 f5 d5 => ?_
          · rw [List.length_take, List.length_map, List.length_singleton]
            exact Nat.le_of_lt (small1000 (by omega))
          have G5 := f4.trans f5
          walk_at "wp"
          refine w_dropT (K := K) f5.sub (Dp.up hx (F3.ext.trans G5.ext)) (by omega) fun I6 H6 v6 f6 d6 => ?_
          have G6 := G5.trans f6
          walk_at "wp"
          refine w_catT (K := K) f6.sub (Dp.up d5 f6.ext) d6 ?_ fun I7 H7 v7 f7 d7 => ?_
          · rw [List.length_append, List.length_take, List.length_drop, List.length_map, List.length_singleton]
            exact Nat.le_of_lt (small1000 (by omega))
          have G7 := G6.trans f7
          walk_at "wp"
          refine w_newT (K := K) f7.sub (.cons d7 (.cons (.int _) .nil)) (by show 2 ≤ sizeLine; decide) fun I8 p8 f8 d8 => ?_
          have G8 := G7.trans f8
          refine q _ _ _ _ _ (F3.trans G8.any) (hh3.to G8 (fun h => h)) d8 ?_
          rw [List.append_assoc, List.singleton_append, Int.toNat_natCast, List.map_take.symm]
          have lj2 : (j : Int) = (((ns.take j).length : Nat) : Int) := by rw [lj]
          rw [lj2]
          exact rfD_bad hnd' hin' fun m e => .inr (by cases e; exact hmem)
        · walk_at "wp"
          refine w_takeT (K := K) fab.sub hx (by omega) fun I2 H2' v2 f2 d2 => ?_
          walk_at "wp"
          refine w_if (fun cm => ?_) (fun cm => ?_)
          · walk_at "wp"
            refine ⟨I2, hd, m - 1, rfl, hhb.to f2 (fun h => h), by omega, fun I3 H3 vy dy fr hh3 hy hw => ?_⟩
            have F3 := (fab.trans f2.any).trans fr
            replace d2 := Dp.up d2 fr.ext
            walk_at "wp"
            refine w_newT (K := K) F3.sub (.cons hy .nil) (by show 1 ≤ sizeLine; decide) fun I4 p4 f4 d4 => ?_
            walk_at "wp"
            refine w_catT (K := K) f4.sub (Dp.up d2 f4.ext) d4 ?_ fun I5 H5 v5 f5 d5 => ?_
            · rw [List.length_take, List.length_map, List.length_singleton]
              exact Nat.le_of_lt (small1000 (by omega))
            have G5 := f4.trans f5
            walk_at "wp"
            refine w_dropT (K := K) f5.sub (Dp.up hx (F3.ext.trans G5.ext)) (by omega) fun I6 H6 v6 f6 d6 => ?_
            have G6 := G5.trans f6
            walk_at "wp"
            refine w_catT (K := K) f6.sub (Dp.up d5 f6.ext) d6 ?_ fun I7 H7 v7 f7 d7 => ?_
            · rw [List.length_append, List.length_take, List.length_drop, List.length_map, List.length_singleton]
              exact Nat.le_of_lt (small1000 (by omega))
            have G7 := G6.trans f7
            walk_at "wp"
            refine w_newT (K := K) f7.sub (.cons d7 (.cons (.int _) .nil)) (by show 2 ≤ sizeLine; decide) fun I8 p8 f8 d8 => ?_
            have G8 := G7.trans f8
            refine q _ _ _ _ _ (F3.trans G8.any) (hh3.to G8 (fun h => h)) d8 ?_
            rw [List.append_assoc, List.singleton_append, Int.toNat_natCast, List.map_take.symm]
            have lj2 : (j : Int) = (((ns.take j).length : Nat) : Int) := by rw [lj]
            rw [lj2]
            refine rfD_bad hnd' hin' fun x e => .inl fun hx => ?_
            subst e
            have := mem_rgI.mp hx
            exact whole_no hw this.1 (by omega)
          · walk_at "wp"
            have F3 := fab.trans f2.any
            have hh3 := hhb.to f2 (fun h => h)
            have hy : Dp K I2 .non .none := .non
            refine w_newT (K := K) F3.sub (.cons hy .nil) (by show 1 ≤ sizeLine; decide) fun I4 p4 f4 d4 => ?_
            walk_at "wp"
            refine w_catT (K := K) f4.sub (Dp.up d2 f4.ext) d4 ?_ fun I5 H5 v5 f5 d5 => ?_
            · rw [List.length_take, List.length_map, List.length_singleton]
              exact Nat.le_of_lt (small1000 (by omega))
            have G5 := f4.trans f5
            walk_at "wp"
            refine w_dropT (K := K) f5.sub (Dp.up hx (F3.ext.trans G5.ext)) (by omega) fun I6 H6 v6 f6 d6 => ?_
            have G6 := G5.trans f6
            walk_at "wp"
            refine w_catT (K := K) f6.sub (Dp.up d5 f6.ext) d6 ?_ fun I7 H7 v7 f7 d7 => ?_
            · rw [List.length_append, List.length_take, List.length_drop, List.length_map, List.length_singleton]
              exact Nat.le_of_lt (small1000 (by omega))
            have G7 := G6.trans f7
            walk_at "wp"
            refine w_newT (K := K) f7.sub (.cons d7 (.cons (.int _) .nil)) (by show 2 ≤ sizeLine; decide) fun I8 p8 f8 d8 => ?_
            have G8 := G7.trans f8
            refine q _ _ _ _ _ (F3.trans G8.any) (hh3.to G8 (fun h => h)) d8 ?_
            rw [List.append_assoc, List.singleton_append, Int.toNat_natCast, List.map_take.symm]
            have lj2 : (j : Int) = (((ns.take j).length : Nat) : Int) := by rw [lj]
            rw [lj2]
            exact rfD_bad hnd' hin' fun x e => nomatch e
      · walk_at "wp"
        refine w_takeT (K := K) fab.sub hx (by omega) fun I2 H2' v2 f2 d2 => ?_
        walk_at "wp"
        refine w_if (fun cm => ?_) (fun cm => ?_)
        · walk_at "wp"
          refine ⟨I2, hd, m - 1, rfl, hhb.to f2 (fun h => h), by omega, fun I3 H3 vy dy fr hh3 hy hw => ?_⟩
          have F3 := (fab.trans f2.any).trans fr
          replace d2 := Dp.up d2 fr.ext
          walk_at "wp"
          refine w_newT (K := K) F3.sub (.cons hy .nil) (by show 1 ≤ sizeLine; decide) fun I4 p4 f4 d4 => ?_
          walk_at "wp"
          refine w_catT (K := K) f4.sub (Dp.up d2 f4.ext) d4 ?_ fun I5 H5 v5 f5 d5 => ?_
          · rw [List.length_take, List.length_map, List.length_singleton]
            exact Nat.le_of_lt (small1000 (by omega))
          have G5 := f4.trans f5
          walk_at "wp"
          refine w_dropT (K := K) f5.sub (Dp.up hx (F3.ext.trans G5.ext)) (by omega) fun I6 H6 v6 f6 d6 => ?_
          have G6 := G5.trans f6
          walk_at "wp"
          refine w_catT (K := K) f6.sub (Dp.up d5 f6.ext) d6 ?_ fun I7 H7 v7 f7 d7 => ?_
          · rw [List.length_append, List.length_take, List.length_drop, List.length_map, List.length_singleton]
            exact Nat.le_of_lt (small1000 (by omega))
          have G7 := G6.trans f7
          walk_at "wp"
          refine w_newT (K := K) f7.sub (.cons d7 (.cons (.int _) .nil)) (by show 2 ≤ sizeLine; decide) fun I8 p8 f8 d8 => ?_
          have G8 := G7.trans f8
          refine q _ _ _ _ _ (F3.trans G8.any) (hh3.to G8 (fun h => h)) d8 ?_
          rw [List.append_assoc, List.singleton_append, Int.toNat_natCast, List.map_take.symm]
          have lj2 : (j : Int) = (((ns.take j).length : Nat) : Int) := by rw [lj]
          rw [lj2]
          refine rfD_bad hnd' hin' fun x e => .inl fun hx => ?_
          subst e
          have := mem_rgI.mp hx
          exact whole_no hw this.1 (by omega)
        · walk_at "wp"
          have F3 := fab.trans f2.any
          have hh3 := hhb.to f2 (fun h => h)
          have hy : Dp K I2 .non .none := .non
          refine w_newT (K := K) F3.sub (.cons hy .nil) (by show 1 ≤ sizeLine; decide) fun I4 p4 f4 d4 => ?_
          walk_at "wp"
          refine w_catT (K := K) f4.sub (Dp.up d2 f4.ext) d4 ?_ fun I5 H5 v5 f5 d5 => ?_
          · rw [List.length_take, List.length_map, List.length_singleton]
            exact Nat.le_of_lt (small1000 (by omega))
          have G5 := f4.trans f5
          walk_at "wp"
          refine w_dropT (K := K) f5.sub (Dp.up hx (F3.ext.trans G5.ext)) (by omega) fun I6 H6 v6 f6 d6 => ?_
          have G6 := G5.trans f6
          walk_at "wp"
          refine w_catT (K := K) f6.sub (Dp.up d5 f6.ext) d6 ?_ fun I7 H7 v7 f7 d7 => ?_
          · rw [List.length_append, List.length_take, List.length_drop, List.length_map, List.length_singleton]
            exact Nat.le_of_lt (small1000 (by omega))
          have G7 := G6.trans f7
          walk_at "wp"
          refine w_newT (K := K) f7.sub (.cons d7 (.cons (.int _) .nil)) (by show 2 ≤ sizeLine; decide) fun I8 p8 f8 d8 => ?_
          have G8 := G7.trans f8
          refine q _ _ _ _ _ (F3.trans G8.any) (hh3.to G8 (fun h => h)) d8 ?_
          rw [List.append_assoc, List.singleton_append, Int.toNat_natCast, List.map_take.symm]
          have lj2 : (j : Int) = (((ns.take j).length : Nat) : Int) := by rw [lj]
          rw [lj2]
          exact rfD_bad hnd' hin' fun x e => nomatch e
def spClasses : Sp := fun vs H Q _ => vs = [] ∧ ∀ H', Same H H' → Q (.bl true) H'
theorem ok_law_classes (T : Top K mg a) : FnOk P w K mg base CX0 6 a.f_law_classes a.d_law_classes [] spClasses := by
  refine T.F_law_classes.ok sc_law_classes (fun vs H Q E h => ?_) (fun cdv A outer s H vs Q E hr h => ?_)
  · obtain ⟨rfl, _⟩ := h
    rfl
  · obtain ⟨rfl, q⟩ := h
    refine ⟨_, (pss_one (ps_try_mas rfl rfl sc_law_classes.nd takes0 (fun W pn xe tk po => (pss_cons (ps_expr (pe_callS (ok_row_place T) (hr.mono (by decide)) (by rfl) T.g_row_place T.F_row_place.kp T.b_row_place (fun σ => passAt tk σ) (pa_cons pe_int (pa_cons (pe_tup (pa_cons pe_int (pa_cons pe_int pa_nil))) pa_nil)))) (pss_one (ps_ret pe_bl)))) (HdsAs.cons (i := 0) rfl rfl ⟨by rfl, by decide, Or.inl T.gc_FrameError⟩ (fun aa oe cls d pn hz hf => (pss_one (ps_ret (pe_and (pe_callB (call_isF T.xc_BadRow hz hf) (by rfl) T.n_isinstance (by decide +kernel) (pa_cons (pv 0) (pa_cons (pe_glob (v := .ref a.c_BadRow) (by rfl) T.gc_BadRow rfl) pa_nil))) (pe_and (pe_not (pe_callB (call_isF T.xc_BadRow hz hf) (by rfl) T.n_isinstance (by decide +kernel) (pa_cons (pv 0) (pa_cons (pe_glob (v := .ref a.c_BadPlace) (by rfl) T.gc_BadPlace rfl) pa_nil)))) (pe_and (pe_not (pe_callB (call_isF T.xc_BadRow hz hf) (by rfl) T.n_isinstance (by decide +kernel) (pa_cons (pv 0) (pa_cons (pe_glob (v := .ref a.c_BadCount) (by rfl) T.gc_BadCount rfl) pa_nil)))) (pe_one (pe_callB (call_isF T.xc_BadRow hz hf) (by rfl) T.n_isinstance (by decide +kernel) (pa_cons (pv 0) (pa_cons (pe_bltn (v := .ty "ValueError") (u := .type "ValueError") (by rfl) T.n_ValueError (by decide +kernel) rfl) pa_nil)))))))))) HdsAs.nil))), ?_⟩
    walk_at "st"
    walk_at "wp"
    refine w_newT (K := K) (Same.refl H) (.cons (.int _) (.cons (.int _) .nil)) (by show 2 ≤ sizeLine; decide) fun I1 p1 f1 d1 => ?_
    walk_at "wp"
    refine ⟨I1, .int 3, _, .int 3, _, rfl, f1.sub, .int 3, d1, fun z => (whole_no z (by decide) (by decide)).elim, fun m e1 _ _ _ H' x sx hx => ?_, fun m ns e1 _ _ e2 hn _ => ?_⟩
    · cases e1
      refine w_hit T.ex_BadRow_FrameError fun aa haa => ?_
      simp only [List.set_cons_zero, List.set_cons_succ]
      walk_at "wp"
      refine w_isF hx T.ki_BadRow_BadRow ?_
      walk_at "wp"
      refine w_isF hx T.ki_BadRow_BadPlace ?_
      walk_at "wp"
      refine w_isF hx T.ki_BadRow_BadCount ?_
      walk_at "wp"
      refine w_isFty hx T.ki_BadRow_ValueError ?_
      walk_at "wp"
      exact q H' (f1.same.trans sx)
    · have e3 : SeqD (.tuple [.int 0, .int 0]) ns := e2.elim .inl .inr
      have e4 : ns = [0, 0] := (SeqD.inj (ns := [0, 0]) (.inl rfl) e3)
      rw [e4] at hn
      exact absurd hn (by decide)
end
section
variable {P : Program} {w : World} {K : PySem.W.Frag} {mg : Str → Option Value} {base : Heap} {a : Adr}
/-! ### all rows of up to five frames, by computing -/
def dueI (m : Int) : List (List Int) := (List.range (m.toNat + 1)).flatMap (rowsI m)
def chkAt (m : Int) (due : List (List Int)) (i : Nat) (r : List Int) : Bool :=
  decide r.Nodup && (r.all fun n => decide (0 ≤ n ∧ n < m)) && decide (rankI (rgI m) r + sumFall m r.length = (i : Nat)) && decide (((((due.take i).filter fun s => decide (((s.length : Nat) : Int) = (r.length : Nat))).length : Nat) : Int) = rankI (rgI m) r)
def chkGo (m : Int) (due : List (List Int)) : Nat → List (List Int) → Bool
  | _, [] => true
  | i, r :: l => chkAt m due i r && chkGo m due (i + 1) l
def chk (m : Int) : Bool := decide (allRowsI m = dueI m) && decide (((dueI m).length : Int) = allI m) && ((List.range (m.toNat + 1)).all fun d => decide (((rowsI m d).length : Int) = fallI m d)) && chkGo m (dueI m) 0 (dueI m)
theorem chk_ok : ∀ m : Nat, m < 6 → chk m = true := by decide +kernel
theorem chkGo_at {m : Int} {due : List (List Int)} : ∀ (l : List (List Int)) (j i : Nat) (h : i < l.length), chkGo m due j l = true → chkAt m due (j + i) l[i] = true
  | r :: l, j, 0, _, e => by
    rw [chkGo, Bool.and_eq_true] at e
    exact e.1
  | r :: l, j, i + 1, h, e => by
    rw [chkGo, Bool.and_eq_true] at e
    have z := chkGo_at l (j + 1) i (by simpa using h) e.2
    rw [show j + 1 + i = j + (i + 1) by omega] at z
    exact z
theorem chk_all {m : Int} (m0 : 0 ≤ m) (m1 : m < 6) : allRowsI m = dueI m ∧ ((dueI m).length : Int) = allI m ∧ (∀ d : Nat, (d : Int) ≤ m → ((rowsI m d).length : Int) = fallI m d) ∧
    ∀ (i : Nat) (h : i < (dueI m).length), (dueI m)[i].Nodup ∧ (∀ n ∈ (dueI m)[i], 0 ≤ n ∧ n < m) ∧ rankI (rgI m) (dueI m)[i] + sumFall m (dueI m)[i].length = (i : Nat) ∧
      (((((dueI m).take i).filter fun s => decide (((s.length : Nat) : Int) = ((dueI m)[i].length : Nat))).length : Nat) : Int) = rankI (rgI m) (dueI m)[i] := by
  have z := chk_ok m.toNat (by omega)
  rw [show ((m.toNat : Nat) : Int) = m by omega] at z
  unfold chk at z
  simp only [Bool.and_eq_true, decide_eq_true_eq, List.all_eq_true, List.mem_range] at z
  obtain ⟨⟨⟨z1, z2⟩, z3⟩, z4⟩ := z
  refine ⟨z1, z2, fun d hd => z3 d (by omega), fun i h => ?_⟩
  have y := chkGo_at (dueI m) 0 i h z4
  rw [Nat.zero_add] at y
  unfold chkAt at y
  simp only [Bool.and_eq_true, decide_eq_true_eq, List.all_eq_true] at y
  obtain ⟨⟨⟨y1, y2⟩, y3⟩, y4⟩ := y
  exact ⟨y1, y2, y3, y4⟩
end
section
variable {P : Program} {w : World} {K : PySem.W.Frag} {mg : Str → Option Value} {base : Heap} {a : Adr}
section
variable {I H : Hp} {Q : VK} {E : XK} {v : V} {ns : List Int} {hd p : Addr}
theorem exactly {x y : V} {d : PyData} (S : Same I H) (h1 : Dp K I x d) (h2 : Dp K I y d) (h3 : plainD 5 d) (q : ∀ H', Lf No I H I H' → Q (.bl true) H') : spExact K 5 [x, y] H Q E :=
  ⟨x, y, d, rfl, Dp.up h1 S, Dp.up h2 S, h3, fun H' s => q H' (Lf.ofSame S s)⟩
end
theorem nodup_len' {m : Int} {ns : List Int} (h : ns.Nodup) (hin : ∀ n ∈ ns, 0 ≤ n ∧ n < m) : ns.length ≤ m.toNat := by
  have z := h.length_le_of_subset (l₂ := rgI m) (fun x hx => mem_rgI.mpr (hin x hx))
  rw [rgI_len] at z
  exact z
theorem all_small : ∀ m : Nat, m < 6 → allI m ≤ 1000 := by decide +kernel
def spListed : Sp := fun vs H Q _ => ∃ m : Int, vs = [.int m] ∧ 0 ≤ m ∧ m < 6 ∧ ∀ H', Same H H' → Q (.bl true) H'
def preDue (m : Int) (d : Nat) : List (List Int) := (List.range d).flatMap (rowsI m)
theorem preDue_succ (m : Int) (d : Nat) : preDue m (d + 1) = preDue m d ++ rowsI m d := by
  unfold preDue
  rw [List.range_succ, List.flatMap_append, List.flatMap_singleton]
theorem plain_rows {rs : List (List Int)} (l : rs.length ≤ 1000) (h : ∀ r ∈ rs, r.length ≤ 1000) : plainD 5 (.tuple (rs.map tupI)) := by
  refine ⟨by rw [List.length_map]; exact l, fun d hd => ?_⟩
  obtain ⟨r, hr, rfl⟩ := List.mem_map.mp hd
  refine ⟨by rw [List.length_map]; exact h r hr, fun d hd => ?_⟩
  obtain ⟨n, _, rfl⟩ := List.mem_map.mp hd
  exact True.intro
theorem sumFall_uniq {m : Int} {k k' : Nat} {p p' : Int} (k1' : (k' : Int) ≤ m) (p0' : 0 ≤ p') (p1' : p' < fallI m k') (k1 : (k : Int) ≤ m) (p0 : 0 ≤ p) (p1 : p < fallI m k) (e : sumFall m k' + p' = sumFall m k + p) : k' = k ∧ p' = p := by
  rcases Nat.lt_trichotomy k k' with c | c | c
  · have z := sumFall_mono (m := m) (i := k + 1) (j := k') (by omega) (by omega)
    rw [sumFall_succ] at z
    omega
  · subst c
    exact ⟨rfl, by omega⟩
  · have z := sumFall_mono (m := m) (i := k' + 1) (j := k) (by omega) (by omega)
    rw [sumFall_succ] at z
    omega
theorem plain_tup {ns : List Int} (l : ns.length ≤ 1000) : plainD 5 (.tuple (ns.map .int)) := by
  refine ⟨by rw [List.length_map]; exact l, fun d hd => ?_⟩
  obtain ⟨n, _, rfl⟩ := List.mem_map.mp hd
  exact True.intro
theorem take_filter_len {l : List (List Int)} {p : List Int → Bool} {i : Nat} (h : i ≤ l.length) : ((List.range i).filter fun k => p (l.getD k [])).length = ((l.take i).filter p).length := by
  have e : l.take i = (List.range i).map fun k => l.getD k [] := by
    refine List.ext_getElem (by simp; omega) fun k h1 h2 => ?_
    have : k < l.length := by simp at h1; omega
    simp [this]
  rw [e, List.filter_map, List.length_map]
  rfl
theorem ok_law_listed (T : Top K mg a) : FnOk P w K mg base CX0 8 a.f_law_listed a.d_law_listed ["_law_m"] spListed := by
  refine T.F_law_listed.ok sc_law_listed (fun vs H Q E h => ?_) (fun cdv A outer s H vs Q E hr h => ?_)
  · obtain ⟨m, rfl, _⟩ := h
    rfl
  · obtain ⟨m, rfl, m0, m1, q⟩ := h
    refine ⟨_, (pss_cons (ps_set (i := 1) sc_law_listed.nd rfl (Or.inl rfl) (pe_lst pa_nil)) (pss_cons (ps_for PassesOwn.never rfl (pi_range1 (by rfl) T.n_range (pa_cons (pe_op op_add (pv 0) pe_int) pa_nil)) (pg_name (i := 2) sc_law_listed.nd rfl (Or.inl rfl)) (pss_cons (ps_set (i := 3) sc_law_listed.nd rfl (Or.inl rfl) (pe_call (ok_law_rows_of T) (hr.mono (by decide)) (by rfl) T.g_law_rows_of T.F_law_rows_of.kp T.b_law_rows_of .nil pass0 (pa_cons (pv 0) (pa_cons (pv 2) pa_nil)))) (pss_cons (ps_if (pt_not (pt_val (pe_call (ok_law_exact T) (hr.mono (by decide)) (by rfl) T.g_law_exact T.F_law_exact.kp T.b_law_exact .nil pass0 (pa_cons (pe_call (ok_count_falling T) (hr.mono (by decide)) (by rfl) T.g_count_falling T.F_count_falling.kp T.b_count_falling .nil passL (pa_cons (pv 0) (pa_cons (pv 2) pa_nil))) (pa_cons (pe_callB (call_lenK (K := K) rfl) (by rfl) T.n_len (by decide +kernel) (pa_cons (pv 3) pa_nil)) pa_nil))))) (pss_one (ps_ret pe_bl)) pss_nil) (pss_one (ps_expr (pe_bm PySem.F.plainAttrs_list PySem.F.slot_list_extend PySem.F.type_list_extend mt_extend (pv 1) (pa_cons (pv 3) pa_nil))))))) (pss_cons (ps_if (PW.pt (pw_or (pt_not (pt_val (pe_call (ok_law_exact T) (hr.mono (by decide)) (by rfl) T.g_law_exact T.F_law_exact.kp T.b_law_exact .nil pass0 (pa_cons (pe_tupleK (K := K) rfl (by rfl) T.n_tuple (pe_listGSK (K := K) rfl (ok_all_rows T) (hr.mono (by decide)) (by rfl) T.g_all_rows T.F_all_rows.kp T.b_all_rows .nil (fun σ => passAtNo) (pa_cons (pv 0) pa_nil) (by rfl) T.n_list (by decide +kernel))) (pa_cons (pe_tupleK (K := K) rfl (by rfl) T.n_tuple (pv 1)) pa_nil))))) (pw_or1 (pt_not (pt_val (pe_call (ok_law_exact T) (hr.mono (by decide)) (by rfl) T.g_law_exact T.F_law_exact.kp T.b_law_exact .nil pass0 (pa_cons (pe_call (ok_count_all_rows T) (hr.mono (by decide)) (by rfl) T.g_count_all_rows T.F_count_all_rows.kp T.b_count_all_rows .nil passL (pa_cons (pv 0) pa_nil)) (pa_cons (pe_callB (call_lenK (K := K) rfl) (by rfl) T.n_len (by decide +kernel) (pa_cons (pv 1) pa_nil)) pa_nil)))))))) (pss_one (ps_ret pe_bl)) pss_nil) (pss_cons (ps_for PassesOwn.never rfl (pi_range1 (by rfl) T.n_range (pa_cons (pe_callB (call_lenK (K := K) rfl) (by rfl) T.n_len (by decide +kernel) (pa_cons (pv 1) pa_nil)) pa_nil)) (pg_name (i := 4) sc_law_listed.nd rfl (Or.inl rfl)) (pss_one (ps_if (PW.pt (pw_or (pt_cmpR op_lt (pv 0) pe_int (nomark _)) (pw_or1 (pt_cmpR op_eq (pe_op op_mod (pe_callTy call_intI (by rfl) T.n_int (by decide +kernel) (pa_cons (pv 4) pa_nil)) pe_int) pe_int (nomark _))))) (pss_cons (ps_set (i := 5) sc_law_listed.nd rfl (Or.inr rfl) (pe_ix (ix_K (K := K) rfl) (pv 1) (pv 4) (fun _ _ => rfl))) (pss_cons (ps_set (i := 6) sc_law_listed.nd rfl (Or.inl rfl) (pe_callB (call_lenK (K := K) rfl) (by rfl) T.n_len (by decide +kernel) (pa_cons (pe_lc (own := [("_law_one", 7)]) (g := gName 7) (by rfl) sc_law_listed.nd (pi_seqK (K := K) rfl (pe_slice (sl_listK (K := K) rfl) (pv 1) po_none (po_some (pv 4)))) (blkOk_by (own := [("_law_one", 7)]) (N := ["_law_m", "_law_due", "_law_d", "_law_level", "_law_number", "_law_row", "_law_before", "_law_one"]) (sc := defScope s_law_listed) (by decide +kernel)) (fun _ _ _ _ _ => (pg_name (i := 7) sc_law_listed.nd rfl (Or.inl rfl))) (fun _ _ _ _ _ => pts_one (pt_cmpR op_eq (pe_callB (call_lenK (K := K) rfl) (by rfl) T.n_len (by decide +kernel) (pa_cons (pv 7) pa_nil)) (pe_callB (call_lenK (K := K) rfl) (by rfl) T.n_len (by decide +kernel) (pa_cons (pv 5) pa_nil)) (nomark _))) (fun _ _ _ _ _ => (pv 7))) pa_nil))) (pss_cons (ps_if (PW.pt (pw_or (pt_not (pt_val (pe_call (ok_law_exact T) (hr.mono (by decide)) (by rfl) T.g_law_exact T.F_law_exact.kp T.b_law_exact .nil pass0 (pa_cons (pe_call (ok_row_number T) (hr.mono (by decide)) (by rfl) T.g_row_number T.F_row_number.kp T.b_row_number .nil passL (pa_cons (pv 0) (pa_cons (pv 5) pa_nil))) (pa_cons (pv 4) pa_nil))))) (pw_or1 (pt_not (pt_val (pe_call (ok_law_exact T) (hr.mono (by decide)) (by rfl) T.g_law_exact T.F_law_exact.kp T.b_law_exact .nil pass0 (pa_cons (pe_call (ok_row_numbered T) (hr.mono (by decide)) (by rfl) T.g_row_numbered T.F_row_numbered.kp T.b_row_numbered .nil passL (pa_cons (pv 0) (pa_cons (pv 4) pa_nil))) (pa_cons (pv 5) pa_nil)))))))) (pss_one (ps_ret pe_bl)) pss_nil) (pss_one (ps_if (PW.pt (pw_or (pt_not (pt_val (pe_call (ok_law_exact T) (hr.mono (by decide)) (by rfl) T.g_law_exact T.F_law_exact.kp T.b_law_exact .nil pass0 (pa_cons (pe_call (ok_row_place T) (hr.mono (by decide)) (by rfl) T.g_row_place T.F_row_place.kp T.b_row_place .nil passL (pa_cons (pv 0) (pa_cons (pv 5) pa_nil))) (pa_cons (pv 6) pa_nil))))) (pw_or1 (pt_not (pt_val (pe_call (ok_law_exact T) (hr.mono (by decide)) (by rfl) T.g_law_exact T.F_law_exact.kp T.b_law_exact .nil pass0 (pa_cons (pe_call (ok_row_at T) (hr.mono (by decide)) (by rfl) T.g_row_at T.F_row_at.kp T.b_row_at .nil passL (pa_cons (pv 0) (pa_cons (pe_callB (call_lenK (K := K) rfl) (by rfl) T.n_len (by decide +kernel) (pa_cons (pv 5) pa_nil)) (pa_cons (pv 6) pa_nil)))) (pa_cons (pv 5) pa_nil)))))))) (pss_one (ps_ret pe_bl)) pss_nil))))) pss_nil))) (pss_one (ps_ret pe_bl)))))), ?_⟩
    walk_at "st"
    walk_at "wp"
    obtain ⟨c1, c2, c3, c4⟩ := chk_all m0 m1
    have big : 200000 ≤ sizeLine := by decide
    refine ⟨by show 0 ≤ sizeLine; decide, fun b hb => ?_⟩
    walk_at "wp"
    have f0 : Lf No H H H (upd H b (.lst [])) := Lf.alloc (Same.refl H) hb
    refine w_forR1 (n := m + 1) (by omega) (by omega) (fun i σ H' => ∃ (I' : Hp) (xs : List V) (y2 y3 : Option V), σ = [some (.int m), some (.ref b), y2, y3, none, none, none, none] ∧ Lf No H H I' H' ∧ I' b = none ∧ H' b = some (.lst xs) ∧ xs.length ≤ 15625 * i ∧
      DpAll K I' xs ((preDue m i).map tupI)) (fun Q q => ?_) ⟨H, [], none, none, rfl, f0, hb, upd_same, Nat.le_refl _, .nil⟩ (fun i σ H' hi h => ?_) (fun σ Hc h => ?_)
    · walk_at "wp"
      exact q
    · obtain ⟨I', xs, y2, y3, rfl, f, bN, hB, lx, aX⟩ := h
      refine w_name ?_
      simp only [List.set_cons_zero, List.set_cons_succ]
      walk_at "wp"
      refine ⟨I', m, (i : Nat), rfl, f.sub, by omega, by omega, by omega, by omega, fun I2 H2 pz zs f2 hz aZ => ?_⟩
      rw [Int.toNat_natCast] at aZ
      have hB2 := f2.keep _ _ (fun h => h) hB
      have bN2 := f2.off bN (none_ne hB)
      have lz : zs.length = (rowsI m i).length := by rw [DpAll.length aZ, List.length_map]
      have lz2 : (rowsI m i).length ≤ 15625 := Nat.le_trans (rowsI_len m i) (pow_small (by omega) (by omega))
      walk_at "wp"
      refine ⟨.int m, .int (i : Nat), .int m, .int (i : Nat), rfl, .int _, .int _, fun z => ?_, fun m' k' e1 e2 _ _ _ _ => ?_⟩
      · rcases z with z | z
        · exact (whole_no z m0 (by omega)).elim
        · exact (whole_no z (by omega) (by omega)).elim
      cases e1
      cases e2
      walk_at "wp"
      refine w_lenS (.inl (ofL (f2.sub _ _ hz))) ?_
      walk_at "wp"
      rw [if_pos (by omega), Int.toNat_natCast, ← c3 i (by omega), lz]
      refine exactly f2.sub (.int _) (.int _) True.intro fun H3 f3 => ?_
      have hB3 := f3.keep _ _ (fun h => h) hB2
      walk_at "wp"
      refine w_tyL hB3 ?_
      walk_at "wp"
      refine w_extend hB3 (f3.sub _ _ hz) (by omega) ?_
      refine ⟨I2, xs ++ zs, _, _, rfl, Lf.set ((f.trans f2).trans f3) hb hB3 bN2, bN2, upd_same, by rw [List.length_append]; omega, ?_⟩
      rw [preDue_succ, List.map_append]
      exact DpAll.append (DpAll.up aX f2.ext) aZ
    · obtain ⟨I', xs, y2, y3, rfl, f, bN, hB, lx, aX0⟩ := h
      have s0 : Same H Hc := f.same
      have aX : DpAll K Hc xs ((dueI m).map tupI) := by
        have e : (m + 1).toNat = m.toNat + 1 := by omega
        rw [e] at aX0
        exact DpAll.up aX0 f.sub
      have lxs : xs.length = (dueI m).length := by rw [DpAll.length aX, List.length_map]
      have each : ∀ r ∈ dueI m, r.length ≤ 5 := by
        intro r hr
        obtain ⟨d, hd, hr⟩ := List.mem_flatMap.mp hr
        rw [rows_each d r hr]
        rw [List.mem_range] at hd
        omega
      have ldue : (dueI m).length ≤ 1000 := by
        have z := all_small m.toNat (by omega)
        rw [show ((m.toNat : Nat) : Int) = m by omega] at z
        omega
      walk_at "wq"
      refine ⟨.int m, .int m, rfl, .int m, fun z => (whole_no z m0 (by omega)).elim, fun m' e1 _ _ I2 H2 ys f2 aY p hp => ?_⟩
      cases e1
      have fp : Lf No I2 H2 (upd I2 p (.lst ys)) (upd H2 p (.lst ys)) := Lf.put (o := .lst ys) f2.sub hp
      refine w_tupOfL (K := K) fp.sub (ofL upd_same) (DpAll.up aY fp.ext) fun I3 H3 q3 f3 z3 a3 => ?_
      have G3 := (f2.trans fp).trans f3
      walk_at "wq"
      refine w_tupOfL (K := K) G3.sub (ofL (G3.sub _ _ (G3.ext _ _ hB))) (DpAll.up aX G3.ext) fun I4 H4 q4 f4 z4 a4 => ?_
      walk_at "wq"
      rw [c1] at a3
      refine exactly f4.sub (.tup (TupZ.sq (TupZ.up z3 f4.ext)) (DpAll.up a3 f4.ext)) (.tup (TupZ.sq z4) a4) (plain_rows ldue fun r hr => Nat.le_trans (each r hr) (by decide)) fun H5 f5 => ?_
      have s5 : Same Hc H5 := ((G3.trans f4).trans f5).same
      walk_at "wq"
      refine ⟨.int m, .int m, rfl, .int m, fun z => (whole_no z m0 (by omega)).elim, fun m' e1 _ _ H6 s6 => ?_⟩
      cases e1
      walk_at "wq"
      refine w_lenS (.inl (ofL (s6 _ _ (s5 _ _ hB)))) ?_
      walk_at "wq"
      rw [lxs, c2]
      refine exactly (Same.refl H6) (.int _) (.int _) True.intro fun H7 f7 => ?_
      have s7 : Same Hc H7 := (s5.trans s6).trans f7.same
      walk_at "wq"
      refine w_forR1 (n := ((dueI m).length : Int)) (by omega) (by omega) (fun i σ H' => ∃ y4 y5 y6 : Option V, σ = [some (.int m), some (.ref b), y2, y3, y4, y5, y6, none] ∧ Same Hc H') (fun Q q => ?_) ⟨none, none, none, rfl, s7⟩ (fun i σ H' hi h => ?_) (fun σ H' h => ?_)
      · walk_at "wq"
        refine w_lenS (.inl (ofL (s7 _ _ hB))) ?_
        rw [lxs]
        walk_at "wq"
        exact q
      · obtain ⟨y4, y5, y6, rfl, s8⟩ := h
        have hi' : i < (dueI m).length := by omega
        obtain ⟨r, hr⟩ : ∃ r, (dueI m)[i] = r := ⟨_, rfl⟩
        obtain ⟨g1, g2, g3, g4⟩ := c4 i hi'
        rw [hr] at g1 g2 g3 g4
        have lr : r.length ≤ 5 := each r (by rw [← hr]; exact List.getElem_mem hi')
        obtain ⟨vr, er, dr⟩ := DpAll.get aX (get_map (f := tupI) hi')
        rw [hr] at dr
        have hrk := rank_range r (rgI m) (rgI_nodup m) g1 fun n hn => mem_rgI.mpr (g2 n hn)
        rw [rgI_len, show ((m.toNat : Nat) : Int) = m by omega] at hrk
        have hun := unrank_rank r (rgI m) (rgI_nodup m) g1 fun n hn => mem_rgI.mpr (g2 n hn)
        have lrm : (r.length : Int) ≤ m := by
          have z := nodup_len' g1 g2
          omega
        refine w_name ?_
        simp only [List.set_cons_zero, List.set_cons_succ]
        have dDue : Dp K Hc (.ref b) (.list ((dueI m).map tupI)) := .lst (ofL hB) aX
        walk_at "wq"
        refine w_if (fun c => ?_) (fun c => ?_)
        · walk_at "wq"
          refine w_ixS (.inl (ofL (s8 _ _ hB))) (by omega) (by rw [Int.toNat_natCast]; exact er) ?_
          walk_at "wq"
          refine w_lcIterL ?_
          walk_at "wq"
          refine w_takeL (K := K) s8 dDue (by omega) fun I9 H9 v9 f9 d9 => ?_
          obtain ⟨p9, x9, rfl, h9, a9⟩ := Dp.lstRef d9
          rw [Int.toNat_natCast] at a9
          have l9 : x9.length = i := by
            rw [DpAll.length a9, List.length_take, List.length_map]
            omega
          have dr9 := Dp.up dr f9.ext
          refine w_compL0 (K := K) (I := I9) (M := No) h9 (fun h => h) (CompOk.filt (fun k => decide (((((dueI m).getD k []).length : Nat) : Int) = (r.length : Nat))) (fun k => tupI ((dueI m).getD k [])) f9.sub (fun b h => h.elim) (small1000 (by omega)) (fun k I5 H5 R hk f5 hR => ?_) (fun k I5 H5 R hk hT f5 hR => ?_) (fun I5 H5 E vs f5 e1 e2 e3 hv => ?_))
          · have hk2 : k < (dueI m).length := by omega
            obtain ⟨vk, ek, dk⟩ := DpAll.get a9 (i := k) (d := tupI (dueI m)[k]) (by rw [List.getElem?_take, if_pos (by omega)]; exact get_map hk2)
            have ev : x9.getD k .non = vk := by rw [List.getD_eq_getElem?_getD, ek]; rfl
            rw [ev]
            simp only [List.set_cons_zero, List.set_cons_succ]
            walk_at "wq"
            refine w_lenD (f5.ext.trans f5.sub) (.inl dk) ?_
            rw [List.length_map]
            walk_at "wq"
            refine w_lenD (f5.ext.trans f5.sub) (.inl dr9) ?_
            rw [List.length_map]
            walk_at "wq"
            exact hR _ I5 H5 (by rw [List.getD_eq_getElem?_getD, List.getElem?_eq_getElem hk2]; rfl) (Lf.refl f5.sub)
          · have hk2 : k < (dueI m).length := by omega
            obtain ⟨vk, ek, dk⟩ := DpAll.get a9 (i := k) (d := tupI (dueI m)[k]) (by rw [List.getElem?_take, if_pos (by omega)]; exact get_map hk2)
            have ev : x9.getD k .non = vk := by rw [List.getD_eq_getElem?_getD, ek]; rfl
            rw [ev]
            simp only [List.set_cons_zero, List.set_cons_succ]
            walk_at "wq"
            refine hR _ I5 H5 (Lf.refl f5.sub) ?_
            rw [List.getD_eq_getElem?_getD, List.getElem?_eq_getElem hk2]
            exact Dp.up dk f5.ext
          have lv : ((vs.length : Nat) : Int) = rankI (rgI m) r := by
            rw [← g4, DpAll.length hv, List.length_map, l9]
            have z := take_filter_len (l := dueI m) (p := fun s => decide (((s.length : Nat) : Int) = (r.length : Nat))) (i := i) (by omega)
            exact congrArg (fun n : Nat => (n : Int)) z
          have S := (s8.trans (f9.trans f5).same)
          have dr5 := Dp.up dr9 f5.ext
          have hS : SeqD (tupI r) r := .inl rfl
          walk_at "wq"
          refine ⟨I5, .int m, vr, .int m, tupI r, rfl, f5.sub, .int m, dr5, fun z => (whole_no z m0 (by omega)).elim, fun m' e1 _ _ z => ?_, fun m' ns' e1 _ _ e2' _ _ H10 s10 => ?_⟩
          · cases e1
            exact absurd (rfD_ok hS g1 fun k hk => mem_rgI.mpr (g2 k hk)) z
          cases e1
          obtain rfl := SeqD.inj hS (e2'.elim .inl .inr)
          walk_at "wq"
          rw [g3]
          have T10 := f5.sub.trans s10
          refine exactly T10 (.int _) (.int _) True.intro fun H11 f11 => ?_
          walk_at "wq"
          refine ⟨I5, .int m, .int (i : Nat), .int m, .int (i : Nat), rfl, f11.sub, .int m, .int _, fun z => (whole_no z m0 (by omega)).elim, fun m' e1 _ _ z => ?_, fun m' k' p' e1 e2' k1' _ p0' p1' I12 H12 r12 f12 d12 => ?_⟩
          · cases e1
            exact (whole_no z (by omega) (by rw [← c2]; omega)).elim
          cases e1
          injection e2' with e2'
          obtain ⟨rfl, rfl⟩ := sumFall_uniq (m := m) (k := ns'.length) (p := rankI (rgI m) ns') k1' p0' p1' lrm hrk.1 hrk.2 (by omega)
          rw [hun] at d12
          walk_at "wq"
          refine exactly f12.sub d12 (Dp.up dr5 f12.ext) (plain_tup (by omega)) fun H13 f13 => ?_
          walk_at "wq"
          have dr12 := Dp.up dr5 f12.ext
          refine ⟨I12, .int m, vr, .int m, tupI ns', rfl, f13.sub, .int m, dr12, fun z => (whole_no z m0 (by omega)).elim, fun m' e1 _ _ z => ?_, fun m' ns2 e1 _ _ e3' _ _ H14 s14 => ?_⟩
          · cases e1
            exact absurd (rfD_ok hS g1 fun k hk => mem_rgI.mpr (g2 k hk)) z
          cases e1
          obtain rfl := SeqD.inj hS (e3'.elim .inl .inr)
          rw [lv]
          walk_at "wq"
          have T14 := f13.sub.trans s14
          refine exactly T14 (.int _) (.int _) True.intro fun H15 f15 => ?_
          walk_at "wq"
          refine w_lenD f15.sub (.inl dr12) ?_
          rw [List.length_map]
          walk_at "wq"
          refine ⟨I12, .int m, _, _, .int m, _, _, rfl, f15.sub, .int m, .int _, .int _, fun z => (whole_no z m0 (by omega)).elim, fun m' e1 _ _ z => ?_, fun m' k' e1 e2' _ _ _ z => ?_, fun m' k' p' e1 e2' e3' _ _ _ _ _ I16 H16 r16 f16 d16 => ?_⟩
          · cases e1
            exact (whole_no z (by omega) lrm).elim
          · cases e1
            cases e2'
            rw [Int.toNat_natCast] at z
            exact (whole_no z hrk.1 (by omega)).elim
          cases e1
          cases e2'
          cases e3'
          rw [Int.toNat_natCast, hun] at d16
          walk_at "wq"
          refine exactly f16.sub d16 (Dp.up dr12 f16.ext) (plain_tup (by omega)) fun H17 f17 => ?_
          walk_at "wq"
          have SS : Same Hc H17 := (((((S.trans s10).trans f11.same).trans f12.same).trans f13.same).trans s14).trans ((f15.same.trans f16.same).trans f17.same)
          exact ⟨_, _, _, rfl, SS⟩
        · walk_at "wq"
          refine w_if (fun c => ?_) (fun c => ?_)
          · walk_at "wq"
            refine w_ixS (.inl (ofL (s8 _ _ hB))) (by omega) (by rw [Int.toNat_natCast]; exact er) ?_
            walk_at "wq"
            refine w_lcIterL ?_
            walk_at "wq"
            refine w_takeL (K := K) s8 dDue (by omega) fun I9 H9 v9 f9 d9 => ?_
            obtain ⟨p9, x9, rfl, h9, a9⟩ := Dp.lstRef d9
            rw [Int.toNat_natCast] at a9
            have l9 : x9.length = i := by
              rw [DpAll.length a9, List.length_take, List.length_map]
              omega
            have dr9 := Dp.up dr f9.ext
            refine w_compL0 (K := K) (I := I9) (M := No) h9 (fun h => h) (CompOk.filt (fun k => decide (((((dueI m).getD k []).length : Nat) : Int) = (r.length : Nat))) (fun k => tupI ((dueI m).getD k [])) f9.sub (fun b h => h.elim) (small1000 (by omega)) (fun k I5 H5 R hk f5 hR => ?_) (fun k I5 H5 R hk hT f5 hR => ?_) (fun I5 H5 E vs f5 e1 e2 e3 hv => ?_))
            · have hk2 : k < (dueI m).length := by omega
              obtain ⟨vk, ek, dk⟩ := DpAll.get a9 (i := k) (d := tupI (dueI m)[k]) (by rw [List.getElem?_take, if_pos (by omega)]; exact get_map hk2)
              have ev : x9.getD k .non = vk := by rw [List.getD_eq_getElem?_getD, ek]; rfl
              rw [ev]
              simp only [List.set_cons_zero, List.set_cons_succ]
              walk_at "wq"
              refine w_lenD (f5.ext.trans f5.sub) (.inl dk) ?_
              rw [List.length_map]
              walk_at "wq"
              refine w_lenD (f5.ext.trans f5.sub) (.inl dr9) ?_
              rw [List.length_map]
              walk_at "wq"
              exact hR _ I5 H5 (by rw [List.getD_eq_getElem?_getD, List.getElem?_eq_getElem hk2]; rfl) (Lf.refl f5.sub)
            · have hk2 : k < (dueI m).length := by omega
              obtain ⟨vk, ek, dk⟩ := DpAll.get a9 (i := k) (d := tupI (dueI m)[k]) (by rw [List.getElem?_take, if_pos (by omega)]; exact get_map hk2)
              have ev : x9.getD k .non = vk := by rw [List.getD_eq_getElem?_getD, ek]; rfl
              rw [ev]
              simp only [List.set_cons_zero, List.set_cons_succ]
              walk_at "wq"
              refine hR _ I5 H5 (Lf.refl f5.sub) ?_
              rw [List.getD_eq_getElem?_getD, List.getElem?_eq_getElem hk2]
              exact Dp.up dk f5.ext
            have lv : ((vs.length : Nat) : Int) = rankI (rgI m) r := by
              rw [← g4, DpAll.length hv, List.length_map, l9]
              have z := take_filter_len (l := dueI m) (p := fun s => decide (((s.length : Nat) : Int) = (r.length : Nat))) (i := i) (by omega)
              exact congrArg (fun n : Nat => (n : Int)) z
            have S := (s8.trans (f9.trans f5).same)
            have dr5 := Dp.up dr9 f5.ext
            have hS : SeqD (tupI r) r := .inl rfl
            walk_at "wq"
            refine ⟨I5, .int m, vr, .int m, tupI r, rfl, f5.sub, .int m, dr5, fun z => (whole_no z m0 (by omega)).elim, fun m' e1 _ _ z => ?_, fun m' ns' e1 _ _ e2' _ _ H10 s10 => ?_⟩
            · cases e1
              exact absurd (rfD_ok hS g1 fun k hk => mem_rgI.mpr (g2 k hk)) z
            cases e1
            obtain rfl := SeqD.inj hS (e2'.elim .inl .inr)
            walk_at "wq"
            rw [g3]
            have T10 := f5.sub.trans s10
            refine exactly T10 (.int _) (.int _) True.intro fun H11 f11 => ?_
            walk_at "wq"
            refine ⟨I5, .int m, .int (i : Nat), .int m, .int (i : Nat), rfl, f11.sub, .int m, .int _, fun z => (whole_no z m0 (by omega)).elim, fun m' e1 _ _ z => ?_, fun m' k' p' e1 e2' k1' _ p0' p1' I12 H12 r12 f12 d12 => ?_⟩
            · cases e1
              exact (whole_no z (by omega) (by rw [← c2]; omega)).elim
            cases e1
            injection e2' with e2'
            obtain ⟨rfl, rfl⟩ := sumFall_uniq (m := m) (k := ns'.length) (p := rankI (rgI m) ns') k1' p0' p1' lrm hrk.1 hrk.2 (by omega)
            rw [hun] at d12
            walk_at "wq"
            refine exactly f12.sub d12 (Dp.up dr5 f12.ext) (plain_tup (by omega)) fun H13 f13 => ?_
            walk_at "wq"
            have dr12 := Dp.up dr5 f12.ext
            refine ⟨I12, .int m, vr, .int m, tupI ns', rfl, f13.sub, .int m, dr12, fun z => (whole_no z m0 (by omega)).elim, fun m' e1 _ _ z => ?_, fun m' ns2 e1 _ _ e3' _ _ H14 s14 => ?_⟩
            · cases e1
              exact absurd (rfD_ok hS g1 fun k hk => mem_rgI.mpr (g2 k hk)) z
            cases e1
            obtain rfl := SeqD.inj hS (e3'.elim .inl .inr)
            rw [lv]
            walk_at "wq"
            have T14 := f13.sub.trans s14
            refine exactly T14 (.int _) (.int _) True.intro fun H15 f15 => ?_
            walk_at "wq"
            refine w_lenD f15.sub (.inl dr12) ?_
            rw [List.length_map]
            walk_at "wq"
            refine ⟨I12, .int m, _, _, .int m, _, _, rfl, f15.sub, .int m, .int _, .int _, fun z => (whole_no z m0 (by omega)).elim, fun m' e1 _ _ z => ?_, fun m' k' e1 e2' _ _ _ z => ?_, fun m' k' p' e1 e2' e3' _ _ _ _ _ I16 H16 r16 f16 d16 => ?_⟩
            · cases e1
              exact (whole_no z (by omega) lrm).elim
            · cases e1
              cases e2'
              rw [Int.toNat_natCast] at z
              exact (whole_no z hrk.1 (by omega)).elim
            cases e1
            cases e2'
            cases e3'
            rw [Int.toNat_natCast, hun] at d16
            walk_at "wq"
            refine exactly f16.sub d16 (Dp.up dr12 f16.ext) (plain_tup (by omega)) fun H17 f17 => ?_
            walk_at "wq"
            have SS : Same Hc H17 := (((((S.trans s10).trans f11.same).trans f12.same).trans f13.same).trans s14).trans ((f15.same.trans f16.same).trans f17.same)
            exact ⟨_, _, _, rfl, SS⟩
          · walk_at "wq"
            exact ⟨_, _, _, rfl, s8⟩
      · obtain ⟨y4, y5, y6, rfl, s8⟩ := h
        walk_at "wq"
        exact q H' (s0.trans s8)
end
section
variable {P : Program} {w : World} {K : PySem.W.Frag} {mg : Str → Option Value} {base : Heap} {a : Adr}
/-! ### the last row -/
theorem eraseLast : ∀ {l : List Int} {x : Int}, (l ++ [x]).eraseIdx l.length = l
  | [], x => rfl
  | y :: l, x => by
    show (y :: (l ++ [x])).eraseIdx (l.length + 1) = y :: l
    rw [List.eraseIdx_cons_succ, eraseLast]
theorem rgI_succ {m : Int} (h : 0 ≤ m) : rgI (m + 1) = rgI m ++ [m] := by
  unfold rgI
  rw [show (m + 1).toNat = m.toNat + 1 by omega, List.range_succ, List.map_append]
  congr 1
  simp
  omega
def lastI (m : Int) (d : Nat) : List Int := (List.range d).map fun (k : Nat) => m - 1 - (k : Int)
theorem lastI_succ (m : Int) (d : Nat) : lastI m (d + 1) = (m - 1) :: lastI (m - 1) d := by
  unfold lastI
  rw [List.range_succ_eq_map, List.map_cons, List.map_map]
  congr 1
  · simp
  · refine List.map_congr_left fun k _ => ?_
    show m - 1 - ((k + 1 : Nat) : Int) = m - 1 - 1 - (k : Int)
    omega
theorem unrank_last : ∀ (d : Nat) (m : Int), (d : Int) ≤ m → unrankI (rgI m) d (fallI m d - 1) = lastI m d
  | 0, _, _ => rfl
  | d + 1, m, h => by
    have hb : 0 < fallI (m - 1) d := fall_pos d (m - 1) (by omega)
    have hl : ((rgI m).length : Int) = m := by rw [rgI_len]; omega
    have e : fallI m (d + 1) - 1 = (m - 1) * fallI (m - 1) d + (fallI (m - 1) d - 1) := by
      rw [fall_succ, Int.sub_mul, Int.one_mul]
      omega
    have hd := div_of (i := m - 1) (b := fallI (m - 1) d) (r := fallI (m - 1) d - 1) (by omega) (by omega)
    have er : rgI m = rgI (m - 1) ++ [m - 1] := by
      have z := rgI_succ (m := m - 1) (by omega)
      rwa [show m - 1 + 1 = m by omega] at z
    have el : (rgI (m - 1)).length = (m - 1).toNat := rgI_len _
    rw [lastI_succ]
    show (rgI m).getD ((fallI m (d + 1) - 1) / fallI (((rgI m).length : Int) - 1) d).toNat 0 :: unrankI ((rgI m).eraseIdx ((fallI m (d + 1) - 1) / fallI (((rgI m).length : Int) - 1) d).toNat) d ((fallI m (d + 1) - 1) % fallI (((rgI m).length : Int) - 1) d) = _
    rw [hl, e, hd.1, hd.2, er, ← el, eraseLast, unrank_last d (m - 1) (by omega)]
    congr 1
    simp
end
section
variable {P : Program} {w : World} {K : PySem.W.Frag} {mg : Str → Option Value} {base : Heap} {a : Adr}
def spTrue (K : PySem.W.Frag) : Sp := fun vs H Q _ => ∃ (I : Hp) (hd : Addr), vs = [.ref hd] ∧ Hand K I H hd ∧ ∀ I' H', Lf (· = hd) I H I' H' → Hand K I' H' hd → Q (.bl true) H'
theorem whole_less {d : PyData} {m : Int} (h : wholeB d (some 0) (some m) = false) : wholeB d (some 0) (some (m - 1)) = false := by
  cases d with
  | int n =>
    simp [wholeB, geB, leB] at h ⊢
    omega
  | _ => rfl
theorem pairAt {K : PySem.W.Frag} {I : Hp} {v : V} {w : Int} {d : PyData} (h : Dp K I v (.tuple [.int w, d])) : ∃ p y, v = .ref p ∧ SqT K I p [.int w, y] ∧ Dp K I y d := by
  obtain ⟨p, xs, rfl, hp, hx⟩ := Dp.tupRef h
  cases hx with
  | cons h1 h2 =>
    cases h2 with
    | cons h3 h4 =>
      cases h4
      cases h1
      exact ⟨p, _, rfl, hp, h3⟩
theorem plain_place : plainD 5 (.tuple [.str "place"]) := by
  refine ⟨by show 1 ≤ 1000; decide, fun d hd => ?_⟩
  rcases List.mem_cons.mp hd with rfl | hd
  · exact (by decide +kernel : SeqAt.shaped (.str "place") = true)
  · cases hd
theorem seqD {I H : Hp} {Q : VK} {E : XK} {ks : List Int} {hd p : Addr} (hh : Hand K I H hd) (z : TupZ I p (ks.map V.int)) (q : ∀ I' H' v d, Lf (· = hd) I H I' H' → Hand K I' H' hd → Dp K I' v d → SeqD d ks → Q v H') : spSeq K [.ref hd, .ref p] H Q E :=
  ⟨I, hd, .ref p, ks.map .int, rfl, hh, fun I' H' r f h d => q I' H' r _ f h d (.inr rfl), .inl ⟨TupZ.dp z, fun I' H' f h => q I' H' (.ref p) _ f h (TupZ.dp (TupZ.up z f.ext)) (.inl rfl)⟩⟩
theorem ok_law_great (T : Top K mg a) : FnOk P w K mg base CX0 9 a.f_law_great a.d_law_great ["_law_hand_here"] (spTrue K) := by
  refine T.F_law_great.ok sc_law_great (fun vs H Q E h => ?_) (fun cdv A outer s H vs Q E hr h => ?_)
  · obtain ⟨I, hd, rfl, _⟩ := h
    rfl
  · obtain ⟨I, hd, rfl, hh, q⟩ := h
    refine ⟨_, (pss_cons (ps_set (i := 1) sc_law_great.nd rfl (Or.inr rfl) (pe_call (ok_law_draw T) (hr.mono (by decide)) (by rfl) T.g_law_draw T.F_law_draw.kp T.b_law_draw .nil pass0 (pa_cons (pv 0) (pa_cons pe_int pa_nil)))) (pss_cons (ps_set (i := 2) sc_law_great.nd rfl (Or.inl rfl) (pe_call (ok_law_some_row T) (hr.mono (by decide)) (by rfl) T.g_law_some_row T.F_law_some_row.kp T.b_law_some_row .nil pass0 (pa_cons (pv 0) (pa_cons (pv 1) (pa_cons (pe_call (ok_law_draw T) (hr.mono (by decide)) (by rfl) T.g_law_draw T.F_law_draw.kp T.b_law_draw .nil pass0 (pa_cons (pv 0) (pa_cons (pe_op op_add (pv 1) pe_int) pa_nil))) pa_nil))))) (pss_cons (ps_set (i := 3) sc_law_great.nd rfl (Or.inl rfl) (pe_callB (call_lenK (K := K) rfl) (by rfl) T.n_len (by decide +kernel) (pa_cons (pv 2) pa_nil))) (pss_cons (ps_set (i := 4) sc_law_great.nd rfl (Or.inl rfl) (pe_call (ok_law_own_place T) (hr.mono (by decide)) (by rfl) T.g_law_own_place T.F_law_own_place.kp T.b_law_own_place .nil pass0 (pa_cons (pv 1) (pa_cons (pv 2) pa_nil)))) (pss_cons (ps_set (i := 5) sc_law_great.nd rfl (Or.inl rfl) (pe_callB (cr_sum rfl) (by rfl) T.n_sum (by decide +kernel) (pa_cons (pe_lc (own := [("_law_length", 13)]) (g := gName 13) (by rfl) sc_law_great.nd (pi_range1 (by rfl) T.n_range (pa_cons (pv 3) pa_nil)) (blkOk_by (own := [("_law_length", 13)]) (N := ["_law_hand_here", "_law_m", "_law_row", "_law_d", "_law_place", "_law_shorter", "_law_handed", "_law_which", "_law_due", "_law_last", "_law_many", "_law_above", "_law_wide", "_law_length", "_law_at"]) (sc := defScope s_law_great) (by decide +kernel)) (fun _ _ _ _ _ => (pg_name (i := 13) sc_law_great.nd rfl (Or.inl rfl))) (fun _ _ _ _ _ => pts_nil) (fun _ _ _ _ _ => (pe_call (ok_law_falling T) (hr.mono (by decide)) (by rfl) T.g_law_falling T.F_law_falling.kp T.b_law_falling .nil pass0 (pa_cons (pv 1) (pa_cons (pv 13) pa_nil))))) pa_nil))) (pss_cons (ps_set (i := 6) sc_law_great.nd rfl (Or.inl rfl) (pe_call (ok_law_seq T) (hr.mono (by decide)) (by rfl) T.g_law_seq T.F_law_seq.kp T.b_law_seq .nil pass0 (pa_cons (pv 0) (pa_cons (pv 2) pa_nil)))) (pss_cons (ps_for PassesOwn.never rfl (pi_seqK (K := K) rfl (pe_tup (pa_cons (pe_tup (pa_cons pe_int (pa_cons (pv 2) pa_nil))) (pa_cons (pe_tup (pa_cons pe_int (pa_cons (pv 4) pa_nil))) (pa_cons (pe_tup (pa_cons pe_int (pa_cons (pe_op op_add (pv 5) (pv 4)) pa_nil))) pa_nil))))) (pg_tup rfl (pgs_cons (pg_name (i := 7) sc_law_great.nd rfl (Or.inl rfl)) (pgs_cons (pg_name (i := 8) sc_law_great.nd rfl (Or.inl rfl)) pgs_nil))) (pss_one (ps_if (pt_not (pt_val (pe_call (ok_law_exact T) (hr.mono (by decide)) (by rfl) T.g_law_exact T.F_law_exact.kp T.b_law_exact .nil pass0 (pa_cons (pe_call (ok_law_asked T) (hr.mono (by decide)) (by rfl) T.g_law_asked T.F_law_asked.kp T.b_law_asked .nil pass0 (pa_cons (pv 7) (pa_cons (pv 1) (pa_cons (pv 6) (pa_cons pe_int pa_nil))))) (pa_cons (pe_tup (pa_cons pe_str (pa_cons (pv 8) pa_nil))) pa_nil))))) (pss_one (ps_ret pe_bl)) pss_nil))) (pss_cons (ps_if (PW.pt (pw_or (pt_cmpR (op_neK (K := K) rfl hr.units) (pe_tupleK (K := K) rfl (by rfl) T.n_tuple (pv 6)) (pv 2) (nomark _)) (pw_or1 (pt_not (pt_val (pe_call (ok_law_exact T) (hr.mono (by decide)) (by rfl) T.g_law_exact T.F_law_exact.kp T.b_law_exact .nil pass0 (pa_cons (pe_call (ok_law_asked T) (hr.mono (by decide)) (by rfl) T.g_law_asked T.F_law_asked.kp T.b_law_asked .nil pass0 (pa_cons pe_int (pa_cons (pv 1) (pa_cons (pv 3) (pa_cons (pv 4) pa_nil))))) (pa_cons (pe_tup (pa_cons pe_str (pa_cons (pv 2) pa_nil))) pa_nil)))))))) (pss_one (ps_ret pe_bl)) pss_nil) (pss_cons (ps_if (pt_not (pt_val (pe_call (ok_law_exact T) (hr.mono (by decide)) (by rfl) T.g_law_exact T.F_law_exact.kp T.b_law_exact .nil pass0 (pa_cons (pe_call (ok_law_asked T) (hr.mono (by decide)) (by rfl) T.g_law_asked T.F_law_asked.kp T.b_law_asked .nil pass0 (pa_cons pe_int (pa_cons (pv 1) (pa_cons (pe_op op_add (pv 5) (pv 4)) (pa_cons pe_int pa_nil))))) (pa_cons (pe_tup (pa_cons pe_str (pa_cons (pv 2) pa_nil))) pa_nil))))) (pss_one (ps_ret pe_bl)) pss_nil) (pss_cons (ps_set (i := 9) sc_law_great.nd rfl (Or.inl rfl) (pe_tupleK (K := K) rfl (by rfl) T.n_tuple (pe_lc (own := [("_law_at", 14)]) (g := gName 14) (by rfl) sc_law_great.nd (pi_range1 (by rfl) T.n_range (pa_cons (pv 3) pa_nil)) (blkOk_by (own := [("_law_at", 14)]) (N := ["_law_hand_here", "_law_m", "_law_row", "_law_d", "_law_place", "_law_shorter", "_law_handed", "_law_which", "_law_due", "_law_last", "_law_many", "_law_above", "_law_wide", "_law_length", "_law_at"]) (sc := defScope s_law_great) (by decide +kernel)) (fun _ _ _ _ _ => (pg_name (i := 14) sc_law_great.nd rfl (Or.inl rfl))) (fun _ _ _ _ _ => pts_nil) (fun _ _ _ _ _ => (pe_op op_sub (pe_op op_sub (pv 1) pe_int) (pv 14)))))) (pss_cons (ps_if (pt_not (pt_val (pe_call (ok_law_exact T) (hr.mono (by decide)) (by rfl) T.g_law_exact T.F_law_exact.kp T.b_law_exact .nil pass0 (pa_cons (pe_call (ok_law_asked T) (hr.mono (by decide)) (by rfl) T.g_law_asked T.F_law_asked.kp T.b_law_asked .nil pass0 (pa_cons pe_int (pa_cons (pv 1) (pa_cons (pv 3) (pa_cons (pe_op op_sub (pe_call (ok_law_falling T) (hr.mono (by decide)) (by rfl) T.g_law_falling T.F_law_falling.kp T.b_law_falling .nil pass0 (pa_cons (pv 1) (pa_cons (pv 3) pa_nil))) pe_int) pa_nil))))) (pa_cons (pe_tup (pa_cons pe_str (pa_cons (pv 9) pa_nil))) pa_nil))))) (pss_one (ps_ret pe_bl)) pss_nil) (pss_cons (ps_if (PW.pt (pw_or (pt_not (pt_val (pe_call (ok_law_exact T) (hr.mono (by decide)) (by rfl) T.g_law_exact T.F_law_exact.kp T.b_law_exact .nil pass0 (pa_cons (pe_call (ok_law_asked T) (hr.mono (by decide)) (by rfl) T.g_law_asked T.F_law_asked.kp T.b_law_asked .nil pass0 (pa_cons pe_int (pa_cons (pv 1) (pa_cons (pv 3) (pa_cons (pe_call (ok_law_falling T) (hr.mono (by decide)) (by rfl) T.g_law_falling T.F_law_falling.kp T.b_law_falling .nil pass0 (pa_cons (pv 1) (pa_cons (pv 3) pa_nil))) pa_nil))))) (pa_cons (pe_tup (pa_cons pe_str pa_nil)) pa_nil))))) (pw_or1 (pt_not (pt_val (pe_call (ok_law_exact T) (hr.mono (by decide)) (by rfl) T.g_law_exact T.F_law_exact.kp T.b_law_exact .nil pass0 (pa_cons (pe_call (ok_law_asked T) (hr.mono (by decide)) (by rfl) T.g_law_asked T.F_law_asked.kp T.b_law_asked .nil pass0 (pa_cons pe_int (pa_cons (pv 1) (pa_cons (pv 3) (pa_cons (pe_un un_neg pe_int) pa_nil))))) (pa_cons (pe_tup (pa_cons pe_str pa_nil)) pa_nil)))))))) (pss_one (ps_ret pe_bl)) pss_nil) (pss_cons (ps_set (i := 10) sc_law_great.nd rfl (Or.inl rfl) (pe_callB (cr_sum rfl) (by rfl) T.n_sum (by decide +kernel) (pa_cons (pe_lc (own := [("_law_length", 13)]) (g := gName 13) (by rfl) sc_law_great.nd (pi_range1 (by rfl) T.n_range (pa_cons (pe_op op_add (pv 1) pe_int) pa_nil)) (blkOk_by (own := [("_law_length", 13)]) (N := ["_law_hand_here", "_law_m", "_law_row", "_law_d", "_law_place", "_law_shorter", "_law_handed", "_law_which", "_law_due", "_law_last", "_law_many", "_law_above", "_law_wide", "_law_length", "_law_at"]) (sc := defScope s_law_great) (by decide +kernel)) (fun _ _ _ _ _ => (pg_name (i := 13) sc_law_great.nd rfl (Or.inl rfl))) (fun _ _ _ _ _ => pts_nil) (fun _ _ _ _ _ => (pe_call (ok_law_falling T) (hr.mono (by decide)) (by rfl) T.g_law_falling T.F_law_falling.kp T.b_law_falling .nil pass0 (pa_cons (pv 1) (pa_cons (pv 13) pa_nil))))) pa_nil))) (pss_cons (ps_if (pt_not (pt_val (pe_call (ok_law_exact T) (hr.mono (by decide)) (by rfl) T.g_law_exact T.F_law_exact.kp T.b_law_exact .nil pass0 (pa_cons (pe_call (ok_law_asked T) (hr.mono (by decide)) (by rfl) T.g_law_asked T.F_law_asked.kp T.b_law_asked .nil pass0 (pa_cons pe_int (pa_cons (pv 1) (pa_cons (pe_op op_sub (pv 10) pe_int) (pa_cons pe_int pa_nil))))) (pa_cons (pe_tup (pa_cons pe_str (pa_cons (pe_tupleK (K := K) rfl (by rfl) T.n_tuple (pe_lc (own := [("_law_at", 14)]) (g := gName 14) (by rfl) sc_law_great.nd (pi_range1 (by rfl) T.n_range (pa_cons (pv 1) pa_nil)) (blkOk_by (own := [("_law_at", 14)]) (N := ["_law_hand_here", "_law_m", "_law_row", "_law_d", "_law_place", "_law_shorter", "_law_handed", "_law_which", "_law_due", "_law_last", "_law_many", "_law_above", "_law_wide", "_law_length", "_law_at"]) (sc := defScope s_law_great) (by decide +kernel)) (fun _ _ _ _ _ => (pg_name (i := 14) sc_law_great.nd rfl (Or.inl rfl))) (fun _ _ _ _ _ => pts_nil) (fun _ _ _ _ _ => (pe_op op_sub (pe_op op_sub (pv 1) pe_int) (pv 14))))) pa_nil))) pa_nil))))) (pss_one (ps_ret pe_bl)) pss_nil) (pss_cons (ps_if (PW.pt (pw_or (pt_not (pt_val (pe_call (ok_law_exact T) (hr.mono (by decide)) (by rfl) T.g_law_exact T.F_law_exact.kp T.b_law_exact .nil pass0 (pa_cons (pe_call (ok_law_asked T) (hr.mono (by decide)) (by rfl) T.g_law_asked T.F_law_asked.kp T.b_law_asked .nil pass0 (pa_cons pe_int (pa_cons (pv 1) (pa_cons pe_int (pa_cons pe_int pa_nil))))) (pa_cons (pe_tup (pa_cons pe_str (pa_cons (pv 10) pa_nil))) pa_nil))))) (pw_or1 (pt_not (pt_val (pe_call (ok_law_exact T) (hr.mono (by decide)) (by rfl) T.g_law_exact T.F_law_exact.kp T.b_law_exact .nil pass0 (pa_cons (pe_call (ok_law_asked T) (hr.mono (by decide)) (by rfl) T.g_law_asked T.F_law_asked.kp T.b_law_asked .nil pass0 (pa_cons pe_int (pa_cons (pv 1) (pa_cons (pv 10) (pa_cons pe_int pa_nil))))) (pa_cons (pe_tup (pa_cons pe_str pa_nil)) pa_nil)))))))) (pss_one (ps_ret pe_bl)) pss_nil) (pss_cons (ps_set (i := 11) sc_law_great.nd rfl (Or.inl rfl) (pe_call (ok_law_draw T) (hr.mono (by decide)) (by rfl) T.g_law_draw T.F_law_draw.kp T.b_law_draw .nil pass0 (pa_cons (pv 0) (pa_cons pe_int pa_nil)))) (pss_cons (ps_set (i := 12) sc_law_great.nd rfl (Or.inl rfl) (pe_ifExp (pt_cmpR op_le (pv 11) (pv 1) (nomark _)) (pe_call (ok_law_falling T) (hr.mono (by decide)) (by rfl) T.g_law_falling T.F_law_falling.kp T.b_law_falling .nil pass0 (pa_cons (pv 1) (pa_cons (pv 11) pa_nil))) pe_int)) (pss_one (ps_ret (pe_and (pe_call (ok_law_exact T) (hr.mono (by decide)) (by rfl) T.g_law_exact T.F_law_exact.kp T.b_law_exact .nil pass0 (pa_cons (pe_call (ok_law_asked T) (hr.mono (by decide)) (by rfl) T.g_law_asked T.F_law_asked.kp T.b_law_asked .nil pass0 (pa_cons pe_int (pa_cons (pv 1) (pa_cons (pv 11) (pa_cons pe_int pa_nil))))) (pa_cons (pe_tup (pa_cons pe_str (pa_cons (pv 12) pa_nil))) pa_nil))) (pe_one (pe_call (ok_law_exact T) (hr.mono (by decide)) (by rfl) T.g_law_exact T.F_law_exact.kp T.b_law_exact .nil pass0 (pa_cons (pe_call (ok_law_asked T) (hr.mono (by decide)) (by rfl) T.g_law_asked T.F_law_asked.kp T.b_law_asked .nil pass0 (pa_cons pe_int (pa_cons (pv 1) (pa_cons (pe_call (ok_law_no_count T) (hr.mono (by decide)) (by rfl) T.g_law_no_count T.F_law_no_count.kp T.b_law_no_count .nil pass0 (pa_cons (pv 0) (pa_cons (pv 10) pa_nil))) (pa_cons pe_int pa_nil))))) (pa_cons (pe_tup (pa_cons pe_str pa_nil)) pa_nil)))))))))))))))))))))))), ?_⟩
    walk_at "st"
    walk_at "wq"
    have F : Lf (· = hd) I H I H := Lf.refl hh.sub
    refine ⟨I, hd, 25, rfl, hh, by omega, by omega, fun H1 m f1 hh1 m0 m1 => ?_⟩
    replace hh := hh1
    replace F := F.trans f1
    walk_at "wq"
    refine ⟨I, hd, m + 1, rfl, hh, by omega, by omega, fun H2 n f2 hh2 n0 n1 => ?_⟩
    replace hh := hh2
    replace F := F.trans f2
    walk_at "wq"
    refine ⟨I, hd, m, n, rfl, hh, n0, by omega, by omega, fun I3 H3 rp ks f3 hh3 zr hnd hkl hkin => ?_⟩
    replace hh := hh3
    replace F := F.trans f3
    walk_at "wq"
    refine w_lenS (.inr (Same.seqT hh.sub (TupZ.sq zr))) ?_
    rw [List.length_map]
    walk_at "wq"
    refine ⟨.ref rp, m, ks, rfl, Dp.up (TupZ.dp zr) hh.sub, by omega, hnd, hkin, fun H4 s4 => ?_⟩
    have f4 : Lf No I3 H3 I3 H4 := Lf.ofSame hh.sub s4
    replace hh := hh.to f4 (fun h => h)
    replace F := F.trans f4.any
    walk_at "wq"
    refine w_compR (K := K) (I := I3) (M := No) (m := (ks.length : Int)) (by omega) (by omega) (fun Q q => ?_)
      (CompOk.pure (fun k => .int (fallI m k)) hh.sub (fun b h => h.elim) (small1000 (by omega)) (fun k I5 H5 R hk f5 hR => ?_) (fun I5 H5 E vs f5 e1 e2 e3 hv => ?_))
    · walk_at "wq"
      exact q
    · simp only [List.set_cons_zero, List.set_cons_succ]
      walk_at "wq"
      refine ⟨m, (k : Nat), rfl, by omega, by omega, by omega, by omega, ?_⟩
      exact hR _ I5 H5 (Lf.refl f5.sub) (by rw [Int.toNat_natCast]; exact .int _)
    rw [Int.toNat_natCast] at hv
    have hv2 : DpAll K I5 vs (((List.range ks.length).map fun d => fallI m d).map PyData.int) := by rw [List.map_map]; exact hv
    obtain rfl := DpAll.isInts hv2
    replace hh := hh.to f5 (fun h => h)
    replace F := F.trans f5.any
    replace zr := TupZ.up zr f5.ext
    walk_at "wq"
    refine w_sum (ofL e3) ?_
    walk_at "wq"
    refine seqD hh zr fun I6 H6 v6 d6 f6 hh6 dh sh => ?_
    replace hh := hh6
    replace F := F.trans f6
    replace zr := TupZ.up zr f6.ext
    walk_at "wq"
    refine w_forIterT ?_
    walk_at "wq"
    refine w_newT (K := K) hh.sub (.cons (.int _) (.cons (TupZ.dp zr) .nil)) (by show 2 ≤ sizeLine; decide) fun I7 p7 f7 d7 => ?_
    replace hh := hh.to f7 (fun h => h)
    replace F := F.trans f7.any
    replace zr := TupZ.up zr f7.ext
    replace dh := Dp.up dh f7.ext
    walk_at "wq"
    refine w_newT (K := K) hh.sub (.cons (.int _) (.cons (.int _) .nil)) (by show 2 ≤ sizeLine; decide) fun I8 p8 f8 d8 => ?_
    replace hh := hh.to f8 (fun h => h)
    replace F := F.trans f8.any
    replace zr := TupZ.up zr f8.ext
    replace dh := Dp.up dh f8.ext
    replace d7 := Dp.up d7 f8.ext
    walk_at "wq"
    refine w_newT (K := K) hh.sub (.cons (.int _) (.cons (.int _) .nil)) (by show 2 ≤ sizeLine; decide) fun I9 p9 f9 d9 => ?_
    replace hh := hh.to f9 (fun h => h)
    replace F := F.trans f9.any
    replace zr := TupZ.up zr f9.ext
    replace dh := Dp.up dh f9.ext
    replace d7 := Dp.up d7 f9.ext
    replace d8 := Dp.up d8 f9.ext
    walk_at "wq"
    refine w_putT (K := K) hh.sub (by show 3 ≤ sizeLine; decide) fun I10 p10 f10 t10 => ?_
    replace hh := hh.to f10 (fun h => h)
    replace F := F.trans f10.any
    replace zr := TupZ.up zr f10.ext
    replace dh := Dp.up dh f10.ext
    replace d7 := Dp.up d7 f10.ext
    replace d8 := Dp.up d8 f10.ext
    replace d9 := Dp.up d9 f10.ext
    obtain ⟨rk, erk⟩ : ∃ rk : Int, rankI (rgI m) ks = rk := ⟨_, rfl⟩
    have hrk := rank_range ks (rgI m) (rgI_nodup m) hnd fun n hn => mem_rgI.mpr (hkin n hn)
    rw [rgI_len, show ((m.toNat : Nat) : Int) = m by omega, erk] at hrk
    have hun := unrank_rank ks (rgI m) (rgI_nodup m) hnd fun n hn => mem_rgI.mpr (hkin n hn)
    rw [erk] at hun
    have lk : ks.length ≤ 24 := by omega
    have hlast : unrankI (rgI m) ks.length (fallI m ks.length - 1) = lastI m ks.length := unrank_last ks.length m (by omega)
    have hlastm : unrankI (rgI m) m.toNat (fallI m m.toNat - 1) = lastI m m.toNat := unrank_last m.toNat m (by omega)
    have fp := fall_pos ks.length m (by omega)
    have fpm := fall_pos m.toNat m (by omega)
    have allE : allI m = sumFall m m.toNat + fallI m m.toNat := sumFall_succ m m.toNat
    have sumN : 0 ≤ sumFall m m.toNat := sumFall_mono (m := m) (i := 0) (j := m.toNat) (by omega) (by omega)
    rw [erk] at d8 d9
    have items : ∀ (i : Nat) (x : V), [V.ref p7, V.ref p8, V.ref p9][i]? = some x → ∃ (w : Int) (d : PyData), Dp K I10 x (.tuple [.int w, d]) ∧ Out w (.int m) d6 (.int 0) (pairD "told" d) ∧ plainD 5 (pairD "told" d) := by
      intro i x e
      rcases i with _|_|_|i
      · cases e
        exact ⟨2, tupI ks, d7, .toldRow (.inl rfl) m0 (by omega) sh hnd hkin, plain_told (by decide +kernel) (by omega)⟩
      · cases e
        refine ⟨3, .int rk, d8, ?_, plain_pair (by decide +kernel)⟩
        rw [← erk]
        exact .toldRow (.inr (.inl rfl)) m0 (by omega) sh hnd hkin
      · cases e
        refine ⟨4, .int (sumFall m ks.length + rk), d9, ?_, plain_pair (by decide +kernel)⟩
        rw [← erk, Int.add_comm]
        exact .toldRow (.inr (.inr rfl)) m0 (by omega) sh hnd hkin
      · simp at e
    rw [erk]
    rw [erk] at hh F f10 f9 f8
    refine w_forT0 (K := K) (Same.seqT hh.sub t10) (fun i σ H' => ∃ (I' : Hp) (y z : Option V), σ = [some (V.ref hd), some (V.int m), some (V.ref rp), some (V.int (ks.length : Nat)), some (V.int rk),
      some (V.int (sumFall m ks.length)), some v6, y, z, none, none, none, none, none, none] ∧ Lf (· = hd) I H I' H' ∧ Hand K I' H' hd ∧ Same I10 I') ⟨I10, none, none, rfl, F, hh, Same.refl _⟩ (fun i σ H' _ h => ?_) (fun i x σ H' hi h => ?_) (fun σ H' h => ?_)
    · obtain ⟨I', y, z, rfl, F, hh, S⟩ := h
      exact Same.seqT (S.trans hh.sub) t10
    · obtain ⟨I', y, z, rfl, F, hh, S⟩ := h
      obtain ⟨w, d, dx, ho, hp⟩ := items i x hi
      obtain ⟨p, y2, rfl, sp, dy⟩ := pairAt (Dp.up dx S)
      replace dh := Dp.up dh S
      refine w_gpairS (Same.seqT hh.sub sp) ?_
      simp only [List.set_cons_zero, List.set_cons_succ]
      walk_at "wq"
      refine ⟨_, w, _, _, _, _, _, _, _, rfl, hh.sub, .int m, dh, .int 0, ho, fun I11 H11 r11 f11 d11 => ?_⟩
      replace hh := hh.to f11 (fun h => h)
      replace F := F.trans f11.any
      replace dy := Dp.up dy f11.ext
      walk_at "wq"
      refine w_newT (K := K) hh.sub (.cons (.str _) (.cons dy .nil)) (by show 2 ≤ sizeLine; decide) fun I12 p12 f12 d12 => ?_
      replace hh := hh.to f12 (fun h => h)
      replace F := F.trans f12.any
      replace d11 := Dp.up d11 f12.ext
      walk_at "wq"
      refine exactly hh.sub d11 d12 hp fun H13 f13 => ?_
      replace hh := hh.to f13 (fun h => h)
      replace F := F.trans f13.any
      walk_at "wq"
      exact ⟨I12, _, _, rfl, F, hh, (S.trans f11.ext).trans f12.ext⟩
    · clear F hh
      obtain ⟨I', y, z, rfl, F, hh, S⟩ := h
      replace dh := Dp.up dh S
      replace zr := TupZ.up zr S
      walk_at "wq"
      refine w_tupOfD (K := K) hh.sub (ds := ks.map .int) (sh.elim (fun e => .inl (e ▸ dh)) fun e => .inr (e ▸ dh)) fun I14 H14 v14 f14 d14 => ?_
      replace hh := hh.to f14 (fun h => h)
      replace F := F.trans f14.any
      replace zr := TupZ.up zr f14.ext
      replace dh := Dp.up dh f14.ext
      have zl := zr
      walk_at "wq"
      refine w_neD (Dp.up d14 hh.sub) (Dp.up (TupZ.dp zr) hh.sub) (shaped_ints _) (shaped_ints _) ?_
      rw [show PyData.eqv (.tuple (ks.map PyData.int)) (.tuple (ks.map PyData.int)) = true from (eqvAll_ints ks ks).trans (decide_eq_true rfl)]
      walk_at "wq"
      refine ⟨_, 5, _, _, _, _, _, _, _, rfl, hh.sub, .int m, .int (ks.length : Nat), .int rk, .told5 (by omega) (by omega) (by omega) hrk.1 (by rw [Int.toNat_natCast]; exact hrk.2), fun I11 H11 r11 f11 d11 => ?_⟩
      rw [Int.toNat_natCast, hun] at d11
      replace hh := hh.to f11 (fun h => h)
      replace F := F.trans f11.any
      replace zr := TupZ.up zr f11.ext
      replace zl := TupZ.up zl f11.ext
      walk_at "wq"
      refine w_newT (K := K) hh.sub (.cons (.str _) (.cons (TupZ.dp zr) .nil)) (by show 2 ≤ sizeLine; decide) fun I12 p12 f12 d12 => ?_
      replace hh := hh.to f12 (fun h => h)
      replace F := F.trans f12.any
      replace zr := TupZ.up zr f12.ext
      replace zl := TupZ.up zl f12.ext
      replace d11 := Dp.up d11 f12.ext
      walk_at "wq"
      refine exactly hh.sub d11 d12 (plain_told (by decide +kernel) (by omega)) fun H13 f13 => ?_
      replace hh := hh.to f13 (fun h => h)
      replace F := F.trans f13.any
      walk_at "wq"
      refine ⟨_, 6, _, _, _, _, _, _, _, rfl, hh.sub, .int m, .int (sumFall m ks.length + rk), .int 0, .told6 (k := ks.length) (by omega) (by omega) hrk.1 hrk.2, fun I11 H11 r11 f11 d11 => ?_⟩
      rw [hun] at d11
      replace hh := hh.to f11 (fun h => h)
      replace F := F.trans f11.any
      replace zr := TupZ.up zr f11.ext
      replace zl := TupZ.up zl f11.ext
      walk_at "wq"
      refine w_newT (K := K) hh.sub (.cons (.str _) (.cons (TupZ.dp zr) .nil)) (by show 2 ≤ sizeLine; decide) fun I12 p12 f12 d12 => ?_
      replace hh := hh.to f12 (fun h => h)
      replace F := F.trans f12.any
      replace zr := TupZ.up zr f12.ext
      replace zl := TupZ.up zl f12.ext
      replace d11 := Dp.up d11 f12.ext
      walk_at "wq"
      refine exactly hh.sub d11 d12 (plain_told (by decide +kernel) (by omega)) fun H13 f13 => ?_
      replace hh := hh.to f13 (fun h => h)
      replace F := F.trans f13.any
      walk_at "wq"
      refine w_compR (K := K) (I := I12) (M := No) (m := (ks.length : Int)) (by omega) (by omega) (fun Q q => ?_)
        (CompOk.pure (fun k => .int (m - 1 - (k : Int))) hh.sub (fun b h => h.elim) (small1000 (by omega)) (fun k I5 H5 R hk f5 hR => ?_) (fun I15 H15 E15 vs f15 e1 e2 e3 hv => ?_))
      · walk_at "wq"
        exact q
      · simp only [List.set_cons_zero, List.set_cons_succ]
        walk_at "wq"
        exact hR _ I5 H5 (Lf.refl f5.sub) (.int _)
      have hv2 : DpAll K I15 vs ((lastI m (ks.length)).map PyData.int) := by unfold lastI; rw [List.map_map]; exact hv
      obtain rfl := DpAll.isInts hv2
      replace hh := hh.to f15 (fun h => h)
      replace F := F.trans f15.any
      replace zr := TupZ.up zr f15.ext
      walk_at "wq"
      refine w_tupOfL (K := K) hh.sub (ofL e3) hv2 fun I17 H17 q17 f17 zl dl => ?_
      replace hh := hh.to f17 (fun h => h)
      replace F := F.trans f17.any
      replace zr := TupZ.up zr f17.ext
      walk_at "wq"
      refine ⟨m, _, rfl, by omega, by omega, by omega, by omega, ?_⟩
      rw [show ((ks.length : Nat) : Int).toNat = ks.length from Int.toNat_natCast _]
      walk_at "wq"
      refine ⟨_, 5, _, _, _, _, _, _, _, rfl, hh.sub, .int m, .int (ks.length : Nat), .int (fallI m ks.length - 1), .told5 (by omega) (by omega) (by omega) (by omega) (by rw [Int.toNat_natCast]; omega), fun I11 H11 r11 f11 d11 => ?_⟩
      rw [Int.toNat_natCast, hlast] at d11
      replace hh := hh.to f11 (fun h => h)
      replace F := F.trans f11.any
      replace zr := TupZ.up zr f11.ext
      replace zl := TupZ.up zl f11.ext
      walk_at "wq"
      refine w_newT (K := K) hh.sub (.cons (.str _) (.cons (TupZ.dp zl) .nil)) (by show 2 ≤ sizeLine; decide) fun I12 p12 f12 d12 => ?_
      replace hh := hh.to f12 (fun h => h)
      replace F := F.trans f12.any
      replace zr := TupZ.up zr f12.ext
      replace zl := TupZ.up zl f12.ext
      replace d11 := Dp.up d11 f12.ext
      walk_at "wq"
      refine exactly hh.sub d11 d12 (plain_told (by decide +kernel) (by unfold lastI; rw [List.length_map, List.length_range]; omega)) fun H13 f13 => ?_
      replace hh := hh.to f13 (fun h => h)
      replace F := F.trans f13.any
      walk_at "wq"
      refine ⟨m, _, rfl, by omega, by omega, by omega, by omega, ?_⟩
      rw [show ((ks.length : Nat) : Int).toNat = ks.length from Int.toNat_natCast _]
      walk_at "wq"
      refine ⟨_, 5, _, _, _, _, _, _, _, rfl, hh.sub, .int m, .int (ks.length : Nat), .int (fallI m ks.length), .place5 (by omega) (by omega) (by omega) (by rw [Int.toNat_natCast]; simp [wholeB, geB, leB]; omega), fun I11 H11 r11 f11 d11 => ?_⟩
      skip
      replace hh := hh.to f11 (fun h => h)
      replace F := F.trans f11.any
      replace zr := TupZ.up zr f11.ext
      replace zl := TupZ.up zl f11.ext
      walk_at "wq"
      refine w_newT (K := K) hh.sub (.cons (.str _) .nil) (by show 1 ≤ sizeLine; decide) fun I12 p12 f12 d12 => ?_
      replace hh := hh.to f12 (fun h => h)
      replace F := F.trans f12.any
      replace zr := TupZ.up zr f12.ext
      replace zl := TupZ.up zl f12.ext
      replace d11 := Dp.up d11 f12.ext
      walk_at "wq"
      refine exactly hh.sub d11 d12 plain_place fun H13 f13 => ?_
      replace hh := hh.to f13 (fun h => h)
      replace F := F.trans f13.any
      walk_at "wq"
      refine ⟨_, 5, _, _, _, _, _, _, _, rfl, hh.sub, .int m, .int (ks.length : Nat), .int (-1), .place5 (by omega) (by omega) (by omega) (by simp [wholeB, geB, leB]), fun I11 H11 r11 f11 d11 => ?_⟩
      skip
      replace hh := hh.to f11 (fun h => h)
      replace F := F.trans f11.any
      replace zr := TupZ.up zr f11.ext
      replace zl := TupZ.up zl f11.ext
      walk_at "wq"
      refine w_newT (K := K) hh.sub (.cons (.str _) .nil) (by show 1 ≤ sizeLine; decide) fun I12 p12 f12 d12 => ?_
      replace hh := hh.to f12 (fun h => h)
      replace F := F.trans f12.any
      replace zr := TupZ.up zr f12.ext
      replace zl := TupZ.up zl f12.ext
      replace d11 := Dp.up d11 f12.ext
      walk_at "wq"
      refine exactly hh.sub d11 d12 plain_place fun H13 f13 => ?_
      replace hh := hh.to f13 (fun h => h)
      replace F := F.trans f13.any
      walk_at "wq"
      refine w_lcIter ?_
      walk_at "wq"
      refine w_compR (K := K) (I := I12) (M := No) (m := m + 1) (by omega) (by omega) (fun Q q => q)
        (CompOk.pure (fun k => .int (fallI m k)) hh.sub (fun b h => h.elim) (small1000 (by omega)) (fun k I5 H5 R hk f5 hR => ?_) (fun I16 H16 E16 vs f16 e1 e2 e3 hv => ?_))
      · simp only [List.set_cons_zero, List.set_cons_succ]
        walk_at "wq"
        refine ⟨m, (k : Nat), rfl, by omega, by omega, by omega, by omega, ?_⟩
        exact hR _ I5 H5 (Lf.refl f5.sub) (by rw [Int.toNat_natCast]; exact .int _)
      rw [show (m + 1).toNat = m.toNat + 1 by omega] at hv
      have hv3 : DpAll K I16 vs (((List.range (m.toNat + 1)).map fun d => fallI m d).map PyData.int) := by rw [List.map_map]; exact hv
      obtain rfl := DpAll.isInts hv3
      replace hh := hh.to f16 (fun h => h)
      replace F := F.trans f16.any
      replace zr := TupZ.up zr f16.ext
      replace zl := TupZ.up zl f16.ext
      walk_at "wq"
      refine w_sum (ofL e3) ?_
      rw [show ((List.range (m.toNat + 1)).map fun (d : Nat) => fallI m d).sum = allI m from rfl]
      walk_at "wq"
      rw [show allI m - 1 = sumFall m m.toNat + (fallI m m.toNat - 1) by omega]
      refine ⟨_, 6, _, _, _, _, _, _, _, rfl, hh.sub, .int m, .int (sumFall m m.toNat + (fallI m m.toNat - 1)), .int 0, .told6 (k := m.toNat) (by omega) (by omega) (by omega) (by omega), fun I11 H11 r11 f11 d11 => ?_⟩
      rw [hlastm] at d11
      replace hh := hh.to f11 (fun h => h)
      replace F := F.trans f11.any
      replace zr := TupZ.up zr f11.ext
      replace zl := TupZ.up zl f11.ext
      walk_at "wq"
      refine w_compR (K := K) (I := I11) (M := No) (m := m) (by omega) (by omega) (fun Q q => ?_)
        (CompOk.pure (fun k => .int (m - 1 - (k : Int))) hh.sub (fun b h => h.elim) (small1000 (by omega)) (fun k I5 H5 R hk f5 hR => ?_) (fun I15 H15 E15 vs f15 e1 e2 e3 hv => ?_))
      · walk_at "wq"
        exact q
      · simp only [List.set_cons_zero, List.set_cons_succ]
        walk_at "wq"
        exact hR _ I5 H5 (Lf.refl f5.sub) (.int _)
      replace d11 := Dp.up d11 f15.ext
      have hv2 : DpAll K I15 vs ((lastI m (m.toNat)).map PyData.int) := by unfold lastI; rw [List.map_map]; exact hv
      obtain rfl := DpAll.isInts hv2
      replace hh := hh.to f15 (fun h => h)
      replace F := F.trans f15.any
      replace zr := TupZ.up zr f15.ext
      walk_at "wq"
      refine w_tupOfL (K := K) hh.sub (ofL e3) hv2 fun I17 H17 q17 f17 zl dl => ?_
      replace hh := hh.to f17 (fun h => h)
      replace F := F.trans f17.any
      replace zr := TupZ.up zr f17.ext
      walk_at "wq"
      replace d11 := Dp.up d11 f17.ext
      refine w_newT (K := K) hh.sub (.cons (.str _) (.cons (TupZ.dp zl) .nil)) (by show 2 ≤ sizeLine; decide) fun I12 p12 f12 d12 => ?_
      replace hh := hh.to f12 (fun h => h)
      replace F := F.trans f12.any
      replace zr := TupZ.up zr f12.ext
      replace zl := TupZ.up zl f12.ext
      replace d11 := Dp.up d11 f12.ext
      walk_at "wq"
      refine exactly hh.sub d11 d12 (plain_told (by decide +kernel) (by unfold lastI; rw [List.length_map, List.length_range]; omega)) fun H13 f13 => ?_
      replace hh := hh.to f13 (fun h => h)
      replace F := F.trans f13.any
      walk_at "wq"
      refine ⟨_, 8, _, _, _, _, _, _, _, rfl, hh.sub, .int m, .int 0, .int 0, .told8 (by omega) (by omega), fun I11 H11 r11 f11 d11 => ?_⟩
      skip
      replace hh := hh.to f11 (fun h => h)
      replace F := F.trans f11.any
      replace zr := TupZ.up zr f11.ext
      replace zl := TupZ.up zl f11.ext
      walk_at "wq"
      refine w_newT (K := K) hh.sub (.cons (.str _) (.cons (.int _) .nil)) (by show 2 ≤ sizeLine; decide) fun I12 p12 f12 d12 => ?_
      replace hh := hh.to f12 (fun h => h)
      replace F := F.trans f12.any
      replace zr := TupZ.up zr f12.ext
      replace zl := TupZ.up zl f12.ext
      replace d11 := Dp.up d11 f12.ext
      walk_at "wq"
      refine exactly hh.sub d11 d12 (plain_pair (by decide +kernel)) fun H13 f13 => ?_
      replace hh := hh.to f13 (fun h => h)
      replace F := F.trans f13.any
      walk_at "wq"
      refine ⟨_, 6, _, _, _, _, _, _, _, rfl, hh.sub, .int m, .int (allI m), .int 0, .place6 (by omega) (by omega) (by simp [wholeB, geB, leB]; omega), fun I11 H11 r11 f11 d11 => ?_⟩
      skip
      replace hh := hh.to f11 (fun h => h)
      replace F := F.trans f11.any
      replace zr := TupZ.up zr f11.ext
      replace zl := TupZ.up zl f11.ext
      walk_at "wq"
      refine w_newT (K := K) hh.sub (.cons (.str _) .nil) (by show 1 ≤ sizeLine; decide) fun I12 p12 f12 d12 => ?_
      replace hh := hh.to f12 (fun h => h)
      replace F := F.trans f12.any
      replace zr := TupZ.up zr f12.ext
      replace zl := TupZ.up zl f12.ext
      replace d11 := Dp.up d11 f12.ext
      walk_at "wq"
      refine exactly hh.sub d11 d12 plain_place fun H13 f13 => ?_
      replace hh := hh.to f13 (fun h => h)
      replace F := F.trans f13.any
      walk_at "wq"
      refine ⟨_, hd, 25, rfl, hh, by omega, by omega, fun H18 ab f18 hh18 ab0 ab1 => ?_⟩
      replace hh := hh18
      replace F := F.trans f18
      replace zr := TupZ.up zr f18.ext
      replace zl := TupZ.up zl f18.ext
      walk_at "wq"
      refine w_if (fun c => ?_) (fun c => ?_)
      · walk_at "wq"
        refine ⟨m, ab, rfl, by omega, by omega, by omega, by omega, ?_⟩
        walk_at "wq"
        refine ⟨_, 7, _, _, _, _, _, _, _, rfl, hh.sub, .int m, .int ab, .int 0, .told7 m0 (by omega) ab0 (by omega), fun I11 H11 r11 f11 d11 => ?_⟩
        rw [if_pos c] at d11
        replace hh := hh.to f11 (fun h => h)
        replace F := F.trans f11.any
        replace zr := TupZ.up zr f11.ext
        replace zl := TupZ.up zl f11.ext
        walk_at "wq"
        refine w_newT (K := K) hh.sub (.cons (.str _) (.cons (.int _) .nil)) (by show 2 ≤ sizeLine; decide) fun I12 p12 f12 d12 => ?_
        replace hh := hh.to f12 (fun h => h)
        replace F := F.trans f12.any
        replace zr := TupZ.up zr f12.ext
        replace zl := TupZ.up zl f12.ext
        replace d11 := Dp.up d11 f12.ext
        walk_at "wq"
        refine exactly hh.sub d11 d12 (plain_pair (by decide +kernel)) fun H13 f13 => ?_
        replace hh := hh.to f13 (fun h => h)
        replace F := F.trans f13.any
        walk_at "wq"
        refine ⟨_, hd, allI m, rfl, hh, by omega, fun I19 H19 v19 e19 f19 hh19 d19 w19 => ?_⟩
        replace hh := hh19
        replace F := F.trans f19
        replace zr := TupZ.up zr f19.ext
        walk_at "wq"
        refine ⟨_, 6, _, _, _, _, _, _, _, rfl, hh.sub, .int m, d19, .int 0, .place6 m0 (by omega) (whole_less w19), fun I11 H11 r11 f11 d11 => ?_⟩
        replace hh := hh.to f11 (fun h => h)
        replace F := F.trans f11.any
        walk_at "wq"
        refine w_newT (K := K) hh.sub (.cons (.str _) .nil) (by show 1 ≤ sizeLine; decide) fun I12 p12 f12 d12 => ?_
        replace hh := hh.to f12 (fun h => h)
        replace F := F.trans f12.any
        replace d11 := Dp.up d11 f12.ext
        walk_at "wq"
        refine exactly hh.sub d11 d12 plain_place fun H13 f13 => ?_
        replace hh := hh.to f13 (fun h => h)
        replace F := F.trans f13.any
        exact q _ _ F hh
      · walk_at "wq"
        refine ⟨_, 7, _, _, _, _, _, _, _, rfl, hh.sub, .int m, .int ab, .int 0, .told7 m0 (by omega) ab0 (by omega), fun I11 H11 r11 f11 d11 => ?_⟩
        rw [if_neg c] at d11
        replace hh := hh.to f11 (fun h => h)
        replace F := F.trans f11.any
        replace zr := TupZ.up zr f11.ext
        replace zl := TupZ.up zl f11.ext
        walk_at "wq"
        refine w_newT (K := K) hh.sub (.cons (.str _) (.cons (.int _) .nil)) (by show 2 ≤ sizeLine; decide) fun I12 p12 f12 d12 => ?_
        replace hh := hh.to f12 (fun h => h)
        replace F := F.trans f12.any
        replace zr := TupZ.up zr f12.ext
        replace zl := TupZ.up zl f12.ext
        replace d11 := Dp.up d11 f12.ext
        walk_at "wq"
        refine exactly hh.sub d11 d12 (plain_pair (by decide +kernel)) fun H13 f13 => ?_
        replace hh := hh.to f13 (fun h => h)
        replace F := F.trans f13.any
        walk_at "wq"
        refine ⟨_, hd, allI m, rfl, hh, by omega, fun I19 H19 v19 e19 f19 hh19 d19 w19 => ?_⟩
        replace hh := hh19
        replace F := F.trans f19
        replace zr := TupZ.up zr f19.ext
        walk_at "wq"
        refine ⟨_, 6, _, _, _, _, _, _, _, rfl, hh.sub, .int m, d19, .int 0, .place6 m0 (by omega) (whole_less w19), fun I11 H11 r11 f11 d11 => ?_⟩
        replace hh := hh.to f11 (fun h => h)
        replace F := F.trans f11.any
        walk_at "wq"
        refine w_newT (K := K) hh.sub (.cons (.str _) .nil) (by show 1 ≤ sizeLine; decide) fun I12 p12 f12 d12 => ?_
        replace hh := hh.to f12 (fun h => h)
        replace F := F.trans f12.any
        replace d11 := Dp.up d11 f12.ext
        walk_at "wq"
        refine exactly hh.sub d11 d12 plain_place fun H13 f13 => ?_
        replace hh := hh.to f13 (fun h => h)
        replace F := F.trans f13.any
        exact q _ _ F hh
end
section
variable {P : Program} {w : World} {K : PySem.W.Frag} {mg : Str → Option Value} {base : Heap} {a : Adr}
theorem ok_law_refused (T : Top K mg a) : FnOk P w K mg base CX0 9 a.f_law_refused a.d_law_refused ["_law_hand_here"] (spTrue K) := by
  refine T.F_law_refused.ok sc_law_refused (fun vs H Q E h => ?_) (fun cdv A outer s H vs Q E hr h => ?_)
  · obtain ⟨I, hd, rfl, _⟩ := h
    rfl
  · obtain ⟨I, hd, rfl, hh, q⟩ := h
    refine ⟨_, (pss_cons (ps_set (i := 1) sc_law_refused.nd rfl (Or.inl rfl) (pe_op op_add pe_int (pe_call (ok_law_draw T) (hr.mono (by decide)) (by rfl) T.g_law_draw T.F_law_draw.kp T.b_law_draw .nil pass0 (pa_cons (pv 0) (pa_cons pe_int pa_nil))))) (pss_cons (ps_set (i := 2) sc_law_refused.nd rfl (Or.inl rfl) (pe_call (ok_law_some_row T) (hr.mono (by decide)) (by rfl) T.g_law_some_row T.F_law_some_row.kp T.b_law_some_row .nil pass0 (pa_cons (pv 0) (pa_cons (pv 1) (pa_cons (pe_call (ok_law_draw T) (hr.mono (by decide)) (by rfl) T.g_law_draw T.F_law_draw.kp T.b_law_draw .nil pass0 (pa_cons (pv 0) (pa_cons (pe_op op_add (pv 1) pe_int) pa_nil))) pa_nil))))) (pss_cons (ps_asg (pe_call (ok_law_spoilt_row T) (hr.mono (by decide)) (by rfl) T.g_law_spoilt_row T.F_law_spoilt_row.kp T.b_law_spoilt_row .nil pass0 (pa_cons (pv 0) (pa_cons (pv 1) (pa_cons (pv 2) pa_nil)))) (pg_tup rfl (pgs_cons (pg_name (i := 3) sc_law_refused.nd rfl (Or.inl rfl)) (pgs_cons (pg_name (i := 4) sc_law_refused.nd rfl (Or.inl rfl)) pgs_nil)))) (pss_cons (ps_for PassesOwn.never rfl (pi_range2 (by rfl) T.n_range (pa_cons pe_int (pa_cons pe_int pa_nil))) (pg_name (i := 5) sc_law_refused.nd rfl (Or.inl rfl)) (pss_cons (ps_if (PW.pt (pw_or (pt_not (pt_val (pe_call (ok_law_exact T) (hr.mono (by decide)) (by rfl) T.g_law_exact T.F_law_exact.kp T.b_law_exact .nil pass0 (pa_cons (pe_call (ok_law_asked T) (hr.mono (by decide)) (by rfl) T.g_law_asked T.F_law_asked.kp T.b_law_asked .nil pass0 (pa_cons (pv 5) (pa_cons (pv 1) (pa_cons (pv 3) (pa_cons pe_int pa_nil))))) (pa_cons (pe_tup (pa_cons pe_str (pa_cons (pv 4) pa_nil))) pa_nil))))) (pw_or1 (pt_not (pt_val (pe_call (ok_law_exact T) (hr.mono (by decide)) (by rfl) T.g_law_exact T.F_law_exact.kp T.b_law_exact .nil pass0 (pa_cons (pe_ix (ix_K (K := K) rfl) (pe_call (ok_law_asked T) (hr.mono (by decide)) (by rfl) T.g_law_asked T.F_law_asked.kp T.b_law_asked .nil pass0 (pa_cons (pv 5) (pa_cons (pv 1) (pa_cons (pv 2) (pa_cons pe_int pa_nil))))) pe_int (fun _ _ => rfl)) (pa_cons pe_str pa_nil)))))))) (pss_one (ps_ret pe_bl)) pss_nil) (pss_one (ps_if (pt_not (pt_val (pe_call (ok_law_exact T) (hr.mono (by decide)) (by rfl) T.g_law_exact T.F_law_exact.kp T.b_law_exact .nil pass0 (pa_cons (pe_call (ok_law_asked T) (hr.mono (by decide)) (by rfl) T.g_law_asked T.F_law_asked.kp T.b_law_asked .nil pass0 (pa_cons (pv 5) (pa_cons (pe_call (ok_law_no_count T) (hr.mono (by decide)) (by rfl) T.g_law_no_count T.F_law_no_count.kp T.b_law_no_count .nil pass0 (pa_cons (pv 0) (pa_cons pe_int pa_nil))) (pa_cons (pv 3) (pa_cons pe_int pa_nil))))) (pa_cons (pe_tup (pa_cons pe_str (pa_cons pe_int pa_nil))) pa_nil))))) (pss_one (ps_ret pe_bl)) pss_nil)))) (pss_cons (ps_set (i := 6) sc_law_refused.nd rfl (Or.inl rfl) (pe_call (ok_law_no_count T) (hr.mono (by decide)) (by rfl) T.g_law_no_count T.F_law_no_count.kp T.b_law_no_count .nil pass0 (pa_cons (pv 0) (pa_cons pe_int pa_nil)))) (pss_cons (ps_for PassesOwn.never rfl (pi_seqK (K := K) rfl (pe_tup (pa_cons pe_int (pa_cons pe_int (pa_cons pe_int (pa_cons pe_int (pa_cons pe_int pa_nil))))))) (pg_name (i := 5) sc_law_refused.nd rfl (Or.inl rfl)) (pss_one (ps_if (pt_not (pt_val (pe_call (ok_law_exact T) (hr.mono (by decide)) (by rfl) T.g_law_exact T.F_law_exact.kp T.b_law_exact .nil pass0 (pa_cons (pe_call (ok_law_asked T) (hr.mono (by decide)) (by rfl) T.g_law_asked T.F_law_asked.kp T.b_law_asked .nil pass0 (pa_cons (pv 5) (pa_cons (pv 6) (pa_cons (pe_un un_neg pe_int) (pa_cons (pe_un un_neg pe_int) pa_nil))))) (pa_cons (pe_tup (pa_cons pe_str (pa_cons pe_int pa_nil))) pa_nil))))) (pss_one (ps_ret pe_bl)) pss_nil))) (pss_cons (ps_if (pt_not (pt_val (pe_call (ok_law_exact T) (hr.mono (by decide)) (by rfl) T.g_law_exact T.F_law_exact.kp T.b_law_exact .nil pass0 (pa_cons (pe_call (ok_law_asked T) (hr.mono (by decide)) (by rfl) T.g_law_asked T.F_law_asked.kp T.b_law_asked .nil pass0 (pa_cons pe_int (pa_cons (pv 1) (pa_cons (pe_call (ok_law_no_count T) (hr.mono (by decide)) (by rfl) T.g_law_no_count T.F_law_no_count.kp T.b_law_no_count .nil pass0 (pa_cons (pv 0) (pa_cons (pv 1) pa_nil))) (pa_cons (pe_un un_neg pe_int) pa_nil))))) (pa_cons (pe_tup (pa_cons pe_str (pa_cons (pv 1) pa_nil))) pa_nil))))) (pss_one (ps_ret pe_bl)) pss_nil) (pss_cons (ps_if (pt_not (pt_val (pe_call (ok_law_exact T) (hr.mono (by decide)) (by rfl) T.g_law_exact T.F_law_exact.kp T.b_law_exact .nil pass0 (pa_cons (pe_call (ok_law_asked T) (hr.mono (by decide)) (by rfl) T.g_law_asked T.F_law_asked.kp T.b_law_asked .nil pass0 (pa_cons pe_int (pa_cons (pv 1) (pa_cons (pe_call (ok_law_no_count T) (hr.mono (by decide)) (by rfl) T.g_law_no_count T.F_law_no_count.kp T.b_law_no_count .nil pass0 (pa_cons (pv 0) (pa_cons pe_int pa_nil))) (pa_cons pe_int pa_nil))))) (pa_cons (pe_tup (pa_cons pe_str (pa_cons pe_int pa_nil))) pa_nil))))) (pss_one (ps_ret pe_bl)) pss_nil) (pss_cons (ps_if (pt_not (pt_val (pe_call (ok_law_exact T) (hr.mono (by decide)) (by rfl) T.g_law_exact T.F_law_exact.kp T.b_law_exact .nil pass0 (pa_cons (pe_call (ok_law_asked T) (hr.mono (by decide)) (by rfl) T.g_law_asked T.F_law_asked.kp T.b_law_asked .nil pass0 (pa_cons pe_int (pa_cons (pe_call (ok_law_no_count T) (hr.mono (by decide)) (by rfl) T.g_law_no_count T.F_law_no_count.kp T.b_law_no_count .nil pass0 (pa_cons (pv 0) (pa_cons pe_int pa_nil))) (pa_cons pe_int (pa_cons pe_int pa_nil))))) (pa_cons (pe_tup (pa_cons pe_str (pa_cons pe_int pa_nil))) pa_nil))))) (pss_one (ps_ret pe_bl)) pss_nil) (pss_cons (ps_set (i := 7) sc_law_refused.nd rfl (Or.inl rfl) (pe_op op_add pe_int (pe_call (ok_law_draw T) (hr.mono (by decide)) (by rfl) T.g_law_draw T.F_law_draw.kp T.b_law_draw .nil pass0 (pa_cons (pv 0) (pa_cons pe_int pa_nil))))) (pss_cons (ps_if (PW.pt (pw_or (pt_not (pt_val (pe_call (ok_law_exact T) (hr.mono (by decide)) (by rfl) T.g_law_exact T.F_law_exact.kp T.b_law_exact .nil pass0 (pa_cons (pe_call (ok_law_asked T) (hr.mono (by decide)) (by rfl) T.g_law_asked T.F_law_asked.kp T.b_law_asked .nil pass0 (pa_cons pe_int (pa_cons (pv 7) (pa_cons (pv 7) (pa_cons pe_int pa_nil))))) (pa_cons (pe_tup (pa_cons pe_str (pa_cons (pv 7) pa_nil))) pa_nil))))) (pw_or1 (pt_not (pt_val (pe_call (ok_law_exact T) (hr.mono (by decide)) (by rfl) T.g_law_exact T.F_law_exact.kp T.b_law_exact .nil pass0 (pa_cons (pe_call (ok_law_asked T) (hr.mono (by decide)) (by rfl) T.g_law_asked T.F_law_asked.kp T.b_law_asked .nil pass0 (pa_cons pe_int (pa_cons (pv 1) (pa_cons pe_int (pa_cons pe_int pa_nil))))) (pa_cons (pe_tup (pa_cons pe_str (pa_cons (pv 1) pa_nil))) pa_nil)))))))) (pss_one (ps_ret pe_bl)) pss_nil) (pss_one (ps_ret (pe_call (ok_law_exact T) (hr.mono (by decide)) (by rfl) T.g_law_exact T.F_law_exact.kp T.b_law_exact .nil pass0 (pa_cons (pe_call (ok_law_asked T) (hr.mono (by decide)) (by rfl) T.g_law_asked T.F_law_asked.kp T.b_law_asked .nil pass0 (pa_cons pe_int (pa_cons (pe_call (ok_law_no_count T) (hr.mono (by decide)) (by rfl) T.g_law_no_count T.F_law_no_count.kp T.b_law_no_count .nil pass0 (pa_cons (pv 0) (pa_cons (pv 7) pa_nil))) (pa_cons (pv 7) (pa_cons pe_int pa_nil))))) (pa_cons (pe_tup (pa_cons pe_str (pa_cons (pv 7) pa_nil))) pa_nil)))))))))))))))), ?_⟩
    walk_at "st"
    walk_at "wq"
    have F : Lf (· = hd) I H I H := Lf.refl hh.sub
    refine ⟨I, hd, 24, rfl, hh, by omega, by omega, fun H1 m' f1 hh1 m0' m1' => ?_⟩
    replace hh := hh1
    replace F := F.trans f1
    walk_at "wq"
    obtain ⟨m, em⟩ : ∃ m : Int, 1 + m' = m := ⟨_, rfl⟩
    rw [em]
    have m0 : 1 ≤ m := by omega
    have m1 : m ≤ 24 := by omega
    refine ⟨I, hd, m + 1, rfl, hh, by omega, by omega, fun H2 n f2 hh2 n0 n1 => ?_⟩
    replace hh := hh2
    replace F := F.trans f2
    walk_at "wq"
    refine ⟨I, hd, m, n, rfl, hh, n0, by omega, by omega, fun I3 H3 rp ks f3 hh3 zr hnd hkl hkin => ?_⟩
    replace hh := hh3
    replace F := F.trans f3
    walk_at "wq"
    refine ⟨_, hd, _, m, ks, rfl, hh, TupZ.dp zr, m0, m1, hnd, hkin, by omega, fun I4 H4 r4 bd n4 f4 hh4 d4 hb => ?_⟩
    replace hh := hh4
    replace F := F.trans f4
    replace zr := TupZ.up zr f4.ext
    obtain ⟨p4, xs4, rfl, s4, a4⟩ := Dp.tupRef d4
    obtain ⟨vb, rfl, db⟩ : ∃ vb, xs4 = [vb, .int n4] ∧ Dp K I4 vb bd := by
      cases a4 with
      | cons h1 h2 =>
        cases h2 with
        | cons h3 h4 =>
          cases h4
          cases h3
          exact ⟨_, rfl, h1⟩
    refine w_gpairS (Same.seqT hh.sub s4) ?_
    simp only [List.set_cons_zero, List.set_cons_succ]
    walk_at "wq"
    have hs : SeqD (tupI ks) ks := .inl rfl
    refine w_forR2 (m := 2) (n := 5) (by omega) (by omega) (by omega) (by omega) (fun i σ H' => ∃ (I' : Hp) (y : Option V), σ = [some (V.ref hd), some (V.int m), some (V.ref rp), some vb, some (V.int n4), y, none, none] ∧
      Lf (· = hd) I H I' H' ∧ Hand K I' H' hd ∧ Same I4 I') (fun Q q => ?_) ⟨I4, none, rfl, F, hh, Same.refl _⟩ (fun i σ H' hi h => ?_) (fun σ H' h => ?_)
    · walk_at "wq"
      exact q
    · clear F hh
      obtain ⟨I', y, rfl, F, hh, S⟩ := h
      replace db := Dp.up db S
      replace zr := TupZ.up zr S
      have hw : (2 + (i : Int)) = 2 ∨ (2 + (i : Int)) = 3 ∨ (2 + (i : Int)) = 4 := by omega
      obtain ⟨wi, ewi⟩ : ∃ wi : Int, 2 + (i : Int) = wi := ⟨_, rfl⟩
      rw [ewi] at hw ⊢
      refine w_name ?_
      simp only [List.set_cons_zero, List.set_cons_succ]
      walk_at "wq"
      refine ⟨_, wi, _, _, _, _, _, _, _, rfl, hh.sub, .int m, db, .int 0, .row hw (by omega) (by omega) hb, fun I11 H11 r11 f11 d11 => ?_⟩
      replace hh := hh.to f11 (fun h => h)
      replace F := F.trans f11.any
      replace zr := TupZ.up zr f11.ext
      replace db := Dp.up db f11.ext
      walk_at "wq"
      replace S := S.trans f11.ext
      refine w_newT (K := K) hh.sub (.cons (.str _) (.cons (.int _) .nil)) (by show 2 ≤ sizeLine; decide) fun I12 p12 f12 d12 => ?_
      replace hh := hh.to f12 (fun h => h)
      replace F := F.trans f12.any
      replace d11 := Dp.up d11 f12.ext
      replace zr := TupZ.up zr f12.ext
      replace db := Dp.up db f12.ext
      walk_at "wq"
      refine exactly hh.sub d11 d12 (plain_pair (by decide +kernel)) fun H13 f13 => ?_
      replace hh := hh.to f13 (fun h => h)
      replace F := F.trans f13.any
      walk_at "wq"
      replace S := S.trans f12.ext
      refine ⟨_, wi, _, _, _, _, _, _, _, rfl, hh.sub, .int m, TupZ.dp zr, .int 0, .toldRow hw (by omega) (by omega) hs hnd hkin, fun I11 H11 r11 f11 d11 => ?_⟩
      replace hh := hh.to f11 (fun h => h)
      replace F := F.trans f11.any
      replace zr := TupZ.up zr f11.ext
      replace db := Dp.up db f11.ext
      walk_at "wq"
      replace S := S.trans f11.ext
      refine w_ixD hh.sub (.inl d11) (by omega) (d := .str "told") rfl fun v13 d13 => ?_
      walk_at "wq"
      refine exactly hh.sub d13 (.str _) (by decide +kernel : SeqAt.shaped (.str "told") = true) fun H13 f13 => ?_
      replace hh := hh.to f13 (fun h => h)
      replace F := F.trans f13.any
      walk_at "wq"
      refine ⟨_, hd, 24, rfl, hh, by omega, fun I19 H19 v19 e19 f19 hh19 d19 w19 => ?_⟩
      replace hh := hh19
      replace F := F.trans f19
      replace zr := TupZ.up zr f19.ext
      replace db := Dp.up db f19.ext
      walk_at "wq"
      replace S := S.trans f19.ext
      refine ⟨_, wi, _, _, _, _, _, _, _, rfl, hh.sub, d19, db, .int 0, .count (by omega) w19, fun I11 H11 r11 f11 d11 => ?_⟩
      replace hh := hh.to f11 (fun h => h)
      replace F := F.trans f11.any
      replace zr := TupZ.up zr f11.ext
      replace db := Dp.up db f11.ext
      walk_at "wq"
      replace S := S.trans f11.ext
      refine w_newT (K := K) hh.sub (.cons (.str _) (.cons (.int _) .nil)) (by show 2 ≤ sizeLine; decide) fun I12 p12 f12 d12 => ?_
      replace hh := hh.to f12 (fun h => h)
      replace F := F.trans f12.any
      replace d11 := Dp.up d11 f12.ext
      replace zr := TupZ.up zr f12.ext
      replace db := Dp.up db f12.ext
      walk_at "wq"
      refine exactly hh.sub d11 d12 (plain_pair (by decide +kernel)) fun H13 f13 => ?_
      replace hh := hh.to f13 (fun h => h)
      replace F := F.trans f13.any
      walk_at "wq"
      replace S := S.trans f12.ext
      exact ⟨_, _, rfl, F, hh, S⟩
    · clear F hh
      obtain ⟨I', y, rfl, F, hh, S⟩ := h
      replace db := Dp.up db S
      replace zr := TupZ.up zr S
      walk_at "wq"
      refine ⟨_, hd, 24, rfl, hh, by omega, fun I19 H19 v19 e19 f19 hh19 d19 w19 => ?_⟩
      replace hh := hh19
      replace F := F.trans f19
      replace zr := TupZ.up zr f19.ext
      replace db := Dp.up db f19.ext
      walk_at "wq"
      refine w_forIterT ?_
      walk_at "wq"
      refine w_putT (K := K) hh.sub (by show 5 ≤ sizeLine; decide) fun I20 p20 f20 t20 => ?_
      replace hh := hh.to f20 (fun h => h)
      replace F := F.trans f20.any
      replace zr := TupZ.up zr f20.ext
      replace db := Dp.up db f20.ext
      replace d19 := Dp.up d19 f20.ext
      refine w_forT0 (K := K) (Same.seqT hh.sub t20) (fun i σ H' => ∃ (I' : Hp) (y : Option V), σ = [some (V.ref hd), some (V.int m), some (V.ref rp), some vb, some (V.int n4), y, some v19, none] ∧
        Lf (· = hd) I H I' H' ∧ Hand K I' H' hd ∧ Same I20 I') ⟨I20, _, rfl, F, hh, Same.refl _⟩ (fun i σ H' _ h => ?_) (fun i x σ H' hi h => ?_) (fun σ H' h => ?_)
      · obtain ⟨I', y, rfl, F, hh, S⟩ := h
        exact Same.seqT (S.trans hh.sub) t20
      · clear F hh
        obtain ⟨I', y, rfl, F, hh, S⟩ := h
        replace d19 := Dp.up d19 S
        replace db := Dp.up db S
        replace zr := TupZ.up zr S
        obtain ⟨wi, rfl, hw⟩ : ∃ wi : Int, x = .int wi ∧ (wi = 0 ∨ wi = 2 ∨ wi = 3 ∨ wi = 4 ∨ wi = 5 ∨ wi = 6 ∨ wi = 7 ∨ wi = 8) := by
          rcases i with _|_|_|_|_|i
          · cases hi; exact ⟨0, rfl, by omega⟩
          · cases hi; exact ⟨5, rfl, by omega⟩
          · cases hi; exact ⟨6, rfl, by omega⟩
          · cases hi; exact ⟨7, rfl, by omega⟩
          · cases hi; exact ⟨8, rfl, by omega⟩
          · simp at hi
        refine w_name ?_
        simp only [List.set_cons_zero, List.set_cons_succ]
        walk_at "wq"
        refine ⟨_, wi, _, _, _, _, _, _, _, rfl, hh.sub, d19, .int (-1), .int (-1), .count hw w19, fun I11 H11 r11 f11 d11 => ?_⟩
        replace hh := hh.to f11 (fun h => h)
        replace F := F.trans f11.any
        replace zr := TupZ.up zr f11.ext
        replace db := Dp.up db f11.ext
        walk_at "wq"
        replace S := S.trans f11.ext
        refine w_newT (K := K) hh.sub (.cons (.str _) (.cons (.int _) .nil)) (by show 2 ≤ sizeLine; decide) fun I12 p12 f12 d12 => ?_
        replace hh := hh.to f12 (fun h => h)
        replace F := F.trans f12.any
        replace d11 := Dp.up d11 f12.ext
        replace zr := TupZ.up zr f12.ext
        replace db := Dp.up db f12.ext
        walk_at "wq"
        refine exactly hh.sub d11 d12 (plain_pair (by decide +kernel)) fun H13 f13 => ?_
        replace hh := hh.to f13 (fun h => h)
        replace F := F.trans f13.any
        walk_at "wq"
        replace S := S.trans f12.ext
        exact ⟨_, _, rfl, F, hh, S⟩
      · clear F hh
        obtain ⟨I', y, rfl, F, hh, S⟩ := h
        replace db := Dp.up db S
        replace zr := TupZ.up zr S
        walk_at "wq"
        refine ⟨_, hd, m, rfl, hh, by omega, fun I19 H19 v19 e19 f19 hh19 d19 w19 => ?_⟩
        replace hh := hh19
        replace F := F.trans f19
        replace zr := TupZ.up zr f19.ext
        replace db := Dp.up db f19.ext
        walk_at "wq"
        refine ⟨_, 5, _, _, _, _, _, _, _, rfl, hh.sub, .int m, d19, .int (-1), .count5 (by omega) (by omega) w19, fun I11 H11 r11 f11 d11 => ?_⟩
        replace hh := hh.to f11 (fun h => h)
        replace F := F.trans f11.any
        replace zr := TupZ.up zr f11.ext
        replace db := Dp.up db f11.ext
        walk_at "wq"
        refine w_newT (K := K) hh.sub (.cons (.str _) (.cons (.int _) .nil)) (by show 2 ≤ sizeLine; decide) fun I12 p12 f12 d12 => ?_
        replace hh := hh.to f12 (fun h => h)
        replace F := F.trans f12.any
        replace d11 := Dp.up d11 f12.ext
        replace zr := TupZ.up zr f12.ext
        replace db := Dp.up db f12.ext
        walk_at "wq"
        refine exactly hh.sub d11 d12 (plain_pair (by decide +kernel)) fun H13 f13 => ?_
        replace hh := hh.to f13 (fun h => h)
        replace F := F.trans f13.any
        walk_at "wq"
        refine ⟨_, hd, 24, rfl, hh, by omega, fun I19 H19 v19 e19 f19 hh19 d19 w19 => ?_⟩
        replace hh := hh19
        replace F := F.trans f19
        replace zr := TupZ.up zr f19.ext
        replace db := Dp.up db f19.ext
        walk_at "wq"
        refine ⟨_, 7, _, _, _, _, _, _, _, rfl, hh.sub, .int m, d19, .int 0, .count7 (by omega) (by omega) w19, fun I11 H11 r11 f11 d11 => ?_⟩
        replace hh := hh.to f11 (fun h => h)
        replace F := F.trans f11.any
        replace zr := TupZ.up zr f11.ext
        replace db := Dp.up db f11.ext
        walk_at "wq"
        refine w_newT (K := K) hh.sub (.cons (.str _) (.cons (.int _) .nil)) (by show 2 ≤ sizeLine; decide) fun I12 p12 f12 d12 => ?_
        replace hh := hh.to f12 (fun h => h)
        replace F := F.trans f12.any
        replace d11 := Dp.up d11 f12.ext
        replace zr := TupZ.up zr f12.ext
        replace db := Dp.up db f12.ext
        walk_at "wq"
        refine exactly hh.sub d11 d12 (plain_pair (by decide +kernel)) fun H13 f13 => ?_
        replace hh := hh.to f13 (fun h => h)
        replace F := F.trans f13.any
        walk_at "wq"
        refine ⟨_, hd, 6, rfl, hh, by omega, fun I19 H19 v19 e19 f19 hh19 d19 w19 => ?_⟩
        replace hh := hh19
        replace F := F.trans f19
        replace zr := TupZ.up zr f19.ext
        replace db := Dp.up db f19.ext
        walk_at "wq"
        refine ⟨_, 9, _, _, _, _, _, _, _, rfl, hh.sub, d19, .int 0, .int 0, .count9 w19, fun I11 H11 r11 f11 d11 => ?_⟩
        replace hh := hh.to f11 (fun h => h)
        replace F := F.trans f11.any
        replace zr := TupZ.up zr f11.ext
        replace db := Dp.up db f11.ext
        walk_at "wq"
        refine w_newT (K := K) hh.sub (.cons (.str _) (.cons (.int _) .nil)) (by show 2 ≤ sizeLine; decide) fun I12 p12 f12 d12 => ?_
        replace hh := hh.to f12 (fun h => h)
        replace F := F.trans f12.any
        replace d11 := Dp.up d11 f12.ext
        replace zr := TupZ.up zr f12.ext
        replace db := Dp.up db f12.ext
        walk_at "wq"
        refine exactly hh.sub d11 d12 (plain_pair (by decide +kernel)) fun H13 f13 => ?_
        replace hh := hh.to f13 (fun h => h)
        replace F := F.trans f13.any
        walk_at "wq"
        refine ⟨_, hd, 23, rfl, hh, by omega, by omega, fun H21 t' f21 hh21 t0 t1 => ?_⟩
        replace hh := hh21
        replace F := F.trans f21
        replace zr := TupZ.up zr f21.ext
        replace db := Dp.up db f21.ext
        walk_at "wq"
        obtain ⟨tp, etp⟩ : ∃ tp : Int, 1 + t' = tp := ⟨_, rfl⟩
        rw [etp]
        refine ⟨_, 1, _, _, _, _, _, _, _, rfl, hh.sub, .int tp, .int tp, .int 0, .told1 (by omega) (by omega), fun I11 H11 r11 f11 d11 => ?_⟩
        replace hh := hh.to f11 (fun h => h)
        replace F := F.trans f11.any
        replace zr := TupZ.up zr f11.ext
        replace db := Dp.up db f11.ext
        walk_at "wq"
        refine w_newT (K := K) hh.sub (.cons (.str _) (.cons (.int _) .nil)) (by show 2 ≤ sizeLine; decide) fun I12 p12 f12 d12 => ?_
        replace hh := hh.to f12 (fun h => h)
        replace F := F.trans f12.any
        replace d11 := Dp.up d11 f12.ext
        replace zr := TupZ.up zr f12.ext
        replace db := Dp.up db f12.ext
        walk_at "wq"
        refine exactly hh.sub d11 d12 (plain_pair (by decide +kernel)) fun H13 f13 => ?_
        replace hh := hh.to f13 (fun h => h)
        replace F := F.trans f13.any
        walk_at "wq"
        refine ⟨_, 0, _, _, _, _, _, _, _, rfl, hh.sub, .int m, .int 0, .int 0, .told0 (by omega) (by omega), fun I11 H11 r11 f11 d11 => ?_⟩
        replace hh := hh.to f11 (fun h => h)
        replace F := F.trans f11.any
        replace zr := TupZ.up zr f11.ext
        replace db := Dp.up db f11.ext
        walk_at "wq"
        refine w_newT (K := K) hh.sub (.cons (.str _) (.cons (.int _) .nil)) (by show 2 ≤ sizeLine; decide) fun I12 p12 f12 d12 => ?_
        replace hh := hh.to f12 (fun h => h)
        replace F := F.trans f12.any
        replace d11 := Dp.up d11 f12.ext
        replace zr := TupZ.up zr f12.ext
        replace db := Dp.up db f12.ext
        walk_at "wq"
        refine exactly hh.sub d11 d12 (plain_pair (by decide +kernel)) fun H13 f13 => ?_
        replace hh := hh.to f13 (fun h => h)
        replace F := F.trans f13.any
        walk_at "wq"
        refine ⟨_, hd, tp, rfl, hh, by omega, fun I19 H19 v19 e19 f19 hh19 d19 w19 => ?_⟩
        replace hh := hh19
        replace F := F.trans f19
        replace zr := TupZ.up zr f19.ext
        replace db := Dp.up db f19.ext
        walk_at "wq"
        refine ⟨_, 1, _, _, _, _, _, _, _, rfl, hh.sub, d19, .int tp, .int 0, .count1 w19, fun I11 H11 r11 f11 d11 => ?_⟩
        replace hh := hh.to f11 (fun h => h)
        replace F := F.trans f11.any
        replace zr := TupZ.up zr f11.ext
        replace db := Dp.up db f11.ext
        walk_at "wq"
        refine w_newT (K := K) hh.sub (.cons (.str _) (.cons (.int _) .nil)) (by show 2 ≤ sizeLine; decide) fun I12 p12 f12 d12 => ?_
        replace hh := hh.to f12 (fun h => h)
        replace F := F.trans f12.any
        replace d11 := Dp.up d11 f12.ext
        walk_at "wq"
        refine exactly hh.sub d11 d12 (plain_pair (by decide +kernel)) fun H13 f13 => ?_
        replace hh := hh.to f13 (fun h => h)
        replace F := F.trans f13.any
        exact q _ _ F hh
end
def spLaw (K : PySem.W.Frag) : Sp := fun vs H Q _ => ∃ (a : Addr) (ns : List Int), vs = [.ref a] ∧ SqL K H a (ns.map V.int) ∧ ns.length ≤ 63 ∧ ∀ H', Q (.bl true) H'
section
variable {P : Program} {w : World} {K : PySem.W.Frag} {mg : Str → Option Value} {base : Heap} {a : Adr}
theorem ok_law (T : Top K mg a) : FnOk P w K mg base CX0 10 a.f_law a.d_law ["_law_script"] (spLaw K) := by
  refine T.F_law.ok sc_law (fun vs H Q E h => ?_) (fun cdv A outer s H vs Q E hr h => ?_)
  · obtain ⟨s, ns, rfl, _⟩ := h
    rfl
  · obtain ⟨s, ns, rfl, hs, hl, q⟩ := h
    refine ⟨_, (pss_cons (ps_set (i := 1) sc_law.nd rfl (Or.inl rfl) (pe_call (ok_law_hand T) (hr.mono (by decide)) (by rfl) T.g_law_hand T.F_law_hand.kp T.b_law_hand .nil pass0 (pa_cons (pv 0) pa_nil))) (pss_cons (ps_if (PW.pt (pw_or (pt_not (pt_val (pe_call (ok_law_exact T) (hr.mono (by decide)) (by rfl) T.g_law_exact T.F_law_exact.kp T.b_law_exact .nil pass0 (pa_cons (pe_glob (v := .int 24) (by rfl) T.m_MOST_FRAMES.choose_spec ⟨_, rfl⟩) (pa_cons pe_int pa_nil))))) (pw_or (pt_not (pt_val (pe_call (ok_law_listed T) (hr.mono (by decide)) (by rfl) T.g_law_listed T.F_law_listed.kp T.b_law_listed .nil pass0 (pa_cons (pe_call (ok_law_draw T) (hr.mono (by decide)) (by rfl) T.g_law_draw T.F_law_draw.kp T.b_law_draw .nil pass0 (pa_cons (pv 1) (pa_cons pe_int pa_nil))) pa_nil)))) (pw_or1 (pt_not (pt_val (pe_call0 (ok_law_classes T) (hr.mono (by decide)) (by rfl) T.g_law_classes T.F_law_classes.kp T.b_law_classes .nil pass0 ))))))) (pss_one (ps_ret pe_bl)) pss_nil) (pss_cons (ps_for PassesOwn.never rfl (pi_range1 (by rfl) T.n_range (pa_cons pe_int pa_nil)) (pg_name (i := 2) sc_law.nd rfl (Or.inl rfl)) (pss_one (ps_if (PW.pt (pw_or (pt_not (pt_val (pe_call (ok_law_great T) (hr.mono (by decide)) (by rfl) T.g_law_great T.F_law_great.kp T.b_law_great .nil pass0 (pa_cons (pv 1) pa_nil)))) (pw_or1 (pt_not (pt_val (pe_call (ok_law_refused T) (hr.mono (by decide)) (by rfl) T.g_law_refused T.F_law_refused.kp T.b_law_refused .nil pass0 (pa_cons (pv 1) pa_nil))))))) (pss_one (ps_ret pe_bl)) pss_nil))) (pss_one (ps_ret pe_bl))))), ?_⟩
    walk_at "st"
    walk_at "wp"
    refine ⟨H, s, ns, rfl, Same.refl H, hs, by omega, fun I1 H1 hd f1 hh => ?_⟩
    walk_at "wq"
    refine exactly (I := I1) hh.sub (.int _) (.int _) True.intro fun H2 f2 => ?_
    replace hh := hh.to f2 (fun h => h)
    walk_at "wq"
    refine ⟨I1, hd, 6, rfl, hh, by omega, by omega, fun H3 m f3 hh3 m0 m1 => ?_⟩
    walk_at "wq"
    refine ⟨m, rfl, m0, m1, fun H4 s4 => ?_⟩
    have f4 : Lf No I1 H3 I1 H4 := Lf.ofSame hh3.sub s4
    replace hh := hh3.to f4 (fun h => h)
    walk_at "wq"
    refine ⟨rfl, fun H5 s5 => ?_⟩
    have f5 : Lf No I1 H4 I1 H5 := Lf.ofSame hh.sub s5
    replace hh := hh.to f5 (fun h => h)
    walk_at "wq"
    refine w_forR1 (n := 3) (by omega) (by omega) (fun i σ H' => ∃ (I' : Hp) (y : Option V), σ = [some (V.ref s), some (V.ref hd), y] ∧ Hand K I' H' hd) (fun Q q => ?_) ⟨I1, none, rfl, hh⟩ (fun i σ H' hi h => ?_) (fun σ H' h => ?_)
    · walk_at "wq"
      exact q
    · obtain ⟨I', y, rfl, hh⟩ := h
      refine w_name ?_
      simp only [List.set_cons_zero, List.set_cons_succ]
      walk_at "wq"
      refine ⟨I', hd, rfl, hh, fun I2 H2 f2 hh2 => ?_⟩
      walk_at "wq"
      refine ⟨I2, hd, rfl, hh2, fun I3 H3 f3 hh3 => ?_⟩
      walk_at "wq"
      exact ⟨I3, _, rfl, hh3⟩
    · obtain ⟨I', y, rfl, hh⟩ := h
      walk_at "wq"
      exact q _
end
theorem all_mk {l : PySem.W.OpenLaw} {w : World} {K : PySem.W.Frag} {h : Heap} {mg : Str → Option Value} {fa : Addr} (X : K.In h) (G : h.Ns mainGlobals mg) (hfa : mg "law" = some (.ref fa))
    {C_FrameError C_BadCount C_BadRow C_BadPlace f_BadCount_init f_BadRow_init f_is_whole f_is_sequence f_check_count f_row_fault f_check_row f_ways_of f_count_falling f_count_all_rows f_row_place f_row_of_place f_row_at f_row_number f_row_numbered f_all_rows f_law_falling f_law_rows_of f_law_exact f_law_mix f_law_draw f_law_some_row f_law_seq f_law_no_count f_law_hand f_law_asked f_law_of_row f_law_own_place f_law_listed f_law_great f_law_spoilt_row f_law_refused f_law_classes f_law : Addr}
    {nm_FrameError q_FrameError : Str} {N_FrameError : Addr} {bs_FrameError : List Value} {sn_FrameError : List Str} {sub_FrameError : List Value} {ab_FrameError : Bool} {col_FrameError : Option Bool} {dd_FrameError : Option Addr} {m0_FrameError m1_FrameError m2_FrameError m3_FrameError m5_FrameError : Option Value}
    {nm_BadCount q_BadCount : Str} {N_BadCount : Addr} {bs_BadCount : List Value} {sn_BadCount : List Str} {sub_BadCount : List Value} {ab_BadCount : Bool} {col_BadCount : Option Bool} {dd_BadCount : Option Addr} {m0_BadCount m1_BadCount m2_BadCount m3_BadCount m5_BadCount : Option Value}
    {nm_BadRow q_BadRow : Str} {N_BadRow : Addr} {bs_BadRow : List Value} {sn_BadRow : List Str} {sub_BadRow : List Value} {ab_BadRow : Bool} {col_BadRow : Option Bool} {dd_BadRow : Option Addr} {m0_BadRow m1_BadRow m2_BadRow m3_BadRow m5_BadRow : Option Value}
    {nm_BadPlace q_BadPlace : Str} {N_BadPlace : Addr} {bs_BadPlace : List Value} {sn_BadPlace : List Str} {sub_BadPlace : List Value} {ab_BadPlace : Bool} {col_BadPlace : Option Bool} {dd_BadPlace : Option Addr} {m0_BadPlace m1_BadPlace m2_BadPlace m3_BadPlace m5_BadPlace : Option Value}
    {od_BadCount_init an_BadCount_init : Option Addr} {sl_BadCount_init : Array (Option Value)} {oc_BadCount_init kV_BadCount_init dc_BadCount_init pm_BadCount_init cd_BadCount_init ct_BadCount_init : Value}
    {od_BadRow_init an_BadRow_init : Option Addr} {sl_BadRow_init : Array (Option Value)} {oc_BadRow_init kV_BadRow_init dc_BadRow_init pm_BadRow_init cd_BadRow_init ct_BadRow_init : Value}
    {od_is_whole an_is_whole : Option Addr} {sl_is_whole : Array (Option Value)} {oc_is_whole kV_is_whole dc_is_whole pm_is_whole cd_is_whole ct_is_whole : Value}
    {dT_is_whole : Addr} {dn_is_whole : Nat}
    {od_is_sequence an_is_sequence : Option Addr} {sl_is_sequence : Array (Option Value)} {oc_is_sequence kV_is_sequence dc_is_sequence pm_is_sequence cd_is_sequence ct_is_sequence : Value}
    {od_check_count an_check_count : Option Addr} {sl_check_count : Array (Option Value)} {oc_check_count kV_check_count dc_check_count pm_check_count cd_check_count ct_check_count : Value}
    {dT_check_count : Addr} {dn_check_count : Nat}
    {dt_check_count_0 : Tok}
    {od_row_fault an_row_fault : Option Addr} {sl_row_fault : Array (Option Value)} {oc_row_fault kV_row_fault dc_row_fault pm_row_fault cd_row_fault ct_row_fault : Value}
    {od_check_row an_check_row : Option Addr} {sl_check_row : Array (Option Value)} {oc_check_row kV_check_row dc_check_row pm_check_row cd_check_row ct_check_row : Value}
    {od_ways_of an_ways_of : Option Addr} {sl_ways_of : Array (Option Value)} {oc_ways_of kV_ways_of dc_ways_of pm_ways_of cd_ways_of ct_ways_of : Value}
    {od_count_falling an_count_falling : Option Addr} {sl_count_falling : Array (Option Value)} {oc_count_falling kV_count_falling dc_count_falling pm_count_falling cd_count_falling ct_count_falling : Value}
    {od_count_all_rows an_count_all_rows : Option Addr} {sl_count_all_rows : Array (Option Value)} {oc_count_all_rows kV_count_all_rows dc_count_all_rows pm_count_all_rows cd_count_all_rows ct_count_all_rows : Value}
    {od_row_place an_row_place : Option Addr} {sl_row_place : Array (Option Value)} {oc_row_place kV_row_place dc_row_place pm_row_place cd_row_place ct_row_place : Value}
    {od_row_of_place an_row_of_place : Option Addr} {sl_row_of_place : Array (Option Value)} {oc_row_of_place kV_row_of_place dc_row_of_place pm_row_of_place cd_row_of_place ct_row_of_place : Value}
    {od_row_at an_row_at : Option Addr} {sl_row_at : Array (Option Value)} {oc_row_at kV_row_at dc_row_at pm_row_at cd_row_at ct_row_at : Value}
    {od_row_number an_row_number : Option Addr} {sl_row_number : Array (Option Value)} {oc_row_number kV_row_number dc_row_number pm_row_number cd_row_number ct_row_number : Value}
    {od_row_numbered an_row_numbered : Option Addr} {sl_row_numbered : Array (Option Value)} {oc_row_numbered kV_row_numbered dc_row_numbered pm_row_numbered cd_row_numbered ct_row_numbered : Value}
    {od_all_rows an_all_rows : Option Addr} {sl_all_rows : Array (Option Value)} {oc_all_rows kV_all_rows dc_all_rows pm_all_rows cd_all_rows ct_all_rows : Value}
    {od_law_falling an_law_falling : Option Addr} {sl_law_falling : Array (Option Value)} {oc_law_falling kV_law_falling dc_law_falling pm_law_falling cd_law_falling ct_law_falling : Value}
    {od_law_rows_of an_law_rows_of : Option Addr} {sl_law_rows_of : Array (Option Value)} {oc_law_rows_of kV_law_rows_of dc_law_rows_of pm_law_rows_of cd_law_rows_of ct_law_rows_of : Value}
    {od_law_exact an_law_exact : Option Addr} {sl_law_exact : Array (Option Value)} {oc_law_exact kV_law_exact dc_law_exact pm_law_exact cd_law_exact ct_law_exact : Value}
    {od_law_mix an_law_mix : Option Addr} {sl_law_mix : Array (Option Value)} {oc_law_mix kV_law_mix dc_law_mix pm_law_mix cd_law_mix ct_law_mix : Value}
    {od_law_draw an_law_draw : Option Addr} {sl_law_draw : Array (Option Value)} {oc_law_draw kV_law_draw dc_law_draw pm_law_draw cd_law_draw ct_law_draw : Value}
    {od_law_some_row an_law_some_row : Option Addr} {sl_law_some_row : Array (Option Value)} {oc_law_some_row kV_law_some_row dc_law_some_row pm_law_some_row cd_law_some_row ct_law_some_row : Value}
    {od_law_seq an_law_seq : Option Addr} {sl_law_seq : Array (Option Value)} {oc_law_seq kV_law_seq dc_law_seq pm_law_seq cd_law_seq ct_law_seq : Value}
    {od_law_no_count an_law_no_count : Option Addr} {sl_law_no_count : Array (Option Value)} {oc_law_no_count kV_law_no_count dc_law_no_count pm_law_no_count cd_law_no_count ct_law_no_count : Value}
    {od_law_hand an_law_hand : Option Addr} {sl_law_hand : Array (Option Value)} {oc_law_hand kV_law_hand dc_law_hand pm_law_hand cd_law_hand ct_law_hand : Value}
    {od_law_asked an_law_asked : Option Addr} {sl_law_asked : Array (Option Value)} {oc_law_asked kV_law_asked dc_law_asked pm_law_asked cd_law_asked ct_law_asked : Value}
    {od_law_of_row an_law_of_row : Option Addr} {sl_law_of_row : Array (Option Value)} {oc_law_of_row kV_law_of_row dc_law_of_row pm_law_of_row cd_law_of_row ct_law_of_row : Value}
    {od_law_own_place an_law_own_place : Option Addr} {sl_law_own_place : Array (Option Value)} {oc_law_own_place kV_law_own_place dc_law_own_place pm_law_own_place cd_law_own_place ct_law_own_place : Value}
    {od_law_listed an_law_listed : Option Addr} {sl_law_listed : Array (Option Value)} {oc_law_listed kV_law_listed dc_law_listed pm_law_listed cd_law_listed ct_law_listed : Value}
    {od_law_great an_law_great : Option Addr} {sl_law_great : Array (Option Value)} {oc_law_great kV_law_great dc_law_great pm_law_great cd_law_great ct_law_great : Value}
    {od_law_spoilt_row an_law_spoilt_row : Option Addr} {sl_law_spoilt_row : Array (Option Value)} {oc_law_spoilt_row kV_law_spoilt_row dc_law_spoilt_row pm_law_spoilt_row cd_law_spoilt_row ct_law_spoilt_row : Value}
    {od_law_refused an_law_refused : Option Addr} {sl_law_refused : Array (Option Value)} {oc_law_refused kV_law_refused dc_law_refused pm_law_refused cd_law_refused ct_law_refused : Value}
    {od_law_classes an_law_classes : Option Addr} {sl_law_classes : Array (Option Value)} {oc_law_classes kV_law_classes dc_law_classes pm_law_classes cd_law_classes ct_law_classes : Value}
    {od_law an_law : Option Addr} {sl_law : Array (Option Value)} {oc_law kV_law dc_law pm_law cd_law ct_law : Value}
    {tk_MOST_FRAMES : Tok}
    (a_FrameError : PySem.W.nsIn K mainGlobals "FrameError" = some (some (.ref C_FrameError)))
    (a_BadCount : PySem.W.nsIn K mainGlobals "BadCount" = some (some (.ref C_BadCount)))
    (a_BadRow : PySem.W.nsIn K mainGlobals "BadRow" = some (some (.ref C_BadRow)))
    (a_BadPlace : PySem.W.nsIn K mainGlobals "BadPlace" = some (some (.ref C_BadPlace)))
    (xL_FrameError : K.lookup C_FrameError = some (excClassObj nm_FrameError q_FrameError C_FrameError N_FrameError bs_FrameError [.type "ValueError", .type "Exception", .type "BaseException", .type "object"] true sn_FrameError sub_FrameError ab_FrameError col_FrameError dd_FrameError m0_FrameError m1_FrameError m2_FrameError m3_FrameError m5_FrameError "ValueError.__new__"))
    (sa_FrameError : PySem.W.findIn K (.ref C_FrameError) "__setattr__" = some (some (.builtin "object.__setattr__")))
    (ga_FrameError : PySem.W.findIn K (.ref C_FrameError) "__getattribute__" = some (some (.builtin "BaseException.__getattribute__")))
    (gg_FrameError : PySem.W.findIn K (.ref C_FrameError) "__getattr__" = some none)
    (eC_FrameError : PySem.W.subIn K (.ref C_FrameError) (.type "BaseException") = some true)
    (tC_FrameError : PySem.W.typeIn K (.ref C_FrameError) = some (.type "type"))
    (kC_FrameError : PySem.W.keepIn K (.ref C_FrameError) = true)
    (hC_FrameError : PySem.W.hasDictIn K C_FrameError = true)
    (iC_FrameError : PySem.W.isClsIn K C_FrameError = true)
    (cC_FrameError : PySem.W.findIn K (.ref C_FrameError) "__class__" = some (some (.builtin "object.__class__")))
    (mC_FrameError : PySem.W.mroIn K C_FrameError (.type "object") = some true)
    (sb_FrameError_FrameError : PySem.W.subIn K (.ref C_FrameError) (.ref C_FrameError) = some true)
    (sb_FrameError_BadCount : PySem.W.subIn K (.ref C_FrameError) (.ref C_BadCount) = some false)
    (sb_FrameError_BadRow : PySem.W.subIn K (.ref C_FrameError) (.ref C_BadRow) = some false)
    (sb_FrameError_BadPlace : PySem.W.subIn K (.ref C_FrameError) (.ref C_BadPlace) = some false)
    (st_FrameError : PySem.W.subIn K (.ref C_FrameError) (.type "StopIteration") = some false)
    (sv_FrameError_ValueError : PySem.W.subIn K (.ref C_FrameError) (.type "ValueError") = some true)
    (xL_BadCount : K.lookup C_BadCount = some (excClassObj nm_BadCount q_BadCount C_BadCount N_BadCount bs_BadCount [.ref C_FrameError, .type "ValueError", .type "Exception", .type "BaseException", .type "object"] true sn_BadCount sub_BadCount ab_BadCount col_BadCount dd_BadCount m0_BadCount m1_BadCount m2_BadCount m3_BadCount m5_BadCount "ValueError.__new__"))
    (sa_BadCount : PySem.W.findIn K (.ref C_BadCount) "__setattr__" = some (some (.builtin "object.__setattr__")))
    (ga_BadCount : PySem.W.findIn K (.ref C_BadCount) "__getattribute__" = some (some (.builtin "BaseException.__getattribute__")))
    (gg_BadCount : PySem.W.findIn K (.ref C_BadCount) "__getattr__" = some none)
    (eC_BadCount : PySem.W.subIn K (.ref C_BadCount) (.type "BaseException") = some true)
    (tC_BadCount : PySem.W.typeIn K (.ref C_BadCount) = some (.type "type"))
    (kC_BadCount : PySem.W.keepIn K (.ref C_BadCount) = true)
    (hC_BadCount : PySem.W.hasDictIn K C_BadCount = true)
    (iC_BadCount : PySem.W.isClsIn K C_BadCount = true)
    (cC_BadCount : PySem.W.findIn K (.ref C_BadCount) "__class__" = some (some (.builtin "object.__class__")))
    (mC_BadCount : PySem.W.mroIn K C_BadCount (.type "object") = some true)
    (sb_BadCount_FrameError : PySem.W.subIn K (.ref C_BadCount) (.ref C_FrameError) = some true)
    (sb_BadCount_BadCount : PySem.W.subIn K (.ref C_BadCount) (.ref C_BadCount) = some true)
    (sb_BadCount_BadRow : PySem.W.subIn K (.ref C_BadCount) (.ref C_BadRow) = some false)
    (sb_BadCount_BadPlace : PySem.W.subIn K (.ref C_BadCount) (.ref C_BadPlace) = some false)
    (no_BadCount_most : PySem.W.findIn K (.ref C_BadCount) "most" = some none)
    (st_BadCount : PySem.W.subIn K (.ref C_BadCount) (.type "StopIteration") = some false)
    (sv_BadCount_ValueError : PySem.W.subIn K (.ref C_BadCount) (.type "ValueError") = some true)
    (xL_BadRow : K.lookup C_BadRow = some (excClassObj nm_BadRow q_BadRow C_BadRow N_BadRow bs_BadRow [.ref C_FrameError, .type "ValueError", .type "Exception", .type "BaseException", .type "object"] true sn_BadRow sub_BadRow ab_BadRow col_BadRow dd_BadRow m0_BadRow m1_BadRow m2_BadRow m3_BadRow m5_BadRow "ValueError.__new__"))
    (sa_BadRow : PySem.W.findIn K (.ref C_BadRow) "__setattr__" = some (some (.builtin "object.__setattr__")))
    (ga_BadRow : PySem.W.findIn K (.ref C_BadRow) "__getattribute__" = some (some (.builtin "BaseException.__getattribute__")))
    (gg_BadRow : PySem.W.findIn K (.ref C_BadRow) "__getattr__" = some none)
    (eC_BadRow : PySem.W.subIn K (.ref C_BadRow) (.type "BaseException") = some true)
    (tC_BadRow : PySem.W.typeIn K (.ref C_BadRow) = some (.type "type"))
    (kC_BadRow : PySem.W.keepIn K (.ref C_BadRow) = true)
    (hC_BadRow : PySem.W.hasDictIn K C_BadRow = true)
    (iC_BadRow : PySem.W.isClsIn K C_BadRow = true)
    (cC_BadRow : PySem.W.findIn K (.ref C_BadRow) "__class__" = some (some (.builtin "object.__class__")))
    (mC_BadRow : PySem.W.mroIn K C_BadRow (.type "object") = some true)
    (sb_BadRow_FrameError : PySem.W.subIn K (.ref C_BadRow) (.ref C_FrameError) = some true)
    (sb_BadRow_BadCount : PySem.W.subIn K (.ref C_BadRow) (.ref C_BadCount) = some false)
    (sb_BadRow_BadRow : PySem.W.subIn K (.ref C_BadRow) (.ref C_BadRow) = some true)
    (sb_BadRow_BadPlace : PySem.W.subIn K (.ref C_BadRow) (.ref C_BadPlace) = some false)
    (no_BadRow_at : PySem.W.findIn K (.ref C_BadRow) "at" = some none)
    (st_BadRow : PySem.W.subIn K (.ref C_BadRow) (.type "StopIteration") = some false)
    (sv_BadRow_ValueError : PySem.W.subIn K (.ref C_BadRow) (.type "ValueError") = some true)
    (xL_BadPlace : K.lookup C_BadPlace = some (excClassObj nm_BadPlace q_BadPlace C_BadPlace N_BadPlace bs_BadPlace [.ref C_FrameError, .type "ValueError", .type "Exception", .type "BaseException", .type "object"] true sn_BadPlace sub_BadPlace ab_BadPlace col_BadPlace dd_BadPlace m0_BadPlace m1_BadPlace m2_BadPlace m3_BadPlace m5_BadPlace "ValueError.__new__"))
    (sa_BadPlace : PySem.W.findIn K (.ref C_BadPlace) "__setattr__" = some (some (.builtin "object.__setattr__")))
    (ga_BadPlace : PySem.W.findIn K (.ref C_BadPlace) "__getattribute__" = some (some (.builtin "BaseException.__getattribute__")))
    (gg_BadPlace : PySem.W.findIn K (.ref C_BadPlace) "__getattr__" = some none)
    (eC_BadPlace : PySem.W.subIn K (.ref C_BadPlace) (.type "BaseException") = some true)
    (tC_BadPlace : PySem.W.typeIn K (.ref C_BadPlace) = some (.type "type"))
    (kC_BadPlace : PySem.W.keepIn K (.ref C_BadPlace) = true)
    (hC_BadPlace : PySem.W.hasDictIn K C_BadPlace = true)
    (iC_BadPlace : PySem.W.isClsIn K C_BadPlace = true)
    (cC_BadPlace : PySem.W.findIn K (.ref C_BadPlace) "__class__" = some (some (.builtin "object.__class__")))
    (mC_BadPlace : PySem.W.mroIn K C_BadPlace (.type "object") = some true)
    (sb_BadPlace_FrameError : PySem.W.subIn K (.ref C_BadPlace) (.ref C_FrameError) = some true)
    (sb_BadPlace_BadCount : PySem.W.subIn K (.ref C_BadPlace) (.ref C_BadCount) = some false)
    (sb_BadPlace_BadRow : PySem.W.subIn K (.ref C_BadPlace) (.ref C_BadRow) = some false)
    (sb_BadPlace_BadPlace : PySem.W.subIn K (.ref C_BadPlace) (.ref C_BadPlace) = some true)
    (st_BadPlace : PySem.W.subIn K (.ref C_BadPlace) (.type "StopIteration") = some false)
    (sv_BadPlace_ValueError : PySem.W.subIn K (.ref C_BadPlace) (.type "ValueError") = some true)
    (xe_BadPlace : PySem.W.excIn K C_BadPlace [.type "ValueError", .type "Exception", .type "BaseException", .type "object"] "ValueError.__new__" = true)
    (sg : PySem.W.specialIn K (.builtin "object.__class__") "__get__" = some (some (.builtin "getset_descriptor.__get__")))
    (tg : PySem.W.takesIn K (.builtin "object.__class__") = some true)
    (a_BadCount_init : PySem.W.findIn K (.ref C_BadCount) "__init__" = some (some (.ref f_BadCount_init)))
    (i_BadCount_init : PySem.W.typeIn K (.ref f_BadCount_init) = some (.type "function"))
    (l_BadCount_init : K.lookup f_BadCount_init = some ⟨oc_BadCount_init, od_BadCount_init, .func (PySem.W.fnOf "__init__" "BadCount.__init__" (defArgs s_BadCount_init) (defBody s_BadCount_init) (defScope s_BadCount_init) .none kV_BadCount_init dc_BadCount_init pm_BadCount_init an_BadCount_init cd_BadCount_init ct_BadCount_init), sl_BadCount_init⟩)
    (c_BadCount_init : PySem.W.codeIn K cd_BadCount_init "BadCount.__init__" = true)
    (k_BadCount_init : PySem.W.keepIn K (.ref f_BadCount_init) = true)
    (a_BadRow_init : PySem.W.findIn K (.ref C_BadRow) "__init__" = some (some (.ref f_BadRow_init)))
    (i_BadRow_init : PySem.W.typeIn K (.ref f_BadRow_init) = some (.type "function"))
    (l_BadRow_init : K.lookup f_BadRow_init = some ⟨oc_BadRow_init, od_BadRow_init, .func (PySem.W.fnOf "__init__" "BadRow.__init__" (defArgs s_BadRow_init) (defBody s_BadRow_init) (defScope s_BadRow_init) .none kV_BadRow_init dc_BadRow_init pm_BadRow_init an_BadRow_init cd_BadRow_init ct_BadRow_init), sl_BadRow_init⟩)
    (c_BadRow_init : PySem.W.codeIn K cd_BadRow_init "BadRow.__init__" = true)
    (k_BadRow_init : PySem.W.keepIn K (.ref f_BadRow_init) = true)
    (a_is_whole : PySem.W.nsIn K mainGlobals "is_whole" = some (some (.ref f_is_whole)))
    (l_is_whole : K.lookup f_is_whole = some ⟨oc_is_whole, od_is_whole, .func (PySem.W.fnOf "is_whole" "is_whole" (defArgs s_is_whole) (defBody s_is_whole) (defScope s_is_whole) (.ref dT_is_whole) kV_is_whole dc_is_whole pm_is_whole an_is_whole cd_is_whole ct_is_whole), sl_is_whole⟩)
    (lt_is_whole : K.lookup dT_is_whole = some ⟨.type "tuple", none, .seq #[.none, .none] dn_is_whole, #[]⟩)
    (c_is_whole : PySem.W.codeIn K cd_is_whole "is_whole" = true)
    (k_is_whole : PySem.W.keepIn K (.ref f_is_whole) = true)
    (a_is_sequence : PySem.W.nsIn K mainGlobals "is_sequence" = some (some (.ref f_is_sequence)))
    (l_is_sequence : K.lookup f_is_sequence = some ⟨oc_is_sequence, od_is_sequence, .func (PySem.W.fnOf "is_sequence" "is_sequence" (defArgs s_is_sequence) (defBody s_is_sequence) (defScope s_is_sequence) .none kV_is_sequence dc_is_sequence pm_is_sequence an_is_sequence cd_is_sequence ct_is_sequence), sl_is_sequence⟩)
    (c_is_sequence : PySem.W.codeIn K cd_is_sequence "is_sequence" = true)
    (k_is_sequence : PySem.W.keepIn K (.ref f_is_sequence) = true)
    (a_check_count : PySem.W.nsIn K mainGlobals "check_count" = some (some (.ref f_check_count)))
    (l_check_count : K.lookup f_check_count = some ⟨oc_check_count, od_check_count, .func (PySem.W.fnOf "check_count" "check_count" (defArgs s_check_count) (defBody s_check_count) (defScope s_check_count) (.ref dT_check_count) kV_check_count dc_check_count pm_check_count an_check_count cd_check_count ct_check_count), sl_check_count⟩)
    (lt_check_count : K.lookup dT_check_count = some ⟨.type "tuple", none, .seq #[.int 24 dt_check_count_0] dn_check_count, #[]⟩)
    (c_check_count : PySem.W.codeIn K cd_check_count "check_count" = true)
    (k_check_count : PySem.W.keepIn K (.ref f_check_count) = true)
    (a_row_fault : PySem.W.nsIn K mainGlobals "row_fault" = some (some (.ref f_row_fault)))
    (l_row_fault : K.lookup f_row_fault = some ⟨oc_row_fault, od_row_fault, .func (PySem.W.fnOf "row_fault" "row_fault" (defArgs s_row_fault) (defBody s_row_fault) (defScope s_row_fault) .none kV_row_fault dc_row_fault pm_row_fault an_row_fault cd_row_fault ct_row_fault), sl_row_fault⟩)
    (c_row_fault : PySem.W.codeIn K cd_row_fault "row_fault" = true)
    (k_row_fault : PySem.W.keepIn K (.ref f_row_fault) = true)
    (a_check_row : PySem.W.nsIn K mainGlobals "check_row" = some (some (.ref f_check_row)))
    (l_check_row : K.lookup f_check_row = some ⟨oc_check_row, od_check_row, .func (PySem.W.fnOf "check_row" "check_row" (defArgs s_check_row) (defBody s_check_row) (defScope s_check_row) .none kV_check_row dc_check_row pm_check_row an_check_row cd_check_row ct_check_row), sl_check_row⟩)
    (c_check_row : PySem.W.codeIn K cd_check_row "check_row" = true)
    (k_check_row : PySem.W.keepIn K (.ref f_check_row) = true)
    (a_ways_of : PySem.W.nsIn K mainGlobals "ways_of" = some (some (.ref f_ways_of)))
    (l_ways_of : K.lookup f_ways_of = some ⟨oc_ways_of, od_ways_of, .func (PySem.W.fnOf "ways_of" "ways_of" (defArgs s_ways_of) (defBody s_ways_of) (defScope s_ways_of) .none kV_ways_of dc_ways_of pm_ways_of an_ways_of cd_ways_of ct_ways_of), sl_ways_of⟩)
    (c_ways_of : PySem.W.codeIn K cd_ways_of "ways_of" = true)
    (k_ways_of : PySem.W.keepIn K (.ref f_ways_of) = true)
    (a_count_falling : PySem.W.nsIn K mainGlobals "count_falling" = some (some (.ref f_count_falling)))
    (l_count_falling : K.lookup f_count_falling = some ⟨oc_count_falling, od_count_falling, .func (PySem.W.fnOf "count_falling" "count_falling" (defArgs s_count_falling) (defBody s_count_falling) (defScope s_count_falling) .none kV_count_falling dc_count_falling pm_count_falling an_count_falling cd_count_falling ct_count_falling), sl_count_falling⟩)
    (c_count_falling : PySem.W.codeIn K cd_count_falling "count_falling" = true)
    (k_count_falling : PySem.W.keepIn K (.ref f_count_falling) = true)
    (a_count_all_rows : PySem.W.nsIn K mainGlobals "count_all_rows" = some (some (.ref f_count_all_rows)))
    (l_count_all_rows : K.lookup f_count_all_rows = some ⟨oc_count_all_rows, od_count_all_rows, .func (PySem.W.fnOf "count_all_rows" "count_all_rows" (defArgs s_count_all_rows) (defBody s_count_all_rows) (defScope s_count_all_rows) .none kV_count_all_rows dc_count_all_rows pm_count_all_rows an_count_all_rows cd_count_all_rows ct_count_all_rows), sl_count_all_rows⟩)
    (c_count_all_rows : PySem.W.codeIn K cd_count_all_rows "count_all_rows" = true)
    (k_count_all_rows : PySem.W.keepIn K (.ref f_count_all_rows) = true)
    (a_row_place : PySem.W.nsIn K mainGlobals "row_place" = some (some (.ref f_row_place)))
    (l_row_place : K.lookup f_row_place = some ⟨oc_row_place, od_row_place, .func (PySem.W.fnOf "row_place" "row_place" (defArgs s_row_place) (defBody s_row_place) (defScope s_row_place) .none kV_row_place dc_row_place pm_row_place an_row_place cd_row_place ct_row_place), sl_row_place⟩)
    (c_row_place : PySem.W.codeIn K cd_row_place "row_place" = true)
    (k_row_place : PySem.W.keepIn K (.ref f_row_place) = true)
    (a_row_of_place : PySem.W.nsIn K mainGlobals "row_of_place" = some (some (.ref f_row_of_place)))
    (l_row_of_place : K.lookup f_row_of_place = some ⟨oc_row_of_place, od_row_of_place, .func (PySem.W.fnOf "row_of_place" "row_of_place" (defArgs s_row_of_place) (defBody s_row_of_place) (defScope s_row_of_place) .none kV_row_of_place dc_row_of_place pm_row_of_place an_row_of_place cd_row_of_place ct_row_of_place), sl_row_of_place⟩)
    (c_row_of_place : PySem.W.codeIn K cd_row_of_place "row_of_place" = true)
    (k_row_of_place : PySem.W.keepIn K (.ref f_row_of_place) = true)
    (a_row_at : PySem.W.nsIn K mainGlobals "row_at" = some (some (.ref f_row_at)))
    (l_row_at : K.lookup f_row_at = some ⟨oc_row_at, od_row_at, .func (PySem.W.fnOf "row_at" "row_at" (defArgs s_row_at) (defBody s_row_at) (defScope s_row_at) .none kV_row_at dc_row_at pm_row_at an_row_at cd_row_at ct_row_at), sl_row_at⟩)
    (c_row_at : PySem.W.codeIn K cd_row_at "row_at" = true)
    (k_row_at : PySem.W.keepIn K (.ref f_row_at) = true)
    (a_row_number : PySem.W.nsIn K mainGlobals "row_number" = some (some (.ref f_row_number)))
    (l_row_number : K.lookup f_row_number = some ⟨oc_row_number, od_row_number, .func (PySem.W.fnOf "row_number" "row_number" (defArgs s_row_number) (defBody s_row_number) (defScope s_row_number) .none kV_row_number dc_row_number pm_row_number an_row_number cd_row_number ct_row_number), sl_row_number⟩)
    (c_row_number : PySem.W.codeIn K cd_row_number "row_number" = true)
    (k_row_number : PySem.W.keepIn K (.ref f_row_number) = true)
    (a_row_numbered : PySem.W.nsIn K mainGlobals "row_numbered" = some (some (.ref f_row_numbered)))
    (l_row_numbered : K.lookup f_row_numbered = some ⟨oc_row_numbered, od_row_numbered, .func (PySem.W.fnOf "row_numbered" "row_numbered" (defArgs s_row_numbered) (defBody s_row_numbered) (defScope s_row_numbered) .none kV_row_numbered dc_row_numbered pm_row_numbered an_row_numbered cd_row_numbered ct_row_numbered), sl_row_numbered⟩)
    (c_row_numbered : PySem.W.codeIn K cd_row_numbered "row_numbered" = true)
    (k_row_numbered : PySem.W.keepIn K (.ref f_row_numbered) = true)
    (a_all_rows : PySem.W.nsIn K mainGlobals "all_rows" = some (some (.ref f_all_rows)))
    (l_all_rows : K.lookup f_all_rows = some ⟨oc_all_rows, od_all_rows, .func (PySem.W.fnOf "all_rows" "all_rows" (defArgs s_all_rows) (defBody s_all_rows) (defScope s_all_rows) .none kV_all_rows dc_all_rows pm_all_rows an_all_rows cd_all_rows ct_all_rows), sl_all_rows⟩)
    (c_all_rows : PySem.W.codeIn K cd_all_rows "all_rows" = true)
    (k_all_rows : PySem.W.keepIn K (.ref f_all_rows) = true)
    (a_law_falling : PySem.W.nsIn K mainGlobals "_law_falling" = some (some (.ref f_law_falling)))
    (l_law_falling : K.lookup f_law_falling = some ⟨oc_law_falling, od_law_falling, .func (PySem.W.fnOf "_law_falling" "_law_falling" (defArgs s_law_falling) (defBody s_law_falling) (defScope s_law_falling) .none kV_law_falling dc_law_falling pm_law_falling an_law_falling cd_law_falling ct_law_falling), sl_law_falling⟩)
    (c_law_falling : PySem.W.codeIn K cd_law_falling "_law_falling" = true)
    (k_law_falling : PySem.W.keepIn K (.ref f_law_falling) = true)
    (a_law_rows_of : PySem.W.nsIn K mainGlobals "_law_rows_of" = some (some (.ref f_law_rows_of)))
    (l_law_rows_of : K.lookup f_law_rows_of = some ⟨oc_law_rows_of, od_law_rows_of, .func (PySem.W.fnOf "_law_rows_of" "_law_rows_of" (defArgs s_law_rows_of) (defBody s_law_rows_of) (defScope s_law_rows_of) .none kV_law_rows_of dc_law_rows_of pm_law_rows_of an_law_rows_of cd_law_rows_of ct_law_rows_of), sl_law_rows_of⟩)
    (c_law_rows_of : PySem.W.codeIn K cd_law_rows_of "_law_rows_of" = true)
    (k_law_rows_of : PySem.W.keepIn K (.ref f_law_rows_of) = true)
    (a_law_exact : PySem.W.nsIn K mainGlobals "_law_exact" = some (some (.ref f_law_exact)))
    (l_law_exact : K.lookup f_law_exact = some ⟨oc_law_exact, od_law_exact, .func (PySem.W.fnOf "_law_exact" "_law_exact" (defArgs s_law_exact) (defBody s_law_exact) (defScope s_law_exact) .none kV_law_exact dc_law_exact pm_law_exact an_law_exact cd_law_exact ct_law_exact), sl_law_exact⟩)
    (c_law_exact : PySem.W.codeIn K cd_law_exact "_law_exact" = true)
    (k_law_exact : PySem.W.keepIn K (.ref f_law_exact) = true)
    (a_law_mix : PySem.W.nsIn K mainGlobals "_law_mix" = some (some (.ref f_law_mix)))
    (l_law_mix : K.lookup f_law_mix = some ⟨oc_law_mix, od_law_mix, .func (PySem.W.fnOf "_law_mix" "_law_mix" (defArgs s_law_mix) (defBody s_law_mix) (defScope s_law_mix) .none kV_law_mix dc_law_mix pm_law_mix an_law_mix cd_law_mix ct_law_mix), sl_law_mix⟩)
    (c_law_mix : PySem.W.codeIn K cd_law_mix "_law_mix" = true)
    (k_law_mix : PySem.W.keepIn K (.ref f_law_mix) = true)
    (a_law_draw : PySem.W.nsIn K mainGlobals "_law_draw" = some (some (.ref f_law_draw)))
    (l_law_draw : K.lookup f_law_draw = some ⟨oc_law_draw, od_law_draw, .func (PySem.W.fnOf "_law_draw" "_law_draw" (defArgs s_law_draw) (defBody s_law_draw) (defScope s_law_draw) .none kV_law_draw dc_law_draw pm_law_draw an_law_draw cd_law_draw ct_law_draw), sl_law_draw⟩)
    (c_law_draw : PySem.W.codeIn K cd_law_draw "_law_draw" = true)
    (k_law_draw : PySem.W.keepIn K (.ref f_law_draw) = true)
    (a_law_some_row : PySem.W.nsIn K mainGlobals "_law_some_row" = some (some (.ref f_law_some_row)))
    (l_law_some_row : K.lookup f_law_some_row = some ⟨oc_law_some_row, od_law_some_row, .func (PySem.W.fnOf "_law_some_row" "_law_some_row" (defArgs s_law_some_row) (defBody s_law_some_row) (defScope s_law_some_row) .none kV_law_some_row dc_law_some_row pm_law_some_row an_law_some_row cd_law_some_row ct_law_some_row), sl_law_some_row⟩)
    (c_law_some_row : PySem.W.codeIn K cd_law_some_row "_law_some_row" = true)
    (k_law_some_row : PySem.W.keepIn K (.ref f_law_some_row) = true)
    (a_law_seq : PySem.W.nsIn K mainGlobals "_law_seq" = some (some (.ref f_law_seq)))
    (l_law_seq : K.lookup f_law_seq = some ⟨oc_law_seq, od_law_seq, .func (PySem.W.fnOf "_law_seq" "_law_seq" (defArgs s_law_seq) (defBody s_law_seq) (defScope s_law_seq) .none kV_law_seq dc_law_seq pm_law_seq an_law_seq cd_law_seq ct_law_seq), sl_law_seq⟩)
    (c_law_seq : PySem.W.codeIn K cd_law_seq "_law_seq" = true)
    (k_law_seq : PySem.W.keepIn K (.ref f_law_seq) = true)
    (a_law_no_count : PySem.W.nsIn K mainGlobals "_law_no_count" = some (some (.ref f_law_no_count)))
    (l_law_no_count : K.lookup f_law_no_count = some ⟨oc_law_no_count, od_law_no_count, .func (PySem.W.fnOf "_law_no_count" "_law_no_count" (defArgs s_law_no_count) (defBody s_law_no_count) (defScope s_law_no_count) .none kV_law_no_count dc_law_no_count pm_law_no_count an_law_no_count cd_law_no_count ct_law_no_count), sl_law_no_count⟩)
    (c_law_no_count : PySem.W.codeIn K cd_law_no_count "_law_no_count" = true)
    (k_law_no_count : PySem.W.keepIn K (.ref f_law_no_count) = true)
    (a_law_hand : PySem.W.nsIn K mainGlobals "_law_hand" = some (some (.ref f_law_hand)))
    (l_law_hand : K.lookup f_law_hand = some ⟨oc_law_hand, od_law_hand, .func (PySem.W.fnOf "_law_hand" "_law_hand" (defArgs s_law_hand) (defBody s_law_hand) (defScope s_law_hand) .none kV_law_hand dc_law_hand pm_law_hand an_law_hand cd_law_hand ct_law_hand), sl_law_hand⟩)
    (c_law_hand : PySem.W.codeIn K cd_law_hand "_law_hand" = true)
    (k_law_hand : PySem.W.keepIn K (.ref f_law_hand) = true)
    (a_law_asked : PySem.W.nsIn K mainGlobals "_law_asked" = some (some (.ref f_law_asked)))
    (l_law_asked : K.lookup f_law_asked = some ⟨oc_law_asked, od_law_asked, .func (PySem.W.fnOf "_law_asked" "_law_asked" (defArgs s_law_asked) (defBody s_law_asked) (defScope s_law_asked) .none kV_law_asked dc_law_asked pm_law_asked an_law_asked cd_law_asked ct_law_asked), sl_law_asked⟩)
    (c_law_asked : PySem.W.codeIn K cd_law_asked "_law_asked" = true)
    (k_law_asked : PySem.W.keepIn K (.ref f_law_asked) = true)
    (a_law_of_row : PySem.W.nsIn K mainGlobals "_law_of_row" = some (some (.ref f_law_of_row)))
    (l_law_of_row : K.lookup f_law_of_row = some ⟨oc_law_of_row, od_law_of_row, .func (PySem.W.fnOf "_law_of_row" "_law_of_row" (defArgs s_law_of_row) (defBody s_law_of_row) (defScope s_law_of_row) .none kV_law_of_row dc_law_of_row pm_law_of_row an_law_of_row cd_law_of_row ct_law_of_row), sl_law_of_row⟩)
    (c_law_of_row : PySem.W.codeIn K cd_law_of_row "_law_of_row" = true)
    (k_law_of_row : PySem.W.keepIn K (.ref f_law_of_row) = true)
    (a_law_own_place : PySem.W.nsIn K mainGlobals "_law_own_place" = some (some (.ref f_law_own_place)))
    (l_law_own_place : K.lookup f_law_own_place = some ⟨oc_law_own_place, od_law_own_place, .func (PySem.W.fnOf "_law_own_place" "_law_own_place" (defArgs s_law_own_place) (defBody s_law_own_place) (defScope s_law_own_place) .none kV_law_own_place dc_law_own_place pm_law_own_place an_law_own_place cd_law_own_place ct_law_own_place), sl_law_own_place⟩)
    (c_law_own_place : PySem.W.codeIn K cd_law_own_place "_law_own_place" = true)
    (k_law_own_place : PySem.W.keepIn K (.ref f_law_own_place) = true)
    (a_law_listed : PySem.W.nsIn K mainGlobals "_law_listed" = some (some (.ref f_law_listed)))
    (l_law_listed : K.lookup f_law_listed = some ⟨oc_law_listed, od_law_listed, .func (PySem.W.fnOf "_law_listed" "_law_listed" (defArgs s_law_listed) (defBody s_law_listed) (defScope s_law_listed) .none kV_law_listed dc_law_listed pm_law_listed an_law_listed cd_law_listed ct_law_listed), sl_law_listed⟩)
    (c_law_listed : PySem.W.codeIn K cd_law_listed "_law_listed" = true)
    (k_law_listed : PySem.W.keepIn K (.ref f_law_listed) = true)
    (a_law_great : PySem.W.nsIn K mainGlobals "_law_great" = some (some (.ref f_law_great)))
    (l_law_great : K.lookup f_law_great = some ⟨oc_law_great, od_law_great, .func (PySem.W.fnOf "_law_great" "_law_great" (defArgs s_law_great) (defBody s_law_great) (defScope s_law_great) .none kV_law_great dc_law_great pm_law_great an_law_great cd_law_great ct_law_great), sl_law_great⟩)
    (c_law_great : PySem.W.codeIn K cd_law_great "_law_great" = true)
    (k_law_great : PySem.W.keepIn K (.ref f_law_great) = true)
    (a_law_spoilt_row : PySem.W.nsIn K mainGlobals "_law_spoilt_row" = some (some (.ref f_law_spoilt_row)))
    (l_law_spoilt_row : K.lookup f_law_spoilt_row = some ⟨oc_law_spoilt_row, od_law_spoilt_row, .func (PySem.W.fnOf "_law_spoilt_row" "_law_spoilt_row" (defArgs s_law_spoilt_row) (defBody s_law_spoilt_row) (defScope s_law_spoilt_row) .none kV_law_spoilt_row dc_law_spoilt_row pm_law_spoilt_row an_law_spoilt_row cd_law_spoilt_row ct_law_spoilt_row), sl_law_spoilt_row⟩)
    (c_law_spoilt_row : PySem.W.codeIn K cd_law_spoilt_row "_law_spoilt_row" = true)
    (k_law_spoilt_row : PySem.W.keepIn K (.ref f_law_spoilt_row) = true)
    (a_law_refused : PySem.W.nsIn K mainGlobals "_law_refused" = some (some (.ref f_law_refused)))
    (l_law_refused : K.lookup f_law_refused = some ⟨oc_law_refused, od_law_refused, .func (PySem.W.fnOf "_law_refused" "_law_refused" (defArgs s_law_refused) (defBody s_law_refused) (defScope s_law_refused) .none kV_law_refused dc_law_refused pm_law_refused an_law_refused cd_law_refused ct_law_refused), sl_law_refused⟩)
    (c_law_refused : PySem.W.codeIn K cd_law_refused "_law_refused" = true)
    (k_law_refused : PySem.W.keepIn K (.ref f_law_refused) = true)
    (a_law_classes : PySem.W.nsIn K mainGlobals "_law_classes" = some (some (.ref f_law_classes)))
    (l_law_classes : K.lookup f_law_classes = some ⟨oc_law_classes, od_law_classes, .func (PySem.W.fnOf "_law_classes" "_law_classes" (defArgs s_law_classes) (defBody s_law_classes) (defScope s_law_classes) .none kV_law_classes dc_law_classes pm_law_classes an_law_classes cd_law_classes ct_law_classes), sl_law_classes⟩)
    (c_law_classes : PySem.W.codeIn K cd_law_classes "_law_classes" = true)
    (k_law_classes : PySem.W.keepIn K (.ref f_law_classes) = true)
    (a_law : PySem.W.nsIn K mainGlobals "law" = some (some (.ref f_law)))
    (l_law : K.lookup f_law = some ⟨oc_law, od_law, .func (PySem.W.fnOf "law" "law" (defArgs s_law) (defBody s_law) (defScope s_law) .none kV_law dc_law pm_law an_law cd_law ct_law), sl_law⟩)
    (c_law : PySem.W.codeIn K cd_law "law" = true)
    (k_law : PySem.W.keepIn K (.ref f_law) = true)
    (z_ValueError : PySem.W.nsIn K mainGlobals "ValueError" = some none)
    (z_abs : PySem.W.nsIn K mainGlobals "abs" = some none)
    (z_bool : PySem.W.nsIn K mainGlobals "bool" = some none)
    (z_enumerate : PySem.W.nsIn K mainGlobals "enumerate" = some none)
    (z_int : PySem.W.nsIn K mainGlobals "int" = some none)
    (z_isinstance : PySem.W.nsIn K mainGlobals "isinstance" = some none)
    (z_len : PySem.W.nsIn K mainGlobals "len" = some none)
    (z_list : PySem.W.nsIn K mainGlobals "list" = some none)
    (z_range : PySem.W.nsIn K mainGlobals "range" = some none)
    (z_str : PySem.W.nsIn K mainGlobals "str" = some none)
    (z_sum : PySem.W.nsIn K mainGlobals "sum" = some none)
    (z_tuple : PySem.W.nsIn K mainGlobals "tuple" = some none)
    (m_MOST_FRAMES : PySem.W.nsIn K mainGlobals "MOST_FRAMES" = some (some (.int 24 tk_MOST_FRAMES)))
    : ∃ fd : FuncData, (∀ (s : Shared) (v : Value), BindsTo s fd ⟨[v], []⟩ [("_law_script", v)]) ∧ ∀ base : Heap, K.In base → base.Ns mainGlobals mg → FnOk l.prog w K mg base CX0 10 fa fd ["_law_script"] (spLaw K) := by
  have e : fa = f_law := Value.ref.inj (Option.some.inj (hfa.symm.trans (PySem.W.mg_of X G a_law)))
  rw [e]
  have T : Top K mg {
      c_FrameError := C_FrameError
      c_BadCount := C_BadCount
      c_BadRow := C_BadRow
      c_BadPlace := C_BadPlace
      f_BadCount_init := f_BadCount_init
      d_BadCount_init := (PySem.W.fnOf "__init__" "BadCount.__init__" (defArgs s_BadCount_init) (defBody s_BadCount_init) (defScope s_BadCount_init) .none kV_BadCount_init dc_BadCount_init pm_BadCount_init an_BadCount_init cd_BadCount_init ct_BadCount_init)
      f_BadRow_init := f_BadRow_init
      d_BadRow_init := (PySem.W.fnOf "__init__" "BadRow.__init__" (defArgs s_BadRow_init) (defBody s_BadRow_init) (defScope s_BadRow_init) .none kV_BadRow_init dc_BadRow_init pm_BadRow_init an_BadRow_init cd_BadRow_init ct_BadRow_init)
      f_is_whole := f_is_whole
      d_is_whole := (PySem.W.fnOf "is_whole" "is_whole" (defArgs s_is_whole) (defBody s_is_whole) (defScope s_is_whole) (.ref dT_is_whole) kV_is_whole dc_is_whole pm_is_whole an_is_whole cd_is_whole ct_is_whole)
      f_is_sequence := f_is_sequence
      d_is_sequence := (PySem.W.fnOf "is_sequence" "is_sequence" (defArgs s_is_sequence) (defBody s_is_sequence) (defScope s_is_sequence) .none kV_is_sequence dc_is_sequence pm_is_sequence an_is_sequence cd_is_sequence ct_is_sequence)
      f_check_count := f_check_count
      d_check_count := (PySem.W.fnOf "check_count" "check_count" (defArgs s_check_count) (defBody s_check_count) (defScope s_check_count) (.ref dT_check_count) kV_check_count dc_check_count pm_check_count an_check_count cd_check_count ct_check_count)
      f_row_fault := f_row_fault
      d_row_fault := (PySem.W.fnOf "row_fault" "row_fault" (defArgs s_row_fault) (defBody s_row_fault) (defScope s_row_fault) .none kV_row_fault dc_row_fault pm_row_fault an_row_fault cd_row_fault ct_row_fault)
      f_check_row := f_check_row
      d_check_row := (PySem.W.fnOf "check_row" "check_row" (defArgs s_check_row) (defBody s_check_row) (defScope s_check_row) .none kV_check_row dc_check_row pm_check_row an_check_row cd_check_row ct_check_row)
      f_ways_of := f_ways_of
      d_ways_of := (PySem.W.fnOf "ways_of" "ways_of" (defArgs s_ways_of) (defBody s_ways_of) (defScope s_ways_of) .none kV_ways_of dc_ways_of pm_ways_of an_ways_of cd_ways_of ct_ways_of)
      f_count_falling := f_count_falling
      d_count_falling := (PySem.W.fnOf "count_falling" "count_falling" (defArgs s_count_falling) (defBody s_count_falling) (defScope s_count_falling) .none kV_count_falling dc_count_falling pm_count_falling an_count_falling cd_count_falling ct_count_falling)
      f_count_all_rows := f_count_all_rows
      d_count_all_rows := (PySem.W.fnOf "count_all_rows" "count_all_rows" (defArgs s_count_all_rows) (defBody s_count_all_rows) (defScope s_count_all_rows) .none kV_count_all_rows dc_count_all_rows pm_count_all_rows an_count_all_rows cd_count_all_rows ct_count_all_rows)
      f_row_place := f_row_place
      d_row_place := (PySem.W.fnOf "row_place" "row_place" (defArgs s_row_place) (defBody s_row_place) (defScope s_row_place) .none kV_row_place dc_row_place pm_row_place an_row_place cd_row_place ct_row_place)
      f_row_of_place := f_row_of_place
      d_row_of_place := (PySem.W.fnOf "row_of_place" "row_of_place" (defArgs s_row_of_place) (defBody s_row_of_place) (defScope s_row_of_place) .none kV_row_of_place dc_row_of_place pm_row_of_place an_row_of_place cd_row_of_place ct_row_of_place)
      f_row_at := f_row_at
      d_row_at := (PySem.W.fnOf "row_at" "row_at" (defArgs s_row_at) (defBody s_row_at) (defScope s_row_at) .none kV_row_at dc_row_at pm_row_at an_row_at cd_row_at ct_row_at)
      f_row_number := f_row_number
      d_row_number := (PySem.W.fnOf "row_number" "row_number" (defArgs s_row_number) (defBody s_row_number) (defScope s_row_number) .none kV_row_number dc_row_number pm_row_number an_row_number cd_row_number ct_row_number)
      f_row_numbered := f_row_numbered
      d_row_numbered := (PySem.W.fnOf "row_numbered" "row_numbered" (defArgs s_row_numbered) (defBody s_row_numbered) (defScope s_row_numbered) .none kV_row_numbered dc_row_numbered pm_row_numbered an_row_numbered cd_row_numbered ct_row_numbered)
      f_all_rows := f_all_rows
      d_all_rows := (PySem.W.fnOf "all_rows" "all_rows" (defArgs s_all_rows) (defBody s_all_rows) (defScope s_all_rows) .none kV_all_rows dc_all_rows pm_all_rows an_all_rows cd_all_rows ct_all_rows)
      f_law_falling := f_law_falling
      d_law_falling := (PySem.W.fnOf "_law_falling" "_law_falling" (defArgs s_law_falling) (defBody s_law_falling) (defScope s_law_falling) .none kV_law_falling dc_law_falling pm_law_falling an_law_falling cd_law_falling ct_law_falling)
      f_law_rows_of := f_law_rows_of
      d_law_rows_of := (PySem.W.fnOf "_law_rows_of" "_law_rows_of" (defArgs s_law_rows_of) (defBody s_law_rows_of) (defScope s_law_rows_of) .none kV_law_rows_of dc_law_rows_of pm_law_rows_of an_law_rows_of cd_law_rows_of ct_law_rows_of)
      f_law_exact := f_law_exact
      d_law_exact := (PySem.W.fnOf "_law_exact" "_law_exact" (defArgs s_law_exact) (defBody s_law_exact) (defScope s_law_exact) .none kV_law_exact dc_law_exact pm_law_exact an_law_exact cd_law_exact ct_law_exact)
      f_law_mix := f_law_mix
      d_law_mix := (PySem.W.fnOf "_law_mix" "_law_mix" (defArgs s_law_mix) (defBody s_law_mix) (defScope s_law_mix) .none kV_law_mix dc_law_mix pm_law_mix an_law_mix cd_law_mix ct_law_mix)
      f_law_draw := f_law_draw
      d_law_draw := (PySem.W.fnOf "_law_draw" "_law_draw" (defArgs s_law_draw) (defBody s_law_draw) (defScope s_law_draw) .none kV_law_draw dc_law_draw pm_law_draw an_law_draw cd_law_draw ct_law_draw)
      f_law_some_row := f_law_some_row
      d_law_some_row := (PySem.W.fnOf "_law_some_row" "_law_some_row" (defArgs s_law_some_row) (defBody s_law_some_row) (defScope s_law_some_row) .none kV_law_some_row dc_law_some_row pm_law_some_row an_law_some_row cd_law_some_row ct_law_some_row)
      f_law_seq := f_law_seq
      d_law_seq := (PySem.W.fnOf "_law_seq" "_law_seq" (defArgs s_law_seq) (defBody s_law_seq) (defScope s_law_seq) .none kV_law_seq dc_law_seq pm_law_seq an_law_seq cd_law_seq ct_law_seq)
      f_law_no_count := f_law_no_count
      d_law_no_count := (PySem.W.fnOf "_law_no_count" "_law_no_count" (defArgs s_law_no_count) (defBody s_law_no_count) (defScope s_law_no_count) .none kV_law_no_count dc_law_no_count pm_law_no_count an_law_no_count cd_law_no_count ct_law_no_count)
      f_law_hand := f_law_hand
      d_law_hand := (PySem.W.fnOf "_law_hand" "_law_hand" (defArgs s_law_hand) (defBody s_law_hand) (defScope s_law_hand) .none kV_law_hand dc_law_hand pm_law_hand an_law_hand cd_law_hand ct_law_hand)
      f_law_asked := f_law_asked
      d_law_asked := (PySem.W.fnOf "_law_asked" "_law_asked" (defArgs s_law_asked) (defBody s_law_asked) (defScope s_law_asked) .none kV_law_asked dc_law_asked pm_law_asked an_law_asked cd_law_asked ct_law_asked)
      f_law_of_row := f_law_of_row
      d_law_of_row := (PySem.W.fnOf "_law_of_row" "_law_of_row" (defArgs s_law_of_row) (defBody s_law_of_row) (defScope s_law_of_row) .none kV_law_of_row dc_law_of_row pm_law_of_row an_law_of_row cd_law_of_row ct_law_of_row)
      f_law_own_place := f_law_own_place
      d_law_own_place := (PySem.W.fnOf "_law_own_place" "_law_own_place" (defArgs s_law_own_place) (defBody s_law_own_place) (defScope s_law_own_place) .none kV_law_own_place dc_law_own_place pm_law_own_place an_law_own_place cd_law_own_place ct_law_own_place)
      f_law_listed := f_law_listed
      d_law_listed := (PySem.W.fnOf "_law_listed" "_law_listed" (defArgs s_law_listed) (defBody s_law_listed) (defScope s_law_listed) .none kV_law_listed dc_law_listed pm_law_listed an_law_listed cd_law_listed ct_law_listed)
      f_law_great := f_law_great
      d_law_great := (PySem.W.fnOf "_law_great" "_law_great" (defArgs s_law_great) (defBody s_law_great) (defScope s_law_great) .none kV_law_great dc_law_great pm_law_great an_law_great cd_law_great ct_law_great)
      f_law_spoilt_row := f_law_spoilt_row
      d_law_spoilt_row := (PySem.W.fnOf "_law_spoilt_row" "_law_spoilt_row" (defArgs s_law_spoilt_row) (defBody s_law_spoilt_row) (defScope s_law_spoilt_row) .none kV_law_spoilt_row dc_law_spoilt_row pm_law_spoilt_row an_law_spoilt_row cd_law_spoilt_row ct_law_spoilt_row)
      f_law_refused := f_law_refused
      d_law_refused := (PySem.W.fnOf "_law_refused" "_law_refused" (defArgs s_law_refused) (defBody s_law_refused) (defScope s_law_refused) .none kV_law_refused dc_law_refused pm_law_refused an_law_refused cd_law_refused ct_law_refused)
      f_law_classes := f_law_classes
      d_law_classes := (PySem.W.fnOf "_law_classes" "_law_classes" (defArgs s_law_classes) (defBody s_law_classes) (defScope s_law_classes) .none kV_law_classes dc_law_classes pm_law_classes an_law_classes cd_law_classes ct_law_classes)
      f_law := f_law
      d_law := (PySem.W.fnOf "law" "law" (defArgs s_law) (defBody s_law) (defScope s_law) .none kV_law dc_law pm_law an_law cd_law ct_law)
      } := {
      gc_FrameError := PySem.W.mg_of X G a_FrameError
      x_FrameError := ⟨⟨_, _, _, _, _, _, _, _, _, _, _, _, _, _, _, xL_FrameError, by first | decide +kernel | rfl | simp [PySem.HandSPX.refsVE]⟩, sa_FrameError, eC_FrameError, tC_FrameError, kC_FrameError⟩
      xf_FrameError := ⟨ga_FrameError, gg_FrameError, eC_FrameError, hC_FrameError⟩
      xc_FrameError := ⟨ga_FrameError, gg_FrameError, eC_FrameError, hC_FrameError, cC_FrameError, sg, tg, mC_FrameError⟩
      ex_FrameError_FrameError := PySem.W.exm_ref eC_FrameError hC_FrameError tC_FrameError sb_FrameError_FrameError
      ki_FrameError_FrameError := kit_own iC_FrameError tC_FrameError sb_FrameError_FrameError sb_FrameError_FrameError
      ex_FrameError_BadCount := PySem.W.exm_ref eC_BadCount hC_BadCount tC_BadCount sb_FrameError_BadCount
      ki_FrameError_BadCount := kit_own iC_BadCount tC_BadCount sb_FrameError_BadCount sb_BadCount_BadCount
      ex_FrameError_BadRow := PySem.W.exm_ref eC_BadRow hC_BadRow tC_BadRow sb_FrameError_BadRow
      ki_FrameError_BadRow := kit_own iC_BadRow tC_BadRow sb_FrameError_BadRow sb_BadRow_BadRow
      ex_FrameError_BadPlace := PySem.W.exm_ref eC_BadPlace hC_BadPlace tC_BadPlace sb_FrameError_BadPlace
      ki_FrameError_BadPlace := kit_own iC_BadPlace tC_BadPlace sb_FrameError_BadPlace sb_BadPlace_BadPlace
      gc_BadCount := PySem.W.mg_of X G a_BadCount
      x_BadCount := ⟨⟨_, _, _, _, _, _, _, _, _, _, _, _, _, _, _, xL_BadCount, by first | decide +kernel | rfl | simp [PySem.HandSPX.refsVE]⟩, sa_BadCount, eC_BadCount, tC_BadCount, kC_BadCount⟩
      xf_BadCount := ⟨ga_BadCount, gg_BadCount, eC_BadCount, hC_BadCount⟩
      xc_BadCount := ⟨ga_BadCount, gg_BadCount, eC_BadCount, hC_BadCount, cC_BadCount, sg, tg, mC_BadCount⟩
      ex_BadCount_FrameError := PySem.W.exm_ref eC_FrameError hC_FrameError tC_FrameError sb_BadCount_FrameError
      ki_BadCount_FrameError := kit_own iC_FrameError tC_FrameError sb_BadCount_FrameError sb_FrameError_FrameError
      ex_BadCount_BadCount := PySem.W.exm_ref eC_BadCount hC_BadCount tC_BadCount sb_BadCount_BadCount
      ki_BadCount_BadCount := kit_own iC_BadCount tC_BadCount sb_BadCount_BadCount sb_BadCount_BadCount
      ex_BadCount_BadRow := PySem.W.exm_ref eC_BadRow hC_BadRow tC_BadRow sb_BadCount_BadRow
      ki_BadCount_BadRow := kit_own iC_BadRow tC_BadRow sb_BadCount_BadRow sb_BadRow_BadRow
      ex_BadCount_BadPlace := PySem.W.exm_ref eC_BadPlace hC_BadPlace tC_BadPlace sb_BadCount_BadPlace
      ki_BadCount_BadPlace := kit_own iC_BadPlace tC_BadPlace sb_BadCount_BadPlace sb_BadPlace_BadPlace
      no_BadCount_most := no_BadCount_most
      in_BadCount := a_BadCount_init
      ti_BadCount := i_BadCount_init
      gc_BadRow := PySem.W.mg_of X G a_BadRow
      x_BadRow := ⟨⟨_, _, _, _, _, _, _, _, _, _, _, _, _, _, _, xL_BadRow, by first | decide +kernel | rfl | simp [PySem.HandSPX.refsVE]⟩, sa_BadRow, eC_BadRow, tC_BadRow, kC_BadRow⟩
      xf_BadRow := ⟨ga_BadRow, gg_BadRow, eC_BadRow, hC_BadRow⟩
      xc_BadRow := ⟨ga_BadRow, gg_BadRow, eC_BadRow, hC_BadRow, cC_BadRow, sg, tg, mC_BadRow⟩
      ex_BadRow_FrameError := PySem.W.exm_ref eC_FrameError hC_FrameError tC_FrameError sb_BadRow_FrameError
      ki_BadRow_FrameError := kit_own iC_FrameError tC_FrameError sb_BadRow_FrameError sb_FrameError_FrameError
      ex_BadRow_BadCount := PySem.W.exm_ref eC_BadCount hC_BadCount tC_BadCount sb_BadRow_BadCount
      ki_BadRow_BadCount := kit_own iC_BadCount tC_BadCount sb_BadRow_BadCount sb_BadCount_BadCount
      ex_BadRow_BadRow := PySem.W.exm_ref eC_BadRow hC_BadRow tC_BadRow sb_BadRow_BadRow
      ki_BadRow_BadRow := kit_own iC_BadRow tC_BadRow sb_BadRow_BadRow sb_BadRow_BadRow
      ex_BadRow_BadPlace := PySem.W.exm_ref eC_BadPlace hC_BadPlace tC_BadPlace sb_BadRow_BadPlace
      ki_BadRow_BadPlace := kit_own iC_BadPlace tC_BadPlace sb_BadRow_BadPlace sb_BadPlace_BadPlace
      no_BadRow_at := no_BadRow_at
      in_BadRow := a_BadRow_init
      ti_BadRow := i_BadRow_init
      gc_BadPlace := PySem.W.mg_of X G a_BadPlace
      x_BadPlace := ⟨⟨_, _, _, _, _, _, _, _, _, _, _, _, _, _, _, xL_BadPlace, by first | decide +kernel | rfl | simp [PySem.HandSPX.refsVE]⟩, sa_BadPlace, eC_BadPlace, tC_BadPlace, kC_BadPlace⟩
      xf_BadPlace := ⟨ga_BadPlace, gg_BadPlace, eC_BadPlace, hC_BadPlace⟩
      xc_BadPlace := ⟨ga_BadPlace, gg_BadPlace, eC_BadPlace, hC_BadPlace, cC_BadPlace, sg, tg, mC_BadPlace⟩
      ex_BadPlace_FrameError := PySem.W.exm_ref eC_FrameError hC_FrameError tC_FrameError sb_BadPlace_FrameError
      ki_BadPlace_FrameError := kit_own iC_FrameError tC_FrameError sb_BadPlace_FrameError sb_FrameError_FrameError
      ex_BadPlace_BadCount := PySem.W.exm_ref eC_BadCount hC_BadCount tC_BadCount sb_BadPlace_BadCount
      ki_BadPlace_BadCount := kit_own iC_BadCount tC_BadCount sb_BadPlace_BadCount sb_BadCount_BadCount
      ex_BadPlace_BadRow := PySem.W.exm_ref eC_BadRow hC_BadRow tC_BadRow sb_BadPlace_BadRow
      ki_BadPlace_BadRow := kit_own iC_BadRow tC_BadRow sb_BadPlace_BadRow sb_BadRow_BadRow
      ex_BadPlace_BadPlace := PySem.W.exm_ref eC_BadPlace hC_BadPlace tC_BadPlace sb_BadPlace_BadPlace
      ki_BadPlace_BadPlace := kit_own iC_BadPlace tC_BadPlace sb_BadPlace_BadPlace sb_BadPlace_BadPlace
      xe_BadPlace := xe_BadPlace
      kp_BadPlace := kC_BadPlace
      be_BadPlace := eC_BadPlace
      ty_BadPlace := tC_BadPlace
      st_FrameError := st_FrameError
      ki_FrameError_ValueError := kit_ownTy (by decide +kernel) sv_FrameError_ValueError
      st_BadCount := st_BadCount
      ki_BadCount_ValueError := kit_ownTy (by decide +kernel) sv_BadCount_ValueError
      st_BadRow := st_BadRow
      ki_BadRow_ValueError := kit_ownTy (by decide +kernel) sv_BadRow_ValueError
      st_BadPlace := st_BadPlace
      ki_BadPlace_ValueError := kit_ownTy (by decide +kernel) sv_BadPlace_ValueError
      F_BadCount_init := fun_mk (st := s_BadCount_init) l_BadCount_init c_BadCount_init k_BadCount_init
      b_BadCount_init := (fun_mk (st := s_BadCount_init) l_BadCount_init c_BadCount_init k_BadCount_init).binds (ps := ["self", "most"]) fun _ _ _ _ _ _ us hl => match us, hl with | [_, _], _ => rfl
      F_BadRow_init := fun_mk (st := s_BadRow_init) l_BadRow_init c_BadRow_init k_BadRow_init
      b_BadRow_init := (fun_mk (st := s_BadRow_init) l_BadRow_init c_BadRow_init k_BadRow_init).binds (ps := ["self", "at"]) fun _ _ _ _ _ _ us hl => match us, hl with | [_, _], _ => rfl
      g_is_whole := PySem.W.mg_of X G a_is_whole
      F_is_whole := ⟨⟨oc_is_whole, od_is_whole, (.ref dT_is_whole), kV_is_whole, dc_is_whole, pm_is_whole, an_is_whole, cd_is_whole, ct_is_whole, sl_is_whole, rfl, l_is_whole, c_is_whole, .inr ⟨by simp, dT_is_whole, _, _, dn_is_whole, rfl, lt_is_whole, rfl, .cons rfl (.cons rfl (.nil))⟩, .inl rfl⟩, k_is_whole⟩
      g_is_sequence := PySem.W.mg_of X G a_is_sequence
      F_is_sequence := fun_mk (st := s_is_sequence) l_is_sequence c_is_sequence k_is_sequence
      b_is_sequence := (fun_mk (st := s_is_sequence) l_is_sequence c_is_sequence k_is_sequence).binds (ps := ["thing"]) fun _ _ _ _ _ _ us hl => match us, hl with | [_], _ => rfl
      g_check_count := PySem.W.mg_of X G a_check_count
      F_check_count := ⟨⟨oc_check_count, od_check_count, (.ref dT_check_count), kV_check_count, dc_check_count, pm_check_count, an_check_count, cd_check_count, ct_check_count, sl_check_count, rfl, l_check_count, c_check_count, .inr ⟨by simp, dT_check_count, _, _, dn_check_count, rfl, lt_check_count, rfl, .cons ⟨_, rfl⟩ (.nil)⟩, .inl rfl⟩, k_check_count⟩
      g_row_fault := PySem.W.mg_of X G a_row_fault
      F_row_fault := fun_mk (st := s_row_fault) l_row_fault c_row_fault k_row_fault
      b_row_fault := (fun_mk (st := s_row_fault) l_row_fault c_row_fault k_row_fault).binds (ps := ["allowed", "row"]) fun _ _ _ _ _ _ us hl => match us, hl with | [_, _], _ => rfl
      g_check_row := PySem.W.mg_of X G a_check_row
      F_check_row := fun_mk (st := s_check_row) l_check_row c_check_row k_check_row
      b_check_row := (fun_mk (st := s_check_row) l_check_row c_check_row k_check_row).binds (ps := ["m", "row"]) fun _ _ _ _ _ _ us hl => match us, hl with | [_, _], _ => rfl
      g_ways_of := PySem.W.mg_of X G a_ways_of
      F_ways_of := fun_mk (st := s_ways_of) l_ways_of c_ways_of k_ways_of
      b_ways_of := (fun_mk (st := s_ways_of) l_ways_of c_ways_of k_ways_of).binds (ps := ["m", "d"]) fun _ _ _ _ _ _ us hl => match us, hl with | [_, _], _ => rfl
      g_count_falling := PySem.W.mg_of X G a_count_falling
      F_count_falling := fun_mk (st := s_count_falling) l_count_falling c_count_falling k_count_falling
      b_count_falling := (fun_mk (st := s_count_falling) l_count_falling c_count_falling k_count_falling).binds (ps := ["m", "d"]) fun _ _ _ _ _ _ us hl => match us, hl with | [_, _], _ => rfl
      g_count_all_rows := PySem.W.mg_of X G a_count_all_rows
      F_count_all_rows := fun_mk (st := s_count_all_rows) l_count_all_rows c_count_all_rows k_count_all_rows
      b_count_all_rows := (fun_mk (st := s_count_all_rows) l_count_all_rows c_count_all_rows k_count_all_rows).binds (ps := ["m"]) fun _ _ _ _ _ _ us hl => match us, hl with | [_], _ => rfl
      g_row_place := PySem.W.mg_of X G a_row_place
      F_row_place := fun_mk (st := s_row_place) l_row_place c_row_place k_row_place
      b_row_place := (fun_mk (st := s_row_place) l_row_place c_row_place k_row_place).binds (ps := ["m", "row"]) fun _ _ _ _ _ _ us hl => match us, hl with | [_, _], _ => rfl
      g_row_of_place := PySem.W.mg_of X G a_row_of_place
      F_row_of_place := fun_mk (st := s_row_of_place) l_row_of_place c_row_of_place k_row_of_place
      b_row_of_place := (fun_mk (st := s_row_of_place) l_row_of_place c_row_of_place k_row_of_place).binds (ps := ["m", "d", "place"]) fun _ _ _ _ _ _ us hl => match us, hl with | [_, _, _], _ => rfl
      g_row_at := PySem.W.mg_of X G a_row_at
      F_row_at := fun_mk (st := s_row_at) l_row_at c_row_at k_row_at
      b_row_at := (fun_mk (st := s_row_at) l_row_at c_row_at k_row_at).binds (ps := ["m", "d", "place"]) fun _ _ _ _ _ _ us hl => match us, hl with | [_, _, _], _ => rfl
      g_row_number := PySem.W.mg_of X G a_row_number
      F_row_number := fun_mk (st := s_row_number) l_row_number c_row_number k_row_number
      b_row_number := (fun_mk (st := s_row_number) l_row_number c_row_number k_row_number).binds (ps := ["m", "row"]) fun _ _ _ _ _ _ us hl => match us, hl with | [_, _], _ => rfl
      g_row_numbered := PySem.W.mg_of X G a_row_numbered
      F_row_numbered := fun_mk (st := s_row_numbered) l_row_numbered c_row_numbered k_row_numbered
      b_row_numbered := (fun_mk (st := s_row_numbered) l_row_numbered c_row_numbered k_row_numbered).binds (ps := ["m", "number"]) fun _ _ _ _ _ _ us hl => match us, hl with | [_, _], _ => rfl
      g_all_rows := PySem.W.mg_of X G a_all_rows
      F_all_rows := fun_mk (st := s_all_rows) l_all_rows c_all_rows k_all_rows
      b_all_rows := (fun_mk (st := s_all_rows) l_all_rows c_all_rows k_all_rows).binds (ps := ["m"]) fun _ _ _ _ _ _ us hl => match us, hl with | [_], _ => rfl
      g_law_falling := PySem.W.mg_of X G a_law_falling
      F_law_falling := fun_mk (st := s_law_falling) l_law_falling c_law_falling k_law_falling
      b_law_falling := (fun_mk (st := s_law_falling) l_law_falling c_law_falling k_law_falling).binds (ps := ["_law_m", "_law_d"]) fun _ _ _ _ _ _ us hl => match us, hl with | [_, _], _ => rfl
      g_law_rows_of := PySem.W.mg_of X G a_law_rows_of
      F_law_rows_of := fun_mk (st := s_law_rows_of) l_law_rows_of c_law_rows_of k_law_rows_of
      b_law_rows_of := (fun_mk (st := s_law_rows_of) l_law_rows_of c_law_rows_of k_law_rows_of).binds (ps := ["_law_m", "_law_d"]) fun _ _ _ _ _ _ us hl => match us, hl with | [_, _], _ => rfl
      g_law_exact := PySem.W.mg_of X G a_law_exact
      F_law_exact := fun_mk (st := s_law_exact) l_law_exact c_law_exact k_law_exact
      b_law_exact := (fun_mk (st := s_law_exact) l_law_exact c_law_exact k_law_exact).binds (ps := ["_law_told", "_law_due"]) fun _ _ _ _ _ _ us hl => match us, hl with | [_, _], _ => rfl
      g_law_mix := PySem.W.mg_of X G a_law_mix
      F_law_mix := fun_mk (st := s_law_mix) l_law_mix c_law_mix k_law_mix
      b_law_mix := (fun_mk (st := s_law_mix) l_law_mix c_law_mix k_law_mix).binds (ps := ["_law_number", "_law_turn"]) fun _ _ _ _ _ _ us hl => match us, hl with | [_, _], _ => rfl
      g_law_draw := PySem.W.mg_of X G a_law_draw
      F_law_draw := fun_mk (st := s_law_draw) l_law_draw c_law_draw k_law_draw
      b_law_draw := (fun_mk (st := s_law_draw) l_law_draw c_law_draw k_law_draw).binds (ps := ["_law_hand_here", "_law_many"]) fun _ _ _ _ _ _ us hl => match us, hl with | [_, _], _ => rfl
      g_law_some_row := PySem.W.mg_of X G a_law_some_row
      F_law_some_row := fun_mk (st := s_law_some_row) l_law_some_row c_law_some_row k_law_some_row
      b_law_some_row := (fun_mk (st := s_law_some_row) l_law_some_row c_law_some_row k_law_some_row).binds (ps := ["_law_hand_here", "_law_m", "_law_d"]) fun _ _ _ _ _ _ us hl => match us, hl with | [_, _, _], _ => rfl
      g_law_seq := PySem.W.mg_of X G a_law_seq
      F_law_seq := fun_mk (st := s_law_seq) l_law_seq c_law_seq k_law_seq
      b_law_seq := (fun_mk (st := s_law_seq) l_law_seq c_law_seq k_law_seq).binds (ps := ["_law_hand_here", "_law_row"]) fun _ _ _ _ _ _ us hl => match us, hl with | [_, _], _ => rfl
      g_law_no_count := PySem.W.mg_of X G a_law_no_count
      F_law_no_count := fun_mk (st := s_law_no_count) l_law_no_count c_law_no_count k_law_no_count
      b_law_no_count := (fun_mk (st := s_law_no_count) l_law_no_count c_law_no_count k_law_no_count).binds (ps := ["_law_hand_here", "_law_most"]) fun _ _ _ _ _ _ us hl => match us, hl with | [_, _], _ => rfl
      g_law_hand := PySem.W.mg_of X G a_law_hand
      F_law_hand := fun_mk (st := s_law_hand) l_law_hand c_law_hand k_law_hand
      b_law_hand := (fun_mk (st := s_law_hand) l_law_hand c_law_hand k_law_hand).binds (ps := ["_law_script"]) fun _ _ _ _ _ _ us hl => match us, hl with | [_], _ => rfl
      g_law_asked := PySem.W.mg_of X G a_law_asked
      F_law_asked := fun_mk (st := s_law_asked) l_law_asked c_law_asked k_law_asked
      b_law_asked := (fun_mk (st := s_law_asked) l_law_asked c_law_asked k_law_asked).binds (ps := ["_law_which", "_law_one", "_law_two", "_law_three"]) fun _ _ _ _ _ _ us hl => match us, hl with | [_, _, _, _], _ => rfl
      g_law_of_row := PySem.W.mg_of X G a_law_of_row
      F_law_of_row := fun_mk (st := s_law_of_row) l_law_of_row c_law_of_row k_law_of_row
      b_law_of_row := (fun_mk (st := s_law_of_row) l_law_of_row c_law_of_row k_law_of_row).binds (ps := ["_law_which", "_law_m", "_law_row"]) fun _ _ _ _ _ _ us hl => match us, hl with | [_, _, _], _ => rfl
      g_law_own_place := PySem.W.mg_of X G a_law_own_place
      F_law_own_place := fun_mk (st := s_law_own_place) l_law_own_place c_law_own_place k_law_own_place
      b_law_own_place := (fun_mk (st := s_law_own_place) l_law_own_place c_law_own_place k_law_own_place).binds (ps := ["_law_m", "_law_row"]) fun _ _ _ _ _ _ us hl => match us, hl with | [_, _], _ => rfl
      g_law_listed := PySem.W.mg_of X G a_law_listed
      F_law_listed := fun_mk (st := s_law_listed) l_law_listed c_law_listed k_law_listed
      b_law_listed := (fun_mk (st := s_law_listed) l_law_listed c_law_listed k_law_listed).binds (ps := ["_law_m"]) fun _ _ _ _ _ _ us hl => match us, hl with | [_], _ => rfl
      g_law_great := PySem.W.mg_of X G a_law_great
      F_law_great := fun_mk (st := s_law_great) l_law_great c_law_great k_law_great
      b_law_great := (fun_mk (st := s_law_great) l_law_great c_law_great k_law_great).binds (ps := ["_law_hand_here"]) fun _ _ _ _ _ _ us hl => match us, hl with | [_], _ => rfl
      g_law_spoilt_row := PySem.W.mg_of X G a_law_spoilt_row
      F_law_spoilt_row := fun_mk (st := s_law_spoilt_row) l_law_spoilt_row c_law_spoilt_row k_law_spoilt_row
      b_law_spoilt_row := (fun_mk (st := s_law_spoilt_row) l_law_spoilt_row c_law_spoilt_row k_law_spoilt_row).binds (ps := ["_law_hand_here", "_law_m", "_law_row"]) fun _ _ _ _ _ _ us hl => match us, hl with | [_, _, _], _ => rfl
      g_law_refused := PySem.W.mg_of X G a_law_refused
      F_law_refused := fun_mk (st := s_law_refused) l_law_refused c_law_refused k_law_refused
      b_law_refused := (fun_mk (st := s_law_refused) l_law_refused c_law_refused k_law_refused).binds (ps := ["_law_hand_here"]) fun _ _ _ _ _ _ us hl => match us, hl with | [_], _ => rfl
      g_law_classes := PySem.W.mg_of X G a_law_classes
      F_law_classes := fun_mk (st := s_law_classes) l_law_classes c_law_classes k_law_classes
      b_law_classes := (fun_mk (st := s_law_classes) l_law_classes c_law_classes k_law_classes).binds (ps := []) fun _ _ _ _ _ _ us hl => match us, hl with | [], _ => rfl
      g_law := PySem.W.mg_of X G a_law
      F_law := fun_mk (st := s_law) l_law c_law k_law
      b_law := (fun_mk (st := s_law) l_law c_law k_law).binds (ps := ["_law_script"]) fun _ _ _ _ _ _ us hl => match us, hl with | [_], _ => rfl
      n_ValueError := PySem.W.mg_none_of X G z_ValueError
      n_abs := PySem.W.mg_none_of X G z_abs
      n_bool := PySem.W.mg_none_of X G z_bool
      n_enumerate := PySem.W.mg_none_of X G z_enumerate
      n_int := PySem.W.mg_none_of X G z_int
      n_isinstance := PySem.W.mg_none_of X G z_isinstance
      n_len := PySem.W.mg_none_of X G z_len
      n_list := PySem.W.mg_none_of X G z_list
      n_range := PySem.W.mg_none_of X G z_range
      n_str := PySem.W.mg_none_of X G z_str
      n_sum := PySem.W.mg_none_of X G z_sum
      n_tuple := PySem.W.mg_none_of X G z_tuple
      m_MOST_FRAMES := ⟨_, PySem.W.mg_of X G m_MOST_FRAMES⟩
      }
  exact ⟨_, fun s v => .of_eq rfl, fun base _ _ => ok_law T⟩
end LW
open PySem PySem.W PyProof.Rows
set_option maxRecDepth 100000 in
set_option maxHeartbeats 0 in
theorem PySem.Challenge.cw_spentframes_k07_whole_rows_counted_and_f_holds : PySem.Challenge.rw_spentframes_k07_whole_rows_counted_and_f.Holds := by
  w_on; o_law; k_head; (case hw => w_witness2)
  k_fill
  refine L2.walk_of (l := PySem.Challenge.rw_spentframes_k07_whole_rows_counted_and_f) (n := 63) (k := 10) (x := "_law_script") (CX := fun _ => L2.CX0) (sp := fun w => LW.spLaw _) rfl (by decide) rfl ⟨rfl, by decide, by decide⟩ (fun w h Y => PySem.W.kIn_of Y) ?F (fun _ _ a ns hl _ hS => ⟨a, ns, rfl, hS, hl, fun _ => rfl⟩) (fun _ _ _ _ _ z => z)
  case F =>
    intro w mg fa h KX G hmg
    refine' LW.all_mk KX G hmg ?a_FrameError ?a_BadCount ?a_BadRow ?a_BadPlace ?xL_FrameError ?sa_FrameError ?ga_FrameError ?gg_FrameError ?eC_FrameError ?tC_FrameError ?kC_FrameError ?hC_FrameError ?iC_FrameError ?cC_FrameError ?mC_FrameError ?sb_FrameError_FrameError ?sb_FrameError_BadCount ?sb_FrameError_BadRow ?sb_FrameError_BadPlace ?st_FrameError ?sv_FrameError_ValueError ?xL_BadCount ?sa_BadCount ?ga_BadCount ?gg_BadCount ?eC_BadCount ?tC_BadCount ?kC_BadCount ?hC_BadCount ?iC_BadCount ?cC_BadCount ?mC_BadCount ?sb_BadCount_FrameError ?sb_BadCount_BadCount ?sb_BadCount_BadRow ?sb_BadCount_BadPlace ?no_BadCount_most ?st_BadCount ?sv_BadCount_ValueError ?xL_BadRow ?sa_BadRow ?ga_BadRow ?gg_BadRow ?eC_BadRow ?tC_BadRow ?kC_BadRow ?hC_BadRow ?iC_BadRow ?cC_BadRow ?mC_BadRow ?sb_BadRow_FrameError ?sb_BadRow_BadCount ?sb_BadRow_BadRow ?sb_BadRow_BadPlace ?no_BadRow_at ?st_BadRow ?sv_BadRow_ValueError ?xL_BadPlace ?sa_BadPlace ?ga_BadPlace ?gg_BadPlace ?eC_BadPlace ?tC_BadPlace ?kC_BadPlace ?hC_BadPlace ?iC_BadPlace ?cC_BadPlace ?mC_BadPlace ?sb_BadPlace_FrameError ?sb_BadPlace_BadCount ?sb_BadPlace_BadRow ?sb_BadPlace_BadPlace ?st_BadPlace ?sv_BadPlace_ValueError ?xe_BadPlace ?sg ?tg ?a_BadCount_init ?i_BadCount_init ?l_BadCount_init ?c_BadCount_init ?k_BadCount_init ?a_BadRow_init ?i_BadRow_init ?l_BadRow_init ?c_BadRow_init ?k_BadRow_init ?a_is_whole ?l_is_whole ?lt_is_whole ?c_is_whole ?k_is_whole ?a_is_sequence ?l_is_sequence ?c_is_sequence ?k_is_sequence ?a_check_count ?l_check_count ?lt_check_count ?c_check_count ?k_check_count ?a_row_fault ?l_row_fault ?c_row_fault ?k_row_fault ?a_check_row ?l_check_row ?c_check_row ?k_check_row ?a_ways_of ?l_ways_of ?c_ways_of ?k_ways_of ?a_count_falling ?l_count_falling ?c_count_falling ?k_count_falling ?a_count_all_rows ?l_count_all_rows ?c_count_all_rows ?k_count_all_rows ?a_row_place ?l_row_place ?c_row_place ?k_row_place ?a_row_of_place ?l_row_of_place ?c_row_of_place ?k_row_of_place ?a_row_at ?l_row_at ?c_row_at ?k_row_at ?a_row_number ?l_row_number ?c_row_number ?k_row_number ?a_row_numbered ?l_row_numbered ?c_row_numbered ?k_row_numbered ?a_all_rows ?l_all_rows ?c_all_rows ?k_all_rows ?a_law_falling ?l_law_falling ?c_law_falling ?k_law_falling ?a_law_rows_of ?l_law_rows_of ?c_law_rows_of ?k_law_rows_of ?a_law_exact ?l_law_exact ?c_law_exact ?k_law_exact ?a_law_mix ?l_law_mix ?c_law_mix ?k_law_mix ?a_law_draw ?l_law_draw ?c_law_draw ?k_law_draw ?a_law_some_row ?l_law_some_row ?c_law_some_row ?k_law_some_row ?a_law_seq ?l_law_seq ?c_law_seq ?k_law_seq ?a_law_no_count ?l_law_no_count ?c_law_no_count ?k_law_no_count ?a_law_hand ?l_law_hand ?c_law_hand ?k_law_hand ?a_law_asked ?l_law_asked ?c_law_asked ?k_law_asked ?a_law_of_row ?l_law_of_row ?c_law_of_row ?k_law_of_row ?a_law_own_place ?l_law_own_place ?c_law_own_place ?k_law_own_place ?a_law_listed ?l_law_listed ?c_law_listed ?k_law_listed ?a_law_great ?l_law_great ?c_law_great ?k_law_great ?a_law_spoilt_row ?l_law_spoilt_row ?c_law_spoilt_row ?k_law_spoilt_row ?a_law_refused ?l_law_refused ?c_law_refused ?k_law_refused ?a_law_classes ?l_law_classes ?c_law_classes ?k_law_classes ?a_law ?l_law ?c_law ?k_law ?z_ValueError ?z_abs ?z_bool ?z_enumerate ?z_int ?z_isinstance ?z_len ?z_list ?z_range ?z_str ?z_sum ?z_tuple ?m_MOST_FRAMES
    (case a_FrameError => k_is)
    (case a_BadCount => k_is)
    (case a_BadRow => k_is)
    (case a_BadPlace => k_is)
    (case xL_FrameError => k_is)
    (case sa_FrameError => k_is)
    (case ga_FrameError => k_is)
    (case gg_FrameError => k_is)
    (case eC_FrameError => k_is)
    (case tC_FrameError => k_is)
    (case kC_FrameError => k_is)
    (case hC_FrameError => k_is)
    (case iC_FrameError => k_is)
    (case cC_FrameError => k_is)
    (case mC_FrameError => k_is)
    (case sb_FrameError_FrameError => k_is)
    (case sb_FrameError_BadCount => k_is)
    (case sb_FrameError_BadRow => k_is)
    (case sb_FrameError_BadPlace => k_is)
    (case st_FrameError => k_is)
    (case sv_FrameError_ValueError => k_is)
    (case xL_BadCount => k_is)
    (case sa_BadCount => k_is)
    (case ga_BadCount => k_is)
    (case gg_BadCount => k_is)
    (case eC_BadCount => k_is)
    (case tC_BadCount => k_is)
    (case kC_BadCount => k_is)
    (case hC_BadCount => k_is)
    (case iC_BadCount => k_is)
    (case cC_BadCount => k_is)
    (case mC_BadCount => k_is)
    (case sb_BadCount_FrameError => k_is)
    (case sb_BadCount_BadCount => k_is)
    (case sb_BadCount_BadRow => k_is)
    (case sb_BadCount_BadPlace => k_is)
    (case no_BadCount_most => k_is)
    (case st_BadCount => k_is)
    (case sv_BadCount_ValueError => k_is)
    (case xL_BadRow => k_is)
    (case sa_BadRow => k_is)
    (case ga_BadRow => k_is)
    (case gg_BadRow => k_is)
    (case eC_BadRow => k_is)
    (case tC_BadRow => k_is)
    (case kC_BadRow => k_is)
    (case hC_BadRow => k_is)
    (case iC_BadRow => k_is)
    (case cC_BadRow => k_is)
    (case mC_BadRow => k_is)
    (case sb_BadRow_FrameError => k_is)
    (case sb_BadRow_BadCount => k_is)
    (case sb_BadRow_BadRow => k_is)
    (case sb_BadRow_BadPlace => k_is)
    (case no_BadRow_at => k_is)
    (case st_BadRow => k_is)
    (case sv_BadRow_ValueError => k_is)
    (case xL_BadPlace => k_is)
    (case sa_BadPlace => k_is)
    (case ga_BadPlace => k_is)
    (case gg_BadPlace => k_is)
    (case eC_BadPlace => k_is)
    (case tC_BadPlace => k_is)
    (case kC_BadPlace => k_is)
    (case hC_BadPlace => k_is)
    (case iC_BadPlace => k_is)
    (case cC_BadPlace => k_is)
    (case mC_BadPlace => k_is)
    (case sb_BadPlace_FrameError => k_is)
    (case sb_BadPlace_BadCount => k_is)
    (case sb_BadPlace_BadRow => k_is)
    (case sb_BadPlace_BadPlace => k_is)
    (case st_BadPlace => k_is)
    (case sv_BadPlace_ValueError => k_is)
    (case xe_BadPlace => k_exc)
    (case sg => k_is)
    (case tg => k_is)
    (case a_BadCount_init => k_is)
    (case i_BadCount_init => k_is)
    (case l_BadCount_init => k_is)
    (case c_BadCount_init => k_is)
    (case k_BadCount_init => k_is)
    (case a_BadRow_init => k_is)
    (case i_BadRow_init => k_is)
    (case l_BadRow_init => k_is)
    (case c_BadRow_init => k_is)
    (case k_BadRow_init => k_is)
    (case a_is_whole => k_is)
    (case l_is_whole => k_is)
    (case lt_is_whole => k_is)
    (case c_is_whole => k_is)
    (case k_is_whole => k_is)
    (case a_is_sequence => k_is)
    (case l_is_sequence => k_is)
    (case c_is_sequence => k_is)
    (case k_is_sequence => k_is)
    (case a_check_count => k_is)
    (case l_check_count => k_is)
    (case lt_check_count => k_is)
    (case c_check_count => k_is)
    (case k_check_count => k_is)
    (case a_row_fault => k_is)
    (case l_row_fault => k_is)
    (case c_row_fault => k_is)
    (case k_row_fault => k_is)
    (case a_check_row => k_is)
    (case l_check_row => k_is)
    (case c_check_row => k_is)
    (case k_check_row => k_is)
    (case a_ways_of => k_is)
    (case l_ways_of => k_is)
    (case c_ways_of => k_is)
    (case k_ways_of => k_is)
    (case a_count_falling => k_is)
    (case l_count_falling => k_is)
    (case c_count_falling => k_is)
    (case k_count_falling => k_is)
    (case a_count_all_rows => k_is)
    (case l_count_all_rows => k_is)
    (case c_count_all_rows => k_is)
    (case k_count_all_rows => k_is)
    (case a_row_place => k_is)
    (case l_row_place => k_is)
    (case c_row_place => k_is)
    (case k_row_place => k_is)
    (case a_row_of_place => k_is)
    (case l_row_of_place => k_is)
    (case c_row_of_place => k_is)
    (case k_row_of_place => k_is)
    (case a_row_at => k_is)
    (case l_row_at => k_is)
    (case c_row_at => k_is)
    (case k_row_at => k_is)
    (case a_row_number => k_is)
    (case l_row_number => k_is)
    (case c_row_number => k_is)
    (case k_row_number => k_is)
    (case a_row_numbered => k_is)
    (case l_row_numbered => k_is)
    (case c_row_numbered => k_is)
    (case k_row_numbered => k_is)
    (case a_all_rows => k_is)
    (case l_all_rows => k_is)
    (case c_all_rows => k_is)
    (case k_all_rows => k_is)
    (case a_law_falling => k_is)
    (case l_law_falling => k_is)
    (case c_law_falling => k_is)
    (case k_law_falling => k_is)
    (case a_law_rows_of => k_is)
    (case l_law_rows_of => k_is)
    (case c_law_rows_of => k_is)
    (case k_law_rows_of => k_is)
    (case a_law_exact => k_is)
    (case l_law_exact => k_is)
    (case c_law_exact => k_is)
    (case k_law_exact => k_is)
    (case a_law_mix => k_is)
    (case l_law_mix => k_is)
    (case c_law_mix => k_is)
    (case k_law_mix => k_is)
    (case a_law_draw => k_is)
    (case l_law_draw => k_is)
    (case c_law_draw => k_is)
    (case k_law_draw => k_is)
    (case a_law_some_row => k_is)
    (case l_law_some_row => k_is)
    (case c_law_some_row => k_is)
    (case k_law_some_row => k_is)
    (case a_law_seq => k_is)
    (case l_law_seq => k_is)
    (case c_law_seq => k_is)
    (case k_law_seq => k_is)
    (case a_law_no_count => k_is)
    (case l_law_no_count => k_is)
    (case c_law_no_count => k_is)
    (case k_law_no_count => k_is)
    (case a_law_hand => k_is)
    (case l_law_hand => k_is)
    (case c_law_hand => k_is)
    (case k_law_hand => k_is)
    (case a_law_asked => k_is)
    (case l_law_asked => k_is)
    (case c_law_asked => k_is)
    (case k_law_asked => k_is)
    (case a_law_of_row => k_is)
    (case l_law_of_row => k_is)
    (case c_law_of_row => k_is)
    (case k_law_of_row => k_is)
    (case a_law_own_place => k_is)
    (case l_law_own_place => k_is)
    (case c_law_own_place => k_is)
    (case k_law_own_place => k_is)
    (case a_law_listed => k_is)
    (case l_law_listed => k_is)
    (case c_law_listed => k_is)
    (case k_law_listed => k_is)
    (case a_law_great => k_is)
    (case l_law_great => k_is)
    (case c_law_great => k_is)
    (case k_law_great => k_is)
    (case a_law_spoilt_row => k_is)
    (case l_law_spoilt_row => k_is)
    (case c_law_spoilt_row => k_is)
    (case k_law_spoilt_row => k_is)
    (case a_law_refused => k_is)
    (case l_law_refused => k_is)
    (case c_law_refused => k_is)
    (case k_law_refused => k_is)
    (case a_law_classes => k_is)
    (case l_law_classes => k_is)
    (case c_law_classes => k_is)
    (case k_law_classes => k_is)
    (case a_law => k_is)
    (case l_law => k_is)
    (case c_law => k_is)
    (case k_law => k_is)
    (case z_ValueError => k_is)
    (case z_abs => k_is)
    (case z_bool => k_is)
    (case z_enumerate => k_is)
    (case z_int => k_is)
    (case z_isinstance => k_is)
    (case z_len => k_is)
    (case z_list => k_is)
    (case z_range => k_is)
    (case z_str => k_is)
    (case z_sum => k_is)
    (case z_tuple => k_is)
    (case m_MOST_FRAMES => k_is)
#print axioms PySem.Challenge.cw_spentframes_k07_whole_rows_counted_and_f_holds

