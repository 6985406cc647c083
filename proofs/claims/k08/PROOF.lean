import PyProof.Rows.All
import Wide.All
import OpenK.AllK
import Wide.FinOn
import PySem.Challenge.RW_spentframes_k08_whole_rows_among_frames
import KE.GoesMore
import KE.GoesEnum
import HandS.ForMost
import HandS.ForExc
import HandS.Walk
import HandS.Deep
import HandS.IsInst
import HandS.Conv
import HandS.TupAny
import HandS.TupLe
import HandS.ExcInit
import HandS.ExcField
import HandS.ExcIs
import HandS.Defaults
import HandS.Flow
import HandS.Strs
import HandS.Wide
set_option Elab.async false
set_option linter.all false
set_option maxRecDepth 100000
set_option maxHeartbeats 4000000
/-! Own rules beside the hand layer: walks over a list or a tuple, enumerate of a tuple, tuple.index of flat items. -/
namespace L3
open PySem PySem.Spec PyProof.Rows L2

/-! ### one of two readings of what is walked -/
theorem piOr {X : Cx} {tg e : Expr} {t u : TI} (h : PI X tg e t) (h' : PI X tg e u) :
    PI X tg e (fun σ H R => t σ H R ∨ u σ H R) := by
  constructor
  intro pins s σ H R I q
  cases q with
  | inl q => exact h.run pins s σ H R I q
  | inr q => exact h'.run pins s σ H R I q
def iSeq (K : PySem.W.Frag) (tl : TE) : TI := fun σ H R => iList K tl σ H R ∨ iTup K tl σ H R
theorem pi_seq {X : Cx} {tg l : Expr} {tl : TE} (hl : PE X l tl) : PI X tg l (iSeq X.K tl) :=
  piOr (pi_list hl) (pi_tup hl)

/-! ### enumerate of a tuple -/
def IteT (K : PySem.W.Frag) (a : Addr) : It where
  go := fun i H => ∃ (xs : List V) (x : V), SqT K H a xs ∧ xs[i]? = some x
  yld := fun i H v H' => ∃ T x, v = .ref T ∧ H T = none ∧ H' = upd H T (.tup [.int (i : Nat), x]) ∧
    ∀ xs, SqT K H a xs → xs[i]? = some x
  stop := fun i H => ∃ xs : List V, SqT K H a xs ∧ xs.length = i
theorem enum_ne_tup {h : Heap} {e it a : Addr} {i : Int} {old : Value} {items : Array Value}
    (he : IsEnum h e it i old) (p : h.IsTuple a items) : e ≠ a := by
  intro z
  obtain ⟨o, ho, hc, _⟩ := p
  rw [← z] at ho
  have q := he.symm.trans ho
  have q' := Option.some.inj q
  rw [← q'] at hc
  exact absurd (show Value.type "enumerate" = Value.type "tuple" from hc) (by decide)
theorem iter_ne_tup {h : Heap} {it a : Addr} {i : Nat} {items : Array Value}
    (hi : h.IsTupleIter it a i) (p : h.IsTuple a items) : a ≠ it := by
  intro z
  obtain ⟨o, ho, hc, _⟩ := p
  obtain ⟨o', ho', hc', _⟩ := hi
  rw [z] at ho
  have q := Option.some.inj (ho.symm.trans ho')
  subst q
  rw [hc] at hc'
  exact absurd hc' (by decide)
theorem turn_enumT {P : Program} {w : World} {K : PySem.W.Frag} {elts : List Expr} {kk : Nat} {tpos : Pos} (a e it : Addr) :
    Turn P w K (.Tuple elts kk tpos) (IteT K a) [e, it] e
      (fun i h => (∃ old, IsEnum h e it ((i : Nat) : Int) old) ∧ h.IsTupleIter it a i ∧ e ≠ it) where
  mem := by simp
  obj := by
    intro i h st b hb
    obtain ⟨⟨old, he⟩, ⟨o, ho, hc, hd⟩, _⟩ := st
    have e' : b = e ∨ b = it := by simpa using hb
    cases e' with
    | inl z => subst z; exact ⟨_, he, fun v q => nomatch q⟩
    | inr z => subst z; exact ⟨o, ho, fun v q => by rw [hd] at q; cases q⟩
  keep := by
    intro i h h' st k
    obtain ⟨⟨old, he⟩, hi, hne⟩ := st
    exact ⟨⟨old, k e (by simp) _ he⟩, hi.at fun o q => k it (by simp) o q, hne⟩
  item := by
    intro X hP hw hK hc i pins s σ H E I hf st hg
    subst hP hw hK
    obtain ⟨⟨old, he⟩, hit, hne⟩ := st
    obtain ⟨xs, x, hq, hx⟩ := hg
    obtain ⟨its, rv, p, hz⟩ := I.tuple hq
    obtain ⟨u, hu, ru⟩ := rv.get hx
    have hel : e < s.heap.objs.size := Heap.lt_size he
    have hil : it < s.heap.objs.size := by
      obtain ⟨_, q, _⟩ := hit
      exact Heap.lt_size q
    have p' : s.heap.IsTuple a its.toArray := p
    have n1 : e ≠ a := enum_ne_tup he p'
    have n2 : a ≠ it := iter_ne_tup hit p'
    have hh : X.A.in1.handled = none := I.ok.hd hc
    have D := Draws.tuple (prog := X.prog) (w := X.w) (A := X.A.in1) hh it a n2 its.toArray
    have hlt : i < its.toArray.size := by
      rw [List.size_toArray]
      exact (List.getElem?_eq_some_iff.mp hu).1
    have nef : e ∉ [it, a] := by simp [hne, n1]
    refine wpAny_pyNext_enum_itemD D he ⟨hit, p'⟩ hlt hne nef fun y h' tk hy ho hit' hT hsz hk => ?_
    have ey : y = u := by
      have hu' : its.toArray[i]? = some u := by simpa using hu
      exact Option.some.inj (hy.symm.trans hu')
    subst ey
    refine ⟨_, rfl, wpAny_letOwnedTupleGo_enum (s := { s with heap := h', toks := tk + 1 }) ho fun h'' he' sb => ?_⟩
    have hT2 : h''.get? s.heap.objs.size = some { cls := .type "tuple", data := .seq #[.int i tk, y] } :=
      (sb.2 _ (Nat.ne_of_gt hel)).trans hT
    have new : ObjOk X.prog X.w (upd H s.heap.objs.size (.tup [.int (i : Nat), x])) h'' s.heap.objs.size (.tup [.int (i : Nat), x]) :=
      ⟨by show 2 ≤ sizeLine; decide, [.int i tk, y], .cons ⟨_, rfl⟩ (.cons ru .nil), ⟨_, hT2, rfl, _, rfl⟩⟩
    have I1 : Inv X pins σ (upd H s.heap.objs.size (.tup [.int (i : Nat), x])) { s with heap := h'', toks := tk + 1 } := by
      refine I.turnedNew (ch := [e, it]) (fun b ob hb q => ?_) hf (Nat.le_refl _) new
      have b1 : b ≠ e := fun z => hb (by simp [z])
      have b2 : b ≠ it := fun z => hb (by simp [z])
      exact (sb.2 b b1).trans (hk b ob b1 b2 q)
    refine ⟨.ref s.heap.objs.size, _, I1, rfl, ⟨_, x, rfl, I.hok.fresh (Nat.le_refl _), rfl, fun ys hy' => ?_⟩, ⟨⟨y, ?_⟩, ?_, hne⟩, fun b hb => ?_⟩
    · rw [I.tuple_inj hy' hq]; exact hx
    · have e1 : ((i + 1 : Nat) : Int) = (i : Int) + 1 := by omega
      rw [e1]; exact he'
    · exact hit'.1.at fun o q => (sb.2 it (Ne.symm hne)).trans q
    · have hb' : b < s.heap.objs.size := by
        have e' : b = e ∨ b = it := by simpa using hb
        cases e' with
        | inl z => rw [z]; exact hel
        | inr z => rw [z]; exact hil
      rw [upd_ne (Nat.ne_of_lt hb')]
      exact (hf b hb).1
  done := by
    intro X hP hw hK hc i pins s σ H E I hf st hg
    subst hP hw hK
    obtain ⟨⟨old, he⟩, hit, hne⟩ := st
    obtain ⟨xs, hq, hx⟩ := hg
    obtain ⟨its, rv, p, hz⟩ := I.tuple hq
    obtain ⟨f0, f1, f2, f3, f4, f5⟩ := hf it (by simp)
    have p' : s.heap.IsTuple a its.toArray := p
    have n2 : a ≠ it := iter_ne_tup hit p'
    have hh : X.A.in1.handled = none := I.ok.hd hc
    have D := Draws.tuple (prog := X.prog) (w := X.w) (A := X.A.in1) hh it a n2 its.toArray
    have hi : i = its.toArray.size := by rw [List.size_toArray, ← rv.length]; exact hx.symm
    subst hi
    exact wpAny_pyNext_enum_endD D he ⟨hit, p'⟩ fun h' eb => ⟨rfl, I.turned (t' := s.toks) (fun b o hb q => eb b o hb q) f0 f1 f3 f4 f5⟩
  self := by
    intro A i s Q E st h
    obtain ⟨⟨_, he⟩, _⟩ := st
    exact wpAny_pyIter_enum he h

theorem meets_enum_tup (l : Addr) (items : Array Value) (n : Nat) (dct : Option Addr) (sl : Array (Option Value)) :
    Meets (Builtin.«enumerate.__new__» ⟨[.type "enumerate", .ref l], []⟩) (fun _ R s =>
      s.heap.get? l = some { cls := .type "tuple", dict := dct, data := .seq items n, slots := sl } ∧
      R (.ok (.ret (.ref (s.heap.push { cls := .type "tuple_iterator", data := .fields #[.ref l, .int 0 0] }).objs.size)))
        { s with heap := ((s.heap.push { cls := .type "tuple_iterator", data := .fields #[.ref l, .int 0 0] }).push { cls := .type "enumerate", data := .fields #[.none, .bool false, .ref s.heap.objs.size, rawInt 0, .none, .none] }) }) :=
  .of_wp fun prog w A R s h => by
    obtain ⟨hp, g, d, tk, os⟩ := s
    obtain ⟨hl, h⟩ := h
    have hsub := sub_enumerate
    have hL : Heap.IsTuple (Shared.heap ⟨hp, g, d, tk, os⟩) l items := ⟨_, hl, rfl, n, rfl⟩
    wp_walk using AutoSeq1.wpAny_loadPart' hl
    refine wpAny_stack_any fun st => wpAny_pure ?_
    split
    · rename_i c _ _ _ _ _
      cases (c == Value.type "enumerate")
      · wp_walk using AutoSeq1.wpAny_loadPart' hl, wpAny_pyIter_tuple hL
        exact ⟨_, rfl, h⟩
      · wp_walk using AutoSeq1.wpAny_loadPart' hl, wpAny_pyIter_tuple hL
        exact ⟨_, rfl, h⟩
    · wp_walk using AutoSeq1.wpAny_loadPart' hl, wpAny_pyIter_tuple hL
      exact ⟨_, rfl, h⟩
theorem call_enum_tup {prog : Program} {w : World} {A : Around} {E : Value → Shared → Prop} {s : Shared} {l : Addr} {items : Array Value}
    {Q : Value → Shared → Prop} (hL : s.heap.IsTuple l items)
    (h : ∀ h', IsEnum h' (s.heap.objs.size + 1) s.heap.objs.size 0 .none → h'.IsTupleIter s.heap.objs.size l 0 →
      h'.objs.size = s.heap.objs.size + 2 → (∀ b o, s.heap.get? b = some o → h'.get? b = some o) →
      Q (.ref (s.heap.objs.size + 1)) { s with heap := h' }) :
    wpAny (model prog w) A (call (.type "enumerate") [.ref l]) Q E s := by
  obtain ⟨⟨c, dct, dt, sl⟩, hl, hc, n, hd⟩ := hL
  replace hc : c = .type "tuple" := hc
  replace hd : dt = .seq items n := hd
  subst hc hd
  refine callType_new F.called_enumerate (by decide) (F.typeCall_enumerate_1 _) (F.newCall_enumerate_1 _)
    (fun obj => F.args_object_init_2 obj _) F.entry_enumerate_new (meets_enum_tup l items n dct sl) ⟨hl, ?_⟩
  have hz : (s.heap.push { cls := .type "tuple_iterator", data := .fields #[.ref l, .int 0 0] }).objs.size = s.heap.objs.size + 1 :=
    Heap.size_push ..
  show _ ∧ _
  rw [hz]
  have he : IsEnum ((s.heap.push { cls := .type "tuple_iterator", data := .fields #[.ref l, .int 0 0] }).push
      { cls := .type "enumerate", data := .fields #[.none, .bool false, .ref s.heap.objs.size, rawInt 0, .none, .none] })
      (s.heap.objs.size + 1) s.heap.objs.size 0 .none := by
    have q := Heap.get?_push_size (s.heap.push { cls := .type "tuple_iterator", data := .fields #[.ref l, .int 0 0] })
      (o := { cls := .type "enumerate", data := .fields #[.none, .bool false, .ref s.heap.objs.size, rawInt 0, .none, .none] }) rfl
    rw [hz] at q
    exact q
  have hi : ((s.heap.push { cls := .type "tuple_iterator", data := .fields #[.ref l, .int 0 0] }).push
      { cls := .type "enumerate", data := .fields #[.none, .bool false, .ref s.heap.objs.size, rawInt 0, .none, .none] }).IsTupleIter s.heap.objs.size l 0 :=
    ⟨_, Heap.get?_push_of_some _ (Heap.get?_push_size _ rfl), rfl, rfl⟩
  refine ⟨⟨_, he, rfl⟩, h _ he hi (by rw [Heap.size_push, hz]) fun b o x => ?_⟩
  exact Heap.get?_push_of_some _ (Heap.get?_push_of_some _ x)
def iEnumT (K : PySem.W.Frag) (ta : TA) : TI := fun σ H R => ta σ H fun vs H1 => ∃ a xs, vs = [.ref a] ∧ SqT K H1 a xs ∧ R (IteT K a) H1
theorem pi_enumT {X : Cx} {e : Expr} {ta : TA} {p pos tpos : Pos} {elts : List Expr} {kk : Nat} (hg : Gl X "enumerate")
    (hm : X.mg "enumerate" = none) (ha : PA X [e] ta) (hs : starEach [e] X.env = [(false, eval e X.env)] := by rfl) :
    PI X (.Tuple elts kk tpos) (.Call (.Name "enumerate" p) [e] [] pos) (iEnumT X.K ta) := by
  constructor
  intro pins s σ H R I h
  refine Call_ (ld_blt I hg hm boot_enumerate (PyProof.Rows.callWith_type1 (thn (ha.run pos pins s σ H _ I h) fun us s1 hh => ?_) hs rfl))
  obtain ⟨vs, H1, I1, r1, a, xs, ex, hq, q⟩ := hh
  subst ex
  cases r1 with
  | cons r rr =>
    cases rr
    cases r
    obtain ⟨its, rv, p', hz⟩ := I1.tuple hq
    refine call_enum_tup (show s1.heap.IsTuple a its.toArray from p') fun h' he hit hsz hk => wpAny_pyIter_enum he ?_
    have I2 : Inv X pins σ H1 { s1 with heap := h' } := I1.kept (t' := s1.toks) hk
    refine ⟨s1.heap.objs.size + 1, [s1.heap.objs.size + 1, s1.heap.objs.size], _, _, H1, rfl, I2,
      turn_enumT a (s1.heap.objs.size + 1) s1.heap.objs.size, ⟨⟨.none, he⟩, hit, Nat.succ_ne_self _⟩, fun b hb => ?_, q⟩
    have e' : b = s1.heap.objs.size + 1 ∨ b = s1.heap.objs.size := by simpa using hb
    have hle : s1.heap.objs.size ≤ b := by
      cases e' with
      | inl z => rw [z]; exact Nat.le_add_right _ _
      | inr z => rw [z]; exact Nat.le_refl _
    exact I1.fpOk hle (I1.hok.fresh hle)
def iEnumS (K : PySem.W.Frag) (ta : TA) : TI := fun σ H R => iEnum K ta σ H R ∨ iEnumT K ta σ H R
theorem pi_enumS {X : Cx} {e : Expr} {ta : TA} {p pos tpos : Pos} {elts : List Expr} {kk : Nat} (hg : Gl X "enumerate")
    (hm : X.mg "enumerate" = none) (ha : PA X [e] ta) (hs : starEach [e] X.env = [(false, eval e X.env)] := by rfl) :
    PI X (.Tuple elts kk tpos) (.Call (.Name "enumerate" p) [e] [] pos) (iEnumS X.K ta) :=
  piOr (pi_enum hg hm ha hs) (pi_enumT hg hm ha hs)
theorem walk_enumT {K : PySem.W.Frag} {a : Addr} {xs : List V} :
    Walk (IteT K a) xs.length (fun H => SqT K H a xs) (YPair (fun i => some (.int (i : Nat))) (fun i => xs[i]?)) := by
  refine ⟨fun i _ hi q => ⟨xs, xs[i], q, by simp [hi]⟩, fun _ q => ⟨xs, q, rfl⟩, fun i H v H' _ q y => ?_⟩
  obtain ⟨T, x, h1, h2, h3, h4⟩ := y
  exact ⟨T, .int (i : Nat), x, h1, h2, h3, rfl, h4 xs q⟩

/-! ### tuple.index over flat items -/
def rIndexT (K : PySem.W.Frag) : V → List V → Hp → VK → Prop := fun x xs H Q => ∃ (a : Addr) (ys : List V) (y : V) (j : Nat) (z : V),
  x = V.ref a ∧ xs = [y] ∧ SqT K H a ys ∧ flatV y = true ∧ ys.all flatV = true ∧ ys[j]? = some z ∧ eqV z y = true ∧
  (∀ (m : Nat) (z' : V), m < j → ys[m]? = some z' → eqV z' y = false) ∧ Q (.int (j : Nat)) H
theorem mt_indexT {X : Cx} : MtR X "tuple.index" (rIndexT X.K) := by
  intro pins s σ H x xs v us Q I rx rs h
  obtain ⟨p, ys, y, j, z, rfl, rfl, hq, fy, fys, hy, hz1, hno, q⟩ := h
  cases rx
  cases rs with
  | cons ry rt =>
    rename_i uy ut
    cases rt
    obtain ⟨its, r, pl, hz⟩ := I.tuple hq
    obtain ⟨⟨cls, dd, dt, sl⟩, ho, hc, n, hd⟩ := pl
    simp only at hc hd
    subst hc
    subst hd
    have hl : its.toArray.size = ys.length := by rw [List.size_toArray, ← r.length]
    have hj : j < its.toArray.size := by rw [hl]; exact (List.getElem?_eq_some_iff.mp hy).1
    have eqAt : ∀ (m : Nat) (hm : m < its.toArray.size), ∃ w, ys[m]? = some w ∧ eqU y its.toArray[m] = eqV w y := by
      intro m hm
      have hm' : m < ys.length := by rw [← hl]; exact hm
      obtain ⟨u', hu', ru'⟩ := r.get (i := m) (x := ys[m]) (by simp [hm'])
      refine ⟨ys[m], List.getElem?_eq_getElem hm', ?_⟩
      have e0 : its.toArray[m] = u' := by
        have e1 := (List.getElem?_eq_some_iff.mp hu').2
        rw [← e1]
        simp
      rw [e0]
      exact eqU_of ru' (flat_at fys (List.getElem?_eq_getElem hm'))
    refine call_meets PySem.F.slot_tuple_index ⟨_, ho, rfl⟩ PySem.F.entry_tuple_index (PySem.F.args_tuple_index_2 _ _)
      (TI.tuple_indexAt p its.toArray n dd sl uy (eqU y) j hj ?_ ?_)
      ⟨ho, fun w hw => mem_eqAt ry fy r fys w (by simpa using hw), ⟨.int (j : Nat), H, I.tok _, ⟨_, rfl⟩, q⟩⟩
    · obtain ⟨w, h1, h2⟩ := eqAt j hj
      rw [hy] at h1
      cases h1
      rw [h2]
      exact hz1
    · intro m hm hmj
      obtain ⟨w, h1, h2⟩ := eqAt m hm
      rw [h2]
      exact hno m w hmj h1

/-! ### several except clauses, each with a name -/
/-- one clause: the class, the name's slot, the suite's reading -/
structure Cl where
  c : Value
  i : Nat
  ts : Addr → Value → Option Addr → TS
def wMas (K : PySem.W.Frag) (Wout : WX) (D : Ends) : List Cl → WX
  | [] => Wout
  | k :: r => wAs K k.c k.i k.ts (wMas K Wout D r) D
inductive HdsAs (X : Cx) : List ExceptHandler → List Cl → Prop
  | nil : HdsAs X [] []
  | cons {x n : Str} {c : Value} {i : Nat} {ts : Addr → Value → Option Addr → TS} {b₀ : Stmt} {suite : List Stmt} {np pos' : Pos}
      {hds : List ExceptHandler} {l : List Cl} (hi : X.N[i]? = some n) (hln : X.env.kindOf n = some .local) (hc : Names X x c)
      (hsu : ∀ (a : Addr) (oe : Obj) (cls : Value) (d : Option Addr) (pn : List (Addr × Obj)), Zc cls d oe →
        (∃ vs, oe.data = .fields vs) → PSs (X.suite a ((a, oe) :: pn)) (b₀ :: suite) (ts a cls d))
      (r : HdsAs X hds l) :
      HdsAs X (.ExceptHandler (some (.Name x np)) (some n) (b₀ :: suite) pos' :: hds) (⟨c, i, ts⟩ :: l)
section
variable {X : Cx} {body : List Stmt} {h₀ : ExceptHandler} {hds : List ExceptHandler} {l : List Cl} {pos : Pos} {tb : WX → TS} {Wout : WX}
/-- the clauses one after another, the exception on the ground at h3 -/
theorem mas_go {pins : List (Addr × Obj)} {σ' : L2.St} {H' : Hp} {sI s' : Shared} {a : Addr} {B : Heap} {cls : Value} {d : Option Addr} {D : Ends}
    {h3 : Heap} (ok : X.Ok) (hs : X.stack = X.env :: X.outer) (hf : X.env.frame = some X.env.locals) (hN : X.N.Nodup) (tk : Takes X Wout)
    (J : Inv X pins σ' H' sI) (nb : ∀ b o, sI.heap.get? b = some o → b ∉ frs X.stack → B.get? b = some o)
    (up : sI.heap.UpToSlots h3) (na : H' a = none) (os : s'.os = sI.os) (ag : AllBare s'.gens)
    (fl3 : HandSPX.FlyingZ B (X.env :: X.outer) a (Zc cls d) h3) :
    ∀ {hds' : List ExceptHandler} {l' : List Cl}, HdsAs X hds' l' → wMas X.K Wout D l' cls d σ' H' →
      wpAny (model X.prog X.w) X.A (handleBy (.ref a) X.env hds') (SP X pins D) X.xe { s' with heap := h3 } := by
  have J3 : Inv X pins σ' H' { s' with heap := h3 } := J.landed nb fl3.1 up os ag
  obtain ⟨oe3, vs3, he3, hz3, hd3⟩ := fl3.there
  have nfr : a ∉ frs (X.env :: X.outer) := by
    intro hm
    obtain ⟨_, o', e', hnf⟩ := fl3.2.2.1.mem hm
    rw [he3] at e'
    cases e'
    exact hnf _ hd3
  have nL : a ≠ X.env.locals := by
    intro z
    exact nfr (List.mem_filterMap.mpr ⟨X.env, List.mem_cons_self, by rw [hf, z]⟩)
  have nF : a ∉ X.fs := by
    intro hm
    obtain ⟨e, he, q⟩ := List.mem_filterMap.mp hm
    exact nfr (List.mem_filterMap.mpr ⟨e, List.mem_cons_of_mem _ he, q⟩)
  have S3 := J3.suite he3 hd3 na nL nF
  have LT : PySem.W.Looks (model X.prog X.w) h3 (typeOf (.ref a)) cls := by
    intro A Q E s k q
    exact wpAny_typeOf_ref (k _ _ he3) (by rw [hz3.1]; exact q)
  intro hds' l' hk
  induction hk with
  | nil =>
    intro w
    refine wpAny_handleBy_nil ?_
    obtain ⟨k1, k2, k3, oe, vs, T, oT, ts', he, hz, hd, h1, hr⟩ := id fl3
    unfold PySem.passOn
    refine wpAny_bind (wpAny_field he hd h1 ?_)
    rw [if_neg (show ¬ ((Value.ref T == Value.none) = true) by simp)]
    have fin : wpAny (model X.prog X.w) X.A (setFlight (.ref a) X.env.frame)
        (fun _ s4 => wpAny (model X.prog X.w) X.A (throw (.ref a) : Sem Flow) (SP X pins D) X.xe s4) X.xe { s' with heap := h3 } := by
      rw [hf]
      refine HandSPX.setFlight_upZ fl3 fun h4 hh4 up4 => ?_
      refine wpAny_throw (tk _ _ ?_)
      exact ⟨a, B, sI, pins, σ', H', cls, d, rfl, J, nb, up.trans up4, .inr (.inr (by rw [hs]; exact hh4)), na, os, ag, w⟩
    first
      | exact wpAny_bind (wpAny_pure (wpAny_bind fin))
      | exact wpAny_bind fin
  | @cons x n c i ts b₀ suite np pos' hds2 l2 hi hln hc hsu r ih =>
    intro w
    obtain ⟨b, hb1, hyes, hno⟩ := w
    have hloc : Loc X.env.scope n := .inl hln
    refine wpAny_handleBy_cons (codeAny_handlers_test ?_) (by intro q; cases q)
    have LM := PySem.W.exm_one (M := model X.prog X.w) (J3.kIn) LT hb1
    have test : ∀ {Q : Value → Shared → Prop} {E : Value → Shared → Prop}, Q c { s' with heap := h3 } →
        wpAny (model X.prog X.w) (X.A.mark (some (.ref a))) (eval (.Name x np) X.env) Q E { s' with heap := h3 } := by
      intro Q E q
      obtain ⟨hg, hdbg, hm | ⟨hm, hv, hnn⟩⟩ := hc
      · exact ld_glob (X := X.suite a ((a, oe3) :: (X.pn ++ pins))) S3 hg hm q hdbg
      · exact ld_blt (X := X.suite a ((a, oe3) :: (X.pn ++ pins))) S3 hg hm hv q hnn hdbg
    refine test (LM.here ?_)
    cases b with
    | true =>
      refine codeAny_handlers_suite_as ?_
      refine HandSPX.lands_againZ fl3 fun h4 fl4 up4 => ?_
      have J4 : Inv X pins σ' H' { s' with heap := h4 } := J.landed nb fl4.1 (up.trans up4) os ag
      obtain ⟨oe4, vs4, he4, hz4, hd4⟩ := fl4.there
      have S4 := J4.suite he4 hd4 na nL nF
      refine store_ok (X := X.suite a ((a, oe4) :: (X.pn ++ pins))) (v := .ref a) S4 hN hi hloc rfl (fun s5 S5 => ?_) (.inr hln)
      refine wpAny_mono ((hsu a oe4 cls d (X.pn ++ pins) hz4 ⟨_, hd4⟩).run [] s5 _ H' _ S5 (hyes rfl a na)) (fun f s6 hsp => ?_) (fun _ _ z => False.elim z)
      have end_ : ∀ {σ6 : L2.St} {H6 : Hp} {Q : Shared → Prop}, Inv (X.suite a ((a, oe4) :: (X.pn ++ pins))) [] σ6 H6 s6 →
          (∀ s7, Inv X pins (σ6.set i none) H6 s7 → Q s7) →
          wpAny (model X.prog X.w) X.A (do bindName X.env n .none; unbindBehindTheSuite X.env n pos') (fun _ s7 => Q s7) X.xe s6 := by
        intro σ6 H6 Q S6 hq
        exact gone_ok (S6.unsuite ok) hN hi hln hq
      cases f with
      | next =>
        obtain ⟨σ6, H6, S6, q6⟩ := hsp
        exact end_ S6 fun s7 J7 => ⟨_, _, J7, q6⟩
      | brk =>
        obtain ⟨σ6, H6, S6, q6⟩ := hsp
        exact end_ S6 fun s7 J7 => ⟨_, _, J7, q6⟩
      | cont =>
        obtain ⟨σ6, H6, S6, q6⟩ := hsp
        exact end_ S6 fun s7 J7 => ⟨_, _, J7, q6⟩
      | ret u =>
        obtain ⟨v6, σ6, H6, S6, r6, q6⟩ := hsp
        exact end_ S6 fun s7 J7 => ⟨_, _, _, J7, r6, q6⟩
    | false =>
      show wpAny _ X.A (handleBy (.ref a) X.env hds2) _ _ _
      exact ih (hno rfl)
theorem ps_try_mas (hs : X.stack = X.env :: X.outer) (hf : X.env.frame = some X.env.locals) (hN : X.N.Nodup) (tk : Takes X Wout)
    (hb : ∀ (W : WX) (pn : List (Addr × Obj)) (xe : Value → Shared → Prop), Takes (X.tr pn xe) W →
      PassesOwn (model X.prog X.w) X.A X.env xe → PSs (X.tr pn xe) body (tb W))
    (hh : HdsAs X (h₀ :: hds) l) : PS X (.Try body (h₀ :: hds) [] [] pos) (fun D σ H => tb (wMas X.K Wout D l) D σ H) := by
  constructor
  intro pins s σ H D I h
  have ok := I.ok
  have hfr : X.A.frames = some (X.env :: X.outer) := by rw [ok.frames, hs]
  refine wpAny_Try_except ?_
  have run := (hb (wMas X.K Wout D l) (X.pn ++ pins)
    (fun e s₁ => wpAny (model X.prog X.w) X.A (noteFrame e X.env) (fun _ s₂ => wpAny (model X.prog X.w) X.A (setFlight e none)
      (fun _ s₃ => wpAny (model X.prog X.w) X.A (handleBy e X.env (h₀ :: hds)) (SP X pins D) X.xe s₃) X.xe s₂) X.xe s₁)
    (fun u s' xx => ?_) PassesOwn.looking).run [] s σ H D (I.toTry _) h
  · refine wpAny_mono run (fun f s1 hsp => ?_) (fun e s1 he => he)
    cases f with
    | next =>
      obtain ⟨σ', H', J', q⟩ := hsp
      exact wpAny_execs_nil ⟨σ', H', J'.ofTry ok, q⟩
    | brk =>
      obtain ⟨σ', H', J', q⟩ := hsp
      exact ⟨σ', H', J'.ofTry ok, q⟩
    | cont =>
      obtain ⟨σ', H', J', q⟩ := hsp
      exact ⟨σ', H', J'.ofTry ok, q⟩
    | ret u =>
      obtain ⟨v, σ', H', J', r, q⟩ := hsp
      exact ⟨v, σ', H', J'.ofTry ok, r, q⟩
  · obtain ⟨a, B, sI, pins', σ', H', cls, d, rfl, J', nb, up, sky, na, os, ag, w⟩ := xx
    have J : Inv X pins σ' H' sI := J'.ofTry ok
    have sky' : Sky B (X.env :: X.outer) a (Zc cls d) X.env.locals s'.heap := by rw [← hs]; exact sky
    show wpAny (model X.prog X.w) X.A (noteFrame (.ref a) X.env) _ _ _
    refine Sky.land Zc.steady hfr hf sky' fun h3 fl3 up3 => ?_
    exact mas_go ok hs hf hN tk J nb (up.trans up3) na os ag fl3 hh w
end

/-! ### isinstance of own classes -/
theorem kit_own {K : PySem.W.Frag} {C D : Addr} {b : Bool} (i : PySem.W.isClsIn K D = true) (ty : PySem.W.typeIn K (.ref D) = some (.type "type"))
    (s : PySem.W.subIn K (.ref C) (.ref D) = some b) (sd : PySem.W.subIn K (.ref D) (.ref D) = some true) : PySem.W.kitOne K (.ref C) (.ref D) = some b := by
  unfold PySem.W.kitOne
  by_cases e : ((Value.ref C == Value.ref D) = true)
  · rw [if_pos e]
    have e' : C = D := Value.ref.inj (beq_iff_eq.mp e)
    subst e'
    exact sd.symm.trans s
  · rw [if_neg e]
    have i' : (PySem.W.clsIn K D).isSome = true := i
    show (if ((PySem.W.clsIn K D).isSome && PySem.W.typeIn K (.ref D) == some (.type "type")) = true then PySem.W.subIn K (.ref C) (.ref D) else none) = some b
    rw [i', ty]
    exact s

/-! ### tuple(x): the new tuple's object is known to have no dict; t.index(x) of such -/
def TupO (o : Obj) : Prop := o.cls = .type "tuple" ∧ o.dict = none
def kTupZ (K : PySem.W.Frag) (x : V) (H : Hp) (Q : VK) : Prop :=
  (∃ p xs, x = .ref p ∧ SqL K H p xs ∧ ∀ q o, H q = none → TupO o → Q (.ref q) (upd H q (.frz o (.tup xs)))) ∨
    (∃ p xs, x = .ref p ∧ SqT K H p xs ∧ Q (.ref p) H)
section
variable {X : Cx}
theorem rl_tupZ (pins : List (Addr × Obj)) (s : Shared) (σ : L2.St) (H : Hp) (x : V) (v : Value) (Q : VK) (I : Inv X pins σ H s) (r : RelV x v)
    (h : kTupZ X.K x H Q) : wpAny (model X.prog X.w) X.A (call (.type "tuple") [v]) (EP X pins σ Q) X.xe s := by
  cases h with
  | inl h =>
    obtain ⟨p, xs, rfl, hs, q⟩ := h
    obtain rfl : v = .ref p := r
    obtain ⟨its, rv, pl, hz⟩ := I.list hs
    refine call_tuple_list pl.isList (fun h' hk => ?_) (by rw [List.size_toArray, ← rv.length]; exact hz)
    have I1 : Inv X pins σ H { s with heap := h' } := I.kept (t' := s.toks) hk
    have I2 : Inv X pins σ (upd H h'.objs.size (.frz { cls := .type "tuple", data := .seq its.toArray } (.tup xs)))
        { s with heap := h'.push { cls := .type "tuple", data := .seq its.toArray } } := by
      refine I1.laid (t' := s.toks) (fun b o e => Heap.get?_push_of_some _ e) (Nat.le_refl _) ?_
      have e1 : (h'.push { cls := .type "tuple", data := .seq its.toArray }).get? h'.objs.size = some { cls := .type "tuple", data := .seq its.toArray } :=
        Heap.get?_push_size _ rfl
      exact ⟨e1, hz, its, rv, IsTup.new _ _⟩
    exact ⟨.ref h'.objs.size, _, I2, rfl, q _ _ (I1.hok.fresh (Nat.le_refl _)) ⟨rfl, rfl⟩⟩
  | inr h =>
    obtain ⟨p, xs, rfl, hs, q⟩ := h
    obtain rfl : v = .ref p := r
    obtain ⟨its, rv, pl, hz⟩ := I.tuple hs
    exact call_tuple_tup pl ⟨.ref p, H, I, rfl, q⟩
theorem pe_tupleZ {a : Expr} {ta : TE} {p pos : Pos} (hg : Gl X "tuple") (hm : X.mg "tuple" = none) (ha : PE X a ta)
    (na : starEach [a] X.env = (false, eval a X.env) :: starEach [] X.env := by rfl) :
    PE X (.Call (.Name "tuple" p) [a] [] pos) (tThen ta (kTupZ X.K)) := by
  constructor
  intro pins s σ H Q I h
  exact Call_ (ld_blt I hg hm boot_tuple (PyProof.Rows.callWith_type1 (one_arg ha I h (fun v s2 x H2 I2 r q => rl_tupZ pins s2 σ H2 x v Q I2 r q) na) na))
/-- a tuple whose object has no dict -/
def TupZ (H : Hp) (a : Addr) (xs : List V) : Prop := ∃ o, H a = some (.frz o (.tup xs)) ∧ TupO o
theorem TupZ.sq {K : PySem.W.Frag} {H : Hp} {a : Addr} {xs : List V} (h : TupZ H a xs) : SqT K H a xs := by
  obtain ⟨o, h, _⟩ := h
  exact .inl (.inr ⟨o, h⟩)
def tBMZ (r : V → List V → Hp → VK → Prop) (to : TE) (t : TA) : TE := fun σ H Q => to σ H fun x H1 => (∃ a xs, x = .ref a ∧ TupZ H1 a xs) ∧ t σ H1 fun xs H2 => r x xs H2 Q
variable {o e : Expr} {es : List Expr} {to : TE} {t : TA} {name : Str} {apos cpos : Pos} {id : String} {r : V → List V → Hp → VK → Prop}
theorem pe_bmZ (slot : Slot "tuple" name id) (hty : typeOf (.builtin id) = pure (.type "method_descriptor")) (hm : MtR X id r) (ho : PE X o to) (ha : PA X (e :: es) t)
    (hbase : attributeBase o name X.env (eval o X.env) = eval o X.env := by rfl)
    (hfew : ((backTo cpos (starEach (e :: es) X.env)).all (fun x => !x.1) && (backToKw cpos (keywordEach [] X.env)).all (fun x => x.1.isSome)
      && decide ((e :: es).length + ([] : List Keyword).length + (if ([] : List Keyword).isEmpty then 0 else 1) < 30)) = true := by rfl)
    (hline : (apos.endLine == cpos.line) = true := by rfl) (hs : starEach (e :: es) X.env = (false, eval e X.env) :: starEach es X.env := by rfl)
    (hplain : (backTo cpos (starEach es X.env)).any (·.1) = false := by rfl) :
    PE X (.Call (.Attribute o name apos) (e :: es) [] cpos) (tBMZ r to t) := by
  constructor
  intro pins s σ H Q I h
  refine wpAny_Call_method_late hbase hfew hline rfl (thn (ho.run pins s σ H _ I h) fun v s1 hh => ?_)
  obtain ⟨x, H1, I1, r1, ⟨a, xs, ex, ob, hob, hc, hd⟩, q1⟩ := hh
  subst ex
  obtain rfl : v = .ref a := r1
  obtain ⟨hget, _⟩ := (show ObjOk X.prog X.w H1 s1.heap a (.frz ob (.tup xs)) from I1.hok a _ hob)
  refine ⟨"tuple", id, PySem.F.plainAttrs_tuple, slot, hty, ⟨ob, hget, hc⟩, fun b e => ?_, ?_⟩
  · cases e
    exact ⟨ob, hget, hd⟩
  · have hA := ha.run cpos pins s1 σ H1 _ I1 q1
    rw [hs] at hA ⊢
    refine Calls.callWith_builtin (by show (false || (backTo cpos (starEach es X.env)).any (·.1)) = false; rw [hplain] <;> rfl) (Calls.evalArgs_plain ?_)
    exact thn hA fun us s2 hh => by
      obtain ⟨vs, H2, I2, r2, q2⟩ := hh
      exact hm pins s2 σ H2 (.ref a) vs (.ref a) us Q I2 rfl r2 q2

/-! ### is True, is False, of any value -/
theorem rel_bl {x : V} {v : Value} (r : RelV x v) (b : Bool) : (v = Value.bool b) ↔ x = .bl b := by
  cases x with
  | bl c =>
    cases (show v = Value.bool c from r)
    exact ⟨fun e => by cases e; rfl, fun e => by cases e; rfl⟩
  | non => cases (show v = Value.none from r); exact ⟨(fun e => nomatch e), (fun e => nomatch e)⟩
  | int _ => obtain ⟨t, rfl⟩ := r; exact ⟨(fun e => nomatch e), (fun e => nomatch e)⟩
  | str _ => obtain ⟨t, rfl⟩ := r; exact ⟨(fun e => nomatch e), (fun e => nomatch e)⟩
  | byt _ => obtain ⟨t, rfl⟩ := r; exact ⟨(fun e => nomatch e), (fun e => nomatch e)⟩
  | flt _ => obtain ⟨t, rfl⟩ := r; exact ⟨(fun e => nomatch e), (fun e => nomatch e)⟩
  | ref _ => cases r; exact ⟨(fun e => nomatch e), (fun e => nomatch e)⟩
  | ty _ => cases r; exact ⟨(fun e => nomatch e), (fun e => nomatch e)⟩
def rIsB : R2 := fun x y H Q => ∃ b, y = .bl b ∧ Q (.bl (decide (x = .bl b))) H
theorem op_isB : OpR X (compareOp .Is) rIsB := by
  intro pins s σ H x y v u Q I rx ry h
  obtain ⟨b, rfl, q⟩ := h
  cases (show u = Value.bool b from ry)
  by_cases e : x = .bl b
  · have ev := (rel_bl rx b).mpr e
    subst ev
    exact wpAny_is_self rfl ⟨.bl true, H, I, rfl, by simpa [e] using q⟩
  · have ev : ¬ v = Value.bool b := fun z => e ((rel_bl rx b).mp z)
    refine wpAny_is_other ?_ ev ⟨.bl false, H, I, rfl, by simpa [e] using q⟩
    cases x with
    | bl c => cases (show v = Value.bool c from rx); rfl
    | non => cases (show v = Value.none from rx); rfl
    | int _ => obtain ⟨t, rfl⟩ := rx; rfl
    | str _ => obtain ⟨t, rfl⟩ := rx; rfl
    | byt _ => obtain ⟨t, rfl⟩ := rx; rfl
    | flt _ => obtain ⟨t, rfl⟩ := rx; rfl
    | ref _ => cases rx; rfl
    | ty _ => cases rx; rfl
end
end L3
/-! What stays (I, a part of the heap H that is never written again), what a call may change (Lf), data told by Dp over I; the law's hand. -/
namespace L3
open PySem PySem.Spec PyProof.Rows L2

/-! ### what a call may change -/
structure Lf (M : Addr → Prop) (I H I' H' : Hp) : Prop where
  ext : Same I I'
  sub : Same I' H'
  new : ∀ b, I' b ≠ none → I b ≠ none ∨ H b = none
  keep : ∀ b o, ¬ M b → H b = some o → H' b = some o
  there : ∀ b, H b ≠ none → H' b ≠ none
def No : Addr → Prop := fun _ => False
section
variable {M M' : Addr → Prop} {I H I1 H1 I2 H2 : Hp} {a p : Addr} {o u : HO}
theorem Lf.refl (s : Same I H) : Lf M I H I H := ⟨Same.refl I, s, fun _ h => .inl h, fun _ _ _ h => h, fun _ h => h⟩
theorem Lf.trans (x : Lf M I H I1 H1) (y : Lf M I1 H1 I2 H2) : Lf M I H I2 H2 where
  ext := x.ext.trans y.ext
  sub := y.sub
  new := by
    intro b h
    cases y.new b h with
    | inl q => exact x.new b q
    | inr q =>
      cases e : H b with
      | none => exact .inr rfl
      | some z => exact absurd q (x.there b (by rw [e]; simp))
  keep := fun b o n h => y.keep b o n (x.keep b o n h)
  there := fun b h => y.there b (x.there b h)
theorem Lf.mono (x : Lf M I H I1 H1) (h : ∀ b, M b → M' b) : Lf M' I H I1 H1 :=
  ⟨x.ext, x.sub, x.new, fun b o n e => x.keep b o (fun z => n (h b z)) e, x.there⟩
theorem Lf.any (x : Lf No I H I1 H1) : Lf M I H I1 H1 := x.mono fun _ h => h.elim
theorem Lf.same (x : Lf No I H I1 H1) : Same H H1 := fun b o e => x.keep b o (fun h => h) e
theorem Lf.off (x : Lf M I H I1 H1) (h : I a = none) (t : H a ≠ none) : I1 a = none := by
  cases e : I1 a with
  | none => rfl
  | some o =>
    cases x.new a (by rw [e]; simp) with
    | inl q => exact absurd h q
    | inr q => exact absurd q t
theorem Lf.free (x : Lf M I H I1 H1) (h : H1 a = none) : H a = none := by
  cases e : H a with
  | none => rfl
  | some o => exact absurd h (x.there a (by rw [e]; simp))
theorem Same.sub (s : Same I H) (h : H a = none) : I a = none := by
  cases e : I a with
  | none => rfl
  | some o => rw [s a o e] at h; cases h
/-- a new object that may still change -/
theorem Lf.alloc (s : Same I H) (h : H p = none) : Lf M I H I (upd H p o) :=
  ⟨Same.refl I, fun b z e => by rw [upd_ne (ne_of_none (s b z e) h)]; exact s b z e, fun _ q => .inl q,
    fun b z _ e => by rw [upd_ne (ne_of_none e h)]; exact e, fun b e => by unfold upd; split <;> simp_all⟩
/-- a new object that stays -/
theorem Lf.put (s : Same I H) (h : H p = none) : Lf M I H (upd I p o) (upd H p o) where
  ext := fun b z e => by rw [upd_ne (ne_of_none (s b z e) h)]; exact e
  sub := fun b z e => by
    unfold upd at e ⊢
    split
    · rename_i hb; rw [if_pos hb] at e; exact e
    · rename_i hb; rw [if_neg hb] at e; exact s b z e
  new := fun b q => by
    by_cases hb : b = p
    · subst hb; exact .inr h
    · rw [upd_ne hb] at q; exact .inl q
  keep := fun b z _ e => by rw [upd_ne (ne_of_none e h)]; exact e
  there := fun b e => by unfold upd; split <;> simp_all
/-- the new object at p stays from now on -/
theorem Lf.freeze (x : Lf M I H I1 H1) (s : Same I H) (h : H p = none) (e : H1 p = some o) : Lf M I H (upd I1 p o) H1 where
  ext := fun b z q => by rw [upd_ne (ne_of_none (s b z q) h)]; exact x.ext b z q
  sub := fun b z q => by
    by_cases hb : b = p
    · subst hb; rw [upd_same] at q; rw [← q]; exact e
    · rw [upd_ne hb] at q; exact x.sub b z q
  new := fun b q => by
    by_cases hb : b = p
    · subst hb; exact .inr h
    · rw [upd_ne hb] at q; exact x.new b q
  keep := x.keep
  there := x.there
/-- an object that is new since H is written -/
theorem Lf.set (x : Lf M I H I1 H1) (h : H p = none) (e : H1 p = some u) (n : I1 p = none) : Lf M I H I1 (upd H1 p o) where
  ext := x.ext
  sub := fun b z q => by
    have hb : b ≠ p := fun z => by rw [z, n] at q; cases q
    rw [upd_ne hb]; exact x.sub b z q
  new := x.new
  keep := fun b z nm q => by rw [upd_ne (ne_of_none q h)]; exact x.keep b z nm q
  there := fun b q => by
    by_cases hb : b = p
    · subst hb; rw [upd_same]; simp
    · rw [upd_ne hb]; exact x.there b q
/-- an object of M is written -/
theorem Lf.setM (s : Same I H) (m : M p) (e : H p = some u) (n : I p = none) : Lf M I H I (upd H p o) where
  ext := Same.refl I
  sub := fun b z q => by
    have hb : b ≠ p := fun z => by rw [z, n] at q; cases q
    rw [upd_ne hb]; exact s b z q
  new := fun _ q => .inl q
  keep := fun b z nm q => by
    have hb : b ≠ p := fun z => nm (z ▸ m)
    rw [upd_ne hb]; exact q
  there := fun b q => by
    by_cases hb : b = p
    · subst hb; rw [upd_same]; simp
    · rw [upd_ne hb]; exact q
theorem Same.updI (s : Same I H) (n : I p = none) : Same I (upd H p o) := fun b z q => by
  have hb : b ≠ p := fun z => by rw [z, n] at q; cases q
  rw [upd_ne hb]; exact s b z q
theorem none_ne {b : Addr} (h : H b = some o) : H b ≠ none := by rw [h]; simp
end

/-! ### data -/
section
variable {K : PySem.W.Frag} {I J : Hp}
theorem Same.seqT {a : Addr} {xs : List V} (e : Same I J) (h : SqT K I a xs) : SqT K J a xs := by
  rcases h with (h | ⟨o, h⟩) | h
  · exact .inl (.inl (e _ _ h))
  · exact .inl (.inr ⟨o, e _ _ h⟩)
  · exact .inr h
mutual
theorem dmono (e : Same I J) : ∀ (d : PyData) (v : V), Dp K I v d → Dp K J v d
  | .none, _, .non => .non
  | .bool _, _, .bl b => .bl b
  | .int _, _, .int i => .int i
  | .str _, _, .str x => .str x
  | .list ds, _, .lst h q => .lst (e.seq h) (dmonoA e ds _ q)
  | .tuple ds, _, .tup h q => .tup (Same.seqT e h) (dmonoA e ds _ q)
theorem dmonoA (e : Same I J) : ∀ (ds : List PyData) (vs : List V), DpAll K I vs ds → DpAll K J vs ds
  | [], _, .nil => .nil
  | d :: ds, _, .cons h q => .cons (dmono e d _ h) (dmonoA e ds _ q)
end
theorem Dp.up {v : V} {d : PyData} (h : Dp K I v d) (e : Same I J) : Dp K J v d := dmono e d v h
theorem DpAll.up {vs : List V} {ds : List PyData} (h : DpAll K I vs ds) (e : Same I J) : DpAll K J vs ds := dmonoA e ds vs h
theorem DpAll.append {vs ws : List V} {ds es : List PyData} : DpAll K I vs ds → DpAll K I ws es → DpAll K I (vs ++ ws) (ds ++ es)
  | .nil, q => q
  | .cons h t, q => .cons h (DpAll.append t q)
theorem DpAll.length : ∀ {vs : List V} {ds : List PyData}, DpAll K I vs ds → vs.length = ds.length
  | _, _, .nil => rfl
  | _, _, .cons _ t => by rw [List.length_cons, List.length_cons, DpAll.length t]
theorem DpAll.get : ∀ {vs : List V} {ds : List PyData} {i : Nat} {d : PyData}, DpAll K I vs ds → ds[i]? = some d → ∃ v, vs[i]? = some v ∧ Dp K I v d
  | _, _, _, _, .nil, e => by simp at e
  | _, _, 0, _, .cons h _, e => by simp at e; subst e; exact ⟨_, rfl, h⟩
  | _, _, i + 1, d, .cons _ t, e => by
    obtain ⟨v, h1, h2⟩ := DpAll.get (i := i) (d := d) t (by simpa using e)
    exact ⟨v, by simpa using h1, h2⟩
theorem DpAll.getV : ∀ {vs : List V} {ds : List PyData} {i : Nat} {v : V}, DpAll K I vs ds → vs[i]? = some v → ∃ d, ds[i]? = some d ∧ Dp K I v d
  | _, _, _, _, .nil, e => by simp at e
  | _, _, 0, _, .cons h _, e => by simp at e; subst e; exact ⟨_, rfl, h⟩
  | _, _, i + 1, v, .cons _ t, e => by
    obtain ⟨d, h1, h2⟩ := DpAll.getV (i := i) (v := v) t (by simpa using e)
    exact ⟨d, by simpa using h1, h2⟩
theorem DpAll.ints : ∀ (ns : List Int), DpAll K I (ns.map V.int) (ns.map PyData.int)
  | [] => .nil
  | n :: ns => .cons (.int n) (DpAll.ints ns)
theorem DpAll.isInts : ∀ {vs : List V} {ns : List Int}, DpAll K I vs (ns.map PyData.int) → vs = ns.map V.int
  | _, [], .nil => rfl
  | _, n :: ns, .cons h t => by
    cases h
    rw [DpAll.isInts t]
    rfl
theorem DpAll.take : ∀ {vs : List V} {ds : List PyData} (n : Nat), DpAll K I vs ds → DpAll K I (vs.take n) (ds.take n)
  | _, _, 0, _ => .nil
  | _, _, _ + 1, .nil => .nil
  | _, _, n + 1, .cons h t => .cons h (DpAll.take n t)
theorem DpAll.drop : ∀ {vs : List V} {ds : List PyData} (n : Nat), DpAll K I vs ds → DpAll K I (vs.drop n) (ds.drop n)
  | _, _, 0, h => h
  | _, _, _ + 1, .nil => .nil
  | _, _, n + 1, .cons _ t => DpAll.drop n t
theorem Dp.ofInt {v : V} {n : Int} (h : Dp K I v (.int n)) : v = .int n := by cases h; rfl
theorem Dp.tupAt {a : Addr} {ds : List PyData} (h : Dp K I (.ref a) (.tuple ds)) : ∃ xs, SqT K I a xs ∧ DpAll K I xs ds := by
  cases h with
  | tup h q => exact ⟨_, h, q⟩
theorem Dp.lstAt {a : Addr} {ds : List PyData} (h : Dp K I (.ref a) (.list ds)) : ∃ xs, SqL K I a xs ∧ DpAll K I xs ds := by
  cases h with
  | lst h q => exact ⟨_, h, q⟩
theorem Dp.tupRef {v : V} {ds : List PyData} (h : Dp K I v (.tuple ds)) : ∃ a xs, v = .ref a ∧ SqT K I a xs ∧ DpAll K I xs ds := by
  cases h with
  | tup h q => exact ⟨_, _, rfl, h, q⟩
theorem Dp.lstRef {v : V} {ds : List PyData} (h : Dp K I v (.list ds)) : ∃ a xs, v = .ref a ∧ SqL K I a xs ∧ DpAll K I xs ds := by
  cases h with
  | lst h q => exact ⟨_, _, rfl, h, q⟩
end

/-! ### readings, step by step -/
section
variable {σ : L2.St} {H : Hp} {Q : VK} {i : Nat} {v x y : V} {ta tb te : TE} {K : PySem.W.Frag}
theorem w_var (e : σ[i]? = some (some v)) (q : Q v H) : tVar i σ H Q := ⟨v, e, q⟩
theorem w_c (q : Q v H) : tC v σ H Q := q
theorem w_op {r : R2} (q : ta σ H fun x H1 => tb σ H1 fun y H2 => r x y H2 Q) : tOp r ta tb σ H Q := q
theorem w_un {r : V → Hp → VK → Prop} (q : ta σ H fun x H1 => r x H1 Q) : tUn r ta σ H Q := q
theorem w_rU {g : Int → V} {n : Int} (q : Q (g n) H) : rU g (.int n) H Q := ⟨n, rfl, q⟩
theorem w_cons {tr : TA} {Q : List V → Hp → Prop} (q : ta σ H fun x H1 => tr σ H1 fun xs H2 => Q (x :: xs) H2) : tCons ta tr σ H Q := q
theorem w_nil {Q : List V → Hp → Prop} (q : Q [] H) : tNil σ H Q := q
theorem w_test {Q : Bool → Hp → Prop} (q : te σ H fun x H' => ∃ k, x = .bl k ∧ Q k H') : tTest te σ H Q := q
theorem w_tB {Q : Bool → Hp → Prop} (q : te σ H fun x H' => ∃ k, x = .bl k ∧ Q k H') : tB te σ H Q := q
theorem w_bl {k : Bool} {Q : Bool → Prop} (q : Q k) : ∃ k', V.bl k = .bl k' ∧ Q k' := ⟨k, rfl, q⟩
theorem w_rI0 {g : Int → Int → V} {m n : Int} (q : Q (g m n) H) : rI0 g (.int m) (.int n) H Q := ⟨m, n, rfl, rfl, q⟩
theorem w_rI {C : Int → Int → Prop} {g : Int → Int → V} {m n : Int} (c : C m n) (q : Q (g m n) H) : rI C g (.int m) (.int n) H Q := ⟨m, n, rfl, rfl, c, q⟩
theorem w_call {sp : Sp} {dvs : List V} {E : XK} {t : TA} (q : t σ H fun vs H1 => sp (vs ++ dvs) H1 Q E) : tCall sp dvs E t σ H Q := q
theorem w_CB {r : List V → Hp → VK → Prop} {t : TA} (q : t σ H fun vs H1 => r vs H1 Q) : tCB r t σ H Q := q
theorem w_tup {t : TA} (q : t σ H fun xs H1 => xs.length ≤ sizeLine ∧ ∀ p, H1 p = none → Q (.ref p) (upd H1 p (.tup xs))) : tTup t σ H Q := q
theorem w_lst {t : TA} (q : t σ H fun xs H1 => xs.length ≤ sizeLine ∧ ∀ p, H1 p = none → Q (.ref p) (upd H1 p (.lst xs))) : tLst t σ H Q := q
theorem w_ifE {t : TT} (q : t σ H fun c H1 => if c = true then ta σ H1 Q else tb σ H1 Q) : tIf t ta tb σ H Q := q
theorem w_then {k : V → Hp → VK → Prop} (q : ta σ H fun x H1 => k x H1 Q) : tThen ta k σ H Q := q
theorem w_BM {T : String} {r : V → List V → Hp → VK → Prop} {t : TA} (q : ta σ H fun x H1 => tyV K T x H1 ∧ t σ H1 fun xs H2 => r x xs H2 Q) : tBM K T r ta t σ H Q := q
theorem w_not {t : TT} {Q : Bool → Hp → Prop} (q : t σ H fun c H1 => Q (!c) H1) : tNot t σ H Q := q
theorem w_and {t u : TT} {Q : Bool → Hp → Prop} (q : t σ H fun c H1 => if c = true then u σ H1 Q else Q false H1) : tAnd t u σ H Q := q
theorem w_or {t u : TT} {Q : Bool → Hp → Prop} (q : t σ H fun c H1 => if c = true then Q true H1 else u σ H1 Q) : tOr t u σ H Q := q
theorem w_andV (q : ta σ H fun x H1 => ∃ c, x = .bl c ∧ if c = true then tb σ H1 Q else Q (.bl false) H1) : tAndV ta tb σ H Q := q
theorem w_orV (q : ta σ H fun x H1 => ∃ c, x = .bl c ∧ if c = true then Q (.bl true) H1 else tb σ H1 Q) : tOrV ta tb σ H Q := q
theorem w_notV (q : ta σ H fun x H1 => ∃ c, x = .bl c ∧ Q (.bl (!c)) H1) : tNotV ta σ H Q := q
theorem w_isN (q : Q (.bl (decide (x = .non))) H) : (fun x y H Q => y = V.non ∧ Q (.bl (decide (x = .non))) H : R2) x .non H Q := ⟨rfl, q⟩
theorem w_eqI {m n : Int} (q : Q (.bl (decide (m = n))) H) : rEq (.int m) (.int n) H Q := ⟨rfl, by
  have e : decide (V.int m = V.int n) = decide (m = n) := by simp
  rw [e]; exact q⟩
theorem w_neI {m n : Int} (q : Q (.bl (!decide (m = n))) H) : rNe (.int m) (.int n) H Q := ⟨rfl, by
  have e : decide (V.int m = V.int n) = decide (m = n) := by simp
  rw [e]; exact q⟩
variable {D : Ends}
theorem w_seq {t u : TS} (q : t { D with nx := u D } σ H) : tSeq t u D σ H := q
theorem w_next (q : D.nx σ H) : tNext D σ H := q
theorem w_ret (q : te σ H D.rt) : tRet te D σ H := q
theorem w_retN (q : D.rt .non H) : tRetN D σ H := q
theorem w_drop (q : te σ H fun _ H1 => D.nx σ H1) : tDrop te D σ H := q
theorem w_asg {g : TG} (q : te σ H fun x H1 => g x σ H1 D.nx) : tAsg te g D σ H := q
theorem w_name {Q : L2.St → Hp → Prop} (q : Q (σ.set i (some v)) H) : gName i v σ H Q := q
theorem w_ifS {c : TT} {t u : TS} (q : c σ H fun b H1 => if b = true then t D σ H1 else u D σ H1) : tIfS c t u D σ H := q
theorem w_if {p : Prop} [Decidable p] {A B : Prop} (h1 : p → A) (h2 : ¬ p → B) : if decide p = true then A else B := by
  by_cases h : p
  · rw [if_pos (decide_eq_true h)]; exact h1 h
  · rw [if_neg (by simpa using h)]; exact h2 h
theorem w_ifn {p : Prop} [Decidable p] {A B : Prop} (h1 : ¬ p → A) (h2 : p → B) : if (!decide p) = true then A else B := by
  by_cases h : p
  · rw [if_neg (by simpa using h)]; exact h2 h
  · rw [if_pos (by simpa using h)]; exact h1 h
theorem w_ifb {b : Bool} {A B : Prop} (h1 : b = true → A) (h2 : b = false → B) : if b = true then A else B := by
  cases b with
  | true => rw [if_pos rfl]; exact h1 rfl
  | false => rw [if_neg Bool.false_ne_true]; exact h2 rfl
/-- an item -/
theorem w_ixL {p : Addr} {xs : List V} {n : Int} (h : SqL K H p xs) (e : atI xs n = some v) (q : Q v H) : rIx K (.ref p) (.int n) H Q := .inl ⟨p, xs, n, v, rfl, rfl, h, e, q⟩
theorem w_ixT {p : Addr} {xs : List V} {n : Int} (h : SqT K H p xs) (e : atI xs n = some v) (q : Q v H) : rIx K (.ref p) (.int n) H Q := .inr (.inl ⟨p, xs, n, v, rfl, rfl, h, e, q⟩)
theorem w_len {r : Nat → Prop} {p : Addr} {xs : List V} (h : SqL K H p xs ∨ SqT K H p xs) (q : Q (.int xs.length) H) :
    ∃ p' ys, [V.ref p] = [V.ref p'] ∧ (SqL K H p' ys ∨ SqT K H p' ys) ∧ Q (.int ys.length) H := ⟨p, xs, rfl, h, q⟩
end

/-! ### named readings of built-in calls -/
section
variable {X : Cx} {H : Hp} {Q : VK} {K : PySem.W.Frag}
def rInt1 : List V → Hp → VK → Prop := fun xs H Q => ∃ i, xs = [.int i] ∧ Q (.int i) H
theorem call_intI : CallR X (.type "int") rInt1 := fun pins s σ H xs us Q I r h => call_int1 pins s σ H xs us Q I r (.inl h)
theorem w_int1 {n : Int} (q : Q (.int n) H) : rInt1 [.int n] H Q := ⟨n, rfl, q⟩
def rAbsI : List V → Hp → VK → Prop := fun xs H Q => ∃ i, xs = [.int i] ∧ Q (.int (if i < 0 then -i else i)) H
theorem call_absI : CallR X (.builtin "abs") rAbsI := call_abs
theorem w_abs {n : Int} (q : Q (.int (if n < 0 then -n else n)) H) : rAbsI [.int n] H Q := ⟨n, rfl, q⟩
def rLenS (K : PySem.W.Frag) : List V → Hp → VK → Prop := fun xs H Q => ∃ p ys, xs = [.ref p] ∧ (SqL K H p ys ∨ SqT K H p ys) ∧ Q (.int ys.length) H
theorem call_lenS : CallR X (.builtin "len") (rLenS X.K) := call_len_seq
theorem w_lenL {p : Addr} {xs : List V} (h : SqL K H p xs) (q : Q (.int xs.length) H) : rLenS K [.ref p] H Q := ⟨p, xs, rfl, .inl h, q⟩
theorem w_lenT {p : Addr} {xs : List V} (h : SqT K H p xs) (q : Q (.int xs.length) H) : rLenS K [.ref p] H Q := ⟨p, xs, rfl, .inr h, q⟩
def rListOf (K : PySem.W.Frag) : List V → Hp → VK → Prop := fun xs H Q => ∃ p ys, xs = [.ref p] ∧ (SqL K H p ys ∨ SqT K H p ys) ∧ ∀ l, H l = none → Q (.ref l) (upd H l (.lst ys))
theorem call_listOf : CallR X (.type "list") (rListOf X.K) := call_list_of
def rIsN' : R2 := fun x y H Q => y = .non ∧ Q (.bl (decide (x = .non))) H
def rNotN' : R2 := fun x y H Q => y = .non ∧ Q (.bl (!decide (x = .non))) H
theorem op_isN' : OpR X (compareOp .Is) rIsN' := op_isN
theorem op_notN' : OpR X (compareOp .IsNot) rNotN' := op_notN
theorem w_isN' {x : V} (q : Q (.bl (decide (x = .non))) H) : rIsN' x .non H Q := ⟨rfl, q⟩
theorem w_notN' {x : V} (q : Q (.bl (!decide (x = .non))) H) : rNotN' x .non H Q := ⟨rfl, q⟩
/-- isinstance: the type of a value, the answer -/
theorem w_isi {x : V} {n : String} {t : Value} {b : Bool} (ty : TyX K H x t) (e : PySem.W.kitOne K t (.type n) = some b) (q : Q (.bl b) H) : rIsi K [x, .ty n] H Q :=
  ⟨x, .ty n, t, .type n, b, rfl, .ty n, ty, e, q⟩
end

/-! ### types of data -/
def tyD : PyData → String
  | .none => "NoneType"
  | .bool _ => "bool"
  | .int _ => "int"
  | .str _ => "str"
  | .list _ => "list"
  | .tuple _ => "tuple"
  | .dict _ => "dict"
section
variable {K : PySem.W.Frag} {I H : Hp} {Q : VK} {v : V} {d : PyData}
theorem SqL.tyx {a : Addr} {xs : List V} (h : SqL K H a xs) : TyX K H (.ref a) (.type "list") := by
  rcases h with (h | ⟨o, h⟩) | ⟨o, its, n, h, c, _⟩
  · exact .base (.lst h)
  · exact .base (.frz h)
  · exact .kList h c
theorem SqT.tyx {a : Addr} {xs : List V} (h : SqT K H a xs) : TyX K H (.ref a) (.type "tuple") := by
  rcases h with (h | ⟨o, h⟩) | ⟨o, its, n, h, c, _⟩
  · exact .base (.tup h)
  · exact .fTuple h
  · exact .kTuple h c
theorem Dp.tyx (h : Dp K H v d) : TyX K H v (.type (tyD d)) := by
  cases h with
  | non => exact .base .non
  | bl b => exact .base (.bl b)
  | int i => exact .base (.int i)
  | str x => exact .base (.str x)
  | lst h _ => exact SqL.tyx h
  | tup h _ => exact SqT.tyx h
def dInt : PyData → Bool
  | .int _ => true
  | .bool _ => true
  | _ => false
def dBool : PyData → Bool
  | .bool _ => true
  | _ => false
def dStr : PyData → Bool
  | .str _ => true
  | _ => false
def dTup : PyData → Bool
  | .tuple _ => true
  | _ => false
def dLst : PyData → Bool
  | .list _ => true
  | _ => false
theorem kit_int : ∀ d : PyData, PySem.W.kitOne K (.type (tyD d)) (.type "int") = some (dInt d)
  | .none => kit_ty (a := "NoneType") (b := "int") (r := false) (by decide +kernel)
  | .bool _ => kit_ty (a := "bool") (b := "int") (r := true) (by decide +kernel)
  | .int _ => kit_ty (a := "int") (b := "int") (r := true) (by decide +kernel)
  | .str _ => kit_ty (a := "str") (b := "int") (r := false) (by decide +kernel)
  | .list _ => kit_ty (a := "list") (b := "int") (r := false) (by decide +kernel)
  | .tuple _ => kit_ty (a := "tuple") (b := "int") (r := false) (by decide +kernel)
  | .dict _ => kit_ty (a := "dict") (b := "int") (r := false) (by decide +kernel)
theorem kit_bool : ∀ d : PyData, PySem.W.kitOne K (.type (tyD d)) (.type "bool") = some (dBool d)
  | .none => kit_ty (a := "NoneType") (b := "bool") (r := false) (by decide +kernel)
  | .bool _ => kit_ty (a := "bool") (b := "bool") (r := true) (by decide +kernel)
  | .int _ => kit_ty (a := "int") (b := "bool") (r := false) (by decide +kernel)
  | .str _ => kit_ty (a := "str") (b := "bool") (r := false) (by decide +kernel)
  | .list _ => kit_ty (a := "list") (b := "bool") (r := false) (by decide +kernel)
  | .tuple _ => kit_ty (a := "tuple") (b := "bool") (r := false) (by decide +kernel)
  | .dict _ => kit_ty (a := "dict") (b := "bool") (r := false) (by decide +kernel)
theorem kit_str : ∀ d : PyData, PySem.W.kitOne K (.type (tyD d)) (.type "str") = some (dStr d)
  | .none => kit_ty (a := "NoneType") (b := "str") (r := false) (by decide +kernel)
  | .bool _ => kit_ty (a := "bool") (b := "str") (r := false) (by decide +kernel)
  | .int _ => kit_ty (a := "int") (b := "str") (r := false) (by decide +kernel)
  | .str _ => kit_ty (a := "str") (b := "str") (r := true) (by decide +kernel)
  | .list _ => kit_ty (a := "list") (b := "str") (r := false) (by decide +kernel)
  | .tuple _ => kit_ty (a := "tuple") (b := "str") (r := false) (by decide +kernel)
  | .dict _ => kit_ty (a := "dict") (b := "str") (r := false) (by decide +kernel)
theorem kit_tup : ∀ d : PyData, PySem.W.kitOne K (.type (tyD d)) (.type "tuple") = some (dTup d)
  | .none => kit_ty (a := "NoneType") (b := "tuple") (r := false) (by decide +kernel)
  | .bool _ => kit_ty (a := "bool") (b := "tuple") (r := false) (by decide +kernel)
  | .int _ => kit_ty (a := "int") (b := "tuple") (r := false) (by decide +kernel)
  | .str _ => kit_ty (a := "str") (b := "tuple") (r := false) (by decide +kernel)
  | .list _ => kit_ty (a := "list") (b := "tuple") (r := false) (by decide +kernel)
  | .tuple _ => kit_ty (a := "tuple") (b := "tuple") (r := true) (by decide +kernel)
  | .dict _ => kit_ty (a := "dict") (b := "tuple") (r := false) (by decide +kernel)
theorem kit_lst : ∀ d : PyData, PySem.W.kitOne K (.type (tyD d)) (.type "list") = some (dLst d)
  | .none => kit_ty (a := "NoneType") (b := "list") (r := false) (by decide +kernel)
  | .bool _ => kit_ty (a := "bool") (b := "list") (r := false) (by decide +kernel)
  | .int _ => kit_ty (a := "int") (b := "list") (r := false) (by decide +kernel)
  | .str _ => kit_ty (a := "str") (b := "list") (r := false) (by decide +kernel)
  | .list _ => kit_ty (a := "list") (b := "list") (r := true) (by decide +kernel)
  | .tuple _ => kit_ty (a := "tuple") (b := "list") (r := false) (by decide +kernel)
  | .dict _ => kit_ty (a := "dict") (b := "list") (r := false) (by decide +kernel)
theorem w_isInt (h : Dp K H v d) (q : Q (.bl (dInt d)) H) : rIsi K [v, .ty "int"] H Q := w_isi (Dp.tyx h) (kit_int d) q
theorem w_isBool (h : Dp K H v d) (q : Q (.bl (dBool d)) H) : rIsi K [v, .ty "bool"] H Q := w_isi (Dp.tyx h) (kit_bool d) q
theorem w_isStr (h : Dp K H v d) (q : Q (.bl (dStr d)) H) : rIsi K [v, .ty "str"] H Q := w_isi (Dp.tyx h) (kit_str d) q
theorem w_isTup (h : Dp K H v d) (q : Q (.bl (dTup d)) H) : rIsi K [v, .ty "tuple"] H Q := w_isi (Dp.tyx h) (kit_tup d) q
theorem w_isLst (h : Dp K H v d) (q : Q (.bl (dLst d)) H) : rIsi K [v, .ty "list"] H Q := w_isi (Dp.tyx h) (kit_lst d) q
/-- isinstance(x, (list, tuple)) -/
theorem w_isSeq {p : Addr} (e : H p = some (.tup [.ty "list", .ty "tuple"])) (h : Dp K H v d) (q : Q (.bl (dLst d || dTup d)) H) : rIsiT K [v, .ref p] H Q := by
  refine ⟨v, p, [.ty "list", .ty "tuple"], .type (tyD d), [.type "list", .type "tuple"], dLst d || dTup d, rfl, e, .cons (.ty _) (.cons (.ty _) .nil), Dp.tyx h, ?_, q⟩
  have h1 := kit_lst (K := K) d
  have h2 := kit_tup (K := K) d
  unfold PySem.W.kitAny
  rw [h1]
  cases d <;> first | rfl | (unfold PySem.W.kitAny; rw [h2]; rfl)
end

/-! ### stores and items -/
section
variable {σ : L2.St} {H : Hp} {v : V} {K : PySem.W.Frag} {to ti : TE}
theorem w_gsub {t : TSet} {Q : L2.St → Hp → Prop} (q : to σ H fun o H1 => ti σ H1 fun i H2 => t o i v H2 fun H3 => Q σ H3) : gSub to ti t v σ H Q := q
theorem w_setL {p : Addr} {xs : List V} {n : Int} {j : Nat} {Q : Hp → Prop} (h : H p = some (.lst xs)) (e : ixN xs.length n = some j) (q : Q (upd H p (.lst (xs.set j v)))) : rSetL (.ref p) (.int n) v H Q :=
  ⟨p, xs, n, j, rfl, rfl, h, e, q⟩
theorem upd2 {p : Addr} {o u : HO} : upd (upd H p o) p u = upd H p u := by
  funext b
  by_cases h : b = p
  · rw [h, upd_same, upd_same]
  · rw [upd_ne h, upd_ne h, upd_ne h]
theorem ofL {p : Addr} {xs : List V} (h : H p = some (.lst xs)) : SqL K H p xs := .inl (.inl h)
theorem ofT {p : Addr} {xs : List V} (h : H p = some (.tup xs)) : SqT K H p xs := .inl (.inl h)
theorem w_append {p : Addr} {xs : List V} {Q : VK} (h : H p = some (.lst xs)) (l : xs.length < sizeLine) (q : Q .non (upd H p (.lst (xs ++ [v])))) :
    tyV K "list" (.ref p) H ∧ rAppend (.ref p) [v] H Q := ⟨.inl ⟨rfl, xs, .inl (.inl h)⟩, p, xs, v, rfl, rfl, h, l, q⟩
end

/-! ### the law's hand: a list of the cells, how many were taken, what is left of a great one, a running number -/
def Hand (K : PySem.W.Frag) (I H : Hp) (hd : Addr) : Prop := Same I H ∧ I hd = none ∧ ∃ (c : Addr) (cells : List Int) (p cur tot : Int),
  H hd = some (.lst [.ref c, .int p, .int cur, .int tot]) ∧ SqL K I c (cells.map V.int) ∧ (∀ x ∈ cells, 0 ≤ x) ∧ 0 ≤ p ∧ 0 ≤ cur
section
variable {K : PySem.W.Frag} {I H I' H' : Hp} {hd : Addr} {M : Addr → Prop}
theorem Hand.ne (h : Hand K I H hd) : H hd ≠ none := by
  obtain ⟨_, _, c, cells, p, cur, tot, e, _⟩ := h
  rw [e]; simp
theorem Hand.sub (h : Hand K I H hd) : Same I H := h.1
theorem Hand.to (h : Hand K I H hd) (x : Lf M I H I' H') (m : ¬ M hd) : Hand K I' H' hd := by
  have n := Hand.ne h
  obtain ⟨_, i, c, cells, p, cur, tot, e, r⟩ := h
  exact ⟨x.sub, x.off i n, c, cells, p, cur, tot, x.keep _ _ m e, x.ext.seq r.1, r.2⟩
def spDraw (K : PySem.W.Frag) : Sp := fun vs H Q _ => ∃ (I : Hp) (hd : Addr) (m : Int), vs = [.ref hd, .int m] ∧ Hand K I H hd ∧ 0 < m ∧ m < 1073741824 ∧
  ∀ H' r, Lf (· = hd) I H I H' → Hand K I H' hd → 0 ≤ r → r < m → Q (.int r) H'
end

section
variable {K : PySem.W.Frag} {H : Hp} {Q : VK} {p : Addr}
theorem atI_of {α : Type} {xs : List α} {n : Int} {v : α} (h0 : 0 ≤ n) (h : xs[n.toNat]? = some v) : atI xs n = some v := by
  obtain ⟨j, rfl⟩ : ∃ j : Nat, n = (j : Int) := ⟨n.toNat, by omega⟩
  exact atI_nat (by simpa using h)
theorem w_ixInts {ns : List Int} {n : Int} (h : SqL K H p (ns.map V.int)) (h0 : 0 ≤ n) (h1 : n < ns.length) (q : ∀ z, z ∈ ns → Q (.int z) H) : rIx K (.ref p) (.int n) H Q := by
  have hn : n.toNat < ns.length := by omega
  refine w_ixL h (atI_of h0 (v := .int ns[n.toNat]) (by simp [hn])) (q _ (List.getElem_mem hn))
theorem w_ixIntsT {ns : List Int} {n : Int} (h : SqT K H p (ns.map V.int)) (h0 : 0 ≤ n) (h1 : n < ns.length) (q : ∀ z, z ∈ ns → Q (.int z) H) : rIx K (.ref p) (.int n) H Q := by
  have hn : n.toNat < ns.length := by omega
  refine w_ixT h (atI_of h0 (v := .int ns[n.toNat]) (by simp [hn])) (q _ (List.getElem_mem hn))
end
section
variable {H : Hp} {Q : VK}
theorem w_isN_non (q : Q (.bl true) H) : rIsN' .non .non H Q := ⟨rfl, q⟩
theorem w_ntN_non (q : Q (.bl false) H) : rNotN' .non .non H Q := ⟨rfl, q⟩
theorem w_isN_int {n : Int} (q : Q (.bl false) H) : rIsN' (.int n) .non H Q := ⟨rfl, q⟩
theorem w_ntN_int {n : Int} (q : Q (.bl true) H) : rNotN' (.int n) .non H Q := ⟨rfl, q⟩
theorem w_isN_bl {n : Bool} (q : Q (.bl false) H) : rIsN' (.bl n) .non H Q := ⟨rfl, q⟩
theorem w_ntN_bl {n : Bool} (q : Q (.bl true) H) : rNotN' (.bl n) .non H Q := ⟨rfl, q⟩
theorem w_isN_str {n : Str} (q : Q (.bl false) H) : rIsN' (.str n) .non H Q := ⟨rfl, q⟩
theorem w_ntN_str {n : Str} (q : Q (.bl true) H) : rNotN' (.str n) .non H Q := ⟨rfl, q⟩
theorem w_isN_ref {n : Addr} (q : Q (.bl false) H) : rIsN' (.ref n) .non H Q := ⟨rfl, q⟩
theorem w_ntN_ref {n : Addr} (q : Q (.bl true) H) : rNotN' (.ref n) .non H Q := ⟨rfl, q⟩
end
section
variable {K : PySem.W.Frag} {H : Hp} {Q : VK}
theorem w_isInt_int {n : Int} (q : Q (.bl true) H) : rIsi K [(.int n), .ty "int"] H Q := w_isInt ((.int n : Dp K H _ _)) q
theorem w_isInt_bl {n : Bool} (q : Q (.bl true) H) : rIsi K [(.bl n), .ty "int"] H Q := w_isInt ((.bl n : Dp K H _ _)) q
theorem w_isInt_str {n : Str} (q : Q (.bl false) H) : rIsi K [(.str n), .ty "int"] H Q := w_isInt ((.str n : Dp K H _ _)) q
theorem w_isInt_non (q : Q (.bl false) H) : rIsi K [.non, .ty "int"] H Q := w_isInt ((.non : Dp K H _ _)) q
theorem w_isBool_int {n : Int} (q : Q (.bl false) H) : rIsi K [(.int n), .ty "bool"] H Q := w_isBool ((.int n : Dp K H _ _)) q
theorem w_isBool_bl {n : Bool} (q : Q (.bl true) H) : rIsi K [(.bl n), .ty "bool"] H Q := w_isBool ((.bl n : Dp K H _ _)) q
theorem w_isBool_str {n : Str} (q : Q (.bl false) H) : rIsi K [(.str n), .ty "bool"] H Q := w_isBool ((.str n : Dp K H _ _)) q
theorem w_isBool_non (q : Q (.bl false) H) : rIsi K [.non, .ty "bool"] H Q := w_isBool ((.non : Dp K H _ _)) q
theorem w_isStr_int {n : Int} (q : Q (.bl false) H) : rIsi K [(.int n), .ty "str"] H Q := w_isStr ((.int n : Dp K H _ _)) q
theorem w_isStr_bl {n : Bool} (q : Q (.bl false) H) : rIsi K [(.bl n), .ty "str"] H Q := w_isStr ((.bl n : Dp K H _ _)) q
theorem w_isStr_str {n : Str} (q : Q (.bl true) H) : rIsi K [(.str n), .ty "str"] H Q := w_isStr ((.str n : Dp K H _ _)) q
theorem w_isStr_non (q : Q (.bl false) H) : rIsi K [.non, .ty "str"] H Q := w_isStr ((.non : Dp K H _ _)) q
theorem w_isTup_int {n : Int} (q : Q (.bl false) H) : rIsi K [(.int n), .ty "tuple"] H Q := w_isTup ((.int n : Dp K H _ _)) q
theorem w_isTup_bl {n : Bool} (q : Q (.bl false) H) : rIsi K [(.bl n), .ty "tuple"] H Q := w_isTup ((.bl n : Dp K H _ _)) q
theorem w_isTup_str {n : Str} (q : Q (.bl false) H) : rIsi K [(.str n), .ty "tuple"] H Q := w_isTup ((.str n : Dp K H _ _)) q
theorem w_isTup_non (q : Q (.bl false) H) : rIsi K [.non, .ty "tuple"] H Q := w_isTup ((.non : Dp K H _ _)) q
end
theorem w_nf {A B : Prop} (h : A) : if (!false) = true then A else B := h
theorem w_nt {A B : Prop} (h : B) : if (!true) = true then A else B := h
end L3
/-! Readings over data: displays, sums, slices, items, tuple(x), list(x), errors raised and caught. -/
namespace L3
open PySem PySem.Spec PyProof.Rows L2
section
variable {K : PySem.W.Frag} {I H H' : Hp} {Q : VK} {M : Addr → Prop} {v x y : V} {ds es : List PyData} {xs : List V} {p : Addr} {o : HO}
theorem Lf.ofSame (S : Same I H) (s : Same H H') : Lf M I H I H' :=
  ⟨Same.refl I, S.trans s, fun _ q => .inl q, fun b z _ e => s b z e, fun b q => by
    cases e : H b with
    | none => exact absurd e q
    | some z => rw [s b z e]; simp⟩
theorem same_new (h : H p = none) : Same H (upd H p o) := fun b z e => by rw [upd_ne (ne_of_none e h)]; exact e
/-- a new tuple that stays -/
theorem w_newT {R : Addr → Prop} (S : Same I H) (h : DpAll K I xs ds) (l : xs.length ≤ sizeLine)
    (q : ∀ I' p, Lf No I H I' (upd H p (.tup xs)) → Dp K I' (.ref p) (.tuple ds) → R p) :
    xs.length ≤ sizeLine ∧ ∀ p, H p = none → R p :=
  ⟨l, fun p hp => q (upd I p (.tup xs)) p (Lf.put S hp) (.tup (ofT upd_same) (DpAll.up h (Lf.put (M := No) S hp).ext))⟩
/-- a new list that stays -/
theorem w_newL {R : Addr → Prop} (S : Same I H) (h : DpAll K I xs ds) (l : xs.length ≤ sizeLine)
    (q : ∀ I' p, Lf No I H I' (upd H p (.lst xs)) → Dp K I' (.ref p) (.list ds) → R p) :
    xs.length ≤ sizeLine ∧ ∀ p, H p = none → R p :=
  ⟨l, fun p hp => q (upd I p (.lst xs)) p (Lf.put S hp) (.lst (ofL upd_same) (DpAll.up h (Lf.put (M := No) S hp).ext))⟩
/-- tuple + tuple -/
theorem w_catT (S : Same I H) (h1 : Dp K I x (.tuple ds)) (h2 : Dp K I y (.tuple es)) (l : ds.length + es.length ≤ sizeLine)
    (q : ∀ I' H' v, Lf No I H I' H' → Dp K I' v (.tuple (ds ++ es)) → Q v H') : rCatA K x y H Q := by
  obtain ⟨a, xs, rfl, ha, da⟩ := Dp.tupRef h1
  obtain ⟨b, ys, rfl, hb, db⟩ := Dp.tupRef h2
  have la := DpAll.length da
  have lb := DpAll.length db
  refine ⟨a, b, xs, ys, rfl, rfl, Same.seqT S ha, Same.seqT S hb, by omega, fun e => ?_, fun _ e => ?_, fun _ _ p hp => ?_⟩
  · subst e
    have e2 : ds = [] := List.length_eq_zero_iff.mp la.symm
    subst e2
    exact q I H _ (Lf.refl S) h2
  · subst e
    have e2 : es = [] := List.length_eq_zero_iff.mp lb.symm
    subst e2
    rw [List.append_nil] at q
    exact q I H _ (Lf.refl S) h1
  · have f := Lf.put (M := No) (o := .tup (xs ++ ys)) S hp
    exact q _ _ _ f (.tup (ofT upd_same) (DpAll.up (DpAll.append da db) f.ext))
theorem cut_take (n : Int) (h0 : 0 ≤ n) : cutV xs none (some n) = xs.take n.toNat := by
  obtain ⟨k, rfl⟩ : ∃ k : Nat, n = (k : Int) := ⟨n.toNat, by omega⟩
  unfold cutV
  rw [HT.sIx_none, HT.sIx_nat, List.drop_zero, Nat.sub_zero, Int.toNat_natCast]
  by_cases h : k ≤ xs.length
  · rw [Nat.min_eq_left h]
  · rw [Nat.min_eq_right (by omega), List.take_of_length_le (Nat.le_refl _), List.take_of_length_le (by omega)]
theorem cut_drop (n : Int) (h0 : 0 ≤ n) : cutV xs (some n) none = xs.drop n.toNat := by
  obtain ⟨k, rfl⟩ : ∃ k : Nat, n = (k : Int) := ⟨n.toNat, by omega⟩
  unfold cutV
  rw [HT.sIx_none, HT.sIx_nat, Int.toNat_natCast]
  by_cases h : k ≤ xs.length
  · rw [Nat.min_eq_left h]
    exact List.take_of_length_le (by rw [List.length_drop]; omega)
  · rw [Nat.min_eq_right (by omega), List.drop_of_length_le (Nat.le_refl _), List.drop_of_length_le (by omega)]
    simp
/-- t[:n], t[n:] of a tuple -/
theorem w_slT (S : Same I H) (h1 : Dp K I x (.tuple ds)) (lo hi : Option Int) (es : List PyData)
    (hc : ∀ xs : List V, DpAll K I xs ds → DpAll K I (cutV xs lo hi) es) (hw : ∀ xs : List V, DpAll K I xs ds → DpAll K I xs ds →
      HT.sIx xs.length 0 lo = 0 ∧ HT.sIx xs.length xs.length hi = xs.length → ds = es)
    (q : ∀ I' H' v, Lf No I H I' H' → Dp K I' v (.tuple es) → Q v H') : rSlA K x lo hi H Q := by
  obtain ⟨a, xs, rfl, ha, da⟩ := Dp.tupRef h1
  refine ⟨a, xs, rfl, Same.seqT S ha, fun e => ?_, fun _ p hp => ?_⟩
  · have e2 := hw xs da da e
    subst e2
    exact q I H _ (Lf.refl S) h1
  · have f := Lf.put (M := No) (o := .tup (cutV xs lo hi)) S hp
    exact q _ _ _ f (.tup (ofT upd_same) (DpAll.up (hc xs da) f.ext))
theorem w_takeT {n : Int} (S : Same I H) (h1 : Dp K I x (.tuple ds)) (h0 : 0 ≤ n)
    (q : ∀ I' H' v, Lf No I H I' H' → Dp K I' v (.tuple (ds.take n.toNat)) → Q v H') : rSlA K x none (some n) H Q := by
  refine w_slT S h1 none (some n) (ds.take n.toNat) (fun xs h => ?_) (fun xs h _ e => ?_) q
  · rw [cut_take n h0]; exact DpAll.take _ h
  · have e2 := e.2
    obtain ⟨k, rfl⟩ : ∃ k : Nat, n = (k : Int) := ⟨n.toNat, by omega⟩
    rw [HT.sIx_nat] at e2
    have l := DpAll.length h
    rw [Int.toNat_natCast, List.take_of_length_le (by omega)]
theorem w_dropT {n : Int} (S : Same I H) (h1 : Dp K I x (.tuple ds)) (h0 : 0 ≤ n)
    (q : ∀ I' H' v, Lf No I H I' H' → Dp K I' v (.tuple (ds.drop n.toNat)) → Q v H') : rSlA K x (some n) none H Q := by
  refine w_slT S h1 (some n) none (ds.drop n.toNat) (fun xs h => ?_) (fun xs h _ e => ?_) q
  · rw [cut_drop n h0]; exact DpAll.drop _ h
  · have e2 := e.1
    obtain ⟨k, rfl⟩ : ∃ k : Nat, n = (k : Int) := ⟨n.toNat, by omega⟩
    rw [HT.sIx_nat] at e2
    have l := DpAll.length h
    rw [Int.toNat_natCast]
    by_cases hk : k = 0
    · subst hk; rfl
    · have : ds = [] := List.length_eq_zero_iff.mp (by omega)
      subst this
      simp
/-- xs[:n], xs[n:] of a list: a new list that stays -/
theorem w_takeL {n : Int} (S : Same I H) (h1 : Dp K I x (.list ds)) (h0 : 0 ≤ n)
    (q : ∀ I' H' v, Lf No I H I' H' → Dp K I' v (.list (ds.take n.toNat)) → Q v H') : rSlL K x none (some n) H Q := by
  obtain ⟨a, xs, rfl, ha, da⟩ := Dp.lstRef h1
  refine ⟨a, xs, rfl, S.seq ha, fun p hp => ?_⟩
  have f := Lf.put (M := No) (o := .lst (cutV xs none (some n))) S hp
  rw [cut_take n h0] at f ⊢
  exact q _ _ _ f (.lst (ofL upd_same) (DpAll.up (DpAll.take _ da) f.ext))
/-- a[i] of data -/
theorem w_ixD {n : Int} {d : PyData} (S : Same I H) (h1 : Dp K I x (.tuple ds) ∨ Dp K I x (.list ds)) (h0 : 0 ≤ n) (e : ds[n.toNat]? = some d)
    (q : ∀ v, Dp K I v d → Q v H) : rIx K x (.int n) H Q := by
  rcases h1 with h1 | h1
  · obtain ⟨a, xs, rfl, ha, da⟩ := Dp.tupRef h1
    obtain ⟨v, e1, e2⟩ := DpAll.get da e
    exact w_ixT (Same.seqT S ha) (atI_of h0 e1) (q v e2)
  · obtain ⟨a, xs, rfl, ha, da⟩ := Dp.lstRef h1
    obtain ⟨v, e1, e2⟩ := DpAll.get da e
    exact w_ixL (S.seq ha) (atI_of h0 e1) (q v e2)
/-- len(x) of data -/
theorem w_lenD (S : Same I H) (h1 : Dp K I x (.tuple ds) ∨ Dp K I x (.list ds)) (q : Q (.int ds.length) H) : rLenS K [x] H Q := by
  rcases h1 with h1 | h1
  · obtain ⟨a, xs, rfl, ha, da⟩ := Dp.tupRef h1
    rw [← DpAll.length da] at q
    exact w_lenT (Same.seqT S ha) q
  · obtain ⟨a, xs, rfl, ha, da⟩ := Dp.lstRef h1
    rw [← DpAll.length da] at q
    exact w_lenL (S.seq ha) q
/-- tuple(x) -/
theorem w_tupOfL (S : Same I H) (h : SqL K H p xs) (hd : DpAll K I xs ds)
    (q : ∀ I' H' q, Lf No I H I' H' → TupZ I' q xs → DpAll K I' xs ds → Q (.ref q) H') : kTupZ K (.ref p) H Q := by
  refine .inl ⟨p, xs, rfl, h, fun r o hr ho => ?_⟩
  have f := Lf.put (M := No) (o := .frz o (.tup xs)) S hr
  exact q _ _ _ f ⟨o, upd_same, ho⟩ (DpAll.up hd f.ext)
theorem w_tupOfD (S : Same I H) (h1 : Dp K I x (.tuple ds) ∨ Dp K I x (.list ds))
    (q : ∀ I' H' v, Lf No I H I' H' → Dp K I' v (.tuple ds) → Q v H') : kTupZ K x H Q := by
  rcases h1 with h1 | h1
  · obtain ⟨a, xs, rfl, ha, da⟩ := Dp.tupRef h1
    exact .inr ⟨a, xs, rfl, Same.seqT S ha, q I H _ (Lf.refl S) h1⟩
  · obtain ⟨a, xs, rfl, ha, da⟩ := Dp.lstRef h1
    exact w_tupOfL S (S.seq ha) da fun I' H' r f z dd => q I' H' _ f (.tup (TupZ.sq z) dd)
theorem TupZ.up {J : Hp} (h : TupZ I p xs) (e : Same I J) : TupZ J p xs := by
  obtain ⟨o, h, z⟩ := h
  exact ⟨o, e _ _ h, z⟩
theorem TupZ.dp {ns : List Int} (h : TupZ I p (ns.map V.int)) : Dp K I (.ref p) (.tuple (ns.map PyData.int)) := .tup (TupZ.sq h) (DpAll.ints ns)
/-- a == b, a != b of data -/
theorem w_eqD {d e : PyData} (h1 : Dp K H x d) (h2 : Dp K H y e) (s1 : SeqAt.shaped d = true) (s2 : SeqAt.shaped e = true) (q : Q (.bl (PyData.eqv d e)) H) :
    rEqD K x y H Q := ⟨d, e, h1, h2, s1, s2, q⟩
theorem w_neD {d e : PyData} (h1 : Dp K H x d) (h2 : Dp K H y e) (s1 : SeqAt.shaped d = true) (s2 : SeqAt.shaped e = true) (q : Q (.bl (!PyData.eqv d e)) H) :
    rNeD K x y H Q := ⟨d, e, h1, h2, s1, s2, q⟩
theorem canLayAll_ints : ∀ ns : List Int, PyData.canLayAll0 (ns.map PyData.int) = true
  | [] => rfl
  | n :: r => by
    show (PyData.canLay0 (.int n) && PyData.canLayAll0 (r.map PyData.int)) = true
    rw [canLayAll_ints r]; rfl
theorem depthAll_ints : ∀ ns : List Int, PyData.depthAll (ns.map PyData.int) = 0
  | [] => rfl
  | n :: r => by
    show max (PyData.depth (.int n)) (PyData.depthAll (r.map PyData.int)) = 0
    rw [depthAll_ints r]; rfl
theorem shaped_ints (ns : List Int) : SeqAt.shaped (.tuple (ns.map PyData.int)) = true := by
  unfold SeqAt.shaped
  rw [show PyData.canLay0 (.tuple (ns.map PyData.int)) = PyData.canLayAll0 (ns.map PyData.int) from rfl, canLayAll_ints]
  rw [show PyData.depth (.tuple (ns.map PyData.int)) = PyData.depthAll (ns.map PyData.int) + 1 from rfl, depthAll_ints]
  rfl
theorem shaped_intsL (ns : List Int) : SeqAt.shaped (.list (ns.map PyData.int)) = true := shaped_ints ns
theorem eqvAll_ints : ∀ ns ms : List Int, PyData.eqvAll (ns.map PyData.int) (ms.map PyData.int) = decide (ns = ms)
  | [], [] => rfl
  | [], _ :: _ => rfl
  | _ :: _, [] => rfl
  | n :: r, m :: t => by
    show ((n == m) && PyData.eqvAll (r.map PyData.int) (t.map PyData.int)) = decide (n :: r = m :: t)
    rw [eqvAll_ints r t]
    by_cases h : n = m
    · subst h; simp
    · simp [h]
/-- x in xs, ints -/
theorem inV_ints {n : Int} : ∀ ns : List Int, inV (.int n) (ns.map V.int) = decide (n ∈ ns)
  | [] => rfl
  | m :: r => by
    show (eqV (.int m) (.int n) || inV (.int n) (r.map V.int)) = decide (n ∈ m :: r)
    rw [inV_ints r]
    show ((m == n) || decide (n ∈ r)) = _
    by_cases h : m = n
    · subst h; simp
    · have h' : ¬ n = m := fun e => h e.symm
      simp [h, h']
theorem flat_ints (ns : List Int) : (ns.map V.int).all flatV = true := by simp [flatV]
theorem w_inInts {n : Int} {ns : List Int} {neg : Bool} (h : SqL K H p (ns.map V.int) ∨ SqT K H p (ns.map V.int)) (q : Q (.bl (if neg then !decide (n ∈ ns) else decide (n ∈ ns))) H) :
    rIn K neg (.int n) (.ref p) H Q := ⟨p, ns.map V.int, rfl, h, rfl, flat_ints ns, by rw [inV_ints]; exact q⟩
end

/-! ### errors with one or two fields -/
section
variable {K : PySem.W.Frag} {C : Addr} {f g : Str}
def spIni1 (C : Addr) (f : Str) : Sp := fun vs H Q _ => ∃ (a : Addr) (v : V), vs = [.ref a, v] ∧ H a = some (exo a C none) ∧
  ∀ d, H d = none → d ≠ a → Q .non (upd (upd H d (exd d [(f, v)])) a (exo a C (some d)))
def spIni2 (C : Addr) (f g : Str) : Sp := fun vs H Q _ => ∃ (a : Addr) (v w : V), vs = [.ref a, v, w] ∧ H a = some (exo a C none) ∧
  ∀ d, H d = none → d ≠ a → Q .non (upd (upd (upd H d (exd d [(f, v)])) a (exo a C (some d))) d (exd d [(g, w), (f, v)]))
theorem w_raise1 {H1 : Hp} {v : V} {Q : XK} (q : ∀ H' d, Same H1 H' → H' d = some (.xd [(f, v)]) → Q (.ref C) (some d) H') :
    [v].length ≤ 1000 ∧ ∀ a, H1 a = none → spIni1 C f (.ref a :: ([v] ++ [])) (upd H1 a (exo a C none))
      (fun x H2 => x = .non ∧ ∃ (d : Addr) (fs : List (Str × V)), H2 a = some (exo a C (some d)) ∧ H2 d = some (exd d fs) ∧ H1 d = none ∧
        Q (.ref C) (some d) (upd (del H2 a) d (.xd fs))) (fun _ _ _ => False) := by
  refine ⟨by show 1 ≤ 1000; decide, fun a ha => ⟨a, v, rfl, upd_same, fun d hd hda => ⟨rfl, d, [(f, v)], upd_same, ?_, ?_, ?_⟩⟩⟩
  · rw [upd_ne hda, upd_same]
  · rw [upd_ne hda] at hd; exact hd
  · rw [upd_ne hda] at hd
    refine q _ d (fun b z e => ?_) upd_same
    have ba : b ≠ a := ne_of_none e ha
    have bd : b ≠ d := ne_of_none e hd
    rw [upd_ne bd, del_ne ba, upd_ne ba, upd_ne bd, upd_ne ba]
    exact e
theorem w_raise2 {H1 : Hp} {v w : V} {Q : XK} (q : ∀ H' d, Same H1 H' → H' d = some (.xd [(g, w), (f, v)]) → Q (.ref C) (some d) H') :
    [v, w].length ≤ 1000 ∧ ∀ a, H1 a = none → spIni2 C f g (.ref a :: ([v, w] ++ [])) (upd H1 a (exo a C none))
      (fun x H2 => x = .non ∧ ∃ (d : Addr) (fs : List (Str × V)), H2 a = some (exo a C (some d)) ∧ H2 d = some (exd d fs) ∧ H1 d = none ∧
        Q (.ref C) (some d) (upd (del H2 a) d (.xd fs))) (fun _ _ _ => False) := by
  refine ⟨by show 2 ≤ 1000; decide, fun a ha => ⟨a, v, w, rfl, upd_same, fun d hd hda => ⟨rfl, d, [(g, w), (f, v)], ?_, upd_same, ?_, ?_⟩⟩⟩
  · rw [upd_ne hda.symm, upd_same]
  · rw [upd_ne hda] at hd; exact hd
  · rw [upd_ne hda] at hd
    refine q _ d (fun b z e => ?_) upd_same
    have ba : b ≠ a := ne_of_none e ha
    have bd : b ≠ d := ne_of_none e hd
    rw [upd_ne bd, del_ne ba, upd_ne bd, upd_ne ba, upd_ne bd, upd_ne ba]
    exact e
end

/-! ### loops -/
section
variable {K : PySem.W.Frag} {H : Hp} {p : Addr} {xs : List V} {g : TG} {tb : TS} {D : Ends} {σ : L2.St} {te : TE}
theorem qb {Q : VK} {b c : Bool} (q : Q (.bl b) H) (e : b = c) : Q (.bl c) H := e ▸ q
theorem w_gpair {i j : Nat} {T : Addr} {x y : V} {Q : L2.St → Hp → Prop} (e : H T = some (.tup [x, y])) (q : Q ((σ.set i (some x)).set j (some y)) H) :
    gTup K 2 (gCons (gName i) (gCons (gName j) gNil)) (.ref T) σ H Q := ⟨T, [x, y], rfl, ofT e, rfl, x, [y], rfl, y, [], rfl, rfl, q⟩
theorem w_gpairS {i j : Nat} {T : Addr} {x y : V} {Q : L2.St → Hp → Prop} (e : SqT K H T [x, y]) (q : Q ((σ.set i (some x)).set j (some y)) H) :
    gTup K 2 (gCons (gName i) (gCons (gName j) gNil)) (.ref T) σ H Q := ⟨T, [x, y], rfl, e, rfl, x, [y], rfl, y, [], rfl, rfl, q⟩
theorem w_forEnum (h : SqL K H p xs ∨ SqT K H p xs) (Pv : Nat → L2.St → Hp → Prop) (he : ∀ Q : VK, Q (.ref p) H → te σ H Q) (h0 : Pv 0 σ H)
    (hG : ∀ i σ H', i ≤ xs.length → Pv i σ H' → Same H H')
    (hs : ∀ i x T σ H', xs[i]? = some x → Pv i σ H' → H' T = none →
      g (.ref T) σ (upd H' T (.tup [.int (i : Nat), x])) fun σ2 H2 => tb { D with nx := Pv (i + 1), ct := Pv (i + 1), bk := D.nx } σ2 H2)
    (hd : ∀ σ H', Pv xs.length σ H' → D.nx σ H') : tFor (iEnumS K (tCons te tNil)) g tb D σ H := by
  have turn : ∀ i x σ H1 H', i < xs.length → Pv i σ H1 → YPair (fun i => some (.int (i : Nat))) (fun i => xs[i]?) i H1 x H' →
      g x σ H' fun σ2 H2 => tb { D with nx := Pv (i + 1), ct := Pv (i + 1), bk := D.nx } σ2 H2 := by
    intro i x σ H1 H' _ p1 y
    obtain ⟨T, u, v, rfl, hT, rfl, e1, e2⟩ := y
    cases e1
    exact hs i v T σ H1 e2 p1 hT
  cases h with
  | inl h => exact .inl (he _ ⟨p, xs, rfl, h, for_it walk_enum Pv h0 (fun i σ H' hi q => (hG i σ H' hi q).seq h) turn hd⟩)
  | inr h => exact .inr (he _ ⟨p, xs, rfl, h, for_it walk_enumT Pv h0 (fun i σ H' hi q => Same.seqT (hG i σ H' hi q) h) turn hd⟩)
theorem w_forL (h : SqL K H p xs) (Pv : Nat → L2.St → Hp → Prop) (he : ∀ Q : VK, Q (.ref p) H → te σ H Q) (h0 : Pv 0 σ H)
    (hG : ∀ i σ H', i ≤ xs.length → Pv i σ H' → SqL K H' p xs)
    (hs : ∀ i x σ H', xs[i]? = some x → Pv i σ H' → g x σ H' fun σ2 H2 => tb { D with nx := Pv (i + 1), ct := Pv (i + 1), bk := D.nx } σ2 H2)
    (hd : ∀ σ H', Pv xs.length σ H' → D.nx σ H') : tFor (iSeq K te) g tb D σ H :=
  .inl (he _ ⟨p, rfl, ⟨_, h⟩, for_list Pv h0 hG hs hd⟩)
theorem w_forT (h : SqT K H p xs) (Pv : Nat → L2.St → Hp → Prop) (he : ∀ Q : VK, Q (.ref p) H → te σ H Q) (h0 : Pv 0 σ H)
    (hG : ∀ i σ H', i ≤ xs.length → Pv i σ H' → SqT K H' p xs)
    (hs : ∀ i x σ H', xs[i]? = some x → Pv i σ H' → g x σ H' fun σ2 H2 => tb { D with nx := Pv (i + 1), ct := Pv (i + 1), bk := D.nx } σ2 H2)
    (hd : ∀ σ H', Pv xs.length σ H' → D.nx σ H') : tFor (iSeq K te) g tb D σ H :=
  .inr (he _ ⟨p, rfl, ⟨_, h⟩, for_tup Pv h0 hG hs hd⟩)
theorem w_forR1 {n : Int} (h0' : 0 ≤ n) (h1 : n < 2 ^ 62) (Pv : Nat → L2.St → Hp → Prop) (he : ∀ Q : List V → Hp → Prop, Q [.int n] H → (tCons te tNil) σ H Q) (h0 : Pv 0 σ H)
    (hs : ∀ i σ H', i < n.toNat → Pv i σ H' → g (.int (i : Nat)) σ H' fun σ2 H2 => tb { D with nx := Pv (i + 1), ct := Pv (i + 1), bk := D.nx } σ2 H2)
    (hd : ∀ σ H', Pv n.toNat σ H' → D.nx σ H') : tFor (iRng1 (tCons te tNil)) g tb D σ H := by
  unfold tFor iRng1
  apply he
  refine ⟨n, rfl, by omega, h1, for_range (lo := 0) (n := n.toNat) Pv h0 (fun i σ H' hi q => ?_) hd⟩
  rw [Int.zero_add]
  exact hs i σ H' hi q
theorem w_forR2 {m n : Int} {tf : TE} (h0' : 0 ≤ m) (hmn : m < 2 ^ 62) (h1 : n < 2 ^ 62) (h2 : -(2 ^ 62) ≤ n) (Pv : Nat → L2.St → Hp → Prop)
    (he : ∀ Q : List V → Hp → Prop, Q [.int m, .int n] H → (tCons te (tCons tf tNil)) σ H Q) (h0 : Pv 0 σ H)
    (hs : ∀ i σ H', i < (n - m).toNat → Pv i σ H' → g (.int (m + (i : Nat))) σ H' fun σ2 H2 => tb { D with nx := Pv (i + 1), ct := Pv (i + 1), bk := D.nx } σ2 H2)
    (hd : ∀ σ H', Pv (n - m).toNat σ H' → D.nx σ H') : tFor (iRng2 (tCons te (tCons tf tNil))) g tb D σ H := by
  unfold tFor iRng2
  apply he
  exact ⟨m, n, rfl, ⟨by omega, hmn, h2, h1⟩, for_range (lo := m) (n := (n - m).toNat) Pv h0 hs hd⟩
end

/-! ### comprehensions: Pv by the turn, the heap, and what the new list at E holds -/
section
variable {K : PySem.W.Frag} {H : Hp} {p : Addr} {xs : List V} {g : TG} {tt : TT} {te tl : TE} {σ : L2.St} {vs : List Nat} {Q : VK}
theorem w_lcL (h : SqL K H p xs) (he : ∀ Q : VK, Q (.ref p) H → tl σ H Q)
    (W : ∀ E : Addr, H E = none → ∃ Pv : Nat → Hp → Prop, Pv 0 (upd H E (.lst [])) ∧ (∀ i H', i ≤ xs.length → Pv i H' → SqL K H' p xs) ∧
      (∀ i x H', xs[i]? = some x → Pv i H' → g x (wipe σ vs) H' fun σ2 H2 => wipe σ2 vs = wipe σ vs ∧ tt σ2 H2 fun b H3 =>
        if b = true then te σ2 H3 fun y H4 => ∃ acc, H4 E = some (.lst acc) ∧ acc.length < sizeLine ∧ Pv (i + 1) (upd H4 E (.lst (acc ++ [y]))) else Pv (i + 1) H3) ∧
      (∀ H', Pv xs.length H' → Q (.ref E) H')) : tLc (iSeq K tl) g tt te vs σ H Q := by
  refine .inl (he _ ⟨p, rfl, ⟨_, h⟩, fun E hE => ?_⟩)
  obtain ⟨Pv, h0, hl, hs, hd⟩ := W E hE
  exact lc_list Pv h0 hl hs hd
theorem w_lcT (h : SqT K H p xs) (he : ∀ Q : VK, Q (.ref p) H → tl σ H Q)
    (W : ∀ E : Addr, H E = none → ∃ Pv : Nat → Hp → Prop, Pv 0 (upd H E (.lst [])) ∧ (∀ i H', i ≤ xs.length → Pv i H' → SqT K H' p xs) ∧
      (∀ i x H', xs[i]? = some x → Pv i H' → g x (wipe σ vs) H' fun σ2 H2 => wipe σ2 vs = wipe σ vs ∧ tt σ2 H2 fun b H3 =>
        if b = true then te σ2 H3 fun y H4 => ∃ acc, H4 E = some (.lst acc) ∧ acc.length < sizeLine ∧ Pv (i + 1) (upd H4 E (.lst (acc ++ [y]))) else Pv (i + 1) H3) ∧
      (∀ H', Pv xs.length H' → Q (.ref E) H')) : tLc (iSeq K tl) g tt te vs σ H Q := by
  refine .inr (he _ ⟨p, rfl, ⟨_, h⟩, fun E hE => ?_⟩)
  obtain ⟨Pv, h0, hl, hs, hd⟩ := W E hE
  exact lc_tup Pv h0 hl hs hd
theorem w_lcR1 {n : Int} (h0' : 0 ≤ n) (h1 : n < 2 ^ 62) (he : ∀ Q : List V → Hp → Prop, Q [.int n] H → (tCons tl tNil) σ H Q)
    (W : ∀ E : Addr, H E = none → ∃ Pv : Nat → Hp → Prop, Pv 0 (upd H E (.lst [])) ∧
      (∀ i H', i < n.toNat → Pv i H' → g (.int (i : Nat)) (wipe σ vs) H' fun σ2 H2 => wipe σ2 vs = wipe σ vs ∧ tt σ2 H2 fun b H3 =>
        if b = true then te σ2 H3 fun y H4 => ∃ acc, H4 E = some (.lst acc) ∧ acc.length < sizeLine ∧ Pv (i + 1) (upd H4 E (.lst (acc ++ [y]))) else Pv (i + 1) H3) ∧
      (∀ H', Pv n.toNat H' → Q (.ref E) H')) : tLc (iRng1 (tCons tl tNil)) g tt te vs σ H Q := by
  unfold tLc iRng1
  apply he
  refine ⟨n, rfl, by omega, h1, fun E hE => ?_⟩
  obtain ⟨Pv, h0, hs, hd⟩ := W E hE
  refine lc_range (lo := 0) (n := n.toNat) Pv h0 (fun i H' hi q => ?_) hd
  rw [Int.zero_add]
  exact hs i H' hi q
end

/-! ### slices of a list or a tuple -/
section
variable {X : Cx} {K : PySem.W.Frag}
def rSlU (K : PySem.W.Frag) : V → Option Int → Option Int → Hp → VK → Prop := fun x lo hi H Q => rSlA K x lo hi H Q ∨ rSlL K x lo hi H Q
theorem slU : SlR X (rSlU X.K) := SlR.or sl_tupA sl_list
/-- x[:n], a list or a tuple of ints -/
theorem w_slUInts {H : Hp} {Q : VK} {p : Addr} {xs : List V} {n : Int} (h : SqL K H p xs ∨ SqT K H p xs) (h0 : 0 ≤ n)
    (q : ∀ H' r, Same H H' → (SqL K H' r (xs.take n.toNat) ∨ SqT K H' r (xs.take n.toNat)) → Q (.ref r) H') : rSlU K (.ref p) none (some n) H Q := by
  cases h with
  | inl h =>
    refine .inr ⟨p, xs, rfl, h, fun r hr => ?_⟩
    rw [cut_take n h0]
    exact q _ r (same_new hr) (.inl (ofL upd_same))
  | inr h =>
    refine .inl ⟨p, xs, rfl, h, fun e => ?_, fun _ r hr => ?_⟩
    · have e2 := e.2
      obtain ⟨k, rfl⟩ : ∃ k : Nat, n = (k : Int) := ⟨n.toNat, by omega⟩
      rw [HT.sIx_nat] at e2
      rw [Int.toNat_natCast, List.take_of_length_le (by omega)] at q
      exact q H p (Same.refl H) (.inr h)
    · rw [cut_take n h0]
      exact q _ r (same_new hr) (.inr (ofT upd_same))
theorem w_tSl {r : V → Option Int → Option Int → Hp → VK → Prop} {te : TE} {tl th : TO} {σ : L2.St} {H : Hp} {Q : VK}
    (q : te σ H fun x H1 => tl σ H1 fun l H2 => th σ H2 fun u H3 => r x l u H3 Q) : tSl r te tl th σ H Q := q
theorem w_noPart {σ : L2.St} {H : Hp} {Q : Option Int → Hp → Prop} (q : Q none H) : tNoPart σ H Q := q
theorem w_part {te : TE} {σ : L2.St} {H : Hp} {Q : Option Int → Hp → Prop} (q : te σ H fun x H1 => ∃ i, x = .int i ∧ Q (some i) H1) : tPart te σ H Q := q
theorem w_ofInt {n : Int} {P : Int → Prop} (q : P n) : ∃ i, V.int n = .int i ∧ P i := ⟨n, rfl, q⟩
end

/-! ### a sequence, or none -/
def seqOf : PyData → Option (List PyData)
  | .list ds => some ds
  | .tuple ds => some ds
  | _ => none
theorem dp_seq {K : PySem.W.Frag} {H : Hp} {v : V} {d : PyData} (h : Dp K H v d) :
    (∃ p xs ds, v = .ref p ∧ (SqL K H p xs ∨ SqT K H p xs) ∧ DpAll K H xs ds ∧ seqOf d = some ds ∧ (dLst d || dTup d) = true) ∨ (seqOf d = none ∧ (dLst d || dTup d) = false) := by
  cases h with
  | lst h q => exact .inl ⟨_, _, _, rfl, .inl h, q, rfl, rfl⟩
  | tup h q => exact .inl ⟨_, _, _, rfl, .inr h, q, rfl, rfl⟩
  | _ => exact .inr ⟨rfl, rfl⟩
theorem drop_at {α : Type} {xs : List α} {i : Nat} {x : α} (h : xs[i]? = some x) : xs.drop i = x :: xs.drop (i + 1) := by
  obtain ⟨h1, h2⟩ := List.getElem?_eq_some_iff.mp h
  rw [List.drop_eq_getElem_cons h1, h2]
theorem take_at {α : Type} {xs : List α} {i : Nat} {x : α} (h : xs[i]? = some x) : xs.take (i + 1) = xs.take i ++ [x] := by
  rw [List.take_add_one, h]; rfl
theorem seq_up {K : PySem.W.Frag} {H H' : Hp} {p : Addr} {xs : List V} (h : SqL K H p xs ∨ SqT K H p xs) (s : Same H H') : SqL K H' p xs ∨ SqT K H' p xs :=
  h.elim (fun z => .inl (s.seq z)) fun z => .inr (Same.seqT s z)
/-- the first item that is no int of al, or stands earlier -/
def rf (al : List Int) : List Int → List PyData → Nat → Option Nat
  | seen, .int n :: r, i => if n ∈ al ∧ n ∉ seen then rf al (seen ++ [n]) r (i + 1) else some i
  | _, _ :: _, i => some i
  | _, [], _ => none
theorem rf_odd {al seen : List Int} {d : PyData} {r : List PyData} {i : Nat} (h : ∀ n, d ≠ .int n) : rf al seen (d :: r) i = some i := by
  cases d with
  | int n => exact absurd rfl (h n)
  | _ => rfl
theorem rf_int {al seen : List Int} {n : Int} {r : List PyData} {i : Nat} : rf al seen (.int n :: r) i = if n ∈ al ∧ n ∉ seen then rf al (seen ++ [n]) r (i + 1) else some i := rfl
theorem rf_none {al : List Int} : ∀ (ds : List PyData) (seen : List Int) (i : Nat), rf al seen ds i = none → seen.Nodup → ∃ ns : List Int, ds = ns.map .int ∧ (seen ++ ns).Nodup ∧ ∀ n ∈ ns, n ∈ al
  | [], seen, i, _, hs => ⟨[], rfl, by simpa using hs, by simp⟩
  | d :: r, seen, i, h, hs => by
    cases d with
    | int n =>
      rw [rf_int] at h
      by_cases c : n ∈ al ∧ n ∉ seen
      · rw [if_pos c] at h
        have hs' : (seen ++ [n]).Nodup := by
          rw [List.nodup_append]
          exact ⟨hs, by simp, by rintro a ha b hb rfl; simp at hb; subst hb; exact c.2 ha⟩
        obtain ⟨ns, e, h1, h2⟩ := rf_none r (seen ++ [n]) (i + 1) h hs'
        refine ⟨n :: ns, by rw [e]; rfl, by simpa using h1, fun m hm => ?_⟩
        rcases List.mem_cons.mp hm with rfl | hm
        · exact c.1
        · exact h2 m hm
      · rw [if_neg c] at h; cases h
    | _ => exact absurd h (by simp [rf])
theorem rf_ok {al : List Int} : ∀ (ns seen : List Int) (i : Nat), (seen ++ ns).Nodup → (∀ n ∈ ns, n ∈ al) → ∀ r, rf al seen (ns.map .int ++ r) i = rf al (seen ++ ns) r (i + ns.length)
  | [], seen, i, _, _, r => by simp
  | n :: ns, seen, i, h1, h2, r => by
    have c : n ∈ al ∧ n ∉ seen := by
      refine ⟨h2 n (by simp), fun hn => ?_⟩
      rw [List.nodup_append] at h1
      exact h1.2.2 n hn n (by simp) rfl
    show rf al seen (.int n :: (ns.map .int ++ r)) i = _
    rw [rf_int, if_pos c, rf_ok ns (seen ++ [n]) (i + 1) (by simpa using h1) (fun m hm => h2 m (by simp [hm])) r]
    rw [List.append_assoc, List.length_cons]
    rw [show i + 1 + ns.length = i + (ns.length + 1) by omega]
    rfl
section
variable {K : PySem.W.Frag} {H : Hp} {Q : VK} {p : Addr} {n : Int} {ns : List Int}
theorem w_inI (h : SqL K H p (ns.map V.int) ∨ SqT K H p (ns.map V.int)) (q : Q (.bl (decide (n ∈ ns))) H) : rIn K false (.int n) (.ref p) H Q := w_inInts h q
theorem w_ninI (h : SqL K H p (ns.map V.int) ∨ SqT K H p (ns.map V.int)) (q : Q (.bl (!decide (n ∈ ns))) H) : rIn K true (.int n) (.ref p) H Q := w_inInts h q
end
theorem w_mkO {C : Addr} {sp : Sp} {dvs : List V} {ta : TA} {σ : L2.St} {H : Hp} {Q : XK}
    (q : ta σ H fun vs H1 => vs.length ≤ 1000 ∧ ∀ a, H1 a = none → sp (.ref a :: (vs ++ dvs)) (upd H1 a (exo a C none))
      (fun v H2 => v = .non ∧ ∃ (d : Addr) (fs : List (Str × V)), H2 a = some (exo a C (some d)) ∧ H2 d = some (exd d fs) ∧ H1 d = none ∧ Q (.ref C) (some d) (upd (del H2 a) d (.xd fs))) (fun _ _ _ => False)) :
    tMkO C sp dvs ta σ H Q := q
theorem w_lstRg {te : L2.St → Hp → (Int → Int → Hp → Prop) → Prop} {σ : L2.St} {H : Hp} {Q : VK} (q : te σ H fun a b H1 => RgOk a b ∧ ∀ q, H1 q = none → Q (.ref q) (upd H1 q (.lst (rgV a b)))) : tLstRg te σ H Q := q
theorem w_tupRg {te : L2.St → Hp → (Int → Int → Hp → Prop) → Prop} {σ : L2.St} {H : Hp} {Q : VK} (q : te σ H fun a b H1 => RgOk a b ∧ ∀ q, H1 q = none → Q (.ref q) (upd H1 q (.tup (rgV a b)))) : tTupRg te σ H Q := q
theorem w_rg1 {ta : TE} {σ : L2.St} {H : Hp} {Q : Int → Int → Hp → Prop} (q : ta σ H fun x H1 => ∃ n, x = .int n ∧ Q 0 n H1) : tRg1 ta σ H Q := q
theorem w_rg2 {ta tb : TE} {σ : L2.St} {H : Hp} {Q : Int → Int → Hp → Prop} (q : ta σ H fun x H1 => tb σ H1 fun y H2 => ∃ i j, x = .int i ∧ y = .int j ∧ Q i j H2) : tRg2 ta tb σ H Q := q
theorem rgOk0 {m : Int} (h0 : 0 ≤ m) (h1 : m ≤ 16777216) : RgOk 0 m := RgOk.of_le (by omega) h1 (by omega) h0
end L3
/-! More readings. -/
namespace L3
open PySem PySem.Spec PyProof.Rows L2
section
variable {K : PySem.W.Frag} {I H : Hp} {Q : VK} {p : Addr} {xs : List V} {v : V} {n : Int}
theorem w_lenS (h : SqL K H p xs ∨ SqT K H p xs) (q : Q (.int xs.length) H) : rLenS K [.ref p] H Q := ⟨p, xs, rfl, h, q⟩
theorem w_ixS (h : SqL K H p xs ∨ SqT K H p xs) (h0 : 0 ≤ n) (e : xs[n.toNat]? = some v) (q : Q v H) : rIx K (.ref p) (.int n) H Q :=
  h.elim (fun z => w_ixL z (atI_of h0 e) q) fun z => w_ixT z (atI_of h0 e) q
theorem get_map {α β : Type} {f : α → β} {l : List α} {i : Nat} (h : i < l.length) : (l.map f)[i]? = some (f l[i]) := by simp [h]
end

/-! ### rules with the written part named (within a comprehension the context's own K is no plain name) -/
section
variable {X : Cx} {K : PySem.W.Frag}
theorem op_inK (h : X.K = K) : OpR X (compareOp .In) (rIn K false) := h ▸ op_in_seq
theorem op_ninK (h : X.K = K) : OpR X (compareOp .NotIn) (rIn K true) := h ▸ op_notIn_seq
theorem ix_K (h : X.K = K) : IxR X (rIx K) := h ▸ ix_seq
theorem call_lenK (h : X.K = K) : CallR X (.builtin "len") (rLenS K) := h ▸ call_lenS
theorem call_isiK' (h : X.K = K) : CallR X (.builtin "isinstance") (rIsi K) := h ▸ call_isi
theorem call_isiTK (h : X.K = K) : CallR X (.builtin "isinstance") (rIsiT K) := h ▸ call_isiT
theorem call_listK (h : X.K = K) : CallR X (.type "list") (rListOf K) := h ▸ call_listOf
theorem slUK (h : X.K = K) : SlR X (rSlU K) := h ▸ slU
theorem sl_listK (h : X.K = K) : SlR X (rSlL K) := h ▸ sl_list
theorem sl_tupK (h : X.K = K) : SlR X (rSlA K) := h ▸ sl_tupA
theorem op_catK (h : X.K = K) : OpR X (binaryOp .Add) (rCatA K) := h ▸ op_catA
theorem op_eqK (h : X.K = K) (hu : X.A.units + 64 < cLine) : OpR X (compareOp .Eq) (rEqD K) := h ▸ op_eqD hu
theorem op_neK (h : X.K = K) (hu : X.A.units + 64 < cLine) : OpR X (compareOp .NotEq) (rNeD K) := h ▸ op_neD hu
theorem op_inDK (h : X.K = K) (hu : X.A.units + 65 < cLine) : OpR X (compareOp .In) (rInD K) := h ▸ op_inD (by first | exact hu | omega)
theorem op_ninDK (h : X.K = K) (hu : X.A.units + 65 < cLine) : OpR X (compareOp .NotIn) (rNotInD K) := h ▸ op_notInD (by first | exact hu | omega)
theorem mt_indexK (h : X.K = K) : MtR X "list.index" (rIndex K) := h ▸ mt_index
theorem mt_indexTK (h : X.K = K) : MtR X "tuple.index" (rIndexT K) := h ▸ mt_indexT
theorem pi_seqK {tg l : Expr} {tl : TE} (h : X.K = K) (hl : PE X l tl) : PI X tg l (iSeq K tl) := h ▸ pi_seq hl
theorem pi_enumK {e : Expr} {ta : TA} {p pos tpos : Pos} {elts : List Expr} {kk : Nat} (h : X.K = K) (hg : Gl X "enumerate")
    (hm : X.mg "enumerate" = none) (ha : PA X [e] ta) (hs : starEach [e] X.env = [(false, eval e X.env)] := by rfl) :
    PI X (.Tuple elts kk tpos) (.Call (.Name "enumerate" p) [e] [] pos) (iEnumS K ta) := h ▸ pi_enumS hg hm ha hs
theorem pe_tupleK {a : Expr} {ta : TE} {p pos : Pos} (h : X.K = K) (hg : Gl X "tuple") (hm : X.mg "tuple" = none) (ha : PE X a ta)
    (na : starEach [a] X.env = (false, eval a X.env) :: starEach [] X.env := by rfl) :
    PE X (.Call (.Name "tuple" p) [a] [] pos) (tThen ta (kTupZ K)) := h ▸ pe_tupleZ hg hm ha na
end
theorem units65 {k : Nat} {A : Around} (hr : Room k A) : A.units + 65 < cLine := by have := hr.un; omega

/-! ### a comprehension of one name: Inv by the turn, what stays, the heap and the data made so far -/
theorem wipe1 (σ : L2.St) (i : Nat) (v : V) : (wipe σ [i]).set i (some v) = σ.set i (some v) := by
  show (σ.set i none).set i (some v) = _
  rw [List.set_set]
theorem wipe2 (σ : L2.St) (i : Nat) (v : V) : wipe (σ.set i (some v)) [i] = wipe σ [i] := by
  show (σ.set i (some v)).set i none = σ.set i none
  rw [List.set_set]
section
variable {K : PySem.W.Frag} {I H : Hp} {M : Addr → Prop} {J : It} {n : Nat} {G : Hp → Prop} {Y : Nat → Hp → V → Hp → Prop} {item : Nat → V} {i : Nat} {σ : L2.St} {tt : TT} {te : TE} {Q : VK}
structure CompOk (K : PySem.W.Frag) (I H : Hp) (M : Addr → Prop) (n : Nat) (item : Nat → V) (i : Nat) (σ : L2.St) (tt : TT) (te : TE) (Q : VK)
    (Inv : Nat → Hp → Hp → List PyData → Prop) (Mid : Nat → Bool → Hp → Hp → List PyData → Prop) : Prop where
  sub : Same I H
  hM : ∀ b, M b → H b ≠ none
  small : n < sizeLine
  i0 : Inv 0 I H []
  stab : ∀ k I' H' ds E o, H E = none → I' E = none → Inv k I' H' ds → Inv k I' (upd H' E o) ds
  test : ∀ k I1 H1 ds (R : Bool → Hp → Prop), k < n → Lf M I H I1 H1 → Inv k I1 H1 ds →
    (∀ b I2 H2, Lf M I1 H1 I2 H2 → Mid k b I2 H2 ds → R b H2) → tt (σ.set i (some (item k))) H1 R
  elt : ∀ k I2 H2 ds (R : VK), k < n → Lf M I H I2 H2 → Mid k true I2 H2 ds →
    (∀ v d I3 H3, Lf M I2 H2 I3 H3 → Dp K I3 v d → Inv (k + 1) I3 H3 (ds ++ [d]) → R v H3) → te (σ.set i (some (item k))) H2 R
  skip : ∀ k I2 H2 ds, k < n → Mid k false I2 H2 ds → Inv (k + 1) I2 H2 ds
  fin : ∀ I' H' E vs ds, Lf M I H I' H' → H E = none → I' E = none → H' E = some (.lst vs) → DpAll K I' vs ds → Inv n I' H' ds → Q (.ref E) H'
variable {Inv : Nat → Hp → Hp → List PyData → Prop} {Mid : Nat → Bool → Hp → Hp → List PyData → Prop}
theorem comp_core (w : Walk J n G Y) (hG : ∀ H', (∀ b o, ¬ M b → H b = some o → H' b = some o) → G H') (hY : ∀ k H x H', k < n → Y k H x H' → H' = H ∧ x = item k)
    (C : CompOk K I H M n item i σ tt te Q Inv Mid) (E : Addr) (hE : H E = none) :
    ∃ W : Nat → Nat → Hp → Prop, (∃ m, W 0 m (upd H E (.lst []))) ∧ ∀ k m H, W k m H →
      (J.stop k H ∧ Q (.ref E) H) ∨ (J.go k H ∧ ∃ Nx : Hp → Prop, (∀ H', Nx H' → ∃ m', m' < m ∧ W (k + 1) m' H') ∧ ∀ x H', J.yld k H x H' → gName i x (wipe σ [i]) H' fun σ2 H2 => wipe σ2 [i] = wipe σ [i] ∧ tt σ2 H2 fun b H3 =>
        if b = true then te σ2 H3 fun y H4 => ∃ acc, H4 E = some (.lst acc) ∧ acc.length < sizeLine ∧ Nx (upd H4 E (.lst (acc ++ [y]))) else Nx H3) := by
  have nM : ¬ M E := fun m => C.hM E m hE
  refine lc_it w (fun k H' => ∃ I' vs ds, Lf M I H I' H' ∧ I' E = none ∧ H' E = some (.lst vs) ∧ vs.length ≤ k ∧ DpAll K I' vs ds ∧ Inv k I' H' ds)
    ⟨I, [], [], (Lf.refl C.sub).trans (Lf.alloc C.sub hE), Same.sub C.sub hE, upd_same, Nat.le_refl _, .nil, C.stab 0 I H [] E _ hE (Same.sub C.sub hE) C.i0⟩
    (fun k H' _ h => ?_) (fun k x H1 H1' hk h y => ?_) (fun H' h => ?_)
  · obtain ⟨I', vs, ds, f, _⟩ := h
    exact hG H' f.keep
  · obtain ⟨I1, vs, ds, f, e1, e2, e3, e4, e5⟩ := h
    obtain ⟨rfl, rfl⟩ := hY k H1 x H1' hk y
    refine w_name ?_
    rw [wipe1]
    refine ⟨wipe2 _ _ _, C.test k I1 H1' ds _ hk f e5 fun b I2 H2 f2 hm => ?_⟩
    have e1' : I2 E = none := f2.off e1 (none_ne e2)
    have e2' : H2 E = some (.lst vs) := f2.keep _ _ nM e2
    cases b with
    | false =>
      rw [if_neg Bool.false_ne_true]
      exact ⟨I2, vs, ds, f.trans f2, e1', e2', by omega, DpAll.up e4 f2.ext, C.skip k I2 H2 ds hk hm⟩
    | true =>
      rw [if_pos rfl]
      refine C.elt k I2 H2 ds _ hk (f.trans f2) hm fun v d I3 H3 f3 hd hi => ?_
      have e1'' : I3 E = none := f3.off e1' (none_ne e2')
      have e2'' : H3 E = some (.lst vs) := f3.keep _ _ nM e2'
      have hsm := C.small
      refine ⟨vs, e2'', by omega, I3, vs ++ [v], ds ++ [d], Lf.set ((f.trans f2).trans f3) hE e2'' e1'', e1'', upd_same, ?_, ?_, ?_⟩
      · rw [List.length_append, List.length_singleton]; omega
      · exact DpAll.append (DpAll.up e4 (f2.ext.trans f3.ext)) (.cons hd .nil)
      · exact C.stab _ _ _ _ _ _ hE e1'' hi
  · obtain ⟨I', vs, ds, f, e1, e2, e3, e4, e5⟩ := h
    exact C.fin I' H' E vs ds f hE e1 e2 e4 e5
theorem w_compR {m : Int} {tl : TE} (h0 : 0 ≤ m) (h1 : m < 2 ^ 62) (he : ∀ Q : List V → Hp → Prop, Q [.int m] H → (tCons tl tNil) σ H Q)
    (C : CompOk K I H M m.toNat (fun k => .int (k : Nat)) i σ tt te Q Inv Mid) : tLc (iRng1 (tCons tl tNil)) (gName i) tt te [i] σ H Q := by
  unfold tLc iRng1
  apply he
  refine ⟨m, rfl, by omega, h1, fun E hE => comp_core (walk_range (lo := 0)) (fun _ _ => True.intro) (fun k H x H' _ y => ⟨y.1, ?_⟩) C E hE⟩
  rw [y.2]
  show V.int (0 + (k : Int)) = V.int (k : Int)
  rw [Int.zero_add]
theorem w_compL {p : Addr} {xs : List V} {tl : TE} (h : SqL K I p xs) (he : ∀ Q : VK, Q (.ref p) H → tl σ H Q) (nM : ¬ M p)
    (C : CompOk K I H M xs.length (fun k => xs.getD k .non) i σ tt te Q Inv Mid) : tLc (iSeq K tl) (gName i) tt te [i] σ H Q := by
  refine .inl (he _ ⟨p, rfl, ⟨xs, C.sub.seq h⟩, fun E hE => comp_core walk_list (fun H' k => ?_) (fun k H x H' hk y => ⟨y.1, ?_⟩) C E hE⟩)
  · rcases C.sub.seq h with (h | ⟨o, h⟩) | h
    · exact .inl (.inl (k _ _ nM h))
    · exact .inl (.inr ⟨o, k _ _ nM h⟩)
    · exact .inr h
  · rw [List.getD_eq_getElem?_getD, y.2]; rfl
theorem w_compT {p : Addr} {xs : List V} {tl : TE} (h : SqT K I p xs) (he : ∀ Q : VK, Q (.ref p) H → tl σ H Q) (nM : ¬ M p)
    (C : CompOk K I H M xs.length (fun k => xs.getD k .non) i σ tt te Q Inv Mid) : tLc (iSeq K tl) (gName i) tt te [i] σ H Q := by
  refine .inr (he _ ⟨p, rfl, ⟨xs, Same.seqT C.sub h⟩, fun E hE => comp_core walk_tup (fun H' k => ?_) (fun k H x H' hk y => ⟨y.1, ?_⟩) C E hE⟩)
  · rcases Same.seqT C.sub h with (h | ⟨o, h⟩) | h
    · exact .inl (.inl (k _ _ nM h))
    · exact .inl (.inr ⟨o, k _ _ nM h⟩)
    · exact .inr h
  · rw [List.getD_eq_getElem?_getD, y.2]; rfl
end
end L3
/-! Comprehensions whose test and element are known turn by turn; pops; index. -/
namespace L3
open PySem PySem.Spec PyProof.Rows L2
section
variable {K : PySem.W.Frag} {I H : Hp} {M : Addr → Prop} {n : Nat} {item : Nat → V} {i : Nat} {σ : L2.St} {tt : TT} {te : TE} {Q : VK}
variable {Inv : Nat → Hp → Hp → List PyData → Prop} {Mid : Nat → Bool → Hp → Hp → List PyData → Prop}
theorem w_compS {p : Addr} {xs : List V} {tl : TE} (h : SqL K I p xs ∨ SqT K I p xs) (he : ∀ Q : VK, Q (.ref p) H → tl σ H Q) (nM : ¬ M p)
    (C : CompOk K I H M xs.length (fun k => xs.getD k .non) i σ tt te Q Inv Mid) : tLc (iSeq K tl) (gName i) tt te [i] σ H Q :=
  h.elim (fun z => w_compL z he nM C) fun z => w_compT z he nM C
theorem CompOk.map (sub : Same I H) (hM : ∀ b, M b → H b ≠ none) (small : n < sizeLine) (i0 : Inv 0 I H [])
    (stab : ∀ k I' H' ds E o, H E = none → I' E = none → Inv k I' H' ds → Inv k I' (upd H' E o) ds)
    (elt : ∀ k I2 H2 ds (R : VK), k < n → Lf M I H I2 H2 → Inv k I2 H2 ds →
      (∀ v d I3 H3, Lf M I2 H2 I3 H3 → Dp K I3 v d → Inv (k + 1) I3 H3 (ds ++ [d]) → R v H3) → te (σ.set i (some (item k))) H2 R)
    (fin : ∀ I' H' E vs ds, Lf M I H I' H' → H E = none → I' E = none → H' E = some (.lst vs) → DpAll K I' vs ds → Inv n I' H' ds → Q (.ref E) H') :
    CompOk K I H M n item i σ tYes te Q Inv (fun k b I' H' ds => b = true ∧ Inv k I' H' ds) where
  sub := sub
  hM := hM
  small := small
  i0 := i0
  stab := stab
  test := fun k I1 H1 ds R _ f h q => q true I1 H1 (Lf.refl f.sub) ⟨rfl, h⟩
  elt := fun k I2 H2 ds R hk f h q => elt k I2 H2 ds R hk f h.2 q
  skip := fun k I2 H2 ds _ h => nomatch h.1
  fin := fin
theorem CompOk.pure (D : Nat → PyData) (sub : Same I H) (hM : ∀ b, M b → H b ≠ none) (small : n < sizeLine)
    (elt : ∀ k I2 H2 (R : VK), k < n → Lf M I H I2 H2 → (∀ v I3 H3, Lf M I2 H2 I3 H3 → Dp K I3 v (D k) → R v H3) → te (σ.set i (some (item k))) H2 R)
    (fin : ∀ I' H' E vs, Lf M I H I' H' → H E = none → I' E = none → H' E = some (.lst vs) → DpAll K I' vs ((List.range n).map D) → Q (.ref E) H') :
    CompOk K I H M n item i σ tYes te Q (fun k _ _ ds => ds = (List.range k).map D) (fun k b _ _ ds => b = true ∧ ds = (List.range k).map D) :=
  CompOk.map sub hM small rfl (fun _ _ _ _ _ _ _ _ h => h)
    (fun k I2 H2 ds R hk f h q => elt k I2 H2 R hk f fun v I3 H3 f3 d => q v (D k) I3 H3 f3 d (by rw [h, List.range_succ, List.map_append]; rfl))
    (fun I' H' E vs ds f e1 e2 e3 d h => fin I' H' E vs f e1 e2 e3 (h ▸ d))
theorem CompOk.filt (T : Nat → Bool) (D : Nat → PyData) (sub : Same I H) (hM : ∀ b, M b → H b ≠ none) (small : n < sizeLine)
    (test : ∀ k I1 H1 (R : Bool → Hp → Prop), k < n → Lf M I H I1 H1 → (∀ b I2 H2, b = T k → Lf M I1 H1 I2 H2 → R b H2) → tt (σ.set i (some (item k))) H1 R)
    (elt : ∀ k I2 H2 (R : VK), k < n → T k = true → Lf M I H I2 H2 → (∀ v I3 H3, Lf M I2 H2 I3 H3 → Dp K I3 v (D k) → R v H3) → te (σ.set i (some (item k))) H2 R)
    (fin : ∀ I' H' E vs, Lf M I H I' H' → H E = none → I' E = none → H' E = some (.lst vs) → DpAll K I' vs (((List.range n).filter T).map D) → Q (.ref E) H') :
    CompOk K I H M n item i σ tt te Q (fun k _ _ ds => ds = ((List.range k).filter T).map D) (fun k b _ _ ds => b = T k ∧ ds = ((List.range k).filter T).map D) where
  sub := sub
  hM := hM
  small := small
  i0 := rfl
  stab := fun _ _ _ _ _ _ _ _ h => h
  test := fun k I1 H1 ds R hk f h q => test k I1 H1 R hk f fun b I2 H2 e f2 => q b I2 H2 f2 ⟨e, h⟩
  elt := fun k I2 H2 ds R hk f h q => elt k I2 H2 R hk h.1.symm f fun v I3 H3 f3 d => q v (D k) I3 H3 f3 d (by
    rw [h.2, List.range_succ, List.filter_append, List.map_append, List.filter_cons_of_pos h.1.symm]; rfl)
  skip := fun k I2 H2 ds _ h => by
    rw [h.2, List.range_succ, List.filter_append, List.filter_cons_of_neg (by rw [← h.1]; simp)]; simp
  fin := fun I' H' E vs ds f e1 e2 e3 d h => fin I' H' E vs f e1 e2 e3 (h ▸ d)
end
section
variable {K : PySem.W.Frag} {H : Hp} {Q : VK} {p : Addr} {ns : List Int}
theorem seqIndex_nat {i n : Nat} (h : i < n) : seqIndex? (i : Int) n = some i := by
  have h' : ¬ (i : Int) < 0 := by omega
  unfold seqIndex?
  simp [h', h]
theorem erase_map {α β : Type} (f : α → β) : ∀ (l : List α) (j : Nat), (l.map f).eraseIdx j = (l.eraseIdx j).map f
  | [], _ => rfl
  | _ :: _, 0 => rfl
  | x :: l, j + 1 => by
    show f x :: (l.map f).eraseIdx j = f x :: (l.eraseIdx j).map f
    rw [erase_map f l j]
/-- left.pop(r) -/
theorem w_popInts {r : Int} (e : H p = some (.lst (ns.map V.int))) (h0 : 0 ≤ r) (h1 : r < ns.length) (l : ns.length < sizeLine)
    (q : ∀ (z : Int), ns[r.toNat]? = some z → Q (.int z) (upd H p (.lst ((ns.eraseIdx r.toNat).map V.int)))) :
    tyV K "list" (.ref p) H ∧ rPopAt (.ref p) [.int r] H Q := by
  obtain ⟨j, rfl⟩ : ∃ j : Nat, r = (j : Int) := ⟨r.toNat, by omega⟩
  have hj : j < ns.length := by omega
  rw [Int.toNat_natCast] at q
  have s : sizeLine ≤ 2 ^ 62 := by decide
  refine ⟨.inl ⟨rfl, _, ofL e⟩, p, ns.map V.int, (j : Int), j, .int ns[j], rfl, rfl, e, by omega, by omega, ?_, by simp [hj], ?_⟩
  · rw [List.length_map]; exact seqIndex_nat hj
  · have z := q ns[j] (by simp [hj])
    rw [erase_map]
    exact z
/-- t.index(n) of a tuple of distinct ints -/
theorem w_indexZ {n : Int} {j : Nat} (h : TupZ H p (ns.map V.int)) (e : ns[j]? = some n) (hno : ∀ m, m < j → ns[m]? ≠ some n) (q : Q (.int (j : Nat)) H) :
    (∃ a xs, V.ref p = .ref a ∧ TupZ H a xs) ∧ rIndexT K (.ref p) [.int n] H Q := by
  refine ⟨⟨p, _, rfl, h⟩, p, ns.map V.int, .int n, j, .int n, rfl, rfl, TupZ.sq h, rfl, flat_ints ns, by rw [List.getElem?_map, e]; rfl, beq_self_eq_true n, fun m z hm hz => ?_, q⟩
  rw [List.getElem?_map] at hz
  cases e2 : ns[m]? with
  | none => rw [e2] at hz; cases hz
  | some k =>
    rw [e2] at hz
    cases hz
    show (k == n) = false
    rw [beq_eq_false_iff_ne]
    intro e3
    exact hno m hm (e3 ▸ e2)
theorem map_range_get {α : Type} (f : Int → α) (ks : List Int) (g : Nat → Int) (hg : ∀ k, (h : k < ks.length) → g k = ks[k]) : (List.range ks.length).map (fun k => f (g k)) = ks.map f := by
  refine List.ext_getElem (by simp) fun i h1 h2 => ?_
  simp only [List.length_map, List.length_range] at h1
  simp [hg i h1]
end
section
variable {K : PySem.W.Frag} {I H : Hp} {p : Addr} {xs : List V} {g : TG} {tb : TS} {D : Ends} {σ : L2.St} {te : TE}
theorem w_forS (h : SqL K I p xs ∨ SqT K I p xs) (Pv : Nat → L2.St → Hp → Prop) (he : ∀ Q : VK, Q (.ref p) H → te σ H Q) (h0 : Pv 0 σ H)
    (hG : ∀ i σ H', i ≤ xs.length → Pv i σ H' → Same I H')
    (hs : ∀ i x σ H', xs[i]? = some x → Pv i σ H' → g x σ H' fun σ2 H2 => tb { D with nx := Pv (i + 1), ct := Pv (i + 1), bk := D.nx } σ2 H2)
    (hd : ∀ σ H', Pv xs.length σ H' → D.nx σ H') : tFor (iSeq K te) g tb D σ H := by
  have s := hG 0 σ H (Nat.zero_le _) h0
  rcases h with h | h
  · exact w_forL (s.seq h) Pv he h0 (fun i σ H' hi q => (hG i σ H' hi q).seq h) hs hd
  · exact w_forT (Same.seqT s h) Pv he h0 (fun i σ H' hi q => Same.seqT (hG i σ H' hi q) h) hs hd
end
section
variable {K : PySem.W.Frag} {H : Hp} {p : Addr} {xs : List V} {v : V}
theorem w_tyL {B : Prop} (h : H p = some (.lst xs)) (q : B) : tyV K "list" (.ref p) H ∧ B := ⟨.inl ⟨rfl, xs, ofL h⟩, q⟩
theorem w_append' {Q : VK} (h : H p = some (.lst xs)) (l : xs.length < sizeLine) (q : Q .non (upd H p (.lst (xs ++ [v])))) : rAppend (.ref p) [v] H Q := ⟨p, xs, v, rfl, rfl, h, l, q⟩
end
section
variable {K : PySem.W.Frag} {I H : Hp} {hd p : Addr} {o : HO}
theorem Hand.upd (h : Hand K I H hd) (n : I p = none) (ne : hd ≠ p) : Hand K I (upd H p o) hd := by
  obtain ⟨s, i, c, cells, pp, cur, tot, e, r⟩ := h
  exact ⟨Same.updI s n, i, c, cells, pp, cur, tot, by rw [upd_ne ne]; exact e, r⟩
theorem Hand.neOf (h : Hand K I H hd) (e : H p = none) : hd ≠ p := fun z => h.ne (z ▸ e)
end
theorem FnOk.none {P : Program} {w : World} {K : PySem.W.Frag} {mg : Str → Option Value} {base : Heap} {CX : CXT} {k : Nat} {f : Addr} {fd : FuncData} {ps : List Str} :
    FnOk P w K mg base CX k f fd ps (fun _ _ _ _ => False) := ⟨fun _ _ _ _ h => h.elim, fun _ _ _ _ _ _ _ _ _ _ _ _ _ h => h.elim⟩
/-- data of plain kinds, nested less than n deep -/
def plainD : Nat → PyData → Prop
  | 0, _ => False
  | n + 1, .tuple ds => ds.length ≤ 1000 ∧ ∀ d ∈ ds, plainD n d
  | _ + 1, .list _ => False
  | _ + 1, .dict _ => False
  | _ + 1, .str x => SeqAt.shaped (.str x) = true
  | _ + 1, _ => True
section
variable {K : PySem.W.Frag} {H : Hp} {σ : L2.St} {Q : VK}
theorem w_callS {sp : Sp} {E : L2.St → XK} {t : TA} (q : t σ H fun vs H1 => sp vs H1 Q (E σ)) : tCallS sp E t σ H Q := q
variable {Wout : WX} {D : Ends} {cls c : Value} {d : Option Addr} {i : Nat} {ts : Addr → Value → Option Addr → TS} {r : List Cl}
theorem w_hit (e : PySem.W.exmOne K cls c = some true) (q : ∀ a, H a = none → ts a cls d { nx := fun σ' H' => D.nx (σ'.set i none) H', rt := D.rt, bk := fun σ' H' => D.bk (σ'.set i none) H', ct := fun σ' H' => D.ct (σ'.set i none) H' } (σ.set i (some (.ref a))) H) :
    wMas K Wout D (⟨c, i, ts⟩ :: r) cls d σ H := ⟨true, e, fun _ => q, fun h => nomatch h⟩
theorem w_miss (e : PySem.W.exmOne K cls c = some false) (q : wMas K Wout D r cls d σ H) : wMas K Wout D (⟨c, i, ts⟩ :: r) cls d σ H := ⟨false, e, (fun h => nomatch h), fun _ => q⟩
theorem w_xf1 {a C dd : Addr} {f : Str} {v : V} (h : H dd = some (.xd [(f, v)])) (q : Q v H) (e : σ[i]? = some (some (.ref a))) : tXf a (.ref C) (some dd) C f (tVar i) σ H Q :=
  ⟨.ref a, e, rfl, rfl, dd, [(f, v)], v, rfl, h, by simp [List.lookup], q⟩
end
section
variable {K : PySem.W.Frag} {I H : Hp} {xs : List V} {R : Addr → Prop}
/-- a new list, a new tuple that stays, its items known -/
theorem w_putL (S : Same I H) (l : xs.length ≤ sizeLine) (q : ∀ I' p, Lf No I H I' (upd H p (.lst xs)) → SqL K I' p xs → R p) : xs.length ≤ sizeLine ∧ ∀ p, H p = none → R p :=
  ⟨l, fun p hp => q (upd I p (.lst xs)) p (Lf.put S hp) (ofL upd_same)⟩
theorem w_putT (S : Same I H) (l : xs.length ≤ sizeLine) (q : ∀ I' p, Lf No I H I' (upd H p (.tup xs)) → SqT K I' p xs → R p) : xs.length ≤ sizeLine ∧ ∀ p, H p = none → R p :=
  ⟨l, fun p hp => q (upd I p (.tup xs)) p (Lf.put S hp) (ofT upd_same)⟩
end
theorem plain_told {s : Str} {ns : List Int} (hs : SeqAt.shaped (.str s) = true) (l : ns.length ≤ 1000) : plainD 5 (.tuple [.str s, .tuple (ns.map .int)]) := by
  refine ⟨by show 2 ≤ 1000; decide, fun d hd => ?_⟩
  rcases List.mem_cons.mp hd with rfl | hd
  · exact hs
  · rcases List.mem_cons.mp hd with rfl | hd
    · refine ⟨by rw [List.length_map]; exact l, fun d hd => ?_⟩
      obtain ⟨n, _, rfl⟩ := List.mem_map.mp hd
      exact True.intro
    · cases hd
theorem plain_pair {s : Str} {n : Int} (hs : SeqAt.shaped (.str s) = true) : plainD 5 (.tuple [.str s, .int n]) := by
  refine ⟨by show 2 ≤ 1000; decide, fun d hd => ?_⟩
  rcases List.mem_cons.mp hd with rfl | hd
  · exact hs
  · rcases List.mem_cons.mp hd with rfl | hd
    · exact True.intro
    · cases hd
end L3
/-! isinstance of a caught error of an own class that has fields. -/
namespace L3
open PySem PySem.Spec PySem.Calls PyProof.Rows L2 PySem.W
section
variable {prog : Program} {w : World} {A : Around} {E : Value → Shared → Prop} {K : Frag} {e D : Addr} {oe : Obj} {od : Option Obj}
theorem dataFound {C : Addr} {n : Str} {at' g : Value} (c : (clsIn K C).isSome = true) (f : findIn K (.ref C) n = some (some at')) (sp : specialIn K at' "__get__" = some (some g)) (tk : takesIn K at' = some true) :
    findObj K C od n = some (.bind g at') := by
  obtain ⟨cd, c⟩ := Option.isSome_iff_exists.mp c
  unfold findObj
  rw [c, Option.bind_some, f, Option.bind_some]
  simp [sp, tk]
theorem clsOfErr {Q : Option Value → Shared → Prop} {s : Shared} (C : ExcC K D) (X : K.In s.heap) (J : InstAt s.heap e oe D od) (q : Q (some (.ref D)) { s with toks := s.toks + 1 }) :
    wpAny (model prog w) A (getAttr? (.ref e) "__class__") Q E s := by
  have found : findObj K D od "__class__" = some (.bind (.builtin "getset_descriptor.__get__") (.builtin "object.__class__")) := dataFound (by obtain ⟨cd, hc, _⟩ := any_some C.hd; rw [hc]; rfl) C.ha C.hn C.ht
  obtain ⟨hp, gn, dr, tk, os⟩ := s
  have M0 := J.type (M := model prog w)
  have M1 := looks_findIn (M := model prog w) X C.hg
  have M2 := looks_findIn (M := model prog w) X C.hk
  have M3 := looks_find (M := model prog w) X J found
  have isExc : Looks (model prog w) hp (isInstance (.ref e) (.type "BaseException")) true := M0.andThen (looks_subIn X C.hs)
  have y0 : (false && onTheHeap (Value.builtin "BaseException.__getattribute__")) = false := rfl
  have y2 : (Value.builtin "BaseException.__getattribute__" == Value.builtin "object.__getattribute__") = false := by decide +kernel
  have y1 : (onTheHeap (Value.ref D) && Value.builtin "BaseException.__getattribute__" == Value.builtin "object.__getattribute__") = false := by rw [y2]; rfl
  unfold getAttr? getAttrBy? getAttrBy
  refine wpAny_bind (wpAny_mkText (wpAny_bind (wpAny_attempt (wpAny_holding (wpAny_bind (M0.at (wpAny_bind (M1.at ?_))))))))
  show wpAny _ _ (if (onTheHeap (Value.ref D) && Value.builtin "BaseException.__getattribute__" == Value.builtin "object.__getattribute__") = true then _ else _) _ _ _
  rw [y1, if_neg Bool.false_ne_true]
  unfold getAttrByItsOwn hookBefore
  refine wpAny_bind ?_
  rw [if_pos (show onTheHeap (Value.ref D) = true from rfl)]
  refine M2.at ?_
  refine wpAny_bind (wpAny_attempt (wpAny_holding ?_))
  unfold callGetattribute
  rw [y0, if_neg Bool.false_ne_true]
  unfold boundAndCalled
  rw [PySem.F.excAttr_ValueError.ga.bind (.ref e)]
  refine wpAny_bind (wpAny_pure ?_)
  show wpAny _ _ (call (.builtin "BaseException.__getattribute__") [.ref e, .str "__class__" tk]) _ _ _
  refine wpAny_call (codeAny_call_builtin PySem.F.excAttr_ValueError.ga.plain PySem.F.entry_bexc_ga ?_)
  refine @check_slot (model prog w) _ _ ⟨hp, gn, dr, tk + 1, os⟩ "BaseException.__getattribute__" "BaseException" "__getattribute__" (.ref e) [.str "__class__" tk] [] _ (by decide +kernel) (by decide +kernel) isExc (PySem.F.args_bexc_ga (.ref e) (.str "__class__" tk)) ?_
  unfold Builtin.«object.__getattribute__»
  refine wpAny_bind (wpAny_of_eq (a := ((Value.ref e : Value), [Value.str "__class__" tk])) (by first | rfl | (simp only [slotArgs]; rfl)) ?_)
  refine wpAny_bind (wpAny_pure (wpAny_bind (M0.at (wpAny_bind (M3.at ?_)))))
  show wpAny _ _ (holding [Value.builtin "object.__class__"] (call (.builtin "getset_descriptor.__get__") [.builtin "object.__class__", .ref e, .ref D]) >>= ret) _ _ _
  refine wpAny_bind (wpAny_holding (wpAny_call (class_get (s := ⟨hp, gn, dr, tk + 1, os⟩) (ox := oe) (od := od) X J C.hm ?_)))
  refine wpAny_pure ?_
  show wpAny _ _ (handedOut (.ref D)) _ _ _
  rw [handedOut_of (v := .ref D) rfl]
  first
    | exact wpAny_pure (wpAny_pure q)
    | exact wpAny_pure q
    | exact wpAny_pure (wpAny_bind (wpAny_pure (wpAny_pure q)))
theorem kitErr (C : ExcC K D) : KitX K (.ref e) (.ref D) (fun h => InstAt h e oe D od) where
  ty := fun _ _ _ J => J.type
  it := fun _ _ X _ => by
    obtain ⟨cdD, hcD, _⟩ := any_some C.hd
    unfold clsIn at hcD
    split at hcD
    · rename_i c' d' cd' sl' ho
      intro A' Q' E' s' k q
      unfold isType loadHead
      exact wpAny_bind (wpAny_loadPart (k _ _ (X _ _ ho)) (wpAny_pure q))
    · cases hcD
  ne := fun h tp dd its n sl X htp => by
    obtain ⟨cdD, hcD, _⟩ := any_some C.hd
    refine Bool.eq_false_iff.mpr fun q => ?_
    have z : D = tp := Value.ref.inj (beq_iff_eq.mp q)
    subst z
    unfold clsIn at hcD
    split at hcD
    · rename_i c' d' cd' sl' ho
      cases (X _ _ ho).symm.trans htp
    · cases hcD
  ca := fun X J k => clsOfErr C X J k
end
/-- isinstance(e, c), e the exception that the suite holds, of the class D, with the fields at d -/
def rIsF (K : PySem.W.Frag) (D a : Addr) (cls : Value) (d : Option Addr) : List V → Hp → VK → Prop := fun xs H Q =>
  cls = .ref D ∧ (∃ dd fs, d = some dd ∧ H dd = some (.xd fs)) ∧ ∃ (c : V) (cv : Value) (b : Bool), xs = [.ref a, c] ∧ (∀ u, RelV c u → u = cv) ∧ PySem.W.kitOne K (.ref D) cv = some b ∧ Q (.bl b) H
theorem call_isF {X : Cx} {a D : Addr} {cls : Value} {d : Option Addr} {oe : Obj} {pn : List (Addr × Obj)} (C : ExcC X.K D) (hz : Zc cls d oe) (hf : ∃ vs, oe.data = .fields vs) :
    CallR (X.suite a ((a, oe) :: pn)) (.builtin "isinstance") (rIsF X.K D a cls d) := by
  intro pins s σ H xs us Q I r h
  obtain ⟨rfl, ⟨dd, fs, rfl, hdd⟩, c, cv, b, rfl, hcv, e, q⟩ := h
  cases r with
  | cons rx rr =>
    cases rr with
    | cons rt rr =>
      cases rr
      cases rx
      have ec := hcv _ rt
      subst ec
      obtain ⟨hget, _⟩ := I.pin (a, oe) (List.mem_append.mpr (.inl List.mem_cons_self))
      obtain ⟨vs, hv⟩ := hf
      have hx : ObjOk X.prog X.w H s.heap dd (.xd fs) := I.hok dd _ hdd
      obtain ⟨mA, hns, hr⟩ := hx
      obtain ⟨od, ho, hl⟩ := lookIn_ns hns
      have J : PySem.W.InstAt s.heap a oe D (some od) := ⟨hget, hz.1, by unfold PySem.W.notCls; rw [hv] <;> rfl, by rw [hz.2]; exact ho⟩
      exact PySem.W.kia_one (kitErr C) I.kIn J e (fun z => nomatch z) fun tk => ⟨.bl b, H, I.kept (t' := tk) fun _ _ z => z, rfl, q⟩
theorem w_isF {K : PySem.W.Frag} {D C a dd : Addr} {f : Str} {v : V} {b : Bool} {H : Hp} {Q : VK} (hd : H dd = some (.xd [(f, v)])) (e : PySem.W.kitOne K (.ref D) (.ref C) = some b) (q : Q (.bl b) H) :
    rIsF K D a (.ref D) (some dd) [.ref a, .ref C] H Q := ⟨rfl, ⟨dd, _, rfl, hd⟩, .ref C, .ref C, b, rfl, fun u r => r, e, q⟩
section
variable {K : PySem.W.Frag} {I H : Hp} {hd p : Addr} {o : HO} {Q : VK} {σ : L2.St} {te0 te : TE} {tt : TT} {g : TG} {vs : List Nat} {tb : TS} {D : Ends}
theorem handFreeze (h : Hand K I H hd) (e : H p = some o) (n : I p = none) (ne : hd ≠ p) : Hand K (upd I p o) H hd := by
  obtain ⟨s, i, c, cells, pp, cur, tot, e2, hc, r⟩ := h
  have up : Same I (upd I p o) := fun b z q => by rw [upd_ne (fun h => by rw [h, n] at q; cases q)]; exact q
  refine ⟨fun b z q => ?_, by rw [upd_ne ne]; exact i, c, cells, pp, cur, tot, e2, up.seq hc, r⟩
  by_cases hb : b = p
  · subst hb
    rw [upd_same] at q
    rw [← q]
    exact e
  · rw [upd_ne hb] at q
    exact s b z q
/-- the count of turns is worked out first -/
theorem w_lcIter (q : te0 σ H fun x H1 => tLc (iRng1 (tCons (tC x) tNil)) g tt te vs σ H1 Q) : tLc (iRng1 (tCons te0 tNil)) g tt te vs σ H Q := q
theorem w_forIter (q : te0 σ H fun x H1 => tFor (iRng1 (tCons (tC x) tNil)) g tb D σ H1) : tFor (iRng1 (tCons te0 tNil)) g tb D σ H := q
end
theorem plain_tup {ns : List Int} (l : ns.length ≤ 1000) : plainD 5 (.tuple (ns.map .int)) := by
  refine ⟨by rw [List.length_map]; exact l, fun d hd => ?_⟩
  obtain ⟨n, _, rfl⟩ := List.mem_map.mp hd
  exact True.intro
/-- the first of a list, or None -/
def headD {α : Type} (f : α → PyData) : Option α → PyData
  | none => .none
  | some x => f x
section
variable {K : PySem.W.Frag} {I H : Hp} {b : Addr} {Q : VK} {σ : L2.St} {xs : List V} {i : Nat}
theorem w_firstOf {α : Type} {f : α → PyData} {L : List α} (e : σ[i]? = some (some (.ref b))) (h : H b = some (.lst xs)) (S : Same I H) (aX : DpAll K I xs (L.map f)) (q : ∀ x, Dp K I x (headD f L.head?) → Q x H) :
    ∃ k, TruV K (.ref b) H k ∧ (fun c H1 => if c = true then tOp (rIx K) (tVar i) (tC (.int 0)) σ H1 Q else tC .non σ H1 Q) k H := by
  cases L with
  | nil =>
    cases aX
    exact ⟨false, .inl ⟨[], ofL h, rfl⟩, q .non .non⟩
  | cons x L =>
    cases aX with
    | cons h1 h2 => exact ⟨true, .inl ⟨_, ofL h, rfl⟩, w_op (w_var e (w_c (w_ixL (ofL h) (atI_of (by decide) rfl) (q _ h1))))⟩
end
end L3
namespace LW
open PySem PySem.Spec PyProof.Rows L2 L3
def topS (i : Nat) : Stmt := PySem.Challenge.pw_spentframes_k08_whole_rows_among_frames.main.body.getD i (.Pass ⟨0, 0, 0, 0⟩)
abbrev s_BadCount_init : Stmt := inClass (topS 2) 0
theorem sc_BadCount_init : FnScope ["self", "most"] ["self", "most"] (defScope s_BadCount_init) := ⟨rfl, rfl, rfl, by decide +kernel, rfl, by decide +kernel, by decide +kernel⟩
abbrev s_BadRow_init : Stmt := inClass (topS 3) 0
theorem sc_BadRow_init : FnScope ["self", "at"] ["self", "at"] (defScope s_BadRow_init) := ⟨rfl, rfl, rfl, by decide +kernel, rfl, by decide +kernel, by decide +kernel⟩
abbrev s_BadFrames_init : Stmt := inClass (topS 4) 0
theorem sc_BadFrames_init : FnScope ["self", "at"] ["self", "at"] (defScope s_BadFrames_init) := ⟨rfl, rfl, rfl, by decide +kernel, rfl, by decide +kernel, by decide +kernel⟩
abbrev s_is_whole : Stmt := topS 6
theorem sc_is_whole : FnScope ["thing", "low", "high"] ["thing", "low", "high"] (defScope s_is_whole) := ⟨rfl, rfl, rfl, by decide +kernel, rfl, by decide +kernel, by decide +kernel⟩
abbrev s_is_sequence : Stmt := topS 7
theorem sc_is_sequence : FnScope ["thing"] ["thing"] (defScope s_is_sequence) := ⟨rfl, rfl, rfl, by decide +kernel, rfl, by decide +kernel, by decide +kernel⟩
abbrev s_check_count : Stmt := topS 10
theorem sc_check_count : FnScope ["m", "most"] ["m", "most"] (defScope s_check_count) := ⟨rfl, rfl, rfl, by decide +kernel, rfl, by decide +kernel, by decide +kernel⟩
abbrev s_row_fault : Stmt := topS 11
theorem sc_row_fault : FnScope ["allowed", "row", "at", "frame"] ["allowed", "row"] (defScope s_row_fault) := ⟨rfl, rfl, rfl, by decide +kernel, rfl, by decide +kernel, by decide +kernel⟩
abbrev s_check_row : Stmt := topS 12
theorem sc_check_row : FnScope ["m", "row", "at"] ["m", "row"] (defScope s_check_row) := ⟨rfl, rfl, rfl, by decide +kernel, rfl, by decide +kernel, by decide +kernel⟩
abbrev s_begins_row : Stmt := topS 13
theorem sc_begins_row : FnScope ["one", "other"] ["one", "other"] (defScope s_begins_row) := ⟨rfl, rfl, rfl, by decide +kernel, rfl, by decide +kernel, by decide +kernel⟩
abbrev s_first_meeting : Stmt := topS 14
theorem sc_first_meeting : FnScope ["rows", "i", "one", "j"] ["rows"] (defScope s_first_meeting) := ⟨rfl, rfl, rfl, by decide +kernel, rfl, by decide +kernel, by decide +kernel⟩
abbrev s_which_begins : Stmt := topS 15
theorem sc_which_begins : FnScope ["rows", "row", "at", "one"] ["rows", "row"] (defScope s_which_begins) := ⟨rfl, rfl, rfl, by decide +kernel, rfl, by decide +kernel, by decide +kernel⟩
abbrev s_unspent_frames : Stmt := topS 16
theorem sc_unspent_frames : FnScope ["m", "row", "frame"] ["m", "row"] (defScope s_unspent_frames) := ⟨rfl, rfl, rfl, by decide +kernel, rfl, by decide +kernel, by decide +kernel⟩
abbrev s_check_left : Stmt := topS 17
theorem sc_check_left : FnScope ["left", "at", "frame"] ["left"] (defScope s_check_left) := ⟨rfl, rfl, rfl, by decide +kernel, rfl, by decide +kernel, by decide +kernel⟩
abbrev s_spell_row : Stmt := topS 18
theorem sc_spell_row : FnScope ["left", "row", "at", "place"] ["left", "row"] (defScope s_spell_row) := ⟨rfl, rfl, rfl, by decide +kernel, rfl, by decide +kernel, by decide +kernel⟩
abbrev s_count_among : Stmt := topS 19
theorem sc_count_among : FnScope ["left", "row", "at", "frame"] ["left", "row"] (defScope s_count_among) := ⟨rfl, rfl, rfl, by decide +kernel, rfl, by decide +kernel, by decide +kernel⟩
abbrev s_first_time_row : Stmt := topS 20
theorem sc_first_time_row : FnScope ["frames", "seen", "frame"] ["frames"] (defScope s_first_time_row) := ⟨rfl, rfl, rfl, by decide +kernel, rfl, by decide +kernel, by decide +kernel⟩
abbrev s_law_mix : Stmt := topS 22
theorem sc_law_mix : FnScope ["_law_number", "_law_turn", "_law_once", "_law_twice"] ["_law_number", "_law_turn"] (defScope s_law_mix) := ⟨rfl, rfl, rfl, by decide +kernel, rfl, by decide +kernel, by decide +kernel⟩
abbrev s_law_draw : Stmt := topS 23
theorem sc_law_draw : FnScope ["_law_hand_here", "_law_many", "_law_cell", "_law_rest"] ["_law_hand_here", "_law_many"] (defScope s_law_draw) := ⟨rfl, rfl, rfl, by decide +kernel, rfl, by decide +kernel, by decide +kernel⟩
abbrev s_law_some_row : Stmt := topS 24
theorem sc_law_some_row : FnScope ["_law_hand_here", "_law_m", "_law_d", "_law_left_here", "_law_row", "_law_step"] ["_law_hand_here", "_law_m", "_law_d"] (defScope s_law_some_row) := ⟨rfl, rfl, rfl, by decide +kernel, rfl, by decide +kernel, by decide +kernel⟩
abbrev s_law_seq : Stmt := topS 25
theorem sc_law_seq : FnScope ["_law_hand_here", "_law_row"] ["_law_hand_here", "_law_row"] (defScope s_law_seq) := ⟨rfl, rfl, rfl, by decide +kernel, rfl, by decide +kernel, by decide +kernel⟩
abbrev s_law_exact : Stmt := topS 26
theorem sc_law_exact : FnScope ["_law_told", "_law_due", "_law_k"] ["_law_told", "_law_due"] (defScope s_law_exact) := ⟨rfl, rfl, rfl, by decide +kernel, rfl, by decide +kernel, by decide +kernel⟩
abbrev s_law_no_count : Stmt := topS 27
theorem sc_law_no_count : FnScope ["_law_hand_here", "_law_most"] ["_law_hand_here", "_law_most"] (defScope s_law_no_count) := ⟨rfl, rfl, rfl, by decide +kernel, rfl, by decide +kernel, by decide +kernel⟩
abbrev s_law_hand : Stmt := topS 28
theorem sc_law_hand : FnScope ["_law_script", "_law_total", "_law_k", "_law_cell"] ["_law_script"] (defScope s_law_hand) := ⟨rfl, rfl, rfl, by decide +kernel, rfl, by decide +kernel, by decide +kernel⟩
abbrev s_law_asked : Stmt := topS 29
theorem sc_law_asked : FnScope ["_law_which", "_law_one", "_law_two", "raised"] ["_law_which", "_law_one", "_law_two"] (defScope s_law_asked) := ⟨rfl, rfl, rfl, by decide +kernel, rfl, by decide +kernel, by decide +kernel⟩
abbrev s_law_some_frames : Stmt := topS 30
theorem sc_law_some_frames : FnScope ["_law_hand_here", "_law_chance", "_law_f"] ["_law_hand_here"] (defScope s_law_some_frames) := ⟨rfl, rfl, rfl, by decide +kernel, rfl, by decide +kernel, by decide +kernel⟩
abbrev s_law_bad_frames : Stmt := topS 31
theorem sc_law_bad_frames : FnScope ["_law_hand_here", "_law_frames", "_law_way", "_law_at"] ["_law_hand_here", "_law_frames"] (defScope s_law_bad_frames) := ⟨rfl, rfl, rfl, by decide +kernel, rfl, by decide +kernel, by decide +kernel⟩
abbrev s_law_bad_row : Stmt := topS 32
theorem sc_law_bad_row : FnScope ["_law_hand_here", "_law_row", "_law_strange", "_law_way", "_law_at"] ["_law_hand_here", "_law_row", "_law_strange"] (defScope s_law_bad_row) := ⟨rfl, rfl, rfl, by decide +kernel, rfl, by decide +kernel, by decide +kernel⟩
abbrev s_law_left : Stmt := topS 33
theorem sc_law_left : FnScope ["_law_hand_here", "_law_frames", "_law_many", "_law_row", "_law_spelt", "_law_handed", "_law_strange", "_law_bad", "_law_at", "_law_odd", "_law_place", "_law_which", "_law_f"] ["_law_hand_here"] (defScope s_law_left) := ⟨rfl, rfl, rfl, by decide +kernel, rfl, by decide +kernel, by decide +kernel⟩
abbrev s_law_unspent : Stmt := topS 34
theorem sc_law_unspent : FnScope ["_law_hand_here", "_law_m", "_law_row", "_law_handed", "_law_due", "_law_bad", "_law_at", "raised", "_law_f"] ["_law_hand_here"] (defScope s_law_unspent) := ⟨rfl, rfl, rfl, by decide +kernel, rfl, by decide +kernel, by decide +kernel⟩
abbrev s_law_begun : Stmt := topS 35
theorem sc_law_begun : FnScope ["_law_one", "_law_other", "_law_at"] ["_law_one", "_law_other"] (defScope s_law_begun) := ⟨rfl, rfl, rfl, by decide +kernel, rfl, by decide +kernel, by decide +kernel⟩
abbrev s_law_beginnings : Stmt := topS 36
theorem sc_law_beginnings : FnScope ["_law_hand_here", "_law_m", "_law_rows", "_law_row", "_law_handed", "_law_met", "_law_i", "_law_j", "_law_firsts", "_law_one", "_law_k", "_law_at"] ["_law_hand_here"] (defScope s_law_beginnings) := ⟨rfl, rfl, rfl, by decide +kernel, rfl, by decide +kernel, by decide +kernel⟩
abbrev s_law_first_times : Stmt := topS 37
theorem sc_law_first_times : FnScope ["_law_hand_here", "_law_many", "_law_frames", "_law_row", "_law_handed", "_law_at", "_law_k"] ["_law_hand_here"] (defScope s_law_first_times) := ⟨rfl, rfl, rfl, by decide +kernel, rfl, by decide +kernel, by decide +kernel⟩
abbrev s_law : Stmt := topS 38
theorem sc_law : FnScope ["_law_script", "_law_hand_here", "_law_turn"] ["_law_script"] (defScope s_law) := ⟨rfl, rfl, rfl, by decide +kernel, rfl, by decide +kernel, by decide +kernel⟩
/-- where the defs and classes stand -/
structure Adr where
  c_FrameError : Addr
  c_BadCount : Addr
  c_BadRow : Addr
  c_BadFrames : Addr
  f_BadCount_init : Addr
  d_BadCount_init : FuncData
  f_BadRow_init : Addr
  d_BadRow_init : FuncData
  f_BadFrames_init : Addr
  d_BadFrames_init : FuncData
  f_is_whole : Addr
  d_is_whole : FuncData
  f_is_sequence : Addr
  d_is_sequence : FuncData
  f_check_count : Addr
  d_check_count : FuncData
  f_row_fault : Addr
  d_row_fault : FuncData
  f_check_row : Addr
  d_check_row : FuncData
  f_begins_row : Addr
  d_begins_row : FuncData
  f_first_meeting : Addr
  d_first_meeting : FuncData
  f_which_begins : Addr
  d_which_begins : FuncData
  f_unspent_frames : Addr
  d_unspent_frames : FuncData
  f_check_left : Addr
  d_check_left : FuncData
  f_spell_row : Addr
  d_spell_row : FuncData
  f_count_among : Addr
  d_count_among : FuncData
  f_first_time_row : Addr
  d_first_time_row : FuncData
  f_law_mix : Addr
  d_law_mix : FuncData
  f_law_draw : Addr
  d_law_draw : FuncData
  f_law_some_row : Addr
  d_law_some_row : FuncData
  f_law_seq : Addr
  d_law_seq : FuncData
  f_law_exact : Addr
  d_law_exact : FuncData
  f_law_no_count : Addr
  d_law_no_count : FuncData
  f_law_hand : Addr
  d_law_hand : FuncData
  f_law_asked : Addr
  d_law_asked : FuncData
  f_law_some_frames : Addr
  d_law_some_frames : FuncData
  f_law_bad_frames : Addr
  d_law_bad_frames : FuncData
  f_law_bad_row : Addr
  d_law_bad_row : FuncData
  f_law_left : Addr
  d_law_left : FuncData
  f_law_unspent : Addr
  d_law_unspent : FuncData
  f_law_begun : Addr
  d_law_begun : FuncData
  f_law_beginnings : Addr
  d_law_beginnings : FuncData
  f_law_first_times : Addr
  d_law_first_times : FuncData
  f_law : Addr
  d_law : FuncData
/-- what the top has written -/
structure Top (K : PySem.W.Frag) (mg : Str → Option Value) (a : Adr) : Prop where
  gc_FrameError : mg "FrameError" = some (.ref a.c_FrameError)
  x_FrameError : OexC K a.c_FrameError
  xf_FrameError : XfC K a.c_FrameError
  xc_FrameError : ExcC K a.c_FrameError
  gc_BadCount : mg "BadCount" = some (.ref a.c_BadCount)
  x_BadCount : OexC K a.c_BadCount
  xf_BadCount : XfC K a.c_BadCount
  xc_BadCount : ExcC K a.c_BadCount
  gc_BadRow : mg "BadRow" = some (.ref a.c_BadRow)
  x_BadRow : OexC K a.c_BadRow
  xf_BadRow : XfC K a.c_BadRow
  xc_BadRow : ExcC K a.c_BadRow
  gc_BadFrames : mg "BadFrames" = some (.ref a.c_BadFrames)
  x_BadFrames : OexC K a.c_BadFrames
  xf_BadFrames : XfC K a.c_BadFrames
  xc_BadFrames : ExcC K a.c_BadFrames
  ex_FrameError_FrameError : PySem.W.exmOne K (.ref a.c_FrameError) (.ref a.c_FrameError) = some true
  ki_FrameError_FrameError : PySem.W.kitOne K (.ref a.c_FrameError) (.ref a.c_FrameError) = some true
  ex_FrameError_BadCount : PySem.W.exmOne K (.ref a.c_FrameError) (.ref a.c_BadCount) = some false
  ki_FrameError_BadCount : PySem.W.kitOne K (.ref a.c_FrameError) (.ref a.c_BadCount) = some false
  ex_FrameError_BadRow : PySem.W.exmOne K (.ref a.c_FrameError) (.ref a.c_BadRow) = some false
  ki_FrameError_BadRow : PySem.W.kitOne K (.ref a.c_FrameError) (.ref a.c_BadRow) = some false
  ex_FrameError_BadFrames : PySem.W.exmOne K (.ref a.c_FrameError) (.ref a.c_BadFrames) = some false
  ki_FrameError_BadFrames : PySem.W.kitOne K (.ref a.c_FrameError) (.ref a.c_BadFrames) = some false
  ex_BadCount_FrameError : PySem.W.exmOne K (.ref a.c_BadCount) (.ref a.c_FrameError) = some true
  ki_BadCount_FrameError : PySem.W.kitOne K (.ref a.c_BadCount) (.ref a.c_FrameError) = some true
  ex_BadCount_BadCount : PySem.W.exmOne K (.ref a.c_BadCount) (.ref a.c_BadCount) = some true
  ki_BadCount_BadCount : PySem.W.kitOne K (.ref a.c_BadCount) (.ref a.c_BadCount) = some true
  ex_BadCount_BadRow : PySem.W.exmOne K (.ref a.c_BadCount) (.ref a.c_BadRow) = some false
  ki_BadCount_BadRow : PySem.W.kitOne K (.ref a.c_BadCount) (.ref a.c_BadRow) = some false
  ex_BadCount_BadFrames : PySem.W.exmOne K (.ref a.c_BadCount) (.ref a.c_BadFrames) = some false
  ki_BadCount_BadFrames : PySem.W.kitOne K (.ref a.c_BadCount) (.ref a.c_BadFrames) = some false
  no_BadCount_most : PySem.W.findIn K (.ref a.c_BadCount) "most" = some none
  in_BadCount : PySem.W.findIn K (.ref a.c_BadCount) "__init__" = some (some (.ref a.f_BadCount_init))
  ti_BadCount : PySem.W.typeIn K (.ref a.f_BadCount_init) = some (.type "function")
  ex_BadRow_FrameError : PySem.W.exmOne K (.ref a.c_BadRow) (.ref a.c_FrameError) = some true
  ki_BadRow_FrameError : PySem.W.kitOne K (.ref a.c_BadRow) (.ref a.c_FrameError) = some true
  ex_BadRow_BadCount : PySem.W.exmOne K (.ref a.c_BadRow) (.ref a.c_BadCount) = some false
  ki_BadRow_BadCount : PySem.W.kitOne K (.ref a.c_BadRow) (.ref a.c_BadCount) = some false
  ex_BadRow_BadRow : PySem.W.exmOne K (.ref a.c_BadRow) (.ref a.c_BadRow) = some true
  ki_BadRow_BadRow : PySem.W.kitOne K (.ref a.c_BadRow) (.ref a.c_BadRow) = some true
  ex_BadRow_BadFrames : PySem.W.exmOne K (.ref a.c_BadRow) (.ref a.c_BadFrames) = some false
  ki_BadRow_BadFrames : PySem.W.kitOne K (.ref a.c_BadRow) (.ref a.c_BadFrames) = some false
  no_BadRow_at : PySem.W.findIn K (.ref a.c_BadRow) "at" = some none
  in_BadRow : PySem.W.findIn K (.ref a.c_BadRow) "__init__" = some (some (.ref a.f_BadRow_init))
  ti_BadRow : PySem.W.typeIn K (.ref a.f_BadRow_init) = some (.type "function")
  ex_BadFrames_FrameError : PySem.W.exmOne K (.ref a.c_BadFrames) (.ref a.c_FrameError) = some true
  ki_BadFrames_FrameError : PySem.W.kitOne K (.ref a.c_BadFrames) (.ref a.c_FrameError) = some true
  ex_BadFrames_BadCount : PySem.W.exmOne K (.ref a.c_BadFrames) (.ref a.c_BadCount) = some false
  ki_BadFrames_BadCount : PySem.W.kitOne K (.ref a.c_BadFrames) (.ref a.c_BadCount) = some false
  ex_BadFrames_BadRow : PySem.W.exmOne K (.ref a.c_BadFrames) (.ref a.c_BadRow) = some false
  ki_BadFrames_BadRow : PySem.W.kitOne K (.ref a.c_BadFrames) (.ref a.c_BadRow) = some false
  ex_BadFrames_BadFrames : PySem.W.exmOne K (.ref a.c_BadFrames) (.ref a.c_BadFrames) = some true
  ki_BadFrames_BadFrames : PySem.W.kitOne K (.ref a.c_BadFrames) (.ref a.c_BadFrames) = some true
  no_BadFrames_at : PySem.W.findIn K (.ref a.c_BadFrames) "at" = some none
  in_BadFrames : PySem.W.findIn K (.ref a.c_BadFrames) "__init__" = some (some (.ref a.f_BadFrames_init))
  ti_BadFrames : PySem.W.typeIn K (.ref a.f_BadFrames_init) = some (.type "function")
  F_BadCount_init : Fun K "__init__" "BadCount.__init__" s_BadCount_init a.f_BadCount_init a.d_BadCount_init
  b_BadCount_init : Binds K a.d_BadCount_init ["self", "most"] []
  F_BadRow_init : Fun K "__init__" "BadRow.__init__" s_BadRow_init a.f_BadRow_init a.d_BadRow_init
  b_BadRow_init : Binds K a.d_BadRow_init ["self", "at"] []
  F_BadFrames_init : Fun K "__init__" "BadFrames.__init__" s_BadFrames_init a.f_BadFrames_init a.d_BadFrames_init
  b_BadFrames_init : Binds K a.d_BadFrames_init ["self", "at"] []
  g_is_whole : mg "is_whole" = some (.ref a.f_is_whole)
  F_is_whole : FunD K "is_whole" "is_whole" (defArgs s_is_whole) (defBody s_is_whole) (defScope s_is_whole) [.non, .non] [] a.f_is_whole a.d_is_whole
  g_is_sequence : mg "is_sequence" = some (.ref a.f_is_sequence)
  F_is_sequence : Fun K "is_sequence" "is_sequence" s_is_sequence a.f_is_sequence a.d_is_sequence
  b_is_sequence : Binds K a.d_is_sequence ["thing"] []
  g_check_count : mg "check_count" = some (.ref a.f_check_count)
  F_check_count : FunD K "check_count" "check_count" (defArgs s_check_count) (defBody s_check_count) (defScope s_check_count) [.int 24] [] a.f_check_count a.d_check_count
  g_row_fault : mg "row_fault" = some (.ref a.f_row_fault)
  F_row_fault : Fun K "row_fault" "row_fault" s_row_fault a.f_row_fault a.d_row_fault
  b_row_fault : Binds K a.d_row_fault ["allowed", "row"] []
  g_check_row : mg "check_row" = some (.ref a.f_check_row)
  F_check_row : Fun K "check_row" "check_row" s_check_row a.f_check_row a.d_check_row
  b_check_row : Binds K a.d_check_row ["m", "row"] []
  g_begins_row : mg "begins_row" = some (.ref a.f_begins_row)
  F_begins_row : Fun K "begins_row" "begins_row" s_begins_row a.f_begins_row a.d_begins_row
  b_begins_row : Binds K a.d_begins_row ["one", "other"] []
  g_first_meeting : mg "first_meeting" = some (.ref a.f_first_meeting)
  F_first_meeting : Fun K "first_meeting" "first_meeting" s_first_meeting a.f_first_meeting a.d_first_meeting
  b_first_meeting : Binds K a.d_first_meeting ["rows"] []
  g_which_begins : mg "which_begins" = some (.ref a.f_which_begins)
  F_which_begins : Fun K "which_begins" "which_begins" s_which_begins a.f_which_begins a.d_which_begins
  b_which_begins : Binds K a.d_which_begins ["rows", "row"] []
  g_unspent_frames : mg "unspent_frames" = some (.ref a.f_unspent_frames)
  F_unspent_frames : Fun K "unspent_frames" "unspent_frames" s_unspent_frames a.f_unspent_frames a.d_unspent_frames
  b_unspent_frames : Binds K a.d_unspent_frames ["m", "row"] []
  g_check_left : mg "check_left" = some (.ref a.f_check_left)
  F_check_left : Fun K "check_left" "check_left" s_check_left a.f_check_left a.d_check_left
  b_check_left : Binds K a.d_check_left ["left"] []
  g_spell_row : mg "spell_row" = some (.ref a.f_spell_row)
  F_spell_row : Fun K "spell_row" "spell_row" s_spell_row a.f_spell_row a.d_spell_row
  b_spell_row : Binds K a.d_spell_row ["left", "row"] []
  g_count_among : mg "count_among" = some (.ref a.f_count_among)
  F_count_among : Fun K "count_among" "count_among" s_count_among a.f_count_among a.d_count_among
  b_count_among : Binds K a.d_count_among ["left", "row"] []
  g_first_time_row : mg "first_time_row" = some (.ref a.f_first_time_row)
  F_first_time_row : Fun K "first_time_row" "first_time_row" s_first_time_row a.f_first_time_row a.d_first_time_row
  b_first_time_row : Binds K a.d_first_time_row ["frames"] []
  g_law_mix : mg "_law_mix" = some (.ref a.f_law_mix)
  F_law_mix : Fun K "_law_mix" "_law_mix" s_law_mix a.f_law_mix a.d_law_mix
  b_law_mix : Binds K a.d_law_mix ["_law_number", "_law_turn"] []
  g_law_draw : mg "_law_draw" = some (.ref a.f_law_draw)
  F_law_draw : Fun K "_law_draw" "_law_draw" s_law_draw a.f_law_draw a.d_law_draw
  b_law_draw : Binds K a.d_law_draw ["_law_hand_here", "_law_many"] []
  g_law_some_row : mg "_law_some_row" = some (.ref a.f_law_some_row)
  F_law_some_row : Fun K "_law_some_row" "_law_some_row" s_law_some_row a.f_law_some_row a.d_law_some_row
  b_law_some_row : Binds K a.d_law_some_row ["_law_hand_here", "_law_m", "_law_d"] []
  g_law_seq : mg "_law_seq" = some (.ref a.f_law_seq)
  F_law_seq : Fun K "_law_seq" "_law_seq" s_law_seq a.f_law_seq a.d_law_seq
  b_law_seq : Binds K a.d_law_seq ["_law_hand_here", "_law_row"] []
  g_law_exact : mg "_law_exact" = some (.ref a.f_law_exact)
  F_law_exact : Fun K "_law_exact" "_law_exact" s_law_exact a.f_law_exact a.d_law_exact
  b_law_exact : Binds K a.d_law_exact ["_law_told", "_law_due"] []
  g_law_no_count : mg "_law_no_count" = some (.ref a.f_law_no_count)
  F_law_no_count : Fun K "_law_no_count" "_law_no_count" s_law_no_count a.f_law_no_count a.d_law_no_count
  b_law_no_count : Binds K a.d_law_no_count ["_law_hand_here", "_law_most"] []
  g_law_hand : mg "_law_hand" = some (.ref a.f_law_hand)
  F_law_hand : Fun K "_law_hand" "_law_hand" s_law_hand a.f_law_hand a.d_law_hand
  b_law_hand : Binds K a.d_law_hand ["_law_script"] []
  g_law_asked : mg "_law_asked" = some (.ref a.f_law_asked)
  F_law_asked : Fun K "_law_asked" "_law_asked" s_law_asked a.f_law_asked a.d_law_asked
  b_law_asked : Binds K a.d_law_asked ["_law_which", "_law_one", "_law_two"] []
  g_law_some_frames : mg "_law_some_frames" = some (.ref a.f_law_some_frames)
  F_law_some_frames : Fun K "_law_some_frames" "_law_some_frames" s_law_some_frames a.f_law_some_frames a.d_law_some_frames
  b_law_some_frames : Binds K a.d_law_some_frames ["_law_hand_here"] []
  g_law_bad_frames : mg "_law_bad_frames" = some (.ref a.f_law_bad_frames)
  F_law_bad_frames : Fun K "_law_bad_frames" "_law_bad_frames" s_law_bad_frames a.f_law_bad_frames a.d_law_bad_frames
  b_law_bad_frames : Binds K a.d_law_bad_frames ["_law_hand_here", "_law_frames"] []
  g_law_bad_row : mg "_law_bad_row" = some (.ref a.f_law_bad_row)
  F_law_bad_row : Fun K "_law_bad_row" "_law_bad_row" s_law_bad_row a.f_law_bad_row a.d_law_bad_row
  b_law_bad_row : Binds K a.d_law_bad_row ["_law_hand_here", "_law_row", "_law_strange"] []
  g_law_left : mg "_law_left" = some (.ref a.f_law_left)
  F_law_left : Fun K "_law_left" "_law_left" s_law_left a.f_law_left a.d_law_left
  b_law_left : Binds K a.d_law_left ["_law_hand_here"] []
  g_law_unspent : mg "_law_unspent" = some (.ref a.f_law_unspent)
  F_law_unspent : Fun K "_law_unspent" "_law_unspent" s_law_unspent a.f_law_unspent a.d_law_unspent
  b_law_unspent : Binds K a.d_law_unspent ["_law_hand_here"] []
  g_law_begun : mg "_law_begun" = some (.ref a.f_law_begun)
  F_law_begun : Fun K "_law_begun" "_law_begun" s_law_begun a.f_law_begun a.d_law_begun
  b_law_begun : Binds K a.d_law_begun ["_law_one", "_law_other"] []
  g_law_beginnings : mg "_law_beginnings" = some (.ref a.f_law_beginnings)
  F_law_beginnings : Fun K "_law_beginnings" "_law_beginnings" s_law_beginnings a.f_law_beginnings a.d_law_beginnings
  b_law_beginnings : Binds K a.d_law_beginnings ["_law_hand_here"] []
  g_law_first_times : mg "_law_first_times" = some (.ref a.f_law_first_times)
  F_law_first_times : Fun K "_law_first_times" "_law_first_times" s_law_first_times a.f_law_first_times a.d_law_first_times
  b_law_first_times : Binds K a.d_law_first_times ["_law_hand_here"] []
  g_law : mg "law" = some (.ref a.f_law)
  F_law : Fun K "law" "law" s_law a.f_law a.d_law
  b_law : Binds K a.d_law ["_law_script"] []
  n_ValueError : mg "ValueError" = none
  n_abs : mg "abs" = none
  n_bool : mg "bool" = none
  n_enumerate : mg "enumerate" = none
  n_int : mg "int" = none
  n_isinstance : mg "isinstance" = none
  n_len : mg "len" = none
  n_list : mg "list" = none
  n_range : mg "range" = none
  n_str : mg "str" = none
  n_tuple : mg "tuple" = none
  m_MOST_FRAMES : ∃ t, mg "MOST_FRAMES" = some (.int 24 t)
theorem bD_is_whole_1 {K : PySem.W.Frag} {mg : Str → Option Value} {a : Adr} (T : Top K mg a) : ∃ ds, Vals [.non, .non] ds ∧ Binds K a.d_is_whole ["thing", "low", "high"] ds :=
  T.F_is_whole.binds1 1 0 (by simp) rfl fun _ _ _ _ _ _ _ us its h1 h2 => match us, its, h1, h2 with | [_], [_, _], _, _ => ⟨_, rfl, rfl⟩
theorem bD_is_whole_2 {K : PySem.W.Frag} {mg : Str → Option Value} {a : Adr} (T : Top K mg a) : ∃ ds, Vals [.non] ds ∧ Binds K a.d_is_whole ["thing", "low", "high"] ds :=
  T.F_is_whole.binds1 2 1 (by simp) rfl fun _ _ _ _ _ _ _ us its h1 h2 => match us, its, h1, h2 with | [_, _], [_, _], _, _ => ⟨_, rfl, rfl⟩
theorem bD_is_whole_3 {K : PySem.W.Frag} {mg : Str → Option Value} {a : Adr} (T : Top K mg a) : ∃ ds, Vals [] ds ∧ Binds K a.d_is_whole ["thing", "low", "high"] ds :=
  T.F_is_whole.binds1 3 2 (by simp) rfl fun _ _ _ _ _ _ _ us its h1 h2 => match us, its, h1, h2 with | [_, _, _], [_, _], _, _ => ⟨_, rfl, rfl⟩
theorem bD_check_count_1 {K : PySem.W.Frag} {mg : Str → Option Value} {a : Adr} (T : Top K mg a) : ∃ ds, Vals [.int 24] ds ∧ Binds K a.d_check_count ["m", "most"] ds :=
  T.F_check_count.binds1 1 0 (by simp) rfl fun _ _ _ _ _ _ _ us its h1 h2 => match us, its, h1, h2 with | [_], [_], _, _ => ⟨_, rfl, rfl⟩
theorem bD_check_count_2 {K : PySem.W.Frag} {mg : Str → Option Value} {a : Adr} (T : Top K mg a) : ∃ ds, Vals [] ds ∧ Binds K a.d_check_count ["m", "most"] ds :=
  T.F_check_count.binds1 2 1 (by simp) rfl fun _ _ _ _ _ _ _ us its h1 h2 => match us, its, h1, h2 with | [_, _], [_], _, _ => ⟨_, rfl, rfl⟩
local macro_rules | `(tactic| walk_at "dp") => `(tactic| first
  | assumption
  | exact .int _
  | exact .non
  | exact .bl _
  | exact .str _
  | exact Dp.up (by assumption) (by assumption))
local macro_rules | `(tactic| walk_at "sq") => `(tactic| first
  | assumption
  | exact ofL (by assumption)
  | exact ofL upd_same
)
local macro_rules | `(tactic| walk_at "st") => `(tactic| simp only [L2.cxOf, L2.start, List.map_cons, List.map_nil, List.length_cons, List.length_nil, Nat.zero_add, Nat.reduceAdd, Nat.reduceSub, List.replicate_succ, List.replicate_zero, List.cons_append, List.nil_append, List.append_nil, List.replicate])
local macro_rules | `(tactic| walk_at "cnd") => `(tactic| first
  | (show (0 : Int) < _; first | decide | omega)
  | (show (0 : Int) < _ ∧ _; constructor <;> first | decide | omega)
  | (show (0 : Int) ≤ _; first | decide | omega)
  | (refine Or.inr ⟨?_, ?_⟩ <;> first | decide | omega)
  | (refine Or.inl ⟨?_, ?_⟩ <;> first | decide | omega)
  | (refine ⟨?_, ?_, ?_⟩ <;> first | decide | omega))
local macro_rules | `(tactic| walk_at "wp1") => `(tactic| first
  | ((with_reducible refine' w_var ?we ?_); (case we => exact rfl))
  | with_reducible refine w_c ?_
  | with_reducible refine w_op ?_
  | with_reducible refine w_cons ?_
  | with_reducible refine w_nil ?_
  | with_reducible refine w_rI0 ?_
  | ((with_reducible refine w_rI ?wc ?_); (case wc => walk_at "cnd"))
  | with_reducible refine w_un ?_
  | with_reducible refine w_rU ?_
  | with_reducible refine w_call ?_
  | with_reducible refine w_callS ?_
  | with_reducible refine w_CB ?_
  | with_reducible refine w_test ?_
  | with_reducible refine w_tB ?_
  | with_reducible refine w_bl ?_
  | with_reducible refine w_eqI ?_
  | with_reducible refine w_neI ?_
  | with_reducible refine w_isN_non ?_
  | with_reducible refine w_ntN_non ?_
  | with_reducible refine w_isN_int ?_
  | with_reducible refine w_ntN_int ?_
  | with_reducible refine w_isN_bl ?_
  | with_reducible refine w_ntN_bl ?_
  | with_reducible refine w_isN_str ?_
  | with_reducible refine w_ntN_str ?_
  | with_reducible refine w_isN_ref ?_
  | with_reducible refine w_ntN_ref ?_
  | with_reducible refine w_isN' ?_
  | with_reducible refine w_notN' ?_
  | with_reducible refine w_int1 ?_
  | with_reducible refine w_abs ?_
  | with_reducible refine w_seq ?_
  | with_reducible refine w_asg ?_
  | ((with_reducible refine w_name ?_); dsimp only [List.set_cons_zero, List.set_cons_succ])
  | with_reducible refine w_ret ?_
  | with_reducible refine w_retN ?_
  | with_reducible refine w_next ?_
  | with_reducible refine w_drop ?_
  | with_reducible refine w_ifS ?_
  | with_reducible refine w_ifE ?_
  | with_reducible refine w_and ?_
  | with_reducible refine w_or ?_
  | with_reducible refine w_not ?_
  | with_reducible refine w_andV ?_
  | with_reducible refine w_orV ?_
  | with_reducible refine w_notV ?_
  | with_reducible refine w_then ?_
  | with_reducible refine w_tup ?_
  | with_reducible refine w_lst ?_
  | with_reducible refine w_BM ?_
  | with_reducible refine w_gsub ?_
  | with_reducible refine w_tSl ?_
  | with_reducible refine w_noPart ?_
  | with_reducible refine w_part ?_
  | with_reducible refine w_ofInt ?_
  | ((with_reducible refine' w_setL ?h1 ?h2 ?_); (case h1 => first | assumption | exact upd_same); (case h2 => exact rfl); simp only [Int.reduceToNat, List.set_cons_zero, List.set_cons_succ]; try rw [upd2])
  | ((with_reducible refine' w_ixL ?h1 ?h2 ?_); (case h1 => walk_at "sq"); (case h2 => exact rfl))
  | ((with_reducible refine' w_lenL ?h1 ?_); (case h1 => walk_at "sq"))
  | with_reducible refine w_isInt_int ?_
  | with_reducible refine w_isInt_bl ?_
  | with_reducible refine w_isInt_str ?_
  | with_reducible refine w_isInt_non ?_
  | with_reducible refine w_isBool_int ?_
  | with_reducible refine w_isBool_bl ?_
  | with_reducible refine w_isBool_str ?_
  | with_reducible refine w_isBool_non ?_
  | with_reducible refine w_isStr_int ?_
  | with_reducible refine w_isStr_bl ?_
  | with_reducible refine w_isStr_str ?_
  | with_reducible refine w_isStr_non ?_
  | with_reducible refine w_isTup_int ?_
  | with_reducible refine w_isTup_bl ?_
  | with_reducible refine w_isTup_str ?_
  | with_reducible refine w_isTup_non ?_
  | ((with_reducible refine' w_isInt ?h1 ?_); (case h1 => walk_at "dp"))
  | ((with_reducible refine' w_isBool ?h1 ?_); (case h1 => walk_at "dp"))
  | ((with_reducible refine' w_isStr ?h1 ?_); (case h1 => walk_at "dp"))
  | ((with_reducible refine' w_isTup ?h1 ?_); (case h1 => walk_at "dp"))
  | with_reducible refine iteT ?_
  | with_reducible refine iteF ?_
  | with_reducible refine w_mkO ?_
  | with_reducible refine w_lstRg ?_
  | with_reducible refine w_tupRg ?_
  | with_reducible refine w_rg1 ?_
  | with_reducible refine w_nf ?_
  | with_reducible refine w_nt ?_)
local macro_rules | `(tactic| walk_at "wp") => `(tactic| repeat walk_at "wp1")
section
variable {P : Program} {w : World} {K : PySem.W.Frag} {mg : Str → Option Value} {base : Heap} {a : Adr}
/-! ### the law's hand -/
def spMix : Sp := fun vs H Q _ => ∃ n t : Int, vs = [.int n, .int t] ∧ ∀ r : Int, 0 ≤ r → Q (.int r) H
theorem ok_law_mix (T : Top K mg a) : FnOk P w K mg base CX0 1 a.f_law_mix a.d_law_mix ["_law_number", "_law_turn"] spMix := by
  refine T.F_law_mix.ok sc_law_mix (fun vs H Q E h => ?_) (fun cdv A outer s H vs Q E hr h => ?_)
  · obtain ⟨n, t, rfl, _⟩ := h
    rfl
  · obtain ⟨n, t, rfl, q⟩ := h
    refine ⟨_, (pss_cons (ps_set (i := 2) sc_law_mix.nd rfl (Or.inl rfl) (pe_op op_mod (pe_callTy call_intI (by rfl) T.n_int (by decide +kernel) (pa_cons (pe_op op_add (pe_op op_add (pe_op op_mul (pv 0) pe_int) (pe_op op_mul (pv 1) pe_int)) pe_int) pa_nil)) pe_int)) (pss_cons (ps_set (i := 3) sc_law_mix.nd rfl (Or.inl rfl) (pe_op op_mod (pe_callTy call_intI (by rfl) T.n_int (by decide +kernel) (pa_cons (pe_op op_add (pe_op op_add (pe_op op_mul (pv 2) (pv 2)) (pe_op op_mul (pv 1) pe_int)) (pe_op op_fdiv (pv 2) pe_int)) pa_nil)) pe_int)) (pss_one (ps_ret (pe_op op_fdiv (pe_op op_mod (pe_callTy call_intI (by rfl) T.n_int (by decide +kernel) (pa_cons (pe_op op_add (pe_op op_mul (pv 3) pe_int) (pv 2)) pa_nil)) pe_int) pe_int))))), ?_⟩
    walk_at "st"
    walk_at "wp"
    refine q _ ?_
    omega
theorem ok_law_draw (T : Top K mg a) : FnOk P w K mg base CX0 2 a.f_law_draw a.d_law_draw ["_law_hand_here", "_law_many"] (spDraw K) := by
  refine T.F_law_draw.ok sc_law_draw (fun vs H Q E h => ?_) (fun cdv A outer s H vs Q E hr h => ?_)
  · obtain ⟨I, hd, m, rfl, _⟩ := h
    rfl
  · obtain ⟨I, hd, m, rfl, hh, m0, m1, q⟩ := h
    obtain ⟨sI, iN, c, cells, p, cur, tot, e, hc, hc0, p0, cur0⟩ := id hh
    have hcH : SqL K H c (cells.map V.int) := sI.seq hc
    have fin : ∀ (p2 cur2 tot2 r : Int), 0 ≤ p2 → 0 ≤ cur2 → 0 ≤ r → r < m → Q (.int r) (upd H hd (.lst [.ref c, .int p2, .int cur2, .int tot2])) :=
      fun p2 cur2 tot2 r b1 b2 b3 b4 => q _ r (Lf.setM sI rfl e iN) ⟨Same.updI sI iN, iN, c, cells, p2, cur2, tot2, upd_same, hc, hc0, b1, b2⟩ b3 b4
    refine ⟨_, (pss_cons (ps_if (PW.pt (pw_and (pt_cmpR op_eq (pe_ix (ix_K (K := K) rfl) (pv 0) pe_int (fun _ _ => rfl)) pe_int (nomark _)) (pw_and1 (pt_cmpR op_lt (pe_ix (ix_K (K := K) rfl) (pv 0) pe_int (fun _ _ => rfl)) (pe_callB (call_lenK (K := K) rfl) (by rfl) T.n_len (by decide +kernel) (pa_cons (pe_ix (ix_K (K := K) rfl) (pv 0) pe_int (fun _ _ => rfl)) pa_nil)) (nomark _))))) (pss_cons (ps_set (i := 2) sc_law_draw.nd rfl (Or.inl rfl) (pe_ix (ix_K (K := K) rfl) (pe_ix (ix_K (K := K) rfl) (pv 0) pe_int (fun _ _ => rfl)) (pe_ix (ix_K (K := K) rfl) (pv 0) pe_int (fun _ _ => rfl)) (fun _ _ => rfl))) (pss_cons (ps_asg (pe_op op_add (pe_ix (ix_K (K := K) rfl) (pv 0) pe_int (fun _ _ => rfl)) pe_int) (pg_sub (pv 0) pe_int set_list)) (pss_cons (ps_if (pt_cmpR op_lt (pv 2) (pe_op op_pow pe_int pe_int) (nomark _)) (pss_one (ps_ret (pe_op op_mod (pe_callTy call_intI (by rfl) T.n_int (by decide +kernel) (pa_cons (pe_call (ok_law_mix T) (hr.mono (by decide)) (by rfl) T.g_law_mix T.F_law_mix.kp T.b_law_mix .nil pass0 (pa_cons (pe_op op_mod (pe_callTy call_intI (by rfl) T.n_int (by decide +kernel) (pa_cons (pv 2) pa_nil)) pe_int) (pa_cons (pe_ix (ix_K (K := K) rfl) (pv 0) pe_int (fun _ _ => rfl)) pa_nil))) pa_nil)) (pv 1)))) pss_nil) (pss_one (ps_asg (pv 2) (pg_sub (pv 0) pe_int set_list)))))) pss_nil) (pss_cons (ps_if (pt_cmpR op_gt (pe_ix (ix_K (K := K) rfl) (pv 0) pe_int (fun _ _ => rfl)) pe_int (nomark _)) (pss_cons (ps_set (i := 3) sc_law_draw.nd rfl (Or.inl rfl) (pe_ix (ix_K (K := K) rfl) (pv 0) pe_int (fun _ _ => rfl))) (pss_cons (ps_asg (pe_op op_fdiv (pv 3) (pv 1)) (pg_sub (pv 0) pe_int set_list)) (pss_one (ps_ret (pe_op op_mod (pe_callTy call_intI (by rfl) T.n_int (by decide +kernel) (pa_cons (pv 3) pa_nil)) (pv 1)))))) pss_nil) (pss_cons (ps_asg (pe_op op_mod (pe_callTy call_intI (by rfl) T.n_int (by decide +kernel) (pa_cons (pe_op op_add (pe_ix (ix_K (K := K) rfl) (pv 0) pe_int (fun _ _ => rfl)) pe_int) pa_nil)) pe_int) (pg_sub (pv 0) pe_int set_list)) (pss_one (ps_ret (pe_op op_mod (pe_callTy call_intI (by rfl) T.n_int (by decide +kernel) (pa_cons (pe_call (ok_law_mix T) (hr.mono (by decide)) (by rfl) T.g_law_mix T.F_law_mix.kp T.b_law_mix .nil pass0 (pa_cons (pe_ix (ix_K (K := K) rfl) (pv 0) pe_int (fun _ _ => rfl)) (pa_cons (pe_ix (ix_K (K := K) rfl) (pv 0) pe_int (fun _ _ => rfl)) pa_nil))) pa_nil)) (pv 1))))))), ?_⟩
    walk_at "st"
    walk_at "wp"
    refine w_if (fun h0 => ?_) (fun h0 => ?_)
    · walk_at "wp"
      refine w_if (fun h1 => ?_) (fun h1 => ?_)
      · walk_at "wp"
        rw [List.length_map] at h1
        refine w_ixInts hcH p0 h1 fun z hz => ?_
        have z0 := hc0 z hz
        walk_at "wp"
        refine w_if (fun h2 => ?_) (fun h2 => ?_)
        · walk_at "wp"
          refine ⟨_, _, rfl, fun r r0 => ?_⟩
          walk_at "wp"
          exact fin _ _ _ _ (by omega) (by omega) (Int.emod_nonneg _ (by omega)) (Int.emod_lt_of_pos _ (by omega))
        · walk_at "wp"
          refine w_if (fun hg => ?_) (fun hg => ?_)
          · walk_at "wp"
            exact fin _ _ _ _ (by omega) (Int.ediv_nonneg (by omega) (by omega)) (Int.emod_nonneg _ (by omega)) (Int.emod_lt_of_pos _ (by omega))
          · walk_at "wp"
            refine ⟨_, _, rfl, fun r r0 => ?_⟩
            walk_at "wp"
            exact fin _ _ _ _ (by omega) (by omega) (Int.emod_nonneg _ (by omega)) (Int.emod_lt_of_pos _ (by omega))
      · walk_at "wp"
        refine w_if (fun hg => ?_) (fun hg => ?_)
        · walk_at "wp"
          exact fin _ _ _ _ (by omega) (Int.ediv_nonneg (by omega) (by omega)) (Int.emod_nonneg _ (by omega)) (Int.emod_lt_of_pos _ (by omega))
        · walk_at "wp"
          refine ⟨_, _, rfl, fun r r0 => ?_⟩
          walk_at "wp"
          exact fin _ _ _ _ (by omega) (by omega) (Int.emod_nonneg _ (by omega)) (Int.emod_lt_of_pos _ (by omega))
    · walk_at "wp"
      refine w_if (fun hg => ?_) (fun hg => ?_)
      · walk_at "wp"
        exact fin _ _ _ _ (by omega) (Int.ediv_nonneg (by omega) (by omega)) (Int.emod_nonneg _ (by omega)) (Int.emod_lt_of_pos _ (by omega))
      · walk_at "wp"
        refine ⟨_, _, rfl, fun r r0 => ?_⟩
        walk_at "wp"
        exact fin _ _ _ _ (by omega) (by omega) (Int.emod_nonneg _ (by omega)) (Int.emod_lt_of_pos _ (by omega))
end
section
variable {P : Program} {w : World} {K : PySem.W.Frag} {mg : Str → Option Value} {base : Heap} {a : Adr}
def oV : Option Int → V
  | none => .non
  | some n => .int n
def geB (n : Int) : Option Int → Bool
  | none => true
  | some l => decide (l ≤ n)
def leB (n : Int) : Option Int → Bool
  | none => true
  | some l => decide (n ≤ l)
def wholeB : PyData → Option Int → Option Int → Bool
  | .int n, lo, hi => geB n lo && leB n hi
  | _, _, _ => false
def spWhole (K : PySem.W.Frag) : Sp := fun vs H Q _ => ∃ (v : V) (d : PyData) (lo hi : Option Int), vs = [v, oV lo, oV hi] ∧ Dp K H v d ∧ ∀ b, b = wholeB d lo hi → Q (.bl b) H
theorem ok_is_whole (T : Top K mg a) : FnOk P w K mg base CX0 1 a.f_is_whole a.d_is_whole ["thing", "low", "high"] (spWhole K) := by
  refine T.F_is_whole.ok sc_is_whole (fun vs H Q E h => ?_) (fun cdv A outer s H vs Q E hr h => ?_)
  · obtain ⟨v, d, lo, hi, rfl, _⟩ := h
    rfl
  · obtain ⟨v, d, lo, hi, rfl, hd, q⟩ := h
    refine ⟨_, (pss_cons (ps_if (PW.pt (pw_or (pt_not (pt_val (pe_callB (call_isiK' (K := K) rfl) (by rfl) T.n_isinstance (by decide +kernel) (pa_cons (pv 0) (pa_cons (pe_bltn (v := .ty "int") (u := .type "int") (by rfl) T.n_int (by decide +kernel) rfl) pa_nil))))) (pw_or1 (pt_val (pe_callB (call_isiK' (K := K) rfl) (by rfl) T.n_isinstance (by decide +kernel) (pa_cons (pv 0) (pa_cons (pe_bltn (v := .ty "bool") (u := .type "bool") (by rfl) T.n_bool (by decide +kernel) rfl) pa_nil))))))) (pss_one (ps_ret pe_bl)) pss_nil) (pss_cons (ps_if (PW.pt (pw_and (pt_cmpR op_notN' (pv 1) pe_non (nomark _)) (pw_and1 (pt_cmpR op_lt (pv 0) (pv 1) (nomark _))))) (pss_one (ps_ret pe_bl)) pss_nil) (pss_one (ps_ret (pe_or (pe_cmpR op_isN' (pv 2) pe_non (nomark _)) (pe_one (pe_cmpR op_le (pv 0) (pv 2) (nomark _)))))))), ?_⟩
    walk_at "st"
    have hd' := hd
    cases hd with
    | int n =>
      cases lo with
      | none =>
        cases hi with
        | none => dsimp only [oV]; walk_at "wp"; exact q _ rfl
        | some h => dsimp only [oV]; walk_at "wp"; exact q _ (by simp [wholeB, geB, leB])
      | some l =>
        cases hi with
        | none =>
          dsimp only [oV]; walk_at "wp"
          refine w_if (fun c => ?_) (fun c => ?_)
          · walk_at "wp"; exact q _ (by simp [wholeB, geB, leB]; omega)
          · walk_at "wp"; exact q _ (by simp [wholeB, geB, leB]; omega)
        | some h =>
          dsimp only [oV]; walk_at "wp"
          refine w_if (fun c => ?_) (fun c => ?_)
          · walk_at "wp"; exact q _ (by simp [wholeB, geB, leB]; omega)
          · walk_at "wp"; exact q _ (by simp [wholeB, geB, leB]; omega)
    | lst h1 h2 => walk_at "wp"; exact q _ rfl
    | tup h1 h2 => walk_at "wp"; exact q _ rfl
    | _ => walk_at "wp"; exact q _ rfl
theorem whole_int {d : PyData} {l h : Int} (e : wholeB d (some l) (some h) = true) : ∃ m, d = .int m ∧ l ≤ m ∧ m ≤ h := by
  cases d with
  | int m =>
    simp [wholeB, geB, leB] at e
    exact ⟨m, rfl, e.1, e.2⟩
  | _ => cases e
/-- 0, 1, .. below m -/
def rgI (m : Int) : List Int := (List.range m.toNat).map fun (i : Nat) => (i : Int)
theorem mem_rgI {m n : Int} : n ∈ rgI m ↔ 0 ≤ n ∧ n < m := by
  unfold rgI
  rw [List.mem_map]
  constructor
  · rintro ⟨i, hi, rfl⟩
    rw [List.mem_range] at hi
    omega
  · rintro ⟨h0, h1⟩
    exact ⟨n.toNat, by rw [List.mem_range]; omega, by omega⟩
theorem rgV_rgI (m : Int) : rgV 0 m = (rgI m).map V.int := by
  unfold rgV rgI
  rw [List.map_map, Int.sub_zero]
  refine List.map_congr_left fun i _ => ?_
  show V.int (0 + (i : Int)) = V.int (i : Int)
  rw [Int.zero_add]
def spIsSeq (K : PySem.W.Frag) : Sp := fun vs H Q _ => ∃ (v : V) (d : PyData), vs = [v] ∧ Dp K H v d ∧ ∀ b H', b = (dLst d || dTup d) → Same H H' → Q (.bl b) H'
theorem ok_is_sequence (T : Top K mg a) : FnOk P w K mg base CX0 1 a.f_is_sequence a.d_is_sequence ["thing"] (spIsSeq K) := by
  refine T.F_is_sequence.ok sc_is_sequence (fun vs H Q E h => ?_) (fun cdv A outer s H vs Q E hr h => ?_)
  · obtain ⟨v, d, rfl, _⟩ := h
    rfl
  · obtain ⟨v, d, rfl, hd, q⟩ := h
    refine ⟨_, (pss_one (ps_ret (pe_callB (call_isiTK (K := K) rfl) (by rfl) T.n_isinstance (by decide +kernel) (pa_cons (pv 0) (pa_cons (pe_tup (pa_cons (pe_bltn (v := .ty "list") (u := .type "list") (by rfl) T.n_list (by decide +kernel) rfl) (pa_cons (pe_bltn (v := .ty "tuple") (u := .type "tuple") (by rfl) T.n_tuple (by decide +kernel) rfl) pa_nil))) pa_nil))))), ?_⟩
    walk_at "st"
    walk_at "wp"
    refine ⟨by show 2 ≤ sizeLine; decide, fun p hp => ?_⟩
    walk_at "wp"
    exact w_isSeq upd_same (Dp.up hd (same_new hp)) (q _ _ rfl (same_new hp))
def rfD (al : List Int) (d : PyData) : V := match seqOf d with
  | none => .int (-1)
  | some ds => match rf al [] ds 0 with
    | none => .non
    | some i => .int (i : Nat)
theorem rfD_none {al : List Int} {d : PyData} (h : rfD al d = .non) : ∃ ns : List Int, (d = .tuple (ns.map .int) ∨ d = .list (ns.map .int)) ∧ ns.Nodup ∧ ∀ n ∈ ns, n ∈ al := by
  have go : ∀ ds : List PyData, (match rf al [] ds 0 with | none => V.non | some i => .int (i : Nat)) = .non → ∃ ns : List Int, ds = ns.map .int ∧ ns.Nodup ∧ ∀ n ∈ ns, n ∈ al := by
    intro ds e
    cases hr : rf al [] ds 0 with
    | some i => rw [hr] at e; cases e
    | none =>
      obtain ⟨ns, e1, e2, e3⟩ := rf_none ds [] 0 hr List.nodup_nil
      exact ⟨ns, e1, by simpa using e2, e3⟩
  cases d with
  | list ds =>
    obtain ⟨ns, e1, e2⟩ := go ds h
    exact ⟨ns, .inr (by rw [e1]), e2⟩
  | tuple ds =>
    obtain ⟨ns, e1, e2⟩ := go ds h
    exact ⟨ns, .inl (by rw [e1]), e2⟩
  | _ => cases h
def spRowFault (K : PySem.W.Frag) : Sp := fun vs H Q _ => ∃ (av : Addr) (v : V) (al : List Int) (d : PyData), vs = [.ref av, v] ∧
  (SqL K H av (al.map V.int) ∨ SqT K H av (al.map V.int)) ∧ Dp K H v d ∧ ∀ H', Same H H' → Q (rfD al d) H'
theorem ok_row_fault (T : Top K mg a) : FnOk P w K mg base CX0 2 a.f_row_fault a.d_row_fault ["allowed", "row"] (spRowFault K) := by
  refine T.F_row_fault.ok sc_row_fault (fun vs H Q E h => ?_) (fun cdv A outer s H vs Q E hr h => ?_)
  · obtain ⟨av, v, al, d, rfl, _⟩ := h
    rfl
  · obtain ⟨av, v, al, d, rfl, hal, hd, q⟩ := h
    refine ⟨_, (pss_cons (ps_if (pt_not (pt_val (pe_call (ok_is_sequence T) (hr.mono (by decide)) (by rfl) T.g_is_sequence T.F_is_sequence.kp T.b_is_sequence .nil pass0 (pa_cons (pv 1) pa_nil)))) (pss_one (ps_ret (pe_un un_neg pe_int))) pss_nil) (pss_cons (ps_for PassesOwn.never rfl (pi_enumK (K := K) rfl (by rfl) T.n_enumerate (pa_cons (pv 1) pa_nil)) (pg_tup rfl (pgs_cons (pg_name (i := 2) sc_row_fault.nd rfl (Or.inl rfl)) (pgs_cons (pg_name (i := 3) sc_row_fault.nd rfl (Or.inl rfl)) pgs_nil))) (pss_one (ps_if (PW.pt (pw_or (pt_not (pt_val (pe_call (ok_is_whole T) (hr.mono (by decide)) (by rfl) T.g_is_whole T.F_is_whole.kp (bD_is_whole_1 T).choose_spec.2 (bD_is_whole_1 T).choose_spec.1 pass0 (pa_cons (pv 3) pa_nil)))) (pw_or (pt_cmpR (op_ninK (K := K) rfl) (pv 3) (pv 0) (by rfl)) (pw_or1 (pt_cmpR (op_inK (K := K) rfl) (pv 3) (pe_slice (slUK (K := K) rfl) (pv 1) po_none (po_some (pv 2))) (by rfl)))))) (pss_one (ps_ret (pv 2))) pss_nil))) (pss_one (ps_ret pe_non)))), ?_⟩
    walk_at "st"
    walk_at "wp"
    refine ⟨v, d, rfl, hd, fun b H1 hb s1 => ?_⟩
    walk_at "wp"
    rcases dp_seq hd with ⟨p, xs, ds, rfl, hx, hds, e1, e2⟩ | ⟨e1, e2⟩
    · obtain rfl := hb.trans e2
      walk_at "wp"
      have q' : ∀ H', Same H H' → Q (match rf al [] ds 0 with | none => .non | some i => .int (i : Nat)) H' := fun H' s => by
        have z := q H' s
        unfold rfD at z
        rw [e1] at z
        exact z
      refine w_forEnum (seq_up hx s1) (fun i σ H' => ∃ (ns : List Int) (y z : Option V), σ = [some (.ref av), some (.ref p), y, z] ∧ Same H1 H' ∧
        xs.take i = ns.map V.int ∧ rf al [] ds 0 = rf al ns (ds.drop i) i) (fun Q q => ⟨_, rfl, q⟩) ⟨[], none, none, rfl, Same.refl _, rfl, rfl⟩
        (fun i σ H' _ h => ?_) (fun i x Tp σ H' hi h hT => ?_) (fun σ H' h => ?_)
      · obtain ⟨_, _, _, _, s2, _⟩ := h
        exact s2
      · obtain ⟨ns, y, z, rfl, s2, ht, hrf⟩ := h
        have s3 : Same H (upd H' Tp (.tup [.int (i : Nat), x])) := (s1.trans s2).trans (same_new hT)
        obtain ⟨dx, ei, hdx⟩ := DpAll.getV hds hi
        rw [drop_at ei] at hrf
        refine w_gpair upd_same ?_
        simp only [List.set_cons_zero, List.set_cons_succ]
        walk_at "wp"
        refine ⟨x, dx, none, none, rfl, Dp.up hdx s3, fun b hb => ?_⟩
        walk_at "wp"
        by_cases hw : ∃ n, dx = .int n
        · obtain ⟨n, rfl⟩ := hw
          obtain rfl := Dp.ofInt hdx
          obtain rfl : b = true := hb
          walk_at "wp"
          refine w_ninI (seq_up hal s3) ?_
          walk_at "wp"
          have hlen : ns.length = i := by
            have e := congrArg List.length ht
            have l := (List.getElem?_eq_some_iff.mp hi).1
            rw [List.length_take, List.length_map, Nat.min_eq_left (by omega)] at e
            exact e.symm
          refine w_ifn (fun c => ?_) (fun c => ?_)
          · walk_at "wp"
            rw [rf_int, if_neg (fun z => c z.1)] at hrf
            have z := q' _ s3
            rw [hrf] at z
            exact z
          · walk_at "wp"
            refine w_slUInts (seq_up hx s3) (by omega) fun H4 r s4 hr4 => ?_
            rw [Int.toNat_natCast, ht] at hr4
            refine w_inI hr4 ?_
            walk_at "wp"
            refine w_if (fun c2 => ?_) (fun c2 => ?_)
            · walk_at "wp"
              rw [rf_int, if_neg (fun z => z.2 c2)] at hrf
              have z := q' _ (s3.trans s4)
              rw [hrf] at z
              exact z
            · walk_at "wp"
              rw [rf_int, if_pos ⟨c, c2⟩] at hrf
              exact ⟨ns ++ [n], _, _, rfl, (s2.trans (same_new hT)).trans s4, by rw [take_at hi, ht, List.map_append]; rfl, hrf⟩
        · have hodd : ∀ n, dx ≠ .int n := fun n e => hw ⟨n, e⟩
          obtain rfl : b = false := hb.trans (by cases dx <;> first | rfl | exact absurd rfl (hodd _))
          walk_at "wp"
          rw [rf_odd hodd] at hrf
          have z := q' _ s3
          rw [hrf] at z
          exact z
      · obtain ⟨ns, y, z, rfl, s2, ht, hrf⟩ := h
        rw [List.drop_of_length_le (by rw [← DpAll.length hds]; omega)] at hrf
        walk_at "wp"
        have z := q' _ (s1.trans s2)
        rw [hrf] at z
        exact z
    · obtain rfl := hb.trans e2
      walk_at "wp"
      have z := q H1 s1
      unfold rfD at z
      rw [e1] at z
      exact z
/-! ### errors -/
def Err1 (C : Addr) (f : Str) (v : V) (H : Hp) (E : XK) : Prop := ∀ H' e, Same H H' → H' e = some (.xd [(f, v)]) → E (.ref C) (some e) H'
theorem ok_BadCount_init (T : Top K mg a) : FnOk P w K mg base CX0 1 a.f_BadCount_init a.d_BadCount_init ["self", "most"] (spIni1 a.c_BadCount "most") := by
  refine T.F_BadCount_init.ok sc_BadCount_init (fun vs H Q E h => ?_) (fun cdv A outer s H vs Q E hr h => ?_)
  · obtain ⟨e, v, rfl, _⟩ := h
    rfl
  · obtain ⟨e, v, rfl, he, q⟩ := h
    refine ⟨_, (pss_one (ps_ost (pv 0) (pv 1))), ?_⟩
    exact ⟨v, rfl, .ref e, rfl, e, a.c_BadCount, rfl, T.x_BadCount, T.no_BadCount_most, .inl ⟨he, fun d hd hda => q d hd hda⟩⟩
theorem ok_BadRow_init (T : Top K mg a) : FnOk P w K mg base CX0 1 a.f_BadRow_init a.d_BadRow_init ["self", "at"] (spIni1 a.c_BadRow "at") := by
  refine T.F_BadRow_init.ok sc_BadRow_init (fun vs H Q E h => ?_) (fun cdv A outer s H vs Q E hr h => ?_)
  · obtain ⟨e, v, rfl, _⟩ := h
    rfl
  · obtain ⟨e, v, rfl, he, q⟩ := h
    refine ⟨_, (pss_one (ps_ost (pv 0) (pv 1))), ?_⟩
    exact ⟨v, rfl, .ref e, rfl, e, a.c_BadRow, rfl, T.x_BadRow, T.no_BadRow_at, .inl ⟨he, fun d hd hda => q d hd hda⟩⟩
theorem ok_BadFrames_init (T : Top K mg a) : FnOk P w K mg base CX0 1 a.f_BadFrames_init a.d_BadFrames_init ["self", "at"] (spIni1 a.c_BadFrames "at") := by
  refine T.F_BadFrames_init.ok sc_BadFrames_init (fun vs H Q E h => ?_) (fun cdv A outer s H vs Q E hr h => ?_)
  · obtain ⟨e, v, rfl, _⟩ := h
    rfl
  · obtain ⟨e, v, rfl, he, q⟩ := h
    refine ⟨_, (pss_one (ps_ost (pv 0) (pv 1))), ?_⟩
    exact ⟨v, rfl, .ref e, rfl, e, a.c_BadFrames, rfl, T.x_BadFrames, T.no_BadFrames_at, .inl ⟨he, fun d hd hda => q d hd hda⟩⟩
def spCheckCount (K : PySem.W.Frag) (a : Adr) : Sp := fun vs H Q E => ∃ (v : V) (d : PyData) (m : Int), vs = [v, .int m] ∧ Dp K H v d ∧
  (wholeB d (some 0) (some m) = true → Q v H) ∧ (wholeB d (some 0) (some m) = false → Err1 a.c_BadCount "most" (.int m) H E)
theorem ok_check_count (T : Top K mg a) : FnOk P w K mg base (L2.CX P w) 3 a.f_check_count a.d_check_count ["m", "most"] (spCheckCount K a) := by
  refine T.F_check_count.ok sc_check_count (fun vs H Q E h => ?_) (fun cdv A outer s H vs Q E hr h => ?_)
  · obtain ⟨v, d, m, rfl, _⟩ := h
    rfl
  · obtain ⟨v, d, m, rfl, hd, q1, q2⟩ := h
    refine ⟨_, (pss_cons (ps_if (pt_not (pt_val (pe_call (ok_is_whole T) (hr.mono (by decide)) (by rfl) T.g_is_whole T.F_is_whole.kp (bD_is_whole_3 T).choose_spec.2 (bD_is_whole_3 T).choose_spec.1 pass0 (pa_cons (pv 0) (pa_cons pe_int (pa_cons (pv 1) pa_nil)))))) (pss_one (ps_raise rfl (takes_of rfl rfl rfl rfl) (pmk_oex T.x_BadCount T.in_BadCount T.ti_BadCount (ok_BadCount_init T) (hr.mono (by decide)) T.b_BadCount_init .nil pass0 (by rfl) T.gc_BadCount (pa_cons (pv 1) pa_nil)))) pss_nil) (pss_one (ps_ret (pv 0)))), ?_⟩
    walk_at "st"
    walk_at "wp"
    refine ⟨v, d, some 0, some m, rfl, hd, fun b hb => ?_⟩
    walk_at "wp"
    cases b with
    | true => walk_at "wp"; exact q1 hb.symm
    | false =>
      walk_at "wp"
      exact w_raise1 fun H' e s x => q2 hb.symm H' e s x
def spCheckRow (K : PySem.W.Frag) (a : Adr) : Sp := fun vs H Q E => ∃ (I : Hp) (v r : V) (d e : PyData), vs = [v, r] ∧ Same I H ∧ Dp K I v d ∧ Dp K I r e ∧
  (wholeB d (some 0) (some 24) = false → Err1 a.c_BadCount "most" (.int 24) H E) ∧
  (∀ m : Int, d = .int m → 0 ≤ m → m ≤ 24 → rfD (rgI m) e ≠ .non → Err1 a.c_BadRow "at" (rfD (rgI m) e) H E) ∧
  (∀ (m : Int) (ns : List Int), d = .int m → 0 ≤ m → m ≤ 24 → (e = .tuple (ns.map .int) ∨ e = .list (ns.map .int)) → ns.Nodup → (∀ n ∈ ns, 0 ≤ n ∧ n < m) →
    ∀ I' H' r', Lf No I H I' H' → Dp K I' r' (.tuple (ns.map .int)) → Q r' H')
theorem ok_check_row (T : Top K mg a) : FnOk P w K mg base (L2.CX P w) 4 a.f_check_row a.d_check_row ["m", "row"] (spCheckRow K a) := by
  refine T.F_check_row.okX sc_check_row (fun vs H Q E h => ?_) (fun cdv A outer s H vs Q E hr h => ?_)
  · obtain ⟨I, v, r, d, e, rfl, _⟩ := h
    rfl
  · obtain ⟨I, v, r, d, e, rfl, sI, hd, he, q1, q2, q3⟩ := h
    refine ⟨_, (pss_cons (ps_expr (pe_call (ok_check_count T) (hr.mono (by decide)) (by rfl) T.g_check_count T.F_check_count.kp (bD_check_count_1 T).choose_spec.2 (bD_check_count_1 T).choose_spec.1 (passes_call (takes_of rfl rfl rfl rfl) (fun _ _ _ _ h => h)) (pa_cons (pv 0) pa_nil))) (pss_cons (ps_set (i := 2) sc_check_row.nd rfl (Or.inl rfl) (pe_call (ok_row_fault T) (hr.mono (by decide)) (by rfl) T.g_row_fault T.F_row_fault.kp T.b_row_fault .nil pass0 (pa_cons (pe_listRg rfl (by rfl) T.n_list (prg_1 (by rfl) T.n_range (pv 0))) (pa_cons (pv 1) pa_nil)))) (pss_cons (ps_if (pt_cmpR op_notN' (pv 2) pe_non (nomark _)) (pss_one (ps_raise rfl (takes_of rfl rfl rfl rfl) (pmk_oex T.x_BadRow T.in_BadRow T.ti_BadRow (ok_BadRow_init T) (hr.mono (by decide)) T.b_BadRow_init .nil pass0 (by rfl) T.gc_BadRow (pa_cons (pv 2) pa_nil)))) pss_nil) (pss_one (ps_ret (pe_tupleK (K := K) rfl (by rfl) T.n_tuple (pv 1))))))), ?_⟩
    walk_at "st"
    walk_at "wp"
    refine ⟨v, d, 24, rfl, Dp.up hd sI, fun hw => ?_, q1⟩
    obtain ⟨m, rfl, m0, m1⟩ := whole_int hw
    obtain rfl := Dp.ofInt hd
    walk_at "wp"
    refine ⟨rgOk0 m0 (by omega), fun p hp => ?_⟩
    have s1 := same_new (o := .lst (rgV 0 m)) hp
    walk_at "wp"
    refine ⟨p, r, rgI m, e, rfl, .inl (ofL (by rw [upd_same, rgV_rgI])), Dp.up he (sI.trans s1), fun H2 s2 => ?_⟩
    walk_at "wp"
    by_cases hn : rfD (rgI m) e = .non
    · rw [show decide (rfD (rgI m) e = .non) = true from decide_eq_true hn]
      walk_at "wp"
      obtain ⟨ns, he2, hnd, hin⟩ := rfD_none hn
      exact w_tupOfD (sI.trans (s1.trans s2)) (he2.elim (fun z => .inl (z ▸ he)) (fun z => .inr (z ▸ he))) (fun I' H' v' f dd => q3 m ns rfl m0 m1 he2 hnd (fun n h => mem_rgI.mp (hin n h)) I' H' v' ((Lf.ofSame sI (s1.trans s2)).trans f) dd)
    · rw [show decide (rfD (rgI m) e = .non) = false from decide_eq_false hn]
      walk_at "wp"
      exact w_raise1 fun H' x s3 hx => q2 m rfl m0 m1 hn H' x ((s1.trans s2).trans s3) hx
end
section
variable {P : Program} {w : World} {K : PySem.W.Frag} {mg : Str → Option Value} {base : Heap} {a : Adr}
/-- the row ns begins the row ms -/
def begs (ns ms : List Int) : Bool := decide (ns = ms.take ns.length)
def tupI (ns : List Int) : PyData := .tuple (ns.map .int)
def spBegins (K : PySem.W.Frag) : Sp := fun vs H Q _ => ∃ (x y : V) (ns ms : List Int), vs = [x, y] ∧ Dp K H x (tupI ns) ∧ Dp K H y (tupI ms) ∧
  ∀ b H', b = begs ns ms → Same H H' → Q (.bl b) H'
theorem ok_begins_row (T : Top K mg a) : FnOk P w K mg base CX0 1 a.f_begins_row a.d_begins_row ["one", "other"] (spBegins K) := by
  refine T.F_begins_row.ok sc_begins_row (fun vs H Q E h => ?_) (fun cdv A outer s H vs Q E hr h => ?_)
  · obtain ⟨x, y, ns, ms, rfl, _⟩ := h
    rfl
  · obtain ⟨x, y, ns, ms, rfl, hx, hy, q⟩ := h
    refine ⟨_, (pss_one (ps_ret (pe_cmpR (op_eqK (K := K) rfl hr.units) (pv 0) (pe_slice (slUK (K := K) rfl) (pv 1) po_none (po_some (pe_callB (call_lenK (K := K) rfl) (by rfl) T.n_len (by decide +kernel) (pa_cons (pv 0) pa_nil)))) (nomark _)))), ?_⟩
    walk_at "st"
    walk_at "wp"
    refine w_lenD (Same.refl H) (.inl hx) ?_
    walk_at "wp"
    refine .inl (w_takeT (Same.refl H) hy (by omega) fun I' H' v f dv => ?_)
    rw [List.length_map, Int.toNat_natCast] at dv
    rw [show (ms.map PyData.int).take ns.length = (ms.take ns.length).map PyData.int from List.map_take.symm] at dv
    refine w_eqD (Dp.up hx f.same) (Dp.up dv f.sub) (shaped_ints _) (shaped_ints _) ?_
    refine q _ _ ?_ f.same
    show PyData.eqvAll _ _ = _
    rw [eqvAll_ints]
    rfl
def rowP (n i : Nat) : List (Nat × Nat) := (List.range (n - (i + 1))).map fun k => (i, i + 1 + k)
def prs (n : Nat) : List (Nat × Nat) := (List.range n).flatMap (rowP n)
def meetsB (rs : List (List Int)) (p : Nat × Nat) : Bool := begs (rs.getD p.1 []) (rs.getD p.2 []) || begs (rs.getD p.2 []) (rs.getD p.1 [])
theorem find_pre {α : Type} {P : α → Bool} {l1 l2 : List α} {x : α} (h1 : l1.find? P = none) (h2 : P x = true) : (l1 ++ x :: l2).find? P = some x := by
  rw [List.find?_append, h1, Option.none_or, List.find?_cons_of_pos h2]
theorem range_split {n i : Nat} (h : i < n) : List.range n = List.range i ++ i :: (List.range (n - (i + 1))).map (fun k => i + 1 + k) := by
  have e : n = i + (1 + (n - (i + 1))) := by omega
  conv => lhs; rw [e, List.range_add]
  rw [show (1 + (n - (i + 1))) = (n - (i + 1)) + 1 by omega, List.range_succ_eq_map, List.map_cons, List.map_map]
  congr 1
  congr 1
  refine List.map_congr_left fun k _ => ?_
  show i + (k + 1) = i + 1 + k
  omega
def optPair : Option (Nat × Nat) → PyData
  | none => .none
  | some p => .tuple [.int (p.1 : Nat), .int (p.2 : Nat)]
def spMeeting (K : PySem.W.Frag) : Sp := fun vs H Q _ => ∃ (I : Hp) (p : Addr) (xs : List V) (rs : List (List Int)), vs = [.ref p] ∧ Same I H ∧ (SqL K I p xs ∨ SqT K I p xs) ∧
  DpAll K I xs (rs.map tupI) ∧ rs.length ≤ 1000 ∧ ∀ I' H' r, Lf No I H I' H' → Dp K I' r (optPair ((prs rs.length).find? (meetsB rs))) → Q r H'
theorem ok_first_meeting (T : Top K mg a) : FnOk P w K mg base CX0 2 a.f_first_meeting a.d_first_meeting ["rows"] (spMeeting K) := by
  refine T.F_first_meeting.ok sc_first_meeting (fun vs H Q E h => ?_) (fun cdv A outer s H vs Q E hr h => ?_)
  · obtain ⟨I, p, xs, rs, rfl, _⟩ := h
    rfl
  · obtain ⟨I, p, xs, rs, rfl, sI, hx, hds, hl, q⟩ := h
    have hxl : xs.length = rs.length := by rw [DpAll.length hds, List.length_map]
    refine ⟨_, (pss_cons (ps_for PassesOwn.never rfl (pi_enumK (K := K) rfl (by rfl) T.n_enumerate (pa_cons (pv 0) pa_nil)) (pg_tup rfl (pgs_cons (pg_name (i := 1) sc_first_meeting.nd rfl (Or.inl rfl)) (pgs_cons (pg_name (i := 2) sc_first_meeting.nd rfl (Or.inl rfl)) pgs_nil))) (pss_one (ps_for PassesOwn.never rfl (pi_range2 (by rfl) T.n_range (pa_cons (pe_op op_add (pv 1) pe_int) (pa_cons (pe_callB (call_lenK (K := K) rfl) (by rfl) T.n_len (by decide +kernel) (pa_cons (pv 0) pa_nil)) pa_nil))) (pg_name (i := 3) sc_first_meeting.nd rfl (Or.inl rfl)) (pss_one (ps_if (PW.pt (pw_or (pt_val (pe_call (ok_begins_row T) (hr.mono (by decide)) (by rfl) T.g_begins_row T.F_begins_row.kp T.b_begins_row .nil pass0 (pa_cons (pv 2) (pa_cons (pe_ix (ix_K (K := K) rfl) (pv 0) (pv 3) (fun _ _ => rfl)) pa_nil)))) (pw_or1 (pt_val (pe_call (ok_begins_row T) (hr.mono (by decide)) (by rfl) T.g_begins_row T.F_begins_row.kp T.b_begins_row .nil pass0 (pa_cons (pe_ix (ix_K (K := K) rfl) (pv 0) (pv 3) (fun _ _ => rfl)) (pa_cons (pv 2) pa_nil))))))) (pss_one (ps_ret (pe_tup (pa_cons (pv 1) (pa_cons (pv 3) pa_nil))))) pss_nil))))) (pss_one (ps_ret pe_non))), ?_⟩
    walk_at "st"
    walk_at "wp"
    refine w_forEnum (seq_up hx sI) (fun i σ H' => ∃ (y1 y2 y3 : Option V), σ = [some (.ref p), y1, y2, y3] ∧ Same H H' ∧
      ((List.range i).flatMap (rowP rs.length)).find? (meetsB rs) = none) (fun Q q => ⟨_, rfl, q⟩) ⟨none, none, none, rfl, Same.refl _, rfl⟩
      (fun i σ H' _ h => ?_) (fun i x Tp σ H' hi h hT => ?_) (fun σ H' h => ?_)
    · obtain ⟨_, _, _, _, s2, _⟩ := h
      exact s2
    · obtain ⟨y1, y2, y3, rfl, s2, hf⟩ := h
      obtain ⟨dx, ei, hdx⟩ := DpAll.getV hds hi
      have li : i < rs.length := by rw [← hxl]; exact (List.getElem?_eq_some_iff.mp hi).1
      rw [List.getElem?_map, List.getElem?_eq_getElem li] at ei
      obtain rfl : tupI rs[i] = dx := Option.some.inj ei
      refine w_gpair upd_same ?_
      simp only [List.set_cons_zero, List.set_cons_succ]
      have s3 := s2.trans (same_new (o := .tup [.int (i : Nat), x]) hT)
      refine w_forR2 (m := (i : Int) + 1) (n := (rs.length : Int)) (by omega) (by omega) (by omega) (by omega) (fun k σ H4 => ∃ (y3 : Option V), σ = [some (.ref p), some (.int (i : Nat)), some x, y3] ∧ Same H H4 ∧
        ((List.range k).map (fun k => (i, i + 1 + k))).find? (meetsB rs) = none) (fun Q q => ?_) ⟨_, rfl, s3, rfl⟩ (fun k σ H4 hk h => ?_) (fun σ H4 h => ?_)
      · walk_at "wp"
        refine w_lenS (seq_up hx (sI.trans s3)) ?_
        rw [hxl]
        walk_at "wp"
        exact q
      · obtain ⟨y3, rfl, s4, hk2⟩ := h
        have hk' : k < rs.length - (i + 1) := by omega
        have lj : i + 1 + k < rs.length := by omega
        obtain ⟨v2, e2, hv2⟩ := DpAll.get hds (get_map (f := tupI) lj)
        have ej : ((i : Int) + 1 + (k : Nat)).toNat = i + 1 + k := by omega
        have yes : begs rs[i] rs[i + 1 + k] = true ∨ begs rs[i + 1 + k] rs[i] = true → (prs rs.length).find? (meetsB rs) = some (i, i + 1 + k) := by
          intro h
          have hm : meetsB rs (i, i + 1 + k) = true := by
            unfold meetsB
            simp only [List.getD_eq_getElem?_getD, List.getElem?_eq_getElem li, List.getElem?_eq_getElem lj, Option.getD_some, Bool.or_eq_true]
            exact h
          unfold prs
          rw [range_split li, List.flatMap_append, List.flatMap_cons]
          have e3 : rowP rs.length i = (List.range k).map (fun k => (i, i + 1 + k)) ++ (i, i + 1 + k) :: ((List.range (rs.length - (i + 1) - (k + 1))).map (fun x => k + 1 + x)).map (fun k => (i, i + 1 + k)) := by
            unfold rowP
            rw [range_split hk', List.map_append, List.map_cons]
          rw [e3, List.append_assoc, List.cons_append, ← List.append_assoc]
          exact find_pre (by rw [List.find?_append, hf, hk2]; rfl) hm
        have fin : ∀ H5, Same H H5 → begs rs[i] rs[i + 1 + k] = true ∨ begs rs[i + 1 + k] rs[i] = true →
            [V.int (i : Nat), V.int ((i : Int) + 1 + (k : Nat))].length ≤ sizeLine ∧ ∀ p', H5 p' = none → Q (.ref p') (upd H5 p' (.tup [V.int (i : Nat), V.int ((i : Int) + 1 + (k : Nat))])) := by
          intro H5 s5 h
          refine w_newT (K := K) (sI.trans s5) (.cons (.int _) (.cons (.int _) .nil)) (by show 2 ≤ sizeLine; decide) fun I' p' f dv => ?_
          refine q I' _ _ ((Lf.ofSame sI s5).trans f) ?_
          rw [yes h]
          show Dp K I' _ (.tuple [.int (i : Nat), .int ((i + 1 + k : Nat) : Int)])
          rw [show ((i + 1 + k : Nat) : Int) = (i : Int) + 1 + (k : Nat) by omega]
          exact dv
        refine w_name ?_
        simp only [List.set_cons_zero, List.set_cons_succ]
        walk_at "wp"
        refine w_ixS (seq_up hx (sI.trans s4)) (by omega) (by rw [ej]; exact e2) ?_
        walk_at "wp"
        refine ⟨x, v2, rs[i], rs[i + 1 + k], rfl, Dp.up hdx (sI.trans s4), Dp.up hv2 (sI.trans s4), fun b H5 hb s5 => ?_⟩
        walk_at "wp"
        cases b with
        | true => walk_at "wp"; exact fin H5 (s4.trans s5) (.inl hb.symm)
        | false =>
          walk_at "wp"
          have s6 := s4.trans s5
          refine w_ixS (seq_up hx (sI.trans s6)) (by omega) (by rw [ej]; exact e2) ?_
          walk_at "wp"
          refine ⟨v2, x, rs[i + 1 + k], rs[i], rfl, Dp.up hv2 (sI.trans s6), Dp.up hdx (sI.trans s6), fun b2 H6 hb2 s7 => ?_⟩
          walk_at "wp"
          cases b2 with
          | true => walk_at "wp"; exact fin H6 (s6.trans s7) (.inr hb2.symm)
          | false =>
            walk_at "wp"
            refine ⟨_, rfl, s6.trans s7, ?_⟩
            rw [List.range_succ, List.map_append, List.find?_append, hk2, Option.none_or]
            refine List.find?_eq_none.mpr fun z hz => ?_
            rw [List.map_singleton, List.mem_singleton] at hz
            subst hz
            unfold meetsB
            simp only [List.getD_eq_getElem?_getD, List.getElem?_eq_getElem li, List.getElem?_eq_getElem lj, Option.getD_some]
            rw [← hb, ← hb2]
            simp
      · obtain ⟨y3, rfl, s4, hk2⟩ := h
        refine ⟨_, _, _, rfl, s4, ?_⟩
        rw [List.range_succ, List.flatMap_append, List.find?_append, hf, Option.none_or, List.flatMap_singleton]
        have e4 : ((rs.length : Int) - ((i : Int) + 1)).toNat = rs.length - (i + 1) := by omega
        rw [e4] at hk2
        exact hk2
    · obtain ⟨y1, y2, y3, rfl, s2, hf⟩ := h
      walk_at "wp"
      rw [hxl] at hf
      exact q I H' _ (Lf.ofSame sI s2) (by rw [show (prs rs.length).find? (meetsB rs) = none from hf]; exact .non)
def optInt : Option Nat → PyData
  | none => .none
  | some i => .int (i : Nat)
def spWhich (K : PySem.W.Frag) : Sp := fun vs H Q _ => ∃ (p : Addr) (y : V) (xs : List V) (rs : List (List Int)) (ms : List Int), vs = [.ref p, y] ∧ (SqL K H p xs ∨ SqT K H p xs) ∧
  DpAll K H xs (rs.map tupI) ∧ Dp K H y (tupI ms) ∧ ∀ H' r, Same H H' → Dp K H' r (optInt ((List.range rs.length).find? fun i => begs (rs.getD i []) ms)) → Q r H'
theorem ok_which_begins (T : Top K mg a) : FnOk P w K mg base CX0 2 a.f_which_begins a.d_which_begins ["rows", "row"] (spWhich K) := by
  refine T.F_which_begins.ok sc_which_begins (fun vs H Q E h => ?_) (fun cdv A outer s H vs Q E hr h => ?_)
  · obtain ⟨p, y, xs, rs, ms, rfl, _⟩ := h
    rfl
  · obtain ⟨p, y, xs, rs, ms, rfl, hx, hds, hy, q⟩ := h
    have hxl : xs.length = rs.length := by rw [DpAll.length hds, List.length_map]
    refine ⟨_, (pss_cons (ps_for PassesOwn.never rfl (pi_enumK (K := K) rfl (by rfl) T.n_enumerate (pa_cons (pv 0) pa_nil)) (pg_tup rfl (pgs_cons (pg_name (i := 2) sc_which_begins.nd rfl (Or.inl rfl)) (pgs_cons (pg_name (i := 3) sc_which_begins.nd rfl (Or.inl rfl)) pgs_nil))) (pss_one (ps_if (pt_val (pe_call (ok_begins_row T) (hr.mono (by decide)) (by rfl) T.g_begins_row T.F_begins_row.kp T.b_begins_row .nil pass0 (pa_cons (pv 3) (pa_cons (pv 1) pa_nil)))) (pss_one (ps_ret (pv 2))) pss_nil))) (pss_one (ps_ret pe_non))), ?_⟩
    walk_at "st"
    walk_at "wp"
    refine w_forEnum hx (fun i σ H' => ∃ (y1 y2 : Option V), σ = [some (.ref p), some y, y1, y2] ∧ Same H H' ∧
      (List.range i).find? (fun i => begs (rs.getD i []) ms) = none) (fun Q q => ⟨_, rfl, q⟩) ⟨none, none, rfl, Same.refl _, rfl⟩
      (fun i σ H' _ h => ?_) (fun i x Tp σ H' hi h hT => ?_) (fun σ H' h => ?_)
    · obtain ⟨_, _, _, s2, _⟩ := h
      exact s2
    · obtain ⟨y1, y2, rfl, s2, hf⟩ := h
      obtain ⟨dx, ei, hdx⟩ := DpAll.getV hds hi
      have li : i < rs.length := by rw [← hxl]; exact (List.getElem?_eq_some_iff.mp hi).1
      rw [get_map li] at ei
      obtain rfl : tupI rs[i] = dx := Option.some.inj ei
      refine w_gpair upd_same ?_
      simp only [List.set_cons_zero, List.set_cons_succ]
      have s3 := s2.trans (same_new (o := .tup [.int (i : Nat), x]) hT)
      walk_at "wp"
      refine ⟨x, y, rs[i], ms, rfl, Dp.up hdx s3, Dp.up hy s3, fun b H5 hb s5 => ?_⟩
      have hgi : begs (rs.getD i []) ms = b := by
        rw [List.getD_eq_getElem?_getD, List.getElem?_eq_getElem li]
        exact hb.symm
      walk_at "wp"
      cases b with
      | true =>
        walk_at "wp"
        refine q H5 _ (s3.trans s5) ?_
        rw [range_split li, find_pre hf hgi]
        exact .int _
      | false =>
        walk_at "wp"
        refine ⟨_, _, rfl, s3.trans s5, ?_⟩
        rw [List.range_succ, List.find?_append, hf, Option.none_or]
        exact List.find?_eq_none.mpr fun z hz => by
          rw [List.mem_singleton] at hz
          subst hz
          rw [hgi]
          simp
    · obtain ⟨y1, y2, rfl, s2, hf⟩ := h
      walk_at "wp"
      rw [hxl] at hf
      exact q H' _ s2 (by rw [hf]; exact .non)
/-! ### the unspent frames -/
def restI (m : Int) (ns : List Int) : List Int := (rgI m).filter fun n => decide (n ∉ ns)
def preN (ns : List Int) (k : Nat) : List Int := ((List.range k).map fun (i : Nat) => (i : Int)).filter fun n => decide (n ∉ ns)
theorem preN_succ (ns : List Int) (k : Nat) : preN ns (k + 1) = preN ns k ++ if (k : Int) ∉ ns then [(k : Int)] else [] := by
  unfold preN
  rw [List.range_succ, List.map_append, List.filter_append]
  congr 1
  by_cases h : (k : Int) ∈ ns <;> simp [h]
def spUnspent (K : PySem.W.Frag) (a : Adr) : Sp := fun vs H Q E => ∃ (I : Hp) (v r : V) (d e : PyData), vs = [v, r] ∧ Same I H ∧ Dp K I v d ∧ Dp K I r e ∧
  (wholeB d (some 0) (some 24) = false → Err1 a.c_BadCount "most" (.int 24) H E) ∧
  (∀ m : Int, d = .int m → 0 ≤ m → m ≤ 24 → rfD (rgI m) e ≠ .non → Err1 a.c_BadRow "at" (rfD (rgI m) e) H E) ∧
  (∀ (m : Int) (ns : List Int), d = .int m → 0 ≤ m → m ≤ 24 → (e = .tuple (ns.map .int) ∨ e = .list (ns.map .int)) → ns.Nodup → (∀ n ∈ ns, 0 ≤ n ∧ n < m) →
    ∀ I' H' r', Lf No I H I' H' → Dp K I' r' (tupI (restI m ns)) → Q r' H')
theorem ok_unspent_frames (T : Top K mg a) : FnOk P w K mg base (L2.CX P w) 5 a.f_unspent_frames a.d_unspent_frames ["m", "row"] (spUnspent K a) := by
  refine T.F_unspent_frames.okX sc_unspent_frames (fun vs H Q E h => ?_) (fun cdv A outer s H vs Q E hr h => ?_)
  · obtain ⟨I, v, r, d, e, rfl, _⟩ := h
    rfl
  · obtain ⟨I, v, r, d, e, rfl, sI, hd, he, q1, q2, q3⟩ := h
    refine ⟨_, (pss_cons (ps_set (i := 1) sc_unspent_frames.nd rfl (Or.inr rfl) (pe_call (ok_check_row T) (hr.mono (by decide)) (by rfl) T.g_check_row T.F_check_row.kp T.b_check_row .nil (passes_call (takes_of rfl rfl rfl rfl) (fun _ _ _ _ h => h)) (pa_cons (pv 0) (pa_cons (pv 1) pa_nil)))) (pss_one (ps_ret (pe_tupleK (K := K) rfl (by rfl) T.n_tuple (pe_lc (own := [("frame", 2)]) (g := gName 2) (by rfl) sc_unspent_frames.nd (pi_range1 (by rfl) T.n_range (pa_cons (pv 0) pa_nil)) (blkOk_by (own := [("frame", 2)]) (N := ["m", "row", "frame"]) (sc := defScope s_unspent_frames) (by decide +kernel)) (fun _ _ _ _ _ => (pg_name (i := 2) sc_unspent_frames.nd rfl (Or.inl rfl))) (fun _ _ _ _ _ => pts_one (pt_cmpR (op_ninK (K := K) rfl) (pv 2) (pv 1) (by rfl))) (fun _ _ _ _ _ => (pv 2))))))), ?_⟩
    walk_at "st"
    walk_at "wp"
    refine ⟨I, v, r, d, e, rfl, sI, hd, he, q1, q2, fun m ns e1 m0 m1 e2 hnd hin I' H' r' f dr => ?_⟩
    subst e1
    obtain rfl := Dp.ofInt hd
    obtain ⟨p, xs, rfl, hp, hxs⟩ := Dp.tupRef dr
    obtain rfl := DpAll.isInts hxs
    have s1 := f.same
    walk_at "wp"
    refine w_compR (K := K) (I := I') (M := No) (Inv := fun k I1 H1 ds => ds = (preN ns k).map .int) (Mid := fun k b I1 H1 ds => b = decide ((k : Int) ∉ ns) ∧ ds = (preN ns k).map .int) m0 (by omega) (fun Q q => ?_) ?_
    · walk_at "wp"
      exact q
    · refine ⟨f.sub, fun b h => h.elim, small1000 (by omega), rfl, fun _ _ _ _ _ _ _ _ h => h, fun k I1 H1 ds R hk f1 hi hR => ?_, fun k I2 H2 ds R hk f1 hm hR => ?_, fun k I2 H2 ds hk hm => ?_, fun I3 H3 E vs ds f3 hE n1 e3 hv hi => ?_⟩
      · simp only [List.set_cons_zero, List.set_cons_succ]
        walk_at "wp"
        refine w_ninI (.inr (Same.seqT (f1.ext.trans f1.sub) hp)) ?_
        walk_at "wp"
        refine hR _ I1 H1 (Lf.refl f1.sub) ⟨?_, hi⟩
        by_cases c : (k : Int) ∈ ns <;> simp [c]
      · simp only [List.set_cons_zero, List.set_cons_succ]
        walk_at "wp"
        refine hR _ (.int (k : Nat)) I2 H2 (Lf.refl f1.sub) (.int _) ?_
        have c := of_decide_eq_true hm.1.symm
        rw [hm.2, preN_succ, if_pos c, List.map_append]
        rfl
      · have c : ¬ (k : Int) ∉ ns := of_decide_eq_false hm.1.symm
        rw [hm.2, preN_succ, if_neg c, List.append_nil]
      · walk_at "wp"
        refine w_tupOfL f3.sub (ofL e3) hv fun I4 H4 q' f4 z dd => ?_
        refine q3 m ns rfl m0 m1 e2 hnd hin I4 H4 _ ((f.trans f3).trans f4) ?_
        rw [hi] at dd
        exact .tup (TupZ.sq z) dd
/-! ### ascending frames -/
/-- the first item that is no frame, or not above the one before -/
def lf : Option Int → List PyData → Nat → Option Nat
  | prev, .int n :: r, i => if 0 ≤ n ∧ n ≤ 23 ∧ (∀ p, prev = some p → p < n) then lf (some n) r (i + 1) else some i
  | _, _ :: _, i => some i
  | _, [], _ => none
theorem lf_int {prev : Option Int} {n : Int} {r : List PyData} {i : Nat} : lf prev (.int n :: r) i = if 0 ≤ n ∧ n ≤ 23 ∧ (∀ p, prev = some p → p < n) then lf (some n) r (i + 1) else some i := rfl
theorem lf_odd {prev : Option Int} {d : PyData} {r : List PyData} {i : Nat} (h : ∀ n, d ≠ .int n) : lf prev (d :: r) i = some i := by
  cases d with
  | int n => exact absurd rfl (h n)
  | _ => rfl
theorem lf_none : ∀ (ds : List PyData) (prev : Option Int) (i : Nat), lf prev ds i = none →
    ∃ ns : List Int, ds = ns.map .int ∧ (∀ n ∈ ns, 0 ≤ n ∧ n ≤ 23 ∧ ∀ p, prev = some p → p < n) ∧ ns.Pairwise (· < ·)
  | [], _, _, _ => ⟨[], rfl, by simp, .nil⟩
  | d :: r, prev, i, h => by
    cases d with
    | int n =>
      rw [lf_int] at h
      by_cases c : 0 ≤ n ∧ n ≤ 23 ∧ (∀ p, prev = some p → p < n)
      · rw [if_pos c] at h
        obtain ⟨ns, e, h1, h2⟩ := lf_none r (some n) (i + 1) h
        refine ⟨n :: ns, by rw [e]; rfl, fun m hm => ?_, List.pairwise_cons.mpr ⟨fun m hm => (h1 m hm).2.2 n rfl, h2⟩⟩
        rcases List.mem_cons.mp hm with rfl | hm
        · exact c
        · have z := h1 m hm
          exact ⟨z.1, z.2.1, fun p hp => Int.lt_trans (c.2.2 p hp) (z.2.2 n rfl)⟩
      · rw [if_neg c] at h; cases h
    | _ => exact absurd h (by simp [lf])
def lfD (d : PyData) : V := match seqOf d with
  | none => .int (-1)
  | some ds => match lf none ds 0 with
    | none => .non
    | some i => .int (i : Nat)
/-- such frames at v: a list, or a tuple without a dict -/
def FrAt (K : PySem.W.Frag) (I : Hp) (v : V) (d : PyData) (ns : List Int) : Prop :=
  (d = tupI ns ∧ ∃ p, v = .ref p ∧ TupZ I p (ns.map V.int)) ∨ (d = .list (ns.map .int) ∧ Dp K I v d)
def spCheckLeft (K : PySem.W.Frag) (a : Adr) : Sp := fun vs H Q E => ∃ (I : Hp) (v : V) (d : PyData), vs = [v] ∧ Same I H ∧ Dp K I v d ∧
  (lfD d ≠ .non → Err1 a.c_BadFrames "at" (lfD d) H E) ∧
  (lfD d = .non → ∀ ns : List Int, ns.Pairwise (· < ·) → (∀ n ∈ ns, 0 ≤ n ∧ n ≤ 23) → (d = tupI ns ∨ d = .list (ns.map .int)) → ∀ H', Same H H' → kTupZ K v H' Q)
theorem ok_check_left (T : Top K mg a) : FnOk P w K mg base (L2.CX P w) 3 a.f_check_left a.d_check_left ["left"] (spCheckLeft K a) := by
  refine T.F_check_left.okX sc_check_left (fun vs H Q E h => ?_) (fun cdv A outer s H vs Q E hr h => ?_)
  · obtain ⟨I, v, d, rfl, _⟩ := h
    rfl
  · obtain ⟨I, v, d, rfl, sI, hd, q1, q2⟩ := h
    refine ⟨_, (pss_cons (ps_if (pt_not (pt_val (pe_call (ok_is_sequence T) (hr.mono (by decide)) (by rfl) T.g_is_sequence T.F_is_sequence.kp T.b_is_sequence .nil pass0 (pa_cons (pv 0) pa_nil)))) (pss_one (ps_raise rfl (takes_of rfl rfl rfl rfl) (pmk_oex T.x_BadFrames T.in_BadFrames T.ti_BadFrames (ok_BadFrames_init T) (hr.mono (by decide)) T.b_BadFrames_init .nil pass0 (by rfl) T.gc_BadFrames (pa_cons (pe_un un_neg pe_int) pa_nil)))) pss_nil) (pss_cons (ps_for PassesOwn.leaving rfl (pi_enumK (K := K) rfl (by rfl) T.n_enumerate (pa_cons (pv 0) pa_nil)) (pg_tup rfl (pgs_cons (pg_name (i := 1) sc_check_left.nd rfl (Or.inl rfl)) (pgs_cons (pg_name (i := 2) sc_check_left.nd rfl (Or.inl rfl)) pgs_nil))) (pss_one (ps_if (PW.pt (pw_or (pt_not (pt_val (pe_call (ok_is_whole T) (hr.mono (by decide)) (by rfl) T.g_is_whole T.F_is_whole.kp (bD_is_whole_3 T).choose_spec.2 (bD_is_whole_3 T).choose_spec.1 pass0 (pa_cons (pv 2) (pa_cons pe_int (pa_cons (pe_op op_sub (pe_glob (v := .int 24) (by rfl) T.m_MOST_FRAMES.choose_spec ⟨_, rfl⟩) pe_int) pa_nil)))))) (pw_or1 (PW.pt (pw_and (pt_cmpR op_gt (pv 1) pe_int (nomark _)) (pw_and1 (pt_cmpR op_le (pv 2) (pe_ix (ix_K (K := K) rfl) (pv 0) (pe_op op_sub (pv 1) pe_int) (fun _ _ => rfl)) (nomark _)))))))) (pss_one (ps_raise rfl (takes_of rfl rfl rfl rfl) (pmk_oex T.x_BadFrames T.in_BadFrames T.ti_BadFrames (ok_BadFrames_init T) (hr.mono (by decide)) T.b_BadFrames_init .nil pass0 (by rfl) T.gc_BadFrames (pa_cons (pv 1) pa_nil)))) pss_nil))) (pss_one (ps_ret (pe_tupleK (K := K) rfl (by rfl) T.n_tuple (pv 0)))))), ?_⟩
    walk_at "st"
    walk_at "wp"
    refine ⟨v, d, rfl, Dp.up hd sI, fun b H1 hb s1 => ?_⟩
    walk_at "wp"
    rcases dp_seq hd with ⟨p, xs, ds, rfl, hx, hds, e1, e2⟩ | ⟨e1, e2⟩
    · obtain rfl := hb.trans e2
      walk_at "wp"
      have elf : lfD d = match lf none ds 0 with | none => .non | some i => .int (i : Nat) := by
        unfold lfD
        rw [e1]
      refine w_forEnum (seq_up hx (sI.trans s1)) (fun i σ H' => ∃ (y z : Option V) (prev : Option Int), σ = [some (.ref p), y, z] ∧ Same H1 H' ∧
        lf none ds 0 = lf prev (ds.drop i) i ∧ (match prev with | none => i = 0 | some m => 0 < i ∧ xs[i - 1]? = some (.int m))) (fun Q q => ⟨_, rfl, q⟩) ⟨none, none, none, rfl, Same.refl _, rfl, rfl⟩
        (fun i σ H' _ h => ?_) (fun i x Tp σ H' hi h hT => ?_) (fun σ H' h => ?_)
      · obtain ⟨_, _, _, _, s2, _⟩ := h
        exact s2
      · obtain ⟨y, z, prev, rfl, s2, hlf, hp⟩ := h
        have s3 : Same H (upd H' Tp (.tup [.int (i : Nat), x])) := (s1.trans s2).trans (same_new hT)
        obtain ⟨dx, ei, hdx⟩ := DpAll.getV hds hi
        rw [drop_at ei] at hlf
        refine w_gpair upd_same ?_
        simp only [List.set_cons_zero, List.set_cons_succ]
        have bad : lf none ds 0 = some i → ∀ H5, Same H H5 → Err1 a.c_BadFrames "at" (.int (i : Nat)) H5 E := by
          intro e H5 s5 H' x s6 hx
          rw [e] at elf
          have z := q1 (by rw [elf]; intro z; cases z)
          rw [elf] at z
          exact z H' x (s5.trans s6) hx
        walk_at "wp"
        refine ⟨x, dx, some 0, some 23, rfl, Dp.up hdx (sI.trans s3), fun b hb => ?_⟩
        walk_at "wp"
        cases b with
        | false =>
          walk_at "wp"
          refine w_raise1 (bad ?_ _ s3)
          rw [hlf]
          cases dx with
          | int n =>
            rw [lf_int, if_neg]
            intro c
            have : wholeB (.int n) (some 0) (some 23) = true := by simp [wholeB, geB, leB]; omega
            rw [← hb] at this
            cases this
          | _ => rfl
        | true =>
          obtain ⟨n, rfl, n0, n1⟩ := whole_int hb.symm
          obtain rfl := Dp.ofInt hdx
          walk_at "wp"
          have cont : ∀ H5, Same H H5 → Same H1 H5 → (∀ p, prev = some p → p < n) → ∃ (y z : Option V) (prev' : Option Int), [some (V.ref p), some (V.int (i : Nat)), some (V.int n)] = [some (.ref p), y, z] ∧ Same H1 H5 ∧
              lf none ds 0 = lf prev' (ds.drop (i + 1)) (i + 1) ∧ (match prev' with | none => i + 1 = 0 | some m => 0 < i + 1 ∧ xs[i + 1 - 1]? = some (.int m)) := by
            intro H5 _ s5 hp'
            refine ⟨_, _, some n, rfl, s5, ?_, by omega, hi⟩
            rw [hlf, lf_int, if_pos ⟨n0, n1, hp'⟩]
          have s4 := s2.trans (same_new (o := .tup [.int (i : Nat), .int n]) hT)
          cases prev with
          | none =>
            obtain rfl : i = 0 := hp
            rw [show decide ((0 : Int) < ((0 : Nat) : Int)) = false from rfl]
            walk_at "wp"
            exact cont _ s3 s4 (fun p h => by cases h)
          | some m =>
            rw [show decide ((0 : Int) < (i : Int)) = true from decide_eq_true (by have := hp.1; omega)]
            walk_at "wp"
            refine w_ixS (seq_up hx (sI.trans s3)) (by have := hp.1; omega) (by rw [show ((i : Int) - 1).toNat = i - 1 by omega]; exact hp.2) ?_
            walk_at "wp"
            refine w_if (fun c => ?_) (fun c => ?_)
            · walk_at "wp"
              refine w_raise1 (bad ?_ _ s3)
              rw [hlf, lf_int, if_neg]
              intro z
              have := z.2.2 m rfl
              omega
            · walk_at "wp"
              exact cont _ s3 s4 (fun p h => by cases h; omega)
      · obtain ⟨y, z, prev, rfl, s2, hlf, hp⟩ := h
        rw [List.drop_of_length_le (by rw [← DpAll.length hds]; omega)] at hlf
        have hlf' : lf none ds 0 = none := hlf
        rw [hlf'] at elf
        obtain ⟨ns, rfl, hns, hpw⟩ := lf_none _ _ _ hlf'
        obtain rfl := DpAll.isInts hds
        walk_at "wp"
        have hd2 : d = tupI ns ∨ d = .list (ns.map .int) := by
          cases d with
          | list es => exact .inr (congrArg PyData.list (Option.some.inj e1))
          | tuple es => exact .inl (congrArg PyData.tuple (Option.some.inj e1))
          | _ => cases e1
        exact q2 elf ns hpw (fun n h => ⟨(hns n h).1, (hns n h).2.1⟩) hd2 _ (s1.trans s2)
    · obtain rfl := hb.trans e2
      walk_at "wp"
      have elf : lfD d = .int (-1) := by
        unfold lfD
        rw [e1]
      have z := q1 (by rw [elf]; intro z; cases z)
      rw [elf] at z
      exact w_raise1 fun H' x s2 hx => z H' x (s1.trans s2) hx

end
section
variable {P : Program} {w : World} {K : PySem.W.Frag} {mg : Str → Option Value} {base : Heap} {a : Adr}
def spellI (ns ks : List Int) : List Int := ks.map fun k => ns.getD k.toNat 0
def SeqD (d : PyData) (ns : List Int) : Prop := d = tupI ns ∨ d = .list (ns.map .int)
theorem SeqD.dp {I : Hp} {v : V} {d : PyData} {ns : List Int} (h : SeqD d ns) (hd : Dp K I v d) : Dp K I v (.tuple (ns.map .int)) ∨ Dp K I v (.list (ns.map .int)) := by
  rcases h with rfl | rfl
  · exact .inl hd
  · exact .inr hd
theorem dpSeq {I : Hp} {v : V} {ns : List Int} (h : Dp K I v (.tuple (ns.map .int)) ∨ Dp K I v (.list (ns.map .int))) : ∃ p, v = .ref p ∧ (SqL K I p (ns.map V.int) ∨ SqT K I p (ns.map V.int)) := by
  rcases h with h | h
  · obtain ⟨p, xs, rfl, hp, hx⟩ := Dp.tupRef h
    obtain rfl := DpAll.isInts hx
    exact ⟨p, rfl, .inr hp⟩
  · obtain ⟨p, xs, rfl, hp, hx⟩ := Dp.lstRef h
    obtain rfl := DpAll.isInts hx
    exact ⟨p, rfl, .inl hp⟩
def spSpell (K : PySem.W.Frag) (a : Adr) : Sp := fun vs H Q E => ∃ (I : Hp) (v r : V) (d e : PyData), vs = [v, r] ∧ Same I H ∧ Dp K I v d ∧ Dp K I r e ∧
  (lfD d ≠ .non → Err1 a.c_BadFrames "at" (lfD d) H E) ∧
  (∀ ns : List Int, lfD d = .non → SeqD d ns → ns.length ≤ 24 → rfD (rgI ns.length) e ≠ .non → Err1 a.c_BadRow "at" (rfD (rgI ns.length) e) H E) ∧
  (∀ ns ks : List Int, lfD d = .non → SeqD d ns → ns.length ≤ 24 → SeqD e ks → ks.Nodup → (∀ k ∈ ks, 0 ≤ k ∧ k < ns.length) →
    ∀ I' H' r', Lf No I H I' H' → Dp K I' r' (tupI (spellI ns ks)) → Q r' H')
theorem nodup_len {ns : List Int} (h : ns.Nodup) (hin : ∀ n ∈ ns, 0 ≤ n ∧ n < (m : Int)) : ns.length ≤ m.toNat := by
  have h1 : (ns.map Int.toNat).Nodup := by
    rw [List.Nodup, List.pairwise_map]
    refine List.Pairwise.imp_of_mem ?_ h
    intro x y hx hy hne
    have := hin x hx
    have := hin y hy
    omega
  have h2 := h1.length_le_of_subset (l₂ := List.range m.toNat) (fun x hx => by
    obtain ⟨n, hn, rfl⟩ := List.mem_map.mp hx
    have := hin n hn
    rw [List.mem_range]
    omega)
  simpa using h2
theorem asc_nodup {ns : List Int} (h : ns.Pairwise (· < ·)) : ns.Nodup := h.imp fun h e => by omega
theorem ok_spell_row (T : Top K mg a) : FnOk P w K mg base (L2.CX P w) 4 a.f_spell_row a.d_spell_row ["left", "row"] (spSpell K a) := by
  refine T.F_spell_row.okX sc_spell_row (fun vs H Q E h => ?_) (fun cdv A outer s H vs Q E hr h => ?_)
  · obtain ⟨I, v, r, d, e, rfl, _⟩ := h
    rfl
  · obtain ⟨I, v, r, d, e, rfl, sI, hd, he, q1, q2, q3⟩ := h
    refine ⟨_, (pss_cons (ps_set (i := 0) sc_spell_row.nd rfl (Or.inr rfl) (pe_call (ok_check_left T) (hr.mono (by decide)) (by rfl) T.g_check_left T.F_check_left.kp T.b_check_left .nil (passes_call (takes_of rfl rfl rfl rfl) (fun _ _ _ _ h => h)) (pa_cons (pv 0) pa_nil))) (pss_cons (ps_set (i := 2) sc_spell_row.nd rfl (Or.inl rfl) (pe_call (ok_row_fault T) (hr.mono (by decide)) (by rfl) T.g_row_fault T.F_row_fault.kp T.b_row_fault .nil pass0 (pa_cons (pe_listRg rfl (by rfl) T.n_list (prg_1 (by rfl) T.n_range (pe_callB (call_lenK (K := K) rfl) (by rfl) T.n_len (by decide +kernel) (pa_cons (pv 0) pa_nil)))) (pa_cons (pv 1) pa_nil)))) (pss_cons (ps_if (pt_cmpR op_notN' (pv 2) pe_non (nomark _)) (pss_one (ps_raise rfl (takes_of rfl rfl rfl rfl) (pmk_oex T.x_BadRow T.in_BadRow T.ti_BadRow (ok_BadRow_init T) (hr.mono (by decide)) T.b_BadRow_init .nil pass0 (by rfl) T.gc_BadRow (pa_cons (pv 2) pa_nil)))) pss_nil) (pss_one (ps_ret (pe_tupleK (K := K) rfl (by rfl) T.n_tuple (pe_lc (own := [("place", 3)]) (g := gName 3) (by rfl) sc_spell_row.nd (pi_seqK (K := K) rfl (pv 1)) (blkOk_by (own := [("place", 3)]) (N := ["left", "row", "at", "place"]) (sc := defScope s_spell_row) (by decide +kernel)) (fun _ _ _ _ _ => (pg_name (i := 3) sc_spell_row.nd rfl (Or.inl rfl))) (fun _ _ _ _ _ => pts_nil) (fun _ _ _ _ _ => (pe_ix (ix_K (K := K) rfl) (pv 0) (pv 3) (fun _ _ => rfl)))))))))), ?_⟩
    walk_at "st"
    walk_at "wp"
    refine ⟨I, v, d, rfl, sI, hd, q1, fun h0 ns hpw hin hdn H1 s1 => ?_⟩
    have hnd := asc_nodup hpw
    have hl : ns.length ≤ 24 := nodup_len (m := 24) hnd fun n h => ⟨(hin n h).1, by have := (hin n h).2; omega⟩
    refine w_tupOfD (sI.trans s1) (SeqD.dp hdn hd) fun I2 H2 v2 f2 d2 => ?_
    have f2' := (Lf.ofSame (M := No) sI s1).trans f2
    walk_at "wp"
    refine w_lenD f2.sub (.inl d2) ?_
    rw [List.length_map]
    walk_at "wp"
    refine ⟨rgOk0 (by omega) (by omega), fun p hp => ?_⟩
    have s3 := f2'.same.trans (same_new (o := .lst (rgV 0 ns.length)) hp)
    walk_at "wp"
    refine ⟨p, r, rgI ns.length, e, rfl, .inl (ofL (by rw [upd_same, rgV_rgI])), Dp.up he (sI.trans s3), fun H4 s4 => ?_⟩
    have s4' := s3.trans s4
    walk_at "wp"
    by_cases hn : rfD (rgI ns.length) e = .non
    · rw [show decide (rfD (rgI ns.length) e = .non) = true from decide_eq_true hn]
      walk_at "wp"
      obtain ⟨ks, hek, hkd, hkin⟩ := rfD_none hn
      have hkin' := fun k hk => mem_rgI.mp (hkin k hk)
      obtain ⟨pr, rfl, hpr⟩ := dpSeq (SeqD.dp hek he)
      have f4 : Lf No I H I2 H4 := f2'.trans (Lf.ofSame f2.sub ((same_new hp).trans s4))
      obtain ⟨pl, xs2, rfl, hpl, hx2⟩ := Dp.tupRef d2
      obtain rfl := DpAll.isInts hx2
      have lk := nodup_len hkd hkin'
      refine w_compS (K := K) (I := I2) (M := No) (seq_up hpr f4.ext) (fun Q q => ?_) (fun h => h) (CompOk.pure (fun k => .int (ns.getD (ks.getD k 0).toNat 0)) f4.sub (fun b h => h.elim) (by rw [List.length_map]; exact small1000 (by omega)) (fun k I5 H5 R hk f5 hR => ?_) (fun I5 H5 E vs f5 e1 e2 e3 hv => ?_))
      · walk_at "wp"
        exact q
      · rw [List.length_map] at hk
        have hg : (ks.map V.int).getD k .non = .int ks[k] := by simp [hk]
        rw [hg]
        simp only [List.set_cons_zero, List.set_cons_succ]
        walk_at "wp"
        have hb := hkin' ks[k] (List.getElem_mem hk)
        have hb2 : ks[k].toNat < ns.length := by omega
        refine w_ixS (.inr (Same.seqT (f5.ext.trans f5.sub) hpl)) hb.1 (get_map hb2) ?_
        refine hR _ I5 H5 (Lf.refl f5.sub) ?_
        simp only [List.getD_eq_getElem?_getD, List.getElem?_eq_getElem hk, List.getElem?_eq_getElem hb2, Option.getD_some]
        exact .int _
      · walk_at "wp"
        refine w_tupOfL f5.sub (ofL e3) hv fun I6 H6 q' f6 z dd => ?_
        refine q3 ns ks h0 hdn hl hek hkd hkin' I6 H6 _ ((f4.trans f5).trans f6) (.tup (TupZ.sq z) ?_)
        rw [List.length_map, map_range_get (fun z => PyData.int (ns.getD z.toNat 0)) ks (fun k => ks.getD k 0) (fun k h => by simp [h])] at dd
        rw [spellI, List.map_map]
        exact dd
    · rw [show decide (rfD (rgI ns.length) e = .non) = false from decide_eq_false hn]
      walk_at "wp"
      exact w_raise1 fun H' x s5 hx => q2 ns h0 hdn hl hn H' x (s4'.trans s5) hx
/-- where n stands first -/
def posI : List Int → Int → Nat
  | [], _ => 0
  | m :: r, n => if m = n then 0 else posI r n + 1
theorem posI_get : ∀ {ns : List Int} {n : Int}, n ∈ ns → ns[posI ns n]? = some n ∧ ∀ m, m < posI ns n → ns[m]? ≠ some n
  | m :: r, n, h => by
    unfold posI
    by_cases e : m = n
    · rw [if_pos e]
      exact ⟨by rw [e]; rfl, fun k hk => absurd hk (by omega)⟩
    · rw [if_neg e]
      have h' : n ∈ r := by
        rcases List.mem_cons.mp h with z | z
        · exact absurd z.symm e
        · exact z
      have ih := posI_get h'
      refine ⟨by simpa using ih.1, fun k hk => ?_⟩
      cases k with
      | zero => simpa using e
      | succ k => simpa using ih.2 k (by omega)
theorem posI_nodup : ∀ {ns : List Int} {i : Nat} (h : ns.Nodup) (hi : i < ns.length), posI ns ns[i] = i
  | m :: r, 0, _, _ => by simp [posI]
  | m :: r, i + 1, h, hi => by
    have hi' : i < r.length := by simpa using hi
    have hn : m ≠ r[i] := by
      rw [List.nodup_cons] at h
      intro e
      exact h.1 (e ▸ List.getElem_mem hi')
    show posI (m :: r) r[i] = i + 1
    unfold posI
    rw [if_neg hn, posI_nodup (List.nodup_cons.mp h).2 hi']
def countI (ns ks : List Int) : List Int := ks.map fun k => ((posI ns k : Nat) : Int)
def spCountAmong (K : PySem.W.Frag) (a : Adr) : Sp := fun vs H Q E => ∃ (I : Hp) (v r : V) (d e : PyData), vs = [v, r] ∧ Same I H ∧ Dp K I v d ∧ Dp K I r e ∧
  (lfD d ≠ .non → Err1 a.c_BadFrames "at" (lfD d) H E) ∧
  (lfD d = .non → ∀ ns, SeqD d ns → FrAt K I v d ns) ∧
  (∀ ns : List Int, lfD d = .non → SeqD d ns → rfD ns e ≠ .non → Err1 a.c_BadRow "at" (rfD ns e) H E) ∧
  (∀ ns ks : List Int, lfD d = .non → SeqD d ns → SeqD e ks → ks.Nodup → (∀ k ∈ ks, k ∈ ns) →
    ∀ I' H' r', Lf No I H I' H' → Dp K I' r' (tupI (countI ns ks)) → Q r' H')
theorem ok_count_among (T : Top K mg a) : FnOk P w K mg base (L2.CX P w) 4 a.f_count_among a.d_count_among ["left", "row"] (spCountAmong K a) := by
  refine T.F_count_among.okX sc_count_among (fun vs H Q E h => ?_) (fun cdv A outer s H vs Q E hr h => ?_)
  · obtain ⟨I, v, r, d, e, rfl, _⟩ := h
    rfl
  · obtain ⟨I, v, r, d, e, rfl, sI, hd, he, q1, qz, q2, q3⟩ := h
    refine ⟨_, (pss_cons (ps_set (i := 0) sc_count_among.nd rfl (Or.inr rfl) (pe_call (ok_check_left T) (hr.mono (by decide)) (by rfl) T.g_check_left T.F_check_left.kp T.b_check_left .nil (passes_call (takes_of rfl rfl rfl rfl) (fun _ _ _ _ h => h)) (pa_cons (pv 0) pa_nil))) (pss_cons (ps_set (i := 2) sc_count_among.nd rfl (Or.inl rfl) (pe_call (ok_row_fault T) (hr.mono (by decide)) (by rfl) T.g_row_fault T.F_row_fault.kp T.b_row_fault .nil pass0 (pa_cons (pv 0) (pa_cons (pv 1) pa_nil)))) (pss_cons (ps_if (pt_cmpR op_notN' (pv 2) pe_non (nomark _)) (pss_one (ps_raise rfl (takes_of rfl rfl rfl rfl) (pmk_oex T.x_BadRow T.in_BadRow T.ti_BadRow (ok_BadRow_init T) (hr.mono (by decide)) T.b_BadRow_init .nil pass0 (by rfl) T.gc_BadRow (pa_cons (pv 2) pa_nil)))) pss_nil) (pss_one (ps_ret (pe_tupleK (K := K) rfl (by rfl) T.n_tuple (pe_lc (own := [("frame", 3)]) (g := gName 3) (by rfl) sc_count_among.nd (pi_seqK (K := K) rfl (pv 1)) (blkOk_by (own := [("frame", 3)]) (N := ["left", "row", "at", "frame"]) (sc := defScope s_count_among) (by decide +kernel)) (fun _ _ _ _ _ => (pg_name (i := 3) sc_count_among.nd rfl (Or.inl rfl))) (fun _ _ _ _ _ => pts_nil) (fun _ _ _ _ _ => (pe_bmZ PySem.F.slot_tuple_index PySem.F.type_tuple_index (mt_indexTK (K := K) rfl) (pv 0) (pa_cons (pv 3) pa_nil)))))))))), ?_⟩
    walk_at "st"
    walk_at "wp"
    refine ⟨I, v, d, rfl, sI, hd, q1, fun h0 ns hpw hin hdn H1 s1 => ?_⟩
    have hnd := asc_nodup hpw
    have hl : ns.length ≤ 24 := nodup_len (m := 24) hnd fun n h => ⟨(hin n h).1, by have := (hin n h).2; omega⟩
    have go : ∀ (R : VK), (∀ I2 H2 p, Lf No I H1 I2 H2 → TupZ I2 p (ns.map V.int) → R (.ref p) H2) → kTupZ K v H1 R := by
      intro R hR
      rcases qz h0 ns hdn with ⟨_, p, rfl, z⟩ | ⟨rfl, hd'⟩
      · exact .inr ⟨p, _, rfl, TupZ.sq (TupZ.up z (sI.trans s1)), hR I H1 p (Lf.refl (sI.trans s1)) z⟩
      · obtain ⟨p, xs, rfl, hp, hx⟩ := Dp.lstRef hd'
        obtain rfl := DpAll.isInts hx
        exact w_tupOfL (sI.trans s1) ((sI.trans s1).seq hp) hx fun I' H' q' f z _ => hR I' H' q' f z
    refine go _ fun I2 H2 pl f2 z2 => ?_
    have f2' := (Lf.ofSame (M := No) sI s1).trans f2
    walk_at "wp"
    refine ⟨pl, r, ns, e, rfl, .inr (TupZ.sq (TupZ.up z2 f2.sub)), Dp.up he (sI.trans f2'.same), fun H4 s4 => ?_⟩
    have s4' := f2'.same.trans s4
    walk_at "wp"
    by_cases hn : rfD ns e = .non
    · rw [show decide (rfD ns e = .non) = true from decide_eq_true hn]
      walk_at "wp"
      obtain ⟨ks, hek, hkd, hkin⟩ := rfD_none hn
      obtain ⟨pr, rfl, hpr⟩ := dpSeq (SeqD.dp hek he)
      have f4 : Lf No I H I2 H4 := f2'.trans (Lf.ofSame f2.sub s4)
      have lk := nodup_len (m := 24) hkd (fun k h => ⟨(hin k (hkin k h)).1, by have := (hin k (hkin k h)).2; omega⟩)
      refine w_compS (K := K) (I := I2) (M := No) (seq_up hpr f4.ext) (fun Q q => ?_) (fun h => h) (CompOk.pure (fun k => .int ((posI ns (ks.getD k 0) : Nat) : Int)) f4.sub (fun b h => h.elim) (by rw [List.length_map]; exact small1000 (by omega)) (fun k I5 H5 R hk f5 hR => ?_) (fun I5 H5 E vs f5 e1 e2 e3 hv => ?_))
      · walk_at "wp"
        exact q
      · rw [List.length_map] at hk
        have hg : (ks.map V.int).getD k .non = .int ks[k] := by simp [hk]
        rw [hg]
        simp only [List.set_cons_zero, List.set_cons_succ]
        have hp := posI_get (hkin ks[k] (List.getElem_mem hk))
        refine w_var rfl ?_
        have z5 := w_indexZ (K := K) (Q := R) (TupZ.up z2 (f5.ext.trans f5.sub)) hp.1 hp.2 (hR _ I5 H5 (Lf.refl f5.sub) (by
          simp only [List.getD_eq_getElem?_getD, List.getElem?_eq_getElem hk, Option.getD_some]
          exact .int _))
        refine ⟨z5.1, ?_⟩
        walk_at "wp"
        exact z5.2
      · walk_at "wp"
        refine w_tupOfL f5.sub (ofL e3) hv fun I6 H6 q' f6 z dd => ?_
        refine q3 ns ks h0 hdn hek hkd hkin I6 H6 _ ((f4.trans f5).trans f6) (.tup (TupZ.sq z) ?_)
        rw [List.length_map, map_range_get (fun z => PyData.int ((posI ns z : Nat) : Int)) ks (fun k => ks.getD k 0) (fun k h => by simp [h])] at dd
        rw [countI, List.map_map]
        exact dd
    · rw [show decide (rfD ns e = .non) = false from decide_eq_false hn]
      walk_at "wp"
      exact w_raise1 fun H' x s5 hx => q2 ns h0 hdn hn H' x (s4'.trans s5) hx
/-! ### the frames of a list, each at its first time -/
def ftS (s : List Int) (n : Int) : List Int := if n ∈ s then s else s ++ [n]
def ftI (ns : List Int) : List Int := ns.foldl ftS []
theorem ftI_snoc (ns : List Int) (n : Int) : ftI (ns ++ [n]) = ftS (ftI ns) n := by
  unfold ftI
  rw [List.foldl_append]
  rfl
theorem ftI_len (ns : List Int) : (ftI ns).length ≤ ns.length := by
  have go : ∀ (l s : List Int), (l.foldl ftS s).length ≤ s.length + l.length := by
    intro l
    induction l with
    | nil => intro s; simp
    | cons n l ih =>
      intro s
      have z := ih (ftS s n)
      have : (ftS s n).length ≤ s.length + 1 := by
        unfold ftS
        split
        · omega
        · simp
      rw [List.foldl_cons, List.length_cons]
      omega
  have z := go ns []
  simpa [ftI] using z
def spFirstTime (K : PySem.W.Frag) : Sp := fun vs H Q _ => ∃ (I : Hp) (v : V) (d : PyData) (ns : List Int), vs = [v] ∧ Same I H ∧ Dp K I v d ∧ SeqD d ns ∧ ns.length ≤ 1000 ∧
  ∀ I' H' r, Lf No I H I' H' → Dp K I' r (tupI (ftI ns)) → Q r H'
theorem ok_first_time_row (T : Top K mg a) : FnOk P w K mg base CX0 1 a.f_first_time_row a.d_first_time_row ["frames"] (spFirstTime K) := by
  refine T.F_first_time_row.ok sc_first_time_row (fun vs H Q E h => ?_) (fun cdv A outer s H vs Q E hr h => ?_)
  · obtain ⟨I, v, d, ns, rfl, _⟩ := h
    rfl
  · obtain ⟨I, v, d, ns, rfl, sI, hd, hdn, hl, q⟩ := h
    obtain ⟨p, rfl, hp⟩ := dpSeq (SeqD.dp hdn hd)
    refine ⟨_, (pss_cons (ps_set (i := 1) sc_first_time_row.nd rfl (Or.inl rfl) (pe_lst pa_nil)) (pss_cons (ps_for PassesOwn.never rfl (pi_seqK (K := K) rfl (pv 0)) (pg_name (i := 2) sc_first_time_row.nd rfl (Or.inl rfl)) (pss_one (ps_if (pt_cmpR (op_ninK (K := K) rfl) (pv 2) (pv 1) (by rfl)) (pss_one (ps_expr (pe_bm PySem.F.plainAttrs_list PySem.F.slot_list_append PySem.F.type_list_append mt_append (pv 1) (pa_cons (pv 2) pa_nil)))) pss_nil))) (pss_one (ps_ret (pe_tupleK (K := K) rfl (by rfl) T.n_tuple (pv 1)))))), ?_⟩
    walk_at "st"
    walk_at "wp"
    refine ⟨by show 0 ≤ sizeLine; decide, fun b hb => ?_⟩
    walk_at "wp"
    have bN : I b = none := Same.sub sI hb
    have f0 : Lf No I H I (upd H b (.lst [])) := Lf.alloc sI hb
    refine w_forS hp (fun i σ H' => ∃ y : Option V, σ = [some (.ref p), some (.ref b), y] ∧ Lf No I H I H' ∧ H' b = some (.lst ((ftI (ns.take i)).map V.int))) (fun Q q => ⟨_, rfl, q⟩)
      ⟨none, rfl, f0, upd_same⟩ (fun i σ H' _ h => ?_) (fun i x σ H' hi h => ?_) (fun σ H' h => ?_)
    · obtain ⟨_, _, f, _⟩ := h
      exact f.sub
    · obtain ⟨y, rfl, f, hB⟩ := h
      have hi' : i < ns.length := by simpa using (List.getElem?_eq_some_iff.mp hi).1
      rw [get_map hi'] at hi
      obtain rfl := Option.some.inj hi
      refine w_name ?_
      simp only [List.set_cons_zero, List.set_cons_succ]
      walk_at "wp"
      refine w_ninI (.inl (ofL hB)) ?_
      walk_at "wp"
      have e1 : ftI (ns.take (i + 1)) = ftS (ftI (ns.take i)) ns[i] := by
        rw [take_at (List.getElem?_eq_getElem hi'), ftI_snoc]
      refine w_ifn (fun c => ?_) (fun c => ?_)
      · walk_at "wp"
        refine w_tyL hB ?_
        walk_at "wp"
        refine w_append' hB ?_ ?_
        · rw [List.length_map]
          have z := ftI_len (ns.take i)
          rw [List.length_take] at z
          have s : 1000 < sizeLine := by decide
          omega
        · refine ⟨_, rfl, Lf.set f hb hB bN, ?_⟩
          rw [upd_same, e1, ftS, if_neg c, List.map_append]
          rfl
      · walk_at "wp"
        refine ⟨_, rfl, f, ?_⟩
        rw [hB, e1, ftS, if_pos c]
    · obtain ⟨y, rfl, f, hB⟩ := h
      rw [List.length_map, List.take_length] at hB
      walk_at "wp"
      refine w_tupOfL f.sub (ofL hB) (DpAll.ints _) fun I' H' q' f2 z dd => ?_
      exact q I' H' _ (f.trans f2) (.tup (TupZ.sq z) dd)
end
section
variable {P : Program} {w : World} {K : PySem.W.Frag} {mg : Str → Option Value} {base : Heap} {a : Adr}
def absI (n : Int) : Int := if n < 0 then -n else n
def spHand (K : PySem.W.Frag) : Sp := fun vs H Q _ => ∃ (I : Hp) (s : Addr) (ns : List Int), vs = [.ref s] ∧ Same I H ∧ SqL K I s (ns.map V.int) ∧ ns.length ≤ 1000 ∧
  ∀ I' H' hd, Lf No I H I' H' → Hand K I' H' hd → Q (.ref hd) H'
theorem ok_law_hand (T : Top K mg a) : FnOk P w K mg base CX0 1 a.f_law_hand a.d_law_hand ["_law_script"] (spHand K) := by
  refine T.F_law_hand.ok sc_law_hand (fun vs H Q E h => ?_) (fun cdv A outer s H vs Q E hr h => ?_)
  · obtain ⟨I, s, ns, rfl, _⟩ := h
    rfl
  · obtain ⟨I, p, ns, rfl, sI, hp, hl, q⟩ := h
    refine ⟨_, (pss_cons (ps_set (i := 1) sc_law_hand.nd rfl (Or.inl rfl) pe_int) (pss_cons (ps_for PassesOwn.never rfl (pi_enumK (K := K) rfl (by rfl) T.n_enumerate (pa_cons (pv 0) pa_nil)) (pg_tup rfl (pgs_cons (pg_name (i := 2) sc_law_hand.nd rfl (Or.inl rfl)) (pgs_cons (pg_name (i := 3) sc_law_hand.nd rfl (Or.inl rfl)) pgs_nil))) (pss_one (ps_set (i := 1) sc_law_hand.nd rfl (Or.inl rfl) (pe_op op_mod (pe_callTy call_intI (by rfl) T.n_int (by decide +kernel) (pa_cons (pe_op op_add (pe_op op_mul (pv 1) pe_int) (pe_op op_mul (pe_callTy call_intI (by rfl) T.n_int (by decide +kernel) (pa_cons (pv 3) pa_nil)) (pe_op op_add (pv 2) pe_int))) pa_nil)) pe_int)))) (pss_one (ps_ret (pe_lst (pa_cons (pe_lc (own := [("_law_cell", 3)]) (g := gName 3) (by rfl) sc_law_hand.nd (pi_seqK (K := K) rfl (pv 0)) (blkOk_by (own := [("_law_cell", 3)]) (N := ["_law_script", "_law_total", "_law_k", "_law_cell"]) (sc := defScope s_law_hand) (by decide +kernel)) (fun _ _ _ _ _ => (pg_name (i := 3) sc_law_hand.nd rfl (Or.inl rfl))) (fun _ _ _ _ _ => pts_nil) (fun _ _ _ _ _ => (pe_callB call_absI (by rfl) T.n_abs (by decide +kernel) (pa_cons (pe_callTy call_intI (by rfl) T.n_int (by decide +kernel) (pa_cons (pv 3) pa_nil)) pa_nil)))) (pa_cons pe_int (pa_cons pe_int (pa_cons (pv 1) pa_nil))))))))), ?_⟩
    walk_at "st"
    walk_at "wp"
    refine w_forEnum (.inl (sI.seq hp)) (fun i σ H' => ∃ (t : Int) (y z : Option V), σ = [some (.ref p), some (.int t), y, z] ∧ Same H H') (fun Q q => ⟨_, rfl, q⟩) ⟨0, none, none, rfl, Same.refl _⟩
      (fun i σ H' _ h => ?_) (fun i x Tp σ H' hi h hT => ?_) (fun σ H' h => ?_)
    · obtain ⟨_, _, _, _, s2⟩ := h
      exact s2
    · obtain ⟨t, y, z, rfl, s2⟩ := h
      have hi' : i < ns.length := by simpa using (List.getElem?_eq_some_iff.mp hi).1
      rw [get_map hi'] at hi
      obtain rfl := Option.some.inj hi
      refine w_gpair upd_same ?_
      simp only [List.set_cons_zero, List.set_cons_succ]
      walk_at "wp"
      exact ⟨_, _, _, rfl, s2.trans (same_new hT)⟩
    · obtain ⟨t, y, z, rfl, s2⟩ := h
      walk_at "wp"
      have f0 : Lf No I H I H' := Lf.ofSame sI s2
      refine w_compS (K := K) (I := I) (M := No) (.inl hp) (fun Q q => ?_) (fun h => h) (CompOk.pure (fun k => .int (absI (ns.getD k 0))) f0.sub (fun b h => h.elim) (by rw [List.length_map]; exact small1000 (by omega)) (fun k I5 H5 R hk f5 hR => ?_) (fun I5 H5 E vs f5 e1 e2 e3 hv => ?_))
      · walk_at "wp"
        exact q
      · rw [List.length_map] at hk
        have hg : (ns.map V.int).getD k .non = .int ns[k] := by simp [hk]
        rw [hg]
        simp only [List.set_cons_zero, List.set_cons_succ]
        walk_at "wp"
        refine hR _ I5 H5 (Lf.refl f5.sub) ?_
        rw [show ns.getD k 0 = ns[k] by simp [hk]]
        exact .int _
      · walk_at "wp"
        rw [List.length_map, map_range_get (fun z => PyData.int (absI z)) ns (fun k => ns.getD k 0) (fun k h => by simp [h])] at hv
        have hv2 : DpAll K I5 vs ((ns.map absI).map PyData.int) := by rw [List.map_map]; exact hv
        obtain rfl := DpAll.isInts hv2
        refine ⟨by show 4 ≤ sizeLine; decide, fun hd hh => ?_⟩
        have f6 := Lf.freeze f5 f0.sub e1 e3
        have f7 := (f0.trans f6).trans (Lf.alloc (o := .lst [.ref E, .int 0, .int 0, .int t]) f6.sub hh)
        refine q _ _ hd f7 ⟨f7.sub, Same.sub f6.sub hh, E, ns.map absI, 0, 0, t, upd_same, ofL upd_same, ?_, by omega, by omega⟩
        intro x hx
        obtain ⟨n, _, rfl⟩ := List.mem_map.mp hx
        unfold absI
        split <;> omega
/-! ### some row -/
theorem erase_perm : ∀ {ls : List Int} {j : Nat} {z : Int}, ls[j]? = some z → ([z] ++ ls.eraseIdx j).Perm ls
  | x :: ls, 0, z, h => by
    have e : x = z := by simpa using h
    rw [e]
    exact .refl _
  | x :: ls, j + 1, z, h => by
    have e : ls[j]? = some z := by simpa using h
    exact (List.Perm.swap x z _).trans (List.Perm.cons x (erase_perm e))
def spSomeRow (K : PySem.W.Frag) : Sp := fun vs H Q _ => ∃ (I : Hp) (hd : Addr) (m d : Int), vs = [.ref hd, .int m, .int d] ∧ Hand K I H hd ∧ 0 ≤ d ∧ d ≤ m ∧ m ≤ 1000 ∧
  ∀ (I' H' : Hp) (p : Addr) (ks : List Int), Lf (· = hd) I H I' H' → Hand K I' H' hd → TupZ I' p (ks.map V.int) → ks.Nodup → (ks.length : Int) = d → (∀ k ∈ ks, 0 ≤ k ∧ k < m) → Q (.ref p) H'
theorem rgI_nodup (m : Int) : (rgI m).Nodup := by
  unfold rgI
  rw [List.Nodup, List.pairwise_map]
  refine List.Pairwise.imp ?_ (List.nodup_range (n := m.toNat))
  intro a b h e
  omega
theorem ok_law_some_row (T : Top K mg a) : FnOk P w K mg base CX0 3 a.f_law_some_row a.d_law_some_row ["_law_hand_here", "_law_m", "_law_d"] (spSomeRow K) := by
  refine T.F_law_some_row.ok sc_law_some_row (fun vs H Q E h => ?_) (fun cdv A outer s H vs Q E hr h => ?_)
  · obtain ⟨I, hd, m, d, rfl, _⟩ := h
    rfl
  · obtain ⟨I, hd, m, d, rfl, hh, d0, dm, m1, q⟩ := h
    have sI := hh.sub
    refine ⟨_, (pss_cons (ps_set (i := 3) sc_law_some_row.nd rfl (Or.inl rfl) (pe_listRg rfl (by rfl) T.n_list (prg_1 (by rfl) T.n_range (pv 1)))) (pss_cons (ps_set (i := 4) sc_law_some_row.nd rfl (Or.inl rfl) (pe_lst pa_nil)) (pss_cons (ps_for PassesOwn.never rfl (pi_range1 (by rfl) T.n_range (pa_cons (pv 2) pa_nil)) (pg_name (i := 5) sc_law_some_row.nd rfl (Or.inl rfl)) (pss_one (ps_expr (pe_bm PySem.F.plainAttrs_list PySem.F.slot_list_append PySem.F.type_list_append mt_append (pv 4) (pa_cons (pe_bm PySem.F.plainAttrs_list PySem.F.slot_list_pop PySem.F.type_list_pop mt_popAt (pv 3) (pa_cons (pe_call (ok_law_draw T) (hr.mono (by decide)) (by rfl) T.g_law_draw T.F_law_draw.kp T.b_law_draw .nil pass0 (pa_cons (pv 0) (pa_cons (pe_callB (call_lenK (K := K) rfl) (by rfl) T.n_len (by decide +kernel) (pa_cons (pv 3) pa_nil)) pa_nil))) pa_nil)) pa_nil))))) (pss_one (ps_ret (pe_tupleK (K := K) rfl (by rfl) T.n_tuple (pv 4))))))), ?_⟩
    walk_at "st"
    walk_at "wp"
    refine ⟨rgOk0 (by omega) (by omega), fun l hl => ?_⟩
    have f1 : Lf (· = hd) I H I (upd H l (.lst (rgV 0 m))) := Lf.alloc sI hl
    have lN : I l = none := Same.sub sI hl
    have ne1 : hd ≠ l := hh.neOf hl
    have hh1 := Hand.upd (o := .lst (rgV 0 m)) hh lN ne1
    walk_at "wp"
    refine ⟨by show 0 ≤ sizeLine; decide, fun r hr0 => ?_⟩
    walk_at "wp"
    have rN : I r = none := Same.sub hh1.sub hr0
    have ne2 : hd ≠ r := hh1.neOf hr0
    have hr' : H r = none := f1.free hr0
    have ne3 : l ≠ r := by
      intro z
      subst z
      rw [upd_same] at hr0
      cases hr0
    have f2 := f1.trans (Lf.alloc (o := .lst []) f1.sub hr0)
    have hh2 := Hand.upd (o := .lst []) hh1 rN ne2
    refine w_forR1 d0 (by omega) (fun i σ H' => ∃ (y : Option V) (ls ks : List Int), σ = [some (.ref hd), some (.int m), some (.int d), some (.ref l), some (.ref r), y] ∧ Lf (· = hd) I H I H' ∧ Hand K I H' hd ∧
      H' l = some (.lst (ls.map V.int)) ∧ H' r = some (.lst (ks.map V.int)) ∧ (ks ++ ls).Perm (rgI m) ∧ ks.length = i) (fun Q q => ?_) ⟨_, rgI m, [], rfl, f2, hh2, ?_, upd_same, .refl _, rfl⟩
      (fun i σ H' hi h => ?_) (fun σ H' h => ?_)
    · walk_at "wp"
      exact q
    · rw [upd_ne ne3, upd_same, rgV_rgI]
    · obtain ⟨y, ls, ks, rfl, f, hh3, hL, hR, pm, lk⟩ := h
      have hlen : ks.length + ls.length = m.toNat := by
        have z := pm.length_eq
        rw [List.length_append] at z
        rw [z]
        simp [rgI]
      refine w_name ?_
      simp only [List.set_cons_zero, List.set_cons_succ]
      walk_at "wp"
      refine w_tyL hR ?_
      walk_at "wp"
      refine w_tyL hL ?_
      walk_at "wp"
      rw [List.length_map]
      refine ⟨I, hd, (ls.length : Int), rfl, hh3, by omega, by omega, fun H4 r4 f4 hh4 r0 r1 => ?_⟩
      walk_at "wp"
      have hL4 := f4.keep _ _ (fun z => ne1 z.symm) hL
      have hR4 := f4.keep _ _ (fun z => ne2 z.symm) hR
      have sm : ls.length < sizeLine := small1000 (by omega)
      refine (w_popInts (K := K) hL4 r0 r1 sm fun z hz => ?_).2
      walk_at "wp"
      have hR5 : upd H4 l (.lst ((ls.eraseIdx r4.toNat).map V.int)) r = some (.lst (ks.map V.int)) := by rw [upd_ne (Ne.symm ne3)]; exact hR4
      refine w_append' hR5 (by rw [List.length_map]; exact small1000 (by omega)) ?_
      have f5 := f.trans f4
      refine ⟨_, ls.eraseIdx r4.toNat, ks ++ [z], rfl, Lf.set (Lf.set f5 hl hL4 lN) hr' hR5 rN, Hand.upd (Hand.upd hh4 lN ne1) rN ne2, ?_, ?_, ?_, by rw [List.length_append]; simp [lk]⟩
      · rw [upd_ne ne3, upd_same]
      · rw [upd_same, List.map_append]; rfl
      · refine List.Perm.trans ?_ pm
        rw [List.append_assoc]
        refine List.Perm.append_left ks ?_
        exact erase_perm hz
    · obtain ⟨y, ls, ks, rfl, f, hh3, hL, hR, pm, lk⟩ := h
      walk_at "wp"
      have nd := pm.nodup_iff.mpr (rgI_nodup m)
      rw [List.nodup_append] at nd
      refine w_tupOfL f.sub (ofL hR) (DpAll.ints _) fun I' H' q' f2 z dd => ?_
      refine q I' H' q' ks (f.trans f2.any) (hh3.to f2 (fun h => h)) z nd.1 (by omega) fun k hk => ?_
      exact mem_rgI.mp (pm.mem_iff.mp (List.mem_append_left _ hk))
/-! ### a list or a tuple -/
def spSeq (K : PySem.W.Frag) : Sp := fun vs H Q _ => ∃ (I : Hp) (hd : Addr) (v : V) (ds : List PyData), vs = [.ref hd, v] ∧ Hand K I H hd ∧
  (∀ I' H' r, Lf (· = hd) I H I' H' → Hand K I' H' hd → Dp K I' r (.list ds) → Q r H') ∧
  ((Dp K I v (.tuple ds) ∧ ∀ I' H', Lf (· = hd) I H I' H' → Hand K I' H' hd → Q v H') ∨
   (Dp K I v (.list ds) ∧ ∀ I' H' r, Lf (· = hd) I H I' H' → Hand K I' H' hd → Dp K I' r (.tuple ds) → Q r H'))
theorem ok_law_seq (T : Top K mg a) : FnOk P w K mg base CX0 3 a.f_law_seq a.d_law_seq ["_law_hand_here", "_law_row"] (spSeq K) := by
  refine T.F_law_seq.ok sc_law_seq (fun vs H Q E h => ?_) (fun cdv A outer s H vs Q E hr h => ?_)
  · obtain ⟨I, hd, v, ds, rfl, _⟩ := h
    rfl
  · obtain ⟨I, hd, v, ds, rfl, hh, q1, q2⟩ := h
    refine ⟨_, (pss_one (ps_ret (pe_ifExp (pt_cmpR op_eq (pe_call (ok_law_draw T) (hr.mono (by decide)) (by rfl) T.g_law_draw T.F_law_draw.kp T.b_law_draw .nil pass0 (pa_cons (pv 0) (pa_cons pe_int pa_nil))) pe_int (nomark _)) (pe_callTy (call_listK (K := K) rfl) (by rfl) T.n_list (by decide +kernel) (pa_cons (pv 1) pa_nil)) (pe_tupleK (K := K) rfl (by rfl) T.n_tuple (pv 1))))), ?_⟩
    walk_at "st"
    walk_at "wp"
    refine ⟨I, hd, 2, rfl, hh, by omega, by omega, fun H1 r f1 hh1 r0 r1 => ?_⟩
    walk_at "wp"
    have hs : ∃ p xs, v = .ref p ∧ (SqL K I p xs ∨ SqT K I p xs) ∧ DpAll K I xs ds := by
      rcases q2 with ⟨h, _⟩ | ⟨h, _⟩
      · obtain ⟨p, xs, e, h1, h2⟩ := Dp.tupRef h
        exact ⟨p, xs, e, .inr h1, h2⟩
      · obtain ⟨p, xs, e, h1, h2⟩ := Dp.lstRef h
        exact ⟨p, xs, e, .inl h1, h2⟩
    refine w_if (fun c => ?_) (fun c => ?_)
    · walk_at "wp"
      obtain ⟨p, xs, rfl, hp, hx⟩ := hs
      refine ⟨p, xs, rfl, seq_up hp f1.sub, fun b hb => ?_⟩
      have f2 := Lf.put (M := No) (o := .lst xs) f1.sub hb
      exact q1 _ _ _ (f1.trans f2.any) (hh1.to f2 (fun h => h)) (.lst (ofL upd_same) (DpAll.up hx (f1.ext.trans f2.ext)))
    · walk_at "wp"
      rcases q2 with ⟨h, q2⟩ | ⟨h, q2⟩
      · obtain ⟨p, xs, rfl, h1, h2⟩ := Dp.tupRef h
        exact .inr ⟨p, xs, rfl, Same.seqT f1.sub h1, q2 I H1 f1 hh1⟩
      · obtain ⟨p, xs, rfl, h1, h2⟩ := Dp.lstRef h
        refine w_tupOfL f1.sub (f1.sub.seq h1) (DpAll.up h2 f1.ext) fun I' H' q' f2 z dd => ?_
        exact q2 I' H' _ (f1.trans f2.any) (hh1.to f2 (fun h => h)) (.tup (TupZ.sq z) dd)
end
section
variable {P : Program} {w : World} {K : PySem.W.Frag} {mg : Str → Option Value} {base : Heap} {a : Adr}
def spExact (K : PySem.W.Frag) (n : Nat) : Sp := fun vs H Q _ => ∃ (t u : V) (d : PyData), vs = [t, u] ∧ Dp K H t d ∧ Dp K H u d ∧ plainD n d ∧ ∀ H', Same H H' → Q (.bl true) H'
theorem eqv_intS (n : Int) : PyData.eqv (.int n) (.int n) = true := beq_self_eq_true n
theorem eqv_strS (n : Str) : PyData.eqv (.str n) (.str n) = true := beq_self_eq_true n
theorem ok_exactN (T : Top K mg a) (n : Nat) : FnOk P w K mg base CX0 n a.f_law_exact a.d_law_exact ["_law_told", "_law_due"] (spExact K n) := by
  induction n with
  | zero =>
    refine FnOk.imp FnOk.none fun _ _ _ _ h => ?_
    obtain ⟨_, _, _, _, _, _, h, _⟩ := h
    exact h
  | succ n ih =>
    refine T.F_law_exact.ok sc_law_exact (fun vs H Q E h => ?_) (fun cdv A outer s H vs Q E hr h => ?_)
    · obtain ⟨t, u, d, rfl, _⟩ := h
      rfl
    · obtain ⟨t, u, d, rfl, ht, hu, hp, q⟩ := h
      refine ⟨_, (pss_cons (ps_if (pt_val (pe_callB (call_isiK' (K := K) rfl) (by rfl) T.n_isinstance (by decide +kernel) (pa_cons (pv 1) (pa_cons (pe_bltn (v := .ty "tuple") (u := .type "tuple") (by rfl) T.n_tuple (by decide +kernel) rfl) pa_nil)))) (pss_cons (ps_if (PW.pt (pw_or (pt_not (pt_val (pe_callB (call_isiK' (K := K) rfl) (by rfl) T.n_isinstance (by decide +kernel) (pa_cons (pv 0) (pa_cons (pe_bltn (v := .ty "tuple") (u := .type "tuple") (by rfl) T.n_tuple (by decide +kernel) rfl) pa_nil))))) (pw_or1 (pt_cmpR op_ne (pe_callB (call_lenK (K := K) rfl) (by rfl) T.n_len (by decide +kernel) (pa_cons (pv 0) pa_nil)) (pe_callB (call_lenK (K := K) rfl) (by rfl) T.n_len (by decide +kernel) (pa_cons (pv 1) pa_nil)) (nomark _))))) (pss_one (ps_ret pe_bl)) pss_nil) (pss_one (ps_ret (pe_cmpR (op_eqK (K := K) rfl hr.units) (pe_lc (own := [("_law_k", 2)]) (g := gName 2) (by rfl) sc_law_exact.nd (pi_range1 (by rfl) T.n_range (pa_cons (pe_callB (call_lenK (K := K) rfl) (by rfl) T.n_len (by decide +kernel) (pa_cons (pv 1) pa_nil)) pa_nil)) (blkOk_by (own := [("_law_k", 2)]) (N := ["_law_told", "_law_due", "_law_k"]) (sc := defScope s_law_exact) (by decide +kernel)) (fun _ _ _ _ _ => (pg_name (i := 2) sc_law_exact.nd rfl (Or.inl rfl))) (fun _ _ _ _ _ => pts_one (pt_not (pt_val (pe_call ih (hr.mono (Nat.le_refl _)) (by rfl) T.g_law_exact T.F_law_exact.kp T.b_law_exact .nil pass0 (pa_cons (pe_ix (ix_K (K := K) rfl) (pv 0) (pv 2) (fun _ _ => rfl)) (pa_cons (pe_ix (ix_K (K := K) rfl) (pv 1) (pv 2) (fun _ _ => rfl)) pa_nil)))))) (fun _ _ _ _ _ => (pv 2))) (pe_lst pa_nil) (nomark _))))) pss_nil) (pss_cons (ps_if (pt_cmpR op_isN' (pv 1) pe_non (nomark _)) (pss_one (ps_ret (pe_cmpR op_isN' (pv 0) pe_non (nomark _)))) pss_nil) (pss_cons (ps_if (pt_val (pe_callB (call_isiK' (K := K) rfl) (by rfl) T.n_isinstance (by decide +kernel) (pa_cons (pv 1) (pa_cons (pe_bltn (v := .ty "bool") (u := .type "bool") (by rfl) T.n_bool (by decide +kernel) rfl) pa_nil)))) (pss_one (ps_ret (pe_ifExp (pt_truth (pv 1) (by intro _; rfl)) (pe_cmpR op_isB (pv 0) pe_bl (nomark _)) (pe_cmpR op_isB (pv 0) pe_bl (nomark _))))) pss_nil) (pss_cons (ps_if (pt_val (pe_callB (call_isiK' (K := K) rfl) (by rfl) T.n_isinstance (by decide +kernel) (pa_cons (pv 1) (pa_cons (pe_bltn (v := .ty "str") (u := .type "str") (by rfl) T.n_str (by decide +kernel) rfl) pa_nil)))) (pss_one (ps_ret (pe_and (pe_callB (call_isiK' (K := K) rfl) (by rfl) T.n_isinstance (by decide +kernel) (pa_cons (pv 0) (pa_cons (pe_bltn (v := .ty "str") (u := .type "str") (by rfl) T.n_str (by decide +kernel) rfl) pa_nil))) (pe_one (pe_cmpR (op_eqK (K := K) rfl hr.units) (pv 0) (pv 1) (nomark _)))))) pss_nil) (pss_one (ps_ret (pe_and (pe_callB (call_isiK' (K := K) rfl) (by rfl) T.n_isinstance (by decide +kernel) (pa_cons (pv 0) (pa_cons (pe_bltn (v := .ty "int") (u := .type "int") (by rfl) T.n_int (by decide +kernel) rfl) pa_nil))) (pe_and (pe_not (pe_callB (call_isiK' (K := K) rfl) (by rfl) T.n_isinstance (by decide +kernel) (pa_cons (pv 0) (pa_cons (pe_bltn (v := .ty "bool") (u := .type "bool") (by rfl) T.n_bool (by decide +kernel) rfl) pa_nil)))) (pe_one (pe_cmpR (op_eqK (K := K) rfl hr.units) (pv 0) (pv 1) (nomark _))))))))))), ?_⟩
      walk_at "st"
      cases d with
      | tuple ds =>
        walk_at "wp"
        dsimp only [dTup]
        walk_at "wp"
        dsimp only [dTup]
        walk_at "wp"
        refine w_lenD (Same.refl H) (.inl ht) ?_
        walk_at "wp"
        refine w_lenD (Same.refl H) (.inl hu) ?_
        walk_at "wp"
        rw [show decide ((ds.length : Int) = (ds.length : Int)) = true from decide_eq_true rfl]
        walk_at "wp"
        obtain ⟨pt, xt, rfl, hpt, hxt⟩ := Dp.tupRef ht
        obtain ⟨pu, xu, rfl, hpu, hxu⟩ := Dp.tupRef hu
        refine w_compR (K := K) (I := H) (M := No) (m := (ds.length : Int)) (by omega) (by have := hp.1; omega) (fun Q q => ?_)
          (CompOk.filt (fun _ => false) (fun _ => .none) (Same.refl H) (fun b h => h.elim) (small1000 (by have := hp.1; omega)) (fun k I5 H5 R hk f5 hR => ?_) (fun k I5 H5 R hk hT f5 hR => by cases hT) (fun I5 H5 E vs f5 e1 e2 e3 hv => ?_))
        · walk_at "wp"
          refine w_lenD (Same.refl H) (.inl hu) ?_
          walk_at "wp"
          exact q
        · simp only [List.set_cons_zero, List.set_cons_succ]
          walk_at "wp"
          have s5 : Same H H5 := f5.same
          have hk' : k < ds.length := by omega
          have ek : ds[((k : Nat) : Int).toNat]? = some ds[k] := by simp [hk']
          refine w_ixD s5 (.inl ht) (by omega) ek fun x hx => ?_
          walk_at "wp"
          refine w_ixD s5 (.inl hu) (by omega) ek fun y hy => ?_
          walk_at "wp"
          refine ⟨x, y, ds[k], rfl, Dp.up hx s5, Dp.up hy s5, hp.2 _ (List.getElem_mem hk'), fun H6 s6 => ?_⟩
          walk_at "wp"
          exact hR _ _ H6 rfl (Lf.ofSame f5.sub s6)
        · have hv0 : vs = [] := by
            rw [show (List.range ((ds.length : Int)).toNat).filter (fun _ => false) = [] from List.filter_eq_nil_iff.mpr (fun _ _ h => by cases h)] at hv
            cases hv
            rfl
          subst hv0
          walk_at "wp"
          refine ⟨by show 0 ≤ sizeLine; decide, fun r hr0 => ?_⟩
          have s5 := f5.same
          refine w_eqD (d := .list []) (e := .list []) (.lst (ofL ?_) .nil) (.lst (ofL upd_same) .nil) rfl rfl ?_
          · rw [upd_ne (ne_of_none e3 hr0)]
            exact e3
          · exact q _ (s5.trans (same_new hr0))
      | list ds => exact hp.elim
      | dict ds => exact hp.elim
      | none =>
        cases ht
        cases hu
        walk_at "wp"
        exact q H (Same.refl H)
      | bool b =>
        cases ht
        cases hu
        walk_at "wp"
        refine ⟨b, rfl, ?_⟩
        cases b with
        | true =>
          walk_at "wp"
          exact ⟨true, rfl, by rw [show decide (V.bl true = V.bl true) = true from decide_eq_true rfl]; exact q H (Same.refl H)⟩
        | false =>
          walk_at "wp"
          exact ⟨false, rfl, by rw [show decide (V.bl false = V.bl false) = true from decide_eq_true rfl]; exact q H (Same.refl H)⟩
      | int i =>
        cases ht
        cases hu
        walk_at "wp"
        refine w_eqD (.int i) (.int i) rfl rfl ?_
        rw [eqv_intS]
        exact q H (Same.refl H)
      | str x =>
        cases ht
        cases hu
        walk_at "wp"
        refine w_eqD (.str x) (.str x) hp hp ?_
        rw [eqv_strS]
        exact q H (Same.refl H)
theorem ok_law_exact (T : Top K mg a) : FnOk P w K mg base CX0 5 a.f_law_exact a.d_law_exact ["_law_told", "_law_due"] (spExact K 5) := ok_exactN T 5
end
section
variable {P : Program} {w : World} {K : PySem.W.Frag} {mg : Str → Option Value} {base : Heap} {a : Adr}
/-! ### no count -/
def spNoCount (K : PySem.W.Frag) : Sp := fun vs H Q _ => ∃ (I : Hp) (hd : Addr) (m : Int), vs = [.ref hd, .int m] ∧ Hand K I H hd ∧ 0 ≤ m ∧
  ∀ (I' H' : Hp) (v : V) (d : PyData), Lf (· = hd) I H I' H' → Hand K I' H' hd → Dp K I' v d → wholeB d (some 0) (some m) = false → Q v H'
theorem ok_law_no_count (T : Top K mg a) : FnOk P w K mg base CX0 3 a.f_law_no_count a.d_law_no_count ["_law_hand_here", "_law_most"] (spNoCount K) := by
  refine T.F_law_no_count.ok sc_law_no_count (fun vs H Q E h => ?_) (fun cdv A outer s H vs Q E hr h => ?_)
  · obtain ⟨I, hd, m, rfl, _⟩ := h
    rfl
  · obtain ⟨I, hd, m, rfl, hh, m0, q⟩ := h
    refine ⟨_, (pss_one (ps_ret (pe_ix (ix_K (K := K) rfl) (pe_lst (pa_cons pe_non (pa_cons (pe_un un_neg pe_int) (pa_cons (pe_op op_add (pv 1) pe_int) (pa_cons pe_bl (pa_cons pe_str (pa_cons (pe_tup (pa_cons pe_int pa_nil)) (pa_cons (pe_op op_add (pv 1) pe_int) (pa_cons (pe_lst (pa_cons pe_int pa_nil)) (pa_cons pe_bl (pa_cons (pe_un un_neg pe_int) pa_nil))))))))))) (pe_call (ok_law_draw T) (hr.mono (by decide)) (by rfl) T.g_law_draw T.F_law_draw.kp T.b_law_draw .nil pass0 (pa_cons (pv 0) (pa_cons pe_int pa_nil))) (fun _ _ => rfl)))), ?_⟩
    walk_at "st"
    walk_at "wp"
    refine w_newT (K := K) hh.sub (.cons (.int _) .nil) (by show 1 ≤ sizeLine; decide) fun I1 p1 f1 d1 => ?_
    walk_at "wp"
    refine w_newL (K := K) f1.sub (.cons (.int _) .nil) (by show 1 ≤ sizeLine; decide) fun I2 p2 f2 d2 => ?_
    walk_at "wp"
    refine w_newL (K := K) f2.sub (.cons .non (.cons (.int _) (.cons (.int _) (.cons (.bl _) (.cons (.str _) (.cons (Dp.up d1 f2.ext) (.cons (.int _) (.cons d2 (.cons (.bl _) (.cons (.int _) .nil)))))))))) (by show 10 ≤ sizeLine; decide) fun I3 p3 f3 d3 => ?_
    have f := ((f1.trans f2).trans f3)
    have hh3 := hh.to f (fun h => h)
    walk_at "wp"
    refine ⟨I3, hd, 10, rfl, hh3, by omega, by omega, fun H4 r f4 hh4 r0 r1 => ?_⟩
    walk_at "wp"
    obtain ⟨j, rfl⟩ : ∃ j : Nat, r = (j : Int) := ⟨r.toNat, by omega⟩
    have hj : j < 10 := by omega
    refine w_ixD f4.sub (.inr d3) r0 (List.getElem?_eq_getElem (by simpa using hj)) fun v hv => ?_
    refine q I3 H4 v _ (f.any.trans f4) hh4 hv ?_
    rcases j with _|_|_|_|_|_|_|_|_|_|j
    · rfl
    · simp [wholeB, geB, leB]
    · simp [wholeB, geB, leB]; omega
    · rfl
    · rfl
    · rfl
    · simp [wholeB, geB, leB]; omega
    · rfl
    · rfl
    · simp [wholeB, geB, leB]
    · omega
/-! ### some frames -/
def spSomeFrames (K : PySem.W.Frag) : Sp := fun vs H Q _ => ∃ (I : Hp) (hd : Addr), vs = [.ref hd] ∧ Hand K I H hd ∧
  ∀ (I' H' : Hp) (p : Addr) (ns : List Int), Lf (· = hd) I H I' H' → Hand K I' H' hd → TupZ I' p (ns.map V.int) → ns.Pairwise (· < ·) → (∀ n ∈ ns, 0 ≤ n ∧ n ≤ 23) → Q (.ref p) H'
theorem ok_law_some_frames (T : Top K mg a) : FnOk P w K mg base CX0 3 a.f_law_some_frames a.d_law_some_frames ["_law_hand_here"] (spSomeFrames K) := by
  refine T.F_law_some_frames.ok sc_law_some_frames (fun vs H Q E h => ?_) (fun cdv A outer s H vs Q E hr h => ?_)
  · obtain ⟨I, hd, rfl, _⟩ := h
    rfl
  · obtain ⟨I, hd, rfl, hh, q⟩ := h
    refine ⟨_, (pss_cons (ps_set (i := 1) sc_law_some_frames.nd rfl (Or.inr rfl) (pe_op op_add pe_int (pe_call (ok_law_draw T) (hr.mono (by decide)) (by rfl) T.g_law_draw T.F_law_draw.kp T.b_law_draw .nil pass0 (pa_cons (pv 0) (pa_cons pe_int pa_nil))))) (pss_one (ps_ret (pe_tupleK (K := K) rfl (by rfl) T.n_tuple (pe_lc (own := [("_law_f", 2)]) (g := gName 2) (by rfl) sc_law_some_frames.nd (pi_range1 (by rfl) T.n_range (pa_cons pe_int pa_nil)) (blkOk_by (own := [("_law_f", 2)]) (N := ["_law_hand_here", "_law_chance", "_law_f"]) (sc := defScope s_law_some_frames) (by decide +kernel)) (fun _ _ _ _ _ => (pg_name (i := 2) sc_law_some_frames.nd rfl (Or.inl rfl))) (fun _ _ _ _ _ => pts_one (pt_cmpR op_lt (pe_call (ok_law_draw T) (hr.mono (by decide)) (by rfl) T.g_law_draw T.F_law_draw.kp T.b_law_draw .nil pass0 (pa_cons (pv 0) (pa_cons pe_int pa_nil))) (pv 1) (nomark _))) (fun _ _ _ _ _ => (pv 2))))))), ?_⟩
    walk_at "st"
    walk_at "wp"
    refine ⟨I, hd, 4, rfl, hh, by omega, by omega, fun H1 r f1 hh1 r0 r1 => ?_⟩
    walk_at "wp"
    refine w_compR (K := K) (I := I) (M := (· = hd)) (m := 24)
      (Inv := fun k I' H' ds => Hand K I' H' hd ∧ ∃ ns : List Int, ds = ns.map .int ∧ ns.Pairwise (· < ·) ∧ ∀ n ∈ ns, 0 ≤ n ∧ n < k)
      (Mid := fun k b I' H' ds => Hand K I' H' hd ∧ ∃ ns : List Int, ds = ns.map .int ∧ ns.Pairwise (· < ·) ∧ ∀ n ∈ ns, 0 ≤ n ∧ n < k) (by omega) (by omega) (fun Q q => ?_) ?_
    · walk_at "wp"
      exact q
    · refine ⟨f1.sub, fun b h => h ▸ hh1.ne, small1000 (by decide), ⟨hh1, [], rfl, .nil, by simp⟩, fun k I' H' ds E o hE iE h => ⟨Hand.upd h.1 iE (hh1.neOf hE), h.2⟩, fun k I2 H2 ds R hk f2 hi hR => ?_, fun k I2 H2 ds R hk f2 hm hR => ?_, fun k I2 H2 ds hk hm => ?_, fun I3 H3 E vs ds f3 hE n1 e3 hv hi => ?_⟩
      · simp only [List.set_cons_zero, List.set_cons_succ]
        walk_at "wp"
        refine ⟨I2, hd, 5, rfl, hi.1, by omega, by omega, fun H3 r3 f3 hh3 _ _ => ?_⟩
        walk_at "wp"
        exact hR _ I2 H3 f3 ⟨hh3, hi.2⟩
      · simp only [List.set_cons_zero, List.set_cons_succ]
        walk_at "wp"
        obtain ⟨hh2, ns, rfl, h1, h2⟩ := hm
        refine hR _ (.int (k : Nat)) I2 H2 (Lf.refl f2.sub) (.int _) ⟨hh2, ns ++ [(k : Int)], by rw [List.map_append]; rfl, ?_, ?_⟩
        · rw [List.pairwise_append]
          refine ⟨h1, by simp, fun x hx y hy => ?_⟩
          rw [List.mem_singleton] at hy
          have := h2 x hx
          omega
        · intro n hn
          rcases List.mem_append.mp hn with h | h
          · have := h2 n h
            omega
          · rw [List.mem_singleton] at h
            omega
      · obtain ⟨hh2, ns, e, h1, h2⟩ := hm
        exact ⟨hh2, ns, e, h1, fun n hn => by have := h2 n hn; omega⟩
      · walk_at "wp"
        obtain ⟨hh3, ns, rfl, h1, h2⟩ := hi
        obtain rfl := DpAll.isInts hv
        refine w_tupOfL f3.sub (ofL e3) hv fun I4 H4 q' f4 z dd => ?_
        exact q I4 H4 q' ns ((f1.trans f3).trans f4.any) (hh3.to f4 (fun h => h)) z h1 (fun n hn => by have := h2 n hn; omega)
/-! ### the law's own «begins» -/
def spBegun (K : PySem.W.Frag) : Sp := fun vs H Q _ => ∃ (x y : V) (ns ms : List Int), vs = [x, y] ∧ Dp K H x (tupI ns) ∧ Dp K H y (tupI ms) ∧ ns.length ≤ 1000 ∧
  ∀ b H', b = begs ns ms → Same H H' → Q (.bl b) H'
def missI (ns ms : List Int) : List Nat := (List.range ns.length).filter fun k => !decide (ns.getD k 0 = ms.getD k 0)
theorem missI_begs {ns ms : List Int} (h : ns.length ≤ ms.length) : missI ns ms = [] ↔ ns = ms.take ns.length := by
  unfold missI
  rw [List.filter_eq_nil_iff]
  constructor
  · intro z
    refine List.ext_getElem (by rw [List.length_take]; omega) fun i h1 h2 => ?_
    have y := z i (List.mem_range.mpr h1)
    have h3 : i < ms.length := by omega
    simp [h1, h3] at y
    rw [List.getElem_take]
    exact y
  · intro z k hk
    rw [List.mem_range] at hk
    have h3 : k < ms.length := by omega
    have e : ns[k] = ms[k] := by
      have y := congrArg (fun l => l[k]?) z
      simp only [List.getElem?_take, if_pos hk, List.getElem?_eq_getElem hk, List.getElem?_eq_getElem h3] at y
      exact Option.some.inj y
    simp [hk, h3, e]
theorem ok_law_begun (T : Top K mg a) : FnOk P w K mg base CX0 1 a.f_law_begun a.d_law_begun ["_law_one", "_law_other"] (spBegun K) := by
  refine T.F_law_begun.ok sc_law_begun (fun vs H Q E h => ?_) (fun cdv A outer s H vs Q E hr h => ?_)
  · obtain ⟨x, y, ns, ms, rfl, _⟩ := h
    rfl
  · obtain ⟨x, y, ns, ms, rfl, hx, hy, hl, q⟩ := h
    refine ⟨_, (pss_one (ps_ret (pe_and (pe_cmpR op_le (pe_callB (call_lenK (K := K) rfl) (by rfl) T.n_len (by decide +kernel) (pa_cons (pv 0) pa_nil)) (pe_callB (call_lenK (K := K) rfl) (by rfl) T.n_len (by decide +kernel) (pa_cons (pv 1) pa_nil)) (nomark _)) (pe_one (pe_cmpR (op_eqK (K := K) rfl hr.units) (pe_lc (own := [("_law_at", 2)]) (g := gName 2) (by rfl) sc_law_begun.nd (pi_range1 (by rfl) T.n_range (pa_cons (pe_callB (call_lenK (K := K) rfl) (by rfl) T.n_len (by decide +kernel) (pa_cons (pv 0) pa_nil)) pa_nil)) (blkOk_by (own := [("_law_at", 2)]) (N := ["_law_one", "_law_other", "_law_at"]) (sc := defScope s_law_begun) (by decide +kernel)) (fun _ _ _ _ _ => (pg_name (i := 2) sc_law_begun.nd rfl (Or.inl rfl))) (fun _ _ _ _ _ => pts_one (pt_cmpR op_ne (pe_ix (ix_K (K := K) rfl) (pv 0) (pv 2) (fun _ _ => rfl)) (pe_ix (ix_K (K := K) rfl) (pv 1) (pv 2) (fun _ _ => rfl)) (nomark _))) (fun _ _ _ _ _ => (pv 2))) (pe_lst pa_nil) (nomark _)))))), ?_⟩
    walk_at "st"
    walk_at "wp"
    refine w_lenD (Same.refl H) (.inl hx) ?_
    walk_at "wp"
    refine w_lenD (Same.refl H) (.inl hy) ?_
    walk_at "wp"
    rw [List.length_map, List.length_map]
    refine w_if (fun c => ?_) (fun c => ?_)
    · walk_at "wp"
      have c' : ns.length ≤ ms.length := by omega
      refine w_compR (K := K) (I := H) (M := No) (m := (ns.length : Int)) (by omega) (by omega) (fun Q q => ?_)
        (CompOk.filt (fun k => !decide (ns.getD k 0 = ms.getD k 0)) (fun k => .int (k : Nat)) (Same.refl H) (fun b h => h.elim) (small1000 (by omega)) (fun k I5 H5 R hk f5 hR => ?_) (fun k I5 H5 R hk hT f5 hR => ?_) (fun I5 H5 E vs f5 e1 e2 e3 hv => ?_))
      · walk_at "wp"
        refine w_lenD (Same.refl H) (.inl hx) ?_
        rw [List.length_map]
        walk_at "wp"
        exact q
      · simp only [List.set_cons_zero, List.set_cons_succ]
        walk_at "wp"
        have hk1 : k < ns.length := by omega
        have hk2 : k < ms.length := by omega
        refine w_ixD f5.same (.inl hx) (by omega) (d := .int ns[k]) (by simp [hk1]) fun v1 h1 => ?_
        obtain rfl := Dp.ofInt h1
        walk_at "wp"
        refine w_ixD f5.same (.inl hy) (by omega) (d := .int ms[k]) (by simp [hk2]) fun v2 h2 => ?_
        obtain rfl := Dp.ofInt h2
        walk_at "wp"
        exact hR _ I5 H5 (by simp [hk1, hk2]) (Lf.refl f5.sub)
      · simp only [List.set_cons_zero, List.set_cons_succ]
        walk_at "wp"
        exact hR _ I5 H5 (Lf.refl f5.sub) (.int _)
      · walk_at "wp"
        refine ⟨by show 0 ≤ sizeLine; decide, fun r hr0 => ?_⟩
        have s5 := f5.same
        have hv' : DpAll K (upd H5 r (.lst [])) vs (((missI ns ms).map fun (k : Nat) => (k : Int)).map PyData.int) := by
          rw [List.map_map]
          exact DpAll.up hv (f5.sub.trans (same_new hr0))
        refine w_eqD (d := .list (((missI ns ms).map fun (k : Nat) => (k : Int)).map PyData.int)) (e := .list []) (.lst (ofL ?_) hv') (.lst (ofL upd_same) .nil) (shaped_intsL _) rfl ?_
        · rw [upd_ne (ne_of_none e3 hr0)]
          exact e3
        · refine q _ _ ?_ (s5.trans (same_new hr0))
          show PyData.eqvAll _ (([] : List Int).map PyData.int) = _
          rw [eqvAll_ints]
          unfold begs
          have z := missI_begs c'
          by_cases e : missI ns ms = []
          · rw [decide_eq_true (z.mp e), e]
            rfl
          · rw [decide_eq_false (fun y => e (z.mpr y)), decide_eq_false]
            simpa using e
    · walk_at "wp"
      refine q _ H ?_ (Same.refl H)
      unfold begs
      rw [decide_eq_false]
      intro e
      have := congrArg List.length e
      rw [List.length_take] at this
      omega
end
section
variable {P : Program} {w : World} {K : PySem.W.Frag} {mg : Str → Option Value} {base : Heap} {a : Adr}
/-- a wrong item behind good ones -/
theorem lf_bad {x : PyData} {r : List PyData} : ∀ (ns : List Int) (prev : Option Int) (i : Nat), ns.Pairwise (· < ·) → (∀ n ∈ ns, 0 ≤ n ∧ n ≤ 23 ∧ ∀ p, prev = some p → p < n) →
    (∀ m, x = .int m → ¬ (0 ≤ m ∧ m ≤ 23) ∨ (∃ p ∈ ns, m ≤ p) ∨ ∃ p, prev = some p ∧ m ≤ p) → lf prev (ns.map .int ++ x :: r) i = some (i + ns.length)
  | [], prev, i, _, _, hx => by
    show lf prev (x :: r) i = some i
    by_cases h : ∃ m, x = .int m
    · obtain ⟨m, rfl⟩ := h
      rw [lf_int, if_neg]
      intro c
      rcases hx m rfl with h | ⟨p, h, _⟩ | ⟨p, h, h2⟩
      · exact h ⟨c.1, c.2.1⟩
      · cases h
      · have := c.2.2 p h
        omega
    · exact lf_odd fun n e => h ⟨n, e⟩
  | n :: ns, prev, i, hp, hin, hx => by
    show lf prev (.int n :: (ns.map .int ++ x :: r)) i = _
    have hp' := List.pairwise_cons.mp hp
    rw [lf_int, if_pos (hin n (by simp)), lf_bad ns (some n) (i + 1) hp'.2 (fun m hm => ⟨(hin m (by simp [hm])).1, (hin m (by simp [hm])).2.1, fun p e => by cases e; exact hp'.1 m hm⟩) (fun m e => ?_)]
    · rw [List.length_cons]
      congr 1
      omega
    · rcases hx m e with h | ⟨p, h, h2⟩ | ⟨p, h, h2⟩
      · exact .inl h
      · rcases List.mem_cons.mp h with rfl | h
        · exact .inr (.inr ⟨p, rfl, h2⟩)
        · exact .inr (.inl ⟨p, h, h2⟩)
      · have := (hin n (by simp)).2.2 p h
        exact .inr (.inr ⟨n, rfl, by omega⟩)
theorem lfD_bad {x : PyData} {r : List PyData} {ns : List Int} (hp : ns.Pairwise (· < ·)) (hin : ∀ n ∈ ns, 0 ≤ n ∧ n ≤ 23)
    (hx : ∀ m, x = .int m → ¬ (0 ≤ m ∧ m ≤ 23) ∨ ∃ p ∈ ns, m ≤ p) : lfD (.tuple (ns.map .int ++ x :: r)) = .int (ns.length : Nat) := by
  have e : lfD (.tuple (ns.map .int ++ x :: r)) = match lf none (ns.map .int ++ x :: r) 0 with
    | none => .non
    | some i => .int (i : Nat) := rfl
  rw [e, lf_bad ns none 0 hp (fun n hn => ⟨(hin n hn).1, (hin n hn).2, fun p e => by cases e⟩) (fun m e => (hx m e).elim .inl fun h => .inr (.inl h))]
  rw [Nat.zero_add]
theorem rfD_bad {al ks : List Int} {x : PyData} {r : List PyData} (hd : ks.Nodup) (hin : ∀ k ∈ ks, k ∈ al) (hx : ∀ m, x = .int m → m ∉ al ∨ m ∈ ks) :
    rfD al (.tuple (ks.map .int ++ x :: r)) = .int (ks.length : Nat) := by
  have e : rfD al (.tuple (ks.map .int ++ x :: r)) = match rf al [] (ks.map .int ++ x :: r) 0 with
    | none => .non
    | some i => .int (i : Nat) := rfl
  rw [e, rf_ok ks [] 0 (by simpa using hd) hin, Nat.zero_add, List.nil_append]
  by_cases h : ∃ m, x = .int m
  · obtain ⟨m, rfl⟩ := h
    rw [rf_int, if_neg]
    intro c
    rcases hx m rfl with h | h
    · exact h c.1
    · exact c.2 h
  · rw [rf_odd fun n e => h ⟨n, e⟩]
def spBadFrames (K : PySem.W.Frag) : Sp := fun vs H Q _ => ∃ (I : Hp) (hd : Addr) (v : V) (ns : List Int), vs = [.ref hd, v] ∧ Hand K I H hd ∧ Dp K I v (tupI ns) ∧ ns.Pairwise (· < ·) ∧ (∀ n ∈ ns, 0 ≤ n ∧ n ≤ 23) ∧ ns.length ≤ 24 ∧
  ∀ (I' H' : Hp) (r : V) (d : PyData) (n : Int), Lf (· = hd) I H I' H' → Hand K I' H' hd → Dp K I' r (.tuple [d, .int n]) → lfD d = .int n → Q r H'
theorem ok_law_bad_frames (T : Top K mg a) : FnOk P w K mg base CX0 3 a.f_law_bad_frames a.d_law_bad_frames ["_law_hand_here", "_law_frames"] (spBadFrames K) := by
  refine T.F_law_bad_frames.ok sc_law_bad_frames (fun vs H Q E h => ?_) (fun cdv A outer s H vs Q E hr h => ?_)
  · obtain ⟨I, hd, v, ns, rfl, _⟩ := h
    rfl
  · obtain ⟨I, hd, x, ns, rfl, hh, hx, hpw, hin, hl, q⟩ := h
    refine ⟨_, (pss_cons (ps_set (i := 2) sc_law_bad_frames.nd rfl (Or.inl rfl) (pe_call (ok_law_draw T) (hr.mono (by decide)) (by rfl) T.g_law_draw T.F_law_draw.kp T.b_law_draw .nil pass0 (pa_cons (pv 0) (pa_cons pe_int pa_nil)))) (pss_cons (ps_set (i := 3) sc_law_bad_frames.nd rfl (Or.inl rfl) (pe_call (ok_law_draw T) (hr.mono (by decide)) (by rfl) T.g_law_draw T.F_law_draw.kp T.b_law_draw .nil pass0 (pa_cons (pv 0) (pa_cons (pe_op op_add (pe_callB (call_lenK (K := K) rfl) (by rfl) T.n_len (by decide +kernel) (pa_cons (pv 1) pa_nil)) pe_int) pa_nil)))) (pss_cons (ps_if (pt_cmpR op_eq (pv 2) pe_int (nomark _)) (pss_one (ps_ret (pe_tup (pa_cons (pe_ix (ix_K (K := K) rfl) (pe_lst (pa_cons pe_non (pa_cons pe_int (pa_cons pe_str (pa_cons pe_bl pa_nil))))) (pe_call (ok_law_draw T) (hr.mono (by decide)) (by rfl) T.g_law_draw T.F_law_draw.kp T.b_law_draw .nil pass0 (pa_cons (pv 0) (pa_cons pe_int pa_nil))) (fun _ _ => rfl)) (pa_cons (pe_un un_neg pe_int) pa_nil))))) pss_nil) (pss_cons (ps_if (PW.pt (pw_and (pt_cmpR op_lt (pv 2) pe_int (nomark _)) (pw_and1 (pt_cmpR op_gt (pv 3) pe_int (nomark _))))) (pss_one (ps_ret (pe_tup (pa_cons (pe_op (op_catK (K := K) rfl) (pe_op (op_catK (K := K) rfl) (pe_slice (sl_tupK (K := K) rfl) (pv 1) po_none (po_some (pv 3))) (pe_tup (pa_cons (pe_ix (ix_K (K := K) rfl) (pv 1) (pe_call (ok_law_draw T) (hr.mono (by decide)) (by rfl) T.g_law_draw T.F_law_draw.kp T.b_law_draw .nil pass0 (pa_cons (pv 0) (pa_cons (pv 3) pa_nil))) (fun _ _ => rfl)) pa_nil))) (pe_slice (sl_tupK (K := K) rfl) (pv 1) (po_some (pv 3)) po_none)) (pa_cons (pv 3) pa_nil))))) pss_nil) (pss_one (ps_ret (pe_tup (pa_cons (pe_op (op_catK (K := K) rfl) (pe_op (op_catK (K := K) rfl) (pe_slice (sl_tupK (K := K) rfl) (pv 1) po_none (po_some (pv 3))) (pe_tup (pa_cons (pe_ix (ix_K (K := K) rfl) (pe_lst (pa_cons pe_non (pa_cons (pe_un un_neg pe_int) (pa_cons pe_int (pa_cons pe_bl (pa_cons pe_str (pa_cons (pe_tup (pa_cons pe_int pa_nil)) (pa_cons pe_bl pa_nil)))))))) (pe_call (ok_law_draw T) (hr.mono (by decide)) (by rfl) T.g_law_draw T.F_law_draw.kp T.b_law_draw .nil pass0 (pa_cons (pv 0) (pa_cons pe_int pa_nil))) (fun _ _ => rfl)) pa_nil))) (pe_slice (sl_tupK (K := K) rfl) (pv 1) (po_some (pv 3)) po_none)) (pa_cons (pv 3) pa_nil))))))))), ?_⟩
    walk_at "st"
    walk_at "wp"
    refine ⟨I, hd, 8, rfl, hh, by omega, by omega, fun H1 way fa hha w0 w1 => ?_⟩
    walk_at "wp"
    refine w_lenD fa.sub (.inl hx) ?_
    rw [List.length_map]
    walk_at "wp"
    refine ⟨I, hd, (ns.length : Int) + 1, rfl, hha, by omega, by omega, fun H2 ati fb hhb t0 t1 => ?_⟩
    walk_at "wp"
    obtain ⟨j, rfl⟩ : ∃ j : Nat, ati = (j : Int) := ⟨ati.toNat, by omega⟩
    have hj : j ≤ ns.length := by omega
    have lj : (ns.take j).length = j := by rw [List.length_take]; omega
    have hpw' : (ns.take j).Pairwise (· < ·) := hpw.sublist (List.take_sublist _ _)
    have hin' : ∀ n ∈ ns.take j, 0 ≤ n ∧ n ≤ 23 := fun n h => hin n (List.mem_of_mem_take h)
    have fab := fa.trans fb
    refine w_if (fun c => ?_) (fun c => ?_)
    · walk_at "wp"
      refine w_newL (K := K) fab.sub (.cons .non (.cons (.int _) (.cons (.str _) (.cons (.bl _) .nil)))) (by show 4 ≤ sizeLine; decide) fun I3 p3 f3 d3 => ?_
      have hh3 := hhb.to f3 (fun h => h)
      walk_at "wp"
      refine ⟨I3, hd, 4, rfl, hh3, by omega, by omega, fun H4 r f4 hh4 r0 r1 => ?_⟩
      walk_at "wp"
      obtain ⟨k, rfl⟩ : ∃ k : Nat, r = (k : Int) := ⟨r.toNat, by omega⟩
      have hk : k < 4 := by omega
      refine w_ixD f4.sub (.inr d3) r0 (List.getElem?_eq_getElem (by simpa using hk)) fun v hv => ?_
      walk_at "wp"
      refine w_newT (K := K) f4.sub (.cons hv (.cons (.int _) .nil)) (by show 2 ≤ sizeLine; decide) fun I5 p5 f5 d5 => ?_
      refine q I5 _ _ _ (-1) (((fab.trans f3.any).trans f4).trans f5.any) (hh4.to f5 (fun h => h)) d5 ?_
      rcases k with _|_|_|_|k
      · rfl
      · rfl
      · rfl
      · rfl
      · omega
    · walk_at "wp"
      refine w_if (fun c2 => ?_) (fun c2 => ?_)
      · walk_at "wp"
        refine w_if (fun c3 => ?_) (fun c3 => ?_)
        · walk_at "wp"
          refine w_takeT (K := K) fab.sub hx (by omega) fun I2 H2' v2 f2 d2 => ?_
          walk_at "wp"
          refine ⟨I2, hd, (j : Int), rfl, hhb.to f2 (fun h => h), by omega, by omega, fun H3 r fr hh3 r0 r1 => ?_⟩
          have F3 := (fab.trans f2.any).trans fr
          walk_at "wp"
          obtain ⟨k, rfl⟩ : ∃ k : Nat, r = (k : Int) := ⟨r.toNat, by omega⟩
          have hk : k < j := by omega
          have hk2 : k < ns.length := by omega
          refine w_ixD F3.sub (.inl (Dp.up hx F3.ext)) (by omega) (d := .int ns[k]) (by simp [hk2]) fun vy hy => ?_
          have hmem : ns[k] ∈ ns.take j := by
            have z : (ns.take j)[k]? = some ns[k] := by rw [List.getElem?_take, if_pos hk, List.getElem?_eq_getElem hk2]
            exact List.mem_of_getElem? z
          walk_at "wp"
          refine w_newT (K := K) F3.sub (.cons hy .nil) (by show 1 ≤ sizeLine; decide) fun I4 p4 f4 d4 => ?_
          walk_at "wp"
          refine w_catT (K := K) f4.sub (Dp.up d2 f4.ext) d4 ?_ fun I5 H5 v5 f5 d5 => ?_
          · rw [List.length_take, List.length_map, List.length_singleton]
            exact Nat.le_of_lt (small1000 (by omega))
          have G5 := f4.trans f5
          walk_at "wp"
          refine w_dropT (K := K) f5.sub (Dp.up hx (F3.ext.trans G5.ext)) (by omega) fun I6 H6 v6 f6 d6 => ?_
          have G6 := G5.trans f6
          walk_at "wp"
          refine w_catT (K := K) f6.sub (Dp.up d5 f6.ext) d6 ?_ fun I7 H7 v7 f7 d7 => ?_
          · rw [List.length_append, List.length_take, List.length_drop, List.length_map, List.length_singleton]
            exact Nat.le_of_lt (small1000 (by omega))
          have G7 := G6.trans f7
          walk_at "wp"
          refine w_newT (K := K) f7.sub (.cons d7 (.cons (.int _) .nil)) (by show 2 ≤ sizeLine; decide) fun I8 p8 f8 d8 => ?_
          have G8 := G7.trans f8
          refine q _ _ _ _ _ (F3.trans G8.any) (hh3.to G8 (fun h => h)) d8 ?_
          rw [List.append_assoc, List.singleton_append, Int.toNat_natCast, List.map_take.symm]
          have lj2 : (j : Int) = (((ns.take j).length : Nat) : Int) := by rw [lj]
          rw [lj2]
          exact lfD_bad hpw' hin' fun m e => .inr ⟨m, by cases e; exact hmem, Int.le_refl _⟩
        · walk_at "wp"
          refine w_takeT (K := K) fab.sub hx (by omega) fun I2 H2' v2 f2 d2 => ?_
          walk_at "wp"
          refine w_newT (K := K) f2.sub (.cons (.int _) .nil) (by show 1 ≤ sizeLine; decide) fun Ia pa ga da => ?_
          walk_at "wp"
          refine w_newL (K := K) ga.sub (.cons .non (.cons (.int _) (.cons (.int _) (.cons (.bl _) (.cons (.str _) (.cons da (.cons (.bl _) .nil))))))) (by show 7 ≤ sizeLine; decide) fun Ib pb gb db => ?_
          have gab := ga.trans gb
          have F2 := fab.trans (f2.trans gab).any
          walk_at "wp"
          refine ⟨Ib, hd, 7, rfl, (hhb.to f2 (fun h => h)).to gab (fun h => h), by omega, by omega, fun H3 r fr hh3 r0 r1 => ?_⟩
          have F3 := F2.trans fr
          walk_at "wp"
          obtain ⟨k, rfl⟩ : ∃ k : Nat, r = (k : Int) := ⟨r.toNat, by omega⟩
          have hk : k < 7 := by omega
          refine w_ixD fr.sub (.inr db) (by omega) (List.getElem?_eq_getElem (by simpa using hk)) fun vy hy => ?_
          replace d2 := Dp.up d2 (gab.ext.trans fr.ext)
          walk_at "wp"
          refine w_newT (K := K) F3.sub (.cons hy .nil) (by show 1 ≤ sizeLine; decide) fun I4 p4 f4 d4 => ?_
          walk_at "wp"
          refine w_catT (K := K) f4.sub (Dp.up d2 f4.ext) d4 ?_ fun I5 H5 v5 f5 d5 => ?_
          · rw [List.length_take, List.length_map, List.length_singleton]
            exact Nat.le_of_lt (small1000 (by omega))
          have G5 := f4.trans f5
          walk_at "wp"
          refine w_dropT (K := K) f5.sub (Dp.up hx (F3.ext.trans G5.ext)) (by omega) fun I6 H6 v6 f6 d6 => ?_
          have G6 := G5.trans f6
          walk_at "wp"
          refine w_catT (K := K) f6.sub (Dp.up d5 f6.ext) d6 ?_ fun I7 H7 v7 f7 d7 => ?_
          · rw [List.length_append, List.length_take, List.length_drop, List.length_map, List.length_singleton]
            exact Nat.le_of_lt (small1000 (by omega))
          have G7 := G6.trans f7
          walk_at "wp"
          refine w_newT (K := K) f7.sub (.cons d7 (.cons (.int _) .nil)) (by show 2 ≤ sizeLine; decide) fun I8 p8 f8 d8 => ?_
          have G8 := G7.trans f8
          refine q _ _ _ _ _ (F3.trans G8.any) (hh3.to G8 (fun h => h)) d8 ?_
          rw [List.append_assoc, List.singleton_append, Int.toNat_natCast, List.map_take.symm]
          have lj2 : (j : Int) = (((ns.take j).length : Nat) : Int) := by rw [lj]
          rw [lj2]
          refine lfD_bad hpw' hin' fun m e => .inl ?_
          rcases k with _|_|_|_|_|_|_|k
          · cases e
          · cases e; omega
          · cases e; omega
          · cases e
          · cases e
          · cases e
          · cases e
          · omega
      · walk_at "wp"
        refine w_takeT (K := K) fab.sub hx (by omega) fun I2 H2' v2 f2 d2 => ?_
        walk_at "wp"
        refine w_newT (K := K) f2.sub (.cons (.int _) .nil) (by show 1 ≤ sizeLine; decide) fun Ia pa ga da => ?_
        walk_at "wp"
        refine w_newL (K := K) ga.sub (.cons .non (.cons (.int _) (.cons (.int _) (.cons (.bl _) (.cons (.str _) (.cons da (.cons (.bl _) .nil))))))) (by show 7 ≤ sizeLine; decide) fun Ib pb gb db => ?_
        have gab := ga.trans gb
        have F2 := fab.trans (f2.trans gab).any
        walk_at "wp"
        refine ⟨Ib, hd, 7, rfl, (hhb.to f2 (fun h => h)).to gab (fun h => h), by omega, by omega, fun H3 r fr hh3 r0 r1 => ?_⟩
        have F3 := F2.trans fr
        walk_at "wp"
        obtain ⟨k, rfl⟩ : ∃ k : Nat, r = (k : Int) := ⟨r.toNat, by omega⟩
        have hk : k < 7 := by omega
        refine w_ixD fr.sub (.inr db) (by omega) (List.getElem?_eq_getElem (by simpa using hk)) fun vy hy => ?_
        replace d2 := Dp.up d2 (gab.ext.trans fr.ext)
        walk_at "wp"
        refine w_newT (K := K) F3.sub (.cons hy .nil) (by show 1 ≤ sizeLine; decide) fun I4 p4 f4 d4 => ?_
        walk_at "wp"
        refine w_catT (K := K) f4.sub (Dp.up d2 f4.ext) d4 ?_ fun I5 H5 v5 f5 d5 => ?_
        · rw [List.length_take, List.length_map, List.length_singleton]
          exact Nat.le_of_lt (small1000 (by omega))
        have G5 := f4.trans f5
        walk_at "wp"
        refine w_dropT (K := K) f5.sub (Dp.up hx (F3.ext.trans G5.ext)) (by omega) fun I6 H6 v6 f6 d6 => ?_
        have G6 := G5.trans f6
        walk_at "wp"
        refine w_catT (K := K) f6.sub (Dp.up d5 f6.ext) d6 ?_ fun I7 H7 v7 f7 d7 => ?_
        · rw [List.length_append, List.length_take, List.length_drop, List.length_map, List.length_singleton]
          exact Nat.le_of_lt (small1000 (by omega))
        have G7 := G6.trans f7
        walk_at "wp"
        refine w_newT (K := K) f7.sub (.cons d7 (.cons (.int _) .nil)) (by show 2 ≤ sizeLine; decide) fun I8 p8 f8 d8 => ?_
        have G8 := G7.trans f8
        refine q _ _ _ _ _ (F3.trans G8.any) (hh3.to G8 (fun h => h)) d8 ?_
        rw [List.append_assoc, List.singleton_append, Int.toNat_natCast, List.map_take.symm]
        have lj2 : (j : Int) = (((ns.take j).length : Nat) : Int) := by rw [lj]
        rw [lj2]
        refine lfD_bad hpw' hin' fun m e => .inl ?_
        rcases k with _|_|_|_|_|_|_|k
        · cases e
        · cases e; omega
        · cases e; omega
        · cases e
        · cases e
        · cases e
        · cases e
        · omega
def spBadRow (K : PySem.W.Frag) : Sp := fun vs H Q _ => ∃ (I : Hp) (hd : Addr) (v : V) (s : Int) (ns al : List Int), vs = [.ref hd, v, .int s] ∧ Hand K I H hd ∧ Dp K I v (tupI ns) ∧ ns.Nodup ∧ (∀ n ∈ ns, n ∈ al) ∧ s ∉ al ∧ ns.length ≤ 24 ∧
  ∀ (I' H' : Hp) (r : V) (d : PyData) (n : Int), Lf (· = hd) I H I' H' → Hand K I' H' hd → Dp K I' r (.tuple [d, .int n]) → rfD al d = .int n → Q r H'
theorem ok_law_bad_row (T : Top K mg a) : FnOk P w K mg base CX0 3 a.f_law_bad_row a.d_law_bad_row ["_law_hand_here", "_law_row", "_law_strange"] (spBadRow K) := by
  refine T.F_law_bad_row.ok sc_law_bad_row (fun vs H Q E h => ?_) (fun cdv A outer s H vs Q E hr h => ?_)
  · obtain ⟨I, hd, v, s, ns, al, rfl, _⟩ := h
    rfl
  · obtain ⟨I, hd, x, s, ns, al, rfl, hh, hx, hpw, hin, hs, hl, q⟩ := h
    refine ⟨_, (pss_cons (ps_set (i := 3) sc_law_bad_row.nd rfl (Or.inl rfl) (pe_call (ok_law_draw T) (hr.mono (by decide)) (by rfl) T.g_law_draw T.F_law_draw.kp T.b_law_draw .nil pass0 (pa_cons (pv 0) (pa_cons pe_int pa_nil)))) (pss_cons (ps_set (i := 4) sc_law_bad_row.nd rfl (Or.inl rfl) (pe_call (ok_law_draw T) (hr.mono (by decide)) (by rfl) T.g_law_draw T.F_law_draw.kp T.b_law_draw .nil pass0 (pa_cons (pv 0) (pa_cons (pe_op op_add (pe_callB (call_lenK (K := K) rfl) (by rfl) T.n_len (by decide +kernel) (pa_cons (pv 1) pa_nil)) pe_int) pa_nil)))) (pss_cons (ps_if (pt_cmpR op_eq (pv 3) pe_int (nomark _)) (pss_one (ps_ret (pe_tup (pa_cons (pe_ix (ix_K (K := K) rfl) (pe_lst (pa_cons pe_non (pa_cons pe_int (pa_cons pe_str (pa_cons pe_bl pa_nil))))) (pe_call (ok_law_draw T) (hr.mono (by decide)) (by rfl) T.g_law_draw T.F_law_draw.kp T.b_law_draw .nil pass0 (pa_cons (pv 0) (pa_cons pe_int pa_nil))) (fun _ _ => rfl)) (pa_cons (pe_un un_neg pe_int) pa_nil))))) pss_nil) (pss_cons (ps_if (PW.pt (pw_and (pt_cmpR op_lt (pv 3) pe_int (nomark _)) (pw_and1 (pt_cmpR op_gt (pv 4) pe_int (nomark _))))) (pss_one (ps_ret (pe_tup (pa_cons (pe_op (op_catK (K := K) rfl) (pe_op (op_catK (K := K) rfl) (pe_slice (sl_tupK (K := K) rfl) (pv 1) po_none (po_some (pv 4))) (pe_tup (pa_cons (pe_ix (ix_K (K := K) rfl) (pv 1) (pe_call (ok_law_draw T) (hr.mono (by decide)) (by rfl) T.g_law_draw T.F_law_draw.kp T.b_law_draw .nil pass0 (pa_cons (pv 0) (pa_cons (pv 4) pa_nil))) (fun _ _ => rfl)) pa_nil))) (pe_slice (sl_tupK (K := K) rfl) (pv 1) (po_some (pv 4)) po_none)) (pa_cons (pv 4) pa_nil))))) pss_nil) (pss_one (ps_ret (pe_tup (pa_cons (pe_op (op_catK (K := K) rfl) (pe_op (op_catK (K := K) rfl) (pe_slice (sl_tupK (K := K) rfl) (pv 1) po_none (po_some (pv 4))) (pe_tup (pa_cons (pe_ix (ix_K (K := K) rfl) (pe_lst (pa_cons (pv 2) (pa_cons (pv 2) (pa_cons pe_non (pa_cons pe_bl (pa_cons pe_str (pa_cons (pe_tup (pa_cons pe_int pa_nil)) (pa_cons pe_bl pa_nil)))))))) (pe_call (ok_law_draw T) (hr.mono (by decide)) (by rfl) T.g_law_draw T.F_law_draw.kp T.b_law_draw .nil pass0 (pa_cons (pv 0) (pa_cons pe_int pa_nil))) (fun _ _ => rfl)) pa_nil))) (pe_slice (sl_tupK (K := K) rfl) (pv 1) (po_some (pv 4)) po_none)) (pa_cons (pv 4) pa_nil))))))))), ?_⟩
    walk_at "st"
    walk_at "wp"
    refine ⟨I, hd, 8, rfl, hh, by omega, by omega, fun H1 way fa hha w0 w1 => ?_⟩
    walk_at "wp"
    refine w_lenD fa.sub (.inl hx) ?_
    rw [List.length_map]
    walk_at "wp"
    refine ⟨I, hd, (ns.length : Int) + 1, rfl, hha, by omega, by omega, fun H2 ati fb hhb t0 t1 => ?_⟩
    walk_at "wp"
    obtain ⟨j, rfl⟩ : ∃ j : Nat, ati = (j : Int) := ⟨ati.toNat, by omega⟩
    have hj : j ≤ ns.length := by omega
    have lj : (ns.take j).length = j := by rw [List.length_take]; omega
    have hpw' : (ns.take j).Nodup := hpw.sublist (List.take_sublist _ _)
    have hin' : ∀ n ∈ ns.take j, n ∈ al := fun n h => hin n (List.mem_of_mem_take h)
    have fab := fa.trans fb
    refine w_if (fun c => ?_) (fun c => ?_)
    · walk_at "wp"
      refine w_newL (K := K) fab.sub (.cons .non (.cons (.int _) (.cons (.str _) (.cons (.bl _) .nil)))) (by show 4 ≤ sizeLine; decide) fun I3 p3 f3 d3 => ?_
      have hh3 := hhb.to f3 (fun h => h)
      walk_at "wp"
      refine ⟨I3, hd, 4, rfl, hh3, by omega, by omega, fun H4 r f4 hh4 r0 r1 => ?_⟩
      walk_at "wp"
      obtain ⟨k, rfl⟩ : ∃ k : Nat, r = (k : Int) := ⟨r.toNat, by omega⟩
      have hk : k < 4 := by omega
      refine w_ixD f4.sub (.inr d3) r0 (List.getElem?_eq_getElem (by simpa using hk)) fun v hv => ?_
      walk_at "wp"
      refine w_newT (K := K) f4.sub (.cons hv (.cons (.int _) .nil)) (by show 2 ≤ sizeLine; decide) fun I5 p5 f5 d5 => ?_
      refine q I5 _ _ _ (-1) (((fab.trans f3.any).trans f4).trans f5.any) (hh4.to f5 (fun h => h)) d5 ?_
      rcases k with _|_|_|_|k
      · rfl
      · rfl
      · rfl
      · rfl
      · omega
    · walk_at "wp"
      refine w_if (fun c2 => ?_) (fun c2 => ?_)
      · walk_at "wp"
        refine w_if (fun c3 => ?_) (fun c3 => ?_)
        · walk_at "wp"
          refine w_takeT (K := K) fab.sub hx (by omega) fun I2 H2' v2 f2 d2 => ?_
          walk_at "wp"
          refine ⟨I2, hd, (j : Int), rfl, hhb.to f2 (fun h => h), by omega, by omega, fun H3 r fr hh3 r0 r1 => ?_⟩
          have F3 := (fab.trans f2.any).trans fr
          walk_at "wp"
          obtain ⟨k, rfl⟩ : ∃ k : Nat, r = (k : Int) := ⟨r.toNat, by omega⟩
          have hk : k < j := by omega
          have hk2 : k < ns.length := by omega
          refine w_ixD F3.sub (.inl (Dp.up hx F3.ext)) (by omega) (d := .int ns[k]) (by simp [hk2]) fun vy hy => ?_
          have hmem : ns[k] ∈ ns.take j := by
            have z : (ns.take j)[k]? = some ns[k] := by rw [List.getElem?_take, if_pos hk, List.getElem?_eq_getElem hk2]
            exact List.mem_of_getElem? z
          walk_at "wp"
          refine w_newT (K := K) F3.sub (.cons hy .nil) (by show 1 ≤ sizeLine; decide) fun I4 p4 f4 d4 => ?_
          walk_at "wp"
          refine w_catT (K := K) f4.sub (Dp.up d2 f4.ext) d4 ?_ fun I5 H5 v5 f5 d5 => ?_
          · rw [List.length_take, List.length_map, List.length_singleton]
            exact Nat.le_of_lt (small1000 (by omega))
          have G5 := f4.trans f5
          walk_at "wp"
          refine w_dropT (K := K) f5.sub (Dp.up hx (F3.ext.trans G5.ext)) (by omega) fun I6 H6 v6 f6 d6 => ?_
          have G6 := G5.trans f6
          walk_at "wp"
          refine w_catT (K := K) f6.sub (Dp.up d5 f6.ext) d6 ?_ fun I7 H7 v7 f7 d7 => ?_
          · rw [List.length_append, List.length_take, List.length_drop, List.length_map, List.length_singleton]
            exact Nat.le_of_lt (small1000 (by omega))
          have G7 := G6.trans f7
          walk_at "wp"
          refine w_newT (K := K) f7.sub (.cons d7 (.cons (.int _) .nil)) (by show 2 ≤ sizeLine; decide) fun I8 p8 f8 d8 => ?_
          have G8 := G7.trans f8
          refine q _ _ _ _ _ (F3.trans G8.any) (hh3.to G8 (fun h => h)) d8 ?_
          rw [List.append_assoc, List.singleton_append, Int.toNat_natCast, List.map_take.symm]
          have lj2 : (j : Int) = (((ns.take j).length : Nat) : Int) := by rw [lj]
          rw [lj2]
          exact rfD_bad hpw' hin' fun m e => .inr (by cases e; exact hmem)
        · walk_at "wp"
          refine w_takeT (K := K) fab.sub hx (by omega) fun I2 H2' v2 f2 d2 => ?_
          walk_at "wp"
          refine w_newT (K := K) f2.sub (.cons (.int _) .nil) (by show 1 ≤ sizeLine; decide) fun Ia pa ga da => ?_
          walk_at "wp"
          refine w_newL (K := K) ga.sub (.cons (.int _) (.cons (.int _) (.cons .non (.cons (.bl _) (.cons (.str _) (.cons da (.cons (.bl _) .nil))))))) (by show 7 ≤ sizeLine; decide) fun Ib pb gb db => ?_
          have gab := ga.trans gb
          have F2 := fab.trans (f2.trans gab).any
          walk_at "wp"
          refine ⟨Ib, hd, 7, rfl, (hhb.to f2 (fun h => h)).to gab (fun h => h), by omega, by omega, fun H3 r fr hh3 r0 r1 => ?_⟩
          have F3 := F2.trans fr
          walk_at "wp"
          obtain ⟨k, rfl⟩ : ∃ k : Nat, r = (k : Int) := ⟨r.toNat, by omega⟩
          have hk : k < 7 := by omega
          refine w_ixD fr.sub (.inr db) (by omega) (List.getElem?_eq_getElem (by simpa using hk)) fun vy hy => ?_
          replace d2 := Dp.up d2 (gab.ext.trans fr.ext)
          walk_at "wp"
          refine w_newT (K := K) F3.sub (.cons hy .nil) (by show 1 ≤ sizeLine; decide) fun I4 p4 f4 d4 => ?_
          walk_at "wp"
          refine w_catT (K := K) f4.sub (Dp.up d2 f4.ext) d4 ?_ fun I5 H5 v5 f5 d5 => ?_
          · rw [List.length_take, List.length_map, List.length_singleton]
            exact Nat.le_of_lt (small1000 (by omega))
          have G5 := f4.trans f5
          walk_at "wp"
          refine w_dropT (K := K) f5.sub (Dp.up hx (F3.ext.trans G5.ext)) (by omega) fun I6 H6 v6 f6 d6 => ?_
          have G6 := G5.trans f6
          walk_at "wp"
          refine w_catT (K := K) f6.sub (Dp.up d5 f6.ext) d6 ?_ fun I7 H7 v7 f7 d7 => ?_
          · rw [List.length_append, List.length_take, List.length_drop, List.length_map, List.length_singleton]
            exact Nat.le_of_lt (small1000 (by omega))
          have G7 := G6.trans f7
          walk_at "wp"
          refine w_newT (K := K) f7.sub (.cons d7 (.cons (.int _) .nil)) (by show 2 ≤ sizeLine; decide) fun I8 p8 f8 d8 => ?_
          have G8 := G7.trans f8
          refine q _ _ _ _ _ (F3.trans G8.any) (hh3.to G8 (fun h => h)) d8 ?_
          rw [List.append_assoc, List.singleton_append, Int.toNat_natCast, List.map_take.symm]
          have lj2 : (j : Int) = (((ns.take j).length : Nat) : Int) := by rw [lj]
          rw [lj2]
          refine rfD_bad hpw' hin' fun m e => .inl ?_
          rcases k with _|_|_|_|_|_|_|k
          · cases e; exact hs
          · cases e; exact hs
          · cases e
          · cases e
          · cases e
          · cases e
          · cases e
          · omega
      · walk_at "wp"
        refine w_takeT (K := K) fab.sub hx (by omega) fun I2 H2' v2 f2 d2 => ?_
        walk_at "wp"
        refine w_newT (K := K) f2.sub (.cons (.int _) .nil) (by show 1 ≤ sizeLine; decide) fun Ia pa ga da => ?_
        walk_at "wp"
        refine w_newL (K := K) ga.sub (.cons (.int _) (.cons (.int _) (.cons .non (.cons (.bl _) (.cons (.str _) (.cons da (.cons (.bl _) .nil))))))) (by show 7 ≤ sizeLine; decide) fun Ib pb gb db => ?_
        have gab := ga.trans gb
        have F2 := fab.trans (f2.trans gab).any
        walk_at "wp"
        refine ⟨Ib, hd, 7, rfl, (hhb.to f2 (fun h => h)).to gab (fun h => h), by omega, by omega, fun H3 r fr hh3 r0 r1 => ?_⟩
        have F3 := F2.trans fr
        walk_at "wp"
        obtain ⟨k, rfl⟩ : ∃ k : Nat, r = (k : Int) := ⟨r.toNat, by omega⟩
        have hk : k < 7 := by omega
        refine w_ixD fr.sub (.inr db) (by omega) (List.getElem?_eq_getElem (by simpa using hk)) fun vy hy => ?_
        replace d2 := Dp.up d2 (gab.ext.trans fr.ext)
        walk_at "wp"
        refine w_newT (K := K) F3.sub (.cons hy .nil) (by show 1 ≤ sizeLine; decide) fun I4 p4 f4 d4 => ?_
        walk_at "wp"
        refine w_catT (K := K) f4.sub (Dp.up d2 f4.ext) d4 ?_ fun I5 H5 v5 f5 d5 => ?_
        · rw [List.length_take, List.length_map, List.length_singleton]
          exact Nat.le_of_lt (small1000 (by omega))
        have G5 := f4.trans f5
        walk_at "wp"
        refine w_dropT (K := K) f5.sub (Dp.up hx (F3.ext.trans G5.ext)) (by omega) fun I6 H6 v6 f6 d6 => ?_
        have G6 := G5.trans f6
        walk_at "wp"
        refine w_catT (K := K) f6.sub (Dp.up d5 f6.ext) d6 ?_ fun I7 H7 v7 f7 d7 => ?_
        · rw [List.length_append, List.length_take, List.length_drop, List.length_map, List.length_singleton]
          exact Nat.le_of_lt (small1000 (by omega))
        have G7 := G6.trans f7
        walk_at "wp"
        refine w_newT (K := K) f7.sub (.cons d7 (.cons (.int _) .nil)) (by show 2 ≤ sizeLine; decide) fun I8 p8 f8 d8 => ?_
        have G8 := G7.trans f8
        refine q _ _ _ _ _ (F3.trans G8.any) (hh3.to G8 (fun h => h)) d8 ?_
        rw [List.append_assoc, List.singleton_append, Int.toNat_natCast, List.map_take.symm]
        have lj2 : (j : Int) = (((ns.take j).length : Nat) : Int) := by rw [lj]
        rw [lj2]
        refine rfD_bad hpw' hin' fun m e => .inl ?_
        rcases k with _|_|_|_|_|_|_|k
        · cases e; exact hs
        · cases e; exact hs
        · cases e
        · cases e
        · cases e
        · cases e
        · cases e
        · omega
end
section
variable {P : Program} {w : World} {K : PySem.W.Frag} {mg : Str → Option Value} {base : Heap} {a : Adr}
def Ans (K : PySem.W.Frag) (I H : Hp) (Q : VK) (R : PyData) : Prop := ∀ I' H' r, Lf No I H I' H' → Dp K I' r R → Q r H'
def pairD (s : Str) (d : PyData) : PyData := .tuple [.str s, d]
def spAsked (K : PySem.W.Frag) : Sp := fun vs H Q _ => ∃ (I : Hp) (w : Int) (v r : V) (d e : PyData), vs = [.int w, v, r] ∧ Same I H ∧ Dp K I v d ∧ Dp K I r e ∧
  ((w = 0 ∧ (wholeB d (some 0) (some 24) = false → Ans K I H Q (pairD "count" (.int 24))) ∧
      (∀ m k : Int, d = .int m → 0 ≤ m → m ≤ 24 → rfD (rgI m) e = .int k → Ans K I H Q (pairD "row" (.int k))) ∧
      (∀ (m : Int) (ns : List Int), d = .int m → 0 ≤ m → m ≤ 24 → SeqD e ns → ns.Nodup → (∀ n ∈ ns, 0 ≤ n ∧ n < m) → Ans K I H Q (pairD "told" (tupI (restI m ns))))) ∨
   (w = 1 ∧ (∀ k : Int, lfD d = .int k → Ans K I H Q (pairD "frames" (.int k))) ∧
      (∀ (ns : List Int) (k : Int), lfD d = .non → SeqD d ns → ns.length ≤ 24 → rfD (rgI ns.length) e = .int k → Ans K I H Q (pairD "row" (.int k))) ∧
      (∀ ns ks : List Int, lfD d = .non → SeqD d ns → ns.length ≤ 24 → SeqD e ks → ks.Nodup → (∀ k ∈ ks, 0 ≤ k ∧ k < ns.length) → Ans K I H Q (pairD "told" (tupI (spellI ns ks))))) ∨
   (w = 2 ∧ (∀ k : Int, lfD d = .int k → Ans K I H Q (pairD "frames" (.int k))) ∧
      (lfD d = .non → ∀ ns, SeqD d ns → FrAt K I v d ns) ∧
      (∀ (ns : List Int) (k : Int), lfD d = .non → SeqD d ns → rfD ns e = .int k → Ans K I H Q (pairD "row" (.int k))) ∧
      (∀ ns ks : List Int, lfD d = .non → SeqD d ns → SeqD e ks → ks.Nodup → (∀ k ∈ ks, k ∈ ns) → Ans K I H Q (pairD "told" (tupI (countI ns ks))))))
theorem rfD_cases {al : List Int} {d : PyData} (h : rfD al d ≠ .non) : ∃ k : Int, rfD al d = .int k := by
  unfold rfD at h ⊢
  cases e : seqOf d with
  | none => exact ⟨-1, rfl⟩
  | some ds =>
    rw [e] at h
    cases e2 : rf al [] ds 0 with
    | none => exact absurd (by dsimp only; rw [e2]) h
    | some i => exact ⟨(i : Nat), by dsimp only; rw [e2]⟩
theorem lfD_cases {d : PyData} (h : lfD d ≠ .non) : ∃ k : Int, lfD d = .int k := by
  unfold lfD at h ⊢
  cases e : seqOf d with
  | none => exact ⟨-1, rfl⟩
  | some ds =>
    rw [e] at h
    cases e2 : lf none ds 0 with
    | none => exact absurd (by dsimp only; rw [e2]) h
    | some i => exact ⟨(i : Nat), by dsimp only; rw [e2]⟩
theorem ok_law_asked (T : Top K mg a) : FnOk P w K mg base CX0 6 a.f_law_asked a.d_law_asked ["_law_which", "_law_one", "_law_two"] (spAsked K) := by
  refine T.F_law_asked.ok sc_law_asked (fun vs H Q E h => ?_) (fun cdv A outer s H vs Q E hr h => ?_)
  · obtain ⟨I, w, v, r, d, e, rfl, _⟩ := h
    rfl
  · obtain ⟨I, w, v, r, d, e, rfl, sI, hd, he, q⟩ := h
    refine ⟨_, (pss_one (ps_try_mas rfl rfl sc_law_asked.nd takes0 (fun W pn xe tk po => (pss_cons (ps_if (pt_cmpR op_eq (pv 0) pe_int (nomark _)) (pss_one (ps_ret (pe_tup (pa_cons pe_str (pa_cons (pe_callS (ok_unspent_frames T) (hr.mono (by decide)) (by rfl) T.g_unspent_frames T.F_unspent_frames.kp T.b_unspent_frames (fun σ => passAt tk σ) (pa_cons (pv 1) (pa_cons (pv 2) pa_nil))) pa_nil))))) pss_nil) (pss_one (ps_ret (pe_tup (pa_cons pe_str (pa_cons (pe_ifExp (pt_cmpR op_eq (pv 0) pe_int (nomark _)) (pe_callS (ok_spell_row T) (hr.mono (by decide)) (by rfl) T.g_spell_row T.F_spell_row.kp T.b_spell_row (fun σ => passAt tk σ) (pa_cons (pv 1) (pa_cons (pv 2) pa_nil))) (pe_callS (ok_count_among T) (hr.mono (by decide)) (by rfl) T.g_count_among T.F_count_among.kp T.b_count_among (fun σ => passAt tk σ) (pa_cons (pv 1) (pa_cons (pv 2) pa_nil)))) pa_nil))))))) (HdsAs.cons (i := 3) rfl rfl ⟨by rfl, by decide, Or.inl T.gc_BadCount⟩ (fun aa oe cls d pn hz hf => (pss_one (ps_ret (pe_tup (pa_cons pe_str (pa_cons (pe_xf T.xf_BadCount T.no_BadCount_most hz hf (pv 3)) pa_nil)))))) (HdsAs.cons (i := 3) rfl rfl ⟨by rfl, by decide, Or.inl T.gc_BadFrames⟩ (fun aa oe cls d pn hz hf => (pss_one (ps_ret (pe_tup (pa_cons pe_str (pa_cons (pe_xf T.xf_BadFrames T.no_BadFrames_at hz hf (pv 3)) pa_nil)))))) (HdsAs.cons (i := 3) rfl rfl ⟨by rfl, by decide, Or.inl T.gc_BadRow⟩ (fun aa oe cls d pn hz hf => (pss_one (ps_ret (pe_tup (pa_cons pe_str (pa_cons (pe_xf T.xf_BadRow T.no_BadRow_at hz hf (pv 3)) pa_nil)))))) HdsAs.nil))))), ?_⟩
    walk_at "st"
    walk_at "wp"
    rcases q with ⟨rfl, q1, q2, q3⟩ | ⟨rfl, q1, q2, q3⟩ | ⟨rfl, q1, qz, q2, q3⟩
    · rw [show decide ((0 : Int) = 0) = true from rfl]
      walk_at "wp"
      refine ⟨I, v, r, d, e, rfl, sI, hd, he, fun hw H' x sx hx => ?_, fun m e1 m0 m1 hn H' x sx hx => ?_, fun m ns e1 m0 m1 e2 hnd hin I' H' r' f dr => ?_⟩
      · refine w_hit T.ex_BadCount_BadCount fun aa haa => ?_
        simp only [List.set_cons_zero, List.set_cons_succ]
        walk_at "wp"
        refine w_xf1 hx ?_ rfl
        walk_at "wp"
        have f1 := Lf.ofSame (M := No) sI sx
        refine w_newT (K := K) f1.sub (.cons (.str _) (.cons (.int _) .nil)) (by show 2 ≤ sizeLine; decide) fun I2 p2 f2 d2 => ?_
        exact q1 hw I2 _ _ (f1.trans f2) d2
      · obtain ⟨k, ek⟩ := rfD_cases hn
        rw [ek] at hx
        refine w_miss T.ex_BadRow_BadCount (w_miss T.ex_BadRow_BadFrames (w_hit T.ex_BadRow_BadRow fun aa haa => ?_))
        simp only [List.set_cons_zero, List.set_cons_succ]
        walk_at "wp"
        refine w_xf1 hx ?_ rfl
        walk_at "wp"
        have f1 := Lf.ofSame (M := No) sI sx
        refine w_newT (K := K) f1.sub (.cons (.str _) (.cons (.int _) .nil)) (by show 2 ≤ sizeLine; decide) fun I2 p2 f2 d2 => ?_
        exact q2 m k e1 m0 m1 ek I2 _ _ (f1.trans f2) d2
      · walk_at "wp"
        refine w_newT (K := K) f.sub (.cons (.str _) (.cons dr .nil)) (by show 2 ≤ sizeLine; decide) fun I2 p2 f2 d2 => ?_
        exact q3 m ns e1 m0 m1 (e2.elim .inl .inr) hnd hin I2 _ _ (f.trans f2) d2
    · rw [show decide ((1 : Int) = 0) = false from rfl]
      walk_at "wp"
      rw [show decide ((1 : Int) = 1) = true from rfl]
      walk_at "wp"
      refine ⟨I, v, r, d, e, rfl, sI, hd, he, fun hn H' x sx hx => ?_, fun ns h0 hs hl hn H' x sx hx => ?_, fun ns ks h0 hs hl hk hnd hin I' H' r' f dr => ?_⟩
      · obtain ⟨k, ek⟩ := lfD_cases hn
        rw [ek] at hx
        refine w_miss T.ex_BadFrames_BadCount (w_hit T.ex_BadFrames_BadFrames fun aa haa => ?_)
        simp only [List.set_cons_zero, List.set_cons_succ]
        walk_at "wp"
        refine w_xf1 hx ?_ rfl
        walk_at "wp"
        have f1 := Lf.ofSame (M := No) sI sx
        refine w_newT (K := K) f1.sub (.cons (.str _) (.cons (.int _) .nil)) (by show 2 ≤ sizeLine; decide) fun I2 p2 f2 d2 => ?_
        exact q1 k ek I2 _ _ (f1.trans f2) d2
      · obtain ⟨k, ek⟩ := rfD_cases hn
        rw [ek] at hx
        refine w_miss T.ex_BadRow_BadCount (w_miss T.ex_BadRow_BadFrames (w_hit T.ex_BadRow_BadRow fun aa haa => ?_))
        simp only [List.set_cons_zero, List.set_cons_succ]
        walk_at "wp"
        refine w_xf1 hx ?_ rfl
        walk_at "wp"
        have f1 := Lf.ofSame (M := No) sI sx
        refine w_newT (K := K) f1.sub (.cons (.str _) (.cons (.int _) .nil)) (by show 2 ≤ sizeLine; decide) fun I2 p2 f2 d2 => ?_
        exact q2 ns k h0 hs hl ek I2 _ _ (f1.trans f2) d2
      · walk_at "wp"
        refine w_newT (K := K) f.sub (.cons (.str _) (.cons dr .nil)) (by show 2 ≤ sizeLine; decide) fun I2 p2 f2 d2 => ?_
        exact q3 ns ks h0 hs hl hk hnd hin I2 _ _ (f.trans f2) d2
    · rw [show decide ((2 : Int) = 0) = false from rfl]
      walk_at "wp"
      rw [show decide ((2 : Int) = 1) = false from rfl]
      walk_at "wp"
      refine ⟨I, v, r, d, e, rfl, sI, hd, he, fun hn H' x sx hx => ?_, qz, fun ns h0 hs hn H' x sx hx => ?_, fun ns ks h0 hs hk hnd hin I' H' r' f dr => ?_⟩
      · obtain ⟨k, ek⟩ := lfD_cases hn
        rw [ek] at hx
        refine w_miss T.ex_BadFrames_BadCount (w_hit T.ex_BadFrames_BadFrames fun aa haa => ?_)
        simp only [List.set_cons_zero, List.set_cons_succ]
        walk_at "wp"
        refine w_xf1 hx ?_ rfl
        walk_at "wp"
        have f1 := Lf.ofSame (M := No) sI sx
        refine w_newT (K := K) f1.sub (.cons (.str _) (.cons (.int _) .nil)) (by show 2 ≤ sizeLine; decide) fun I2 p2 f2 d2 => ?_
        exact q1 k ek I2 _ _ (f1.trans f2) d2
      · obtain ⟨k, ek⟩ := rfD_cases hn
        rw [ek] at hx
        refine w_miss T.ex_BadRow_BadCount (w_miss T.ex_BadRow_BadFrames (w_hit T.ex_BadRow_BadRow fun aa haa => ?_))
        simp only [List.set_cons_zero, List.set_cons_succ]
        walk_at "wp"
        refine w_xf1 hx ?_ rfl
        walk_at "wp"
        have f1 := Lf.ofSame (M := No) sI sx
        refine w_newT (K := K) f1.sub (.cons (.str _) (.cons (.int _) .nil)) (by show 2 ≤ sizeLine; decide) fun I2 p2 f2 d2 => ?_
        exact q2 ns k h0 hs ek I2 _ _ (f1.trans f2) d2
      · walk_at "wp"
        refine w_newT (K := K) f.sub (.cons (.str _) (.cons dr .nil)) (by show 2 ≤ sizeLine; decide) fun I2 p2 f2 d2 => ?_
        exact q3 ns ks h0 hs hk hnd hin I2 _ _ (f.trans f2) d2
end
section
variable {P : Program} {w : World} {K : PySem.W.Frag} {mg : Str → Option Value} {base : Heap} {a : Adr}
theorem map_int_inj : ∀ {ns ms : List Int}, ns.map PyData.int = ms.map PyData.int → ns = ms
  | [], [], _ => rfl
  | [], _ :: _, h => by cases h
  | _ :: _, [], h => by cases h
  | n :: ns, m :: ms, h => by
    injection h with h1 h2
    injection h1 with h1
    rw [h1, map_int_inj h2]
theorem SeqD.inj {d : PyData} {ns ms : List Int} (h : SeqD d ns) (h2 : SeqD d ms) : ms = ns := by
  rcases h with rfl | rfl
  · rcases h2 with h2 | h2
    · injection h2 with h2; exact (map_int_inj h2).symm
    · cases h2
  · rcases h2 with h2 | h2
    · cases h2
    · injection h2 with h2; exact (map_int_inj h2).symm
theorem SeqD.seq {d : PyData} {ns : List Int} (h : SeqD d ns) : seqOf d = some (ns.map .int) := by
  rcases h with rfl | rfl <;> rfl
theorem lf_ok : ∀ (ns : List Int) (prev : Option Int) (i : Nat), ns.Pairwise (· < ·) → (∀ n ∈ ns, 0 ≤ n ∧ n ≤ 23 ∧ ∀ p, prev = some p → p < n) → lf prev (ns.map .int) i = none
  | [], _, _, _, _ => rfl
  | n :: ns, prev, i, hp, hin => by
    show lf prev (.int n :: ns.map .int) i = _
    have hp' := List.pairwise_cons.mp hp
    rw [lf_int, if_pos (hin n (by simp))]
    exact lf_ok ns (some n) (i + 1) hp'.2 fun m hm => ⟨(hin m (by simp [hm])).1, (hin m (by simp [hm])).2.1, fun p e => by cases e; exact hp'.1 m hm⟩
theorem lfD_ok {d : PyData} {ns : List Int} (h : SeqD d ns) (hp : ns.Pairwise (· < ·)) (hin : ∀ n ∈ ns, 0 ≤ n ∧ n ≤ 23) : lfD d = .non := by
  unfold lfD
  rw [SeqD.seq h]
  dsimp only
  rw [lf_ok ns none 0 hp fun n hn => ⟨(hin n hn).1, (hin n hn).2, fun p e => by cases e⟩]
theorem rfD_ok {al : List Int} {d : PyData} {ks : List Int} (h : SeqD d ks) (hd : ks.Nodup) (hin : ∀ k ∈ ks, k ∈ al) : rfD al d = .non := by
  unfold rfD
  rw [SeqD.seq h]
  dsimp only
  have z := rf_ok ks [] 0 (by simpa using hd) hin []
  rw [List.append_nil] at z
  rw [z]
  rfl
section
variable {I H : Hp} {Q : VK} {E : XK} {v r : V} {d e : PyData} {ns ks : List Int} {n : Int}
theorem asked0_told {m : Int} (S : Same I H) (hd : Dp K I v (.int m)) (he : Dp K I r e) (m0 : 0 ≤ m) (m1 : m ≤ 24) (hs : SeqD e ks) (hn : ks.Nodup) (hin : ∀ k ∈ ks, 0 ≤ k ∧ k < m)
    (q : ∀ I' H' r', Lf No I H I' H' → Dp K I' r' (pairD "told" (tupI (restI m ks))) → Q r' H') : spAsked K [.int 0, v, r] H Q E := by
  refine ⟨I, 0, v, r, _, e, rfl, S, hd, he, .inl ⟨rfl, fun h => ?_, fun m' k e1 _ _ h => ?_, fun m' ks' e1 _ _ hs' _ _ => ?_⟩⟩
  · simp [wholeB, geB, leB] at h
    omega
  · cases e1
    rw [rfD_ok hs hn fun k hk => mem_rgI.mpr (hin k hk)] at h
    cases h
  · cases e1
    obtain rfl := SeqD.inj hs hs'
    exact q
theorem asked0_row {m : Int} (S : Same I H) (hd : Dp K I v (.int m)) (he : Dp K I r e) (m0 : 0 ≤ m) (m1 : m ≤ 24) (hr : rfD (rgI m) e = .int n)
    (q : ∀ I' H' r', Lf No I H I' H' → Dp K I' r' (pairD "row" (.int n)) → Q r' H') : spAsked K [.int 0, v, r] H Q E := by
  refine ⟨I, 0, v, r, _, e, rfl, S, hd, he, .inl ⟨rfl, fun h => ?_, fun m' k e1 _ _ h => ?_, fun m' ks' e1 _ _ hs' hn hin => ?_⟩⟩
  · simp [wholeB, geB, leB] at h
    omega
  · cases e1
    rw [hr] at h
    cases h
    exact q
  · cases e1
    rw [rfD_ok hs' hn fun k hk => mem_rgI.mpr (hin k hk)] at hr
    cases hr
theorem asked0_count (S : Same I H) (hd : Dp K I v d) (he : Dp K I r e) (hw : wholeB d (some 0) (some 24) = false)
    (q : ∀ I' H' r', Lf No I H I' H' → Dp K I' r' (pairD "count" (.int 24)) → Q r' H') : spAsked K [.int 0, v, r] H Q E := by
  refine ⟨I, 0, v, r, _, e, rfl, S, hd, he, .inl ⟨rfl, fun h => q, fun m' k e1 m0 m1 h => ?_, fun m' ks' e1 m0 m1 hs' hn hin => ?_⟩⟩
  · subst e1
    simp [wholeB, geB, leB] at hw
    omega
  · subst e1
    simp [wholeB, geB, leB] at hw
    omega
theorem asked1_told (S : Same I H) (hd : Dp K I v d) (he : Dp K I r e) (hs : SeqD d ns) (hp : ns.Pairwise (· < ·)) (hin : ∀ n ∈ ns, 0 ≤ n ∧ n ≤ 23) (hk : SeqD e ks) (hn : ks.Nodup) (hkin : ∀ k ∈ ks, 0 ≤ k ∧ k < ns.length)
    (q : ∀ I' H' r', Lf No I H I' H' → Dp K I' r' (pairD "told" (tupI (spellI ns ks))) → Q r' H') : spAsked K [.int 1, v, r] H Q E := by
  have h0 := lfD_ok hs hp hin
  refine ⟨I, 1, v, r, _, e, rfl, S, hd, he, .inr (.inl ⟨rfl, fun k h => ?_, fun ns' k _ hs' _ h => ?_, fun ns' ks' _ hs' _ hk' _ _ => ?_⟩)⟩
  · rw [h0] at h
    cases h
  · obtain rfl := SeqD.inj hs hs'
    rw [rfD_ok hk hn fun k hk => mem_rgI.mpr (hkin k hk)] at h
    cases h
  · obtain rfl := SeqD.inj hs hs'
    obtain rfl := SeqD.inj hk hk'
    exact q
theorem asked1_row (S : Same I H) (hd : Dp K I v d) (he : Dp K I r e) (hs : SeqD d ns) (hp : ns.Pairwise (· < ·)) (hin : ∀ n ∈ ns, 0 ≤ n ∧ n ≤ 23) (hr : rfD (rgI ns.length) e = .int n)
    (q : ∀ I' H' r', Lf No I H I' H' → Dp K I' r' (pairD "row" (.int n)) → Q r' H') : spAsked K [.int 1, v, r] H Q E := by
  have h0 := lfD_ok hs hp hin
  refine ⟨I, 1, v, r, _, e, rfl, S, hd, he, .inr (.inl ⟨rfl, fun k h => ?_, fun ns' k _ hs' _ h => ?_, fun ns' ks' _ hs' _ hk' hn hkin => ?_⟩)⟩
  · rw [h0] at h
    cases h
  · obtain rfl := SeqD.inj hs hs'
    rw [hr] at h
    cases h
    exact q
  · obtain rfl := SeqD.inj hs hs'
    rw [rfD_ok hk' hn fun k hk => mem_rgI.mpr (hkin k hk)] at hr
    cases hr
theorem asked1_frames (S : Same I H) (hd : Dp K I v d) (he : Dp K I r e) (hl : lfD d = .int n)
    (q : ∀ I' H' r', Lf No I H I' H' → Dp K I' r' (pairD "frames" (.int n)) → Q r' H') : spAsked K [.int 1, v, r] H Q E := by
  refine ⟨I, 1, v, r, _, e, rfl, S, hd, he, .inr (.inl ⟨rfl, fun k h => ?_, fun ns' k h _ _ _ => ?_, fun ns' ks' h _ _ _ _ _ => ?_⟩)⟩
  · rw [hl] at h
    cases h
    exact q
  · rw [hl] at h
    cases h
  · rw [hl] at h
    cases h
theorem asked2_told (S : Same I H) (hd : Dp K I v d) (he : Dp K I r e) (hs : SeqD d ns) (hf : FrAt K I v d ns) (hp : ns.Pairwise (· < ·)) (hin : ∀ n ∈ ns, 0 ≤ n ∧ n ≤ 23) (hk : SeqD e ks) (hn : ks.Nodup) (hkin : ∀ k ∈ ks, k ∈ ns)
    (q : ∀ I' H' r', Lf No I H I' H' → Dp K I' r' (pairD "told" (tupI (countI ns ks))) → Q r' H') : spAsked K [.int 2, v, r] H Q E := by
  have h0 := lfD_ok hs hp hin
  refine ⟨I, 2, v, r, _, e, rfl, S, hd, he, .inr (.inr ⟨rfl, fun k h => ?_, fun _ ns' h => ?_, fun ns' k _ hs' h => ?_, fun ns' ks' _ hs' hk' _ _ => ?_⟩)⟩
  · rw [h0] at h
    cases h
  · obtain rfl := SeqD.inj hs h
    exact hf
  · obtain rfl := SeqD.inj hs hs'
    rw [rfD_ok hk hn hkin] at h
    cases h
  · obtain rfl := SeqD.inj hs hs'
    obtain rfl := SeqD.inj hk hk'
    exact q
theorem asked2_row (S : Same I H) (hd : Dp K I v d) (he : Dp K I r e) (hs : SeqD d ns) (hf : FrAt K I v d ns) (hp : ns.Pairwise (· < ·)) (hin : ∀ n ∈ ns, 0 ≤ n ∧ n ≤ 23) (hr : rfD ns e = .int n)
    (q : ∀ I' H' r', Lf No I H I' H' → Dp K I' r' (pairD "row" (.int n)) → Q r' H') : spAsked K [.int 2, v, r] H Q E := by
  have h0 := lfD_ok hs hp hin
  refine ⟨I, 2, v, r, _, e, rfl, S, hd, he, .inr (.inr ⟨rfl, fun k h => ?_, fun _ ns' h => ?_, fun ns' k _ hs' h => ?_, fun ns' ks' _ hs' hk' hn hkin => ?_⟩)⟩
  · rw [h0] at h
    cases h
  · obtain rfl := SeqD.inj hs h
    exact hf
  · obtain rfl := SeqD.inj hs hs'
    rw [hr] at h
    cases h
    exact q
  · obtain rfl := SeqD.inj hs hs'
    rw [rfD_ok hk' hn hkin] at hr
    cases hr
theorem asked2_frames (S : Same I H) (hd : Dp K I v d) (he : Dp K I r e) (hl : lfD d = .int n)
    (q : ∀ I' H' r', Lf No I H I' H' → Dp K I' r' (pairD "frames" (.int n)) → Q r' H') : spAsked K [.int 2, v, r] H Q E := by
  refine ⟨I, 2, v, r, _, e, rfl, S, hd, he, .inr (.inr ⟨rfl, fun k h => ?_, fun h => ?_, fun ns' k h _ _ => ?_, fun ns' ks' h _ _ _ _ => ?_⟩)⟩
  · rw [hl] at h
    cases h
    exact q
  · rw [hl] at h
    cases h
  · rw [hl] at h
    cases h
  · rw [hl] at h
    cases h
end
section
variable {I J H : Hp} {Q : VK} {E : XK} {v : V} {d : PyData} {ks : List Int} {hd p : Addr}
theorem FrAt.up (h : FrAt K I v d ks) (e : Same I J) : FrAt K J v d ks := by
  rcases h with ⟨h, p, hv, z⟩ | ⟨h, hd⟩
  · exact .inl ⟨h, p, hv, TupZ.up z e⟩
  · exact .inr ⟨h, Dp.up hd e⟩
theorem FrAt.dp (h : FrAt K I v d ks) : Dp K I v d := by
  rcases h with ⟨rfl, p, rfl, z⟩ | ⟨_, hd⟩
  · exact TupZ.dp z
  · exact hd
theorem FrAt.seq (h : FrAt K I v d ks) : SeqD d ks := h.elim (fun z => .inl z.1) fun z => .inr z.1
theorem seqZ (hh : Hand K I H hd) (z : TupZ I p (ks.map V.int)) (q : ∀ I' H' v d, Lf (· = hd) I H I' H' → Hand K I' H' hd → FrAt K I' v d ks → Q v H') : spSeq K [.ref hd, .ref p] H Q E :=
  ⟨I, hd, .ref p, ks.map .int, rfl, hh, fun I' H' r f h d => q I' H' r _ f h (.inr ⟨rfl, d⟩), .inl ⟨TupZ.dp z, fun I' H' f h => q I' H' (.ref p) _ f h (.inl ⟨rfl, p, rfl, TupZ.up z f.ext⟩)⟩⟩
theorem neInts {x y : V} (S : Same I H) (h1 : Dp K I x (tupI ks)) (h2 : Dp K I y (tupI ks)) (q : Q (.bl false) H) : rNeD K x y H Q := by
  refine w_neD (Dp.up h1 S) (Dp.up h2 S) (shaped_ints _) (shaped_ints _) ?_
  rw [show PyData.eqv (tupI ks) (tupI ks) = true from by
    show PyData.eqvAll _ _ = true
    rw [eqvAll_ints, decide_eq_true rfl]]
  exact q
theorem DpAll.two {xs : List V} {n : Int} (h : DpAll K I xs [d, .int n]) : ∃ x, xs = [x, .int n] ∧ Dp K I x d := by
  cases h with
  | cons h1 h2 =>
    cases h2 with
    | cons h3 h4 =>
      cases h4
      cases h3
      exact ⟨_, rfl, h1⟩
theorem exactly {x y : V} {d : PyData} (S : Same I H) (h1 : Dp K I x d) (h2 : Dp K I y d) (h3 : plainD 5 d) (q : ∀ H', Lf No I H I H' → Q (.bl true) H') : spExact K 5 [x, y] H Q E :=
  ⟨x, y, d, rfl, Dp.up h1 S, Dp.up h2 S, h3, fun H' s => q H' (Lf.ofSame S s)⟩
end
/-! ### the second law: the unspent frames -/
def spTrue (K : PySem.W.Frag) : Sp := fun vs H Q _ => ∃ (I : Hp) (hd : Addr), vs = [.ref hd] ∧ Hand K I H hd ∧ ∀ I' H', Lf (· = hd) I H I' H' → Hand K I' H' hd → Q (.bl true) H'
theorem restI_range {m : Int} {ks : List Int} : (((List.range m.toNat).filter fun k => decide (((k : Nat) : Int) ∉ ks)).map fun (k : Nat) => PyData.int (k : Int)) = (restI m ks).map PyData.int := by
  unfold restI rgI
  rw [List.filter_map, List.map_map]
  rfl
theorem shaped_told : SeqAt.shaped (.str "told") = true := by decide +kernel
theorem shaped_row : SeqAt.shaped (.str "row") = true := by decide +kernel
theorem shaped_count : SeqAt.shaped (.str "count") = true := by decide +kernel
theorem shaped_frames : SeqAt.shaped (.str "frames") = true := by decide +kernel
theorem restI_len (m : Int) (ks : List Int) : (restI m ks).length ≤ m.toNat := by
  unfold restI
  refine Nat.le_trans (List.length_filter_le _ _) ?_
  simp [rgI]
theorem ok_law_unspent (T : Top K mg a) : FnOk P w K mg base CX0 7 a.f_law_unspent a.d_law_unspent ["_law_hand_here"] (spTrue K) := by
  refine T.F_law_unspent.ok sc_law_unspent (fun vs H Q E h => ?_) (fun cdv A outer s H vs Q E hr h => ?_)
  · obtain ⟨I, hd, rfl, _⟩ := h
    rfl
  · obtain ⟨I, hd, rfl, hh, q⟩ := h
    refine ⟨_, (pss_cons (ps_set (i := 1) sc_law_unspent.nd rfl (Or.inl rfl) (pe_call (ok_law_draw T) (hr.mono (by decide)) (by rfl) T.g_law_draw T.F_law_draw.kp T.b_law_draw .nil pass0 (pa_cons (pv 0) (pa_cons pe_int pa_nil)))) (pss_cons (ps_set (i := 2) sc_law_unspent.nd rfl (Or.inr rfl) (pe_call (ok_law_some_row T) (hr.mono (by decide)) (by rfl) T.g_law_some_row T.F_law_some_row.kp T.b_law_some_row .nil pass0 (pa_cons (pv 0) (pa_cons (pv 1) (pa_cons (pe_call (ok_law_draw T) (hr.mono (by decide)) (by rfl) T.g_law_draw T.F_law_draw.kp T.b_law_draw .nil pass0 (pa_cons (pv 0) (pa_cons (pe_op op_add (pv 1) pe_int) pa_nil))) pa_nil))))) (pss_cons (ps_set (i := 3) sc_law_unspent.nd rfl (Or.inl rfl) (pe_call (ok_law_seq T) (hr.mono (by decide)) (by rfl) T.g_law_seq T.F_law_seq.kp T.b_law_seq .nil pass0 (pa_cons (pv 0) (pa_cons (pv 2) pa_nil)))) (pss_cons (ps_set (i := 4) sc_law_unspent.nd rfl (Or.inl rfl) (pe_tupleK (K := K) rfl (by rfl) T.n_tuple (pe_lc (own := [("_law_f", 8)]) (g := gName 8) (by rfl) sc_law_unspent.nd (pi_range1 (by rfl) T.n_range (pa_cons (pv 1) pa_nil)) (blkOk_by (own := [("_law_f", 8)]) (N := ["_law_hand_here", "_law_m", "_law_row", "_law_handed", "_law_due", "_law_bad", "_law_at", "raised", "_law_f"]) (sc := defScope s_law_unspent) (by decide +kernel)) (fun _ _ _ _ _ => (pg_name (i := 8) sc_law_unspent.nd rfl (Or.inl rfl))) (fun _ _ _ _ _ => pts_one (pt_cmpR (op_ninK (K := K) rfl) (pv 8) (pv 2) (by rfl))) (fun _ _ _ _ _ => (pv 8))))) (pss_cons (ps_if (PW.pt (pw_or (pt_not (pt_val (pe_call (ok_law_exact T) (hr.mono (by decide)) (by rfl) T.g_law_exact T.F_law_exact.kp T.b_law_exact .nil pass0 (pa_cons (pe_call (ok_law_asked T) (hr.mono (by decide)) (by rfl) T.g_law_asked T.F_law_asked.kp T.b_law_asked .nil pass0 (pa_cons pe_int (pa_cons (pv 1) (pa_cons (pv 3) pa_nil)))) (pa_cons (pe_tup (pa_cons pe_str (pa_cons (pv 4) pa_nil))) pa_nil))))) (pw_or1 (pt_cmpR (op_neK (K := K) rfl hr.units) (pe_tupleK (K := K) rfl (by rfl) T.n_tuple (pv 3)) (pv 2) (nomark _))))) (pss_one (ps_ret pe_bl)) pss_nil) (pss_cons (ps_asg (pe_call (ok_law_bad_row T) (hr.mono (by decide)) (by rfl) T.g_law_bad_row T.F_law_bad_row.kp T.b_law_bad_row .nil pass0 (pa_cons (pv 0) (pa_cons (pv 2) (pa_cons (pv 1) pa_nil)))) (pg_tup rfl (pgs_cons (pg_name (i := 5) sc_law_unspent.nd rfl (Or.inl rfl)) (pgs_cons (pg_name (i := 6) sc_law_unspent.nd rfl (Or.inl rfl)) pgs_nil)))) (pss_cons (ps_if (pt_not (pt_val (pe_call (ok_law_exact T) (hr.mono (by decide)) (by rfl) T.g_law_exact T.F_law_exact.kp T.b_law_exact .nil pass0 (pa_cons (pe_call (ok_law_asked T) (hr.mono (by decide)) (by rfl) T.g_law_asked T.F_law_asked.kp T.b_law_asked .nil pass0 (pa_cons pe_int (pa_cons (pv 1) (pa_cons (pv 5) pa_nil)))) (pa_cons (pe_tup (pa_cons pe_str (pa_cons (pv 6) pa_nil))) pa_nil))))) (pss_one (ps_ret pe_bl)) pss_nil) (pss_cons (ps_if (pt_not (pt_val (pe_call (ok_law_exact T) (hr.mono (by decide)) (by rfl) T.g_law_exact T.F_law_exact.kp T.b_law_exact .nil pass0 (pa_cons (pe_call (ok_law_asked T) (hr.mono (by decide)) (by rfl) T.g_law_asked T.F_law_asked.kp T.b_law_asked .nil pass0 (pa_cons pe_int (pa_cons (pe_call (ok_law_no_count T) (hr.mono (by decide)) (by rfl) T.g_law_no_count T.F_law_no_count.kp T.b_law_no_count .nil pass0 (pa_cons (pv 0) (pa_cons pe_int pa_nil))) (pa_cons (pv 5) pa_nil)))) (pa_cons (pe_tup (pa_cons pe_str (pa_cons pe_int pa_nil))) pa_nil))))) (pss_one (ps_ret pe_bl)) pss_nil) (pss_one (ps_try_mas rfl rfl sc_law_unspent.nd takes0 (fun W pn xe tk po => (pss_cons (ps_expr (pe_callS (ok_unspent_frames T) (hr.mono (by decide)) (by rfl) T.g_unspent_frames T.F_unspent_frames.kp T.b_unspent_frames (fun σ => passAt tk σ) (pa_cons (pv 1) (pa_cons (pv 5) pa_nil)))) (pss_one (ps_ret pe_bl)))) (HdsAs.cons (i := 7) rfl rfl ⟨by rfl, by decide, Or.inl T.gc_FrameError⟩ (fun aa oe cls d pn hz hf => (pss_one (ps_ret (pe_and (pe_callB (call_isF T.xc_BadRow hz hf) (by rfl) T.n_isinstance (by decide +kernel) (pa_cons (pv 7) (pa_cons (pe_glob (v := .ref a.c_BadRow) (by rfl) T.gc_BadRow rfl) pa_nil))) (pe_and (pe_not (pe_callB (call_isF T.xc_BadRow hz hf) (by rfl) T.n_isinstance (by decide +kernel) (pa_cons (pv 7) (pa_cons (pe_glob (v := .ref a.c_BadFrames) (by rfl) T.gc_BadFrames rfl) pa_nil)))) (pe_one (pe_not (pe_callB (call_isF T.xc_BadRow hz hf) (by rfl) T.n_isinstance (by decide +kernel) (pa_cons (pv 7) (pa_cons (pe_glob (v := .ref a.c_BadCount) (by rfl) T.gc_BadCount rfl) pa_nil)))))))))) HdsAs.nil))))))))))), ?_⟩
    walk_at "st"
    walk_at "wp"
    have F : Lf (· = hd) I H I H := Lf.refl hh.sub
    refine ⟨I, hd, 25, rfl, hh, by omega, by omega, fun H1 m f1 hh1 m0 m1 => ?_⟩
    replace hh := hh1
    replace F := F.trans f1
    walk_at "wp"
    refine ⟨I, hd, m + 1, rfl, hh, by omega, by omega, fun H2 n f2 hh2 n0 n1 => ?_⟩
    replace hh := hh2
    replace F := F.trans f2
    walk_at "wp"
    refine ⟨I, hd, m, n, rfl, hh, n0, by omega, by omega, fun I3 H3 rp ks f3 hh3 zr hnd hkl hkin => ?_⟩
    replace hh := hh3
    replace F := F.trans f3
    walk_at "wp"
    refine seqZ hh zr fun I4 H4 v4 d4 f4 hh4 r4 => ?_
    replace hh := hh4
    replace F := F.trans f4
    replace zr := TupZ.up zr f4.ext
    walk_at "wp"
    refine w_compR (K := K) (I := I4) (M := No) (m := m) m0 (by omega) (fun Q q => ?_)
      (CompOk.filt (fun k => decide (((k : Nat) : Int) ∉ ks)) (fun k => .int (k : Nat)) hh.sub (fun b h => h.elim) (small1000 (by omega)) (fun k I5 H5 R hk f5 hR => ?_) (fun k I5 H5 R hk hT f5 hR => ?_) (fun I5 H5 E vs f5 e1 e2 e3 hv => ?_))
    · walk_at "wp"
      exact q
    · simp only [List.set_cons_zero, List.set_cons_succ]
      walk_at "wp"
      refine w_ninI (.inr (Same.seqT (f5.ext.trans f5.sub) (TupZ.sq zr))) ?_
      walk_at "wp"
      exact hR _ I5 H5 (by simp) (Lf.refl f5.sub)
    · simp only [List.set_cons_zero, List.set_cons_succ]
      walk_at "wp"
      exact hR _ I5 H5 (Lf.refl f5.sub) (.int _)
    rw [restI_range] at hv
    obtain rfl := DpAll.isInts hv
    replace hh := hh.to f5 (fun h => h)
    replace F := F.trans f5.any
    replace zr := TupZ.up zr f5.ext
    replace r4 := FrAt.up r4 f5.ext
    walk_at "wp"
    refine w_tupOfL hh.sub (ofL e3) hv fun I6 H6 p6 f6 z6 _ => ?_
    replace hh := hh.to f6 (fun h => h)
    replace F := F.trans f6.any
    replace zr := TupZ.up zr f6.ext
    replace r4 := FrAt.up r4 f6.ext
    walk_at "wp"
    refine asked0_told hh.sub (.int m) (FrAt.dp r4) m0 (by omega) (FrAt.seq r4) hnd hkin fun I7 H7 v7 f7 d7 => ?_
    replace hh := hh.to f7 (fun h => h)
    replace F := F.trans f7.any
    replace zr := TupZ.up zr f7.ext
    replace r4 := FrAt.up r4 f7.ext
    replace z6 := TupZ.up z6 f7.ext
    walk_at "wp"
    refine w_newT (K := K) hh.sub (.cons (.str _) (.cons (TupZ.dp z6) .nil)) (by show 2 ≤ sizeLine; decide) fun I8 p8 f8 d8 => ?_
    replace hh := hh.to f8 (fun h => h)
    replace F := F.trans f8.any
    replace zr := TupZ.up zr f8.ext
    replace r4 := FrAt.up r4 f8.ext
    replace d7 := Dp.up d7 f8.ext
    walk_at "wp"
    have lr := restI_len m ks
    refine exactly hh.sub d7 d8 (plain_told shaped_told (by omega)) fun H9 f9 => ?_
    replace hh := hh.to f9 (fun h => h)
    replace F := F.trans f9.any
    walk_at "wp"
    refine w_tupOfD hh.sub (SeqD.dp (FrAt.seq r4) (FrAt.dp r4)) fun I10 H10 v10 f10 d10 => ?_
    replace hh := hh.to f10 (fun h => h)
    replace F := F.trans f10.any
    replace zr := TupZ.up zr f10.ext
    replace r4 := FrAt.up r4 f10.ext
    walk_at "wp"
    refine neInts hh.sub d10 (TupZ.dp zr) ?_
    walk_at "wp"
    have lk : ks.length ≤ 24 := by have := nodup_len hnd hkin; omega
    refine ⟨I10, hd, .ref rp, m, ks, rgI m, rfl, hh, TupZ.dp zr, hnd, fun k hk => mem_rgI.mpr (hkin k hk), fun h => by have := (mem_rgI.mp h).2; omega, lk, fun I11 H11 v11 d11 at11 f11 hh11 dt hrf => ?_⟩
    replace hh := hh11
    replace F := F.trans f11
    replace zr := TupZ.up zr f11.ext
    obtain ⟨pt, xt, rfl, ht, hx⟩ := Dp.tupRef dt
    obtain ⟨xb, rfl, db⟩ := DpAll.two hx
    refine w_gpairS (K := K) (Same.seqT hh.sub ht) ?_
    simp only [List.set_cons_zero, List.set_cons_succ]
    walk_at "wp"
    refine asked0_row hh.sub (.int m) db m0 (by omega) hrf fun I12 H12 v12 f12 d12 => ?_
    replace hh := hh.to f12 (fun h => h)
    replace F := F.trans f12.any
    replace zr := TupZ.up zr f12.ext
    replace db := Dp.up db f12.ext
    walk_at "wp"
    refine w_newT (K := K) hh.sub (.cons (.str _) (.cons (.int _) .nil)) (by show 2 ≤ sizeLine; decide) fun I13 p13 f13 d13 => ?_
    replace hh := hh.to f13 (fun h => h)
    replace F := F.trans f13.any
    replace zr := TupZ.up zr f13.ext
    replace db := Dp.up db f13.ext
    replace d12 := Dp.up d12 f13.ext
    walk_at "wp"
    refine exactly hh.sub d12 d13 (plain_pair shaped_row) fun H14 f14 => ?_
    replace hh := hh.to f14 (fun h => h)
    replace F := F.trans f14.any
    walk_at "wp"
    refine ⟨I13, hd, 24, rfl, hh, by omega, fun I15 H15 v15 d15 f15 hh15 dv15 hw => ?_⟩
    replace hh := hh15
    replace F := F.trans f15
    replace zr := TupZ.up zr f15.ext
    replace db := Dp.up db f15.ext
    walk_at "wp"
    refine asked0_count hh.sub dv15 db hw fun I16 H16 v16 f16 d16 => ?_
    replace hh := hh.to f16 (fun h => h)
    replace F := F.trans f16.any
    replace zr := TupZ.up zr f16.ext
    replace db := Dp.up db f16.ext
    walk_at "wp"
    refine w_newT (K := K) hh.sub (.cons (.str _) (.cons (.int _) .nil)) (by show 2 ≤ sizeLine; decide) fun I17 p17 f17 d17 => ?_
    replace hh := hh.to f17 (fun h => h)
    replace F := F.trans f17.any
    replace zr := TupZ.up zr f17.ext
    replace db := Dp.up db f17.ext
    replace d16 := Dp.up d16 f17.ext
    walk_at "wp"
    refine exactly hh.sub d16 d17 (plain_pair shaped_count) fun H18 f18 => ?_
    replace hh := hh.to f18 (fun h => h)
    replace F := F.trans f18.any
    walk_at "wp"
    refine ⟨I17, .int m, xb, .int m, d11, rfl, hh.sub, .int m, db, fun hw => ?_, fun m' e1 _ _ _ H' x sx hx => ?_, fun m' ns e1 _ _ e2 hn hin => ?_⟩
    · simp [wholeB, geB, leB] at hw
      omega
    · cases e1
      refine w_hit T.ex_BadRow_FrameError fun aa haa => ?_
      simp only [List.set_cons_zero, List.set_cons_succ]
      walk_at "wp"
      refine w_isF hx T.ki_BadRow_BadRow ?_
      walk_at "wp"
      refine w_isF hx T.ki_BadRow_BadFrames ?_
      walk_at "wp"
      refine w_isF hx T.ki_BadRow_BadCount ?_
      walk_at "wp"
      have fx : Lf No I17 H18 I17 H' := Lf.ofSame hh.sub sx
      exact q _ _ (F.trans fx.any) (hh.to fx (fun h => h))
    · cases e1
      rw [rfD_ok (e2.elim .inl .inr) hn fun k hk => mem_rgI.mpr (hin k hk)] at hrf
      cases hrf
end
section
variable {P : Program} {w : World} {K : PySem.W.Frag} {mg : Str → Option Value} {base : Heap} {a : Adr}
theorem spell_mem {ns ks : List Int} (hin : ∀ k ∈ ks, 0 ≤ k ∧ k < (ns.length : Int)) : ∀ n ∈ spellI ns ks, n ∈ ns := by
  intro n hn
  obtain ⟨k, hk, rfl⟩ := List.mem_map.mp hn
  have hb := hin k hk
  have hl : k.toNat < ns.length := by omega
  simp [List.getD_eq_getElem?_getD, List.getElem?_eq_getElem hl]
theorem spell_nodup {ns ks : List Int} (hn : ns.Nodup) (hk : ks.Nodup) (hin : ∀ k ∈ ks, 0 ≤ k ∧ k < (ns.length : Int)) : (spellI ns ks).Nodup := by
  unfold spellI
  rw [List.Nodup, List.pairwise_map]
  refine List.Pairwise.imp_of_mem ?_ hk
  intro x y hx hy hne e
  have bx := hin x hx
  have bY := hin y hy
  have lx : x.toNat < ns.length := by omega
  have ly : y.toNat < ns.length := by omega
  simp only [List.getD_eq_getElem?_getD, List.getElem?_eq_getElem lx, List.getElem?_eq_getElem ly, Option.getD_some] at e
  have := (List.getElem_inj hn).mp e
  omega
theorem count_spell {ns ks : List Int} (hn : ns.Nodup) (hin : ∀ k ∈ ks, 0 ≤ k ∧ k < (ns.length : Int)) : countI ns (spellI ns ks) = ks := by
  unfold countI spellI
  rw [List.map_map]
  conv => rhs; rw [← List.map_id ks]
  refine List.map_congr_left fun k hk => ?_
  have hb := hin k hk
  have hl : k.toNat < ns.length := by omega
  show ((posI ns (ns.getD k.toNat 0) : Nat) : Int) = k
  rw [show ns.getD k.toNat 0 = ns[k.toNat] by simp [hl], posI_nodup hn hl]
  omega
theorem count_self {ns : List Int} (hn : ns.Nodup) : countI ns ns = rgI ns.length := by
  unfold countI rgI
  refine List.ext_getElem (by simp) fun i h1 h2 => ?_
  rw [List.length_map] at h1
  simp [posI_nodup hn h1]
theorem strange_ok {ns : List Int} (hin : ∀ n ∈ ns, 0 ≤ n ∧ n ≤ 23) : ∃ (s : Nat) (rest : List Nat), (List.range (25 : Int).toNat).filter (fun k => decide (((k : Nat) : Int) ∉ ns)) = s :: rest ∧ ((s : Nat) : Int) ∉ ns := by
  cases e : (List.range (25 : Int).toNat).filter (fun k => decide (((k : Nat) : Int) ∉ ns)) with
  | nil =>
    have z := List.filter_eq_nil_iff.mp e 24 (by decide)
    simp at z
    have := (hin 24 z).2
    omega
  | cons s rest =>
    have z : s ∈ (List.range (25 : Int).toNat).filter (fun k => decide (((k : Nat) : Int) ∉ ns)) := by rw [e]; simp
    rw [List.mem_filter] at z
    exact ⟨s, rest, rfl, of_decide_eq_true z.2⟩
theorem ok_law_left (T : Top K mg a) : FnOk P w K mg base CX0 7 a.f_law_left a.d_law_left ["_law_hand_here"] (spTrue K) := by
  refine T.F_law_left.ok sc_law_left (fun vs H Q E h => ?_) (fun cdv A outer s H vs Q E hr h => ?_)
  · obtain ⟨I, hd, rfl, _⟩ := h
    rfl
  · obtain ⟨I, hd, rfl, hh, q⟩ := h
    refine ⟨_, (pss_cons (ps_set (i := 1) sc_law_left.nd rfl (Or.inr rfl) (pe_call (ok_law_some_frames T) (hr.mono (by decide)) (by rfl) T.g_law_some_frames T.F_law_some_frames.kp T.b_law_some_frames .nil pass0 (pa_cons (pv 0) pa_nil))) (pss_cons (ps_set (i := 2) sc_law_left.nd rfl (Or.inl rfl) (pe_callB (call_lenK (K := K) rfl) (by rfl) T.n_len (by decide +kernel) (pa_cons (pv 1) pa_nil))) (pss_cons (ps_set (i := 3) sc_law_left.nd rfl (Or.inl rfl) (pe_call (ok_law_some_row T) (hr.mono (by decide)) (by rfl) T.g_law_some_row T.F_law_some_row.kp T.b_law_some_row .nil pass0 (pa_cons (pv 0) (pa_cons (pv 2) (pa_cons (pe_call (ok_law_draw T) (hr.mono (by decide)) (by rfl) T.g_law_draw T.F_law_draw.kp T.b_law_draw .nil pass0 (pa_cons (pv 0) (pa_cons (pe_op op_add (pv 2) pe_int) pa_nil))) pa_nil))))) (pss_cons (ps_set (i := 4) sc_law_left.nd rfl (Or.inl rfl) (pe_tupleK (K := K) rfl (by rfl) T.n_tuple (pe_lc (own := [("_law_f", 12)]) (g := gName 12) (by rfl) sc_law_left.nd (pi_seqK (K := K) rfl (pv 3)) (blkOk_by (own := [("_law_f", 12)]) (N := ["_law_hand_here", "_law_frames", "_law_many", "_law_row", "_law_spelt", "_law_handed", "_law_strange", "_law_bad", "_law_at", "_law_odd", "_law_place", "_law_which", "_law_f"]) (sc := defScope s_law_left) (by decide +kernel)) (fun _ _ _ _ _ => (pg_name (i := 12) sc_law_left.nd rfl (Or.inl rfl))) (fun _ _ _ _ _ => pts_nil) (fun _ _ _ _ _ => (pe_ix (ix_K (K := K) rfl) (pv 1) (pv 12) (fun _ _ => rfl)))))) (pss_cons (ps_set (i := 5) sc_law_left.nd rfl (Or.inl rfl) (pe_lst (pa_cons (pe_call (ok_law_seq T) (hr.mono (by decide)) (by rfl) T.g_law_seq T.F_law_seq.kp T.b_law_seq .nil pass0 (pa_cons (pv 0) (pa_cons (pv 1) pa_nil))) (pa_cons (pe_call (ok_law_seq T) (hr.mono (by decide)) (by rfl) T.g_law_seq T.F_law_seq.kp T.b_law_seq .nil pass0 (pa_cons (pv 0) (pa_cons (pv 3) pa_nil))) (pa_cons (pe_call (ok_law_seq T) (hr.mono (by decide)) (by rfl) T.g_law_seq T.F_law_seq.kp T.b_law_seq .nil pass0 (pa_cons (pv 0) (pa_cons (pv 4) pa_nil))) pa_nil))))) (pss_cons (ps_if (pt_not (pt_val (pe_call (ok_law_exact T) (hr.mono (by decide)) (by rfl) T.g_law_exact T.F_law_exact.kp T.b_law_exact .nil pass0 (pa_cons (pe_call (ok_law_asked T) (hr.mono (by decide)) (by rfl) T.g_law_asked T.F_law_asked.kp T.b_law_asked .nil pass0 (pa_cons pe_int (pa_cons (pe_ix (ix_K (K := K) rfl) (pv 5) pe_int (fun _ _ => rfl)) (pa_cons (pe_ix (ix_K (K := K) rfl) (pv 5) pe_int (fun _ _ => rfl)) pa_nil)))) (pa_cons (pe_tup (pa_cons pe_str (pa_cons (pv 4) pa_nil))) pa_nil))))) (pss_one (ps_ret pe_bl)) pss_nil) (pss_cons (ps_if (pt_not (pt_val (pe_call (ok_law_exact T) (hr.mono (by decide)) (by rfl) T.g_law_exact T.F_law_exact.kp T.b_law_exact .nil pass0 (pa_cons (pe_call (ok_law_asked T) (hr.mono (by decide)) (by rfl) T.g_law_asked T.F_law_asked.kp T.b_law_asked .nil pass0 (pa_cons pe_int (pa_cons (pe_ix (ix_K (K := K) rfl) (pv 5) pe_int (fun _ _ => rfl)) (pa_cons (pe_ix (ix_K (K := K) rfl) (pv 5) pe_int (fun _ _ => rfl)) pa_nil)))) (pa_cons (pe_tup (pa_cons pe_str (pa_cons (pv 3) pa_nil))) pa_nil))))) (pss_one (ps_ret pe_bl)) pss_nil) (pss_cons (ps_if (PW.pt (pw_or (pt_cmpR (op_neK (K := K) rfl hr.units) (pe_tupleK (K := K) rfl (by rfl) T.n_tuple (pe_ix (ix_K (K := K) rfl) (pv 5) pe_int (fun _ _ => rfl))) (pv 1) (nomark _)) (pw_or (pt_cmpR (op_neK (K := K) rfl hr.units) (pe_tupleK (K := K) rfl (by rfl) T.n_tuple (pe_ix (ix_K (K := K) rfl) (pv 5) pe_int (fun _ _ => rfl))) (pv 3) (nomark _)) (pw_or1 (pt_cmpR (op_neK (K := K) rfl hr.units) (pe_tupleK (K := K) rfl (by rfl) T.n_tuple (pe_ix (ix_K (K := K) rfl) (pv 5) pe_int (fun _ _ => rfl))) (pv 4) (nomark _)))))) (pss_one (ps_ret pe_bl)) pss_nil) (pss_cons (ps_set (i := 6) sc_law_left.nd rfl (Or.inl rfl) (pe_ix (ix_K (K := K) rfl) (pe_lc (own := [("_law_f", 12)]) (g := gName 12) (by rfl) sc_law_left.nd (pi_range1 (by rfl) T.n_range (pa_cons pe_int pa_nil)) (blkOk_by (own := [("_law_f", 12)]) (N := ["_law_hand_here", "_law_frames", "_law_many", "_law_row", "_law_spelt", "_law_handed", "_law_strange", "_law_bad", "_law_at", "_law_odd", "_law_place", "_law_which", "_law_f"]) (sc := defScope s_law_left) (by decide +kernel)) (fun _ _ _ _ _ => (pg_name (i := 12) sc_law_left.nd rfl (Or.inl rfl))) (fun _ _ _ _ _ => pts_one (pt_cmpR (op_ninK (K := K) rfl) (pv 12) (pv 1) (by rfl))) (fun _ _ _ _ _ => (pv 12))) pe_int (fun _ _ => rfl))) (pss_cons (ps_asg (pe_call (ok_law_bad_row T) (hr.mono (by decide)) (by rfl) T.g_law_bad_row T.F_law_bad_row.kp T.b_law_bad_row .nil pass0 (pa_cons (pv 0) (pa_cons (pv 3) (pa_cons (pv 2) pa_nil)))) (pg_tup rfl (pgs_cons (pg_name (i := 7) sc_law_left.nd rfl (Or.inl rfl)) (pgs_cons (pg_name (i := 8) sc_law_left.nd rfl (Or.inl rfl)) pgs_nil)))) (pss_cons (ps_if (pt_not (pt_val (pe_call (ok_law_exact T) (hr.mono (by decide)) (by rfl) T.g_law_exact T.F_law_exact.kp T.b_law_exact .nil pass0 (pa_cons (pe_call (ok_law_asked T) (hr.mono (by decide)) (by rfl) T.g_law_asked T.F_law_asked.kp T.b_law_asked .nil pass0 (pa_cons pe_int (pa_cons (pe_ix (ix_K (K := K) rfl) (pv 5) pe_int (fun _ _ => rfl)) (pa_cons (pv 7) pa_nil)))) (pa_cons (pe_tup (pa_cons pe_str (pa_cons (pv 8) pa_nil))) pa_nil))))) (pss_one (ps_ret pe_bl)) pss_nil) (pss_cons (ps_asg (pe_call (ok_law_bad_row T) (hr.mono (by decide)) (by rfl) T.g_law_bad_row T.F_law_bad_row.kp T.b_law_bad_row .nil pass0 (pa_cons (pv 0) (pa_cons (pv 4) (pa_cons (pv 6) pa_nil)))) (pg_tup rfl (pgs_cons (pg_name (i := 7) sc_law_left.nd rfl (Or.inl rfl)) (pgs_cons (pg_name (i := 8) sc_law_left.nd rfl (Or.inl rfl)) pgs_nil)))) (pss_cons (ps_if (pt_not (pt_val (pe_call (ok_law_exact T) (hr.mono (by decide)) (by rfl) T.g_law_exact T.F_law_exact.kp T.b_law_exact .nil pass0 (pa_cons (pe_call (ok_law_asked T) (hr.mono (by decide)) (by rfl) T.g_law_asked T.F_law_asked.kp T.b_law_asked .nil pass0 (pa_cons pe_int (pa_cons (pe_ix (ix_K (K := K) rfl) (pv 5) pe_int (fun _ _ => rfl)) (pa_cons (pv 7) pa_nil)))) (pa_cons (pe_tup (pa_cons pe_str (pa_cons (pv 8) pa_nil))) pa_nil))))) (pss_one (ps_ret pe_bl)) pss_nil) (pss_cons (ps_asg (pe_call (ok_law_bad_frames T) (hr.mono (by decide)) (by rfl) T.g_law_bad_frames T.F_law_bad_frames.kp T.b_law_bad_frames .nil pass0 (pa_cons (pv 0) (pa_cons (pv 1) pa_nil))) (pg_tup rfl (pgs_cons (pg_name (i := 9) sc_law_left.nd rfl (Or.inl rfl)) (pgs_cons (pg_name (i := 10) sc_law_left.nd rfl (Or.inl rfl)) pgs_nil)))) (pss_cons (ps_for PassesOwn.never rfl (pi_range2 (by rfl) T.n_range (pa_cons pe_int (pa_cons pe_int pa_nil))) (pg_name (i := 11) sc_law_left.nd rfl (Or.inl rfl)) (pss_one (ps_if (PW.pt (pw_or (pt_not (pt_val (pe_call (ok_law_exact T) (hr.mono (by decide)) (by rfl) T.g_law_exact T.F_law_exact.kp T.b_law_exact .nil pass0 (pa_cons (pe_call (ok_law_asked T) (hr.mono (by decide)) (by rfl) T.g_law_asked T.F_law_asked.kp T.b_law_asked .nil pass0 (pa_cons (pv 11) (pa_cons (pv 9) (pa_cons (pv 7) pa_nil)))) (pa_cons (pe_tup (pa_cons pe_str (pa_cons (pv 10) pa_nil))) pa_nil))))) (pw_or1 (pt_not (pt_val (pe_call (ok_law_exact T) (hr.mono (by decide)) (by rfl) T.g_law_exact T.F_law_exact.kp T.b_law_exact .nil pass0 (pa_cons (pe_call (ok_law_asked T) (hr.mono (by decide)) (by rfl) T.g_law_asked T.F_law_asked.kp T.b_law_asked .nil pass0 (pa_cons (pv 11) (pa_cons (pv 9) (pa_cons (pe_tup pa_nil) pa_nil)))) (pa_cons (pe_tup (pa_cons pe_str (pa_cons (pv 10) pa_nil))) pa_nil)))))))) (pss_one (ps_ret pe_bl)) pss_nil))) (pss_one (ps_ret (pe_call (ok_law_exact T) (hr.mono (by decide)) (by rfl) T.g_law_exact T.F_law_exact.kp T.b_law_exact .nil pass0 (pa_cons (pe_call (ok_law_asked T) (hr.mono (by decide)) (by rfl) T.g_law_asked T.F_law_asked.kp T.b_law_asked .nil pass0 (pa_cons pe_int (pa_cons (pv 1) (pa_cons (pv 1) pa_nil)))) (pa_cons (pe_tup (pa_cons pe_str (pa_cons (pe_tupRg rfl (by rfl) T.n_tuple (prg_1 (by rfl) T.n_range (pv 2))) pa_nil))) pa_nil)))))))))))))))))))), ?_⟩
    walk_at "st"
    walk_at "wp"
    have F : Lf (· = hd) I H I H := Lf.refl hh.sub
    refine ⟨I, hd, rfl, hh, fun I1 H1 fp ns f1 hh1 zf hpw hin => ?_⟩
    replace hh := hh1
    replace F := F.trans f1
    have hns := asc_nodup hpw
    have hl : ns.length ≤ 24 := nodup_len (m := 24) hns fun n h => ⟨(hin n h).1, by have := (hin n h).2; omega⟩
    walk_at "wp"
    refine w_lenS (.inr (Same.seqT hh.sub (TupZ.sq zf))) ?_
    rw [List.length_map]
    walk_at "wp"
    refine ⟨I1, hd, (ns.length : Int) + 1, rfl, hh, by omega, by omega, fun H2 n f2 hh2 n0 n1 => ?_⟩
    replace hh := hh2
    replace F := F.trans f2
    walk_at "wp"
    refine ⟨I1, hd, (ns.length : Int), n, rfl, hh, n0, by omega, by omega, fun I3 H3 rp ks f3 hh3 zr hnd hkl hkin => ?_⟩
    replace hh := hh3
    replace F := F.trans f3
    replace zf := TupZ.up zf f3.ext
    have lk : ks.length ≤ 24 := by omega
    walk_at "wp"
    refine w_compS (K := K) (I := I3) (M := No) (.inr (TupZ.sq zr)) (fun Q q => ?_) (fun h => h)
      (CompOk.pure (fun k => .int (ns.getD (ks.getD k 0).toNat 0)) hh.sub (fun b h => h.elim) (by rw [List.length_map]; exact small1000 (by omega)) (fun k I5 H5 R hk f5 hR => ?_) (fun I4 H4 E vs f4 e1 e2 e3 hv => ?_))
    · walk_at "wp"
      exact q
    · rw [List.length_map] at hk
      have hg : (ks.map V.int).getD k .non = .int ks[k] := by simp [hk]
      rw [hg]
      simp only [List.set_cons_zero, List.set_cons_succ]
      walk_at "wp"
      have hb := hkin ks[k] (List.getElem_mem hk)
      have hb2 : ks[k].toNat < ns.length := by omega
      refine w_ixS (.inr (Same.seqT (f5.ext.trans f5.sub) (TupZ.sq zf))) hb.1 (get_map hb2) ?_
      refine hR _ I5 H5 (Lf.refl f5.sub) ?_
      simp only [List.getD_eq_getElem?_getD, List.getElem?_eq_getElem hk, List.getElem?_eq_getElem hb2, Option.getD_some]
      exact .int _
    rw [List.length_map, map_range_get (fun z => PyData.int (ns.getD z.toNat 0)) ks (fun k => ks.getD k 0) (fun k h => by simp [h])] at hv
    have hv2 : DpAll K I4 vs ((spellI ns ks).map PyData.int) := by rw [spellI, List.map_map]; exact hv
    obtain rfl := DpAll.isInts hv2
    replace hh := hh.to f4 (fun h => h)
    replace F := F.trans f4.any
    replace zf := TupZ.up zf f4.ext
    replace zr := TupZ.up zr f4.ext
    refine w_tupOfL hh.sub (ofL e3) hv2 fun I5 H5 sp f5 zs _ => ?_
    replace hh := hh.to f5 (fun h => h)
    replace F := F.trans f5.any
    replace zf := TupZ.up zf f5.ext
    replace zr := TupZ.up zr f5.ext
    have ls : (spellI ns ks).length ≤ 24 := by rw [spellI, List.length_map]; exact lk
    have hsm := spell_mem hkin
    have hsn := spell_nodup hns hnd hkin
    walk_at "wp"
    refine seqZ hh zf fun I6 H6 v6 d6 f6 hh6 r6 => ?_
    replace hh := hh6
    replace F := F.trans f6
    replace zf := TupZ.up zf f6.ext
    replace zr := TupZ.up zr f6.ext
    replace zs := TupZ.up zs f6.ext
    walk_at "wp"
    refine seqZ hh zr fun I7 H7 v7 d7 f7 hh7 r7 => ?_
    replace hh := hh7
    replace F := F.trans f7
    replace zf := TupZ.up zf f7.ext
    replace zr := TupZ.up zr f7.ext
    replace zs := TupZ.up zs f7.ext
    replace r6 := FrAt.up r6 f7.ext
    walk_at "wp"
    refine seqZ hh zs fun I8 H8 v8 d8 f8 hh8 r8 => ?_
    replace hh := hh8
    replace F := F.trans f8
    replace zf := TupZ.up zf f8.ext
    replace zr := TupZ.up zr f8.ext
    replace zs := TupZ.up zs f8.ext
    replace r6 := FrAt.up r6 f8.ext
    replace r7 := FrAt.up r7 f8.ext
    walk_at "wp"
    refine w_putL (K := K) hh.sub (by show 3 ≤ sizeLine; decide) fun I9 hp f9 sh => ?_
    replace hh := hh.to f9 (fun h => h)
    replace F := F.trans f9.any
    replace zf := TupZ.up zf f9.ext
    replace zr := TupZ.up zr f9.ext
    replace zs := TupZ.up zs f9.ext
    replace r6 := FrAt.up r6 f9.ext
    replace r7 := FrAt.up r7 f9.ext
    replace r8 := FrAt.up r8 f9.ext
    walk_at "wp"
    refine asked1_told hh.sub (FrAt.dp r6) (FrAt.dp r7) (FrAt.seq r6) hpw hin (FrAt.seq r7) hnd hkin fun I10 H10 v10 f10 d10 => ?_
    replace hh := hh.to f10 (fun h => h)
    replace F := F.trans f10.any
    replace zf := TupZ.up zf f10.ext
    replace zr := TupZ.up zr f10.ext
    replace zs := TupZ.up zs f10.ext
    replace r6 := FrAt.up r6 f10.ext
    replace r7 := FrAt.up r7 f10.ext
    replace r8 := FrAt.up r8 f10.ext
    replace sh := Same.seq f10.ext sh
    walk_at "wp"
    refine w_newT (K := K) hh.sub (.cons (.str _) (.cons (TupZ.dp zs) .nil)) (by show 2 ≤ sizeLine; decide) fun I11 p11 f11 d11 => ?_
    replace hh := hh.to f11 (fun h => h)
    replace F := F.trans f11.any
    replace zf := TupZ.up zf f11.ext
    replace zr := TupZ.up zr f11.ext
    replace zs := TupZ.up zs f11.ext
    replace r6 := FrAt.up r6 f11.ext
    replace r7 := FrAt.up r7 f11.ext
    replace r8 := FrAt.up r8 f11.ext
    replace sh := Same.seq f11.ext sh
    replace d10 := Dp.up d10 f11.ext
    walk_at "wp"
    refine exactly hh.sub d10 d11 (plain_told shaped_told (by omega)) fun H12 f12 => ?_
    replace hh := hh.to f12 (fun h => h)
    replace F := F.trans f12.any
    walk_at "wp"
    refine w_ixS (.inl (Same.seq hh.sub sh)) (by omega) rfl ?_
    walk_at "wp"
    refine w_ixS (.inl (Same.seq hh.sub sh)) (by omega) rfl ?_
    walk_at "wp"
    refine asked2_told hh.sub (FrAt.dp r6) (FrAt.dp r8) (FrAt.seq r6) r6 hpw hin (FrAt.seq r8) hsn hsm fun I13 H13 v13 f13 d13 => ?_
    rw [count_spell hns hkin] at d13
    replace hh := hh.to f13 (fun h => h)
    replace F := F.trans f13.any
    replace zf := TupZ.up zf f13.ext
    replace zr := TupZ.up zr f13.ext
    replace zs := TupZ.up zs f13.ext
    replace r6 := FrAt.up r6 f13.ext
    replace r7 := FrAt.up r7 f13.ext
    replace r8 := FrAt.up r8 f13.ext
    replace sh := Same.seq f13.ext sh
    walk_at "wp"
    refine w_newT (K := K) hh.sub (.cons (.str _) (.cons (TupZ.dp zr) .nil)) (by show 2 ≤ sizeLine; decide) fun I14 p14 f14 d14 => ?_
    replace hh := hh.to f14 (fun h => h)
    replace F := F.trans f14.any
    replace zf := TupZ.up zf f14.ext
    replace zr := TupZ.up zr f14.ext
    replace zs := TupZ.up zs f14.ext
    replace r6 := FrAt.up r6 f14.ext
    replace r7 := FrAt.up r7 f14.ext
    replace r8 := FrAt.up r8 f14.ext
    replace sh := Same.seq f14.ext sh
    replace d13 := Dp.up d13 f14.ext
    walk_at "wp"
    refine exactly hh.sub d13 d14 (plain_told shaped_told (by omega)) fun H15 f15 => ?_
    replace hh := hh.to f15 (fun h => h)
    replace F := F.trans f15.any
    walk_at "wp"
    refine w_ixS (.inl (Same.seq hh.sub sh)) (by omega) rfl ?_
    walk_at "wp"
    refine w_tupOfD hh.sub (SeqD.dp (FrAt.seq r6) (FrAt.dp r6)) fun I16 H16 v16 f16 d16 => ?_
    replace hh := hh.to f16 (fun h => h)
    replace F := F.trans f16.any
    replace zf := TupZ.up zf f16.ext
    replace zr := TupZ.up zr f16.ext
    replace zs := TupZ.up zs f16.ext
    replace r6 := FrAt.up r6 f16.ext
    replace r7 := FrAt.up r7 f16.ext
    replace r8 := FrAt.up r8 f16.ext
    replace sh := Same.seq f16.ext sh
    walk_at "wp"
    refine neInts hh.sub d16 (TupZ.dp zf) ?_
    walk_at "wp"
    refine w_ixS (.inl (Same.seq hh.sub sh)) (by omega) rfl ?_
    walk_at "wp"
    refine w_tupOfD hh.sub (SeqD.dp (FrAt.seq r7) (FrAt.dp r7)) fun I17 H17 v17 f17 d17 => ?_
    replace hh := hh.to f17 (fun h => h)
    replace F := F.trans f17.any
    replace zf := TupZ.up zf f17.ext
    replace zr := TupZ.up zr f17.ext
    replace zs := TupZ.up zs f17.ext
    replace r6 := FrAt.up r6 f17.ext
    replace r7 := FrAt.up r7 f17.ext
    replace r8 := FrAt.up r8 f17.ext
    replace sh := Same.seq f17.ext sh
    walk_at "wp"
    refine neInts hh.sub d17 (TupZ.dp zr) ?_
    walk_at "wp"
    refine w_ixS (.inl (Same.seq hh.sub sh)) (by omega) rfl ?_
    walk_at "wp"
    refine w_tupOfD hh.sub (SeqD.dp (FrAt.seq r8) (FrAt.dp r8)) fun I18 H18 v18 f18 d18 => ?_
    replace hh := hh.to f18 (fun h => h)
    replace F := F.trans f18.any
    replace zf := TupZ.up zf f18.ext
    replace zr := TupZ.up zr f18.ext
    replace zs := TupZ.up zs f18.ext
    replace r6 := FrAt.up r6 f18.ext
    replace r7 := FrAt.up r7 f18.ext
    replace r8 := FrAt.up r8 f18.ext
    replace sh := Same.seq f18.ext sh
    walk_at "wp"
    refine neInts hh.sub d18 (TupZ.dp zs) ?_
    walk_at "wp"
    refine w_compR (K := K) (I := I18) (M := No) (m := 25) (by omega) (by omega) (fun Q q => ?_)
      (CompOk.filt (fun k => decide (((k : Nat) : Int) ∉ ns)) (fun k => .int (k : Nat)) hh.sub (fun b h => h.elim) (small1000 (by decide)) (fun k I5 H5 R hk f5 hR => ?_) (fun k I5 H5 R hk hT f5 hR => ?_) (fun I19 H19 E2 vs2 f19 g1 g2 g3 hv => ?_))
    · walk_at "wp"
      exact q
    · simp only [List.set_cons_zero, List.set_cons_succ]
      walk_at "wp"
      refine w_ninI (.inr (Same.seqT (f5.ext.trans f5.sub) (TupZ.sq zf))) ?_
      walk_at "wp"
      exact hR _ I5 H5 (by simp) (Lf.refl f5.sub)
    · simp only [List.set_cons_zero, List.set_cons_succ]
      walk_at "wp"
      exact hR _ I5 H5 (Lf.refl f5.sub) (.int _)
    obtain ⟨s, rest, es, hs⟩ := strange_ok hin
    rw [es] at hv
    cases hv with
    | cons hv1 hv2 =>
    cases hv1
    replace hh := hh.to f19 (fun h => h)
    replace F := F.trans f19.any
    replace zf := TupZ.up zf f19.ext
    replace zr := TupZ.up zr f19.ext
    replace zs := TupZ.up zs f19.ext
    replace r6 := FrAt.up r6 f19.ext
    replace r7 := FrAt.up r7 f19.ext
    replace r8 := FrAt.up r8 f19.ext
    replace sh := Same.seq f19.ext sh
    walk_at "wp"
    refine w_ixS (.inl (ofL g3)) (by omega) rfl ?_
    walk_at "wp"
    refine ⟨I19, hd, .ref rp, (ns.length : Int), ks, rgI ns.length, rfl, hh, TupZ.dp zr, hnd, fun k hk => mem_rgI.mpr (hkin k hk), fun h => by have := (mem_rgI.mp h).2; omega, lk, fun I21 H21 v21 d21 at21 f21 hh21 dt hrf => ?_⟩
    replace hh := hh21
    replace F := F.trans f21
    replace zf := TupZ.up zf f21.ext
    replace zr := TupZ.up zr f21.ext
    replace zs := TupZ.up zs f21.ext
    replace r6 := FrAt.up r6 f21.ext
    replace r7 := FrAt.up r7 f21.ext
    replace r8 := FrAt.up r8 f21.ext
    replace sh := Same.seq f21.ext sh
    obtain ⟨pt, xt, rfl, ht, hx⟩ := Dp.tupRef dt
    obtain ⟨xb, rfl, db⟩ := DpAll.two hx
    refine w_gpairS (K := K) (Same.seqT hh.sub ht) ?_
    simp only [List.set_cons_zero, List.set_cons_succ]
    walk_at "wp"
    refine w_ixS (.inl (Same.seq hh.sub sh)) (by omega) rfl ?_
    walk_at "wp"
    refine asked1_row hh.sub (FrAt.dp r6) db (FrAt.seq r6) hpw hin hrf fun I22 H22 v22 f22 d22 => ?_
    replace hh := hh.to f22 (fun h => h)
    replace F := F.trans f22.any
    replace zf := TupZ.up zf f22.ext
    replace zr := TupZ.up zr f22.ext
    replace zs := TupZ.up zs f22.ext
    replace r6 := FrAt.up r6 f22.ext
    replace r7 := FrAt.up r7 f22.ext
    replace r8 := FrAt.up r8 f22.ext
    replace sh := Same.seq f22.ext sh
    walk_at "wp"
    refine w_newT (K := K) hh.sub (.cons (.str _) (.cons (.int _) .nil)) (by show 2 ≤ sizeLine; decide) fun I23 p23 f23 d23 => ?_
    replace hh := hh.to f23 (fun h => h)
    replace F := F.trans f23.any
    replace zf := TupZ.up zf f23.ext
    replace zr := TupZ.up zr f23.ext
    replace zs := TupZ.up zs f23.ext
    replace r6 := FrAt.up r6 f23.ext
    replace r7 := FrAt.up r7 f23.ext
    replace r8 := FrAt.up r8 f23.ext
    replace sh := Same.seq f23.ext sh
    replace d22 := Dp.up d22 f23.ext
    walk_at "wp"
    refine exactly hh.sub d22 d23 (plain_pair shaped_row) fun H24 f24 => ?_
    replace hh := hh.to f24 (fun h => h)
    replace F := F.trans f24.any
    walk_at "wp"
    refine ⟨I23, hd, .ref sp, (s : Int), spellI ns ks, ns, rfl, hh, TupZ.dp zs, hsn, hsm, hs, ls, fun I25 H25 v25 d25 at25 f25 hh25 dt2 hrf2 => ?_⟩
    replace hh := hh25
    replace F := F.trans f25
    replace zf := TupZ.up zf f25.ext
    replace zr := TupZ.up zr f25.ext
    replace zs := TupZ.up zs f25.ext
    replace r6 := FrAt.up r6 f25.ext
    replace r7 := FrAt.up r7 f25.ext
    replace r8 := FrAt.up r8 f25.ext
    replace sh := Same.seq f25.ext sh
    obtain ⟨pt2, xt2, rfl, ht2, hx2⟩ := Dp.tupRef dt2
    obtain ⟨xb2, rfl, db2⟩ := DpAll.two hx2
    refine w_gpairS (K := K) (Same.seqT hh.sub ht2) ?_
    simp only [List.set_cons_zero, List.set_cons_succ]
    walk_at "wp"
    refine w_ixS (.inl (Same.seq hh.sub sh)) (by omega) rfl ?_
    walk_at "wp"
    refine asked2_row hh.sub (FrAt.dp r6) db2 (FrAt.seq r6) r6 hpw hin hrf2 fun I26 H26 v26 f26 d26 => ?_
    replace hh := hh.to f26 (fun h => h)
    replace F := F.trans f26.any
    replace zf := TupZ.up zf f26.ext
    replace zr := TupZ.up zr f26.ext
    replace zs := TupZ.up zs f26.ext
    replace r6 := FrAt.up r6 f26.ext
    replace r7 := FrAt.up r7 f26.ext
    replace r8 := FrAt.up r8 f26.ext
    replace sh := Same.seq f26.ext sh
    replace db2 := Dp.up db2 f26.ext
    walk_at "wp"
    refine w_newT (K := K) hh.sub (.cons (.str _) (.cons (.int _) .nil)) (by show 2 ≤ sizeLine; decide) fun I27 p27 f27 d27 => ?_
    replace hh := hh.to f27 (fun h => h)
    replace F := F.trans f27.any
    replace zf := TupZ.up zf f27.ext
    replace zr := TupZ.up zr f27.ext
    replace zs := TupZ.up zs f27.ext
    replace r6 := FrAt.up r6 f27.ext
    replace r7 := FrAt.up r7 f27.ext
    replace r8 := FrAt.up r8 f27.ext
    replace sh := Same.seq f27.ext sh
    replace d26 := Dp.up d26 f27.ext
    replace db2 := Dp.up db2 f27.ext
    walk_at "wp"
    refine exactly hh.sub d26 d27 (plain_pair shaped_row) fun H28 f28 => ?_
    replace hh := hh.to f28 (fun h => h)
    replace F := F.trans f28.any
    walk_at "wp"
    refine ⟨I27, hd, .ref fp, ns, rfl, hh, TupZ.dp zf, hpw, hin, hl, fun I29 H29 v29 d29 at29 f29 hh29 dt3 hlf => ?_⟩
    replace hh := hh29
    replace F := F.trans f29
    replace zf := TupZ.up zf f29.ext
    replace db2 := Dp.up db2 f29.ext
    obtain ⟨pt3, xt3, rfl, ht3, hx3⟩ := Dp.tupRef dt3
    obtain ⟨xo, rfl, dodd⟩ := DpAll.two hx3
    refine w_gpairS (K := K) (Same.seqT hh.sub ht3) ?_
    simp only [List.set_cons_zero, List.set_cons_succ]
    walk_at "wp"
    refine w_forR2 (m := 1) (n := 3) (by omega) (by omega) (by omega) (by omega) (fun i σ H' => ∃ (I' : Hp) (y : Option V), σ = [some (V.ref hd), some (V.ref fp), some (V.int ns.length), some (V.ref rp), some (V.ref sp), some (V.ref hp),
      some (V.int s), some xb2, some (V.int at25), some xo, some (V.int at29), y, none] ∧ Lf (· = hd) I H I' H' ∧ Hand K I' H' hd ∧ Same I29 I') (fun Q q => ?_) ⟨I29, none, rfl, F, hh, Same.refl _⟩ (fun i σ H' hi h => ?_) (fun σ H' h => ?_)
    · walk_at "wp"
      exact q
    · obtain ⟨I', y, rfl, F, hh, S⟩ := h
      refine w_name ?_
      simp only [List.set_cons_zero, List.set_cons_succ]
      replace zf := TupZ.up zf S
      replace db2 := Dp.up db2 S
      replace dodd := Dp.up dodd S
      have hi2 : i = 0 ∨ i = 1 := by omega
      rcases hi2 with rfl | rfl
      · rw [show (1 : Int) + ((0 : Nat) : Int) = 1 from rfl]
        walk_at "wp"
        refine asked1_frames hh.sub dodd db2 hlf fun I31 H31 v31 f31 d31 => ?_
        replace hh := hh.to f31 (fun h => h)
        replace F := F.trans f31.any
        replace zf := TupZ.up zf f31.ext
        replace db2 := Dp.up db2 f31.ext
        replace dodd := Dp.up dodd f31.ext
        walk_at "wp"
        refine w_newT (K := K) hh.sub (.cons (.str _) (.cons (.int _) .nil)) (by show 2 ≤ sizeLine; decide) fun I32 p32 f32 d32 => ?_
        replace hh := hh.to f32 (fun h => h)
        replace F := F.trans f32.any
        replace zf := TupZ.up zf f32.ext
        replace db2 := Dp.up db2 f32.ext
        replace d31 := Dp.up d31 f32.ext
        replace dodd := Dp.up dodd f32.ext
        walk_at "wp"
        refine exactly hh.sub d31 d32 (plain_pair shaped_frames) fun H33 f33 => ?_
        replace hh := hh.to f33 (fun h => h)
        replace F := F.trans f33.any
        walk_at "wp"
        refine w_newT (K := K) hh.sub .nil (by show 0 ≤ sizeLine; decide) fun I34 p34 f34 d34 => ?_
        replace hh := hh.to f34 (fun h => h)
        replace F := F.trans f34.any
        replace zf := TupZ.up zf f34.ext
        replace db2 := Dp.up db2 f34.ext
        replace dodd := Dp.up dodd f34.ext
        walk_at "wp"
        refine asked1_frames hh.sub dodd d34 hlf fun I35 H35 v35 f35 d35 => ?_
        replace hh := hh.to f35 (fun h => h)
        replace F := F.trans f35.any
        replace zf := TupZ.up zf f35.ext
        replace db2 := Dp.up db2 f35.ext
        replace dodd := Dp.up dodd f35.ext
        walk_at "wp"
        refine w_newT (K := K) hh.sub (.cons (.str _) (.cons (.int _) .nil)) (by show 2 ≤ sizeLine; decide) fun I36 p36 f36 d36 => ?_
        replace hh := hh.to f36 (fun h => h)
        replace F := F.trans f36.any
        replace zf := TupZ.up zf f36.ext
        replace db2 := Dp.up db2 f36.ext
        replace d35 := Dp.up d35 f36.ext
        replace dodd := Dp.up dodd f36.ext
        walk_at "wp"
        refine exactly hh.sub d35 d36 (plain_pair shaped_frames) fun H37 f37 => ?_
        replace hh := hh.to f37 (fun h => h)
        replace F := F.trans f37.any
        walk_at "wp"
        exact ⟨I36, _, rfl, F, hh, ((((S.trans f31.ext).trans f32.ext).trans f34.ext).trans f35.ext).trans f36.ext⟩
      · rw [show (1 : Int) + ((1 : Nat) : Int) = 2 from rfl]
        walk_at "wp"
        refine asked2_frames hh.sub dodd db2 hlf fun I31 H31 v31 f31 d31 => ?_
        replace hh := hh.to f31 (fun h => h)
        replace F := F.trans f31.any
        replace zf := TupZ.up zf f31.ext
        replace db2 := Dp.up db2 f31.ext
        replace dodd := Dp.up dodd f31.ext
        walk_at "wp"
        refine w_newT (K := K) hh.sub (.cons (.str _) (.cons (.int _) .nil)) (by show 2 ≤ sizeLine; decide) fun I32 p32 f32 d32 => ?_
        replace hh := hh.to f32 (fun h => h)
        replace F := F.trans f32.any
        replace zf := TupZ.up zf f32.ext
        replace db2 := Dp.up db2 f32.ext
        replace d31 := Dp.up d31 f32.ext
        replace dodd := Dp.up dodd f32.ext
        walk_at "wp"
        refine exactly hh.sub d31 d32 (plain_pair shaped_frames) fun H33 f33 => ?_
        replace hh := hh.to f33 (fun h => h)
        replace F := F.trans f33.any
        walk_at "wp"
        refine w_newT (K := K) hh.sub .nil (by show 0 ≤ sizeLine; decide) fun I34 p34 f34 d34 => ?_
        replace hh := hh.to f34 (fun h => h)
        replace F := F.trans f34.any
        replace zf := TupZ.up zf f34.ext
        replace db2 := Dp.up db2 f34.ext
        replace dodd := Dp.up dodd f34.ext
        walk_at "wp"
        refine asked2_frames hh.sub dodd d34 hlf fun I35 H35 v35 f35 d35 => ?_
        replace hh := hh.to f35 (fun h => h)
        replace F := F.trans f35.any
        replace zf := TupZ.up zf f35.ext
        replace db2 := Dp.up db2 f35.ext
        replace dodd := Dp.up dodd f35.ext
        walk_at "wp"
        refine w_newT (K := K) hh.sub (.cons (.str _) (.cons (.int _) .nil)) (by show 2 ≤ sizeLine; decide) fun I36 p36 f36 d36 => ?_
        replace hh := hh.to f36 (fun h => h)
        replace F := F.trans f36.any
        replace zf := TupZ.up zf f36.ext
        replace db2 := Dp.up db2 f36.ext
        replace d35 := Dp.up d35 f36.ext
        replace dodd := Dp.up dodd f36.ext
        walk_at "wp"
        refine exactly hh.sub d35 d36 (plain_pair shaped_frames) fun H37 f37 => ?_
        replace hh := hh.to f37 (fun h => h)
        replace F := F.trans f37.any
        walk_at "wp"
        exact ⟨I36, _, rfl, F, hh, ((((S.trans f31.ext).trans f32.ext).trans f34.ext).trans f35.ext).trans f36.ext⟩
    · obtain ⟨I', y, rfl, F, hh, S⟩ := h
      replace zf := TupZ.up zf S
      walk_at "wp"
      refine asked2_told hh.sub (TupZ.dp zf) (TupZ.dp zf) (.inl rfl) (.inl ⟨rfl, fp, rfl, zf⟩) hpw hin (.inl rfl) hns (fun k hk => hk) fun I38 H38 v38 f38 d38 => ?_
      rw [count_self hns] at d38
      replace hh := hh.to f38 (fun h => h)
      replace F := F.trans f38.any
      replace zf := TupZ.up zf f38.ext
      walk_at "wp"
      refine ⟨rgOk0 (by omega) (by omega), fun pr hpr => ?_⟩
      have f39 : Lf No I38 H38 (upd I38 pr (.tup (rgV 0 ns.length))) _ := Lf.put (o := .tup (rgV 0 ns.length)) hh.sub hpr
      have dr : Dp K (upd I38 pr (.tup (rgV 0 ns.length))) (.ref pr) (tupI (rgI ns.length)) := .tup (ofT upd_same) (by rw [rgV_rgI]; exact DpAll.ints _)
      replace hh := hh.to f39 (fun h => h)
      replace F := F.trans f39.any
      replace d38 := Dp.up d38 f39.ext
      walk_at "wp"
      refine w_newT (K := K) hh.sub (.cons (.str _) (.cons dr .nil)) (by show 2 ≤ sizeLine; decide) fun I40 p40 f40 d40 => ?_
      replace hh := hh.to f40 (fun h => h)
      replace F := F.trans f40.any
      replace d38 := Dp.up d38 f40.ext
      walk_at "wp"
      refine exactly hh.sub d38 d40 (plain_told shaped_told (by simp [rgI]; omega)) fun H41 f41 => ?_
      replace hh := hh.to f41 (fun h => h)
      replace F := F.trans f41.any
      exact q _ _ F hh
end
section
variable {P : Program} {w : World} {K : PySem.W.Frag} {mg : Str → Option Value} {base : Heap} {a : Adr}
def manyI : List Int := [2, 4, 9, 24, 1000000000]
theorem manyI_in {z : Int} (h : z ∈ manyI) : 0 < z ∧ z < 1073741824 := by
  simp [manyI] at h
  omega
section
variable {I H : Hp} {Q : VK} {E : XK} {v : V} {ns : List Int} {hd p : Addr}
theorem seqL (hh : Hand K I H hd) (z : Dp K I v (.list (ns.map .int))) (q : ∀ I' H' v' d', Lf (· = hd) I H I' H' → Hand K I' H' hd → Dp K I' v' d' → SeqD d' ns → Q v' H') : spSeq K [.ref hd, v] H Q E :=
  ⟨I, hd, v, ns.map .int, rfl, hh, fun I' H' r f h d => q I' H' r _ f h d (.inr rfl), .inr ⟨z, fun I' H' r f h d => q I' H' r _ f h d (.inl rfl)⟩⟩
end
theorem ok_law_first_times (T : Top K mg a) : FnOk P w K mg base CX0 7 a.f_law_first_times a.d_law_first_times ["_law_hand_here"] (spTrue K) := by
  refine T.F_law_first_times.ok sc_law_first_times (fun vs H Q E h => ?_) (fun cdv A outer s H vs Q E hr h => ?_)
  · obtain ⟨I, hd, rfl, _⟩ := h
    rfl
  · obtain ⟨I, hd, rfl, hh, q⟩ := h
    refine ⟨_, (pss_cons (ps_set (i := 1) sc_law_first_times.nd rfl (Or.inr rfl) (pe_ix (ix_K (K := K) rfl) (pe_lst (pa_cons pe_int (pa_cons pe_int (pa_cons pe_int (pa_cons pe_int (pa_cons (pe_op op_pow pe_int pe_int) pa_nil)))))) (pe_call (ok_law_draw T) (hr.mono (by decide)) (by rfl) T.g_law_draw T.F_law_draw.kp T.b_law_draw .nil pass0 (pa_cons (pv 0) (pa_cons pe_int pa_nil))) (fun _ _ => rfl))) (pss_cons (ps_setLc (i := 2) (own := [("_law_k", 6)]) (g := gName 6) (by rfl) sc_law_first_times.nd rfl rfl (sw_true rfl rfl rfl (by decide +kernel)) (pi_range1 (by rfl) T.n_range (pa_cons (pe_call (ok_law_draw T) (hr.mono (by decide)) (by rfl) T.g_law_draw T.F_law_draw.kp T.b_law_draw .nil pass0 (pa_cons (pv 0) (pa_cons pe_int pa_nil))) pa_nil)) (blkOk_by (own := [("_law_k", 6)]) (N := ["_law_hand_here", "_law_many", "_law_frames", "_law_row", "_law_handed", "_law_at", "_law_k"]) (sc := defScope s_law_first_times) (by decide +kernel)) (fun _ _ _ _ _ => (pg_name (i := 6) sc_law_first_times.nd rfl (Or.inl rfl))) (fun _ _ _ _ _ => pts_nil) (fun _ _ _ _ _ => (pe_call (ok_law_draw T) (hr.mono (by decide)) (by rfl) T.g_law_draw T.F_law_draw.kp T.b_law_draw .nil pass0 (pa_cons (pv 0) (pa_cons (pv 1) pa_nil))))) (pss_cons (ps_set (i := 3) sc_law_first_times.nd rfl (Or.inl rfl) (pe_tup pa_nil)) (pss_cons (ps_set (i := 4) sc_law_first_times.nd rfl (Or.inl rfl) (pe_call (ok_law_seq T) (hr.mono (by decide)) (by rfl) T.g_law_seq T.F_law_seq.kp T.b_law_seq .nil pass0 (pa_cons (pv 0) (pa_cons (pv 2) pa_nil)))) (pss_cons (ps_for PassesOwn.never rfl (pi_range1 (by rfl) T.n_range (pa_cons (pe_callB (call_lenK (K := K) rfl) (by rfl) T.n_len (by decide +kernel) (pa_cons (pv 2) pa_nil)) pa_nil)) (pg_name (i := 5) sc_law_first_times.nd rfl (Or.inl rfl)) (pss_cons (ps_if (pt_cmpR (op_ninK (K := K) rfl) (pe_ix (ix_K (K := K) rfl) (pv 2) (pv 5) (fun _ _ => rfl)) (pv 3) (by rfl)) (pss_one (ps_set (i := 3) sc_law_first_times.nd rfl (Or.inl rfl) (pe_op (op_catK (K := K) rfl) (pv 3) (pe_tup (pa_cons (pe_ix (ix_K (K := K) rfl) (pv 2) (pv 5) (fun _ _ => rfl)) pa_nil))))) pss_nil) (pss_one (ps_if (PW.pt (pw_and (pt_cmpR op_eq (pe_op op_mod (pe_callTy call_intI (by rfl) T.n_int (by decide +kernel) (pa_cons (pv 5) pa_nil)) pe_int) pe_int (nomark _)) (pw_and1 (pt_not (pt_val (pe_call (ok_law_exact T) (hr.mono (by decide)) (by rfl) T.g_law_exact T.F_law_exact.kp T.b_law_exact .nil pass0 (pa_cons (pe_call (ok_first_time_row T) (hr.mono (by decide)) (by rfl) T.g_first_time_row T.F_first_time_row.kp T.b_first_time_row .nil pass0 (pa_cons (pe_slice (sl_listK (K := K) rfl) (pv 2) po_none (po_some (pe_op op_add (pv 5) pe_int))) pa_nil)) (pa_cons (pv 3) pa_nil)))))))) (pss_one (ps_ret pe_bl)) pss_nil)))) (pss_one (ps_ret (pe_and (pe_call (ok_law_exact T) (hr.mono (by decide)) (by rfl) T.g_law_exact T.F_law_exact.kp T.b_law_exact .nil pass0 (pa_cons (pe_call (ok_first_time_row T) (hr.mono (by decide)) (by rfl) T.g_first_time_row T.F_first_time_row.kp T.b_first_time_row .nil pass0 (pa_cons (pv 4) pa_nil)) (pa_cons (pv 3) pa_nil))) (pe_and (pe_cmpR (op_eqK (K := K) rfl hr.units) (pe_callTy (call_listK (K := K) rfl) (by rfl) T.n_list (by decide +kernel) (pa_cons (pv 4) pa_nil)) (pv 2) (nomark _)) (pe_one (pe_call (ok_law_exact T) (hr.mono (by decide)) (by rfl) T.g_law_exact T.F_law_exact.kp T.b_law_exact .nil pass0 (pa_cons (pe_call (ok_first_time_row T) (hr.mono (by decide)) (by rfl) T.g_first_time_row T.F_first_time_row.kp T.b_first_time_row .nil pass0 (pa_cons (pe_lst pa_nil) pa_nil)) (pa_cons (pe_tup pa_nil) pa_nil))))))))))))), ?_⟩
    walk_at "st"
    walk_at "wp"
    have F : Lf (· = hd) I H I H := Lf.refl hh.sub
    refine w_putL (K := K) hh.sub (by show 5 ≤ sizeLine; decide) fun I1 p1 f1 s1 => ?_
    replace hh := hh.to f1 (fun h => h)
    replace F := F.trans f1.any
    walk_at "wp"
    refine ⟨I1, hd, 5, rfl, hh, by omega, by omega, fun H2 r f2 hh2 r0 r1 => ?_⟩
    replace hh := hh2
    replace F := F.trans f2
    replace s1 := Same.seq f2.ext s1
    walk_at "wp"
    have s1' : SqL K H2 p1 (manyI.map V.int) := Same.seq hh.sub s1
    refine w_ixInts s1' r0 (by show r < 5; omega) fun z hz => ?_
    have hz' := manyI_in hz
    walk_at "wp"
    refine w_lcIter ?_
    walk_at "wp"
    refine ⟨I1, hd, 61, rfl, hh, by omega, by omega, fun H3 n f3 hh3 n0 n1 => ?_⟩
    replace hh := hh3
    replace F := F.trans f3
    refine w_compR (K := K) (I := I1) (M := (· = hd)) (m := n)
      (Inv := fun k I' H' ds => Hand K I' H' hd ∧ ∃ ns : List Int, ds = ns.map .int ∧ ns.length = k) (Mid := fun k b I' H' ds => b = true ∧ Hand K I' H' hd ∧ ∃ ns : List Int, ds = ns.map .int ∧ ns.length = k) n0 (by omega) (fun Q q => q)
      (CompOk.map hh.sub (fun b h => h ▸ hh.ne) (small1000 (by omega)) ⟨hh, [], rfl, rfl⟩ (fun k I' H' ds E o hE iE h => ⟨Hand.upd h.1 iE (hh.neOf hE), h.2⟩) (fun k I5 H5 ds R hk f5 hi hR => ?_) (fun I4 H4 E vs ds f4 g1 g2 g3 hv hi => ?_))
    · simp only [List.set_cons_zero, List.set_cons_succ]
      walk_at "wp"
      obtain ⟨hh5, ns, rfl, hl⟩ := hi
      refine ⟨I5, hd, z, rfl, hh5, hz'.1, hz'.2, fun H6 y f6 hh6 _ _ => ?_⟩
      exact hR _ (.int y) I5 H6 f6 (.int y) ⟨hh6, ns ++ [y], by rw [List.map_append]; rfl, by rw [List.length_append, hl]; rfl⟩
    obtain ⟨hh4, ns, rfl, hl⟩ := hi
    obtain rfl := DpAll.isInts hv
    have f4' := Lf.freeze f4 hh.sub g1 g3
    have hhE := handFreeze hh4 g3 g2 (hh.neOf g1)
    replace F := F.trans f4'
    replace hh := hhE
    have dF : Dp K (upd I4 E (.lst (ns.map V.int))) (.ref E) (.list (ns.map .int)) := .lst (ofL upd_same) (DpAll.ints ns)
    walk_at "wp"
    refine w_newT (K := K) hh.sub .nil (by show 0 ≤ sizeLine; decide) fun I5 p5 f5 dR => ?_
    replace hh := hh.to f5 (fun h => h)
    replace F := F.trans f5.any
    replace dF := Dp.up dF f5.ext
    walk_at "wp"
    refine seqL hh dF fun I6 H6 v6 d6 f6 hh6 dH sH => ?_
    replace hh := hh6
    replace F := F.trans f6
    replace dF := Dp.up dF f6.ext
    replace dR := Dp.up dR f6.ext
    walk_at "wp"
    have hn : ns.length ≤ 60 := by omega
    refine w_forR1 (n := (ns.length : Int)) (by omega) (by omega) (fun i σ H' => ∃ (I' : Hp) (vr : V) (y : Option V), σ = [some (V.ref hd), some (.int z), some (.ref E), some vr, some v6, y, none] ∧ Lf (· = hd) I H I' H' ∧ Hand K I' H' hd ∧
      Dp K I' (.ref E) (.list (ns.map .int)) ∧ Dp K I' v6 d6 ∧ Dp K I' vr (tupI (ftI (ns.take i)))) (fun Q q => ?_) ⟨I6, _, none, rfl, F, hh, dF, dH, dR⟩ (fun i σ H' hi h => ?_) (fun σ H' h => ?_)
    · walk_at "wp"
      refine w_lenD hh.sub (.inr dF) ?_
      rw [List.length_map]
      walk_at "wp"
      exact q
    · obtain ⟨I', vr, y, rfl, F, hh, dF, dH, dR⟩ := h
      have hi' : i < ns.length := by omega
      refine w_name ?_
      simp only [List.set_cons_zero, List.set_cons_succ]
      walk_at "wp"
      refine w_ixD hh.sub (.inr dF) (by omega) (d := .int ns[i]) (by simp [hi']) fun v1 h1 => ?_
      obtain rfl := Dp.ofInt h1
      walk_at "wp"
      obtain ⟨pr, rfl, hpr⟩ := dpSeq (.inl dR)
      refine w_ninI (seq_up hpr hh.sub) ?_
      walk_at "wp"
      have e1 : ftI (ns.take (i + 1)) = ftS (ftI (ns.take i)) ns[i] := by
        rw [take_at (List.getElem?_eq_getElem hi'), ftI_snoc]
      refine w_ifn (fun c => ?_) (fun c => ?_)
      · walk_at "wp"
        refine w_ixD hh.sub (.inr dF) (by omega) (d := .int ns[i]) (by simp [hi']) fun v2 h2 => ?_
        obtain rfl := Dp.ofInt h2
        walk_at "wp"
        refine w_newT (K := K) hh.sub (.cons (.int _) .nil) (by show 1 ≤ sizeLine; decide) fun I7 p7 f7 d7 => ?_
        replace hh := hh.to f7 (fun h => h)
        replace F := F.trans f7.any
        replace dF := Dp.up dF f7.ext
        replace dH := Dp.up dH f7.ext
        replace dR := Dp.up dR f7.ext
        walk_at "wp"
        refine w_catT (K := K) hh.sub dR d7 ?_ fun I8 H8 v8 f8 d8 => ?_
        · have := ftI_len (ns.take i)
          rw [List.length_take] at this
          rw [List.length_map, List.length_singleton]
          exact Nat.le_of_lt (small1000 (by omega))
        replace hh := hh.to f8 (fun h => h)
        replace F := F.trans f8.any
        replace dF := Dp.up dF f8.ext
        replace dH := Dp.up dH f8.ext
        replace dR : Dp K I8 v8 (tupI (ftI (ns.take (i + 1)))) := by
          rw [e1, ftS, if_neg c, tupI, List.map_append]
          exact d8
        walk_at "wp"
        refine w_if (fun c4 => ?_) (fun c4 => ?_)
        · walk_at "wp"
          refine w_takeL (K := K) hh.sub dF (by omega) fun I10 H10 v10 f10 d10 => ?_
          replace hh := hh.to f10 (fun h => h)
          replace F := F.trans f10.any
          replace dF := Dp.up dF f10.ext
          replace dH := Dp.up dH f10.ext
          replace dR := Dp.up dR f10.ext
          walk_at "wp"
          have e10 : (ns.map PyData.int).take ((i : Int) + 1).toNat = (ns.take (i + 1)).map PyData.int := by
            rw [List.map_take]
            congr 1
          rw [e10] at d10
          refine ⟨I10, v10, _, ns.take (i + 1), rfl, hh.sub, d10, .inr rfl, by rw [List.length_take]; omega, fun I11 H11 v11 f11 d11 => ?_⟩
          replace hh := hh.to f11 (fun h => h)
          replace F := F.trans f11.any
          replace dF := Dp.up dF f11.ext
          replace dH := Dp.up dH f11.ext
          replace dR := Dp.up dR f11.ext
          walk_at "wp"
          refine exactly hh.sub d11 dR (plain_tup (by have := ftI_len (ns.take (i + 1)); rw [List.length_take] at this; omega)) fun H12 f12 => ?_
          replace hh := hh.to f12 (fun h => h)
          replace F := F.trans f12.any
          walk_at "wp"
          exact ⟨I11, _, _, rfl, F, hh, dF, dH, dR⟩
        · walk_at "wp"
          exact ⟨_, _, _, rfl, F, hh, dF, dH, dR⟩
      · replace dR : Dp K I' (.ref pr) (tupI (ftI (ns.take (i + 1)))) := by
          rw [e1, ftS, if_pos c]
          exact dR
        walk_at "wp"
        refine w_if (fun c4 => ?_) (fun c4 => ?_)
        · walk_at "wp"
          refine w_takeL (K := K) hh.sub dF (by omega) fun I10 H10 v10 f10 d10 => ?_
          replace hh := hh.to f10 (fun h => h)
          replace F := F.trans f10.any
          replace dF := Dp.up dF f10.ext
          replace dH := Dp.up dH f10.ext
          replace dR := Dp.up dR f10.ext
          walk_at "wp"
          have e10 : (ns.map PyData.int).take ((i : Int) + 1).toNat = (ns.take (i + 1)).map PyData.int := by
            rw [List.map_take]
            congr 1
          rw [e10] at d10
          refine ⟨I10, v10, _, ns.take (i + 1), rfl, hh.sub, d10, .inr rfl, by rw [List.length_take]; omega, fun I11 H11 v11 f11 d11 => ?_⟩
          replace hh := hh.to f11 (fun h => h)
          replace F := F.trans f11.any
          replace dF := Dp.up dF f11.ext
          replace dH := Dp.up dH f11.ext
          replace dR := Dp.up dR f11.ext
          walk_at "wp"
          refine exactly hh.sub d11 dR (plain_tup (by have := ftI_len (ns.take (i + 1)); rw [List.length_take] at this; omega)) fun H12 f12 => ?_
          replace hh := hh.to f12 (fun h => h)
          replace F := F.trans f12.any
          walk_at "wp"
          exact ⟨I11, _, _, rfl, F, hh, dF, dH, dR⟩
        · walk_at "wp"
          exact ⟨_, _, _, rfl, F, hh, dF, dH, dR⟩
    · obtain ⟨I', vr, y, rfl, F, hh, dF, dH, dR⟩ := h
      rw [Int.toNat_natCast, List.take_length] at dR
      have lft := ftI_len ns
      walk_at "wp"
      refine ⟨I', v6, d6, ns, rfl, hh.sub, dH, sH, by omega, fun I7 H7 v7 f7 d7 => ?_⟩
      replace hh := hh.to f7 (fun h => h)
      replace F := F.trans f7.any
      replace dF := Dp.up dF f7.ext
      replace dH := Dp.up dH f7.ext
      replace dR := Dp.up dR f7.ext
      walk_at "wp"
      refine exactly hh.sub d7 dR (plain_tup (by omega)) fun H8 f8 => ?_
      replace hh := hh.to f8 (fun h => h)
      replace F := F.trans f8.any
      walk_at "wp"
      obtain ⟨ph, rfl, hph⟩ := dpSeq (SeqD.dp sH dH)
      refine ⟨ph, _, rfl, seq_up hph hh.sub, fun l hl0 => ?_⟩
      have f9 : Lf No I7 H8 (upd I7 l (.lst (ns.map V.int))) _ := Lf.put (o := .lst (ns.map V.int)) hh.sub hl0
      have dL : Dp K (upd I7 l (.lst (ns.map V.int))) (.ref l) (.list (ns.map .int)) := .lst (ofL upd_same) (DpAll.ints ns)
      replace hh := hh.to f9 (fun h => h)
      replace F := F.trans f9.any
      replace dF := Dp.up dF f9.ext
      walk_at "wp"
      refine w_eqD (Dp.up dL hh.sub) (Dp.up dF hh.sub) (shaped_intsL _) (shaped_intsL _) ?_
      rw [show PyData.eqv (.list (ns.map PyData.int)) (.list (ns.map PyData.int)) = true from by
        show PyData.eqvAll _ _ = true
        rw [eqvAll_ints, decide_eq_true rfl]]
      walk_at "wp"
      refine w_newL (K := K) hh.sub .nil (by show 0 ≤ sizeLine; decide) fun I10 p10 f10 d10 => ?_
      replace hh := hh.to f10 (fun h => h)
      replace F := F.trans f10.any
      walk_at "wp"
      refine ⟨I10, _, _, [], rfl, hh.sub, d10, .inr rfl, by decide, fun I11 H11 v11 f11 d11 => ?_⟩
      replace hh := hh.to f11 (fun h => h)
      replace F := F.trans f11.any
      walk_at "wp"
      refine w_newT (K := K) hh.sub .nil (by show 0 ≤ sizeLine; decide) fun I12 p12 f12 d12 => ?_
      replace hh := hh.to f12 (fun h => h)
      replace F := F.trans f12.any
      replace d11 := Dp.up d11 f12.ext
      walk_at "wp"
      refine exactly hh.sub d11 d12 (plain_tup (ns := []) (by decide)) fun H13 f13 => ?_
      replace hh := hh.to f13 (fun h => h)
      replace F := F.trans f13.any
      exact q _ _ F hh
end
section
variable {P : Program} {w : World} {K : PySem.W.Frag} {mg : Str → Option Value} {base : Heap} {a : Adr}
theorem canLayAll_rows : ∀ rs : List (List Int), PyData.canLayAll0 (rs.map tupI) = true
  | [] => rfl
  | r :: rs => by
    show (PyData.canLay0 (tupI r) && PyData.canLayAll0 (rs.map tupI)) = true
    rw [canLayAll_rows rs]
    show (PyData.canLayAll0 (r.map .int) && true) = true
    rw [L3.canLayAll_ints]
    rfl
theorem depthAll_rows : ∀ rs : List (List Int), PyData.depthAll (rs.map tupI) ≤ 1
  | [] => Nat.zero_le _
  | r :: rs => by
    show max (PyData.depthAll (r.map .int) + 1) (PyData.depthAll (rs.map tupI)) ≤ 1
    have := depthAll_rows rs
    rw [L3.depthAll_ints]
    omega
theorem shaped_rows (rs : List (List Int)) : SeqAt.shaped (.list (rs.map tupI)) = true := by
  unfold SeqAt.shaped
  rw [show PyData.canLay0 (.list (rs.map tupI)) = PyData.canLayAll0 (rs.map tupI) from rfl, canLayAll_rows]
  rw [show PyData.depth (.list (rs.map tupI)) = PyData.depthAll (rs.map tupI) + 1 from rfl]
  have := depthAll_rows rs
  rw [Bool.true_and, decide_eq_true_eq]
  omega
theorem eqvAll_rows : ∀ rs : List (List Int), PyData.eqvAll (rs.map tupI) (rs.map tupI) = true
  | [] => rfl
  | r :: rs => by
    show (PyData.eqvAll (r.map .int) (r.map .int) && PyData.eqvAll (rs.map tupI) (rs.map tupI)) = true
    rw [eqvAll_rows rs, eqvAll_ints, decide_eq_true rfl]
    rfl
def preP (n i k : Nat) : List (Nat × Nat) := (List.range i).flatMap (rowP n) ++ (List.range k).map fun k => (i, i + 1 + k)
theorem preP_zero {n i : Nat} : preP n i 0 = (List.range i).flatMap (rowP n) := by
  unfold preP
  simp
theorem preP_succ {n i k : Nat} : preP n i (k + 1) = preP n i k ++ [(i, i + 1 + k)] := by
  unfold preP
  rw [List.range_succ, List.map_append, List.append_assoc]
  rfl
theorem preP_end {n i : Nat} : preP n i (n - (i + 1)) = (List.range (i + 1)).flatMap (rowP n) := by
  unfold preP
  rw [List.range_succ, List.flatMap_append, List.flatMap_singleton]
  rfl
def pairI (p : Nat × Nat) : PyData := .tuple [.int (p.1 : Nat), .int (p.2 : Nat)]
theorem optPair_head {L : List (Nat × Nat)} {P : Nat × Nat → Bool} : optPair (L.find? P) = headD pairI (L.filter P).head? := by
  rw [List.head?_filter]
  cases L.find? P <;> rfl
theorem optInt_head {L : List Nat} {P : Nat → Bool} : optInt (L.find? P) = headD (fun k => PyData.int (k : Nat)) (L.filter P).head? := by
  rw [List.head?_filter]
  cases L.find? P <;> rfl
theorem plain_optPair (o : Option (Nat × Nat)) : plainD 5 (optPair o) := by
  cases o with
  | none => exact True.intro
  | some p => exact plain_tup (ns := [(p.1 : Int), (p.2 : Int)]) (by show 2 ≤ 1000; decide)
theorem plain_optInt (o : Option Nat) : plainD 5 (optInt o) := by
  cases o <;> exact True.intro
section
variable {I H : Hp} {Q : VK} {E : XK} {v : V} {ds : List PyData} {hd p : Addr}
theorem seqG (hh : Hand K I H hd) (z : Dp K I v (.list ds)) (q : ∀ I' H' v', Lf (· = hd) I H I' H' → Hand K I' H' hd → (Dp K I' v' (.tuple ds) ∨ Dp K I' v' (.list ds)) → Q v' H') : spSeq K [.ref hd, v] H Q E :=
  ⟨I, hd, v, ds, rfl, hh, fun I' H' r f h d => q I' H' r f h (.inr d), .inr ⟨z, fun I' H' r f h d => q I' H' r f h (.inl d)⟩⟩
theorem dpSeqG (h : Dp K I v (.tuple ds) ∨ Dp K I v (.list ds)) : ∃ p xs, v = .ref p ∧ (SqL K I p xs ∨ SqT K I p xs) ∧ DpAll K I xs ds := by
  rcases h with h | h
  · obtain ⟨p, xs, rfl, hp, hx⟩ := Dp.tupRef h
    exact ⟨p, xs, rfl, .inr hp, hx⟩
  · obtain ⟨p, xs, rfl, hp, hx⟩ := Dp.lstRef h
    exact ⟨p, xs, rfl, .inl hp, hx⟩
end
theorem ok_law_beginnings (T : Top K mg a) : FnOk P w K mg base CX0 7 a.f_law_beginnings a.d_law_beginnings ["_law_hand_here"] (spTrue K) := by
  refine T.F_law_beginnings.ok sc_law_beginnings (fun vs H Q E h => ?_) (fun cdv A outer s H vs Q E hr h => ?_)
  · obtain ⟨I, hd, rfl, _⟩ := h
    rfl
  · obtain ⟨I, hd, rfl, hh, q⟩ := h
    refine ⟨_, (pss_cons (ps_set (i := 1) sc_law_beginnings.nd rfl (Or.inr rfl) (pe_op op_add pe_int (pe_call (ok_law_draw T) (hr.mono (by decide)) (by rfl) T.g_law_draw T.F_law_draw.kp T.b_law_draw .nil pass0 (pa_cons (pv 0) (pa_cons pe_int pa_nil))))) (pss_cons (ps_set (i := 2) sc_law_beginnings.nd rfl (Or.inr rfl) (pe_lc (own := [("_law_k", 10)]) (g := gName 10) (by rfl) sc_law_beginnings.nd (pi_range1 (by rfl) T.n_range (pa_cons (pe_call (ok_law_draw T) (hr.mono (by decide)) (by rfl) T.g_law_draw T.F_law_draw.kp T.b_law_draw .nil pass0 (pa_cons (pv 0) (pa_cons pe_int pa_nil))) pa_nil)) (blkOk_by (own := [("_law_k", 10)]) (N := ["_law_hand_here", "_law_m", "_law_rows", "_law_row", "_law_handed", "_law_met", "_law_i", "_law_j", "_law_firsts", "_law_one", "_law_k", "_law_at"]) (sc := defScope s_law_beginnings) (by decide +kernel)) (fun _ _ _ _ _ => (pg_name (i := 10) sc_law_beginnings.nd rfl (Or.inl rfl))) (fun _ _ _ _ _ => pts_nil) (fun _ _ _ _ _ => (pe_call (ok_law_some_row T) (hr.mono (by decide)) (by rfl) T.g_law_some_row T.F_law_some_row.kp T.b_law_some_row .nil pass0 (pa_cons (pv 0) (pa_cons (pv 1) (pa_cons (pe_call (ok_law_draw T) (hr.mono (by decide)) (by rfl) T.g_law_draw T.F_law_draw.kp T.b_law_draw .nil pass0 (pa_cons (pv 0) (pa_cons (pe_op op_add (pv 1) pe_int) pa_nil))) pa_nil))))))) (pss_cons (ps_set (i := 3) sc_law_beginnings.nd rfl (Or.inr rfl) (pe_call (ok_law_some_row T) (hr.mono (by decide)) (by rfl) T.g_law_some_row T.F_law_some_row.kp T.b_law_some_row .nil pass0 (pa_cons (pv 0) (pa_cons (pv 1) (pa_cons (pe_call (ok_law_draw T) (hr.mono (by decide)) (by rfl) T.g_law_draw T.F_law_draw.kp T.b_law_draw .nil pass0 (pa_cons (pv 0) (pa_cons (pe_op op_add (pv 1) pe_int) pa_nil))) pa_nil))))) (pss_cons (ps_set (i := 4) sc_law_beginnings.nd rfl (Or.inl rfl) (pe_call (ok_law_seq T) (hr.mono (by decide)) (by rfl) T.g_law_seq T.F_law_seq.kp T.b_law_seq .nil pass0 (pa_cons (pv 0) (pa_cons (pv 2) pa_nil)))) (pss_cons (ps_set (i := 5) sc_law_beginnings.nd rfl (Or.inl rfl) (pe_lst pa_nil)) (pss_cons (ps_for PassesOwn.never rfl (pi_range1 (by rfl) T.n_range (pa_cons (pe_callB (call_lenK (K := K) rfl) (by rfl) T.n_len (by decide +kernel) (pa_cons (pv 2) pa_nil)) pa_nil)) (pg_name (i := 6) sc_law_beginnings.nd rfl (Or.inl rfl)) (pss_one (ps_for PassesOwn.never rfl (pi_range2 (by rfl) T.n_range (pa_cons (pe_op op_add (pv 6) pe_int) (pa_cons (pe_callB (call_lenK (K := K) rfl) (by rfl) T.n_len (by decide +kernel) (pa_cons (pv 2) pa_nil)) pa_nil))) (pg_name (i := 7) sc_law_beginnings.nd rfl (Or.inl rfl)) (pss_one (ps_if (PW.pt (pw_or (pt_val (pe_call (ok_law_begun T) (hr.mono (by decide)) (by rfl) T.g_law_begun T.F_law_begun.kp T.b_law_begun .nil pass0 (pa_cons (pe_ix (ix_K (K := K) rfl) (pv 2) (pv 6) (fun _ _ => rfl)) (pa_cons (pe_ix (ix_K (K := K) rfl) (pv 2) (pv 7) (fun _ _ => rfl)) pa_nil)))) (pw_or1 (pt_val (pe_call (ok_law_begun T) (hr.mono (by decide)) (by rfl) T.g_law_begun T.F_law_begun.kp T.b_law_begun .nil pass0 (pa_cons (pe_ix (ix_K (K := K) rfl) (pv 2) (pv 7) (fun _ _ => rfl)) (pa_cons (pe_ix (ix_K (K := K) rfl) (pv 2) (pv 6) (fun _ _ => rfl)) pa_nil))))))) (pss_one (ps_expr (pe_bm PySem.F.plainAttrs_list PySem.F.slot_list_append PySem.F.type_list_append mt_append (pv 5) (pa_cons (pe_tup (pa_cons (pv 6) (pa_cons (pv 7) pa_nil))) pa_nil)))) pss_nil))))) (pss_cons (ps_if (pt_not (pt_val (pe_call (ok_law_exact T) (hr.mono (by decide)) (by rfl) T.g_law_exact T.F_law_exact.kp T.b_law_exact .nil pass0 (pa_cons (pe_call (ok_first_meeting T) (hr.mono (by decide)) (by rfl) T.g_first_meeting T.F_first_meeting.kp T.b_first_meeting .nil pass0 (pa_cons (pv 4) pa_nil)) (pa_cons (pe_ifExp (pt_truth (pv 5) (by intro _; rfl)) (pe_ix (ix_K (K := K) rfl) (pv 5) pe_int (fun _ _ => rfl)) pe_non) pa_nil))))) (pss_one (ps_ret pe_bl)) pss_nil) (pss_cons (ps_setLc (i := 8) (own := [("_law_at", 11)]) (g := gName 11) (by rfl) sc_law_beginnings.nd rfl rfl (sw_true rfl rfl rfl (by decide +kernel)) (pi_range1 (by rfl) T.n_range (pa_cons (pe_callB (call_lenK (K := K) rfl) (by rfl) T.n_len (by decide +kernel) (pa_cons (pv 2) pa_nil)) pa_nil)) (blkOk_by (own := [("_law_at", 11)]) (N := ["_law_hand_here", "_law_m", "_law_rows", "_law_row", "_law_handed", "_law_met", "_law_i", "_law_j", "_law_firsts", "_law_one", "_law_k", "_law_at"]) (sc := defScope s_law_beginnings) (by decide +kernel)) (fun _ _ _ _ _ => (pg_name (i := 11) sc_law_beginnings.nd rfl (Or.inl rfl))) (fun _ _ _ _ _ => pts_one (pt_val (pe_call (ok_law_begun T) (hr.mono (by decide)) (by rfl) T.g_law_begun T.F_law_begun.kp T.b_law_begun .nil pass0 (pa_cons (pe_ix (ix_K (K := K) rfl) (pv 2) (pv 11) (fun _ _ => rfl)) (pa_cons (pv 3) pa_nil))))) (fun _ _ _ _ _ => (pv 11))) (pss_cons (ps_if (pt_not (pt_val (pe_call (ok_law_exact T) (hr.mono (by decide)) (by rfl) T.g_law_exact T.F_law_exact.kp T.b_law_exact .nil pass0 (pa_cons (pe_call (ok_which_begins T) (hr.mono (by decide)) (by rfl) T.g_which_begins T.F_which_begins.kp T.b_which_begins .nil pass0 (pa_cons (pv 4) (pa_cons (pv 3) pa_nil))) (pa_cons (pe_ifExp (pt_truth (pv 8) (by intro _; rfl)) (pe_ix (ix_K (K := K) rfl) (pv 8) pe_int (fun _ _ => rfl)) pe_non) pa_nil))))) (pss_one (ps_ret pe_bl)) pss_nil) (pss_cons (ps_for PassesOwn.never rfl (pi_seqK (K := K) rfl (pv 2)) (pg_name (i := 9) sc_law_beginnings.nd rfl (Or.inl rfl)) (pss_one (ps_if (PW.pt (pw_or (pt_not (pt_val (pe_call (ok_law_exact T) (hr.mono (by decide)) (by rfl) T.g_law_exact T.F_law_exact.kp T.b_law_exact .nil pass0 (pa_cons (pe_call (ok_begins_row T) (hr.mono (by decide)) (by rfl) T.g_begins_row T.F_begins_row.kp T.b_begins_row .nil pass0 (pa_cons (pv 9) (pa_cons (pv 3) pa_nil))) (pa_cons (pe_call (ok_law_begun T) (hr.mono (by decide)) (by rfl) T.g_law_begun T.F_law_begun.kp T.b_law_begun .nil pass0 (pa_cons (pv 9) (pa_cons (pv 3) pa_nil))) pa_nil))))) (pw_or1 (pt_not (pt_val (pe_call (ok_law_exact T) (hr.mono (by decide)) (by rfl) T.g_law_exact T.F_law_exact.kp T.b_law_exact .nil pass0 (pa_cons (pe_call (ok_begins_row T) (hr.mono (by decide)) (by rfl) T.g_begins_row T.F_begins_row.kp T.b_begins_row .nil pass0 (pa_cons (pv 3) (pa_cons (pv 9) pa_nil))) (pa_cons (pe_call (ok_law_begun T) (hr.mono (by decide)) (by rfl) T.g_law_begun T.F_law_begun.kp T.b_law_begun .nil pass0 (pa_cons (pv 3) (pa_cons (pv 9) pa_nil))) pa_nil)))))))) (pss_one (ps_ret pe_bl)) pss_nil))) (pss_one (ps_ret (pe_and (pe_cmpR (op_eqK (K := K) rfl hr.units) (pe_callTy (call_listK (K := K) rfl) (by rfl) T.n_list (by decide +kernel) (pa_cons (pv 4) pa_nil)) (pv 2) (nomark _)) (pe_and (pe_call (ok_law_exact T) (hr.mono (by decide)) (by rfl) T.g_law_exact T.F_law_exact.kp T.b_law_exact .nil pass0 (pa_cons (pe_call (ok_begins_row T) (hr.mono (by decide)) (by rfl) T.g_begins_row T.F_begins_row.kp T.b_begins_row .nil pass0 (pa_cons (pe_tup pa_nil) (pa_cons (pv 3) pa_nil))) (pa_cons pe_bl pa_nil))) (pe_one (pe_call (ok_law_exact T) (hr.mono (by decide)) (by rfl) T.g_law_exact T.F_law_exact.kp T.b_law_exact .nil pass0 (pa_cons (pe_call (ok_begins_row T) (hr.mono (by decide)) (by rfl) T.g_begins_row T.F_begins_row.kp T.b_begins_row .nil pass0 (pa_cons (pv 3) (pa_cons (pv 3) pa_nil))) (pa_cons pe_bl pa_nil)))))))))))))))))), ?_⟩
    walk_at "st"
    walk_at "wp"
    have F : Lf (· = hd) I H I H := Lf.refl hh.sub
    refine ⟨I, hd, 3, rfl, hh, by omega, by omega, fun H1 m' f1 hh1 m0 m1 => ?_⟩
    replace hh := hh1
    replace F := F.trans f1
    walk_at "wp"
    obtain ⟨m, em⟩ : ∃ m : Int, 2 + m' = m := ⟨_, rfl⟩
    rw [em]
    have hm : 2 ≤ m ∧ m ≤ 4 := by omega
    refine w_lcIter ?_
    walk_at "wp"
    refine ⟨I, hd, 8, rfl, hh, by omega, by omega, fun H3 n f3 hh3 n0 n1 => ?_⟩
    replace hh := hh3
    replace F := F.trans f3
    refine w_compR (K := K) (I := I) (M := (· = hd)) (m := n)
      (Inv := fun k I' H' ds => Hand K I' H' hd ∧ ∃ rs : List (List Int), ds = rs.map tupI ∧ rs.length = k ∧ ∀ r ∈ rs, r.length ≤ 4)
      (Mid := fun k b I' H' ds => b = true ∧ Hand K I' H' hd ∧ ∃ rs : List (List Int), ds = rs.map tupI ∧ rs.length = k ∧ ∀ r ∈ rs, r.length ≤ 4) n0 (by omega) (fun Q q => q)
      (CompOk.map hh.sub (fun b h => h ▸ hh.ne) (small1000 (by omega)) ⟨hh, [], rfl, rfl, by simp⟩ (fun k I' H' ds E o hE iE h => ⟨Hand.upd h.1 iE (hh.neOf hE), h.2⟩) (fun k I5 H5 ds R hk f5 hi hR => ?_) (fun I4 H4 E vs ds f4 g1 g2 g3 hv hi => ?_))
    · simp only [List.set_cons_zero, List.set_cons_succ]
      walk_at "wp"
      obtain ⟨hh5, rs, rfl, hl, hr4⟩ := hi
      refine ⟨I5, hd, m + 1, rfl, hh5, by omega, by omega, fun H6 d f6 hh6 d0 d1 => ?_⟩
      walk_at "wp"
      refine ⟨I5, hd, m, d, rfl, hh6, d0, by omega, by omega, fun I7 H7 p7 ks f7 hh7 z7 hnd hkl hkin => ?_⟩
      exact hR _ (tupI ks) I7 H7 (f6.trans f7) (TupZ.dp z7) ⟨hh7, rs ++ [ks], by rw [List.map_append]; rfl, by rw [List.length_append, hl]; rfl, fun r hr' => by
        rcases List.mem_append.mp hr' with h | h
        · exact hr4 r h
        · rw [List.mem_singleton] at h
          rw [h]
          omega⟩
    obtain ⟨hh4, rs, rfl, hl, hr4⟩ := hi
    have f4' := Lf.freeze f4 hh.sub g1 g3
    replace F := F.trans f4'
    replace hh := handFreeze hh4 g3 g2 (hh.neOf g1)
    have aR : DpAll K (upd I4 E (.lst vs)) vs (rs.map tupI) := DpAll.up hv (fun b z q => by rw [upd_ne (fun h => by rw [h, g2] at q; cases q)]; exact q)
    have sE : SqL K (upd I4 E (.lst vs)) E vs := ofL upd_same
    have lrs : rs.length ≤ 7 := by omega
    have lvs : vs.length = rs.length := by rw [DpAll.length aR, List.length_map]
    walk_at "wp"
    refine ⟨_, hd, m + 1, rfl, hh, by omega, by omega, fun H6 d f6 hh6 d0 d1 => ?_⟩
    replace hh := hh6
    replace F := F.trans f6
    replace aR := DpAll.up aR f6.ext
    replace sE := Same.seq f6.ext sE
    walk_at "wp"
    refine ⟨_, hd, m, d, rfl, hh, d0, by omega, by omega, fun I7 H7 p7 ms f7 hh7 z7 hnd hkl hkin => ?_⟩
    replace hh := hh7
    replace F := F.trans f7
    replace aR := DpAll.up aR f7.ext
    replace sE := Same.seq f7.ext sE
    have dM := TupZ.dp (K := K) z7
    have lms : ms.length ≤ 4 := by omega
    walk_at "wp"
    refine seqG hh (.lst sE aR) fun I8 H8 v8 f8 hh8 o8 => ?_
    replace hh := hh8
    replace F := F.trans f8
    replace aR := DpAll.up aR f8.ext
    replace sE := Same.seq f8.ext sE
    replace dM := Dp.up dM f8.ext
    obtain ⟨p8, x8, rfl, h8, a8⟩ := dpSeqG o8
    walk_at "wp"
    refine ⟨by show 0 ≤ sizeLine; decide, fun b hb => ?_⟩
    walk_at "wp"
    have bI : I8 b = none := Same.sub hh.sub hb
    have nb : hd ≠ b := hh.neOf hb
    have hbH : H b = none := F.free hb
    have fb : Lf No I8 H8 I8 (upd H8 b (.lst [])) := Lf.alloc hh.sub hb
    replace hh := hh.to fb (fun h => h)
    replace F := F.trans fb.any
    refine w_forR1 (n := (rs.length : Int)) (by omega) (by omega) (fun i σ H' => ∃ (I' : Hp) (xs : List V) (yi yj : Option V), σ = [some (V.ref hd), some (.int m), some (.ref E), some (.ref p7), some (.ref p8), some (.ref b), yi, yj, none, none, none, none] ∧
      Lf (· = hd) I H I' H' ∧ Hand K I' H' hd ∧ Same I8 I' ∧ I' b = none ∧ H' b = some (.lst xs) ∧ xs.length ≤ 10 * i ∧ DpAll K I' xs (((preP rs.length i 0).filter (meetsB rs)).map pairI)) (fun Q q => ?_)
      ⟨I8, [], none, none, rfl, F, hh, Same.refl _, bI, upd_same, by show 0 ≤ 10 * 0; omega, by rw [preP_zero]; exact .nil⟩ (fun i σ H' hi h => ?_) (fun σ H' h => ?_)
    · walk_at "wp"
      refine w_lenS (.inl (Same.seq hh.sub sE)) ?_
      rw [lvs]
      walk_at "wp"
      exact q
    · obtain ⟨I', xs, yi, yj, rfl, F, hh, S, bN, hB, lx, aX⟩ := h
      have li : i < rs.length := by omega
      refine w_name ?_
      simp only [List.set_cons_zero, List.set_cons_succ]
      refine w_forR2 (m := (i : Int) + 1) (n := (rs.length : Int)) (by omega) (by omega) (by omega) (by omega) (fun k σ H' => ∃ (I' : Hp) (xs : List V) (yj : Option V), σ = [some (V.ref hd), some (.int m), some (.ref E), some (.ref p7), some (.ref p8), some (.ref b), some (.int (i : Nat)), yj, none, none, none, none] ∧
        Lf (· = hd) I H I' H' ∧ Hand K I' H' hd ∧ Same I8 I' ∧ I' b = none ∧ H' b = some (.lst xs) ∧ xs.length ≤ 10 * i + k ∧ DpAll K I' xs (((preP rs.length i k).filter (meetsB rs)).map pairI)) (fun Q q => ?_)
        ⟨I', xs, _, rfl, F, hh, S, bN, hB, by omega, aX⟩ (fun k σ H' hk h => ?_) (fun σ H' h => ?_)
      · walk_at "wp"
        refine w_lenS (.inl (Same.seq hh.sub (Same.seq S sE))) ?_
        rw [lvs]
        walk_at "wp"
        exact q
      · obtain ⟨I', xs, yj, rfl, F, hh, S, bN, hB, lx, aX⟩ := h
        have lj : i + 1 + k < rs.length := by omega
        obtain ⟨v1, e1, hv1⟩ := DpAll.get aR (get_map (f := tupI) li)
        obtain ⟨v2, e2, hv2⟩ := DpAll.get aR (get_map (f := tupI) lj)
        have ei : ((i : Nat) : Int).toNat = i := by omega
        have ej : ((i : Int) + 1 + (k : Nat)).toNat = i + 1 + k := by omega
        have l1 : rs[i].length ≤ 1000 := Nat.le_trans (hr4 _ (List.getElem_mem li)) (by decide)
        have l2 : rs[i + 1 + k].length ≤ 1000 := Nat.le_trans (hr4 _ (List.getElem_mem lj)) (by decide)
        refine w_name ?_
        simp only [List.set_cons_zero, List.set_cons_succ]
        walk_at "wp"
        refine w_ixS (.inl (Same.seq hh.sub (Same.seq S sE))) (by omega) (by rw [ei]; exact e1) ?_
        walk_at "wp"
        refine w_ixS (.inl (Same.seq hh.sub (Same.seq S sE))) (by omega) (by rw [ej]; exact e2) ?_
        walk_at "wp"
        refine ⟨v1, v2, rs[i], rs[i + 1 + k], rfl, Dp.up hv1 (S.trans hh.sub), Dp.up hv2 (S.trans hh.sub), l1, fun b1 H5 hb1 s5 => ?_⟩
        have f5 : Lf No I' H' I' H5 := Lf.ofSame hh.sub s5
        replace hB := s5 _ _ hB
        replace hh := hh.to f5 (fun h => h)
        replace F := F.trans f5.any
        have hmB : meetsB rs (i, i + 1 + k) = (begs rs[i] rs[i + 1 + k] || begs rs[i + 1 + k] rs[i]) := by
          unfold meetsB
          simp only [List.getD_eq_getElem?_getD, List.getElem?_eq_getElem li, List.getElem?_eq_getElem lj, Option.getD_some]
        walk_at "wp"
        cases b1 with
        | true =>
          have hm : meetsB rs (i, i + 1 + k) = true := by rw [hmB, ← hb1]; rfl
          walk_at "wp"
          refine w_tyL hB ?_
          walk_at "wp"
          refine w_newT (K := K) hh.sub (.cons (.int _) (.cons (.int _) .nil)) (by show 2 ≤ sizeLine; decide) fun I6 p6 f6 d6 => ?_
          replace bN := f6.off bN (none_ne hB)
          replace hB := f6.keep _ _ (fun h => h) hB
          replace hh := hh.to f6 (fun h => h)
          replace F := F.trans f6.any
          replace aX := DpAll.up aX f6.ext
          replace S := S.trans f6.ext
          walk_at "wp"
          refine w_append' hB (small1000 (by omega)) ?_
          refine ⟨I6, xs ++ [V.ref p6], _, rfl, Lf.set F hbH hB bN, Hand.upd hh bN nb, S, bN, upd_same, by rw [List.length_append, List.length_singleton]; omega, ?_⟩
          rw [preP_succ, List.filter_append, List.map_append, List.filter_cons_of_pos hm]
          refine DpAll.append aX (.cons ?_ .nil)
          show Dp K I6 _ (.tuple [.int (i : Nat), .int ((i + 1 + k : Nat) : Int)])
          rw [show ((i + 1 + k : Nat) : Int) = (i : Int) + 1 + (k : Nat) by omega]
          exact d6
        | false =>
          walk_at "wp"
          refine w_ixS (.inl (Same.seq hh.sub (Same.seq S sE))) (by omega) (by rw [ej]; exact e2) ?_
          walk_at "wp"
          refine w_ixS (.inl (Same.seq hh.sub (Same.seq S sE))) (by omega) (by rw [ei]; exact e1) ?_
          walk_at "wp"
          refine ⟨v2, v1, rs[i + 1 + k], rs[i], rfl, Dp.up hv2 (S.trans hh.sub), Dp.up hv1 (S.trans hh.sub), l2, fun b2 H7 hb2 s7 => ?_⟩
          have f7 : Lf No I' H5 I' H7 := Lf.ofSame hh.sub s7
          replace hB := s7 _ _ hB
          replace hh := hh.to f7 (fun h => h)
          replace F := F.trans f7.any
          walk_at "wp"
          cases b2 with
          | true =>
            have hm : meetsB rs (i, i + 1 + k) = true := by rw [hmB, ← hb2, Bool.or_true]
            walk_at "wp"
            refine w_tyL hB ?_
            walk_at "wp"
            refine w_newT (K := K) hh.sub (.cons (.int _) (.cons (.int _) .nil)) (by show 2 ≤ sizeLine; decide) fun I6 p6 f6 d6 => ?_
            replace bN := f6.off bN (none_ne hB)
            replace hB := f6.keep _ _ (fun h => h) hB
            replace hh := hh.to f6 (fun h => h)
            replace F := F.trans f6.any
            replace aX := DpAll.up aX f6.ext
            replace S := S.trans f6.ext
            walk_at "wp"
            refine w_append' hB (small1000 (by omega)) ?_
            refine ⟨I6, xs ++ [V.ref p6], _, rfl, Lf.set F hbH hB bN, Hand.upd hh bN nb, S, bN, upd_same, by rw [List.length_append, List.length_singleton]; omega, ?_⟩
            rw [preP_succ, List.filter_append, List.map_append, List.filter_cons_of_pos hm]
            refine DpAll.append aX (.cons ?_ .nil)
            show Dp K I6 _ (.tuple [.int (i : Nat), .int ((i + 1 + k : Nat) : Int)])
            rw [show ((i + 1 + k : Nat) : Int) = (i : Int) + 1 + (k : Nat) by omega]
            exact d6
          | false =>
            have hm : ¬ meetsB rs (i, i + 1 + k) = true := by rw [hmB, ← hb1, ← hb2]; simp
            walk_at "wp"
            refine ⟨I', xs, _, rfl, F, hh, S, bN, hB, by omega, ?_⟩
            rw [preP_succ, List.filter_append, List.filter_cons_of_neg hm, List.filter_nil, List.append_nil]
            exact aX
      · obtain ⟨I', xs, yj, rfl, F, hh, S, bN, hB, lx, aX⟩ := h
        have ee : ((rs.length : Int) - ((i : Int) + 1)).toNat = rs.length - (i + 1) := by omega
        rw [ee] at aX lx
        rw [preP_end, ← preP_zero] at aX
        exact ⟨I', xs, _, _, rfl, F, hh, S, bN, hB, by omega, aX⟩
    · obtain ⟨I9, xs, yi, yj, rfl, F, hh, S, bN, hB, lx, aX⟩ := h
      rw [Int.toNat_natCast, preP_zero] at aX
      replace aX : DpAll K I9 xs (((prs rs.length).filter (meetsB rs)).map pairI) := aX
      replace aR := DpAll.up aR S
      replace sE := Same.seq S sE
      replace dM := Dp.up dM S
      replace a8 := DpAll.up a8 S
      replace h8 := seq_up h8 S
      replace o8 := o8.imp (fun z => Dp.up z S) (fun z => Dp.up z S)
      have l8 : x8.length = rs.length := by rw [DpAll.length a8, List.length_map]
      walk_at "wp"
      refine ⟨I9, p8, x8, rs, rfl, hh.sub, h8, a8, by omega, fun I10 H10 v10 f10 d10 => ?_⟩
      replace bN := f10.off bN (none_ne hB)
      replace hB := f10.keep _ _ (fun h => h) hB
      replace h8 := seq_up h8 f10.ext
      replace hh := hh.to f10 (fun h => h)
      replace F := F.trans f10.any
      replace aX := DpAll.up aX f10.ext
      replace aR := DpAll.up aR f10.ext
      replace sE := Same.seq f10.ext sE
      replace dM := Dp.up dM f10.ext
      replace a8 := DpAll.up a8 f10.ext
      walk_at "wp"
      refine w_firstOf rfl hB hh.sub aX fun x0 d0 => ?_
      rw [optPair_head] at d10
      walk_at "wp"
      refine exactly hh.sub d10 d0 (by rw [← optPair_head]; exact plain_optPair _) fun H11 f11 => ?_
      replace hh := hh.to f11 (fun h => h)
      replace F := F.trans f11.any
      walk_at "wp"
      refine w_compR (K := K) (I := I10) (M := No) (m := (rs.length : Int)) (by omega) (by omega) (fun Q q => ?_)
        (CompOk.filt (fun k => begs (rs.getD k []) ms) (fun k => .int (k : Nat)) hh.sub (fun b h => h.elim) (small1000 (by omega)) (fun k I5 H5 R hk f5 hR => ?_) (fun k I5 H5 R hk hT f5 hR => ?_) (fun I12 H12 E2 vs2 f12 j1 j2 j3 hv2 => ?_))
      · walk_at "wp"
        refine w_lenS (.inl (Same.seq hh.sub sE)) ?_
        rw [lvs]
        walk_at "wp"
        exact q
      · simp only [List.set_cons_zero, List.set_cons_succ]
        walk_at "wp"
        have lk : k < rs.length := by omega
        obtain ⟨v1, e1, hv1⟩ := DpAll.get aR (get_map (f := tupI) lk)
        refine w_ixS (.inl (Same.seq (f5.ext.trans f5.sub) sE)) (by omega) (by rw [Int.toNat_natCast]; exact e1) ?_
        walk_at "wp"
        refine ⟨v1, _, rs[k], ms, rfl, Dp.up hv1 (f5.ext.trans f5.sub), Dp.up dM (f5.ext.trans f5.sub), Nat.le_trans (hr4 _ (List.getElem_mem lk)) (by decide), fun b1 H6 hb1 s6 => ?_⟩
        walk_at "wp"
        exact hR b1 I5 H6 (by rw [hb1, List.getD_eq_getElem?_getD, List.getElem?_eq_getElem lk]; rfl) (Lf.ofSame f5.sub s6)
      · simp only [List.set_cons_zero, List.set_cons_succ]
        walk_at "wp"
        exact hR _ I5 H5 (Lf.refl f5.sub) (.int _)
      replace h8 := seq_up h8 f12.ext
      replace hh := hh.to f12 (fun h => h)
      replace F := F.trans f12.any
      replace aR := DpAll.up aR f12.ext
      replace sE := Same.seq f12.ext sE
      replace dM := Dp.up dM f12.ext
      replace a8 := DpAll.up a8 f12.ext
      walk_at "wp"
      have eRg : ((rs.length : Int)).toNat = rs.length := Int.toNat_natCast _
      rw [eRg] at hv2
      refine ⟨p8, _, x8, rs, ms, rfl, seq_up h8 hh.sub, DpAll.up a8 hh.sub, Dp.up dM hh.sub, fun H13 v13 s13 d13 => ?_⟩
      have f13 : Lf No I12 H12 I12 H13 := Lf.ofSame hh.sub s13
      replace j3 := s13 _ _ j3
      replace hh := hh.to f13 (fun h => h)
      replace F := F.trans f13.any
      walk_at "wp"
      refine w_firstOf rfl j3 hh.sub hv2 fun x1 d1 => ?_
      rw [optInt_head] at d13
      walk_at "wp"
      refine ⟨_, _, _, rfl, d13, Dp.up d1 hh.sub, by rw [← optInt_head]; exact plain_optInt _, fun H14 s14 => ?_⟩
      have f14 : Lf No I12 H13 I12 H14 := Lf.ofSame hh.sub s14
      replace hh := hh.to f14 (fun h => h)
      replace F := F.trans f14.any
      walk_at "wp"
      refine w_forS (I := I12) (.inl sE) (fun i σ H' => ∃ y : Option V, σ = [some (V.ref hd), some (.int m), some (.ref E), some (.ref p7), some (.ref p8), some (.ref b), yi, yj, some (.ref E2), y, none, none] ∧
        Lf (· = hd) I H I12 H' ∧ Hand K I12 H' hd) (fun Q q => ⟨_, rfl, q⟩) ⟨none, rfl, F, hh⟩ (fun i σ H' _ h => ?_) (fun i x σ H' hi h => ?_) (fun σ H' h => ?_)
      · obtain ⟨_, _, _, hh⟩ := h
        exact hh.sub
      · obtain ⟨y, rfl, F, hh⟩ := h
        obtain ⟨dx, ei, hdx⟩ := DpAll.getV aR hi
        have li : i < rs.length := by rw [← lvs]; exact (List.getElem?_eq_some_iff.mp hi).1
        rw [get_map li] at ei
        obtain rfl : tupI rs[i] = dx := Option.some.inj ei
        have l1 : rs[i].length ≤ 1000 := Nat.le_trans (hr4 _ (List.getElem_mem li)) (by decide)
        refine w_name ?_
        simp only [List.set_cons_zero, List.set_cons_succ]
        walk_at "wp"
        refine ⟨x, _, rs[i], ms, rfl, Dp.up hdx hh.sub, Dp.up dM hh.sub, fun b1 H15 hb1 s15 => ?_⟩
        have f15 : Lf No I12 H' I12 H15 := Lf.ofSame hh.sub s15
        replace hh := hh.to f15 (fun h => h)
        replace F := F.trans f15.any
        walk_at "wp"
        refine ⟨x, _, rs[i], ms, rfl, Dp.up hdx hh.sub, Dp.up dM hh.sub, l1, fun b2 H16 hb2 s16 => ?_⟩
        have f16 : Lf No I12 H15 I12 H16 := Lf.ofSame hh.sub s16
        replace hh := hh.to f16 (fun h => h)
        replace F := F.trans f16.any
        walk_at "wp"
        obtain rfl : b1 = b2 := hb1.trans hb2.symm
        refine exactly hh.sub (.bl b1) (.bl b1) True.intro fun H17 f17 => ?_
        replace hh := hh.to f17 (fun h => h)
        replace F := F.trans f17.any
        walk_at "wp"
        refine ⟨_, x, ms, rs[i], rfl, Dp.up dM hh.sub, Dp.up hdx hh.sub, fun b3 H18 hb3 s18 => ?_⟩
        have f18 : Lf No I12 H17 I12 H18 := Lf.ofSame hh.sub s18
        replace hh := hh.to f18 (fun h => h)
        replace F := F.trans f18.any
        walk_at "wp"
        refine ⟨_, x, ms, rs[i], rfl, Dp.up dM hh.sub, Dp.up hdx hh.sub, by omega, fun b4 H19 hb4 s19 => ?_⟩
        have f19 : Lf No I12 H18 I12 H19 := Lf.ofSame hh.sub s19
        replace hh := hh.to f19 (fun h => h)
        replace F := F.trans f19.any
        walk_at "wp"
        obtain rfl : b3 = b4 := hb3.trans hb4.symm
        refine exactly hh.sub (.bl b3) (.bl b3) True.intro fun H20 f20 => ?_
        replace hh := hh.to f20 (fun h => h)
        replace F := F.trans f20.any
        walk_at "wp"
        exact ⟨_, rfl, F, hh⟩
      · obtain ⟨y, rfl, F, hh⟩ := h
        walk_at "wp"
        refine ⟨p8, x8, rfl, seq_up h8 hh.sub, fun l hl0 => ?_⟩
        have f21 : Lf No I12 H' (upd I12 l (.lst x8)) _ := Lf.put (o := .lst x8) hh.sub hl0
        have dL : Dp K (upd I12 l (.lst x8)) (.ref l) (.list (rs.map tupI)) := .lst (ofL upd_same) (DpAll.up a8 f21.ext)
        replace hh := hh.to f21 (fun h => h)
        replace F := F.trans f21.any
        replace aR := DpAll.up aR f21.ext
        replace sE := Same.seq f21.ext sE
        replace dM := Dp.up dM f21.ext
        walk_at "wp"
        refine w_eqD (Dp.up dL hh.sub) (Dp.up (Dp.lst sE aR) hh.sub) (shaped_rows _) (shaped_rows _) ?_
        rw [show PyData.eqv (.list (rs.map tupI)) (.list (rs.map tupI)) = true from eqvAll_rows rs]
        walk_at "wp"
        refine w_newT (K := K) hh.sub .nil (by show 0 ≤ sizeLine; decide) fun I22 p22 f22 d22 => ?_
        replace hh := hh.to f22 (fun h => h)
        replace F := F.trans f22.any
        replace dM := Dp.up dM f22.ext
        walk_at "wp"
        refine ⟨_, _, [], ms, rfl, Dp.up d22 hh.sub, Dp.up dM hh.sub, fun b1 H23 hb1 s23 => ?_⟩
        have f23 : Lf No I22 _ I22 H23 := Lf.ofSame hh.sub s23
        replace hh := hh.to f23 (fun h => h)
        replace F := F.trans f23.any
        obtain rfl : b1 = true := hb1.trans (by simp [begs])
        walk_at "wp"
        refine exactly hh.sub (.bl true) (.bl true) True.intro fun H24 f24 => ?_
        replace hh := hh.to f24 (fun h => h)
        replace F := F.trans f24.any
        walk_at "wp"
        refine ⟨_, _, ms, ms, rfl, Dp.up dM hh.sub, Dp.up dM hh.sub, fun b1 H25 hb1 s25 => ?_⟩
        have f25 : Lf No I22 H24 I22 H25 := Lf.ofSame hh.sub s25
        replace hh := hh.to f25 (fun h => h)
        replace F := F.trans f25.any
        obtain rfl : b1 = true := hb1.trans (by simp [begs])
        walk_at "wp"
        refine exactly hh.sub (.bl true) (.bl true) True.intro fun H26 f26 => ?_
        replace hh := hh.to f26 (fun h => h)
        replace F := F.trans f26.any
        exact q _ _ F hh
end
def spLaw (K : PySem.W.Frag) : Sp := fun vs H Q _ => ∃ (a : Addr) (ns : List Int), vs = [.ref a] ∧ SqL K H a (ns.map V.int) ∧ ns.length ≤ 63 ∧ ∀ H', Q (.bl true) H'
section
variable {P : Program} {w : World} {K : PySem.W.Frag} {mg : Str → Option Value} {base : Heap} {a : Adr}
theorem ok_law (T : Top K mg a) : FnOk P w K mg base CX0 8 a.f_law a.d_law ["_law_script"] (spLaw K) := by
  refine T.F_law.ok sc_law (fun vs H Q E h => ?_) (fun cdv A outer s H vs Q E hr h => ?_)
  · obtain ⟨s, ns, rfl, _⟩ := h
    rfl
  · obtain ⟨s, ns, rfl, hs, hl, q⟩ := h
    refine ⟨_, (pss_cons (ps_set (i := 1) sc_law.nd rfl (Or.inl rfl) (pe_call (ok_law_hand T) (hr.mono (by decide)) (by rfl) T.g_law_hand T.F_law_hand.kp T.b_law_hand .nil pass0 (pa_cons (pv 0) pa_nil))) (pss_cons (ps_for PassesOwn.never rfl (pi_range1 (by rfl) T.n_range (pa_cons pe_int pa_nil)) (pg_name (i := 2) sc_law.nd rfl (Or.inl rfl)) (pss_cons (ps_if (PW.pt (pw_or (pt_not (pt_val (pe_call (ok_law_left T) (hr.mono (by decide)) (by rfl) T.g_law_left T.F_law_left.kp T.b_law_left .nil pass0 (pa_cons (pv 1) pa_nil)))) (pw_or1 (pt_not (pt_val (pe_call (ok_law_unspent T) (hr.mono (by decide)) (by rfl) T.g_law_unspent T.F_law_unspent.kp T.b_law_unspent .nil pass0 (pa_cons (pv 1) pa_nil))))))) (pss_one (ps_ret pe_bl)) pss_nil) (pss_one (ps_if (PW.pt (pw_or (pt_not (pt_val (pe_call (ok_law_beginnings T) (hr.mono (by decide)) (by rfl) T.g_law_beginnings T.F_law_beginnings.kp T.b_law_beginnings .nil pass0 (pa_cons (pv 1) pa_nil)))) (pw_or1 (pt_not (pt_val (pe_call (ok_law_first_times T) (hr.mono (by decide)) (by rfl) T.g_law_first_times T.F_law_first_times.kp T.b_law_first_times .nil pass0 (pa_cons (pv 1) pa_nil))))))) (pss_one (ps_ret pe_bl)) pss_nil)))) (pss_one (ps_ret pe_bl)))), ?_⟩
    walk_at "st"
    walk_at "wp"
    refine ⟨H, s, ns, rfl, Same.refl H, hs, by omega, fun I1 H1 hd f1 hh => ?_⟩
    walk_at "wp"
    refine w_forR1 (n := 4) (by omega) (by omega) (fun i σ H' => ∃ (I' : Hp) (y : Option V), σ = [some (V.ref s), some (V.ref hd), y] ∧ Hand K I' H' hd) (fun Q q => ?_) ⟨I1, none, rfl, hh⟩ (fun i σ H' hi h => ?_) (fun σ H' h => ?_)
    · walk_at "wp"
      exact q
    · obtain ⟨I', y, rfl, hh⟩ := h
      refine w_name ?_
      simp only [List.set_cons_zero, List.set_cons_succ]
      walk_at "wp"
      refine ⟨I', hd, rfl, hh, fun I2 H2 f2 hh2 => ?_⟩
      walk_at "wp"
      refine ⟨I2, hd, rfl, hh2, fun I3 H3 f3 hh3 => ?_⟩
      walk_at "wp"
      refine ⟨I3, hd, rfl, hh3, fun I4 H4 f4 hh4 => ?_⟩
      walk_at "wp"
      refine ⟨I4, hd, rfl, hh4, fun I5 H5 f5 hh5 => ?_⟩
      walk_at "wp"
      exact ⟨I5, _, rfl, hh5⟩
    · obtain ⟨I', y, rfl, hh⟩ := h
      walk_at "wp"
      exact q _
end
theorem all_mk {l : PySem.W.OpenLaw} {w : World} {K : PySem.W.Frag} {h : Heap} {mg : Str → Option Value} {fa : Addr} (X : K.In h) (G : h.Ns mainGlobals mg) (hfa : mg "law" = some (.ref fa))
    {C_FrameError C_BadCount C_BadRow C_BadFrames f_BadCount_init f_BadRow_init f_BadFrames_init f_is_whole f_is_sequence f_check_count f_row_fault f_check_row f_begins_row f_first_meeting f_which_begins f_unspent_frames f_check_left f_spell_row f_count_among f_first_time_row f_law_mix f_law_draw f_law_some_row f_law_seq f_law_exact f_law_no_count f_law_hand f_law_asked f_law_some_frames f_law_bad_frames f_law_bad_row f_law_left f_law_unspent f_law_begun f_law_beginnings f_law_first_times f_law : Addr}
    {nm_FrameError q_FrameError : Str} {N_FrameError : Addr} {bs_FrameError : List Value} {sn_FrameError : List Str} {sub_FrameError : List Value} {ab_FrameError : Bool} {col_FrameError : Option Bool} {dd_FrameError : Option Addr} {m0_FrameError m1_FrameError m2_FrameError m3_FrameError m5_FrameError : Option Value}
    {nm_BadCount q_BadCount : Str} {N_BadCount : Addr} {bs_BadCount : List Value} {sn_BadCount : List Str} {sub_BadCount : List Value} {ab_BadCount : Bool} {col_BadCount : Option Bool} {dd_BadCount : Option Addr} {m0_BadCount m1_BadCount m2_BadCount m3_BadCount m5_BadCount : Option Value}
    {nm_BadRow q_BadRow : Str} {N_BadRow : Addr} {bs_BadRow : List Value} {sn_BadRow : List Str} {sub_BadRow : List Value} {ab_BadRow : Bool} {col_BadRow : Option Bool} {dd_BadRow : Option Addr} {m0_BadRow m1_BadRow m2_BadRow m3_BadRow m5_BadRow : Option Value}
    {nm_BadFrames q_BadFrames : Str} {N_BadFrames : Addr} {bs_BadFrames : List Value} {sn_BadFrames : List Str} {sub_BadFrames : List Value} {ab_BadFrames : Bool} {col_BadFrames : Option Bool} {dd_BadFrames : Option Addr} {m0_BadFrames m1_BadFrames m2_BadFrames m3_BadFrames m5_BadFrames : Option Value}
    {od_BadCount_init an_BadCount_init : Option Addr} {sl_BadCount_init : Array (Option Value)} {oc_BadCount_init kV_BadCount_init dc_BadCount_init pm_BadCount_init cd_BadCount_init ct_BadCount_init : Value}
    {od_BadRow_init an_BadRow_init : Option Addr} {sl_BadRow_init : Array (Option Value)} {oc_BadRow_init kV_BadRow_init dc_BadRow_init pm_BadRow_init cd_BadRow_init ct_BadRow_init : Value}
    {od_BadFrames_init an_BadFrames_init : Option Addr} {sl_BadFrames_init : Array (Option Value)} {oc_BadFrames_init kV_BadFrames_init dc_BadFrames_init pm_BadFrames_init cd_BadFrames_init ct_BadFrames_init : Value}
    {od_is_whole an_is_whole : Option Addr} {sl_is_whole : Array (Option Value)} {oc_is_whole kV_is_whole dc_is_whole pm_is_whole cd_is_whole ct_is_whole : Value}
    {dT_is_whole : Addr} {dn_is_whole : Nat}
    {od_is_sequence an_is_sequence : Option Addr} {sl_is_sequence : Array (Option Value)} {oc_is_sequence kV_is_sequence dc_is_sequence pm_is_sequence cd_is_sequence ct_is_sequence : Value}
    {od_check_count an_check_count : Option Addr} {sl_check_count : Array (Option Value)} {oc_check_count kV_check_count dc_check_count pm_check_count cd_check_count ct_check_count : Value}
    {dT_check_count : Addr} {dn_check_count : Nat}
    {dt_check_count_0 : Tok}
    {od_row_fault an_row_fault : Option Addr} {sl_row_fault : Array (Option Value)} {oc_row_fault kV_row_fault dc_row_fault pm_row_fault cd_row_fault ct_row_fault : Value}
    {od_check_row an_check_row : Option Addr} {sl_check_row : Array (Option Value)} {oc_check_row kV_check_row dc_check_row pm_check_row cd_check_row ct_check_row : Value}
    {od_begins_row an_begins_row : Option Addr} {sl_begins_row : Array (Option Value)} {oc_begins_row kV_begins_row dc_begins_row pm_begins_row cd_begins_row ct_begins_row : Value}
    {od_first_meeting an_first_meeting : Option Addr} {sl_first_meeting : Array (Option Value)} {oc_first_meeting kV_first_meeting dc_first_meeting pm_first_meeting cd_first_meeting ct_first_meeting : Value}
    {od_which_begins an_which_begins : Option Addr} {sl_which_begins : Array (Option Value)} {oc_which_begins kV_which_begins dc_which_begins pm_which_begins cd_which_begins ct_which_begins : Value}
    {od_unspent_frames an_unspent_frames : Option Addr} {sl_unspent_frames : Array (Option Value)} {oc_unspent_frames kV_unspent_frames dc_unspent_frames pm_unspent_frames cd_unspent_frames ct_unspent_frames : Value}
    {od_check_left an_check_left : Option Addr} {sl_check_left : Array (Option Value)} {oc_check_left kV_check_left dc_check_left pm_check_left cd_check_left ct_check_left : Value}
    {od_spell_row an_spell_row : Option Addr} {sl_spell_row : Array (Option Value)} {oc_spell_row kV_spell_row dc_spell_row pm_spell_row cd_spell_row ct_spell_row : Value}
    {od_count_among an_count_among : Option Addr} {sl_count_among : Array (Option Value)} {oc_count_among kV_count_among dc_count_among pm_count_among cd_count_among ct_count_among : Value}
    {od_first_time_row an_first_time_row : Option Addr} {sl_first_time_row : Array (Option Value)} {oc_first_time_row kV_first_time_row dc_first_time_row pm_first_time_row cd_first_time_row ct_first_time_row : Value}
    {od_law_mix an_law_mix : Option Addr} {sl_law_mix : Array (Option Value)} {oc_law_mix kV_law_mix dc_law_mix pm_law_mix cd_law_mix ct_law_mix : Value}
    {od_law_draw an_law_draw : Option Addr} {sl_law_draw : Array (Option Value)} {oc_law_draw kV_law_draw dc_law_draw pm_law_draw cd_law_draw ct_law_draw : Value}
    {od_law_some_row an_law_some_row : Option Addr} {sl_law_some_row : Array (Option Value)} {oc_law_some_row kV_law_some_row dc_law_some_row pm_law_some_row cd_law_some_row ct_law_some_row : Value}
    {od_law_seq an_law_seq : Option Addr} {sl_law_seq : Array (Option Value)} {oc_law_seq kV_law_seq dc_law_seq pm_law_seq cd_law_seq ct_law_seq : Value}
    {od_law_exact an_law_exact : Option Addr} {sl_law_exact : Array (Option Value)} {oc_law_exact kV_law_exact dc_law_exact pm_law_exact cd_law_exact ct_law_exact : Value}
    {od_law_no_count an_law_no_count : Option Addr} {sl_law_no_count : Array (Option Value)} {oc_law_no_count kV_law_no_count dc_law_no_count pm_law_no_count cd_law_no_count ct_law_no_count : Value}
    {od_law_hand an_law_hand : Option Addr} {sl_law_hand : Array (Option Value)} {oc_law_hand kV_law_hand dc_law_hand pm_law_hand cd_law_hand ct_law_hand : Value}
    {od_law_asked an_law_asked : Option Addr} {sl_law_asked : Array (Option Value)} {oc_law_asked kV_law_asked dc_law_asked pm_law_asked cd_law_asked ct_law_asked : Value}
    {od_law_some_frames an_law_some_frames : Option Addr} {sl_law_some_frames : Array (Option Value)} {oc_law_some_frames kV_law_some_frames dc_law_some_frames pm_law_some_frames cd_law_some_frames ct_law_some_frames : Value}
    {od_law_bad_frames an_law_bad_frames : Option Addr} {sl_law_bad_frames : Array (Option Value)} {oc_law_bad_frames kV_law_bad_frames dc_law_bad_frames pm_law_bad_frames cd_law_bad_frames ct_law_bad_frames : Value}
    {od_law_bad_row an_law_bad_row : Option Addr} {sl_law_bad_row : Array (Option Value)} {oc_law_bad_row kV_law_bad_row dc_law_bad_row pm_law_bad_row cd_law_bad_row ct_law_bad_row : Value}
    {od_law_left an_law_left : Option Addr} {sl_law_left : Array (Option Value)} {oc_law_left kV_law_left dc_law_left pm_law_left cd_law_left ct_law_left : Value}
    {od_law_unspent an_law_unspent : Option Addr} {sl_law_unspent : Array (Option Value)} {oc_law_unspent kV_law_unspent dc_law_unspent pm_law_unspent cd_law_unspent ct_law_unspent : Value}
    {od_law_begun an_law_begun : Option Addr} {sl_law_begun : Array (Option Value)} {oc_law_begun kV_law_begun dc_law_begun pm_law_begun cd_law_begun ct_law_begun : Value}
    {od_law_beginnings an_law_beginnings : Option Addr} {sl_law_beginnings : Array (Option Value)} {oc_law_beginnings kV_law_beginnings dc_law_beginnings pm_law_beginnings cd_law_beginnings ct_law_beginnings : Value}
    {od_law_first_times an_law_first_times : Option Addr} {sl_law_first_times : Array (Option Value)} {oc_law_first_times kV_law_first_times dc_law_first_times pm_law_first_times cd_law_first_times ct_law_first_times : Value}
    {od_law an_law : Option Addr} {sl_law : Array (Option Value)} {oc_law kV_law dc_law pm_law cd_law ct_law : Value}
    {tk_MOST_FRAMES : Tok}
    (a_FrameError : PySem.W.nsIn K mainGlobals "FrameError" = some (some (.ref C_FrameError)))
    (a_BadCount : PySem.W.nsIn K mainGlobals "BadCount" = some (some (.ref C_BadCount)))
    (a_BadRow : PySem.W.nsIn K mainGlobals "BadRow" = some (some (.ref C_BadRow)))
    (a_BadFrames : PySem.W.nsIn K mainGlobals "BadFrames" = some (some (.ref C_BadFrames)))
    (xL_FrameError : K.lookup C_FrameError = some (excClassObj nm_FrameError q_FrameError C_FrameError N_FrameError bs_FrameError [.type "ValueError", .type "Exception", .type "BaseException", .type "object"] true sn_FrameError sub_FrameError ab_FrameError col_FrameError dd_FrameError m0_FrameError m1_FrameError m2_FrameError m3_FrameError m5_FrameError "ValueError.__new__"))
    (sa_FrameError : PySem.W.findIn K (.ref C_FrameError) "__setattr__" = some (some (.builtin "object.__setattr__")))
    (ga_FrameError : PySem.W.findIn K (.ref C_FrameError) "__getattribute__" = some (some (.builtin "BaseException.__getattribute__")))
    (gg_FrameError : PySem.W.findIn K (.ref C_FrameError) "__getattr__" = some none)
    (eC_FrameError : PySem.W.subIn K (.ref C_FrameError) (.type "BaseException") = some true)
    (tC_FrameError : PySem.W.typeIn K (.ref C_FrameError) = some (.type "type"))
    (kC_FrameError : PySem.W.keepIn K (.ref C_FrameError) = true)
    (hC_FrameError : PySem.W.hasDictIn K C_FrameError = true)
    (iC_FrameError : PySem.W.isClsIn K C_FrameError = true)
    (cC_FrameError : PySem.W.findIn K (.ref C_FrameError) "__class__" = some (some (.builtin "object.__class__")))
    (mC_FrameError : PySem.W.mroIn K C_FrameError (.type "object") = some true)
    (sb_FrameError_FrameError : PySem.W.subIn K (.ref C_FrameError) (.ref C_FrameError) = some true)
    (sb_FrameError_BadCount : PySem.W.subIn K (.ref C_FrameError) (.ref C_BadCount) = some false)
    (sb_FrameError_BadRow : PySem.W.subIn K (.ref C_FrameError) (.ref C_BadRow) = some false)
    (sb_FrameError_BadFrames : PySem.W.subIn K (.ref C_FrameError) (.ref C_BadFrames) = some false)
    (xL_BadCount : K.lookup C_BadCount = some (excClassObj nm_BadCount q_BadCount C_BadCount N_BadCount bs_BadCount [.ref C_FrameError, .type "ValueError", .type "Exception", .type "BaseException", .type "object"] true sn_BadCount sub_BadCount ab_BadCount col_BadCount dd_BadCount m0_BadCount m1_BadCount m2_BadCount m3_BadCount m5_BadCount "ValueError.__new__"))
    (sa_BadCount : PySem.W.findIn K (.ref C_BadCount) "__setattr__" = some (some (.builtin "object.__setattr__")))
    (ga_BadCount : PySem.W.findIn K (.ref C_BadCount) "__getattribute__" = some (some (.builtin "BaseException.__getattribute__")))
    (gg_BadCount : PySem.W.findIn K (.ref C_BadCount) "__getattr__" = some none)
    (eC_BadCount : PySem.W.subIn K (.ref C_BadCount) (.type "BaseException") = some true)
    (tC_BadCount : PySem.W.typeIn K (.ref C_BadCount) = some (.type "type"))
    (kC_BadCount : PySem.W.keepIn K (.ref C_BadCount) = true)
    (hC_BadCount : PySem.W.hasDictIn K C_BadCount = true)
    (iC_BadCount : PySem.W.isClsIn K C_BadCount = true)
    (cC_BadCount : PySem.W.findIn K (.ref C_BadCount) "__class__" = some (some (.builtin "object.__class__")))
    (mC_BadCount : PySem.W.mroIn K C_BadCount (.type "object") = some true)
    (sb_BadCount_FrameError : PySem.W.subIn K (.ref C_BadCount) (.ref C_FrameError) = some true)
    (sb_BadCount_BadCount : PySem.W.subIn K (.ref C_BadCount) (.ref C_BadCount) = some true)
    (sb_BadCount_BadRow : PySem.W.subIn K (.ref C_BadCount) (.ref C_BadRow) = some false)
    (sb_BadCount_BadFrames : PySem.W.subIn K (.ref C_BadCount) (.ref C_BadFrames) = some false)
    (no_BadCount_most : PySem.W.findIn K (.ref C_BadCount) "most" = some none)
    (xL_BadRow : K.lookup C_BadRow = some (excClassObj nm_BadRow q_BadRow C_BadRow N_BadRow bs_BadRow [.ref C_FrameError, .type "ValueError", .type "Exception", .type "BaseException", .type "object"] true sn_BadRow sub_BadRow ab_BadRow col_BadRow dd_BadRow m0_BadRow m1_BadRow m2_BadRow m3_BadRow m5_BadRow "ValueError.__new__"))
    (sa_BadRow : PySem.W.findIn K (.ref C_BadRow) "__setattr__" = some (some (.builtin "object.__setattr__")))
    (ga_BadRow : PySem.W.findIn K (.ref C_BadRow) "__getattribute__" = some (some (.builtin "BaseException.__getattribute__")))
    (gg_BadRow : PySem.W.findIn K (.ref C_BadRow) "__getattr__" = some none)
    (eC_BadRow : PySem.W.subIn K (.ref C_BadRow) (.type "BaseException") = some true)
    (tC_BadRow : PySem.W.typeIn K (.ref C_BadRow) = some (.type "type"))
    (kC_BadRow : PySem.W.keepIn K (.ref C_BadRow) = true)
    (hC_BadRow : PySem.W.hasDictIn K C_BadRow = true)
    (iC_BadRow : PySem.W.isClsIn K C_BadRow = true)
    (cC_BadRow : PySem.W.findIn K (.ref C_BadRow) "__class__" = some (some (.builtin "object.__class__")))
    (mC_BadRow : PySem.W.mroIn K C_BadRow (.type "object") = some true)
    (sb_BadRow_FrameError : PySem.W.subIn K (.ref C_BadRow) (.ref C_FrameError) = some true)
    (sb_BadRow_BadCount : PySem.W.subIn K (.ref C_BadRow) (.ref C_BadCount) = some false)
    (sb_BadRow_BadRow : PySem.W.subIn K (.ref C_BadRow) (.ref C_BadRow) = some true)
    (sb_BadRow_BadFrames : PySem.W.subIn K (.ref C_BadRow) (.ref C_BadFrames) = some false)
    (no_BadRow_at : PySem.W.findIn K (.ref C_BadRow) "at" = some none)
    (xL_BadFrames : K.lookup C_BadFrames = some (excClassObj nm_BadFrames q_BadFrames C_BadFrames N_BadFrames bs_BadFrames [.ref C_FrameError, .type "ValueError", .type "Exception", .type "BaseException", .type "object"] true sn_BadFrames sub_BadFrames ab_BadFrames col_BadFrames dd_BadFrames m0_BadFrames m1_BadFrames m2_BadFrames m3_BadFrames m5_BadFrames "ValueError.__new__"))
    (sa_BadFrames : PySem.W.findIn K (.ref C_BadFrames) "__setattr__" = some (some (.builtin "object.__setattr__")))
    (ga_BadFrames : PySem.W.findIn K (.ref C_BadFrames) "__getattribute__" = some (some (.builtin "BaseException.__getattribute__")))
    (gg_BadFrames : PySem.W.findIn K (.ref C_BadFrames) "__getattr__" = some none)
    (eC_BadFrames : PySem.W.subIn K (.ref C_BadFrames) (.type "BaseException") = some true)
    (tC_BadFrames : PySem.W.typeIn K (.ref C_BadFrames) = some (.type "type"))
    (kC_BadFrames : PySem.W.keepIn K (.ref C_BadFrames) = true)
    (hC_BadFrames : PySem.W.hasDictIn K C_BadFrames = true)
    (iC_BadFrames : PySem.W.isClsIn K C_BadFrames = true)
    (cC_BadFrames : PySem.W.findIn K (.ref C_BadFrames) "__class__" = some (some (.builtin "object.__class__")))
    (mC_BadFrames : PySem.W.mroIn K C_BadFrames (.type "object") = some true)
    (sb_BadFrames_FrameError : PySem.W.subIn K (.ref C_BadFrames) (.ref C_FrameError) = some true)
    (sb_BadFrames_BadCount : PySem.W.subIn K (.ref C_BadFrames) (.ref C_BadCount) = some false)
    (sb_BadFrames_BadRow : PySem.W.subIn K (.ref C_BadFrames) (.ref C_BadRow) = some false)
    (sb_BadFrames_BadFrames : PySem.W.subIn K (.ref C_BadFrames) (.ref C_BadFrames) = some true)
    (no_BadFrames_at : PySem.W.findIn K (.ref C_BadFrames) "at" = some none)
    (sg : PySem.W.specialIn K (.builtin "object.__class__") "__get__" = some (some (.builtin "getset_descriptor.__get__")))
    (tg : PySem.W.takesIn K (.builtin "object.__class__") = some true)
    (a_BadCount_init : PySem.W.findIn K (.ref C_BadCount) "__init__" = some (some (.ref f_BadCount_init)))
    (i_BadCount_init : PySem.W.typeIn K (.ref f_BadCount_init) = some (.type "function"))
    (l_BadCount_init : K.lookup f_BadCount_init = some ⟨oc_BadCount_init, od_BadCount_init, .func (PySem.W.fnOf "__init__" "BadCount.__init__" (defArgs s_BadCount_init) (defBody s_BadCount_init) (defScope s_BadCount_init) .none kV_BadCount_init dc_BadCount_init pm_BadCount_init an_BadCount_init cd_BadCount_init ct_BadCount_init), sl_BadCount_init⟩)
    (c_BadCount_init : PySem.W.codeIn K cd_BadCount_init "BadCount.__init__" = true)
    (k_BadCount_init : PySem.W.keepIn K (.ref f_BadCount_init) = true)
    (a_BadRow_init : PySem.W.findIn K (.ref C_BadRow) "__init__" = some (some (.ref f_BadRow_init)))
    (i_BadRow_init : PySem.W.typeIn K (.ref f_BadRow_init) = some (.type "function"))
    (l_BadRow_init : K.lookup f_BadRow_init = some ⟨oc_BadRow_init, od_BadRow_init, .func (PySem.W.fnOf "__init__" "BadRow.__init__" (defArgs s_BadRow_init) (defBody s_BadRow_init) (defScope s_BadRow_init) .none kV_BadRow_init dc_BadRow_init pm_BadRow_init an_BadRow_init cd_BadRow_init ct_BadRow_init), sl_BadRow_init⟩)
    (c_BadRow_init : PySem.W.codeIn K cd_BadRow_init "BadRow.__init__" = true)
    (k_BadRow_init : PySem.W.keepIn K (.ref f_BadRow_init) = true)
    (a_BadFrames_init : PySem.W.findIn K (.ref C_BadFrames) "__init__" = some (some (.ref f_BadFrames_init)))
    (i_BadFrames_init : PySem.W.typeIn K (.ref f_BadFrames_init) = some (.type "function"))
    (l_BadFrames_init : K.lookup f_BadFrames_init = some ⟨oc_BadFrames_init, od_BadFrames_init, .func (PySem.W.fnOf "__init__" "BadFrames.__init__" (defArgs s_BadFrames_init) (defBody s_BadFrames_init) (defScope s_BadFrames_init) .none kV_BadFrames_init dc_BadFrames_init pm_BadFrames_init an_BadFrames_init cd_BadFrames_init ct_BadFrames_init), sl_BadFrames_init⟩)
    (c_BadFrames_init : PySem.W.codeIn K cd_BadFrames_init "BadFrames.__init__" = true)
    (k_BadFrames_init : PySem.W.keepIn K (.ref f_BadFrames_init) = true)
    (a_is_whole : PySem.W.nsIn K mainGlobals "is_whole" = some (some (.ref f_is_whole)))
    (l_is_whole : K.lookup f_is_whole = some ⟨oc_is_whole, od_is_whole, .func (PySem.W.fnOf "is_whole" "is_whole" (defArgs s_is_whole) (defBody s_is_whole) (defScope s_is_whole) (.ref dT_is_whole) kV_is_whole dc_is_whole pm_is_whole an_is_whole cd_is_whole ct_is_whole), sl_is_whole⟩)
    (lt_is_whole : K.lookup dT_is_whole = some ⟨.type "tuple", none, .seq #[.none, .none] dn_is_whole, #[]⟩)
    (c_is_whole : PySem.W.codeIn K cd_is_whole "is_whole" = true)
    (k_is_whole : PySem.W.keepIn K (.ref f_is_whole) = true)
    (a_is_sequence : PySem.W.nsIn K mainGlobals "is_sequence" = some (some (.ref f_is_sequence)))
    (l_is_sequence : K.lookup f_is_sequence = some ⟨oc_is_sequence, od_is_sequence, .func (PySem.W.fnOf "is_sequence" "is_sequence" (defArgs s_is_sequence) (defBody s_is_sequence) (defScope s_is_sequence) .none kV_is_sequence dc_is_sequence pm_is_sequence an_is_sequence cd_is_sequence ct_is_sequence), sl_is_sequence⟩)
    (c_is_sequence : PySem.W.codeIn K cd_is_sequence "is_sequence" = true)
    (k_is_sequence : PySem.W.keepIn K (.ref f_is_sequence) = true)
    (a_check_count : PySem.W.nsIn K mainGlobals "check_count" = some (some (.ref f_check_count)))
    (l_check_count : K.lookup f_check_count = some ⟨oc_check_count, od_check_count, .func (PySem.W.fnOf "check_count" "check_count" (defArgs s_check_count) (defBody s_check_count) (defScope s_check_count) (.ref dT_check_count) kV_check_count dc_check_count pm_check_count an_check_count cd_check_count ct_check_count), sl_check_count⟩)
    (lt_check_count : K.lookup dT_check_count = some ⟨.type "tuple", none, .seq #[.int 24 dt_check_count_0] dn_check_count, #[]⟩)
    (c_check_count : PySem.W.codeIn K cd_check_count "check_count" = true)
    (k_check_count : PySem.W.keepIn K (.ref f_check_count) = true)
    (a_row_fault : PySem.W.nsIn K mainGlobals "row_fault" = some (some (.ref f_row_fault)))
    (l_row_fault : K.lookup f_row_fault = some ⟨oc_row_fault, od_row_fault, .func (PySem.W.fnOf "row_fault" "row_fault" (defArgs s_row_fault) (defBody s_row_fault) (defScope s_row_fault) .none kV_row_fault dc_row_fault pm_row_fault an_row_fault cd_row_fault ct_row_fault), sl_row_fault⟩)
    (c_row_fault : PySem.W.codeIn K cd_row_fault "row_fault" = true)
    (k_row_fault : PySem.W.keepIn K (.ref f_row_fault) = true)
    (a_check_row : PySem.W.nsIn K mainGlobals "check_row" = some (some (.ref f_check_row)))
    (l_check_row : K.lookup f_check_row = some ⟨oc_check_row, od_check_row, .func (PySem.W.fnOf "check_row" "check_row" (defArgs s_check_row) (defBody s_check_row) (defScope s_check_row) .none kV_check_row dc_check_row pm_check_row an_check_row cd_check_row ct_check_row), sl_check_row⟩)
    (c_check_row : PySem.W.codeIn K cd_check_row "check_row" = true)
    (k_check_row : PySem.W.keepIn K (.ref f_check_row) = true)
    (a_begins_row : PySem.W.nsIn K mainGlobals "begins_row" = some (some (.ref f_begins_row)))
    (l_begins_row : K.lookup f_begins_row = some ⟨oc_begins_row, od_begins_row, .func (PySem.W.fnOf "begins_row" "begins_row" (defArgs s_begins_row) (defBody s_begins_row) (defScope s_begins_row) .none kV_begins_row dc_begins_row pm_begins_row an_begins_row cd_begins_row ct_begins_row), sl_begins_row⟩)
    (c_begins_row : PySem.W.codeIn K cd_begins_row "begins_row" = true)
    (k_begins_row : PySem.W.keepIn K (.ref f_begins_row) = true)
    (a_first_meeting : PySem.W.nsIn K mainGlobals "first_meeting" = some (some (.ref f_first_meeting)))
    (l_first_meeting : K.lookup f_first_meeting = some ⟨oc_first_meeting, od_first_meeting, .func (PySem.W.fnOf "first_meeting" "first_meeting" (defArgs s_first_meeting) (defBody s_first_meeting) (defScope s_first_meeting) .none kV_first_meeting dc_first_meeting pm_first_meeting an_first_meeting cd_first_meeting ct_first_meeting), sl_first_meeting⟩)
    (c_first_meeting : PySem.W.codeIn K cd_first_meeting "first_meeting" = true)
    (k_first_meeting : PySem.W.keepIn K (.ref f_first_meeting) = true)
    (a_which_begins : PySem.W.nsIn K mainGlobals "which_begins" = some (some (.ref f_which_begins)))
    (l_which_begins : K.lookup f_which_begins = some ⟨oc_which_begins, od_which_begins, .func (PySem.W.fnOf "which_begins" "which_begins" (defArgs s_which_begins) (defBody s_which_begins) (defScope s_which_begins) .none kV_which_begins dc_which_begins pm_which_begins an_which_begins cd_which_begins ct_which_begins), sl_which_begins⟩)
    (c_which_begins : PySem.W.codeIn K cd_which_begins "which_begins" = true)
    (k_which_begins : PySem.W.keepIn K (.ref f_which_begins) = true)
    (a_unspent_frames : PySem.W.nsIn K mainGlobals "unspent_frames" = some (some (.ref f_unspent_frames)))
    (l_unspent_frames : K.lookup f_unspent_frames = some ⟨oc_unspent_frames, od_unspent_frames, .func (PySem.W.fnOf "unspent_frames" "unspent_frames" (defArgs s_unspent_frames) (defBody s_unspent_frames) (defScope s_unspent_frames) .none kV_unspent_frames dc_unspent_frames pm_unspent_frames an_unspent_frames cd_unspent_frames ct_unspent_frames), sl_unspent_frames⟩)
    (c_unspent_frames : PySem.W.codeIn K cd_unspent_frames "unspent_frames" = true)
    (k_unspent_frames : PySem.W.keepIn K (.ref f_unspent_frames) = true)
    (a_check_left : PySem.W.nsIn K mainGlobals "check_left" = some (some (.ref f_check_left)))
    (l_check_left : K.lookup f_check_left = some ⟨oc_check_left, od_check_left, .func (PySem.W.fnOf "check_left" "check_left" (defArgs s_check_left) (defBody s_check_left) (defScope s_check_left) .none kV_check_left dc_check_left pm_check_left an_check_left cd_check_left ct_check_left), sl_check_left⟩)
    (c_check_left : PySem.W.codeIn K cd_check_left "check_left" = true)
    (k_check_left : PySem.W.keepIn K (.ref f_check_left) = true)
    (a_spell_row : PySem.W.nsIn K mainGlobals "spell_row" = some (some (.ref f_spell_row)))
    (l_spell_row : K.lookup f_spell_row = some ⟨oc_spell_row, od_spell_row, .func (PySem.W.fnOf "spell_row" "spell_row" (defArgs s_spell_row) (defBody s_spell_row) (defScope s_spell_row) .none kV_spell_row dc_spell_row pm_spell_row an_spell_row cd_spell_row ct_spell_row), sl_spell_row⟩)
    (c_spell_row : PySem.W.codeIn K cd_spell_row "spell_row" = true)
    (k_spell_row : PySem.W.keepIn K (.ref f_spell_row) = true)
    (a_count_among : PySem.W.nsIn K mainGlobals "count_among" = some (some (.ref f_count_among)))
    (l_count_among : K.lookup f_count_among = some ⟨oc_count_among, od_count_among, .func (PySem.W.fnOf "count_among" "count_among" (defArgs s_count_among) (defBody s_count_among) (defScope s_count_among) .none kV_count_among dc_count_among pm_count_among an_count_among cd_count_among ct_count_among), sl_count_among⟩)
    (c_count_among : PySem.W.codeIn K cd_count_among "count_among" = true)
    (k_count_among : PySem.W.keepIn K (.ref f_count_among) = true)
    (a_first_time_row : PySem.W.nsIn K mainGlobals "first_time_row" = some (some (.ref f_first_time_row)))
    (l_first_time_row : K.lookup f_first_time_row = some ⟨oc_first_time_row, od_first_time_row, .func (PySem.W.fnOf "first_time_row" "first_time_row" (defArgs s_first_time_row) (defBody s_first_time_row) (defScope s_first_time_row) .none kV_first_time_row dc_first_time_row pm_first_time_row an_first_time_row cd_first_time_row ct_first_time_row), sl_first_time_row⟩)
    (c_first_time_row : PySem.W.codeIn K cd_first_time_row "first_time_row" = true)
    (k_first_time_row : PySem.W.keepIn K (.ref f_first_time_row) = true)
    (a_law_mix : PySem.W.nsIn K mainGlobals "_law_mix" = some (some (.ref f_law_mix)))
    (l_law_mix : K.lookup f_law_mix = some ⟨oc_law_mix, od_law_mix, .func (PySem.W.fnOf "_law_mix" "_law_mix" (defArgs s_law_mix) (defBody s_law_mix) (defScope s_law_mix) .none kV_law_mix dc_law_mix pm_law_mix an_law_mix cd_law_mix ct_law_mix), sl_law_mix⟩)
    (c_law_mix : PySem.W.codeIn K cd_law_mix "_law_mix" = true)
    (k_law_mix : PySem.W.keepIn K (.ref f_law_mix) = true)
    (a_law_draw : PySem.W.nsIn K mainGlobals "_law_draw" = some (some (.ref f_law_draw)))
    (l_law_draw : K.lookup f_law_draw = some ⟨oc_law_draw, od_law_draw, .func (PySem.W.fnOf "_law_draw" "_law_draw" (defArgs s_law_draw) (defBody s_law_draw) (defScope s_law_draw) .none kV_law_draw dc_law_draw pm_law_draw an_law_draw cd_law_draw ct_law_draw), sl_law_draw⟩)
    (c_law_draw : PySem.W.codeIn K cd_law_draw "_law_draw" = true)
    (k_law_draw : PySem.W.keepIn K (.ref f_law_draw) = true)
    (a_law_some_row : PySem.W.nsIn K mainGlobals "_law_some_row" = some (some (.ref f_law_some_row)))
    (l_law_some_row : K.lookup f_law_some_row = some ⟨oc_law_some_row, od_law_some_row, .func (PySem.W.fnOf "_law_some_row" "_law_some_row" (defArgs s_law_some_row) (defBody s_law_some_row) (defScope s_law_some_row) .none kV_law_some_row dc_law_some_row pm_law_some_row an_law_some_row cd_law_some_row ct_law_some_row), sl_law_some_row⟩)
    (c_law_some_row : PySem.W.codeIn K cd_law_some_row "_law_some_row" = true)
    (k_law_some_row : PySem.W.keepIn K (.ref f_law_some_row) = true)
    (a_law_seq : PySem.W.nsIn K mainGlobals "_law_seq" = some (some (.ref f_law_seq)))
    (l_law_seq : K.lookup f_law_seq = some ⟨oc_law_seq, od_law_seq, .func (PySem.W.fnOf "_law_seq" "_law_seq" (defArgs s_law_seq) (defBody s_law_seq) (defScope s_law_seq) .none kV_law_seq dc_law_seq pm_law_seq an_law_seq cd_law_seq ct_law_seq), sl_law_seq⟩)
    (c_law_seq : PySem.W.codeIn K cd_law_seq "_law_seq" = true)
    (k_law_seq : PySem.W.keepIn K (.ref f_law_seq) = true)
    (a_law_exact : PySem.W.nsIn K mainGlobals "_law_exact" = some (some (.ref f_law_exact)))
    (l_law_exact : K.lookup f_law_exact = some ⟨oc_law_exact, od_law_exact, .func (PySem.W.fnOf "_law_exact" "_law_exact" (defArgs s_law_exact) (defBody s_law_exact) (defScope s_law_exact) .none kV_law_exact dc_law_exact pm_law_exact an_law_exact cd_law_exact ct_law_exact), sl_law_exact⟩)
    (c_law_exact : PySem.W.codeIn K cd_law_exact "_law_exact" = true)
    (k_law_exact : PySem.W.keepIn K (.ref f_law_exact) = true)
    (a_law_no_count : PySem.W.nsIn K mainGlobals "_law_no_count" = some (some (.ref f_law_no_count)))
    (l_law_no_count : K.lookup f_law_no_count = some ⟨oc_law_no_count, od_law_no_count, .func (PySem.W.fnOf "_law_no_count" "_law_no_count" (defArgs s_law_no_count) (defBody s_law_no_count) (defScope s_law_no_count) .none kV_law_no_count dc_law_no_count pm_law_no_count an_law_no_count cd_law_no_count ct_law_no_count), sl_law_no_count⟩)
    (c_law_no_count : PySem.W.codeIn K cd_law_no_count "_law_no_count" = true)
    (k_law_no_count : PySem.W.keepIn K (.ref f_law_no_count) = true)
    (a_law_hand : PySem.W.nsIn K mainGlobals "_law_hand" = some (some (.ref f_law_hand)))
    (l_law_hand : K.lookup f_law_hand = some ⟨oc_law_hand, od_law_hand, .func (PySem.W.fnOf "_law_hand" "_law_hand" (defArgs s_law_hand) (defBody s_law_hand) (defScope s_law_hand) .none kV_law_hand dc_law_hand pm_law_hand an_law_hand cd_law_hand ct_law_hand), sl_law_hand⟩)
    (c_law_hand : PySem.W.codeIn K cd_law_hand "_law_hand" = true)
    (k_law_hand : PySem.W.keepIn K (.ref f_law_hand) = true)
    (a_law_asked : PySem.W.nsIn K mainGlobals "_law_asked" = some (some (.ref f_law_asked)))
    (l_law_asked : K.lookup f_law_asked = some ⟨oc_law_asked, od_law_asked, .func (PySem.W.fnOf "_law_asked" "_law_asked" (defArgs s_law_asked) (defBody s_law_asked) (defScope s_law_asked) .none kV_law_asked dc_law_asked pm_law_asked an_law_asked cd_law_asked ct_law_asked), sl_law_asked⟩)
    (c_law_asked : PySem.W.codeIn K cd_law_asked "_law_asked" = true)
    (k_law_asked : PySem.W.keepIn K (.ref f_law_asked) = true)
    (a_law_some_frames : PySem.W.nsIn K mainGlobals "_law_some_frames" = some (some (.ref f_law_some_frames)))
    (l_law_some_frames : K.lookup f_law_some_frames = some ⟨oc_law_some_frames, od_law_some_frames, .func (PySem.W.fnOf "_law_some_frames" "_law_some_frames" (defArgs s_law_some_frames) (defBody s_law_some_frames) (defScope s_law_some_frames) .none kV_law_some_frames dc_law_some_frames pm_law_some_frames an_law_some_frames cd_law_some_frames ct_law_some_frames), sl_law_some_frames⟩)
    (c_law_some_frames : PySem.W.codeIn K cd_law_some_frames "_law_some_frames" = true)
    (k_law_some_frames : PySem.W.keepIn K (.ref f_law_some_frames) = true)
    (a_law_bad_frames : PySem.W.nsIn K mainGlobals "_law_bad_frames" = some (some (.ref f_law_bad_frames)))
    (l_law_bad_frames : K.lookup f_law_bad_frames = some ⟨oc_law_bad_frames, od_law_bad_frames, .func (PySem.W.fnOf "_law_bad_frames" "_law_bad_frames" (defArgs s_law_bad_frames) (defBody s_law_bad_frames) (defScope s_law_bad_frames) .none kV_law_bad_frames dc_law_bad_frames pm_law_bad_frames an_law_bad_frames cd_law_bad_frames ct_law_bad_frames), sl_law_bad_frames⟩)
    (c_law_bad_frames : PySem.W.codeIn K cd_law_bad_frames "_law_bad_frames" = true)
    (k_law_bad_frames : PySem.W.keepIn K (.ref f_law_bad_frames) = true)
    (a_law_bad_row : PySem.W.nsIn K mainGlobals "_law_bad_row" = some (some (.ref f_law_bad_row)))
    (l_law_bad_row : K.lookup f_law_bad_row = some ⟨oc_law_bad_row, od_law_bad_row, .func (PySem.W.fnOf "_law_bad_row" "_law_bad_row" (defArgs s_law_bad_row) (defBody s_law_bad_row) (defScope s_law_bad_row) .none kV_law_bad_row dc_law_bad_row pm_law_bad_row an_law_bad_row cd_law_bad_row ct_law_bad_row), sl_law_bad_row⟩)
    (c_law_bad_row : PySem.W.codeIn K cd_law_bad_row "_law_bad_row" = true)
    (k_law_bad_row : PySem.W.keepIn K (.ref f_law_bad_row) = true)
    (a_law_left : PySem.W.nsIn K mainGlobals "_law_left" = some (some (.ref f_law_left)))
    (l_law_left : K.lookup f_law_left = some ⟨oc_law_left, od_law_left, .func (PySem.W.fnOf "_law_left" "_law_left" (defArgs s_law_left) (defBody s_law_left) (defScope s_law_left) .none kV_law_left dc_law_left pm_law_left an_law_left cd_law_left ct_law_left), sl_law_left⟩)
    (c_law_left : PySem.W.codeIn K cd_law_left "_law_left" = true)
    (k_law_left : PySem.W.keepIn K (.ref f_law_left) = true)
    (a_law_unspent : PySem.W.nsIn K mainGlobals "_law_unspent" = some (some (.ref f_law_unspent)))
    (l_law_unspent : K.lookup f_law_unspent = some ⟨oc_law_unspent, od_law_unspent, .func (PySem.W.fnOf "_law_unspent" "_law_unspent" (defArgs s_law_unspent) (defBody s_law_unspent) (defScope s_law_unspent) .none kV_law_unspent dc_law_unspent pm_law_unspent an_law_unspent cd_law_unspent ct_law_unspent), sl_law_unspent⟩)
    (c_law_unspent : PySem.W.codeIn K cd_law_unspent "_law_unspent" = true)
    (k_law_unspent : PySem.W.keepIn K (.ref f_law_unspent) = true)
    (a_law_begun : PySem.W.nsIn K mainGlobals "_law_begun" = some (some (.ref f_law_begun)))
    (l_law_begun : K.lookup f_law_begun = some ⟨oc_law_begun, od_law_begun, .func (PySem.W.fnOf "_law_begun" "_law_begun" (defArgs s_law_begun) (defBody s_law_begun) (defScope s_law_begun) .none kV_law_begun dc_law_begun pm_law_begun an_law_begun cd_law_begun ct_law_begun), sl_law_begun⟩)
    (c_law_begun : PySem.W.codeIn K cd_law_begun "_law_begun" = true)
    (k_law_begun : PySem.W.keepIn K (.ref f_law_begun) = true)
    (a_law_beginnings : PySem.W.nsIn K mainGlobals "_law_beginnings" = some (some (.ref f_law_beginnings)))
    (l_law_beginnings : K.lookup f_law_beginnings = some ⟨oc_law_beginnings, od_law_beginnings, .func (PySem.W.fnOf "_law_beginnings" "_law_beginnings" (defArgs s_law_beginnings) (defBody s_law_beginnings) (defScope s_law_beginnings) .none kV_law_beginnings dc_law_beginnings pm_law_beginnings an_law_beginnings cd_law_beginnings ct_law_beginnings), sl_law_beginnings⟩)
    (c_law_beginnings : PySem.W.codeIn K cd_law_beginnings "_law_beginnings" = true)
    (k_law_beginnings : PySem.W.keepIn K (.ref f_law_beginnings) = true)
    (a_law_first_times : PySem.W.nsIn K mainGlobals "_law_first_times" = some (some (.ref f_law_first_times)))
    (l_law_first_times : K.lookup f_law_first_times = some ⟨oc_law_first_times, od_law_first_times, .func (PySem.W.fnOf "_law_first_times" "_law_first_times" (defArgs s_law_first_times) (defBody s_law_first_times) (defScope s_law_first_times) .none kV_law_first_times dc_law_first_times pm_law_first_times an_law_first_times cd_law_first_times ct_law_first_times), sl_law_first_times⟩)
    (c_law_first_times : PySem.W.codeIn K cd_law_first_times "_law_first_times" = true)
    (k_law_first_times : PySem.W.keepIn K (.ref f_law_first_times) = true)
    (a_law : PySem.W.nsIn K mainGlobals "law" = some (some (.ref f_law)))
    (l_law : K.lookup f_law = some ⟨oc_law, od_law, .func (PySem.W.fnOf "law" "law" (defArgs s_law) (defBody s_law) (defScope s_law) .none kV_law dc_law pm_law an_law cd_law ct_law), sl_law⟩)
    (c_law : PySem.W.codeIn K cd_law "law" = true)
    (k_law : PySem.W.keepIn K (.ref f_law) = true)
    (z_ValueError : PySem.W.nsIn K mainGlobals "ValueError" = some none)
    (z_abs : PySem.W.nsIn K mainGlobals "abs" = some none)
    (z_bool : PySem.W.nsIn K mainGlobals "bool" = some none)
    (z_enumerate : PySem.W.nsIn K mainGlobals "enumerate" = some none)
    (z_int : PySem.W.nsIn K mainGlobals "int" = some none)
    (z_isinstance : PySem.W.nsIn K mainGlobals "isinstance" = some none)
    (z_len : PySem.W.nsIn K mainGlobals "len" = some none)
    (z_list : PySem.W.nsIn K mainGlobals "list" = some none)
    (z_range : PySem.W.nsIn K mainGlobals "range" = some none)
    (z_str : PySem.W.nsIn K mainGlobals "str" = some none)
    (z_tuple : PySem.W.nsIn K mainGlobals "tuple" = some none)
    (m_MOST_FRAMES : PySem.W.nsIn K mainGlobals "MOST_FRAMES" = some (some (.int 24 tk_MOST_FRAMES)))
    : ∃ fd : FuncData, (∀ (s : Shared) (v : Value), BindsTo s fd ⟨[v], []⟩ [("_law_script", v)]) ∧ ∀ base : Heap, K.In base → base.Ns mainGlobals mg → FnOk l.prog w K mg base CX0 8 fa fd ["_law_script"] (spLaw K) := by
  have e : fa = f_law := Value.ref.inj (Option.some.inj (hfa.symm.trans (PySem.W.mg_of X G a_law)))
  rw [e]
  have T : Top K mg {
      c_FrameError := C_FrameError
      c_BadCount := C_BadCount
      c_BadRow := C_BadRow
      c_BadFrames := C_BadFrames
      f_BadCount_init := f_BadCount_init
      d_BadCount_init := (PySem.W.fnOf "__init__" "BadCount.__init__" (defArgs s_BadCount_init) (defBody s_BadCount_init) (defScope s_BadCount_init) .none kV_BadCount_init dc_BadCount_init pm_BadCount_init an_BadCount_init cd_BadCount_init ct_BadCount_init)
      f_BadRow_init := f_BadRow_init
      d_BadRow_init := (PySem.W.fnOf "__init__" "BadRow.__init__" (defArgs s_BadRow_init) (defBody s_BadRow_init) (defScope s_BadRow_init) .none kV_BadRow_init dc_BadRow_init pm_BadRow_init an_BadRow_init cd_BadRow_init ct_BadRow_init)
      f_BadFrames_init := f_BadFrames_init
      d_BadFrames_init := (PySem.W.fnOf "__init__" "BadFrames.__init__" (defArgs s_BadFrames_init) (defBody s_BadFrames_init) (defScope s_BadFrames_init) .none kV_BadFrames_init dc_BadFrames_init pm_BadFrames_init an_BadFrames_init cd_BadFrames_init ct_BadFrames_init)
      f_is_whole := f_is_whole
      d_is_whole := (PySem.W.fnOf "is_whole" "is_whole" (defArgs s_is_whole) (defBody s_is_whole) (defScope s_is_whole) (.ref dT_is_whole) kV_is_whole dc_is_whole pm_is_whole an_is_whole cd_is_whole ct_is_whole)
      f_is_sequence := f_is_sequence
      d_is_sequence := (PySem.W.fnOf "is_sequence" "is_sequence" (defArgs s_is_sequence) (defBody s_is_sequence) (defScope s_is_sequence) .none kV_is_sequence dc_is_sequence pm_is_sequence an_is_sequence cd_is_sequence ct_is_sequence)
      f_check_count := f_check_count
      d_check_count := (PySem.W.fnOf "check_count" "check_count" (defArgs s_check_count) (defBody s_check_count) (defScope s_check_count) (.ref dT_check_count) kV_check_count dc_check_count pm_check_count an_check_count cd_check_count ct_check_count)
      f_row_fault := f_row_fault
      d_row_fault := (PySem.W.fnOf "row_fault" "row_fault" (defArgs s_row_fault) (defBody s_row_fault) (defScope s_row_fault) .none kV_row_fault dc_row_fault pm_row_fault an_row_fault cd_row_fault ct_row_fault)
      f_check_row := f_check_row
      d_check_row := (PySem.W.fnOf "check_row" "check_row" (defArgs s_check_row) (defBody s_check_row) (defScope s_check_row) .none kV_check_row dc_check_row pm_check_row an_check_row cd_check_row ct_check_row)
      f_begins_row := f_begins_row
      d_begins_row := (PySem.W.fnOf "begins_row" "begins_row" (defArgs s_begins_row) (defBody s_begins_row) (defScope s_begins_row) .none kV_begins_row dc_begins_row pm_begins_row an_begins_row cd_begins_row ct_begins_row)
      f_first_meeting := f_first_meeting
      d_first_meeting := (PySem.W.fnOf "first_meeting" "first_meeting" (defArgs s_first_meeting) (defBody s_first_meeting) (defScope s_first_meeting) .none kV_first_meeting dc_first_meeting pm_first_meeting an_first_meeting cd_first_meeting ct_first_meeting)
      f_which_begins := f_which_begins
      d_which_begins := (PySem.W.fnOf "which_begins" "which_begins" (defArgs s_which_begins) (defBody s_which_begins) (defScope s_which_begins) .none kV_which_begins dc_which_begins pm_which_begins an_which_begins cd_which_begins ct_which_begins)
      f_unspent_frames := f_unspent_frames
      d_unspent_frames := (PySem.W.fnOf "unspent_frames" "unspent_frames" (defArgs s_unspent_frames) (defBody s_unspent_frames) (defScope s_unspent_frames) .none kV_unspent_frames dc_unspent_frames pm_unspent_frames an_unspent_frames cd_unspent_frames ct_unspent_frames)
      f_check_left := f_check_left
      d_check_left := (PySem.W.fnOf "check_left" "check_left" (defArgs s_check_left) (defBody s_check_left) (defScope s_check_left) .none kV_check_left dc_check_left pm_check_left an_check_left cd_check_left ct_check_left)
      f_spell_row := f_spell_row
      d_spell_row := (PySem.W.fnOf "spell_row" "spell_row" (defArgs s_spell_row) (defBody s_spell_row) (defScope s_spell_row) .none kV_spell_row dc_spell_row pm_spell_row an_spell_row cd_spell_row ct_spell_row)
      f_count_among := f_count_among
      d_count_among := (PySem.W.fnOf "count_among" "count_among" (defArgs s_count_among) (defBody s_count_among) (defScope s_count_among) .none kV_count_among dc_count_among pm_count_among an_count_among cd_count_among ct_count_among)
      f_first_time_row := f_first_time_row
      d_first_time_row := (PySem.W.fnOf "first_time_row" "first_time_row" (defArgs s_first_time_row) (defBody s_first_time_row) (defScope s_first_time_row) .none kV_first_time_row dc_first_time_row pm_first_time_row an_first_time_row cd_first_time_row ct_first_time_row)
      f_law_mix := f_law_mix
      d_law_mix := (PySem.W.fnOf "_law_mix" "_law_mix" (defArgs s_law_mix) (defBody s_law_mix) (defScope s_law_mix) .none kV_law_mix dc_law_mix pm_law_mix an_law_mix cd_law_mix ct_law_mix)
      f_law_draw := f_law_draw
      d_law_draw := (PySem.W.fnOf "_law_draw" "_law_draw" (defArgs s_law_draw) (defBody s_law_draw) (defScope s_law_draw) .none kV_law_draw dc_law_draw pm_law_draw an_law_draw cd_law_draw ct_law_draw)
      f_law_some_row := f_law_some_row
      d_law_some_row := (PySem.W.fnOf "_law_some_row" "_law_some_row" (defArgs s_law_some_row) (defBody s_law_some_row) (defScope s_law_some_row) .none kV_law_some_row dc_law_some_row pm_law_some_row an_law_some_row cd_law_some_row ct_law_some_row)
      f_law_seq := f_law_seq
      d_law_seq := (PySem.W.fnOf "_law_seq" "_law_seq" (defArgs s_law_seq) (defBody s_law_seq) (defScope s_law_seq) .none kV_law_seq dc_law_seq pm_law_seq an_law_seq cd_law_seq ct_law_seq)
      f_law_exact := f_law_exact
      d_law_exact := (PySem.W.fnOf "_law_exact" "_law_exact" (defArgs s_law_exact) (defBody s_law_exact) (defScope s_law_exact) .none kV_law_exact dc_law_exact pm_law_exact an_law_exact cd_law_exact ct_law_exact)
      f_law_no_count := f_law_no_count
      d_law_no_count := (PySem.W.fnOf "_law_no_count" "_law_no_count" (defArgs s_law_no_count) (defBody s_law_no_count) (defScope s_law_no_count) .none kV_law_no_count dc_law_no_count pm_law_no_count an_law_no_count cd_law_no_count ct_law_no_count)
      f_law_hand := f_law_hand
      d_law_hand := (PySem.W.fnOf "_law_hand" "_law_hand" (defArgs s_law_hand) (defBody s_law_hand) (defScope s_law_hand) .none kV_law_hand dc_law_hand pm_law_hand an_law_hand cd_law_hand ct_law_hand)
      f_law_asked := f_law_asked
      d_law_asked := (PySem.W.fnOf "_law_asked" "_law_asked" (defArgs s_law_asked) (defBody s_law_asked) (defScope s_law_asked) .none kV_law_asked dc_law_asked pm_law_asked an_law_asked cd_law_asked ct_law_asked)
      f_law_some_frames := f_law_some_frames
      d_law_some_frames := (PySem.W.fnOf "_law_some_frames" "_law_some_frames" (defArgs s_law_some_frames) (defBody s_law_some_frames) (defScope s_law_some_frames) .none kV_law_some_frames dc_law_some_frames pm_law_some_frames an_law_some_frames cd_law_some_frames ct_law_some_frames)
      f_law_bad_frames := f_law_bad_frames
      d_law_bad_frames := (PySem.W.fnOf "_law_bad_frames" "_law_bad_frames" (defArgs s_law_bad_frames) (defBody s_law_bad_frames) (defScope s_law_bad_frames) .none kV_law_bad_frames dc_law_bad_frames pm_law_bad_frames an_law_bad_frames cd_law_bad_frames ct_law_bad_frames)
      f_law_bad_row := f_law_bad_row
      d_law_bad_row := (PySem.W.fnOf "_law_bad_row" "_law_bad_row" (defArgs s_law_bad_row) (defBody s_law_bad_row) (defScope s_law_bad_row) .none kV_law_bad_row dc_law_bad_row pm_law_bad_row an_law_bad_row cd_law_bad_row ct_law_bad_row)
      f_law_left := f_law_left
      d_law_left := (PySem.W.fnOf "_law_left" "_law_left" (defArgs s_law_left) (defBody s_law_left) (defScope s_law_left) .none kV_law_left dc_law_left pm_law_left an_law_left cd_law_left ct_law_left)
      f_law_unspent := f_law_unspent
      d_law_unspent := (PySem.W.fnOf "_law_unspent" "_law_unspent" (defArgs s_law_unspent) (defBody s_law_unspent) (defScope s_law_unspent) .none kV_law_unspent dc_law_unspent pm_law_unspent an_law_unspent cd_law_unspent ct_law_unspent)
      f_law_begun := f_law_begun
      d_law_begun := (PySem.W.fnOf "_law_begun" "_law_begun" (defArgs s_law_begun) (defBody s_law_begun) (defScope s_law_begun) .none kV_law_begun dc_law_begun pm_law_begun an_law_begun cd_law_begun ct_law_begun)
      f_law_beginnings := f_law_beginnings
      d_law_beginnings := (PySem.W.fnOf "_law_beginnings" "_law_beginnings" (defArgs s_law_beginnings) (defBody s_law_beginnings) (defScope s_law_beginnings) .none kV_law_beginnings dc_law_beginnings pm_law_beginnings an_law_beginnings cd_law_beginnings ct_law_beginnings)
      f_law_first_times := f_law_first_times
      d_law_first_times := (PySem.W.fnOf "_law_first_times" "_law_first_times" (defArgs s_law_first_times) (defBody s_law_first_times) (defScope s_law_first_times) .none kV_law_first_times dc_law_first_times pm_law_first_times an_law_first_times cd_law_first_times ct_law_first_times)
      f_law := f_law
      d_law := (PySem.W.fnOf "law" "law" (defArgs s_law) (defBody s_law) (defScope s_law) .none kV_law dc_law pm_law an_law cd_law ct_law)
      } := {
      gc_FrameError := PySem.W.mg_of X G a_FrameError
      x_FrameError := ⟨⟨_, _, _, _, _, _, _, _, _, _, _, _, _, _, _, xL_FrameError, by first | decide +kernel | rfl | simp [PySem.HandSPX.refsVE]⟩, sa_FrameError, eC_FrameError, tC_FrameError, kC_FrameError⟩
      xf_FrameError := ⟨ga_FrameError, gg_FrameError, eC_FrameError, hC_FrameError⟩
      xc_FrameError := ⟨ga_FrameError, gg_FrameError, eC_FrameError, hC_FrameError, cC_FrameError, sg, tg, mC_FrameError⟩
      ex_FrameError_FrameError := PySem.W.exm_ref eC_FrameError hC_FrameError tC_FrameError sb_FrameError_FrameError
      ki_FrameError_FrameError := kit_own iC_FrameError tC_FrameError sb_FrameError_FrameError sb_FrameError_FrameError
      ex_FrameError_BadCount := PySem.W.exm_ref eC_BadCount hC_BadCount tC_BadCount sb_FrameError_BadCount
      ki_FrameError_BadCount := kit_own iC_BadCount tC_BadCount sb_FrameError_BadCount sb_BadCount_BadCount
      ex_FrameError_BadRow := PySem.W.exm_ref eC_BadRow hC_BadRow tC_BadRow sb_FrameError_BadRow
      ki_FrameError_BadRow := kit_own iC_BadRow tC_BadRow sb_FrameError_BadRow sb_BadRow_BadRow
      ex_FrameError_BadFrames := PySem.W.exm_ref eC_BadFrames hC_BadFrames tC_BadFrames sb_FrameError_BadFrames
      ki_FrameError_BadFrames := kit_own iC_BadFrames tC_BadFrames sb_FrameError_BadFrames sb_BadFrames_BadFrames
      gc_BadCount := PySem.W.mg_of X G a_BadCount
      x_BadCount := ⟨⟨_, _, _, _, _, _, _, _, _, _, _, _, _, _, _, xL_BadCount, by first | decide +kernel | rfl | simp [PySem.HandSPX.refsVE]⟩, sa_BadCount, eC_BadCount, tC_BadCount, kC_BadCount⟩
      xf_BadCount := ⟨ga_BadCount, gg_BadCount, eC_BadCount, hC_BadCount⟩
      xc_BadCount := ⟨ga_BadCount, gg_BadCount, eC_BadCount, hC_BadCount, cC_BadCount, sg, tg, mC_BadCount⟩
      ex_BadCount_FrameError := PySem.W.exm_ref eC_FrameError hC_FrameError tC_FrameError sb_BadCount_FrameError
      ki_BadCount_FrameError := kit_own iC_FrameError tC_FrameError sb_BadCount_FrameError sb_FrameError_FrameError
      ex_BadCount_BadCount := PySem.W.exm_ref eC_BadCount hC_BadCount tC_BadCount sb_BadCount_BadCount
      ki_BadCount_BadCount := kit_own iC_BadCount tC_BadCount sb_BadCount_BadCount sb_BadCount_BadCount
      ex_BadCount_BadRow := PySem.W.exm_ref eC_BadRow hC_BadRow tC_BadRow sb_BadCount_BadRow
      ki_BadCount_BadRow := kit_own iC_BadRow tC_BadRow sb_BadCount_BadRow sb_BadRow_BadRow
      ex_BadCount_BadFrames := PySem.W.exm_ref eC_BadFrames hC_BadFrames tC_BadFrames sb_BadCount_BadFrames
      ki_BadCount_BadFrames := kit_own iC_BadFrames tC_BadFrames sb_BadCount_BadFrames sb_BadFrames_BadFrames
      no_BadCount_most := no_BadCount_most
      in_BadCount := a_BadCount_init
      ti_BadCount := i_BadCount_init
      gc_BadRow := PySem.W.mg_of X G a_BadRow
      x_BadRow := ⟨⟨_, _, _, _, _, _, _, _, _, _, _, _, _, _, _, xL_BadRow, by first | decide +kernel | rfl | simp [PySem.HandSPX.refsVE]⟩, sa_BadRow, eC_BadRow, tC_BadRow, kC_BadRow⟩
      xf_BadRow := ⟨ga_BadRow, gg_BadRow, eC_BadRow, hC_BadRow⟩
      xc_BadRow := ⟨ga_BadRow, gg_BadRow, eC_BadRow, hC_BadRow, cC_BadRow, sg, tg, mC_BadRow⟩
      ex_BadRow_FrameError := PySem.W.exm_ref eC_FrameError hC_FrameError tC_FrameError sb_BadRow_FrameError
      ki_BadRow_FrameError := kit_own iC_FrameError tC_FrameError sb_BadRow_FrameError sb_FrameError_FrameError
      ex_BadRow_BadCount := PySem.W.exm_ref eC_BadCount hC_BadCount tC_BadCount sb_BadRow_BadCount
      ki_BadRow_BadCount := kit_own iC_BadCount tC_BadCount sb_BadRow_BadCount sb_BadCount_BadCount
      ex_BadRow_BadRow := PySem.W.exm_ref eC_BadRow hC_BadRow tC_BadRow sb_BadRow_BadRow
      ki_BadRow_BadRow := kit_own iC_BadRow tC_BadRow sb_BadRow_BadRow sb_BadRow_BadRow
      ex_BadRow_BadFrames := PySem.W.exm_ref eC_BadFrames hC_BadFrames tC_BadFrames sb_BadRow_BadFrames
      ki_BadRow_BadFrames := kit_own iC_BadFrames tC_BadFrames sb_BadRow_BadFrames sb_BadFrames_BadFrames
      no_BadRow_at := no_BadRow_at
      in_BadRow := a_BadRow_init
      ti_BadRow := i_BadRow_init
      gc_BadFrames := PySem.W.mg_of X G a_BadFrames
      x_BadFrames := ⟨⟨_, _, _, _, _, _, _, _, _, _, _, _, _, _, _, xL_BadFrames, by first | decide +kernel | rfl | simp [PySem.HandSPX.refsVE]⟩, sa_BadFrames, eC_BadFrames, tC_BadFrames, kC_BadFrames⟩
      xf_BadFrames := ⟨ga_BadFrames, gg_BadFrames, eC_BadFrames, hC_BadFrames⟩
      xc_BadFrames := ⟨ga_BadFrames, gg_BadFrames, eC_BadFrames, hC_BadFrames, cC_BadFrames, sg, tg, mC_BadFrames⟩
      ex_BadFrames_FrameError := PySem.W.exm_ref eC_FrameError hC_FrameError tC_FrameError sb_BadFrames_FrameError
      ki_BadFrames_FrameError := kit_own iC_FrameError tC_FrameError sb_BadFrames_FrameError sb_FrameError_FrameError
      ex_BadFrames_BadCount := PySem.W.exm_ref eC_BadCount hC_BadCount tC_BadCount sb_BadFrames_BadCount
      ki_BadFrames_BadCount := kit_own iC_BadCount tC_BadCount sb_BadFrames_BadCount sb_BadCount_BadCount
      ex_BadFrames_BadRow := PySem.W.exm_ref eC_BadRow hC_BadRow tC_BadRow sb_BadFrames_BadRow
      ki_BadFrames_BadRow := kit_own iC_BadRow tC_BadRow sb_BadFrames_BadRow sb_BadRow_BadRow
      ex_BadFrames_BadFrames := PySem.W.exm_ref eC_BadFrames hC_BadFrames tC_BadFrames sb_BadFrames_BadFrames
      ki_BadFrames_BadFrames := kit_own iC_BadFrames tC_BadFrames sb_BadFrames_BadFrames sb_BadFrames_BadFrames
      no_BadFrames_at := no_BadFrames_at
      in_BadFrames := a_BadFrames_init
      ti_BadFrames := i_BadFrames_init
      F_BadCount_init := fun_mk (st := s_BadCount_init) l_BadCount_init c_BadCount_init k_BadCount_init
      b_BadCount_init := (fun_mk (st := s_BadCount_init) l_BadCount_init c_BadCount_init k_BadCount_init).binds (ps := ["self", "most"]) fun _ _ _ _ _ _ us hl => match us, hl with | [_, _], _ => rfl
      F_BadRow_init := fun_mk (st := s_BadRow_init) l_BadRow_init c_BadRow_init k_BadRow_init
      b_BadRow_init := (fun_mk (st := s_BadRow_init) l_BadRow_init c_BadRow_init k_BadRow_init).binds (ps := ["self", "at"]) fun _ _ _ _ _ _ us hl => match us, hl with | [_, _], _ => rfl
      F_BadFrames_init := fun_mk (st := s_BadFrames_init) l_BadFrames_init c_BadFrames_init k_BadFrames_init
      b_BadFrames_init := (fun_mk (st := s_BadFrames_init) l_BadFrames_init c_BadFrames_init k_BadFrames_init).binds (ps := ["self", "at"]) fun _ _ _ _ _ _ us hl => match us, hl with | [_, _], _ => rfl
      g_is_whole := PySem.W.mg_of X G a_is_whole
      F_is_whole := ⟨⟨oc_is_whole, od_is_whole, (.ref dT_is_whole), kV_is_whole, dc_is_whole, pm_is_whole, an_is_whole, cd_is_whole, ct_is_whole, sl_is_whole, rfl, l_is_whole, c_is_whole, .inr ⟨by simp, dT_is_whole, _, _, dn_is_whole, rfl, lt_is_whole, rfl, .cons rfl (.cons rfl (.nil))⟩, .inl rfl⟩, k_is_whole⟩
      g_is_sequence := PySem.W.mg_of X G a_is_sequence
      F_is_sequence := fun_mk (st := s_is_sequence) l_is_sequence c_is_sequence k_is_sequence
      b_is_sequence := (fun_mk (st := s_is_sequence) l_is_sequence c_is_sequence k_is_sequence).binds (ps := ["thing"]) fun _ _ _ _ _ _ us hl => match us, hl with | [_], _ => rfl
      g_check_count := PySem.W.mg_of X G a_check_count
      F_check_count := ⟨⟨oc_check_count, od_check_count, (.ref dT_check_count), kV_check_count, dc_check_count, pm_check_count, an_check_count, cd_check_count, ct_check_count, sl_check_count, rfl, l_check_count, c_check_count, .inr ⟨by simp, dT_check_count, _, _, dn_check_count, rfl, lt_check_count, rfl, .cons ⟨_, rfl⟩ (.nil)⟩, .inl rfl⟩, k_check_count⟩
      g_row_fault := PySem.W.mg_of X G a_row_fault
      F_row_fault := fun_mk (st := s_row_fault) l_row_fault c_row_fault k_row_fault
      b_row_fault := (fun_mk (st := s_row_fault) l_row_fault c_row_fault k_row_fault).binds (ps := ["allowed", "row"]) fun _ _ _ _ _ _ us hl => match us, hl with | [_, _], _ => rfl
      g_check_row := PySem.W.mg_of X G a_check_row
      F_check_row := fun_mk (st := s_check_row) l_check_row c_check_row k_check_row
      b_check_row := (fun_mk (st := s_check_row) l_check_row c_check_row k_check_row).binds (ps := ["m", "row"]) fun _ _ _ _ _ _ us hl => match us, hl with | [_, _], _ => rfl
      g_begins_row := PySem.W.mg_of X G a_begins_row
      F_begins_row := fun_mk (st := s_begins_row) l_begins_row c_begins_row k_begins_row
      b_begins_row := (fun_mk (st := s_begins_row) l_begins_row c_begins_row k_begins_row).binds (ps := ["one", "other"]) fun _ _ _ _ _ _ us hl => match us, hl with | [_, _], _ => rfl
      g_first_meeting := PySem.W.mg_of X G a_first_meeting
      F_first_meeting := fun_mk (st := s_first_meeting) l_first_meeting c_first_meeting k_first_meeting
      b_first_meeting := (fun_mk (st := s_first_meeting) l_first_meeting c_first_meeting k_first_meeting).binds (ps := ["rows"]) fun _ _ _ _ _ _ us hl => match us, hl with | [_], _ => rfl
      g_which_begins := PySem.W.mg_of X G a_which_begins
      F_which_begins := fun_mk (st := s_which_begins) l_which_begins c_which_begins k_which_begins
      b_which_begins := (fun_mk (st := s_which_begins) l_which_begins c_which_begins k_which_begins).binds (ps := ["rows", "row"]) fun _ _ _ _ _ _ us hl => match us, hl with | [_, _], _ => rfl
      g_unspent_frames := PySem.W.mg_of X G a_unspent_frames
      F_unspent_frames := fun_mk (st := s_unspent_frames) l_unspent_frames c_unspent_frames k_unspent_frames
      b_unspent_frames := (fun_mk (st := s_unspent_frames) l_unspent_frames c_unspent_frames k_unspent_frames).binds (ps := ["m", "row"]) fun _ _ _ _ _ _ us hl => match us, hl with | [_, _], _ => rfl
      g_check_left := PySem.W.mg_of X G a_check_left
      F_check_left := fun_mk (st := s_check_left) l_check_left c_check_left k_check_left
      b_check_left := (fun_mk (st := s_check_left) l_check_left c_check_left k_check_left).binds (ps := ["left"]) fun _ _ _ _ _ _ us hl => match us, hl with | [_], _ => rfl
      g_spell_row := PySem.W.mg_of X G a_spell_row
      F_spell_row := fun_mk (st := s_spell_row) l_spell_row c_spell_row k_spell_row
      b_spell_row := (fun_mk (st := s_spell_row) l_spell_row c_spell_row k_spell_row).binds (ps := ["left", "row"]) fun _ _ _ _ _ _ us hl => match us, hl with | [_, _], _ => rfl
      g_count_among := PySem.W.mg_of X G a_count_among
      F_count_among := fun_mk (st := s_count_among) l_count_among c_count_among k_count_among
      b_count_among := (fun_mk (st := s_count_among) l_count_among c_count_among k_count_among).binds (ps := ["left", "row"]) fun _ _ _ _ _ _ us hl => match us, hl with | [_, _], _ => rfl
      g_first_time_row := PySem.W.mg_of X G a_first_time_row
      F_first_time_row := fun_mk (st := s_first_time_row) l_first_time_row c_first_time_row k_first_time_row
      b_first_time_row := (fun_mk (st := s_first_time_row) l_first_time_row c_first_time_row k_first_time_row).binds (ps := ["frames"]) fun _ _ _ _ _ _ us hl => match us, hl with | [_], _ => rfl
      g_law_mix := PySem.W.mg_of X G a_law_mix
      F_law_mix := fun_mk (st := s_law_mix) l_law_mix c_law_mix k_law_mix
      b_law_mix := (fun_mk (st := s_law_mix) l_law_mix c_law_mix k_law_mix).binds (ps := ["_law_number", "_law_turn"]) fun _ _ _ _ _ _ us hl => match us, hl with | [_, _], _ => rfl
      g_law_draw := PySem.W.mg_of X G a_law_draw
      F_law_draw := fun_mk (st := s_law_draw) l_law_draw c_law_draw k_law_draw
      b_law_draw := (fun_mk (st := s_law_draw) l_law_draw c_law_draw k_law_draw).binds (ps := ["_law_hand_here", "_law_many"]) fun _ _ _ _ _ _ us hl => match us, hl with | [_, _], _ => rfl
      g_law_some_row := PySem.W.mg_of X G a_law_some_row
      F_law_some_row := fun_mk (st := s_law_some_row) l_law_some_row c_law_some_row k_law_some_row
      b_law_some_row := (fun_mk (st := s_law_some_row) l_law_some_row c_law_some_row k_law_some_row).binds (ps := ["_law_hand_here", "_law_m", "_law_d"]) fun _ _ _ _ _ _ us hl => match us, hl with | [_, _, _], _ => rfl
      g_law_seq := PySem.W.mg_of X G a_law_seq
      F_law_seq := fun_mk (st := s_law_seq) l_law_seq c_law_seq k_law_seq
      b_law_seq := (fun_mk (st := s_law_seq) l_law_seq c_law_seq k_law_seq).binds (ps := ["_law_hand_here", "_law_row"]) fun _ _ _ _ _ _ us hl => match us, hl with | [_, _], _ => rfl
      g_law_exact := PySem.W.mg_of X G a_law_exact
      F_law_exact := fun_mk (st := s_law_exact) l_law_exact c_law_exact k_law_exact
      b_law_exact := (fun_mk (st := s_law_exact) l_law_exact c_law_exact k_law_exact).binds (ps := ["_law_told", "_law_due"]) fun _ _ _ _ _ _ us hl => match us, hl with | [_, _], _ => rfl
      g_law_no_count := PySem.W.mg_of X G a_law_no_count
      F_law_no_count := fun_mk (st := s_law_no_count) l_law_no_count c_law_no_count k_law_no_count
      b_law_no_count := (fun_mk (st := s_law_no_count) l_law_no_count c_law_no_count k_law_no_count).binds (ps := ["_law_hand_here", "_law_most"]) fun _ _ _ _ _ _ us hl => match us, hl with | [_, _], _ => rfl
      g_law_hand := PySem.W.mg_of X G a_law_hand
      F_law_hand := fun_mk (st := s_law_hand) l_law_hand c_law_hand k_law_hand
      b_law_hand := (fun_mk (st := s_law_hand) l_law_hand c_law_hand k_law_hand).binds (ps := ["_law_script"]) fun _ _ _ _ _ _ us hl => match us, hl with | [_], _ => rfl
      g_law_asked := PySem.W.mg_of X G a_law_asked
      F_law_asked := fun_mk (st := s_law_asked) l_law_asked c_law_asked k_law_asked
      b_law_asked := (fun_mk (st := s_law_asked) l_law_asked c_law_asked k_law_asked).binds (ps := ["_law_which", "_law_one", "_law_two"]) fun _ _ _ _ _ _ us hl => match us, hl with | [_, _, _], _ => rfl
      g_law_some_frames := PySem.W.mg_of X G a_law_some_frames
      F_law_some_frames := fun_mk (st := s_law_some_frames) l_law_some_frames c_law_some_frames k_law_some_frames
      b_law_some_frames := (fun_mk (st := s_law_some_frames) l_law_some_frames c_law_some_frames k_law_some_frames).binds (ps := ["_law_hand_here"]) fun _ _ _ _ _ _ us hl => match us, hl with | [_], _ => rfl
      g_law_bad_frames := PySem.W.mg_of X G a_law_bad_frames
      F_law_bad_frames := fun_mk (st := s_law_bad_frames) l_law_bad_frames c_law_bad_frames k_law_bad_frames
      b_law_bad_frames := (fun_mk (st := s_law_bad_frames) l_law_bad_frames c_law_bad_frames k_law_bad_frames).binds (ps := ["_law_hand_here", "_law_frames"]) fun _ _ _ _ _ _ us hl => match us, hl with | [_, _], _ => rfl
      g_law_bad_row := PySem.W.mg_of X G a_law_bad_row
      F_law_bad_row := fun_mk (st := s_law_bad_row) l_law_bad_row c_law_bad_row k_law_bad_row
      b_law_bad_row := (fun_mk (st := s_law_bad_row) l_law_bad_row c_law_bad_row k_law_bad_row).binds (ps := ["_law_hand_here", "_law_row", "_law_strange"]) fun _ _ _ _ _ _ us hl => match us, hl with | [_, _, _], _ => rfl
      g_law_left := PySem.W.mg_of X G a_law_left
      F_law_left := fun_mk (st := s_law_left) l_law_left c_law_left k_law_left
      b_law_left := (fun_mk (st := s_law_left) l_law_left c_law_left k_law_left).binds (ps := ["_law_hand_here"]) fun _ _ _ _ _ _ us hl => match us, hl with | [_], _ => rfl
      g_law_unspent := PySem.W.mg_of X G a_law_unspent
      F_law_unspent := fun_mk (st := s_law_unspent) l_law_unspent c_law_unspent k_law_unspent
      b_law_unspent := (fun_mk (st := s_law_unspent) l_law_unspent c_law_unspent k_law_unspent).binds (ps := ["_law_hand_here"]) fun _ _ _ _ _ _ us hl => match us, hl with | [_], _ => rfl
      g_law_begun := PySem.W.mg_of X G a_law_begun
      F_law_begun := fun_mk (st := s_law_begun) l_law_begun c_law_begun k_law_begun
      b_law_begun := (fun_mk (st := s_law_begun) l_law_begun c_law_begun k_law_begun).binds (ps := ["_law_one", "_law_other"]) fun _ _ _ _ _ _ us hl => match us, hl with | [_, _], _ => rfl
      g_law_beginnings := PySem.W.mg_of X G a_law_beginnings
      F_law_beginnings := fun_mk (st := s_law_beginnings) l_law_beginnings c_law_beginnings k_law_beginnings
      b_law_beginnings := (fun_mk (st := s_law_beginnings) l_law_beginnings c_law_beginnings k_law_beginnings).binds (ps := ["_law_hand_here"]) fun _ _ _ _ _ _ us hl => match us, hl with | [_], _ => rfl
      g_law_first_times := PySem.W.mg_of X G a_law_first_times
      F_law_first_times := fun_mk (st := s_law_first_times) l_law_first_times c_law_first_times k_law_first_times
      b_law_first_times := (fun_mk (st := s_law_first_times) l_law_first_times c_law_first_times k_law_first_times).binds (ps := ["_law_hand_here"]) fun _ _ _ _ _ _ us hl => match us, hl with | [_], _ => rfl
      g_law := PySem.W.mg_of X G a_law
      F_law := fun_mk (st := s_law) l_law c_law k_law
      b_law := (fun_mk (st := s_law) l_law c_law k_law).binds (ps := ["_law_script"]) fun _ _ _ _ _ _ us hl => match us, hl with | [_], _ => rfl
      n_ValueError := PySem.W.mg_none_of X G z_ValueError
      n_abs := PySem.W.mg_none_of X G z_abs
      n_bool := PySem.W.mg_none_of X G z_bool
      n_enumerate := PySem.W.mg_none_of X G z_enumerate
      n_int := PySem.W.mg_none_of X G z_int
      n_isinstance := PySem.W.mg_none_of X G z_isinstance
      n_len := PySem.W.mg_none_of X G z_len
      n_list := PySem.W.mg_none_of X G z_list
      n_range := PySem.W.mg_none_of X G z_range
      n_str := PySem.W.mg_none_of X G z_str
      n_tuple := PySem.W.mg_none_of X G z_tuple
      m_MOST_FRAMES := ⟨_, PySem.W.mg_of X G m_MOST_FRAMES⟩
      }
  exact ⟨_, fun s v => .of_eq rfl, fun base _ _ => ok_law T⟩
end LW
open PySem PySem.W PyProof.Rows
set_option maxRecDepth 100000 in
set_option maxHeartbeats 0 in
theorem PySem.Challenge.cw_spentframes_k08_whole_rows_among_frames_holds : PySem.Challenge.rw_spentframes_k08_whole_rows_among_frames.Holds := by
  w_on; o_law; k_head; (case hw => w_witness2)
  k_fill
  refine L2.walk_of (l := PySem.Challenge.rw_spentframes_k08_whole_rows_among_frames) (n := 63) (k := 8) (x := "_law_script") (CX := fun _ => L2.CX0) (sp := fun w => LW.spLaw _) rfl (by decide) rfl ⟨rfl, by decide, by decide⟩ (fun w h Y => PySem.W.kIn_of Y) ?F (fun _ _ a ns hl _ hS => ⟨a, ns, rfl, hS, hl, fun _ => rfl⟩) (fun _ _ _ _ _ z => z)
  case F =>
    intro w mg fa h KX G hmg
    refine' LW.all_mk KX G hmg ?a_FrameError ?a_BadCount ?a_BadRow ?a_BadFrames ?xL_FrameError ?sa_FrameError ?ga_FrameError ?gg_FrameError ?eC_FrameError ?tC_FrameError ?kC_FrameError ?hC_FrameError ?iC_FrameError ?cC_FrameError ?mC_FrameError ?sb_FrameError_FrameError ?sb_FrameError_BadCount ?sb_FrameError_BadRow ?sb_FrameError_BadFrames ?xL_BadCount ?sa_BadCount ?ga_BadCount ?gg_BadCount ?eC_BadCount ?tC_BadCount ?kC_BadCount ?hC_BadCount ?iC_BadCount ?cC_BadCount ?mC_BadCount ?sb_BadCount_FrameError ?sb_BadCount_BadCount ?sb_BadCount_BadRow ?sb_BadCount_BadFrames ?no_BadCount_most ?xL_BadRow ?sa_BadRow ?ga_BadRow ?gg_BadRow ?eC_BadRow ?tC_BadRow ?kC_BadRow ?hC_BadRow ?iC_BadRow ?cC_BadRow ?mC_BadRow ?sb_BadRow_FrameError ?sb_BadRow_BadCount ?sb_BadRow_BadRow ?sb_BadRow_BadFrames ?no_BadRow_at ?xL_BadFrames ?sa_BadFrames ?ga_BadFrames ?gg_BadFrames ?eC_BadFrames ?tC_BadFrames ?kC_BadFrames ?hC_BadFrames ?iC_BadFrames ?cC_BadFrames ?mC_BadFrames ?sb_BadFrames_FrameError ?sb_BadFrames_BadCount ?sb_BadFrames_BadRow ?sb_BadFrames_BadFrames ?no_BadFrames_at ?sg ?tg ?a_BadCount_init ?i_BadCount_init ?l_BadCount_init ?c_BadCount_init ?k_BadCount_init ?a_BadRow_init ?i_BadRow_init ?l_BadRow_init ?c_BadRow_init ?k_BadRow_init ?a_BadFrames_init ?i_BadFrames_init ?l_BadFrames_init ?c_BadFrames_init ?k_BadFrames_init ?a_is_whole ?l_is_whole ?lt_is_whole ?c_is_whole ?k_is_whole ?a_is_sequence ?l_is_sequence ?c_is_sequence ?k_is_sequence ?a_check_count ?l_check_count ?lt_check_count ?c_check_count ?k_check_count ?a_row_fault ?l_row_fault ?c_row_fault ?k_row_fault ?a_check_row ?l_check_row ?c_check_row ?k_check_row ?a_begins_row ?l_begins_row ?c_begins_row ?k_begins_row ?a_first_meeting ?l_first_meeting ?c_first_meeting ?k_first_meeting ?a_which_begins ?l_which_begins ?c_which_begins ?k_which_begins ?a_unspent_frames ?l_unspent_frames ?c_unspent_frames ?k_unspent_frames ?a_check_left ?l_check_left ?c_check_left ?k_check_left ?a_spell_row ?l_spell_row ?c_spell_row ?k_spell_row ?a_count_among ?l_count_among ?c_count_among ?k_count_among ?a_first_time_row ?l_first_time_row ?c_first_time_row ?k_first_time_row ?a_law_mix ?l_law_mix ?c_law_mix ?k_law_mix ?a_law_draw ?l_law_draw ?c_law_draw ?k_law_draw ?a_law_some_row ?l_law_some_row ?c_law_some_row ?k_law_some_row ?a_law_seq ?l_law_seq ?c_law_seq ?k_law_seq ?a_law_exact ?l_law_exact ?c_law_exact ?k_law_exact ?a_law_no_count ?l_law_no_count ?c_law_no_count ?k_law_no_count ?a_law_hand ?l_law_hand ?c_law_hand ?k_law_hand ?a_law_asked ?l_law_asked ?c_law_asked ?k_law_asked ?a_law_some_frames ?l_law_some_frames ?c_law_some_frames ?k_law_some_frames ?a_law_bad_frames ?l_law_bad_frames ?c_law_bad_frames ?k_law_bad_frames ?a_law_bad_row ?l_law_bad_row ?c_law_bad_row ?k_law_bad_row ?a_law_left ?l_law_left ?c_law_left ?k_law_left ?a_law_unspent ?l_law_unspent ?c_law_unspent ?k_law_unspent ?a_law_begun ?l_law_begun ?c_law_begun ?k_law_begun ?a_law_beginnings ?l_law_beginnings ?c_law_beginnings ?k_law_beginnings ?a_law_first_times ?l_law_first_times ?c_law_first_times ?k_law_first_times ?a_law ?l_law ?c_law ?k_law ?z_ValueError ?z_abs ?z_bool ?z_enumerate ?z_int ?z_isinstance ?z_len ?z_list ?z_range ?z_str ?z_tuple ?m_MOST_FRAMES
    (case a_FrameError => k_is)
    (case a_BadCount => k_is)
    (case a_BadRow => k_is)
    (case a_BadFrames => k_is)
    (case xL_FrameError => k_is)
    (case sa_FrameError => k_is)
    (case ga_FrameError => k_is)
    (case gg_FrameError => k_is)
    (case eC_FrameError => k_is)
    (case tC_FrameError => k_is)
    (case kC_FrameError => k_is)
    (case hC_FrameError => k_is)
    (case iC_FrameError => k_is)
    (case cC_FrameError => k_is)
    (case mC_FrameError => k_is)
    (case sb_FrameError_FrameError => k_is)
    (case sb_FrameError_BadCount => k_is)
    (case sb_FrameError_BadRow => k_is)
    (case sb_FrameError_BadFrames => k_is)
    (case xL_BadCount => k_is)
    (case sa_BadCount => k_is)
    (case ga_BadCount => k_is)
    (case gg_BadCount => k_is)
    (case eC_BadCount => k_is)
    (case tC_BadCount => k_is)
    (case kC_BadCount => k_is)
    (case hC_BadCount => k_is)
    (case iC_BadCount => k_is)
    (case cC_BadCount => k_is)
    (case mC_BadCount => k_is)
    (case sb_BadCount_FrameError => k_is)
    (case sb_BadCount_BadCount => k_is)
    (case sb_BadCount_BadRow => k_is)
    (case sb_BadCount_BadFrames => k_is)
    (case no_BadCount_most => k_is)
    (case xL_BadRow => k_is)
    (case sa_BadRow => k_is)
    (case ga_BadRow => k_is)
    (case gg_BadRow => k_is)
    (case eC_BadRow => k_is)
    (case tC_BadRow => k_is)
    (case kC_BadRow => k_is)
    (case hC_BadRow => k_is)
    (case iC_BadRow => k_is)
    (case cC_BadRow => k_is)
    (case mC_BadRow => k_is)
    (case sb_BadRow_FrameError => k_is)
    (case sb_BadRow_BadCount => k_is)
    (case sb_BadRow_BadRow => k_is)
    (case sb_BadRow_BadFrames => k_is)
    (case no_BadRow_at => k_is)
    (case xL_BadFrames => k_is)
    (case sa_BadFrames => k_is)
    (case ga_BadFrames => k_is)
    (case gg_BadFrames => k_is)
    (case eC_BadFrames => k_is)
    (case tC_BadFrames => k_is)
    (case kC_BadFrames => k_is)
    (case hC_BadFrames => k_is)
    (case iC_BadFrames => k_is)
    (case cC_BadFrames => k_is)
    (case mC_BadFrames => k_is)
    (case sb_BadFrames_FrameError => k_is)
    (case sb_BadFrames_BadCount => k_is)
    (case sb_BadFrames_BadRow => k_is)
    (case sb_BadFrames_BadFrames => k_is)
    (case no_BadFrames_at => k_is)
    (case sg => k_is)
    (case tg => k_is)
    (case a_BadCount_init => k_is)
    (case i_BadCount_init => k_is)
    (case l_BadCount_init => k_is)
    (case c_BadCount_init => k_is)
    (case k_BadCount_init => k_is)
    (case a_BadRow_init => k_is)
    (case i_BadRow_init => k_is)
    (case l_BadRow_init => k_is)
    (case c_BadRow_init => k_is)
    (case k_BadRow_init => k_is)
    (case a_BadFrames_init => k_is)
    (case i_BadFrames_init => k_is)
    (case l_BadFrames_init => k_is)
    (case c_BadFrames_init => k_is)
    (case k_BadFrames_init => k_is)
    (case a_is_whole => k_is)
    (case l_is_whole => k_is)
    (case lt_is_whole => k_is)
    (case c_is_whole => k_is)
    (case k_is_whole => k_is)
    (case a_is_sequence => k_is)
    (case l_is_sequence => k_is)
    (case c_is_sequence => k_is)
    (case k_is_sequence => k_is)
    (case a_check_count => k_is)
    (case l_check_count => k_is)
    (case lt_check_count => k_is)
    (case c_check_count => k_is)
    (case k_check_count => k_is)
    (case a_row_fault => k_is)
    (case l_row_fault => k_is)
    (case c_row_fault => k_is)
    (case k_row_fault => k_is)
    (case a_check_row => k_is)
    (case l_check_row => k_is)
    (case c_check_row => k_is)
    (case k_check_row => k_is)
    (case a_begins_row => k_is)
    (case l_begins_row => k_is)
    (case c_begins_row => k_is)
    (case k_begins_row => k_is)
    (case a_first_meeting => k_is)
    (case l_first_meeting => k_is)
    (case c_first_meeting => k_is)
    (case k_first_meeting => k_is)
    (case a_which_begins => k_is)
    (case l_which_begins => k_is)
    (case c_which_begins => k_is)
    (case k_which_begins => k_is)
    (case a_unspent_frames => k_is)
    (case l_unspent_frames => k_is)
    (case c_unspent_frames => k_is)
    (case k_unspent_frames => k_is)
    (case a_check_left => k_is)
    (case l_check_left => k_is)
    (case c_check_left => k_is)
    (case k_check_left => k_is)
    (case a_spell_row => k_is)
    (case l_spell_row => k_is)
    (case c_spell_row => k_is)
    (case k_spell_row => k_is)
    (case a_count_among => k_is)
    (case l_count_among => k_is)
    (case c_count_among => k_is)
    (case k_count_among => k_is)
    (case a_first_time_row => k_is)
    (case l_first_time_row => k_is)
    (case c_first_time_row => k_is)
    (case k_first_time_row => k_is)
    (case a_law_mix => k_is)
    (case l_law_mix => k_is)
    (case c_law_mix => k_is)
    (case k_law_mix => k_is)
    (case a_law_draw => k_is)
    (case l_law_draw => k_is)
    (case c_law_draw => k_is)
    (case k_law_draw => k_is)
    (case a_law_some_row => k_is)
    (case l_law_some_row => k_is)
    (case c_law_some_row => k_is)
    (case k_law_some_row => k_is)
    (case a_law_seq => k_is)
    (case l_law_seq => k_is)
    (case c_law_seq => k_is)
    (case k_law_seq => k_is)
    (case a_law_exact => k_is)
    (case l_law_exact => k_is)
    (case c_law_exact => k_is)
    (case k_law_exact => k_is)
    (case a_law_no_count => k_is)
    (case l_law_no_count => k_is)
    (case c_law_no_count => k_is)
    (case k_law_no_count => k_is)
    (case a_law_hand => k_is)
    (case l_law_hand => k_is)
    (case c_law_hand => k_is)
    (case k_law_hand => k_is)
    (case a_law_asked => k_is)
    (case l_law_asked => k_is)
    (case c_law_asked => k_is)
    (case k_law_asked => k_is)
    (case a_law_some_frames => k_is)
    (case l_law_some_frames => k_is)
    (case c_law_some_frames => k_is)
    (case k_law_some_frames => k_is)
    (case a_law_bad_frames => k_is)
    (case l_law_bad_frames => k_is)
    (case c_law_bad_frames => k_is)
    (case k_law_bad_frames => k_is)
    (case a_law_bad_row => k_is)
    (case l_law_bad_row => k_is)
    (case c_law_bad_row => k_is)
    (case k_law_bad_row => k_is)
    (case a_law_left => k_is)
    (case l_law_left => k_is)
    (case c_law_left => k_is)
    (case k_law_left => k_is)
    (case a_law_unspent => k_is)
    (case l_law_unspent => k_is)
    (case c_law_unspent => k_is)
    (case k_law_unspent => k_is)
    (case a_law_begun => k_is)
    (case l_law_begun => k_is)
    (case c_law_begun => k_is)
    (case k_law_begun => k_is)
    (case a_law_beginnings => k_is)
    (case l_law_beginnings => k_is)
    (case c_law_beginnings => k_is)
    (case k_law_beginnings => k_is)
    (case a_law_first_times => k_is)
    (case l_law_first_times => k_is)
    (case c_law_first_times => k_is)
    (case k_law_first_times => k_is)
    (case a_law => k_is)
    (case l_law => k_is)
    (case c_law => k_is)
    (case k_law => k_is)
    (case z_ValueError => k_is)
    (case z_abs => k_is)
    (case z_bool => k_is)
    (case z_enumerate => k_is)
    (case z_int => k_is)
    (case z_isinstance => k_is)
    (case z_len => k_is)
    (case z_list => k_is)
    (case z_range => k_is)
    (case z_str => k_is)
    (case z_tuple => k_is)
    (case m_MOST_FRAMES => k_is)
#print axioms PySem.Challenge.cw_spentframes_k08_whole_rows_among_frames_holds

