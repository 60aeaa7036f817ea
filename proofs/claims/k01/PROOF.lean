import PyProof.Rows.All
import HandS.Iter
import HandS.TupLe
import HandS.Defaults
import KE.KOpsOwn
import PyProof.Rows.TupDisplay
import PyProof.NeKinds
import PyProof.EqKinds
import HandS.RaiseFrom
import HandS.ExcInitHot
import KE.KExcRaise
import KE.KTryMore
import KE.KCallOwn
import PyProof.P3In
import Flt.Ops
import HandS.Zip
import PyProof.ListOps
import PyProof.SumWalk
import KE.SortData
import HandS.Remove
import PyProof.Rows.StrMeet
import Wide.All
import OpenK.AllK
import Wide.FinOn
import HandS.ExcOwn
import HandS.ExcInit
import HandS.ExcCtx
import HandS.ForMost
import HandS.Exc
import HandS.DictComp
import HandS.IsInst
import HandS.Wide
import KE.GoesEnum
import HandS.TryOnly
import HandS.TryMany
import HandS.ExcIs
import HandS.ExcField
import HandS.CallSlots
import HandS.WordsExc
import KE.KExcIs
import HandS.Lambda
import HandS.ExcValue
import KE.KeyNested
import HandS.TupAny
import HandS.Property
import OpenK.KMeth
import HandS.Deep
import HandS.Style
import HandS.More
import HandS.TupLen
import KE.KDictPairs
import HandS.Star
import HandS.Conv
import HandS.MakeKwOnly
import HandS.IterVal
import HandS.OwnEq
import OpenK.KOps
import KE.KOwnIter
import PyProof.InstNe
import HandS.SortRule
import HandS.SortInts
import HandS.RaiseMore
import HandS.Ends
import PyProof.RowDictHeap
import PyProof.WalksMore
import PyProof.SumWalkG
import PyProof.Rows.SumGenD
import KE.KDictZip
import HandS.EndTab
import KE.KNestM
import KE.KExcInit
import KE.KDictList
import PyProof.ReprBulk
import KE.SortKeyHeap
import KE.KSortKey
import HandS.Finally
import HandS.SuiteRaise
import HandS.DictTup
import PyProof.DictMoreH
import KE.KDictKeyed
import KE.KDictWalk
import HandS.Dict
import HandS.ListItems
import KE.GoesZip
import KE.GoesMore
import KE.KDictCopyH
import HandS.HotCalls
import HandS.SetKeys
import HandS.FStr
import KE.KEqDict
import KE.KTab
import PyProof.SeqIndex
import PyProof.ReprRoads
import PySem.Challenge.RW_ownmarks_k01_errors
set_option Elab.async false
set_option linter.all false
set_option maxRecDepth 100000
set_option maxHeartbeats 4000000
/-! Exceptions of the classes hot may have a context; the others have none. -/
namespace M
open PySem PySem.Spec PyProof.Rows L2
abbrev HotK := Value → Prop
/-- what is wanted of the exceptions that come -/
def Tk (hot : HotK) (X : Cx) (W : WX) : Prop := L2.Takes X (fun cls d σ H => hot cls ∧ W cls d σ H) ∧ L2N.Takes X W
/-- behind a call that let an exception out -/
def Cq (hot : HotK) (P : Program) (w : World) : CXT := fun outer H s E u s' => L2.CX P w outer H s (fun cls d H' => hot cls ∧ E cls d H') u s' ∨ L2N.CX P w outer H s E u s'
section
variable {hot : HotK} {X : Cx} {W : WX}
theorem Tk.passAt (tk : Tk hot X W) (σ : L2.St) : PassesAt (Cq hot X.prog X.w) X σ (WE W σ) := fun pins H s e s' I c =>
  c.elim (fun c => L2.passAt tk.1 σ pins H s e s' I c) fun c => L2N.passAt tk.2 σ pins H s e s' I c
theorem traced_weak {h B : Heap} {a : Addr} {cls : Value} {d : Option Addr} {fl : Value} (x : HandSPX.TracedZ h B a (L2N.Zn cls d) fl) : HandSPX.TracedZ h B a (Zc cls d) fl := by
  obtain ⟨oe, vs, T, oT, ts, he, hz, rest⟩ := x
  exact ⟨oe, vs, T, oT, ts, he, hz.zc, rest⟩
/-- less is known -/
theorem xe_weak {u : Value} {s' : Shared} (x : L2N.XE X W u s') : L2.XE X W u s' := by
  obtain ⟨a, B, sI, pins, σ, H, cls, d, rfl, I, nb, up, sky, na, os, ag, w⟩ := x
  refine ⟨a, B, sI, pins, σ, H, cls, d, rfl, I, nb, up, ?_, na, os, ag, w⟩
  rcases sky with ⟨k1, k2, k3, oe, vs, he, hz, r⟩ | ⟨k1, k2, k3, r⟩ | ⟨k1, k2, k3, r⟩
  · exact .inl ⟨k1, k2, k3, oe, vs, he, hz.zc, r⟩
  · exact .inr (.inl ⟨k1, k2, k3, traced_weak r⟩)
  · exact .inr (.inr ⟨k1, k2, k3, traced_weak r⟩)
theorem cx_weak {P : Program} {w : World} {outer : List Env} {H : Hp} {s : Shared} {E : XK} {u : Value} {s' : Shared} (c : L2N.CX P w outer H s E u s') : L2.CX P w outer H s E u s' := by
  obtain ⟨a, B, H', cls, d, rfl, ⟨k1, k2, k3, r⟩, hok, ub, na, os, ag, hE⟩ := c
  exact ⟨a, B, H', cls, d, rfl, ⟨k1, k2, k3, traced_weak r⟩, hok, ub, na, os, ag, hE⟩
/-- who takes all, takes these -/
theorem Tk.of (tk : L2.Takes X W) : Tk hot X W := ⟨tk.imp fun _ _ _ _ h => h.2, fun u s' x => tk u s' (xe_weak x)⟩
/-- where any class may have a context -/
theorem Tk.all (tk : Tk hot X W) (h : ∀ cls, hot cls) : L2.Takes X W := tk.1.imp fun cls _ _ _ w => ⟨h cls, w⟩
theorem tk_of {E : XK} (hs : X.stack = X.env :: X.outer) (hf : X.env.frame = some X.env.locals) (hex : X.ex = []) {E1 : Value → Shared → Prop}
    (hx : X.xe = fun e s' => wpAny (model X.prog X.w) X.A (leaving X.env e) (fun _ s'' => Cq hot X.prog X.w X.outer X.H_0 X.s_0 E e s'') E1 s') : Tk hot X (fun cls d _ H => E cls d H) := by
  refine ⟨fun u s' x => ?_, fun u s' x => ?_⟩
  · rw [hx]
    exact wpAny_mono (L2.XE.leave (W := fun cls d _ H => hot cls ∧ E cls d H) (E := fun cls d H => hot cls ∧ E cls d H) (E₁ := E1) hs hf hex (fun _ _ _ _ h => h) x) (fun _ _ c => .inl c) fun _ _ z => z
  · rw [hx]
    exact wpAny_mono (L2N.XE.leave (W := fun cls d _ H => E cls d H) (E := E) (E₁ := E1) hs hf hex (fun _ _ _ _ h => h) x) (fun _ _ c => .inr c) fun _ _ z => z
theorem own_noCq {P : Program} {w : World} {st : List Env} {H : Hp} {s : Shared} {e : Value} {s' : Shared} (h : Cq hot P w st H s (fun _ _ _ => False) e s') : False := by
  rcases h with h | h
  · obtain ⟨_, _, _, _, _, _, _, _, _, _, _, _, _, z⟩ := h
    exact z
  · obtain ⟨_, _, _, _, _, _, _, _, _, _, _, _, z⟩ := h
    exact z
theorem passQ : Passes (Cq hot X.prog X.w) X (fun _ _ _ => False) := fun _ _ _ _ _ _ _ c => (own_noCq c).elim
/-- the plain promise -/
theorem cq_weak {P : Program} {w : World} {outer : List Env} {H : Hp} {s : Shared} {E : XK} {u : Value} {s' : Shared} (c : Cq hot P w outer H s E u s') : L2.CX P w outer H s E u s' := by
  rcases c with ⟨a, B, H', cls, d, e1, fl, hok, ub, na, os, ag, hE⟩ | c
  · exact ⟨a, B, H', cls, d, e1, fl, hok, ub, na, os, ag, hE.2⟩
  · exact cx_weak c
theorem cr_weak {P : Program} {w : World} {outer : List Env} {H : Hp} {s : Shared} {Q : VK} {E : XK} {r : Result} {s' : Shared} (c : CR (Cq hot P w) outer P w H s Q E r s') : CR (L2.CX P w) outer P w H s Q E r s' := by
  cases r with
  | ok fl => cases fl <;> exact c
  | error e => exact cq_weak c
end
end M
namespace L2
open PySem PySem.Spec PyProof.Rows
section
variable {X : Cx}
end
end L2


/-! rules of our own, over the hand layer -/
namespace L2
open PySem PySem.Spec PyProof.Rows

/-! ### either of two rules -/
theorem pi_or2 {X : Cx} {tg it : Expr} {t u : TI} (h1 : PI X tg it t) (h2 : PI X tg it u) : PI X tg it (fun σ H Q => t σ H Q ∨ u σ H Q) :=
  ⟨fun pins s σ H Q I h => h.elim (h1.run pins s σ H Q I) (h2.run pins s σ H Q I)⟩
theorem OpR.or2 {X : Cx} {f : Value → Value → Sem Value} {r r' : R2} (h : OpR X f r) (h' : OpR X f r') : OpR X f (fun x y H Q => r x y H Q ∨ r' x y H Q) :=
  fun pins s σ H x y v u Q I rx ry q => q.elim (h pins s σ H x y v u Q I rx ry) (h' pins s σ H x y v u Q I rx ry)
theorem CallR.or2 {X : Cx} {f : Value} {r r' : List V → Hp → VK → Prop} (h : CallR X f r) (h' : CallR X f r') : CallR X f (fun xs H Q => r xs H Q ∨ r' xs H Q) :=
  fun pins s σ H xs us Q I rx q => q.elim (h pins s σ H xs us Q I rx) (h' pins s σ H xs us Q I rx)

/-! ### enumerate(v) of what begins -/
/-- the object that counts, over the iterator at it -/
def counter (it : Addr) : Obj := { cls := .type "enumerate", data := .fields #[.none, .bool false, .ref it, rawInt 0, .none, .none] }
def withCounter (h : Heap) (o : Obj) : Heap := (h.push o).push (counter h.objs.size)
theorem withCounter_keeps {h : Heap} {o : Obj} : ∀ b u, h.get? b = some u → (withCounter h o).get? b = some u := fun _ _ k => Heap.get?_push_of_some _ (Heap.get?_push_of_some _ k)
theorem withCounter_enum {h : Heap} {o : Obj} : IsEnum (withCounter h o) (h.objs.size + 1) h.objs.size 0 .none := by
  have last := Heap.get?_push_size (h.push o) (o := counter h.objs.size) rfl
  rwa [Heap.size_push] at last
theorem withCounter_iter {h : Heap} {o : Obj} (f : o.isFreed = false) : (withCounter h o).get? h.objs.size = some o := Heap.get?_push_of_some _ (Heap.get?_push_size _ f)
theorem counts_new {v : Value} {o : Obj} {Hd : Heap → Prop} (B : Begins v o Hd) :
    Meets (Builtin.«enumerate.__new__» ⟨[.type "enumerate", v], []⟩) (fun _ R s => Hd s.heap ∧ R (.ok (.ret (.ref (s.heap.push o).objs.size))) { s with heap := withCounter s.heap o }) := by
  refine .of_wp fun P W A0 R0 s0 hyp => ?_
  cases s0
  rename_i h0 g0 d0 t0 os0
  have known := sub_enumerate
  have begun : ∀ {A1 : Around} {E1 : Value → Shared → Prop} {Q1 : Value → Shared → Prop}, Q1 (.ref h0.objs.size) ⟨h0.push o, g0, d0, t0, os0⟩ → wpAny (model P W) A1 (pyIter v) Q1 E1 ⟨h0, g0, d0, t0, os0⟩ :=
    fun {A1 E1 Q1} q => B.iter P W A1 E1 _ Q1 hyp.1 q
  wp_walk using begun
  refine wpAny_stack_any fun _ => wpAny_pure ?_
  split
  · rename_i cl _ _ _ _ _
    by_cases e : (cl == Value.type "enumerate") = true
    · rw [e]
      wp_walk using begun
      exact ⟨_, rfl, hyp.2⟩
    · rw [Bool.not_eq_true] at e
      rw [e]
      wp_walk using begun
      exact ⟨_, rfl, hyp.2⟩
  · wp_walk using begun
    exact ⟨_, rfl, hyp.2⟩
theorem counts_call {P : Program} {W : World} {A : Around} {E : Value → Shared → Prop} {s : Shared} {v : Value} {o : Obj} {Hd : Heap → Prop} {Q : Value → Shared → Prop} (B : Begins v o Hd) (there : Hd s.heap)
    (k : Q (.ref (s.heap.objs.size + 1)) { s with heap := withCounter s.heap o }) : wpAny (model P W) A (call (.type "enumerate") [v]) Q E s := by
  have top : (s.heap.push o).objs.size = s.heap.objs.size + 1 := Heap.size_push ..
  refine callType_new F.called_enumerate (by decide) (F.typeCall_enumerate_1 v) (F.newCall_enumerate_1 v) (fun x => F.args_object_init_2 x v) F.entry_enumerate_new (counts_new B) ⟨there, ?_⟩
  rw [top]
  exact ⟨⟨_, withCounter_enum, rfl⟩, k⟩

/-! ### a walk by enumerate over a tuple -/
def Itet (K : PySem.W.Frag) (a : Addr) : It :=
  ⟨fun i H => ∃ (xs : List V) (x : V), SqT K H a xs ∧ xs[i]? = some x, fun i H v H' => ∃ T x, v = .ref T ∧ H T = none ∧ H' = upd H T (.tup [.int (i : Nat), x]) ∧ ∀ xs, SqT K H a xs → xs[i]? = some x, fun i H => ∃ xs : List V, SqT K H a xs ∧ xs.length = i⟩
/-- behind i items: the counter at e, the iterator at it, the tuple at a -/
structure Counting (a e it : Addr) (i : Nat) (h : Heap) : Prop where
  cnt : ∃ old, IsEnum h e it (i : Int) old
  itr : h.IsTupleIter it a i
  ne : e ≠ it
theorem Counting.obj {a e it : Addr} {i : Nat} {h : Heap} (c : Counting a e it i h) : ∀ b, b ∈ [e, it] → ∃ o, h.get? b = some o ∧ ∀ v, o.data ≠ .cell v := by
  intro b hb
  rcases List.mem_cons.mp hb with rfl | hb
  · exact c.cnt.elim fun _ k => ⟨_, k, fun _ z => by cases z⟩
  · cases List.mem_singleton.mp hb
    obtain ⟨o, k, _, dt⟩ := c.itr
    exact ⟨o, k, fun _ z => by cases dt.symm.trans z⟩
theorem Counting.keep {a e it : Addr} {i : Nat} {h h' : Heap} (c : Counting a e it i h) (k : ∀ b, b ∈ [e, it] → ∀ o, h.get? b = some o → h'.get? b = some o) : Counting a e it i h' :=
  ⟨c.cnt.elim fun old z => ⟨old, k e List.mem_cons_self _ z⟩, c.itr.at (k it (List.mem_cons_of_mem _ List.mem_cons_self)), c.ne⟩
section
variable {X : Cx} {a e it : Addr} {i : Nat} {pins : List (Addr × Obj)} {s : Shared} {σ : St} {H : Hp} {E : Value → Shared → Prop}
theorem counting_item {elts : List Expr} {kk : Nat} {tpos : Pos} (hae : a ≠ e) (hai : a ≠ it) (calm : X.calm = true) (I : Inv X pins σ H s) (free : ∀ b, b ∈ [e, it] → FpOk X pins H b) (c : Counting a e it i s.heap) (go : (Itet X.K a).go i H) :
    wpAny (model X.prog X.w) X.A (pyNext (.ref e)) (fun r s1 => ∃ u, r = some u ∧ wpAny (model X.prog X.w) X.A (letOwnedTupleGo (.Tuple elts kk tpos) (.ref e) u)
      (fun _ s2 => ∃ x H', Inv X pins σ H' s2 ∧ RelV x u ∧ (Itet X.K a).yld i H x H' ∧ Counting a e it (i + 1) s2.heap ∧ ∀ b, b ∈ [e, it] → H' b = none) E s1) E s := by
  obtain ⟨xs, x, seq, at_⟩ := go
  obtain ⟨vals, same, tup, _⟩ := I.tuple seq
  obtain ⟨w, hw, rw'⟩ := same.get at_
  obtain ⟨old, cnt⟩ := c.cnt
  have inside : i < vals.toArray.size := by simpa using (List.getElem?_eq_some_iff.mp hw).1
  have apart : e ∉ [it, a] := fun z => (List.mem_cons.mp z).elim c.ne fun z => hae (List.mem_singleton.mp z).symm
  refine wpAny_pyNext_enum_itemD (Draws.tuple (prog := X.prog) (w := X.w) (A := X.A.in1) (I.ok.hd calm) it a hai vals.toArray) cnt ⟨c.itr, tup⟩ inside c.ne apart fun y h1 tk drawn out left pair size kept => ?_
  obtain rfl : w = y := Option.some.inj ((show vals.toArray[i]? = some w by simpa using hw).symm.trans drawn)
  refine ⟨_, rfl, wpAny_letOwnedTupleGo_enum (s := { s with heap := h1, toks := tk + 1 }) out fun h2 cnt2 but => ?_⟩
  have low : ∀ b, b ∈ [e, it] → b < s.heap.objs.size := fun b hb => let ⟨_, k, _⟩ := c.obj b hb; Heap.lt_size k
  have pair2 : h2.get? s.heap.objs.size = some { cls := .type "tuple", data := .seq #[.int i tk, w] } := (but.2 _ (Nat.ne_of_gt (low e List.mem_cons_self))).trans pair
  refine ⟨.ref s.heap.objs.size, _, I.turnedNew (ob := .tup [.int (i : Nat), x]) (ch := [e, it]) (fun b o out k => ?_) free (Nat.le_refl _) ⟨(show 2 ≤ sizeLine by decide), [.int i tk, w], .cons ⟨tk, rfl⟩ (.cons rw' .nil), _, pair2, rfl, _, rfl⟩, rfl,
    ⟨_, x, rfl, I.hok.fresh (Nat.le_refl _), rfl, fun ys other => I.tuple_inj seq other ▸ at_⟩, ⟨⟨w, by simpa using cnt2⟩, left.1.at fun o k => (but.2 it c.ne.symm).trans k, c.ne⟩, fun b hb => ?_⟩
  · have be : b ≠ e := fun z => out (z ▸ List.mem_cons_self)
    have bi : b ≠ it := fun z => out (z ▸ List.mem_cons_of_mem _ List.mem_cons_self)
    exact (but.2 b be).trans (kept b o be bi k)
  · rw [upd_ne (Nat.ne_of_lt (low b hb))]
    exact (free b hb).1
theorem counting_done (hai : a ≠ it) (calm : X.calm = true) (I : Inv X pins σ H s) (free : ∀ b, b ∈ [e, it] → FpOk X pins H b) (c : Counting a e it i s.heap) (stop : (Itet X.K a).stop i H) :
    wpAny (model X.prog X.w) X.A (pyNext (.ref e)) (fun r s1 => r = none ∧ Inv X pins σ H s1) E s := by
  obtain ⟨xs, seq, size⟩ := stop
  obtain ⟨vals, same, tup, _⟩ := I.tuple seq
  obtain ⟨old, cnt⟩ := c.cnt
  have all : vals.toArray.size = i := by rw [List.size_toArray, ← same.length, size]
  refine wpAny_pyNext_enum_endD (Draws.tuple (prog := X.prog) (w := X.w) (A := X.A.in1) (I.ok.hd calm) it a hai vals.toArray) cnt ⟨all ▸ c.itr, tup⟩ fun h1 ext => ⟨rfl, ?_⟩
  have f := free it (List.mem_cons_of_mem _ List.mem_cons_self)
  exact I.turned (t' := s.toks) ext f.1 f.2.1 f.2.2.2.1 f.2.2.2.2.1 f.2.2.2.2.2
end
theorem turn_count {P : Program} {w : World} {K : PySem.W.Frag} {elts : List Expr} {kk : Nat} {tpos : Pos} {a e it : Addr} (hae : a ≠ e) (hai : a ≠ it) : Turn P w K (.Tuple elts kk tpos) (Itet K a) [e, it] e (Counting a e it) where
  mem := List.mem_cons_self
  obj := fun _ _ c => c.obj
  keep := fun _ _ _ c k => c.keep k
  item := by
    rintro X rfl rfl rfl calm i pins s σ H E I free c go
    exact counting_item hae hai calm I free c go
  done := by
    rintro X rfl rfl rfl calm i pins s σ H E I free c stop
    exact counting_done hai calm I free c stop
  self := fun _ _ _ _ _ c k => c.cnt.elim fun _ z => wpAny_pyIter_enum z k
def iEnumT (K : PySem.W.Frag) (ta : TA) : TI := fun σ H R => ta σ H fun vs H1 => ∃ a xs, vs = [.ref a] ∧ SqT K H1 a xs ∧ R (Itet K a) H1
theorem pi_enumT {X : Cx} {e : Expr} {ta : TA} {p pos tpos : Pos} {elts : List Expr} {kk : Nat} (hg : Gl X "enumerate") (hm : X.mg "enumerate" = none) (ha : PA X [e] ta) (hs : starEach [e] X.env = [(false, eval e X.env)] := by rfl) :
    PI X (.Tuple elts kk tpos) (.Call (.Name "enumerate" p) [e] [] pos) (iEnumT X.K ta) := ⟨fun pins s σ H R I h =>
  Call_ (ld_blt I hg hm boot_enumerate (PyProof.Rows.callWith_type1 (thn (ha.run pos pins s σ H _ I h) fun us s1 got => by
    obtain ⟨vs, H1, I1, same, a, xs, rfl, seq, q⟩ := got
    obtain ⟨u, rfl, ru⟩ := vals1 same
    cases ru
    obtain ⟨vals, _, tup, _⟩ := I1.tuple seq
    have low : a < s1.heap.objs.size := let ⟨_, k, _⟩ := tup; Heap.lt_size k
    refine counts_call (begins_tuple a vals.toArray) tup (wpAny_pyIter_enum withCounter_enum ?_)
    have new : ∀ b, b ∈ [s1.heap.objs.size + 1, s1.heap.objs.size] → s1.heap.objs.size ≤ b := fun b hb => by
      rcases List.mem_cons.mp hb with rfl | hb
      · exact Nat.le_succ _
      · exact Nat.le_of_eq (List.mem_singleton.mp hb).symm
    exact ⟨_, [s1.heap.objs.size + 1, s1.heap.objs.size], Counting a _ _, Itet X.K a, H1, rfl, I1.kept (t' := s1.toks) withCounter_keeps, turn_count (Nat.ne_of_lt (Nat.lt_succ_of_lt low)) (Nat.ne_of_lt low),
      ⟨⟨_, withCounter_enum⟩, ⟨_, withCounter_iter rfl, rfl, rfl⟩, Nat.succ_ne_self _⟩, fun b hb => I1.fpOk (new b hb) (I1.hok.fresh (new b hb)), q⟩) hs rfl))⟩

/-! ### M.__init__(self, ..), M an own class over ValueError without one of its own -/
structure OInitC (K : PySem.W.Frag) (mg : Str → Option Value) (x : Str) (M : Addr) : Prop where
  gM : mg x = some (.ref M)
  hg : PySem.W.specialIn K (.ref M) "__getattribute__" = some (some (.builtin "type.__getattribute__"))
  hr : PySem.W.readsIn K M (.type "type") = true
  hf : PySem.W.findCls K (.ref M) (.type "type") "__init__" = some (.val (.builtin "ValueError.__init__"))
theorem pe_moinit {X : Cx} {x : Str} {M : Addr} {e : Expr} {es : List Expr} {ta : TA} {p1 p2 pos : Pos} {pl : Sem Bool} (T : OInitC X.K X.mg x M) (hg : Gl X x) (ha : PA X (e :: es) ta)
    (text : eval (.Call (.Attribute (.Name x p1) "__init__" p2) (e :: es) [] pos) X.env = (do
      let c ← eval (.Name x p1) X.env
      standAt p2.atName
      let (g, before) ← holding [c] (getMethod c "__init__" pl)
      callWith pos g before (backTo pos (starEach (e :: es) X.env)) (backToKw pos (keywordEach [] X.env))) := by rfl)
    (name : (x == ("__debug__" : Str)) = false := by decide) (one : starEach (e :: es) X.env = (false, eval e X.env) :: starEach es X.env := by rfl) (rest : (backTo pos (starEach es X.env)).any (·.1) = false := by rfl) :
    PE X (.Call (.Attribute (.Name x p1) "__init__" p2) (e :: es) [] pos) (tVeI X.K ta) := ⟨fun pins s σ H Q I h => by
  have args : wpAny (model X.prog X.w) X.A (callWith pos (Value.builtin "ValueError.__init__") [] (backTo pos (starEach (e :: es) X.env)) (backToKw pos (keywordEach [] X.env))) (EP X pins σ Q) X.xe { s with toks := s.toks + 1 } := by
    refine PyProof.Rows.callWith_method1 (thn (ha.run pos pins _ σ H _ (I.tok _) h) fun us s1 got => ?_) one rest
    obtain ⟨vs, H1, I1, same, a, C, more, rfl, few, ox, at_, q⟩ := got
    cases same with
    | cons first others =>
      cases first
      have := others.length
      exact oinit_ok ox I1 at_ (by rw [sizeLine_eq]; omega) fun s2 J => ⟨.non, H1, J, rfl, q⟩
  exact PySem.W.methodCall_KW (ld_glob I hg T.gM (PySem.W.method_cls I.kIn T.hg (PySem.W.cls_value I.kIn T.hr T.hf (by decide +kernel) args)) name) text⟩
end L2


namespace L2
open PySem PySem.Spec PyProof.Rows
/-! ### C(..) where what is raised is wished for at the caller's slots -/
section
variable {X : Cx} {k : Nat} {f C : Addr} {fd : FuncData} {ps : List Str} {sp : Sp} {E : St → XK} {x : Str} {p pos : Pos} {e : Expr} {es : List Expr} {t : TA}
end

/-! ### raise X(y), X an own error that keeps its one field f -/
/-- the promise of its __init__ -/
def spXI (f : Str) (K : PySem.W.Frag) (C : Addr) : Sp := fun vs H Q _ => ∃ (a : Addr) (y : V), vs = [.ref a, y] ∧ H a = some (exo a C none) ∧ ∀ dx, H dx = none → dx ≠ a → Q .non (upd (upd H dx (exd dx [(f, y)])) a (exo a C (some dx)))
end L2


/-! The M layer: pure data D, a store of cells, mirrors as shallow functions, one soundness lemma a construct. -/
namespace M
open PySem PySem.Spec PyProof.Rows L2

/-! ### data -/
inductive Tag where
  | non | bl | int | str | lst | tup | dic
  deriving DecidableEq
def Tag.name : Tag → String
  | .non => "NoneType" | .bl => "bool" | .int => "int" | .str => "str" | .lst => "list" | .tup => "tuple" | .dic => "dict"
abbrev NKey := List (List Key)
inductive D where
  | non | bl (b : Bool) | int (i : Int) | str (x : Str) | ty (n : Tag)
  | lst (xs : List D) | tup (xs : List D) | ro (xs : List D)
  | dK (kvs : List (Key × D)) | dT (kvs : List (List Key × D)) | dN (kvs : List (NKey × D))
  | obj (c : Nat) (fs : List (Str × D))
  | ptr (a : Addr) | cls (c : Nat) | ref (i : Nat) | pr (i j : Nat)
  /-- an exception of the own class c, its fields -/
  | exc (c : Nat) (fs : List (Str × D))
inductive Cell where
  | lst (xs : List D) | dK (kvs : List (Key × D)) | dT (kvs : List (List Key × D)) | ins (c : Nat) (fs : List (Str × D)) | dS (fs : List (Str × D)) | lv (xs : List D) | dN (kvs : List (NKey × D)) | dV (kvs : List (List Key × D)) | dW (kvs : List (Key × D)) | dead
abbrev Store := List Cell
/-- c: the live cells' addresses by index; h: what is hidden (a comprehension's list while it grows) -/
structure Lv where
  c : List (Option Addr)
  h : List Addr
def Dic (o : HO) : Prop := (∃ kvs, o = .dK kvs) ∨ ∃ kvs, o = .dT kvs
abbrev NoTbl (o : HO) : Prop := ∀ ps, o ≠ .tbl ps
/-- what was there stays; a dict may be frozen; a code object's table may grow -/
def Rl (H H' : Hp) : Prop := ∀ a o, H a = some o → H' a = some o ∨ (Dic o ∧ ∃ ob, H' a = some (.frz ob o)) ∨ ∃ ps, o = .tbl ps
theorem Rl.of_same {H H' : Hp} (s : Same H H') : Rl H H' := fun a o h => .inl (s a o h)
theorem Rl.stays {H H' : Hp} (s : Rl H H') {a : Addr} {o : HO} (h : H a = some o) (n : ¬ Dic o) (m : NoTbl o := by intro _ z; cases z) : H' a = some o := by
  rcases s a o h with z | z | ⟨ps, z⟩
  · exact z
  · exact absurd z.1 n
  · exact absurd z (m ps)
theorem Rl.trans {H H1 H2 : Hp} (s : Rl H H1) (t : Rl H1 H2) : Rl H H2 := fun a o h => by
  rcases s a o h with h1 | ⟨d, ob, h1⟩ | h1
  · exact t a o h1
  · refine .inr (.inl ⟨d, ob, t.stays h1 ?_⟩)
    rintro (⟨_, z⟩ | ⟨_, z⟩) <;> cases z
  · exact .inr (.inr h1)
theorem Rl.lst {H H' : Hp} (s : Rl H H') (a : Addr) (vs : List V) (h : H a = some (.lst vs)) : H' a = some (.lst vs) := s.stays h (by rintro (⟨_, z⟩ | ⟨_, z⟩) <;> cases z)
theorem Rl.tup {H H' : Hp} (s : Rl H H') (a : Addr) (vs : List V) (h : H a = some (.tup vs)) : H' a = some (.tup vs) := s.stays h (by rintro (⟨_, z⟩ | ⟨_, z⟩) <;> cases z)
theorem Rl.ins {H H' : Hp} (s : Rl H H') (a C dx : Addr) (fs : List (Str × V)) (h : H a = some (.ins C dx fs)) : H' a = some (.ins C dx fs) := s.stays h (by rintro (⟨_, z⟩ | ⟨_, z⟩) <;> cases z)
theorem Rl.xd {H H' : Hp} (s : Rl H H') (a : Addr) (fs : List (Str × V)) (h : H a = some (.xd fs)) : H' a = some (.xd fs) := s.stays h (by rintro (⟨_, z⟩ | ⟨_, z⟩) <;> cases z)
theorem Rl.frz {H H' : Hp} (s : Rl H H') (a : Addr) (o : Obj) (u : HO) (h : H a = some (.frz o u)) : H' a = some (.frz o u) := s.stays h (by rintro (⟨_, z⟩ | ⟨_, z⟩) <;> cases z)
theorem Rl.rd {H H' : Hp} (s : Rl H H') (a : Addr) (u : HO) (h : Rd H a u) (m : NoTbl u := by intro _ z; cases z) : Rd H' a u := by
  rcases h with h | ⟨o, h⟩
  · rcases s a u h with q | ⟨_, ob, q⟩ | ⟨ps, q⟩
    · exact .inl q
    · exact .inr ⟨ob, q⟩
    · exact absurd q (m ps)
  · exact .inr ⟨o, s.frz a o u h⟩
/-- the facts of the code, and which class stands behind a number -/
structure Gb where
  K : PySem.W.Frag
  cA : Nat → Addr
  /-- the tables of the defs that make lambdas, the lambdas' names -/
  T : List (Addr × Str) := []
  /-- the program and the world, where dicts of nested keys are told -/
  pw : Option (Program × World) := none
/-- .. and what else is known at a point, and stays -/
structure Gm extends Gb where
  P : L2.St → Hp → Prop
  up : ∀ (σ : L2.St) (H H' : Hp), Rl H H' → P σ H → P σ H'
instance : Coe Gm Gb := ⟨Gm.toGb⟩
def Gm.flat (B : Gb) : Gm := ⟨B, fun _ _ => True, fun _ _ _ _ _ => True.intro⟩
def Gm.of (K : PySem.W.Frag) (cA : Nat → Addr) : Gm := Gm.flat { K := K, cA := cA }
/-- what is known hangs on no name -/
def Flat (G : Gm) : Prop := ∀ σ σ' H, G.P σ H → G.P σ' H

/-- the heap without the live cells -/
def off (L : Lv) (H : Hp) : Hp := fun a => if some a ∈ L.c ∨ a ∈ L.h then none else H a
theorem off_some {L : Lv} {H : Hp} {a : Addr} {o : HO} (h : off L H a = some o) : H a = some o ∧ ¬ (some a ∈ L.c ∨ a ∈ L.h) := by
  unfold off at h
  split at h
  · cases h
  · exact ⟨h, by assumption⟩
theorem off_of {L : Lv} {H : Hp} {a : Addr} {o : HO} (h : H a = some o) (n : ¬ (some a ∈ L.c ∨ a ∈ L.h)) : off L H a = some o := by
  unfold off
  rw [if_neg n]
  exact h

/-! dicts whose keys are tuples of tuples: by their one object; the keys are tracked -/
def rawDict (a : Addr) (es : Array DictEntry) (ep : Nat) : Heap → Prop := fun h => h.get? a = some { cls := .type "dict", data := .dict es ep } ∧ (a == sysModules) = false
theorem raw_ne {a : Addr} {es : Array DictEntry} {ep : Nat} {c : Addr} {q : Str} : HO.ext (rawDict a es ep) ≠ LamX.CodeO c q := fun z => by
  have z2 : HO.ext (rawDict a es ep) = HO.ext fun h => ∃ (oc : Obj) (vs : Array Value) (t : Tok), h.get? c = some oc ∧ oc.data = .fields vs ∧ vs[1]? = some (.str q t) := z
  have e := HO.ext.inj z2
  have same : ∀ (Y : Obj) (n : Y.data ≠ .freed) (m b : Nat), b < m → ({ objs := Array.replicate m Y } : Heap).get? b = some Y := fun Y n m b lt => by
    unfold Heap.get?
    dsimp only
    rw [Array.getElem?_replicate, if_pos lt]
    split
    · rename_i q
      exact absurd (congrArg Obj.data (Option.some.inj q)) n
    · rfl
  by_cases sy : (a == sysModules) = false
  · let h : Heap := { objs := Array.replicate (a + c + 1) { cls := .type "dict", data := .dict es ep } }
    have h1 : rawDict a es ep h := ⟨same _ (fun z => by cases z) _ _ (by omega), sy⟩
    rw [e] at h1
    obtain ⟨oc, vs, t, g, d, _⟩ := h1
    rw [same _ (fun z => by cases z) _ _ (by omega)] at g
    cases g
    cases d
  · let h : Heap := { objs := Array.replicate (c + 1) { cls := .type "code", data := .fields #[.none, .str q 0] } }
    have h1 : (fun h : Heap => ∃ (oc : Obj) (vs : Array Value) (t : Tok), h.get? c = some oc ∧ oc.data = .fields vs ∧ vs[1]? = some (.str q t)) h := ⟨_, _, 0, same _ (fun z => by cases z) _ _ (by omega), rfl, rfl⟩
    rw [← e] at h1
    exact sy h1.2
def NKAt (H : Hp) (b : Addr) (k : NKey) : Prop := ∃ cs : List Addr, H b = some (.tup (cs.map V.ref)) ∧ Paired (fun c ks => H c = some (.tup (ks.map kV))) cs k
def nKey (k : NKey) : PySem.NestedKey := .tup (k.map fun ks => .tup (ks.map fun x => match x with
  | .inl i => .num i
  | .inr s => .text s))
def NEnt (w : World) (H : Hp) (x : NKey × V) (e : DictEntry) : Prop := ∃ b, e.key = .ref b ∧ NKAt H b x.1 ∧ e.hash = (nKey x.1).hash w ∧ RelV x.2 e.val
def NTab (pw : Option (Program × World)) (H : Hp) (vs : List (NKey × V)) (es : Array DictEntry) : Prop := ∃ P w, pw = some (P, w) ∧ Paired (NEnt w H) vs es.toList ∧ (vs.map (·.1)).Nodup
mutual
inductive Da (G : Gb) (H : Hp) : V → D → Prop
  | non : Da G H .non .non
  | bl (b : Bool) : Da G H (.bl b) (.bl b)
  | int (i : Int) : Da G H (.int i) (.int i)
  | str (x : Str) : Da G H (.str x) (.str x)
  | ty (n : Tag) : Da G H (.ty n.name) (.ty n)
  | ptr (a : Addr) : Da G H (.ref a) (.ptr a)
  | cls (c : Nat) : Da G H (.ref (G.cA c)) (.cls c)
  | lst {a : Addr} {vs : List V} {ds : List D} (h : H a = some (.lst vs)) (r : Das G H vs ds) : Da G H (.ref a) (.lst ds)
  | tup {a : Addr} {vs : List V} {ds : List D} (h : H a = some (.tup vs)) (r : Das G H vs ds) : Da G H (.ref a) (.tup ds)
  | ro {a : Addr} {vs : List V} {ds : List D} (h : SqL G.K H a vs) (r : Das G H vs ds) : Da G H (.ref a) (.ro ds)
  | dK {a : Addr} {vs : List (Key × V)} {ds : List (Key × D)} (h : Rd H a (.dK vs)) (r : DasK G H vs ds) : Da G H (.ref a) (.dK ds)
  | dT {a : Addr} {vs : List (List Key × V)} {ds : List (List Key × D)} (h : Rd H a (.dT vs)) (r : DasT G H vs ds) : Da G H (.ref a) (.dT ds)
  | dN {a : Addr} {es : Array DictEntry} {ep : Nat} {vs : List (NKey × V)} {ds : List (NKey × D)} (h : H a = some (.ext (rawDict a es ep))) (k : NTab G.pw H vs es) (r : DasN G H vs ds) : Da G H (.ref a) (.dN ds)
  | obj {a dx : Addr} {c : Nat} {vs : List (Str × V)} {ds : List (Str × D)} (h : H a = some (.ins (G.cA c) dx vs)) (r : DasF G H vs ds) : Da G H (.ref a) (.obj c ds)
  | exc {a dx : Addr} {c : Nat} {vs : List (Str × V)} {ds : List (Str × D)} (h : H a = some (exo a (G.cA c) (some dx))) (hx : H dx = some (exd dx vs)) (r : DasF G H vs ds) : Da G H (.ref a) (.exc c ds)
  | ex0 {a : Addr} {c : Nat} (h : H a = some (ExO (.ref (G.cA c)) a)) : Da G H (.ref a) (.exc c [])
inductive Das (G : Gb) (H : Hp) : List V → List D → Prop
  | nil : Das G H [] []
  | cons {v : V} {vs : List V} {d : D} {ds : List D} (h : Da G H v d) (r : Das G H vs ds) : Das G H (v :: vs) (d :: ds)
inductive DasK (G : Gb) (H : Hp) : List (Key × V) → List (Key × D) → Prop
  | nil : DasK G H [] []
  | cons {k : Key} {v : V} {vs : List (Key × V)} {d : D} {ds : List (Key × D)} (h : Da G H v d) (r : DasK G H vs ds) : DasK G H ((k, v) :: vs) ((k, d) :: ds)
inductive DasT (G : Gb) (H : Hp) : List (List Key × V) → List (List Key × D) → Prop
  | nil : DasT G H [] []
  | cons {k : List Key} {v : V} {vs : List (List Key × V)} {d : D} {ds : List (List Key × D)} (h : Da G H v d) (r : DasT G H vs ds) : DasT G H ((k, v) :: vs) ((k, d) :: ds)
inductive DasN (G : Gb) (H : Hp) : List (NKey × V) → List (NKey × D) → Prop
  | nil : DasN G H [] []
  | cons {k : NKey} {v : V} {vs : List (NKey × V)} {d : D} {ds : List (NKey × D)} (h : Da G H v d) (r : DasN G H vs ds) : DasN G H ((k, v) :: vs) ((k, d) :: ds)
inductive DasF (G : Gb) (H : Hp) : List (Str × V) → List (Str × D) → Prop
  | nil : DasF G H [] []
  | cons {k : Str} {v : V} {vs : List (Str × V)} {d : D} {ds : List (Str × D)} (h : Da G H v d) (r : DasF G H vs ds) : DasF G H ((k, v) :: vs) ((k, d) :: ds)
end

/-- live cells: more, or dead -/
structure Le (L L' : Lv) : Prop where
  len : L.c.length ≤ L'.c.length
  at_ : ∀ (i : Nat) (a : Addr), i < L.c.length → L'.c[i]? = some (some a) → L.c[i]? = some (some a)
theorem Le.refl (L : Lv) : Le L L := ⟨Nat.le_refl _, fun _ _ _ h => h⟩
theorem Le.trans {L L1 L2 : Lv} (a : Le L L1) (b : Le L1 L2) : Le L L2 :=
  ⟨Nat.le_trans a.len b.len, fun i x hi h => a.at_ i x hi (b.at_ i x (Nat.lt_of_lt_of_le hi a.len) h)⟩

section
variable {G : Gb} {L L' : Lv} {H H' : Hp}
theorem Rl.sq {K : PySem.W.Frag} {a : Addr} {xs : List V} (r : Rl H H') (h : SqL K H a xs) : SqL K H' a xs := by
  rcases h with h | h
  · exact .inl (r.rd _ _ h)
  · exact .inr h
theorem NKAt.mono (s : Rl H H') {b : Addr} {k : NKey} (h : NKAt H b k) : NKAt H' b k := by
  obtain ⟨cs, h1, h2⟩ := h
  exact ⟨cs, s.tup _ _ h1, Paired.mapP h2 fun _ _ z => s.tup _ _ z⟩
theorem NTab.mono (s : Rl H H') {pw : Option (Program × World)} {vs : List (NKey × V)} {es : Array DictEntry} (h : NTab pw H vs es) : NTab pw H' vs es := by
  obtain ⟨P, w, e, h1, h2⟩ := h
  exact ⟨P, w, e, Paired.mapP h1 fun _ _ ⟨b, k1, k2, k3, k4⟩ => ⟨b, k1, k2.mono s, k3, k4⟩, h2⟩
theorem Rl.ext (s : Rl H H') {a : Addr} {φ : Heap → Prop} (h : H a = some (.ext φ)) : H' a = some (.ext φ) := s.stays h (by rintro (⟨_, z⟩ | ⟨_, z⟩) <;> cases z)
mutual
theorem Da.mono (s : Rl H H') : ∀ (d : D) (v : V), Da G H v d → Da G H' v d
  | .non, _, h => by cases h; exact .non
  | .bl _, _, h => by cases h; exact .bl _
  | .int _, _, h => by cases h; exact .int _
  | .str _, _, h => by cases h; exact .str _
  | .ty _, _, h => by cases h; exact .ty _
  | .ptr _, _, h => by cases h; exact .ptr _
  | .cls _, _, h => by cases h; exact .cls _
  | .ref i, _, h => nomatch h
  | .pr _ _, _, h => nomatch h
  | .lst ds, _, h => by
    cases h with
    | lst h r => exact .lst (s.lst _ _ h) (Das.mono s ds _ r)
  | .tup ds, _, h => by
    cases h with
    | tup h r => exact .tup (s.tup _ _ h) (Das.mono s ds _ r)
  | .ro ds, _, h => by
    cases h with
    | ro h r => exact .ro (s.sq h) (Das.mono s ds _ r)
  | .dK ds, _, h => by
    cases h with
    | dK h r => exact .dK (s.rd _ _ h) (DasK.mono s ds _ r)
  | .dT ds, _, h => by
    cases h with
    | dT h r => exact .dT (s.rd _ _ h) (DasT.mono s ds _ r)
  | .dN ds, _, h => by
    cases h with
    | dN h k r => exact .dN (s.ext h) (k.mono s) (DasN.mono s ds _ r)
  | .obj c ds, _, h => by
    cases h with
    | obj h r => exact .obj (s.ins _ _ _ _ h) (DasF.mono s ds _ r)
  | .exc c ds, _, h => by
    cases h with
    | exc h hx r => exact .exc (s.ext h) (s.ext hx) (DasF.mono s ds _ r)
    | ex0 h => exact .ex0 (s.ext h)
theorem Das.mono (s : Rl H H') : ∀ (ds : List D) (vs : List V), Das G H vs ds → Das G H' vs ds
  | [], _, h => by cases h; exact .nil
  | d :: ds, _, h => by
    cases h with
    | cons h r => exact .cons (Da.mono s d _ h) (Das.mono s ds _ r)
theorem DasK.mono (s : Rl H H') : ∀ (ds : List (Key × D)) (vs : List (Key × V)), DasK G H vs ds → DasK G H' vs ds
  | [], _, h => by cases h; exact .nil
  | (k, d) :: ds, _, h => by
    cases h with
    | cons h r => exact .cons (Da.mono s d _ h) (DasK.mono s ds _ r)
theorem DasT.mono (s : Rl H H') : ∀ (ds : List (List Key × D)) (vs : List (List Key × V)), DasT G H vs ds → DasT G H' vs ds
  | [], _, h => by cases h; exact .nil
  | (k, d) :: ds, _, h => by
    cases h with
    | cons h r => exact .cons (Da.mono s d _ h) (DasT.mono s ds _ r)
theorem DasN.mono (s : Rl H H') : ∀ (ds : List (NKey × D)) (vs : List (NKey × V)), DasN G H vs ds → DasN G H' vs ds
  | [], _, h => by cases h; exact .nil
  | (k, d) :: ds, _, h => by
    cases h with
    | cons h r => exact .cons (Da.mono s d _ h) (DasN.mono s ds _ r)
theorem DasF.mono (s : Rl H H') : ∀ (ds : List (Str × D)) (vs : List (Str × V)), DasF G H vs ds → DasF G H' vs ds
  | [], _, h => by cases h; exact .nil
  | (k, d) :: ds, _, h => by
    cases h with
    | cons h r => exact .cons (Da.mono s d _ h) (DasF.mono s ds _ r)
end
theorem Das.length : ∀ {ds : List D} {vs : List V}, Das G H vs ds → vs.length = ds.length
  | [], _, h => by cases h; rfl
  | d :: ds, _, h => by
    cases h with
    | cons h r => simp [Das.length r]
theorem Das.get : ∀ {ds : List D} {vs : List V} {i : Nat} {v : V}, Das G H vs ds → vs[i]? = some v → ∃ d, ds[i]? = some d ∧ Da G H v d
  | [], _, _, _, h, e => by cases h; simp at e
  | d :: ds, _, 0, v, h, e => by
    cases h with
    | cons h r =>
      simp at e
      subst e
      exact ⟨d, rfl, h⟩
  | d :: ds, _, i + 1, v, h, e => by
    cases h with
    | cons h r => exact Das.get (i := i) r (by simpa using e)
theorem Das.getD : ∀ {ds : List D} {vs : List V} {i : Nat} {d : D}, Das G H vs ds → ds[i]? = some d → ∃ v, vs[i]? = some v ∧ Da G H v d
  | [], _, _, _, h, e => by simp at e
  | d :: ds, _, 0, x, h, e => by
    cases h with
    | cons h r =>
      simp at e
      subst e
      exact ⟨_, rfl, h⟩
  | d :: ds, _, i + 1, x, h, e => by
    cases h with
    | cons h r =>
      obtain ⟨v, q, z⟩ := Das.getD (i := i) r (by simpa using e)
      exact ⟨v, by simpa using q, z⟩
theorem Das.append : ∀ {ds es : List D} {vs us : List V}, Das G H vs ds → Das G H us es → Das G H (vs ++ us) (ds ++ es)
  | [], _, _, _, h, g => by cases h; exact g
  | d :: ds, _, _, _, h, g => by
    cases h with
    | cons h r => exact .cons h (Das.append r g)
theorem Das.take : ∀ {ds : List D} {vs : List V} (n : Nat), Das G H vs ds → Das G H (vs.take n) (ds.take n)
  | [], _, n, h => by cases h; simp; exact .nil
  | d :: ds, _, 0, h => .nil
  | d :: ds, _, n + 1, h => by
    cases h with
    | cons h r => exact .cons h (Das.take n r)
theorem Das.drop : ∀ {ds : List D} {vs : List V} (n : Nat), Das G H vs ds → Das G H (vs.drop n) (ds.drop n)
  | [], _, n, h => by cases h; simp; exact .nil
  | d :: ds, _, 0, h => h
  | d :: ds, _, n + 1, h => by
    cases h with
    | cons h r => exact Das.drop n r
theorem Das.ints : ∀ (ns : List Int), Das G H (ns.map V.int) (ns.map D.int)
  | [] => .nil
  | n :: ns => .cons (.int n) (Das.ints ns)
end

/-- what a name or an argument may hold: data, or a live cell -/
inductive Va (G : Gb) (L : Lv) (H : Hp) : V → D → Prop
  | d {v : V} {d : D} (h : Da G H v d) : Va G L H v d
  | ref {a : Addr} {i : Nat} (hi : i < L.c.length) (h : ∀ b, L.c[i]? = some (some b) → a = b) : Va G L H (.ref a) (.ref i)
  | pr {p a b : Addr} {i j : Nat} (h : H p = some (.tup [.ref a, .ref b])) (hi : i < L.c.length) (hj : j < L.c.length) (ha : ∀ x, L.c[i]? = some (some x) → a = x) (hb : ∀ x, L.c[j]? = some (some x) → b = x) : Va G L H (.ref p) (.pr i j)
inductive Vas (G : Gb) (L : Lv) (H : Hp) : List V → List D → Prop
  | nil : Vas G L H [] []
  | cons {v : V} {vs : List V} {d : D} {ds : List D} (h : Va G L H v d) (r : Vas G L H vs ds) : Vas G L H (v :: vs) (d :: ds)
inductive VasF (G : Gb) (L : Lv) (H : Hp) : List (Str × V) → List (Str × D) → Prop
  | nil : VasF G L H [] []
  | cons {k : Str} {v : V} {vs : List (Str × V)} {d : D} {ds : List (Str × D)} (h : Va G L H v d) (r : VasF G L H vs ds) : VasF G L H ((k, v) :: vs) ((k, d) :: ds)
inductive VasT (G : Gb) (L : Lv) (H : Hp) : List (List Key × V) → List (List Key × D) → Prop
  | nil : VasT G L H [] []
  | cons {k : List Key} {v : V} {vs : List (List Key × V)} {d : D} {ds : List (List Key × D)} (h : Va G L H v d) (r : VasT G L H vs ds) : VasT G L H ((k, v) :: vs) ((k, d) :: ds)
inductive VasK (G : Gb) (L : Lv) (H : Hp) : List (Key × V) → List (Key × D) → Prop
  | nil : VasK G L H [] []
  | cons {k : Key} {v : V} {vs : List (Key × V)} {d : D} {ds : List (Key × D)} (h : Va G L H v d) (r : VasK G L H vs ds) : VasK G L H ((k, v) :: vs) ((k, d) :: ds)
section
variable {G : Gb} {L L' : Lv} {H H' : Hp}
theorem Va.mono (l : Le L L') (s : Rl H H') {v : V} {d : D} (h : Va G L H v d) : Va G L' H' v d := by
  cases h with
  | d h => exact .d (Da.mono s d v h)
  | ref hi h => exact .ref (Nat.lt_of_lt_of_le hi l.len) fun b q => h b (l.at_ _ b hi q)
  | pr h hi hj ha hb => exact .pr (s.tup _ _ h) (Nat.lt_of_lt_of_le hi l.len) (Nat.lt_of_lt_of_le hj l.len) (fun b q => ha b (l.at_ _ b hi q)) fun b q => hb b (l.at_ _ b hj q)
theorem Vas.mono (l : Le L L') (s : Rl H H') : ∀ {vs : List V} {ds : List D}, Vas G L H vs ds → Vas G L' H' vs ds
  | _, _, .nil => .nil
  | _, _, .cons h r => .cons (h.mono l s) (Vas.mono l s r)
theorem VasF.mono (l : Le L L') (s : Rl H H') : ∀ {vs : List (Str × V)} {ds : List (Str × D)}, VasF G L H vs ds → VasF G L' H' vs ds
  | _, _, .nil => .nil
  | _, _, .cons h r => .cons (h.mono l s) (VasF.mono l s r)
theorem VasT.mono (l : Le L L') (s : Rl H H') : ∀ {vs : List (List Key × V)} {ds : List (List Key × D)}, VasT G L H vs ds → VasT G L' H' vs ds
  | _, _, .nil => .nil
  | _, _, .cons h r => .cons (h.mono l s) (VasT.mono l s r)
theorem VasK.mono (l : Le L L') (s : Rl H H') : ∀ {vs : List (Key × V)} {ds : List (Key × D)}, VasK G L H vs ds → VasK G L' H' vs ds
  | _, _, .nil => .nil
  | _, _, .cons h r => .cons (h.mono l s) (VasK.mono l s r)
/-- no live cell -/
def isD : D → Bool
  | .ref _ => false
  | .pr _ _ => false
  | _ => true
theorem Va.da {v : V} {d : D} (h : Va G L H v d) (p : isD d = true) : Da G H v d := by
  cases h with
  | d h => exact h
  | ref _ _ => cases p
  | pr _ _ _ _ _ => cases p
theorem Vas.das : ∀ {vs : List V} {ds : List D}, Vas G L H vs ds → ds.all isD = true → Das G H vs ds
  | _, _, .nil, _ => .nil
  | _, _, .cons h r, p => by
    rw [List.all_cons, Bool.and_eq_true] at p
    exact .cons (h.da p.1) (Vas.das r p.2)
theorem VasF.das : ∀ {vs : List (Str × V)} {ds : List (Str × D)}, VasF G L H vs ds → (ds.all fun p => isD p.2) = true → DasF G H vs ds
  | _, _, .nil, _ => .nil
  | _, _, .cons h r, p => by
    rw [List.all_cons, Bool.and_eq_true] at p
    exact .cons (h.da p.1) (VasF.das r p.2)
theorem Vas.length : ∀ {vs : List V} {ds : List D}, Vas G L H vs ds → vs.length = ds.length
  | _, _, .nil => rfl
  | _, _, .cons h r => by simp [Vas.length r]
end

/-! ### the store and the heap -/
/-- a dict of texts, some of whose values may be live lists -/
def kS (vs : List (Str × V)) : List (Key × V) := vs.map fun p => (.inr p.1, p.2)
def CellR (G : Gb) (L : Lv) (H : Hp) : Option Addr → Cell → Prop
  | none, .dead => True
  | some a, .lst ds => ∃ vs, H a = some (.lst vs) ∧ Das G (off L H) vs ds
  | some a, .dK ds => ∃ vs, H a = some (.dK vs) ∧ DasK G (off L H) vs ds
  | some a, .dT ds => ∃ vs, H a = some (.dT vs) ∧ DasT G (off L H) vs ds
  | some a, .dN ds => ∃ es ep vs, H a = some (.ext (rawDict a es ep)) ∧ NTab G.pw (off L H) vs es ∧ DasN G (off L H) vs ds
  | some a, .ins c ds => ∃ dx vs, H a = some (.ins (G.cA c) dx vs) ∧ VasF G L (off L H) vs ds
  | some a, .dS ds => ∃ vs, H a = some (.dK (kS vs)) ∧ VasF G L (off L H) vs ds
  | some a, .lv ds => ∃ vs, H a = some (.lst vs) ∧ Vas G L (off L H) vs ds
  | some a, .dV ds => ∃ vs, H a = some (.dT vs) ∧ VasT G L (off L H) vs ds
  | some a, .dW ds => ∃ vs, H a = some (.dK vs) ∧ VasK G L (off L H) vs ds
  | _, _ => False
/-- what may be hidden -/
abbrev Hid (o : HO) : Prop := (∀ xs, o ≠ .tup xs) ∧ NoTbl o ∧ ∀ p : Addr × Str, o ≠ LamX.CodeO p.1 p.2
/-- what is hidden: there, no tuple, no table -/
def HidOk (o : Option HO) : Prop := ∃ u, o = some u ∧ Hid u
theorem HidOk.ne {o : Option HO} (h : HidOk o) : o ≠ none := fun z => by
  obtain ⟨u, e, _⟩ := h
  rw [z] at e
  cases e
theorem HidOk.tup {o : Option HO} (h : HidOk o) (xs : List V) : o ≠ some (.tup xs) := fun z => by
  obtain ⟨u, e, n, _⟩ := h
  rw [z] at e
  exact n xs (Option.some.inj e).symm
/-- the tables, and what they tell of, stay -/
theorem tabs_keep {T : List (Addr × Str)} {H H' : Hp} (t : LamX.Tabs T H) (e : ∀ a ps, H a = some (.tbl ps) → H' a = some (.tbl ps)) (e2 : ∀ a c q, H a = some (LamX.CodeO c q) → H' a = some (LamX.CodeO c q)) : LamX.Tabs T H' := fun p hp => by
  obtain ⟨ps, h1, h2, h3⟩ := t p hp
  refine ⟨ps, e _ _ h1, h2, fun pos cv hc => ?_⟩
  obtain ⟨c, e1, e3⟩ := h3 pos cv hc
  exact ⟨c, e1, e2 _ _ _ e3⟩
theorem tabs_upd {T : List (Addr × Str)} {H : Hp} {p : Addr} {u o : HO} (t : LamX.Tabs T H) (h : H p = some u) (n1 : NoTbl u) (n2 : ∀ p : Addr × Str, u ≠ LamX.CodeO p.1 p.2) : LamX.Tabs T (upd H p o) := by
  have ne : ∀ {a : Addr} {w : HO}, H a = some w → w ≠ u → upd H p o a = some w := fun {a w} ha hw => by
    rw [upd_ne fun z => hw ?_]
    · exact ha
    · rw [z, h] at ha
      exact (Option.some.inj ha).symm
  exact tabs_keep t (fun a ps ha => ne ha fun z => n1 ps z.symm) fun a c q ha => ne ha fun z => n2 (c, q) z.symm
theorem tabs_new {T : List (Addr × Str)} {H : Hp} {p : Addr} {o : HO} (t : LamX.Tabs T H) (h : H p = none) : LamX.Tabs T (upd H p o) :=
  t.ext fun b u e => by rw [upd_ne (ne_of_none e h)]; exact e
/-- not there, or a table -/
def Gone (H : Hp) (a : Addr) : Prop := H a = none ∨ ∃ ps, H a = some (.tbl ps)
theorem gone_upd {H : Hp} {p a : Addr} {o : HO} (h : Gone (upd H p o) a) (n : NoTbl o) : a ≠ p ∧ Gone H a := by
  by_cases z : a = p
  · rw [z] at h
    rcases h with h | ⟨ps, h⟩
    · rw [upd_same] at h; cases h
    · rw [upd_same] at h; exact absurd (Option.some.inj h) (n ps)
  · unfold Gone at h
    rw [upd_ne z] at h
    exact ⟨z, h⟩
theorem gone_more {H H' : Hp} {a : Addr} (up : ∀ b o, H b = some o → H' b = some o) (h : Gone H' a) : Gone H a := by
  cases e : H a with
  | none => exact .inl e
  | some o =>
    have q := up a o e
    rcases h with h | ⟨ps, h⟩
    · rw [q] at h; cases h
    · rw [q] at h
      exact .inr ⟨ps, by rw [e]; exact h⟩
theorem Gone.upd {H : Hp} {p a : Addr} {o : HO} (h : Gone H a) (n : a ≠ p) : Gone (upd H p o) a := by
  unfold Gone
  rw [upd_ne n]
  exact h
structure Rep (G : Gb) (L : Lv) (st : Store) (H : Hp) : Prop where
  len : L.c.length = st.length
  inj : ∀ (i j : Nat) (a : Addr), L.c[i]? = some (some a) → L.c[j]? = some (some a) → i = j
  cell : ∀ (i : Nat) (x : Option Addr) (c : Cell), L.c[i]? = some x → st[i]? = some c → CellR G L H x c
  hid : ∀ a ∈ L.h, HidOk (H a) ∧ some a ∉ L.c
  tabs : LamX.Tabs G.T H
structure Ev (L : Lv) (H : Hp) (L' : Lv) (H' : Hp) : Prop where
  le : Le L L'
  new : ∀ (i : Nat) (a : Addr), L.c.length ≤ i → L'.c[i]? = some (some a) → Gone H a
  same : Rl (off L H) (off L' H')
  there : ∀ a, Gone H' a → Gone H a
  hh : L'.h = L.h
  keep : ∀ a ∈ L.h, H' a = H a
section
variable {G : Gb} {L L1 L2 : Lv} {H H1 H2 : Hp} {st : Store}
theorem no_at {α : Type} {L : List α} {i : Nat} {x : α} (hi : L.length ≤ i) (h : L[i]? = some x) : False := by
  rw [List.getElem?_eq_none_iff.mpr hi] at h
  cases h
theorem Ev.refl (L : Lv) (H : Hp) : Ev L H L H := ⟨Le.refl L, fun i a hi h => (no_at hi h).elim, Rl.of_same (Same.refl _), fun _ h => h, rfl, fun _ _ => rfl⟩
theorem Ev.trans (a : Ev L H L1 H1) (b : Ev L1 H1 L2 H2) : Ev L H L2 H2 :=
  ⟨a.le.trans b.le, fun i x hi h => by
    by_cases q : i < L1.c.length
    · exact a.new i x hi (b.le.at_ i x q h)
    · exact a.there x (b.new i x (Nat.le_of_not_lt q) h), a.same.trans b.same, fun x h => a.there x (b.there x h), b.hh.trans a.hh, fun x h => (b.keep x (by rw [a.hh]; exact h)).trans (a.keep x h)⟩
theorem Ev.da (e : Ev L H L1 H1) {v : V} {d : D} (h : Da G (off L H) v d) : Da G (off L1 H1) v d := Da.mono (e.same) d v h
theorem Ev.va (e : Ev L H L1 H1) {v : V} {d : D} (h : Va G L (off L H) v d) : Va G L1 (off L1 H1) v d := h.mono e.le (e.same)
theorem Ev.das (e : Ev L H L1 H1) {v : List V} {d : List D} (h : Das G (off L H) v d) : Das G (off L1 H1) v d := Das.mono (e.same) d v h
theorem Ev.dasK (e : Ev L H L1 H1) {v : List (Key × V)} {d : List (Key × D)} (h : DasK G (off L H) v d) : DasK G (off L1 H1) v d := DasK.mono (e.same) d v h
theorem Ev.dasT (e : Ev L H L1 H1) {v : List (List Key × V)} {d : List (List Key × D)} (h : DasT G (off L H) v d) : DasT G (off L1 H1) v d := DasT.mono (e.same) d v h
theorem mem_live {a : Addr} (h : some a ∈ L.c) : ∃ i : Nat, L.c[i]? = some (some a) := List.mem_iff_getElem?.mp h
theorem Rep.live (R : Rep G L st H) {a : Addr} (h : some a ∈ L.c) : H a ≠ none := by
  obtain ⟨i, hi⟩ := mem_live h
  have hl : i < st.length := by rw [← R.len]; exact (List.getElem?_eq_some_iff.mp hi).1
  have q := R.cell i _ st[i] hi (List.getElem?_eq_getElem hl)
  intro z
  cases e : st[i] <;> rw [e] at q <;> simp only [CellR] at q
  · obtain ⟨vs, q, _⟩ := q; rw [z] at q; cases q
  · obtain ⟨vs, q, _⟩ := q; rw [z] at q; cases q
  · obtain ⟨vs, q, _⟩ := q; rw [z] at q; cases q
  · obtain ⟨dx, vs, q, _⟩ := q; rw [z] at q; cases q
  · obtain ⟨vs, q, _⟩ := q; rw [z] at q; cases q
  · obtain ⟨vs, q, _⟩ := q; rw [z] at q; cases q
  · obtain ⟨es, ep, vs, q, _⟩ := q; rw [z] at q; cases q
  · obtain ⟨vs, q, _⟩ := q; rw [z] at q; cases q
  · obtain ⟨vs, q, _⟩ := q; rw [z] at q; cases q
/-- a live cell's object -/
theorem CellR.kind {a : Addr} {c : Cell} (q : CellR G L H (some a) c) : ∃ u, H a = some u ∧ Hid u := by
  cases c <;> simp only [CellR] at q
  · obtain ⟨vs, q, _⟩ := q
    exact ⟨_, q, by refine ⟨?_, ?_, ?_⟩ <;> intro _ z <;> cases z⟩
  · obtain ⟨vs, q, _⟩ := q
    exact ⟨_, q, by refine ⟨?_, ?_, ?_⟩ <;> intro _ z <;> cases z⟩
  · obtain ⟨vs, q, _⟩ := q
    exact ⟨_, q, by refine ⟨?_, ?_, ?_⟩ <;> intro _ z <;> cases z⟩
  · obtain ⟨dx, vs, q, _⟩ := q
    exact ⟨_, q, by refine ⟨?_, ?_, ?_⟩ <;> intro _ z <;> cases z⟩
  · obtain ⟨vs, q, _⟩ := q
    exact ⟨_, q, by refine ⟨?_, ?_, ?_⟩ <;> intro _ z <;> cases z⟩
  · obtain ⟨vs, q, _⟩ := q
    exact ⟨_, q, by refine ⟨?_, ?_, ?_⟩ <;> intro _ z <;> cases z⟩
  · obtain ⟨es, ep, vs, q, _⟩ := q
    exact ⟨_, q, nofun, nofun, fun _ => raw_ne⟩
  · obtain ⟨vs, q, _⟩ := q
    exact ⟨_, q, by refine ⟨?_, ?_, ?_⟩ <;> intro _ z <;> cases z⟩
  · obtain ⟨vs, q, _⟩ := q
    exact ⟨_, q, by refine ⟨?_, ?_, ?_⟩ <;> intro _ z <;> cases z⟩
theorem Rep.liveO (R : Rep G L st H) {a : Addr} (h : some a ∈ L.c) : ∃ u, H a = some u ∧ Hid u := by
  obtain ⟨i, hi⟩ := mem_live h
  have hl : i < st.length := by rw [← R.len]; exact (List.getElem?_eq_some_iff.mp hi).1
  exact (R.cell i _ st[i] hi (List.getElem?_eq_getElem hl)).kind
theorem Rep.fresh (R : Rep G L st H) {a : Addr} (h : H a = none) : ¬ (some a ∈ L.c ∨ a ∈ L.h) := fun q => q.elim (fun q => R.live q h) fun q => (R.hid a q).1.ne h
/-- a cell's relation under a step that leaves the live ones -/
theorem CellR.ev (e : Ev L H L1 H1) {x : Option Addr} {c : Cell} (k : ∀ a o, x = some a → H a = some o → H1 a = some o) (h : CellR G L H x c) : CellR G L1 H1 x c := by
  cases x with
  | none => cases c <;> first | exact h | exact h.elim
  | some a =>
    cases c with
    | lst ds => obtain ⟨vs, q, r⟩ := h; exact ⟨vs, k _ _ rfl q, e.das r⟩
    | dK ds => obtain ⟨vs, q, r⟩ := h; exact ⟨vs, k _ _ rfl q, e.dasK r⟩
    | dT ds => obtain ⟨vs, q, r⟩ := h; exact ⟨vs, k _ _ rfl q, e.dasT r⟩
    | ins c ds => obtain ⟨dx, vs, q, r⟩ := h; exact ⟨dx, vs, k _ _ rfl q, r.mono e.le (e.same)⟩
    | dS ds => obtain ⟨vs, q, r⟩ := h; exact ⟨vs, k _ _ rfl q, r.mono e.le (e.same)⟩
    | lv ds => obtain ⟨vs, q, r⟩ := h; exact ⟨vs, k _ _ rfl q, r.mono e.le (e.same)⟩
    | dV ds => obtain ⟨vs, q, r⟩ := h; exact ⟨vs, k _ _ rfl q, r.mono e.le (e.same)⟩
    | dW ds => obtain ⟨vs, q, r⟩ := h; exact ⟨vs, k _ _ rfl q, r.mono e.le (e.same)⟩
    | dN ds => obtain ⟨es, ep, vs, q, t, r⟩ := h; exact ⟨es, ep, vs, k _ _ rfl q, t.mono e.same, DasN.mono e.same _ _ r⟩
    | dead => exact h.elim
/-- a new object that is no cell -/
theorem Ev.new1 (R : Rep G L st H) {p : Addr} {o : HO} (hp : H p = none) : Ev L H L (upd H p o) :=
  ⟨Le.refl L, fun i a hi h => (no_at hi h).elim, fun b u h => by
    obtain ⟨h1, h2⟩ := off_some h
    exact .inl (off_of (by rw [upd_ne (ne_of_none h1 hp)]; exact h1) h2),
    fun a h => by
    by_cases e : a = p
    · exact .inl (e ▸ hp)
    · unfold Gone at h ⊢
      rw [upd_ne e] at h
      exact h, rfl, fun a ha => upd_ne fun z => R.fresh hp (.inr (z ▸ ha))⟩
theorem Rep.new1 (R : Rep G L st H) {p : Addr} {o : HO} (hp : H p = none) : Rep G L st (upd H p o) :=
  ⟨R.len, R.inj, fun i x c hx hc => CellR.ev (Ev.new1 R hp) (fun a u ea h => by rw [upd_ne (ne_of_none h hp)]; exact h) (R.cell i x c hx hc), fun a ha => ⟨by rw [(Ev.new1 (o := o) R hp).keep a ha]; exact (R.hid a ha).1, (R.hid a ha).2⟩, tabs_new R.tabs hp⟩
theorem Ev.off_new (R : Rep G L st H) {p : Addr} {o : HO} (hp : H p = none) : off L (upd H p o) p = some o := off_of upd_same (R.fresh hp)
end

/-- not by unfolding -/
theorem nr {α : Sort u} {a b : α} (h : a = b) : a = b := h
/-! ### results -/
structure Xn where
  c : Nat
  fs : List (Str × D)
inductive Rs (α : Type) where
  | ok (a : α) | err (x : Xn)
abbrev En := List (Option D)
abbrev ME := En → Store → Option (Rs D × Store)
abbrev MA := En → Store → Option (Rs (List D) × Store)
abbrev MT := En → Store → Option (Rs Bool × Store)
inductive Fl where
  | next | ret (d : D) | brk | cont | err (x : Xn)
abbrev MS := En → Store → Option (Fl × En × Store)
/-- go on with a value -/
def bnd {α β : Type} (m : Option (Rs α × Store)) (k : α → Store → Option (Rs β × Store)) : Option (Rs β × Store) :=
  match m with
  | some (.ok a, st) => k a st
  | some (.err x, st) => some (.err x, st)
  | none => none
@[simp] theorem bnd_ok {α β : Type} {a : α} {st : Store} {k : α → Store → Option (Rs β × Store)} : bnd (some (.ok a, st)) k = k a st := M.nr rfl
@[simp] theorem bnd_err {α β : Type} {x : Xn} {st : Store} {k : α → Store → Option (Rs β × Store)} : bnd (some (.err x, st)) k = some (.err x, st) := M.nr rfl
@[simp] theorem bnd_none {α β : Type} {k : α → Store → Option (Rs β × Store)} : bnd none k = none := M.nr rfl
structure EnvR (G : Gb) (L : Lv) (H : Hp) (σ : L2.St) (env : En) : Prop where
  len : σ.length = env.length
  at_ : ∀ (i : Nat) (d : D), env[i]? = some (some d) → ∃ v, σ[i]? = some (some v) ∧ Va G L H v d
theorem EnvR.ev {G : Gb} {L L1 : Lv} {H H1 : Hp} {σ : L2.St} {env : En} (e : Ev L H L1 H1) (h : EnvR G L (off L H) σ env) : EnvR G L1 (off L1 H1) σ env :=
  ⟨h.len, fun i d q => let ⟨v, q1, q2⟩ := h.at_ i d q; ⟨v, q1, e.va q2⟩⟩
/-- an exception of the own class c, its fields fs -/
def XnR (G : Gb) (H : Hp) (x : Xn) (cls : Value) (dd : Option Addr) : Prop := cls = .ref (G.cA x.c) ∧ ((x.fs = [] ∧ dd = none) ∨ ∃ (d : Addr) (vs : List (Str × V)), dd = some d ∧ H d = some (.xd vs) ∧ DasF G H vs x.fs)
def ErrP (G : Gb) (L : Lv) (H : Hp) (st' : Store) (x : Xn) (k : Value → Option Addr → Hp → Prop) : Prop :=
  ∀ cls dd L' H', Ev L H L' H' → Rep G L' st' H' → XnR G (off L' H') x cls dd → k cls dd H'
def RPost (G : Gb) (W : WX) (σ : L2.St) (L : Lv) (H : Hp) (st' : Store) (Q : VK) : Rs D → Prop
  | .ok d => ∀ v L' H', Ev L H L' H' → Rep G L' st' H' → Va G L' (off L' H') v d → Q v H'
  | .err x => ErrP G L H st' x fun cls dd H' => W cls dd σ H'
def APost (G : Gb) (W : WX) (σ : L2.St) (L : Lv) (H : Hp) (st' : Store) (Q : List V → Hp → Prop) : Rs (List D) → Prop
  | .ok ds => ∀ vs L' H', Ev L H L' H' → Rep G L' st' H' → Vas G L' (off L' H') vs ds → Q vs H'
  | .err x => ErrP G L H st' x fun cls dd H' => W cls dd σ H'
def TPost (G : Gb) (W : WX) (σ : L2.St) (L : Lv) (H : Hp) (st' : Store) (Q : Bool → Hp → Prop) : Rs Bool → Prop
  | .ok b => ∀ L' H', Ev L H L' H' → Rep G L' st' H' → Q b H'
  | .err x => ErrP G L H st' x fun cls dd H' => W cls dd σ H'
def SPost (G : Gb) (W : WX) (L : Lv) (H : Hp) (env' : En) (st' : Store) (Dn : Ends) : Fl → Prop
  | .next => ∀ σ' L' H', Ev L H L' H' → Rep G L' st' H' → EnvR G L' (off L' H') σ' env' → Dn.nx σ' H'
  | .brk => ∀ σ' L' H', Ev L H L' H' → Rep G L' st' H' → EnvR G L' (off L' H') σ' env' → Dn.bk σ' H'
  | .cont => ∀ σ' L' H', Ev L H L' H' → Rep G L' st' H' → EnvR G L' (off L' H') σ' env' → Dn.ct σ' H'
  | .ret d => ∀ v L' H', Ev L H L' H' → Rep G L' st' H' → Va G L' (off L' H') v d → Dn.rt v H'
  | .err x => ∀ cls dd σ' L' H', Ev L H L' H' → Rep G L' st' H' → EnvR G L' (off L' H') σ' env' → XnR G (off L' H') x cls dd → W cls dd σ' H'
/-- at a point -/
structure At (G : Gm) (L : Lv) (st : Store) (σ : L2.St) (env : En) (H : Hp) : Prop where
  e : EnvR G L (off L H) σ env
  r : Rep G L st H
  p : G.P σ (off L H)
theorem At.ev {G : Gm} {L L1 : Lv} {st st1 : Store} {σ : L2.St} {env : En} {H H1 : Hp} (a : At G L st σ env H) (e : Ev L H L1 H1) (r : Rep G L1 st1 H1) : At G L1 st1 σ env H1 := ⟨a.e.ev e, r, G.up _ _ _ e.same a.p⟩
theorem At.to {G : Gm} {L L1 : Lv} {st st1 : Store} {σ σ1 : L2.St} {env env1 : En} {H H1 : Hp} (hF : Flat G) (a : At G L st σ env H) (e : Ev L H L1 H1) (r : Rep G L1 st1 H1) (n : EnvR G L1 (off L1 H1) σ1 env1) : At G L1 st1 σ1 env1 H1 := ⟨n, r, G.up _ _ _ e.same (hF _ _ _ a.p)⟩
def tM (G : Gm) (W : WX) (m : ME) : TE := fun σ H Q => ∃ L st env r st', At G L st σ env H ∧ m env st = some (r, st') ∧ RPost G W σ L H st' Q r
def tMA (G : Gm) (W : WX) (m : MA) : TA := fun σ H Q => ∃ L st env r st', At G L st σ env H ∧ m env st = some (r, st') ∧ APost G W σ L H st' Q r
def tMT (G : Gm) (W : WX) (m : MT) : TT := fun σ H Q => ∃ L st env r st', At G L st σ env H ∧ m env st = some (r, st') ∧ TPost G W σ L H st' Q r
def tMS (G : Gm) (W : WX) (m : MS) : TS := fun Dn σ H => ∃ L st env fl env' st', At G L st σ env H ∧ m env st = some (fl, env', st') ∧ SPost G W L H env' st' Dn fl
theorem ErrP.ev {G : Gb} {L L1 : Lv} {H H1 : Hp} {st' : Store} {x : Xn} {k : Value → Option Addr → Hp → Prop} (e : Ev L H L1 H1) (h : ErrP G L H st' x k) : ErrP G L1 H1 st' x k :=
  fun cls dd L' H' e1 r z => h cls dd L' H' (e.trans e1) r z
theorem RPost.ev {G : Gb} {W : WX} {σ : L2.St} {L L1 : Lv} {H H1 : Hp} {st' : Store} {Q : VK} {r : Rs D} (e : Ev L H L1 H1) (h : RPost G W σ L H st' Q r) : RPost G W σ L1 H1 st' Q r := by
  cases r with
  | ok d => exact fun v L' H' e1 => h v L' H' (e.trans e1)
  | err x => exact ErrP.ev e h
theorem APost.ev {G : Gb} {W : WX} {σ : L2.St} {L L1 : Lv} {H H1 : Hp} {st' : Store} {Q : List V → Hp → Prop} {r : Rs (List D)} (e : Ev L H L1 H1) (h : APost G W σ L H st' Q r) : APost G W σ L1 H1 st' Q r := by
  cases r with
  | ok d => exact fun v L' H' e1 => h v L' H' (e.trans e1)
  | err x => exact ErrP.ev e h
theorem TPost.ev {G : Gb} {W : WX} {σ : L2.St} {L L1 : Lv} {H H1 : Hp} {st' : Store} {Q : Bool → Hp → Prop} {r : Rs Bool} (e : Ev L H L1 H1) (h : TPost G W σ L H st' Q r) : TPost G W σ L1 H1 st' Q r := by
  cases r with
  | ok d => exact fun L' H' e1 => h L' H' (e.trans e1)
  | err x => exact ErrP.ev e h
theorem SPost.ev {G : Gb} {W : WX} {L L1 : Lv} {H H1 : Hp} {env' : En} {st' : Store} {Dn : Ends} {fl : Fl} (e : Ev L H L1 H1) (h : SPost G W L H env' st' Dn fl) : SPost G W L1 H1 env' st' Dn fl := by
  cases fl with
  | next => exact fun σ' L' H' e1 => h σ' L' H' (e.trans e1)
  | brk => exact fun σ' L' H' e1 => h σ' L' H' (e.trans e1)
  | cont => exact fun σ' L' H' e1 => h σ' L' H' (e.trans e1)
  | ret d => exact fun v L' H' e1 => h v L' H' (e.trans e1)
  | err x => exact fun cls dd σ' L' H' e1 => h cls dd σ' L' H' (e.trans e1)

/-! ### judgements -/
theorem PEimp {X : Cx} {e : Expr} {t u : TE} (h : PE X e t) (k : ∀ σ H Q, u σ H Q → t σ H Q) : PE X e u := ⟨fun pins s σ H Q I q => h.run pins s σ H Q I (k _ _ _ q)⟩
theorem PTimp {X : Cx} {e : Expr} {t u : TT} (h : PT X e t) (k : ∀ σ H Q, u σ H Q → t σ H Q) : PT X e u := ⟨fun pins s σ H Q I q => h.run pins s σ H Q I (k _ _ _ q)⟩
theorem PWimp {X : Cx} {e : Expr} {t u : TT} (h : PW X e t) (k : ∀ σ H Q, u σ H Q → t σ H Q) : PW X e u := ⟨fun wh pins s σ H Q I q => h.run wh pins s σ H Q I (k _ _ _ q)⟩
theorem PAimp {X : Cx} {e : List Expr} {t u : TA} (h : PA X e t) (k : ∀ σ H Q, u σ H Q → t σ H Q) : PA X e u := ⟨fun pos pins s σ H Q I q => h.run pos pins s σ H Q I (k _ _ _ q)⟩
theorem PSimp {X : Cx} {e : Stmt} {t u : TS} (h : PS X e t) (k : ∀ D σ H, u D σ H → t D σ H) : PS X e u := ⟨fun pins s σ H D I q => h.run pins s σ H D I (k _ _ _ q)⟩
theorem PSsimp {X : Cx} {e : List Stmt} {t u : TS} (h : PSs X e t) (k : ∀ D σ H, u D σ H → t D σ H) : PSs X e u := ⟨fun pins s σ H D I q => h.run pins s σ H D I (k _ _ _ q)⟩
end M


/-! The M layer: expressions, tests, statements, defs. -/
namespace M
open PySem PySem.Spec PyProof.Rows L2

/-! ### taking a bind apart -/
theorem bnd_cases {α β : Type} {m : Option (Rs α × Store)} {k : α → Store → Option (Rs β × Store)} {r : Rs β} {st' : Store} (h : bnd m k = some (r, st')) :
    (∃ a st1, m = some (.ok a, st1) ∧ k a st1 = some (r, st')) ∨ ∃ x, m = some (.err x, st') ∧ r = .err x := by
  cases m with
  | none => cases h
  | some p =>
    obtain ⟨q, st1⟩ := p
    cases q with
    | ok a => exact .inl ⟨a, st1, rfl, h⟩
    | err x =>
      have h' : some (Rs.err x, st1) = some (r, st') := h
      cases h'
      exact .inr ⟨x, rfl, rfl⟩
section
variable {G : Gm} {W : WX} {σ : L2.St} {L : Lv} {H : Hp} {st : Store} {env : En}
/-- an expression is read, then something is done with its value -/
theorem tM_bnd {β : Type} {ma : ME} {k : D → Store → Option (Rs β × Store)} {r : Rs β} {st' : Store} {Q : VK} (a : At G L st σ env H) (h : bnd (ma env st) k = some (r, st'))
    (err : ∀ x, r = .err x → ErrP G L H st' x fun cls dd H' => W cls dd σ H')
    (ok : ∀ d st1 v L1 H1, k d st1 = some (r, st') → Ev L H L1 H1 → At G L1 st1 σ env H1 → Va G L1 (off L1 H1) v d → Q v H1) : tM G W ma σ H Q := by
  rcases bnd_cases h with ⟨d, st1, h1, h2⟩ | ⟨x, h1, rfl⟩
  · exact ⟨L, st, env, _, _, a, h1, fun v L1 H1 e r1 dv => ok d st1 v L1 H1 h2 e (a.ev e r1) dv⟩
  · exact ⟨L, st, env, _, _, a, h1, err x rfl⟩
theorem tMA_bnd {β : Type} {ma : MA} {k : List D → Store → Option (Rs β × Store)} {r : Rs β} {st' : Store} {Q : List V → Hp → Prop} (a : At G L st σ env H) (h : bnd (ma env st) k = some (r, st'))
    (err : ∀ x, r = .err x → ErrP G L H st' x fun cls dd H' => W cls dd σ H')
    (ok : ∀ d st1 v L1 H1, k d st1 = some (r, st') → Ev L H L1 H1 → At G L1 st1 σ env H1 → Vas G L1 (off L1 H1) v d → Q v H1) : tMA G W ma σ H Q := by
  rcases bnd_cases h with ⟨d, st1, h1, h2⟩ | ⟨x, h1, rfl⟩
  · exact ⟨L, st, env, _, _, a, h1, fun v L1 H1 e r1 dv => ok d st1 v L1 H1 h2 e (a.ev e r1) dv⟩
  · exact ⟨L, st, env, _, _, a, h1, err x rfl⟩
theorem tMT_bnd {β : Type} {ma : MT} {k : Bool → Store → Option (Rs β × Store)} {r : Rs β} {st' : Store} {Q : Bool → Hp → Prop} (a : At G L st σ env H) (h : bnd (ma env st) k = some (r, st'))
    (err : ∀ x, r = .err x → ErrP G L H st' x fun cls dd H' => W cls dd σ H')
    (ok : ∀ d st1 L1 H1, k d st1 = some (r, st') → Ev L H L1 H1 → At G L1 st1 σ env H1 → Q d H1) : tMT G W ma σ H Q := by
  rcases bnd_cases h with ⟨d, st1, h1, h2⟩ | ⟨x, h1, rfl⟩
  · exact ⟨L, st, env, _, _, a, h1, fun L1 H1 e r1 => ok d st1 L1 H1 h2 e (a.ev e r1)⟩
  · exact ⟨L, st, env, _, _, a, h1, err x rfl⟩
theorem RPost.err {st' : Store} {Q : VK} {r : Rs D} (p : RPost G W σ L H st' Q r) : ∀ x, r = .err x → ErrP G L H st' x fun cls dd H' => W cls dd σ H' := by
  rintro x rfl
  exact p
theorem APost.err {st' : Store} {Q : List V → Hp → Prop} {r : Rs (List D)} (p : APost G W σ L H st' Q r) : ∀ x, r = .err x → ErrP G L H st' x fun cls dd H' => W cls dd σ H' := by
  rintro x rfl
  exact p
theorem TPost.err {st' : Store} {Q : Bool → Hp → Prop} {r : Rs Bool} (p : TPost G W σ L H st' Q r) : ∀ x, r = .err x → ErrP G L H st' x fun cls dd H' => W cls dd σ H' := by
  rintro x rfl
  exact p
end

/-! ### expressions -/
def mVar (i : Nat) : ME := fun env st => match env[i]? with
  | some (some d) => some (.ok d, st)
  | _ => none
def mC (d : D) : ME := fun _ st => some (.ok d, st)
/-- by values, reading the store -/
def mOp (g : Store → D → D → Option D) (ma mb : ME) : ME := fun env st => bnd (ma env st) fun x st => bnd (mb env st) fun y st => match g st x y with
  | some z => some (.ok z, st)
  | none => none
def mUn (g : Store → D → Option D) (ma : ME) : ME := fun env st => bnd (ma env st) fun x st => match g st x with
  | some z => some (.ok z, st)
  | none => none
def mNil : MA := fun _ st => some (.ok [], st)
def mCons (m : ME) (ms : MA) : MA := fun env st => bnd (m env st) fun d st => bnd (ms env st) fun ds st => some (.ok (d :: ds), st)
/-- a call by values -/
def mCB (g : Store → List D → Option D) (ma : MA) : ME := fun env st => bnd (ma env st) fun xs st => match g st xs with
  | some z => some (.ok z, st)
  | none => none
/-- .. that changes the store -/
def mCBS (g : Store → List D → Option (D × Store)) (ma : MA) : ME := fun env st => bnd (ma env st) fun xs st => match g st xs with
  | some (z, st) => some (.ok z, st)
  | none => none
def R2M (G : Gb) (r : R2) (g : Store → D → D → Option D) : Prop := ∀ (L : Lv) (st : Store) (H : Hp) (x y : V) (d e z : D) (Q : VK), Rep G L st H → Va G L (off L H) x d → Va G L (off L H) y e → g st d e = some z →
  (∀ v L' H', Ev L H L' H' → Rep G L' st H' → Va G L' (off L' H') v z → Q v H') → r x y H Q
def R1M (G : Gb) (r : V → Hp → VK → Prop) (g : Store → D → Option D) : Prop := ∀ (L : Lv) (st : Store) (H : Hp) (x : V) (d z : D) (Q : VK), Rep G L st H → Va G L (off L H) x d → g st d = some z →
  (∀ v L' H', Ev L H L' H' → Rep G L' st H' → Va G L' (off L' H') v z → Q v H') → r x H Q
def RCM (G : Gb) (r : List V → Hp → VK → Prop) (g : Store → List D → Option D) : Prop := ∀ (L : Lv) (st : Store) (H : Hp) (xs : List V) (ds : List D) (z : D) (Q : VK), Rep G L st H → Vas G L (off L H) xs ds → g st ds = some z →
  (∀ v L' H', Ev L H L' H' → Rep G L' st H' → Va G L' (off L' H') v z → Q v H') → r xs H Q
section
variable {G : Gm} {W : WX} {X : Cx} {a b c e : Expr} {es : List Expr} {ta tb tc te : TE} {t u : TT} {tas : TA} {ma mb mc : ME} {mas : MA} {mt mu : MT} {pos : Pos} {r r' : R2} {g g' : Store → D → D → Option D} {σ : L2.St} {H : Hp} {Q : VK}
theorem t_op (hr : R2M G r g) (h : tM G W (mOp g ma mb) σ H Q) : tOp r (tM G W ma) (tM G W mb) σ H Q := by
  obtain ⟨L, st, env, q, st', at_, hm, hp⟩ := h
  refine tM_bnd at_ hm hp.err fun d st1 v L1 H1 h1 e1 a1 dv => ?_
  refine tM_bnd a1 h1 (hp.ev e1).err fun d2 st2 v2 L2' H2 h2 e2 a2 dv2 => ?_
  cases hz : g st2 d d2 with
  | none => rw [hz] at h2; cases h2
  | some z =>
    rw [hz] at h2
    cases h2
    exact hr L2' _ H2 v v2 d d2 z Q a2.r (e2.va dv) dv2 hz fun v3 L3 H3 e3 => hp v3 L3 H3 ((e1.trans e2).trans e3)
theorem t_un {r1 : V → Hp → VK → Prop} {g1 : Store → D → Option D} (hr : R1M G r1 g1) (h : tM G W (mUn g1 ma) σ H Q) : tUn r1 (tM G W ma) σ H Q := by
  obtain ⟨L, st, env, q, st', at_, hm, hp⟩ := h
  refine tM_bnd at_ hm hp.err fun d st1 v L1 H1 h1 e1 a1 dv => ?_
  cases hz : g1 st1 d with
  | none => rw [hz] at h1; cases h1
  | some z =>
    rw [hz] at h1
    cases h1
    exact hr L1 _ H1 v d z Q a1.r dv hz fun v3 L3 H3 e3 => hp v3 L3 H3 (e1.trans e3)
theorem m_var {i : Nat} (h : PE X e (tVar i)) : PE X e (tM G W (mVar i)) := PEimp h fun σ H Q q => by
  obtain ⟨L, st, env, r, st', at_, hm, hp⟩ := q
  unfold mVar at hm
  split at hm
  · rename_i d hd
    cases hm
    obtain ⟨v, hv, dv⟩ := at_.e.at_ i d hd
    exact ⟨v, hv, hp v L H (Ev.refl L H) at_.r dv⟩
  · cases hm
theorem m_c {v : V} {d : D} (h : PE X e (tC v)) (hd : ∀ H, Da G H v d) : PE X e (tM G W (mC d)) := PEimp h fun σ H Q q => by
  obtain ⟨L, st, env, r, st', at_, hm, hp⟩ := q
  cases hm
  exact hp v L H (Ev.refl L H) at_.r (.d (hd _))
theorem m_op {op : Operator} (ho : OpR X (binaryOp op) r) (hr : R2M G r g) (ha : PE X a (tM G W ma)) (hb : PE X b (tM G W mb)) : PE X (.BinOp a op b pos) (tM G W (mOp g ma mb)) :=
  PEimp (pe_op ho ha hb) fun _ _ _ => t_op hr
theorem m_un {op : UnaryOp} {r1 : V → Hp → VK → Prop} {g1 : Store → D → Option D} (ho : UnR X (unaryOp op) r1) (hr : R1M G r1 g1) (ha : PE X a (tM G W ma)) : PE X (.UnaryOp op a pos) (tM G W (mUn g1 ma)) :=
  PEimp (pe_un ho ha) fun _ _ _ => t_un hr
theorem m_cmp {op : CmpOp} (ho : OpR X (compareOp op) r) (hr : R2M G r g) (ha : PE X a (tM G W ma)) (hb : PE X b (tM G W mb)) (hm : behindInMarks op b = false) : PE X (.Compare a [op] [b] pos) (tM G W (mOp g ma mb)) :=
  PEimp (pe_cmpR ho ha hb hm) fun _ _ _ => t_op hr
theorem m_ix {g : Store → D → D → Option D} (hr : IxR X r) (hm : R2M G r g) (ha : PE X a (tM G W ma)) (hb : PE X b (tM G W mb)) (hs : PlainIx b) : PE X (.Subscript a b pos) (tM G W (mOp g ma mb)) :=
  PEimp (pe_ix hr ha hb hs) fun _ _ _ => t_op hm
/-! tests -/
def mVal (m : ME) : MT := fun env st => bnd (m env st) fun d st => match d with
  | .bl k => some (.ok k, st)
  | _ => none
theorem Va.bl_inv {G : Gb} {L : Lv} {v : V} {k : Bool} (h : Va G L H v (.bl k)) : v = .bl k := by
  cases h with
  | d h => cases h; rfl
theorem t_val {Q : Bool → Hp → Prop} (h : tMT G W (mVal ma) σ H Q) : (tM G W ma) σ H fun x H1 => ∃ k, x = .bl k ∧ Q k H1 := by
  obtain ⟨L, st, env, q, st', at_, hm, hp⟩ := h
  refine tM_bnd at_ hm hp.err fun d st1 v L1 H1 h1 e1 a1 dv => ?_
  split at h1
  · cases h1
    exact ⟨_, Va.bl_inv dv, hp L1 H1 e1 a1.r⟩
  · cases h1
theorem m_val (h : PE X e (tM G W ma)) (he : ∀ whole, isTrue e X.env whole = (do let v ← whole; standAt e.pos; holding [v] (truthy v)) := by intro _; rfl) : PT X e (tMT G W (mVal ma)) :=
  PTimp (pt_val h he) fun _ _ _ => t_val
theorem m_tcmp {op : CmpOp} (ho : OpR X (compareOp op) r) (hr : R2M G r g) (ha : PE X a (tM G W ma)) (hb : PE X b (tM G W mb)) (hm : behindInMarks op b = false) : PT X (.Compare a [op] [b] pos) (tMT G W (mVal (mOp g ma mb))) :=
  PTimp (pt_cmpR ho ha hb hm) fun σ H Q q => by
    have q2 := t_val q
    exact t_op hr q2
/-- a op b op' c -/
def mChain (g g' : Store → D → D → Option D) (ma mb mc : ME) : ME := fun env st => bnd (ma env st) fun x st => bnd (mb env st) fun y st => match g st x y with
  | some (.bl true) => bnd (mc env st) fun z st => (match g' st y z with
    | some u => some (.ok u, st)
    | none => none)
  | some (.bl false) => some (.ok (.bl false), st)
  | _ => none
/-! and, or, not, if -/
def mAnd (mt mu : MT) : MT := fun env st => bnd (mt env st) fun k st => if k = true then mu env st else some (.ok false, st)
def mOr (mt mu : MT) : MT := fun env st => bnd (mt env st) fun k st => if k = true then some (.ok true, st) else mu env st
def mNot (mt : MT) : MT := fun env st => bnd (mt env st) fun k st => some (.ok (!k), st)
theorem m_or {rest : List Expr} (ha : PT X a (tMT G W mt)) (hb : PW X (.BoolOp .Or (b :: rest) pos) (tMT G W mu)) : PW X (.BoolOp .Or (a :: b :: rest) pos) (tMT G W (mOr mt mu)) :=
  PWimp (pw_or ha hb) fun σ H Q q => by
    obtain ⟨L, st, env, q, st', at_, hm, hp⟩ := q
    refine tMT_bnd at_ hm hp.err fun d st1 L1 H1 h1 e1 a1 => ?_
    cases d with
    | false => exact ⟨L1, st1, env, _, _, a1, h1, hp.ev e1⟩
    | true =>
      cases h1
      exact hp L1 H1 e1 a1.r
def mAndV (ma mb : ME) : ME := fun env st => bnd (ma env st) fun d st => match d with
  | .bl true => mb env st
  | .bl false => some (.ok (.bl false), st)
  | _ => none
def mOrV (ma mb : ME) : ME := fun env st => bnd (ma env st) fun d st => match d with
  | .bl false => mb env st
  | .bl true => some (.ok (.bl true), st)
  | _ => none
def mNotV (ma : ME) : ME := fun env st => bnd (ma env st) fun d st => match d with
  | .bl k => some (.ok (.bl (!k)), st)
  | _ => none
def mIf (mt : MT) (ma mb : ME) : ME := fun env st => bnd (mt env st) fun k st => if k = true then ma env st else mb env st
theorem m_ifExp (hc : PT X c (tMT G W mt)) (ha : PE X a (tM G W ma)) (hb : PE X b (tM G W mb)) : PE X (.IfExp c a b pos) (tM G W (mIf mt ma mb)) :=
  PEimp (pe_ifExp hc ha hb) fun σ H Q q => by
    obtain ⟨L, st, env, q, st', at_, hm, hp⟩ := q
    refine tMT_bnd at_ hm hp.err fun d st1 L1 H1 h1 e1 a1 => ?_
    cases d with
    | true => exact ⟨L1, st1, env, _, _, a1, h1, hp.ev e1⟩
    | false => exact ⟨L1, st1, env, _, _, a1, h1, hp.ev e1⟩
/-! arguments -/
theorem m_nil : PA X [] (tMA G W mNil) := PAimp pa_nil fun σ H Q q => by
  obtain ⟨L, st, env, q, st', at_, hm, hp⟩ := q
  cases hm
  exact hp [] L H (Ev.refl L H) at_.r .nil
theorem t_cons {Q : List V → Hp → Prop} (h : tMA G W (mCons ma mas) σ H Q) : tCons (tM G W ma) (tMA G W mas) σ H Q := by
  obtain ⟨L, st, env, q, st', at_, hm, hp⟩ := h
  refine tM_bnd at_ hm hp.err fun d st1 v L1 H1 h1 e1 a1 dv => ?_
  refine tMA_bnd a1 h1 (hp.ev e1).err fun ds st2 vs L2' H2 h2 e2 a2 dvs => ?_
  cases h2
  exact hp _ L2' H2 (e1.trans e2) a2.r (.cons (e2.va dv) dvs)
theorem m_cons (ha : PE X e (tM G W ma)) (hr : PA X es (tMA G W mas)) (hs : starEach (e :: es) X.env = (false, eval e X.env) :: starEach es X.env := by rfl) : PA X (e :: es) (tMA G W (mCons ma mas)) :=
  PAimp (pa_cons ha hr hs) fun _ _ _ => t_cons
theorem t_cb {rc : List V → Hp → VK → Prop} {gc : Store → List D → Option D} (hr : RCM G rc gc) (h : tM G W (mCB gc mas) σ H Q) : (tMA G W mas) σ H fun vs H1 => rc vs H1 Q := by
  obtain ⟨L, st, env, q, st', at_, hm, hp⟩ := h
  refine tMA_bnd at_ hm hp.err fun ds st1 vs L1 H1 h1 e1 a1 dv => ?_
  cases hz : gc st1 ds with
  | none => rw [hz] at h1; cases h1
  | some z =>
    rw [hz] at h1
    cases h1
    exact hr L1 _ H1 vs ds z Q a1.r dv hz fun v3 L3 H3 e3 => hp v3 L3 H3 (e1.trans e3)
section
variable {x : Str} {id : String} {p : Pos} {rc : List V → Hp → VK → Prop} {gc : Store → List D → Option D}
theorem m_callB (hc : CallR X (.builtin id) rc) (hr : RCM G rc gc) (hg : Gl X x) (hm : X.mg x = none) (hv : bootBuiltins x = some (.builtin id)) (ha : PA X (e :: es) (tMA G W mas)) (hn : x ≠ "__name__" := by decide) (hdb : (x == ("__debug__" : Str)) = false := by decide)
    (he : starEach (e :: es) X.env = (false, eval e X.env) :: starEach es X.env := by rfl) (hpl : (backTo pos (starEach es X.env)).any (·.1) = false := by rfl) : PE X (.Call (.Name x p) (e :: es) [] pos) (tM G W (mCB gc mas)) :=
  PEimp (pe_callB hc hg hm hv ha (hn := hn) (hdb := hdb) (he := he) (hpl := hpl)) fun _ _ _ => t_cb hr
theorem m_callTy (hc : CallR X (.type id) rc) (hr : RCM G rc gc) (hg : Gl X x) (hm : X.mg x = none) (hv : bootBuiltins x = some (.type id)) (ha : PA X (e :: es) (tMA G W mas)) (hn : x ≠ "__name__" := by decide) (hdb : (x == ("__debug__" : Str)) = false := by decide)
    (he : starEach (e :: es) X.env = (false, eval e X.env) :: starEach es X.env := by rfl) (hpl : (backTo pos (starEach es X.env)).any (·.1) = false := by rfl) : PE X (.Call (.Name x p) (e :: es) [] pos) (tM G W (mCB gc mas)) :=
  PEimp (pe_callTy hc hg hm hv ha (hn := hn) (hdb := hdb) (he := he) (hpl := hpl)) fun _ _ _ => t_cb hr
end
end
end M


/-! The M layer: statements, targets, loops, comprehensions, defs and calls. -/
namespace M
open PySem PySem.Spec PyProof.Rows L2

def bndS {α : Type} (m : Option (Rs α × Store)) (env : En) (k : α → Store → Option (Fl × En × Store)) : Option (Fl × En × Store) :=
  match m with
  | some (.ok a, st) => k a st
  | some (.err x, st) => some (.err x, env, st)
  | none => none
@[simp] theorem bndS_ok {α : Type} {a : α} {st : Store} {env : En} {k : α → Store → Option (Fl × En × Store)} : bndS (some (.ok a, st)) env k = k a st := M.nr rfl
@[simp] theorem bndS_err {α : Type} {x : Xn} {st : Store} {env : En} {k : α → Store → Option (Fl × En × Store)} : bndS (some (.err x, st)) env k = some (.err x, env, st) := M.nr rfl
@[simp] theorem bndS_none {α : Type} {env : En} {k : α → Store → Option (Fl × En × Store)} : bndS none env k = none := M.nr rfl
theorem bndS_cases {α : Type} {m : Option (Rs α × Store)} {env : En} {k : α → Store → Option (Fl × En × Store)} {fl : Fl} {env' : En} {st' : Store} (h : bndS m env k = some (fl, env', st')) :
    (∃ a st1, m = some (.ok a, st1) ∧ k a st1 = some (fl, env', st')) ∨ ∃ x, m = some (.err x, st') ∧ fl = .err x ∧ env' = env := by
  cases m with
  | none => cases h
  | some p =>
    obtain ⟨q, st1⟩ := p
    cases q with
    | ok a => exact .inl ⟨a, st1, rfl, h⟩
    | err x =>
      have h' : some (Fl.err x, env, st1) = some (fl, env', st') := h
      cases h'
      exact .inr ⟨x, rfl, rfl, rfl⟩
section
variable {G : Gm} {W : WX} {σ : L2.St} {L : Lv} {H : Hp} {st : Store} {env : En}
theorem SPost.err {env' : En} {st' : Store} {Dn : Ends} {fl : Fl} (a : At G L st σ env H) (p : SPost G W L H env' st' Dn fl) : ∀ x, fl = .err x → env' = env → ErrP G L H st' x fun cls dd H' => W cls dd σ H' := by
  rintro x rfl rfl
  exact fun cls dd L' H' e r z => p cls dd σ L' H' e r (a.e.ev e) z
theorem tM_bndS {ma : ME} {k : D → Store → Option (Fl × En × Store)} {fl : Fl} {env' : En} {st' : Store} {Q : VK} (a : At G L st σ env H) (h : bndS (ma env st) env k = some (fl, env', st'))
    (err : ∀ x, fl = .err x → env' = env → ErrP G L H st' x fun cls dd H' => W cls dd σ H')
    (ok : ∀ d st1 v L1 H1, k d st1 = some (fl, env', st') → Ev L H L1 H1 → At G L1 st1 σ env H1 → Va G L1 (off L1 H1) v d → Q v H1) : tM G W ma σ H Q := by
  rcases bndS_cases h with ⟨d, st1, h1, h2⟩ | ⟨x, h1, rfl, rfl⟩
  · exact ⟨L, st, env, _, _, a, h1, fun v L1 H1 e r1 dv => ok d st1 v L1 H1 h2 e (a.ev e r1) dv⟩
  · exact ⟨L, st, env', _, _, a, h1, err x rfl rfl⟩
theorem tMT_bndS {ma : MT} {k : Bool → Store → Option (Fl × En × Store)} {fl : Fl} {env' : En} {st' : Store} {Q : Bool → Hp → Prop} (a : At G L st σ env H) (h : bndS (ma env st) env k = some (fl, env', st'))
    (err : ∀ x, fl = .err x → env' = env → ErrP G L H st' x fun cls dd H' => W cls dd σ H')
    (ok : ∀ d st1 L1 H1, k d st1 = some (fl, env', st') → Ev L H L1 H1 → At G L1 st1 σ env H1 → Q d H1) : tMT G W ma σ H Q := by
  rcases bndS_cases h with ⟨d, st1, h1, h2⟩ | ⟨x, h1, rfl, rfl⟩
  · exact ⟨L, st, env, _, _, a, h1, fun L1 H1 e r1 => ok d st1 L1 H1 h2 e (a.ev e r1)⟩
  · exact ⟨L, st, env', _, _, a, h1, err x rfl rfl⟩
end

/-! ### blocks -/
def mNext : MS := fun env st => some (.next, env, st)
def mSeq (m k : MS) : MS := fun env st => match m env st with
  | some (.next, env', st') => k env' st'
  | r => r
def mDrop (m : ME) : MS := fun env st => bndS (m env st) env fun _ st => some (.next, env, st)
def mRet (m : ME) : MS := fun env st => bndS (m env st) env fun d st => some (.ret d, env, st)
def mIfS (mt : MT) (a b : MS) : MS := fun env st => bndS (mt env st) env fun k st => if k = true then a env st else b env st
def mNever : MS := fun _ _ => none
section
variable {G : Gm} {W : WX} {X : Cx} {s : Stmt} {ss : List Stmt} {e c : Expr} {m k : MS} {ma : ME} {mt : MT} {pos : Pos}
theorem ms_nil : PSs X [] (tMS G W mNext) := PSsimp pss_nil fun D σ H q => by
  obtain ⟨L, st, env, fl, env', st', at_, hm, hp⟩ := q
  cases hm
  exact hp σ L H (Ev.refl L H) at_.r at_.e
theorem t_seq {D : Ends} {σ : L2.St} {H : Hp} (hF : Flat G) (h : tMS G W (mSeq m k) D σ H) : tSeq (tMS G W m) (tMS G W k) D σ H := by
  obtain ⟨L, st, env, fl, env', st', at_, hm, hp⟩ := h
  unfold mSeq at hm
  split at hm
  · rename_i env1 st1 h1
    exact ⟨L, st, env, _, _, _, at_, h1, fun σ1 L1 H1 e1 r1 en1 => ⟨L1, st1, env1, _, _, _, at_.to hF e1 r1 en1, hm, hp.ev e1⟩⟩
  · rename_i hne
    refine ⟨L, st, env, _, _, _, at_, hm, ?_⟩
    cases fl with
    | next => exact (hne env' st' hm).elim
    | brk => exact hp
    | cont => exact hp
    | ret d => exact hp
    | err x => exact hp
theorem ms_cons (h1 : PS X s (tMS G W m)) (h2 : PSs X ss (tMS G W k)) (hF : Flat G := by exact fun _ _ _ h => h) : PSs X (s :: ss) (tMS G W (mSeq m k)) := PSsimp (pss_cons h1 h2) fun _ _ _ => t_seq hF
theorem ms_one (h1 : PS X s (tMS G W m)) : PSs X [s] (tMS G W m) := pss_one h1
theorem ms_ret (he : PE X e (tM G W ma)) : PS X (.Return (some e) pos) (tMS G W (mRet ma)) := PSimp (ps_ret he) fun D σ H q => by
  obtain ⟨L, st, env, fl, env', st', at_, hm, hp⟩ := q
  refine tM_bndS at_ hm (hp.err at_) fun d st1 v L1 H1 h1 e1 a1 dv => ?_
  cases h1
  exact hp v L1 H1 e1 a1.r dv
theorem ms_if {a b : List Stmt} (hc : PT X c (tMT G W mt)) (ha : PSs X a (tMS G W m)) (hb : PSs X b (tMS G W k)) : PS X (.If c a b pos) (tMS G W (mIfS mt m k)) := PSimp (ps_if hc ha hb) fun D σ H q => by
  obtain ⟨L, st, env, fl, env', st', at_, hm, hp⟩ := q
  refine tMT_bndS at_ hm (hp.err at_) fun d st1 L1 H1 h1 e1 a1 => ?_
  cases d with
  | true => exact ⟨L1, st1, env, _, _, _, a1, h1, hp.ev e1⟩
  | false => exact ⟨L1, st1, env, _, _, _, a1, h1, hp.ev e1⟩
end

/-! ### targets -/
/-- a name's slot, a tuple of names' slots -/
inductive Tg where
  | nm (i : Nat) | tp (is : List Nat)
def setL : List Nat → List D → En → Option En
  | [], [], env => some env
  | i :: is, d :: ds, env => setL is ds (env.set i (some d))
  | _, _, _ => none
def setT : Tg → D → En → Option En
  | .nm i, d, env => some (env.set i (some d))
  | .tp is, .tup ds, env => setL is ds env
  | _, _, _ => none
def Tg.slots : Tg → List Nat
  | .nm i => [i]
  | .tp is => is
structure TgOk (G : Gm) (g : TG) (t : Tg) : Prop where
  run : ∀ (L : Lv) (H : Hp) (st : Store) (v : V) (d : D) (σ : L2.St) (env env' : En) (Q : L2.St → Hp → Prop), At G L st σ env H → Va G L (off L H) v d → setT t d env = some env' →
    (∀ σ', At G L st σ' env' H → (∀ vs, (∀ i ∈ t.slots, i ∈ vs) → wipe σ' vs = wipe σ vs) → Q σ' H) → g v σ H Q
theorem wipe_set {i : Nat} {x : Option V} : ∀ {vs : List Nat} {σ : L2.St}, i ∈ vs → wipe (σ.set i x) vs = wipe σ vs
  | [], σ, h => by cases h
  | v :: vs, σ, h => by
    by_cases e : i ∈ vs
    · show (wipe (σ.set i x) vs).set v none = (wipe σ vs).set v none
      rw [wipe_set e]
    · have e2 : i = v := by
        rcases List.mem_cons.mp h with h | h
        · exact h
        · exact absurd h e
      subst e2
      show (wipe (σ.set i x) vs).set i none = (wipe σ vs).set i none
      have key : ∀ (us : List Nat) (τ : L2.St), (wipe (τ.set i x) us).set i none = (wipe τ us).set i none := by
        intro us
        induction us with
        | nil =>
          intro τ
          show (τ.set i x).set i none = τ.set i none
          rw [List.set_set]
        | cons u us ih =>
          intro τ
          show ((wipe (τ.set i x) us).set u none).set i none = ((wipe τ us).set u none).set i none
          by_cases q : u = i
          · rw [q, List.set_set, List.set_set]
            exact ih τ
          · rw [List.set_comm _ _ q, List.set_comm _ _ q, ih τ]
      exact key vs σ
theorem EnvR.set {G : Gb} {L : Lv} {H : Hp} {σ : L2.St} {env : En} (h : EnvR G L H σ env) (i : Nat) {v : V} {d : D} (hv : Va G L H v d) : EnvR G L H (σ.set i (some v)) (env.set i (some d)) :=
  ⟨by rw [List.length_set, List.length_set]; exact h.len, fun j x q => by
    by_cases e : i = j
    · subst e
      have hi : i < env.length := by
        have := (List.getElem?_eq_some_iff.mp q).1
        rw [List.length_set] at this
        exact this
      rw [List.getElem?_set_self hi] at q
      cases q
      exact ⟨v, List.getElem?_set_self (by rw [h.len]; exact hi), hv⟩
    · rw [List.getElem?_set_ne e] at q
      rw [List.getElem?_set_ne e]
      exact h.at_ j x q⟩
theorem tg_nm {G : Gm} {i : Nat} (hF : Flat G := by exact fun _ _ _ h => h) : TgOk G (gName i) (.nm i) := ⟨fun L H st v d σ env env' Q a dv hs k => by
  cases hs
  exact k _ ⟨a.e.set i dv, a.r, hF _ _ _ a.p⟩ fun vs hi => wipe_set (hi i (List.mem_singleton.mpr rfl))⟩
/-- the chain of names of a tuple target -/
def gNames : List Nat → TGs
  | [] => gNil
  | i :: is => gCons (gName i) (gNames is)
theorem gNames_run {G : Gm} {L : Lv} {H : Hp} {st : Store} {Q : L2.St → Hp → Prop} (hF : Flat G) : ∀ (is : List Nat) (ds : List D) (vs : List V) (σ : L2.St) (env env' : En), At G L st σ env H → Das G (off L H) vs ds → setL is ds env = some env' →
    (∀ σ', At G L st σ' env' H → (∀ us, (∀ i ∈ is, i ∈ us) → wipe σ' us = wipe σ us) → Q σ' H) → gNames is vs σ H Q
  | [], [], _, σ, env, env', a, h, hs, k => by
    cases h
    cases hs
    exact ⟨rfl, k σ a fun _ _ => rfl⟩
  | [], _ :: _, _, _, _, _, _, _, hs, _ => by cases hs
  | _ :: _, [], _, _, _, _, _, _, hs, _ => by cases hs
  | i :: is, d :: ds, _, σ, env, env', a, h, hs, k => by
    cases h with
    | @cons v vs _ _ h r =>
      refine ⟨v, vs, rfl, gNames_run hF is ds vs _ _ _ ⟨a.e.set i (.d h), a.r, hF _ _ _ a.p⟩ r hs fun σ' a' w => k σ' a' fun us hi => ?_⟩
      rw [w us fun j hj => hi j (List.mem_cons_of_mem _ hj), wipe_set (hi i List.mem_cons_self)]
theorem tg_tp {G : Gm} {K : PySem.W.Frag} {n : Nat} {is : List Nat} (hn : is.length = n := by rfl) (hF : Flat G := by exact fun _ _ _ h => h) : TgOk G (gTup K n (gNames is)) (.tp is) := ⟨fun L H st v d σ env env' Q a dv hs k => by
  cases d with
  | tup ds =>
    cases dv with
    | d dv =>
      cases dv with
      | @tup p vs _ h r =>
        have hl : ∀ (is : List Nat) (ds : List D) (env env' : En), setL is ds env = some env' → is.length = ds.length := by
          intro is
          induction is with
          | nil =>
            intro ds env env' h
            cases ds with
            | nil => rfl
            | cons _ _ => cases h
          | cons i is ih =>
            intro ds env env' h
            cases ds with
            | nil => cases h
            | cons d ds => simp [ih ds _ _ h]
        refine ⟨p, vs, rfl, .inl (.inl (off_some h).1), ?_, gNames_run hF is ds vs σ env env' a r hs k⟩
        rw [r.length, ← hl is ds _ _ hs, hn]
  | _ => cases hs⟩

def mAsg (m : ME) (t : Tg) : MS := fun env st => bndS (m env st) env fun d st => match setT t d env with
  | some env' => some (.next, env', st)
  | none => none
section
variable {G : Gm} {W : WX} {X : Cx} {e tg : Expr} {ma : ME} {mas : MA} {pos : Pos} {g : TG} {t : Tg}
theorem t_asg (ht : TgOk G g t) {D : Ends} {σ : L2.St} {H : Hp} (q : tMS G W (mAsg ma t) D σ H) : tAsg (tM G W ma) g D σ H := by
  obtain ⟨L, st, env, fl, env', st', at_, hm, hp⟩ := q
  refine tM_bndS at_ hm (hp.err at_) fun d st1 v L1 H1 h1 e1 a1 dv => ?_
  cases hz : setT t d env with
  | none => rw [hz] at h1; cases h1
  | some env2 =>
    rw [hz] at h1
    cases h1
    exact ht.run L1 H1 st' v d σ env env' _ a1 dv hz fun σ' a' _ => hp σ' L1 H1 e1 a'.r a'.e
theorem ms_set {i : Nat} {x : Str} {pos' : Pos} (hN : X.N.Nodup) (hi : X.N[i]? = some x) (hx : Loc X.env.scope x) (he : PE X e (tM G W ma)) (hs : swapsWith e (some (.Name x pos')) pos.line X.env = pure false := by rfl) (hf : X.fn x = true ∨ X.env.scope.names.lookup x = some .local := by first | exact .inl rfl | exact .inr rfl | assumption) (hF : Flat G := by exact fun _ _ _ h => h) :
    PS X (.Assign [.Name x pos'] e pos) (tMS G W (mAsg ma (.nm i))) := PSimp (ps_set hN hi hx he hs hf) fun _ _ _ => t_asg (tg_nm hF)
/-- a, b = x, y -/
def mPar (i j : Nat) (ma : MA) : MS := fun env st => bndS (ma env st) env fun ds st => match ds with
  | [d, e] => some (.next, (env.set i (some d)).set j (some e), st)
  | _ => none
end
end M


/-! The M layer: trimming, walks, loops. -/
namespace M
open PySem PySem.Spec PyProof.Rows L2

/-! ### trimming: cells made since are let go -/
def Lv.trim (L : Lv) (n : Nat) : Lv := ⟨L.c.take n, L.h⟩
def refOk (n : Nat) : D → Bool
  | .ref i => decide (i < n)
  | .pr i j => decide (i < n ∧ j < n)
  | _ => true
def cellOk (n : Nat) : Cell → Bool
  | .ins _ fs => fs.all fun p => refOk n p.2
  | .dS fs => fs.all fun p => refOk n p.2
  | .lv xs => xs.all (refOk n)
  | .dV kvs => kvs.all fun p => refOk n p.2
  | .dW kvs => kvs.all fun p => refOk n p.2
  | _ => true
def trimO (n : Nat) : Option D → Option D
  | some (.ref i) => if i < n then some (.ref i) else none
  | some (.pr i j) => if i < n ∧ j < n then some (.pr i j) else none
  | o => o
def trimE (n : Nat) (env : En) : En := env.map (trimO n)
section
variable {G : Gb} {L L0 : Lv} {H H0 : Hp} {st : Store} {n : Nat}
theorem trim_same : Same (off L H) (off (L.trim n) H) := fun a o h => by
  obtain ⟨h1, h2⟩ := off_some h
  refine off_of h1 fun z => h2 ?_
  rcases z with z | z
  · exact .inl (List.mem_of_mem_take z)
  · exact .inr z
theorem take_get {α : Type} {l : List α} {i : Nat} {x : α} (h : (l.take n)[i]? = some x) : i < n ∧ l[i]? = some x := by
  have q := (List.getElem?_eq_some_iff.mp h).1
  rw [List.length_take] at q
  have hi : i < n := Nat.lt_of_lt_of_le q (Nat.min_le_left _ _)
  rw [List.getElem?_take, if_pos hi] at h
  exact ⟨hi, h⟩
theorem Va.trim (hn : n ≤ L.c.length) {v : V} {d : D} (h : Va G L (off L H) v d) (k : refOk n d = true) : Va G (L.trim n) (off (L.trim n) H) v d := by
  cases h with
  | d h => exact .d (Da.mono (Rl.of_same trim_same) d v h)
  | @ref a i hi h =>
    have hi2 : i < n := of_decide_eq_true k
    refine .ref ?_ fun b q => h b (take_get q).2
    show i < (L.c.take n).length
    rw [List.length_take]
    exact Nat.lt_min.mpr ⟨hi2, hi⟩
  | @pr p a b i j h hi hj ha hb =>
    have k2 : i < n ∧ j < n := of_decide_eq_true k
    refine .pr (trim_same _ _ h) ?_ ?_ (fun b q => ha b (take_get q).2) fun b q => hb b (take_get q).2
    · show i < (L.c.take n).length
      rw [List.length_take]
      exact Nat.lt_min.mpr ⟨k2.1, hi⟩
    · show j < (L.c.take n).length
      rw [List.length_take]
      exact Nat.lt_min.mpr ⟨k2.2, hj⟩
theorem VasF.trim (hn : n ≤ L.c.length) : ∀ {vs : List (Str × V)} {ds : List (Str × D)}, VasF G L (off L H) vs ds → (ds.all fun p => refOk n p.2) = true → VasF G (L.trim n) (off (L.trim n) H) vs ds
  | _, _, .nil, _ => .nil
  | _, _, .cons h r, k => by
    rw [List.all_cons, Bool.and_eq_true] at k
    exact .cons (h.trim hn k.1) (VasF.trim hn r k.2)
theorem Vas.trim (hn : n ≤ L.c.length) : ∀ {vs : List V} {ds : List D}, Vas G L (off L H) vs ds → ds.all (refOk n) = true → Vas G (L.trim n) (off (L.trim n) H) vs ds
  | _, _, .nil, _ => .nil
  | _, _, .cons h r, k => by
    rw [List.all_cons, Bool.and_eq_true] at k
    exact .cons (h.trim hn k.1) (Vas.trim hn r k.2)
theorem VasT.trim (hn : n ≤ L.c.length) : ∀ {vs : List (List Key × V)} {ds : List (List Key × D)}, VasT G L (off L H) vs ds → (ds.all fun p => refOk n p.2) = true → VasT G (L.trim n) (off (L.trim n) H) vs ds
  | _, _, .nil, _ => .nil
  | _, _, .cons h r, k => by
    rw [List.all_cons, Bool.and_eq_true] at k
    exact .cons (h.trim hn k.1) (VasT.trim hn r k.2)
theorem VasK.trim (hn : n ≤ L.c.length) : ∀ {vs : List (Key × V)} {ds : List (Key × D)}, VasK G L (off L H) vs ds → (ds.all fun p => refOk n p.2) = true → VasK G (L.trim n) (off (L.trim n) H) vs ds
  | _, _, .nil, _ => .nil
  | _, _, .cons h r, k => by
    rw [List.all_cons, Bool.and_eq_true] at k
    exact .cons (h.trim hn k.1) (VasK.trim hn r k.2)
theorem Rep.trim (R : Rep G L st H) (hn : n ≤ L.c.length) (k : (st.take n).all (cellOk n) = true) : Rep G (L.trim n) (st.take n) H where
  len := by
    show (L.c.take n).length = (st.take n).length
    rw [List.length_take, List.length_take, R.len]
  inj := fun i j a h1 h2 => R.inj i j a (take_get h1).2 (take_get h2).2
  cell := fun i x c hx hc => by
    have hc2 := (take_get hc).2
    have q := R.cell i x c (take_get hx).2 hc2
    have ck : cellOk n c = true := List.all_eq_true.mp k c (List.mem_of_getElem? hc)
    cases x with
    | none => cases c <;> first | exact q | exact q.elim
    | some a =>
      cases c with
      | lst ds => obtain ⟨vs, q1, r⟩ := q; exact ⟨vs, q1, Das.mono (Rl.of_same trim_same) _ _ r⟩
      | dK ds => obtain ⟨vs, q1, r⟩ := q; exact ⟨vs, q1, DasK.mono (Rl.of_same trim_same) _ _ r⟩
      | dT ds => obtain ⟨vs, q1, r⟩ := q; exact ⟨vs, q1, DasT.mono (Rl.of_same trim_same) _ _ r⟩
      | ins c ds => obtain ⟨dx, vs, q1, r⟩ := q; exact ⟨dx, vs, q1, r.trim hn ck⟩
      | dS ds => obtain ⟨vs, q1, r⟩ := q; exact ⟨vs, q1, r.trim hn ck⟩
      | lv ds => obtain ⟨vs, q1, r⟩ := q; exact ⟨vs, q1, r.trim hn ck⟩
      | dV ds => obtain ⟨vs, q1, r⟩ := q; exact ⟨vs, q1, r.trim hn ck⟩
      | dW ds => obtain ⟨vs, q1, r⟩ := q; exact ⟨vs, q1, r.trim hn ck⟩
      | dN ds => obtain ⟨es, ep, vs, q1, t, r⟩ := q; exact ⟨es, ep, vs, q1, t.mono (Rl.of_same trim_same), DasN.mono (Rl.of_same trim_same) _ _ r⟩
      | dead => exact q.elim
  hid := fun a ha => ⟨(R.hid a ha).1, fun z => (R.hid a ha).2 (List.mem_of_mem_take z)⟩
  tabs := R.tabs
theorem Ev.trim (e : Ev L0 H0 L H) (hn : L0.c.length = n) : Ev L0 H0 (L.trim n) H where
  le := ⟨by
    show L0.c.length ≤ (L.c.take n).length
    rw [List.length_take, hn]
    have := e.le.len
    omega, fun i a hi h => e.le.at_ i a hi (take_get h).2⟩
  new := fun i a hi h => absurd (take_get h).1 (by omega)
  same := e.same.trans (Rl.of_same trim_same)
  there := e.there
  hh := e.hh
  keep := e.keep
theorem EnvR.trim {σ : L2.St} {env : En} (hn : n ≤ L.c.length) (h : EnvR G L (off L H) σ env) : EnvR G (L.trim n) (off (L.trim n) H) σ (trimE n env) :=
  ⟨by
    unfold trimE
    rw [List.length_map]
    exact h.len, fun i d q => by
    unfold trimE at q
    rw [List.getElem?_map] at q
    cases e : env[i]? with
    | none => rw [e] at q; cases q
    | some o =>
      rw [e] at q
      have q2 : trimO n o = some d := Option.some.inj q
      cases o with
      | none => cases q2
      | some x =>
        obtain ⟨v, h1, h2⟩ := h.at_ i x e
        cases x with
        | ref j =>
          unfold trimO at q2
          dsimp only at q2
          split at q2
          · rename_i hj
            cases q2
            exact ⟨v, h1, h2.trim hn (decide_eq_true hj)⟩
          · cases q2
        | pr i j =>
          unfold trimO at q2
          dsimp only at q2
          split at q2
          · rename_i hj
            cases q2
            exact ⟨v, h1, h2.trim hn (decide_eq_true hj)⟩
          · cases q2
        | non => cases q2; exact ⟨v, h1, h2.trim hn rfl⟩
        | bl _ => cases q2; exact ⟨v, h1, h2.trim hn rfl⟩
        | int _ => cases q2; exact ⟨v, h1, h2.trim hn rfl⟩
        | str _ => cases q2; exact ⟨v, h1, h2.trim hn rfl⟩
        | ty _ => cases q2; exact ⟨v, h1, h2.trim hn rfl⟩
        | lst _ => cases q2; exact ⟨v, h1, h2.trim hn rfl⟩
        | tup _ => cases q2; exact ⟨v, h1, h2.trim hn rfl⟩
        | dN _ => cases q2; exact ⟨v, h1, h2.trim hn rfl⟩
        | ro _ => cases q2; exact ⟨v, h1, h2.trim hn rfl⟩
        | dK _ => cases q2; exact ⟨v, h1, h2.trim hn rfl⟩
        | dT _ => cases q2; exact ⟨v, h1, h2.trim hn rfl⟩
        | obj _ _ => cases q2; exact ⟨v, h1, h2.trim hn rfl⟩
        | exc _ _ => cases q2; exact ⟨v, h1, h2.trim hn rfl⟩
        | ptr _ => cases q2; exact ⟨v, h1, h2.trim hn rfl⟩
        | cls _ => cases q2; exact ⟨v, h1, h2.trim hn rfl⟩⟩
end

/-! ### walks -/
structure WalkD (G : Gb) (J : It) (ds : List D) (L0 : Lv) (H0 : Hp) : Prop where
  go : ∀ i L H, Rl (off L0 H0) (off L H) → i < ds.length → J.go i H
  yld : ∀ (i : Nat) L H (st : Store) (d : D), Rl (off L0 H0) (off L H) → Rep G L st H → ds[i]? = some d → ∀ x H', J.yld i H x H' → Ev L H L H' ∧ Rep G L st H' ∧ Da G (off L H') x d
  stop : ∀ L H, Rl (off L0 H0) (off L H) → J.stop ds.length H
def tMI (G : Gm) (W : WX) (mi : MA) : TI := fun σ H R => ∃ L st env r st', At G L st σ env H ∧ mi env st = some (r, st') ∧ (match r with
  | .ok ds => ∀ J L1 H1, Ev L H L1 H1 → Rep G L1 st' H1 → WalkD G J ds L1 H1 → R J H1
  | .err x => ErrP G L H st' x fun cls dd H' => W cls dd σ H')
theorem PIimp {X : Cx} {tg it : Expr} {t u : TI} (h : PI X tg it t) (k : ∀ σ H Q, u σ H Q → t σ H Q) : PI X tg it u := ⟨fun pins s σ H R I q => h.run pins s σ H R I (k _ _ _ q)⟩
section
variable {G : Gb} {L : Lv} {H : Hp} {st : Store} {a : Addr} {vs : List V} {ds : List D}
theorem walk_list (h : SqL G.K (off L H) a vs) (r : Das G (off L H) vs ds) : WalkD G (Itl G.K a) ds L H := by
  have sq : ∀ L' H', Rl (off L H) (off L' H') → SqL G.K H' a vs := fun L' H' e => by
    rcases h with h | h
    · rcases h with h | ⟨o, h⟩
      · exact .inl (.inl (off_some (e.lst _ _ h)).1)
      · exact .inl (.inr ⟨o, (off_some (e.frz _ _ _ h)).1⟩)
    · exact .inr h
  refine ⟨fun i L' H' e hi => ?_, fun i L' H' st d e R hd x H2 y => ?_, fun L' H' e => ⟨vs, sq _ _ e, by rw [r.length]; exact Nat.le_refl _⟩⟩
  · have hv : i < vs.length := by rw [r.length]; exact hi
    exact ⟨vs, vs[i], sq _ _ e, List.getElem?_eq_getElem hv⟩
  · obtain ⟨rfl, y⟩ := y
    refine ⟨Ev.refl _ _, R, ?_⟩
    obtain ⟨v, hv, dv⟩ := r.getD hd
    have hx := y vs (sq _ _ e)
    rw [hv] at hx
    cases hx
    exact Da.mono e _ _ dv
def intsFrom (lo : Int) (n : Nat) : List D := (List.range n).map fun i => .int (lo + (i : Nat))
theorem walk_range {lo : Int} {n : Nat} : WalkD G (Itr lo n) (intsFrom lo n) L H := by
  refine ⟨fun i L' H' e hi => ?_, fun i L' H' st d e R hd x H2 y => ?_, fun L' H' e => ?_⟩
  · show i < n
    simpa [intsFrom] using hi
  · obtain ⟨rfl, rfl⟩ := y
    refine ⟨Ev.refl _ _, R, ?_⟩
    unfold intsFrom at hd
    rw [List.getElem?_map] at hd
    cases e2 : (List.range n)[i]? with
    | none => rw [e2] at hd; cases hd
    | some j =>
      rw [e2] at hd
      have hj : j = i := by
        have := List.getElem?_eq_some_iff.mp e2
        obtain ⟨h1, h2⟩ := this
        simpa using h2.symm
      subst hj
      cases hd
      exact .int _
  · simp [intsFrom, Itr]
theorem Da.sq {v : V} (h : Da G H v (.lst ds)) : ∃ a vs, v = .ref a ∧ H a = some (.lst vs) ∧ Das G H vs ds := by
  cases h with
  | lst h r => exact ⟨_, _, rfl, h, r⟩
theorem Va.lst_inv {v : V} (h : Va G L H v (.lst ds)) : ∃ a vs, v = .ref a ∧ H a = some (.lst vs) ∧ Das G H vs ds := by
  cases h with
  | d h => exact h.sq
theorem Va.tup_inv {v : V} (h : Va G L H v (.tup ds)) : ∃ a vs, v = .ref a ∧ H a = some (.tup vs) ∧ Das G H vs ds := by
  cases h with
  | d h =>
    cases h with
    | tup h r => exact ⟨_, _, rfl, h, r⟩
theorem Va.ro_inv {v : V} (h : Va G L H v (.ro ds)) : ∃ a vs, v = .ref a ∧ SqL G.K H a vs ∧ Das G H vs ds := by
  cases h with
  | d h =>
    cases h with
    | ro h r => exact ⟨_, _, rfl, h, r⟩
theorem Va.int_inv {v : V} {i : Int} (h : Va G L H v (.int i)) : v = .int i := by
  cases h with
  | d h => cases h; rfl
theorem Va.str_inv {v : V} {i : Str} (h : Va G L H v (.str i)) : v = .str i := by
  cases h with
  | d h => cases h; rfl
theorem Va.non_inv {v : V} (h : Va G L H v .non) : v = .non := by
  cases h with
  | d h => cases h; rfl
theorem off_sq {K : PySem.W.Frag} {xs : List V} (h : SqL K (off L H) a xs) : SqL K H a xs := by
  rcases h with h | h
  · rcases h with h | ⟨o, h⟩
    · exact .inl (.inl (off_some h).1)
    · exact .inl (.inr ⟨o, (off_some h).1⟩)
  · exact .inr h
end
section
variable {G : Gm} {W : WX} {X : Cx} {tg e l : Expr} {ma : ME} {mas : MA}
/-- for x in a list | a tuple -/
def mItL (m : ME) : MA := fun env st => bnd (m env st) fun d st => match d with
  | .lst ds => some (.ok ds, st)
  | .ro ds => some (.ok ds, st)
  | _ => none
theorem mi_list (hl : PE X l (tM G W ma)) (hK : G.K = X.K := by rfl) : PI X tg l (tMI G W (mItL ma)) := PIimp (pi_list hl) fun σ H R q => by
  obtain ⟨L, st, env, r, st', at_, hm, hp⟩ := q
  refine tM_bnd at_ hm (by rintro x rfl; exact hp) fun d st1 v L1 H1 h1 e1 a1 dv => ?_
  split at h1
  · cases h1
    obtain ⟨a, vs, rfl, h, rr⟩ := dv.lst_inv
    exact ⟨a, rfl, ⟨vs, .inl (.inl (off_some h).1)⟩, hK ▸ hp _ L1 H1 e1 a1.r (walk_list (G := G) (.inl (.inl h)) rr)⟩
  · cases h1
    obtain ⟨a, vs, rfl, h, rr⟩ := dv.ro_inv
    exact ⟨a, rfl, ⟨vs, hK ▸ off_sq h⟩, hK ▸ hp _ L1 H1 e1 a1.r (walk_list (G := G) h rr)⟩
  · cases h1
/-- range -/
def mRng1 (ma : MA) : MA := fun env st => bnd (ma env st) fun ds st => match ds with
  | [.int j] => if -(2 ^ 62) ≤ j ∧ j < 2 ^ 62 then some (.ok (intsFrom 0 j.toNat), st) else none
  | _ => none
theorem mi_rng1 {a : Expr} {p pos : Pos} (hg : Gl X "range") (hm : X.mg "range" = none) (ha : PA X [a] (tMA G W mas)) (hs : starEach [a] X.env = [(false, eval a X.env)] := by rfl) : PI X tg (.Call (.Name "range" p) [a] [] pos) (tMI G W (mRng1 mas)) :=
  PIimp (pi_range1 hg hm ha hs) fun σ H R q => by
    obtain ⟨L, st, env, r, st', at_, hm, hp⟩ := q
    refine tMA_bnd at_ hm (by rintro x rfl; exact hp) fun d st1 v L1 H1 h1 e1 a1 dv => ?_
    split at h1
    · split at h1
      · rename_i j hj
        cases h1
        cases dv with
        | cons h t =>
          cases t
          cases h.int_inv
          exact ⟨j, rfl, hj.1, hj.2, hp _ L1 H1 e1 a1.r walk_range⟩
      · cases h1
    · cases h1
end

/-! ### for -/
def forD (n : Nat) (t : Tg) (body : MS) : List D → En → Store → Option (Fl × En × Store)
  | [], env, st => some (.next, env, st)
  | d :: ds, env, st => match setT t d env with
    | none => none
    | some env1 => match body env1 st with
      | some (.next, env2, st2) => if (st2.take n).all (cellOk n) = true then forD n t body ds (trimE n env2) (st2.take n) else none
      | some (.cont, env2, st2) => if (st2.take n).all (cellOk n) = true then forD n t body ds (trimE n env2) (st2.take n) else none
      | some (.brk, env2, st2) => if (st2.take n).all (cellOk n) = true then some (.next, trimE n env2, st2.take n) else none
      | r => r
def mFor (mi : MA) (t : Tg) (body : MS) : MS := fun env st => bndS (mi env st) env fun ds st => forD st.length t body ds env st
section
variable {G : Gm} {W : WX} {X : Cx} {tg iter : Expr} {body : List Stmt} {mi : MA} {g : TG} {t : Tg} {mb : MS} {pos : Pos}
theorem t_for (hF : Flat G) (ht : TgOk G g t) {D0 : Ends} {σ : L2.St} {H : Hp} (q : tMS G W (mFor mi t mb) D0 σ H) : tFor (tMI G W mi) g (tMS G W mb) D0 σ H := by
  obtain ⟨L, st, env, fl, env', st', at_, hm, hp⟩ := q
  rcases bndS_cases hm with ⟨ds, st1, h1, h2⟩ | ⟨x, h1, rfl, rfl⟩
  · refine ⟨L, st, env, _, st1, at_, h1, fun J L1 H1 e1 r1 wk => ?_⟩
    have hn : L1.c.length = st1.length := r1.len
    refine ⟨fun i m σ' H' => ∃ L2 st2 env2, Ev L1 H1 L2 H' ∧ At G L2 st2 σ' env2 H' ∧ i ≤ ds.length ∧ m = ds.length - i ∧ forD st1.length t mb (ds.drop i) env2 st2 = some (fl, env', st'),
      ⟨ds.length, L1, st1, env, Ev.refl _ _, at_.ev e1 r1, Nat.zero_le _, rfl, h2⟩, ?_⟩
    rintro i m σ2 H2 ⟨L2', st2, env2, e2, a2, hi, rfl, hf⟩
    by_cases hlt : i < ds.length
    · have hd : ds[i]? = some ds[i] := List.getElem?_eq_getElem hlt
      have hdrop : ds.drop i = ds[i] :: ds.drop (i + 1) := List.drop_eq_getElem_cons hlt
      rw [hdrop] at hf
      refine .inr ⟨wk.go i L2' H2 e2.same hlt, fun σ' H' => ∃ L3 st2 env2, Ev L1 H1 L3 H' ∧ At G L3 st2 σ' env2 H' ∧ i + 1 ≤ ds.length ∧ forD st1.length t mb (ds.drop (i + 1)) env2 st2 = some (fl, env', st'),
        fun σ' H' ⟨L3, st3, env3, e3, a3, h3, f3⟩ => ⟨ds.length - (i + 1), by omega, L3, st3, env3, e3, a3, h3, rfl, f3⟩, fun x H3 y => ?_⟩
      obtain ⟨e3, r3, dx⟩ := wk.yld i L2' H2 st2 _ e2.same a2.r hd x H3 y
      have a3 := a2.ev e3 r3
      have e13 := e2.trans e3
      unfold forD at hf
      cases hz : setT t ds[i] env2 with
      | none => rw [hz] at hf; cases hf
      | some env3 =>
        rw [hz] at hf
        dsimp only at hf
        refine ht.run L2' H3 st2 x _ σ2 env2 env3 _ a3 (.d dx) hz fun σ4 a4 _ => ?_
        cases hb : mb env3 st2 with
        | none => rw [hb] at hf; cases hf
        | some p =>
          obtain ⟨fl2, env4, st4⟩ := p
          rw [hb] at hf
          refine ⟨L2', st2, env3, fl2, env4, st4, a4, hb, ?_⟩
          have cont : ∀ (hc : (st4.take st1.length).all (cellOk st1.length) = true) (hg : forD st1.length t mb (ds.drop (i + 1)) (trimE st1.length env4) (st4.take st1.length) = some (fl, env', st')) (σ' : L2.St) (L' : Lv) (H' : Hp), Ev L2' H3 L' H' → Rep G L' st4 H' → EnvR G L' (off L' H') σ' env4 →
              ∃ L3 st2 env2, Ev L1 H1 L3 H' ∧ At G L3 st2 σ' env2 H' ∧ i + 1 ≤ ds.length ∧ forD st1.length t mb (ds.drop (i + 1)) env2 st2 = some (fl, env', st') := fun hc hg σ' L' H' e5 r5 en5 => by
            have ee := e13.trans e5
            have hl : st1.length ≤ L'.c.length := by rw [← hn]; exact ee.le.len
            exact ⟨L'.trim st1.length, _, _, ee.trim hn, (at_.ev e1 r1).to hF (ee.trim hn) (r5.trim hl hc) (en5.trim hl), hlt, hg⟩
          cases fl2 with
          | next =>
            dsimp only at hf
            split at hf
            · rename_i hc
              exact cont hc hf
            · cases hf
          | cont =>
            dsimp only at hf
            split at hf
            · rename_i hc
              exact cont hc hf
            · cases hf
          | brk =>
            dsimp only at hf
            split at hf
            · rename_i hc
              cases hf
              intro σ' L' H' e5 r5 en5
              have ee := e13.trans e5
              have hl : st1.length ≤ L'.c.length := by rw [← hn]; exact ee.le.len
              exact hp σ' (L'.trim st1.length) H' (e1.trans (ee.trim hn)) (r5.trim hl hc) (en5.trim hl)
            · cases hf
          | ret d =>
            cases hf
            exact fun v L' H' e5 r5 dv => hp v L' H' (e1.trans (e13.trans e5)) r5 dv
          | err x =>
            cases hf
            exact fun cls dd σ' L' H' e5 r5 en5 xr => hp cls dd σ' L' H' (e1.trans (e13.trans e5)) r5 en5 xr
    · have hi2 : i = ds.length := by omega
      subst hi2
      rw [List.drop_length] at hf
      cases hf
      exact .inl ⟨wk.stop L2' H2 e2.same, hp σ2 L2' H2 (e1.trans e2) a2.r a2.e⟩
  · exact ⟨L, st, env', _, st', at_, h1, hp.err at_ x rfl rfl⟩
theorem ms_for (hpo : PassesOwn (model X.prog X.w) X.A X.env X.xe) (hc : X.calm = true) (hi : PI X tg iter (tMI G W mi)) (hg : PG X tg g) (ht : TgOk G g t) (hb : PSs X body (tMS G W mb))
    (hs : ∀ x, foldedSetIterable iter X.env x = pure x := by intro _; rfl) (hF : Flat G := by exact fun _ _ _ h => h) : PS X (.For tg iter body [] pos) (tMS G W (mFor mi t mb)) := PSimp (ps_for hpo hc hi hg hb hs) fun _ _ _ => t_for hF ht
end
end M


/-! The M layer: comprehensions, defs, calls. -/
namespace M
open PySem PySem.Spec PyProof.Rows L2

/-! ### hiding -/
section
variable {G : Gb} {L L2' : Lv} {H H2 : Hp} {st : Store} {p : Addr} {o o' : HO}
theorem off_hid (hp : p ∈ L.h) : off L (upd H p o) = off L H := by
  funext a
  unfold off
  by_cases e : a = p
  · subst e
    rw [if_pos (.inr hp), if_pos (.inr hp)]
  · rw [upd_ne e]
def Lv.hide (L : Lv) (p : Addr) : Lv := ⟨L.c, p :: L.h⟩
def Lv.back (L2' L : Lv) : Lv := ⟨L2'.c, L.h⟩
theorem hide_same (hp : H p = none) : Same (off L H) (off (L.hide p) (upd H p o)) := fun a u h => by
  obtain ⟨h1, h2⟩ := off_some h
  have ne : a ≠ p := ne_of_none h1 hp
  refine off_of (by rw [upd_ne ne]; exact h1) fun z => h2 ?_
  rcases z with z | z
  · exact .inl z
  · rcases List.mem_cons.mp z with z | z
    · exact absurd z ne
    · exact .inr z
theorem CellR.same {L1 : Lv} {H1 : Hp} {x : Option Addr} {c : Cell} (s : Same (off L H) (off L1 H1)) (l : L.c = L1.c) (k : ∀ a u, x = some a → H a = some u → H1 a = some u) (h : CellR G L H x c) : CellR G L1 H1 x c := by
  cases x with
  | none => cases c <;> first | exact h | exact h.elim
  | some a =>
    cases c with
    | lst ds => obtain ⟨vs, q, r⟩ := h; exact ⟨vs, k _ _ rfl q, Das.mono (Rl.of_same s) _ _ r⟩
    | dK ds => obtain ⟨vs, q, r⟩ := h; exact ⟨vs, k _ _ rfl q, DasK.mono (Rl.of_same s) _ _ r⟩
    | dT ds => obtain ⟨vs, q, r⟩ := h; exact ⟨vs, k _ _ rfl q, DasT.mono (Rl.of_same s) _ _ r⟩
    | dN ds => obtain ⟨es, ep, vs, q, t, r⟩ := h; exact ⟨es, ep, vs, k _ _ rfl q, t.mono (Rl.of_same s), DasN.mono (Rl.of_same s) _ _ r⟩
    | ins c ds => obtain ⟨dx, vs, q, r⟩ := h; exact ⟨dx, vs, k _ _ rfl q, VasF.mono ⟨by rw [l]; exact Nat.le_refl _, fun i a _ z => by rw [l]; exact z⟩ (Rl.of_same s) r⟩
    | dS ds => obtain ⟨vs, q, r⟩ := h; exact ⟨vs, k _ _ rfl q, VasF.mono ⟨by rw [l]; exact Nat.le_refl _, fun i a _ z => by rw [l]; exact z⟩ (Rl.of_same s) r⟩
    | lv ds => obtain ⟨vs, q, r⟩ := h; exact ⟨vs, k _ _ rfl q, Vas.mono ⟨by rw [l]; exact Nat.le_refl _, fun i a _ z => by rw [l]; exact z⟩ (Rl.of_same s) r⟩
    | dV ds => obtain ⟨vs, q, r⟩ := h; exact ⟨vs, k _ _ rfl q, VasT.mono ⟨by rw [l]; exact Nat.le_refl _, fun i a _ z => by rw [l]; exact z⟩ (Rl.of_same s) r⟩
    | dW ds => obtain ⟨vs, q, r⟩ := h; exact ⟨vs, k _ _ rfl q, VasK.mono ⟨by rw [l]; exact Nat.le_refl _, fun i a _ z => by rw [l]; exact z⟩ (Rl.of_same s) r⟩
    | dead => exact h.elim
theorem Rep.hide (R : Rep G L st H) (hp : H p = none) (ho : Hid o := by refine ⟨?_, ?_, ?_⟩ <;> intro _ z <;> cases z) : Rep G (L.hide p) st (upd H p o) where
  len := R.len
  inj := R.inj
  cell := fun i x c hx hc => CellR.same (L := L) (H := H) (hide_same hp) rfl (fun a u ea h => by rw [upd_ne (ne_of_none h hp)]; exact h) (R.cell i x c hx hc)
  hid := fun a ha => by
    rcases List.mem_cons.mp ha with e | ha
    · subst e
      exact ⟨(by rw [upd_same]; exact ⟨_, rfl, ho⟩), fun z => R.fresh hp (.inl z)⟩
    · have q := R.hid a ha
      have e : a ≠ p := fun e => q.1.ne (by rw [e]; exact hp)
      exact ⟨by rw [upd_ne e]; exact q.1, q.2⟩
  tabs := tabs_new R.tabs hp
theorem Rep.hupd (R : Rep G L st H) (hp : p ∈ L.h) (ho : Hid o := by refine ⟨?_, ?_, ?_⟩ <;> intro _ z <;> cases z) : Rep G L st (upd H p o) where
  len := R.len
  inj := R.inj
  cell := fun i x c hx hc => CellR.same (L := L) (H := H) (by rw [off_hid hp]; exact Same.refl _) rfl (fun a u ea h => by
    have ne : a ≠ p := fun z => (R.hid p hp).2 (by subst ea; rw [← z]; exact List.mem_of_getElem? hx)
    rw [upd_ne ne]
    exact h) (R.cell i x c hx hc)
  hid := fun a ha => by
    have q := R.hid a ha
    by_cases e : a = p
    · exact ⟨by rw [e, upd_same]; exact ⟨_, rfl, ho⟩, q.2⟩
    · exact ⟨by rw [upd_ne e]; exact q.1, q.2⟩
  tabs := by
    obtain ⟨u, hu, _, n1, n2⟩ := (R.hid p hp).1
    exact tabs_upd R.tabs hu n1 n2
/-- both at the start and now the hidden one is another -/
theorem Ev.hupd (e : Ev (L.hide p) (upd H p o) L2' H2) (no : NoTbl o := by intro _ z; cases z) (no' : NoTbl o' := by intro _ z; cases z) : Ev (L.hide p) (upd H p o') L2' (upd H2 p o') where
  le := e.le
  new := fun i a hi h => by
    obtain ⟨z, q⟩ := gone_upd (e.new i a hi h) no
    exact q.upd z
  same := by
    have h2 : p ∈ L2'.h := by rw [e.hh]; exact List.mem_cons_self
    have h1 : p ∈ (L.hide p).h := List.mem_cons_self
    have q := e.same
    rw [off_hid h1] at q
    rw [off_hid h2, off_hid h1]
    exact q
  there := fun a h => by
    obtain ⟨z, q⟩ := gone_upd h no'
    obtain ⟨_, q2⟩ := gone_upd (e.there a q) no
    exact q2.upd z
  hh := e.hh
  keep := fun a ha => by
    by_cases z : a = p
    · rw [z, upd_same, upd_same]
    · rw [upd_ne z, upd_ne z]
      have := e.keep a ha
      rw [upd_ne z] at this
      exact this
theorem back_same (e : Ev (L.hide p) (upd H p o) L2' H2) : Same (off L2' H2) (off (L2'.back L) H2) := fun a u h => by
  obtain ⟨h1, h2⟩ := off_some h
  refine off_of h1 fun z => h2 ?_
  rcases z with z | z
  · exact .inl z
  · exact .inr (by rw [e.hh]; exact List.mem_cons_of_mem _ z)
theorem Ev.back (e : Ev (L.hide p) (upd H p o) L2' H2) (R : Rep G L st H) (hp : H p = none) : Ev L H (L2'.back L) H2 where
  le := ⟨e.le.len, e.le.at_⟩
  new := fun i a hi h => by
    by_cases z : a = p
    · exact .inl (z ▸ hp)
    · have q := e.new i a hi h
      unfold Gone at q ⊢
      rw [upd_ne z] at q
      exact q
  same := ((Rl.of_same (hide_same hp)).trans e.same).trans (Rl.of_same (back_same e))
  there := fun a h => by
    by_cases z : a = p
    · exact .inl (z ▸ hp)
    · have q := e.there a h
      unfold Gone at q ⊢
      rw [upd_ne z] at q
      exact q
  hh := rfl
  keep := fun a ha => by
    have q := e.keep a (List.mem_cons_of_mem _ ha)
    have z : a ≠ p := fun z => (R.hid a ha).1.ne (by rw [z]; exact hp)
    rw [upd_ne z] at q
    exact q
theorem Rep.back {st2 : Store} (e : Ev (L.hide p) (upd H p o) L2' H2) (R : Rep G L2' st2 H2) : Rep G (L2'.back L) st2 H2 where
  len := R.len
  inj := R.inj
  cell := fun i x c hx hc => CellR.same (L := L2') (H := H2) (back_same e) rfl (fun a u _ h => h) (R.cell i x c hx hc)
  hid := fun a ha => R.hid a (by rw [e.hh]; exact List.mem_cons_of_mem _ ha)
  tabs := R.tabs
/-- the hidden one comes into sight -/
theorem back_at (e : Ev (L.hide p) (upd H p o) L2' H2) {st2 : Store} (R : Rep G L2' st2 H2) (R0 : Rep G L st H) (hp : H p = none) : off (L2'.back L) H2 p = some o := by
  have h1 : p ∈ (L.hide p).h := List.mem_cons_self
  refine off_of (by rw [e.keep p h1, upd_same]) fun z => ?_
  rcases z with z | z
  · exact (R.hid p (by rw [e.hh]; exact h1)).2 z
  · exact (R0.hid p z).1.ne hp
end

/-! ### list comprehensions -/
def wipeE (env : En) : List Nat → En
  | [] => env
  | v :: vs => (wipeE env vs).set v none
theorem EnvR.unset {G : Gb} {L : Lv} {H : Hp} {σ : L2.St} {env : En} (h : EnvR G L H σ env) (i : Nat) : EnvR G L H (σ.set i none) (env.set i none) :=
  ⟨by rw [List.length_set, List.length_set]; exact h.len, fun j x q => by
    by_cases e : i = j
    · subst e
      have hi : i < env.length := by
        have := (List.getElem?_eq_some_iff.mp q).1
        rw [List.length_set] at this
        exact this
      rw [List.getElem?_set_self hi] at q
      cases q
    · rw [List.getElem?_set_ne e] at q
      rw [List.getElem?_set_ne e]
      exact h.at_ j x q⟩
theorem EnvR.wipe {G : Gb} {L : Lv} {H : Hp} {σ : L2.St} {env : En} (h : EnvR G L H σ env) : ∀ vs : List Nat, EnvR G L H (L2.wipe σ vs) (wipeE env vs)
  | [] => h
  | v :: vs => (EnvR.wipe h vs).unset v
theorem wipe_wipe {σ : L2.St} : ∀ (vs us : List Nat), (∀ i ∈ vs, i ∈ us) → L2.wipe (L2.wipe σ vs) us = L2.wipe σ us
  | [], us, _ => rfl
  | v :: vs, us, h => by
    show L2.wipe ((L2.wipe σ vs).set v none) us = _
    rw [wipe_set (h v List.mem_cons_self), wipe_wipe vs us fun i hi => h i (List.mem_cons_of_mem _ hi)]
def tYesM : MT := fun _ st => some (.ok true, st)
def big : Nat := 1000000
def compD (t : Tg) (mt : MT) (me : ME) (env : En) : List D → Store → Option (List D × Store)
  | [], st => some ([], st)
  | d :: ds, st => match setT t d env with
    | none => none
    | some env1 => match mt env1 st with
      | some (.ok true, st1) => match me env1 st1 with
        | some (.ok y, st2) => if isD y = true then (match compD t mt me env ds st2 with
          | some (ys, st3) => some (y :: ys, st3)
          | none => none) else none
        | _ => none
      | some (.ok false, st1) => compD t mt me env ds st1
      | _ => none
def mLc (mi : MA) (t : Tg) (mt : MT) (me : ME) (vs : List Nat) : ME := fun env st => bnd (mi env st) fun ds st => match compD t mt me (wipeE env vs) ds st with
  | some (ys, st2) => if ys.length ≤ big then some (.ok (.lst ys), st2) else none
  | none => none
section
variable {G : Gm} {W W0 : WX} {X : Cx} {elt tg iter : Expr} {ifs : List Expr} {scope : Scope} {own : List (Str × Nat)} {pos : Pos} {mi : MA} {g : TG} {t : Tg} {mt : MT} {me : ME}
/-- .. whatever becomes of the list at the end -/
theorem t_lcE {vs : List Nat} (hF : Flat G) (ht : TgOk G g t) (hsl : ∀ i ∈ t.slots, i ∈ vs) {σ : L2.St} {H : Hp} {Q : VK} {L : Lv} {st st1 st' : Store} {env : En} {ds ys0 : List D} (at_ : At G L st σ env H) (h1 : mi env st = some (.ok ds, st1)) (hc : compD t mt me (wipeE env vs) ds st1 = some (ys0, st')) (hbig : ys0.length ≤ big)
    (fin : ∀ (L1 : Lv) (H1 : Hp) (p : Addr) (L2' : Lv) (H2 : Hp) (acc : List V), Ev L H L1 H1 → Rep G L1 st1 H1 → H1 p = none → Ev (L1.hide p) (upd H1 p (.lst acc)) L2' H2 → Rep G L2' st' H2 → Das G (off L2' H2) acc ys0 → Q (.ref p) H2) : tLc (tMI G W mi) g (tMT G W0 mt) (tM G W0 me) vs σ H Q := by
  refine ⟨L, st, env, _, st1, at_, h1, fun J L1 H1 e1 r1 wk p hpn => ?_⟩
  have a1 := at_.ev e1 r1
  refine ⟨fun i m H' => ∃ L2' st2 acc accD ys, Ev (L1.hide p) (upd H1 p (.lst acc)) L2' H' ∧ Rep G L2' st2 H' ∧ Das G (off L2' H') acc accD ∧ i ≤ ds.length ∧ m = ds.length - i ∧
      compD t mt me (wipeE env vs) (ds.drop i) st2 = some (ys, st') ∧ accD ++ ys = ys0,
    ⟨ds.length, L1.hide p, st1, [], [], ys0, Ev.refl _ _, r1.hide hpn, .nil, Nat.zero_le _, rfl, hc, rfl⟩, ?_⟩
  rintro i m H2 ⟨L2', st2, acc, accD, ys, e2, r2, dacc, hi, rfl, hcc, heq⟩
  have sm := ((Rl.of_same (hide_same (L := L1) hpn)).trans e2.same)
  by_cases hlt : i < ds.length
  · have hd : ds[i]? = some ds[i] := List.getElem?_eq_getElem hlt
    have hdrop : ds.drop i = ds[i] :: ds.drop (i + 1) := List.drop_eq_getElem_cons hlt
    rw [hdrop] at hcc
    refine .inr ⟨wk.go i L2' H2 sm hlt, fun H' => ∃ L3 st3 acc accD ys, Ev (L1.hide p) (upd H1 p (.lst acc)) L3 H' ∧ Rep G L3 st3 H' ∧ Das G (off L3 H') acc accD ∧ i + 1 ≤ ds.length ∧
        compD t mt me (wipeE env vs) (ds.drop (i + 1)) st3 = some (ys, st') ∧ accD ++ ys = ys0,
      fun H' ⟨L3, st3, a3, aD3, y3, x1, x2, x3, x4, x5, x6⟩ => ⟨ds.length - (i + 1), by omega, L3, st3, a3, aD3, y3, x1, x2, x3, x4, rfl, x5, x6⟩, fun x H3 y => ?_⟩
    obtain ⟨e3, r3, dx⟩ := wk.yld i L2' H2 st2 _ sm r2 hd x H3 y
    have e13 := e2.trans e3
    unfold compD at hcc
    cases hz : setT t ds[i] (wipeE env vs) with
    | none => rw [hz] at hcc; cases hcc
    | some env3 =>
      rw [hz] at hcc
      dsimp only at hcc
      have enW : EnvR G L2' (off L2' H3) (L2.wipe σ vs) (wipeE env vs) := EnvR.wipe
        (⟨a1.e.len, fun j d q => by
          obtain ⟨v, q1, q2⟩ := a1.e.at_ j d q
          refine ⟨v, q1, ?_⟩
          exact Va.mono (L := L1) (⟨e13.le.len, e13.le.at_⟩ : Le L1 L2') ((Rl.of_same (hide_same (L := L1) hpn)).trans e13.same) q2⟩) vs
      refine ht.run L2' H3 st2 x _ _ _ env3 _ ⟨enW, r3, G.up _ _ _ ((Rl.of_same (hide_same (L := L1) hpn)).trans e13.same) (hF _ _ _ a1.p)⟩ (.d dx) hz fun σ4 a4 hw => ?_
      refine ⟨by rw [hw vs hsl, wipe_wipe vs vs fun _ h => h], ?_⟩
      cases hb : mt env3 st2 with
      | none => rw [hb] at hcc; cases hcc
      | some q =>
        obtain ⟨rb, st4⟩ := q
        rw [hb] at hcc
        cases rb with
        | err _ => cases hcc
        | ok b =>
          refine ⟨L2', st2, env3, _, st4, a4, hb, fun L4 H4 e4 r4 => ?_⟩
          cases b with
          | false =>
            dsimp only at hcc
            rw [if_neg Bool.false_ne_true]
            exact ⟨L4, st4, acc, accD, ys, e13.trans e4, r4, e4.das (e3.das dacc), hlt, hcc, heq⟩
          | true =>
            dsimp only at hcc
            rw [if_pos rfl]
            cases hv : me env3 st4 with
            | none => rw [hv] at hcc; cases hcc
            | some q =>
              obtain ⟨rv, st5⟩ := q
              rw [hv] at hcc
              cases rv with
              | err _ => cases hcc
              | ok y =>
                dsimp only at hcc
                split at hcc
                · rename_i hpure
                  split at hcc
                  · rename_i ys5 st6 hc5
                    cases hcc
                    refine ⟨L4, st4, env3, _, st5, a4.ev e4 r4, hv, fun v L5 H5 e5 r5 dv => ?_⟩
                    have e15 := (e13.trans e4).trans e5
                    have h1 : p ∈ (L1.hide p).h := List.mem_cons_self
                    have hp5 : p ∈ L5.h := by rw [e15.hh]; exact h1
                    have hat : H5 p = some (.lst acc) := by rw [e15.keep p h1, upd_same]
                    have dacc5 : Das G (off L5 H5) acc accD := e5.das (e4.das (e3.das dacc))
                    have hlen : acc.length < sizeLine := by
                      have q1 := dacc.length
                      have q2 : accD.length + (y :: ys5).length ≤ big := by rw [← List.length_append, heq]; exact hbig
                      rw [sizeLine_eq]
                      unfold big at q2
                      simp at q2
                      omega
                    refine ⟨acc, hat, hlen, L5, st5, acc ++ [v], accD ++ [y], ys5, e15.hupd, r5.hupd hp5, ?_, hlt, hc5, by rw [List.append_assoc]; exact heq⟩
                    rw [off_hid hp5]
                    exact dacc5.append (.cons (dv.da hpure) .nil)
                  · cases hcc
                · cases hcc
  · have hi2 : i = ds.length := by omega
    subst hi2
    rw [List.drop_length] at hcc
    cases hcc
    rw [List.append_nil] at heq
    subst heq
    refine .inl ⟨wk.stop L2' H2 sm, ?_⟩
    exact fin L1 H1 p L2' H2 acc e1 r1 hpn e2 r2 dacc
theorem t_lc {vs : List Nat} (hF : Flat G) (ht : TgOk G g t) (hsl : ∀ i ∈ t.slots, i ∈ vs) {σ : L2.St} {H : Hp} {Q : VK} (q : tM G W (mLc mi t mt me vs) σ H Q) : tLc (tMI G W mi) g (tMT G W0 mt) (tM G W0 me) vs σ H Q := by
  obtain ⟨L, st, env, r, st', at_, hm, hp⟩ := q
  rcases bnd_cases hm with ⟨ds, st1, h1, h2⟩ | ⟨x, h1, rfl⟩
  · split at h2
    · rename_i ys0 stF hc
      split at h2
      · rename_i hbig
        cases h2
        exact t_lcE hF ht hsl at_ h1 hc hbig fun L1 H1 p L2' H2 acc e1 r1 hpn e2 r2 dacc => hp _ (L2'.back L1) H2 (e1.trans (e2.back r1 hpn)) (Rep.back e2 r2) (.d (.lst (back_at e2 r2 r1 hpn) (Das.mono (Rl.of_same (back_same e2)) _ _ dacc)))
      · cases h2
    · cases h2
  · exact ⟨L, st, env, _, st', at_, h1, hp⟩
theorem m_lc (hc : X.calm = true) (hN : X.N.Nodup) (hi : PI X tg iter (tMI G W mi)) (ok : BlkOk X.N X.env.scope scope own)
    (hg : ∀ (s : Shared) (H : Hp) (C : Addr) (cl : List (Str × Addr)) (fp : List Addr), PG (X.blk s H scope (compEnvC scope cl C X.env) fp) tg g) (hT : ∀ (s : Shared) (H : Hp) (C : Addr) (cl : List (Str × Addr)) (fp : List Addr), PTs (X.blk s H scope (compEnvC scope cl C X.env) fp) ifs (tMT G W0 mt))
    (he : ∀ (s : Shared) (H : Hp) (C : Addr) (cl : List (Str × Addr)) (fp : List Addr), PE (X.blk s H scope (compEnvC scope cl C X.env) fp) elt (tM G W0 me)) (ht : TgOk G g t) (hsl : ∀ i ∈ t.slots, i ∈ own.map (·.2)) (hs : ∀ x, foldedSetIterable iter X.env x = pure x := by intro _; rfl) (hF : Flat G := by exact fun _ _ _ h => h) :
    PE X (.ListComp elt [⟨tg, iter, ifs, 0⟩] scope pos) (tM G W (mLc mi t mt me (own.map (·.2)))) := PEimp (pe_lc hc hN hi ok hg hT he hs) fun _ _ _ => t_lc hF ht hsl
theorem mts_nil : PTs X [] (tMT G W tYesM) := ⟨fun pins s σ H Q I h => by
  refine pts_nil.run pins s σ H Q I ?_
  obtain ⟨L, st, env, r, st', at_, hm, hp⟩ := h
  cases hm
  exact hp L H (Ev.refl L H) at_.r⟩
end
end M


/-! The M layer: defs, calls, instances, errors. -/
namespace M
open PySem PySem.Spec PyProof.Rows L2

/-! ### defs -/
abbrev Call := List D → Store → Option (Rs D × Store)
/-- what a def hands back: a cell made since comes as what it holds; cells made since are let go -/
def finD (n : Nat) (d : D) (st : Store) : Option (D × Store) :=
  if (st.take n).all (cellOk n) = true then
    match d with
    | .ref i => if i < n then some (.ref i, st.take n) else match st[i]? with
      | some (.lst ds) => some (.lst ds, st.take n)
      | some (.dK kvs) => some (.dK kvs, st.take n)
      | some (.dT kvs) => some (.dT kvs, st.take n)
      | some (.dN kvs) => some (.dN kvs, st.take n)
      | some (.ins c fs) => if (fs.all fun p => isD p.2) = true then some (.obj c fs, st.take n) else none
      | _ => none
    | .pr i j => if i < n ∧ j < n then some (.pr i j, st.take n) else none
    | d => some (d, st.take n)
  else none
def startE (k : Nat) (ds : List D) : En := ds.map some ++ List.replicate (k - ds.length) none
def mkD (m : MS) (k : Nat) : Call := fun ds st => match m (startE k ds) st with
  | some (.next, _, st') => (match finD st.length .non st' with
    | some (d, st2) => some (.ok d, st2)
    | none => none)
  | some (.ret d, _, st') => (match finD st.length d st' with
    | some (d, st2) => some (.ok d, st2)
    | none => none)
  | some (.err x, _, st') => if (st'.take st.length).all (cellOk st.length) = true then some (.err x, st'.take st.length) else none
  | _ => none
/-- the same, the cells stay -/
def mkK (m : MS) (k : Nat) : Call := fun ds st => match m (startE k ds) st with
  | some (.next, _, st') => some (.ok .non, st')
  | some (.ret d, _, st') => some (.ok d, st')
  | some (.err x, _, st') => some (.err x, st')
  | _ => none
def spM (G : Gb) (c : Call) (n : Nat) : Sp := fun vs H Q E => vs.length = n ∧ ∃ L st ds r st', Rep G L st H ∧ Vas G L (off L H) vs ds ∧ c ds st = some (r, st') ∧ (match r with
  | .ok d => ∀ v L' H', Ev L H L' H' → Rep G L' st' H' → Va G L' (off L' H') v d → Q v H'
  | .err x => ErrP G L H st' x E)
section
variable {G : Gb} {L L0 : Lv} {H H0 : Hp} {st : Store} {n : Nat}
theorem fin_ok {d d' : D} {v : V} {st2 : Store} (R : Rep G L st H) (hv : Va G L (off L H) v d) (hn : n ≤ L.c.length) (h : finD n d st = some (d', st2)) :
    Rep G (L.trim n) st2 H ∧ Va G (L.trim n) (off (L.trim n) H) v d' := by
  unfold finD at h
  split at h
  · rename_i hk
    have rt := R.trim hn hk
    have key : ∀ {d : D}, isD d = true → Va G L (off L H) v d → Va G (L.trim n) (off (L.trim n) H) v d := fun {d} p q => .d (Da.mono (Rl.of_same trim_same) _ _ (q.da p))
    cases d with
    | ref i =>
      dsimp only at h
      split at h
      · rename_i hi
        cases h
        exact ⟨rt, hv.trim hn (decide_eq_true hi)⟩
      · rename_i hi
        cases hv with
        | d h => cases h
        | @ref a _ hil ha =>
          have hil2 : i < st.length := by rw [← R.len]; exact hil
          have hci : st[i]? = some st[i] := List.getElem?_eq_getElem hil2
          have hcl : L.c[i]? = some L.c[i] := List.getElem?_eq_getElem hil
          have cr := R.cell i _ _ hcl hci
          rw [hci] at h
          cases hx : L.c[i] with
          | none =>
            rw [hx] at cr
            cases hs : st[i] <;> rw [hs] at cr h <;> first | exact cr.elim | cases h
          | some b =>
            rw [hx] at cr hcl
            obtain rfl := ha b hcl
            have sight : ∀ {o : HO}, H a = some o → off (L.trim n) H a = some o := fun {o} e => off_of e fun z => by
              rcases z with z | z
              · obtain ⟨j, hj⟩ := mem_live z
                obtain ⟨hj1, hj2⟩ := take_get hj
                have := R.inj i j a hcl hj2
                omega
              · exact (R.hid a z).2 (List.mem_of_getElem? hcl)
            cases hs : st[i] with
            | lst ds =>
              rw [hs] at cr h
              cases h
              obtain ⟨vs, q, r⟩ := cr
              exact ⟨rt, .d (.lst (sight q) (Das.mono (Rl.of_same trim_same) _ _ r))⟩
            | dK ds =>
              rw [hs] at cr h
              cases h
              obtain ⟨vs, q, r⟩ := cr
              exact ⟨rt, .d (.dK (.inl (sight q)) (DasK.mono (Rl.of_same trim_same) _ _ r))⟩
            | dT ds =>
              rw [hs] at cr h
              cases h
              obtain ⟨vs, q, r⟩ := cr
              exact ⟨rt, .d (.dT (.inl (sight q)) (DasT.mono (Rl.of_same trim_same) _ _ r))⟩
            | dN ds =>
              rw [hs] at cr h
              cases h
              obtain ⟨es, ep, vs, q, t, r⟩ := cr
              exact ⟨rt, .d (.dN (sight q) (t.mono (Rl.of_same trim_same)) (DasN.mono (Rl.of_same trim_same) _ _ r))⟩
            | ins c fs =>
              rw [hs] at cr h
              dsimp only at h
              split at h
              · rename_i hp
                cases h
                obtain ⟨dx, vs, q, r⟩ := cr
                exact ⟨rt, .d (.obj (sight q) (DasF.mono (Rl.of_same trim_same) _ _ (r.das hp)))⟩
              · cases h
            | dS fs => rw [hs] at h; cases h
            | lv fs => rw [hs] at h; cases h
            | dV fs => rw [hs] at h; cases h
            | dW fs => rw [hs] at h; cases h
            | dead => rw [hs] at h; cases h
    | pr i j =>
      dsimp only at h
      split at h
      · rename_i hi
        cases h
        exact ⟨rt, hv.trim hn (decide_eq_true hi)⟩
      · cases h
    | non => cases h; exact ⟨rt, key rfl hv⟩
    | dN _ => cases h; exact ⟨rt, key rfl hv⟩
    | bl _ => cases h; exact ⟨rt, key rfl hv⟩
    | int _ => cases h; exact ⟨rt, key rfl hv⟩
    | str _ => cases h; exact ⟨rt, key rfl hv⟩
    | ty _ => cases h; exact ⟨rt, key rfl hv⟩
    | lst _ => cases h; exact ⟨rt, key rfl hv⟩
    | tup _ => cases h; exact ⟨rt, key rfl hv⟩
    | ro _ => cases h; exact ⟨rt, key rfl hv⟩
    | dK _ => cases h; exact ⟨rt, key rfl hv⟩
    | dT _ => cases h; exact ⟨rt, key rfl hv⟩
    | obj _ _ => cases h; exact ⟨rt, key rfl hv⟩
    | exc _ _ => cases h; exact ⟨rt, key rfl hv⟩
    | ptr _ => cases h; exact ⟨rt, key rfl hv⟩
    | cls _ => cases h; exact ⟨rt, key rfl hv⟩
  · cases h
theorem startR {vs : List V} {ds : List D} {N : List Str} (h : Vas G L (off L H) vs ds) : EnvR G L (off L H) (L2.start N vs) (startE N.length ds) := by
  have hl := h.length
  refine ⟨by unfold L2.start startE; simp [hl], fun i d q => ?_⟩
  unfold startE at q
  by_cases hi : i < ds.length
  · rw [List.getElem?_append_left (by simpa using hi), List.getElem?_map] at q
    have key : ∀ {vs : List V} {ds : List D} (i : Nat) (d : D), Vas G L (off L H) vs ds → ds[i]? = some d → ∃ v, vs[i]? = some v ∧ Va G L (off L H) v d := by
      intro vs ds i d r
      induction r generalizing i with
      | nil => intro e; simp at e
      | cons h r ih =>
        intro e
        cases i with
        | zero =>
          simp at e
          subst e
          exact ⟨_, rfl, h⟩
        | succ i =>
          obtain ⟨v, q1, q2⟩ := ih i (by simpa using e)
          exact ⟨v, by simpa using q1, q2⟩
    cases e : ds[i]? with
    | none => rw [e] at q; cases q
    | some x =>
      rw [e] at q
      cases q
      obtain ⟨v, q1, q2⟩ := key i _ h e
      refine ⟨v, ?_, q2⟩
      unfold L2.start
      rw [List.getElem?_append_left (by rw [List.length_map, hl]; exact hi), List.getElem?_map, q1]
      rfl
  · rw [List.getElem?_append_right (by simpa using Nat.le_of_not_lt hi)] at q
    rw [List.getElem?_replicate] at q
    split at q <;> cases q
theorem def_run {m : MS} {N : List Str} {k : Nat} {vs : List V} {Q : VK} {E : XK} (h : spM G (mkD m N.length) k vs H Q E) :
    tMS (Gm.flat G) (fun cls d _ H => E cls d H) m { nx := fun _ H' => Q .non H', rt := Q } (L2.start N vs) H := by
  obtain ⟨_, L, st, ds, r, st', R, va, hc, hp⟩ := h
  unfold mkD at hc
  have a : At (Gm.flat G) L st (L2.start N vs) (startE N.length ds) H := ⟨startR va, R, True.intro⟩
  cases hm : m (startE N.length ds) st with
  | none => rw [hm] at hc; cases hc
  | some q =>
    obtain ⟨fl, env', st1⟩ := q
    rw [hm] at hc
    refine ⟨L, st, _, fl, env', st1, a, hm, ?_⟩
    have hle : ∀ {L' : Lv} {H' : Hp}, Ev L H L' H' → st.length ≤ L'.c.length := fun {L' H'} e => by rw [← R.len]; exact e.le.len
    cases fl with
    | next =>
      intro σ' L' H' e r1 en1
      dsimp only at hc
      split at hc
      · rename_i d st2 hf
        cases hc
        obtain ⟨r2, v2⟩ := fin_ok r1 (.d .non) (hle e) hf
        exact hp _ _ _ (e.trim R.len) r2 v2
      · cases hc
    | ret d =>
      intro v L' H' e r1 dv
      dsimp only at hc
      split at hc
      · rename_i d' st2 hf
        cases hc
        obtain ⟨r2, v2⟩ := fin_ok r1 dv (hle e) hf
        exact hp _ _ _ (e.trim R.len) r2 v2
      · cases hc
    | brk => cases hc
    | cont => cases hc
    | err x =>
      intro cls dd σ' L' H' e r1 en1 xr
      dsimp only at hc
      split at hc
      · rename_i hk
        cases hc
        have xr2 : XnR G (off (L'.trim st.length) H') x cls dd := by
          exact ⟨xr.1, xr.2.imp id fun ⟨d, vs, z2, z3, z4⟩ => ⟨d, vs, z2, trim_same _ _ z3, DasF.mono (Rl.of_same trim_same) _ _ z4⟩⟩
        exact hp cls dd _ _ (e.trim R.len) (r1.trim (hle e) hk) xr2
      · cases hc
theorem def_runK {m : MS} {N : List Str} {k : Nat} {vs : List V} {Q : VK} {E : XK} (h : spM G (mkK m N.length) k vs H Q E) :
    tMS (Gm.flat G) (fun cls d _ H => E cls d H) m { nx := fun _ H' => Q .non H', rt := Q } (L2.start N vs) H := by
  obtain ⟨_, L, st, ds, r, st', R, va, hc, hp⟩ := h
  unfold mkK at hc
  have a : At (Gm.flat G) L st (L2.start N vs) (startE N.length ds) H := ⟨startR va, R, True.intro⟩
  cases hm : m (startE N.length ds) st with
  | none => rw [hm] at hc; cases hc
  | some q =>
    obtain ⟨fl, env', st1⟩ := q
    rw [hm] at hc
    refine ⟨L, st, _, fl, env', st1, a, hm, ?_⟩
    cases fl with
    | next =>
      cases hc
      exact fun σ' L' H' e r1 en1 => hp _ _ _ e r1 (.d .non)
    | ret d =>
      cases hc
      exact fun v L' H' e r1 dv => hp _ _ _ e r1 dv
    | brk => cases hc
    | cont => cases hc
    | err x =>
      cases hc
      exact fun cls dd σ' L' H' e r1 en1 xr => hp cls dd L' H' e r1 xr
end

/-! ### calls -/
def mCall (n : Nat) (c : Call) (ma : MA) : ME := fun env st => bnd (ma env st) fun ds st => if ds.length = n then c ds st else none
section
variable {G : Gm} {W : WX} {σ : L2.St} {L : Lv} {H : Hp} {st : Store} {env : En} {Q : VK}
/-- the promise at the callee -/
theorem sp_of {c : Call} {n : Nat} {vs : List V} {ds : List D} {r : Rs D} {st' : Store} (a : At G L st σ env H) (va : Vas G L (off L H) vs ds) (hn : ds.length = n) (hc : c ds st = some (r, st')) (hp : RPost G W σ L H st' Q r) :
    spM G c n vs H Q (WE W σ) := by
  refine ⟨va.length.trans hn, L, st, ds, r, st', a.r, va, hc, ?_⟩
  cases r with
  | ok d => exact hp
  | err x => exact hp
end
section
variable {X : Cx} {G : Gm} {W : WX} {k n : Nat} {f C : Addr} {fd : FuncData} {ps : List Str} {c : Call} {x : Str} {p pos apos : Pos} {e o : Expr} {es : List Expr} {mas : MA} {mo : ME}
theorem m_call {hot : M.HotK} (tk : M.Tk hot X W) (F : FnOk X.prog X.w X.K X.mg X.base (M.Cq hot X.prog X.w) k f fd ps (spM G c n)) (hr : Room k X.A) (hg : Gl X x) (hm : X.mg x = some (.ref f)) (hk : PySem.W.keepIn X.K (.ref f) = true) (hb : Binds X.K fd ps [])
    (ha : PA X (e :: es) (tMA G W mas)) (hdb : (x == ("__debug__" : Str)) = false := by decide) (he : starEach (e :: es) X.env = (false, eval e X.env) :: starEach es X.env := by rfl) (hpl : (backTo pos (starEach es X.env)).any (·.1) = false := by rfl) :
    PE X (.Call (.Name x p) (e :: es) [] pos) (tM G W (mCall n c mas)) :=
  PEimp (pe_callSD F hr hg hm hk hb .nil (fun σ => tk.passAt σ) ha hdb he hpl) fun σ H Q q => by
    obtain ⟨L, st, env, r, st', at_, hmm, hp⟩ := q
    refine tMA_bnd at_ hmm hp.err fun ds st1 vs L1 H1 h1 e1 a1 dv => ?_
    split at h1
    · rename_i hn
      rw [List.append_nil]
      exact sp_of a1 dv hn h1 (hp.ev e1)
    · cases h1
/-! ### instances -/
def Lv.more (L : Lv) (p : Addr) : Lv := ⟨L.c ++ [some p], L.h⟩
end
end M


/-! The M layer: operations on values. -/
namespace M
open PySem PySem.Spec PyProof.Rows L2

/-- a live cell as what it holds -/
def rd (st : Store) : D → D
  | .ref i => match st[i]? with
    | some (.lst ds) => .lst ds
    | some (.dK kvs) => .dK kvs
    | some (.dT kvs) => .dT kvs
    | some (.dN kvs) => .dN kvs
    | _ => .ref i
  | d => d
section
variable {G : Gb} {L : Lv} {H : Hp} {st : Store}
theorem off_same : Same (off L H) H := fun a o h => (off_some h).1
theorem Va.up {v : V} {d : D} (h : Va G L (off L H) v d) (p : isD d = true) : Da G H v d := Da.mono (Rl.of_same off_same) _ _ (h.da p)
theorem rd_da (R : Rep G L st H) {v : V} {d : D} (h : Va G L (off L H) v d) (p : isD (rd st d) = true) : Da G H v (rd st d) := by
  cases d with
  | ref i =>
    cases h with
    | d h => cases h
    | @ref a _ hi ha =>
      have hi2 : i < st.length := by rw [← R.len]; exact hi
      have hci : st[i]? = some st[i] := List.getElem?_eq_getElem hi2
      have hcl : L.c[i]? = some L.c[i] := List.getElem?_eq_getElem hi
      have cr := R.cell i _ _ hcl hci
      unfold rd at p ⊢
      dsimp only at p ⊢
      rw [hci] at p ⊢
      cases hx : L.c[i] with
      | none =>
        rw [hx] at cr
        cases hs : st[i] <;> rw [hs] at cr p <;> first | exact cr.elim | cases p
      | some b =>
        rw [hx] at cr hcl
        obtain rfl := ha b hcl
        cases hs : st[i] with
        | lst ds => rw [hs] at cr; obtain ⟨vs, q, r⟩ := cr; exact .lst q (Das.mono (Rl.of_same off_same) _ _ r)
        | dK ds => rw [hs] at cr; obtain ⟨vs, q, r⟩ := cr; exact .dK (.inl q) (DasK.mono (Rl.of_same off_same) _ _ r)
        | dT ds => rw [hs] at cr; obtain ⟨vs, q, r⟩ := cr; exact .dT (.inl q) (DasT.mono (Rl.of_same off_same) _ _ r)
        | dN ds => rw [hs] at cr; obtain ⟨es, ep, vs, q, t, r⟩ := cr; exact .dN q (t.mono (Rl.of_same off_same)) (DasN.mono (Rl.of_same off_same) _ _ r)
        | ins c fs => rw [hs] at p; cases p
        | dS fs => rw [hs] at p; cases p
        | lv fs => rw [hs] at p; cases p
        | dV fs => rw [hs] at p; cases p
        | dW fs => rw [hs] at p; cases p
        | dead => rw [hs] at cr; exact cr.elim
  | pr i j => cases p
  | _ => exact h.up rfl
/-- a value of no address -/
theorem r_same {z : V} {d : D} {Q : VK} (hz : Da G (off L H) z d) (R : Rep G L st H) (k : ∀ v L' H', Ev L H L' H' → Rep G L' st H' → Va G L' (off L' H') v d → Q v H') : Q z H := k z L H (Ev.refl L H) R (.d hz)
/-- a new object -/
theorem r_new {p : Addr} {o : HO} {d : D} {Q : VK} (R : Rep G L st H) (hp : H p = none) (hd : Da G (off L (upd H p o)) (.ref p) d) (k : ∀ v L' H', Ev L H L' H' → Rep G L' st H' → Va G L' (off L' H') v d → Q v H') : Q (.ref p) (upd H p o) :=
  k _ L _ (Ev.new1 R hp) (R.new1 hp) (.d hd)
theorem new_same (R : Rep G L st H) {p : Addr} {o : HO} (hp : H p = none) : Rl (off L H) (off L (upd H p o)) := (Ev.new1 R hp).same
end

/-! ### data of the comparisons -/
mutual
def py : D → PyData
  | .non => .none
  | .bl b => .bool b
  | .int i => .int i
  | .str x => .str x
  | .lst xs => .list (pyL xs)
  | .ro xs => .list (pyL xs)
  | .tup xs => .tuple (pyL xs)
  | .dK _ | .dT _ | .dN _ | .obj _ _ | .ptr _ | .cls _ | .ref _ | .pr _ _ | .ty _ | .exc _ _ => .none
def pyL : List D → List PyData
  | [] => []
  | x :: xs => py x :: pyL xs
end
def okD : Nat → D → Bool
  | _, .non | _, .bl _ | _, .int _ => true
  | _, .str x => PyData.strOk x
  | n + 1, .lst xs => xs.all (okD n)
  | n + 1, .ro xs => xs.all (okD n)
  | n + 1, .tup xs => xs.all (okD n)
  | _, _ => false
theorem ok_all {n : Nat} (ih : ∀ d, okD n d = true → (py d).canLay0 = true ∧ (py d).depth ≤ n) : ∀ xs : List D, xs.all (okD n) = true → PyData.canLayAll0 (pyL xs) = true ∧ PyData.depthAll (pyL xs) ≤ n
  | [], _ => by simp [pyL, PyData.canLayAll0, PyData.depthAll]
  | x :: xs, h => by
    rw [List.all_cons, Bool.and_eq_true] at h
    obtain ⟨a, b⟩ := ih x h.1
    obtain ⟨c, d⟩ := ok_all ih xs h.2
    simp only [pyL, PyData.canLayAll0, PyData.depthAll, a, c, Bool.and_self, true_and]
    exact Nat.max_le.mpr ⟨b, d⟩
theorem ok_py : ∀ (n : Nat) (d : D), okD n d = true → (py d).canLay0 = true ∧ (py d).depth ≤ n := by
  intro n
  induction n with
  | zero =>
    intro d h
    cases d <;> simp [okD, py, PyData.canLay0, PyData.depth] at h ⊢
    exact h
  | succ n ih =>
    intro d h
    cases d with
    | lst xs =>
      obtain ⟨a, b⟩ := ok_all ih xs (by simpa [okD] using h)
      simp only [py, PyData.canLay0, PyData.depth]
      exact ⟨a, by omega⟩
    | ro xs =>
      obtain ⟨a, b⟩ := ok_all ih xs (by simpa [okD] using h)
      simp only [py, PyData.canLay0, PyData.depth]
      exact ⟨a, by omega⟩
    | tup xs =>
      obtain ⟨a, b⟩ := ok_all ih xs (by simpa [okD] using h)
      simp only [py, PyData.canLay0, PyData.depth]
      exact ⟨a, by omega⟩
    | str x => simp [okD, py, PyData.canLay0, PyData.depth] at h ⊢; exact h
    | non => simp [py, PyData.canLay0, PyData.depth]
    | bl _ => simp [py, PyData.canLay0, PyData.depth]
    | int _ => simp [py, PyData.canLay0, PyData.depth]
    | _ => simp [okD] at h
mutual
theorem da_dp {G : Gb} {H : Hp} : ∀ (n : Nat) (d : D) (v : V), okD n d = true → Da G H v d → Dp G.K H v (py d)
  | _, .non, _, _, h => by cases h; simp only [py]; exact .non
  | _, .bl _, _, _, h => by cases h; simp only [py]; exact .bl _
  | _, .int _, _, _, h => by cases h; simp only [py]; exact .int _
  | _, .str _, _, _, h => by cases h; simp only [py]; exact .str _
  | n + 1, .lst xs, _, k, h => by
    cases h with
    | lst h r =>
      simp only [py]
      exact .lst (.inl (.inl h)) (das_dp n xs _ (by simpa [okD] using k) r)
  | n + 1, .ro xs, _, k, h => by
    cases h with
    | ro h r =>
      simp only [py]
      exact .lst h (das_dp n xs _ (by simpa [okD] using k) r)
  | n + 1, .tup xs, _, k, h => by
    cases h with
    | tup h r =>
      simp only [py]
      exact .tup (.inl (.inl h)) (das_dp n xs _ (by simpa [okD] using k) r)
  | 0, .lst _, _, k, _ => by simp [okD] at k
  | 0, .ro _, _, k, _ => by simp [okD] at k
  | 0, .tup _, _, k, _ => by simp [okD] at k
  | n, .dK _, _, k, _ => by cases n <;> simp [okD] at k
  | n, .dT _, _, k, _ => by cases n <;> simp [okD] at k
  | n, .dN _, _, k, _ => by cases n <;> simp [okD] at k
  | n, .obj _ _, _, k, _ => by cases n <;> simp [okD] at k
  | n, .ptr _, _, k, _ => by cases n <;> simp [okD] at k
  | n, .cls _, _, k, _ => by cases n <;> simp [okD] at k
  | n, .ref _, _, k, _ => by cases n <;> simp [okD] at k
  | n, .pr _ _, _, k, _ => by cases n <;> simp [okD] at k
  | n, .exc _ _, _, k, _ => by cases n <;> simp [okD] at k
  | n, .ty _, _, k, _ => by cases n <;> simp [okD] at k
theorem das_dp {G : Gb} {H : Hp} : ∀ (n : Nat) (ds : List D) (vs : List V), ds.all (okD n) = true → Das G H vs ds → DpAll G.K H vs (pyL ds)
  | _, [], _, _, h => by cases h; simp only [pyL]; exact .nil
  | n, d :: ds, _, k, h => by
    rw [List.all_cons, Bool.and_eq_true] at k
    cases h with
    | cons h r =>
      simp only [pyL]
      exact .cons (da_dp n d _ k.1 h) (das_dp n ds _ k.2 r)
end
theorem ok_isD {n : Nat} {d : D} (h : okD n d = true) : isD d = true := by
  cases d <;> first | rfl | (cases n <;> simp [okD] at h)
/-! == on data -/
mutual
def eqvD : D → D → Bool
  | .non, .non => true
  | .bl a, .bl b => a == b
  | .bl a, .int j => (if a then 1 else 0) == j
  | .int i, .bl b => i == (if b then 1 else 0)
  | .int i, .int j => i == j
  | .str x, .str y => x == y
  | .lst xs, .lst ys => eqvL xs ys
  | .lst xs, .ro ys => eqvL xs ys
  | .ro xs, .lst ys => eqvL xs ys
  | .ro xs, .ro ys => eqvL xs ys
  | .tup xs, .tup ys => eqvL xs ys
  | _, _ => false
def eqvL : List D → List D → Bool
  | [], [] => true
  | x :: xs, y :: ys => eqvD x y && eqvL xs ys
  | _, _ => false
end
theorem eqv_all (ih : ∀ (x y : D), okD n x = true → okD n y = true → PyData.eqv (py x) (py y) = eqvD x y) : ∀ xs ys : List D, xs.all (okD n) = true → ys.all (okD n) = true → PyData.eqvAll (pyL xs) (pyL ys) = eqvL xs ys
  | [], [], _, _ => by simp [pyL, PyData.eqvAll, eqvL]
  | [], _ :: _, _, _ => by simp [pyL, PyData.eqvAll, eqvL]
  | _ :: _, [], _, _ => by simp [pyL, PyData.eqvAll, eqvL]
  | x :: xs, y :: ys, h, k => by
    rw [List.all_cons, Bool.and_eq_true] at h k
    simp only [pyL, PyData.eqvAll, eqvL]
    rw [ih x y h.1 k.1, eqv_all ih xs ys h.2 k.2]
theorem eqv_py : ∀ (n : Nat) (x y : D), okD n x = true → okD n y = true → PyData.eqv (py x) (py y) = eqvD x y := by
  intro n
  induction n with
  | zero =>
    intro x y hx hy
    cases x <;> simp [okD] at hx <;> cases y <;> simp [okD] at hy <;> simp [py, PyData.eqv, eqvD]
  | succ n ih =>
    intro x y hx hy
    cases x <;> simp [okD] at hx <;> cases y <;> simp [okD] at hy <;> simp [py, PyData.eqv, eqvD] <;>
      exact eqv_all ih _ _ (by simpa using hx) (by simpa using hy)
def gEq (st : Store) (x y : D) : Option D := if okD 8 (rd st x) = true ∧ okD 8 (rd st y) = true then some (.bl (eqvD (rd st x) (rd st y))) else none
def gNe (st : Store) (x y : D) : Option D := if okD 8 (rd st x) = true ∧ okD 8 (rd st y) = true then some (.bl (!eqvD (rd st x) (rd st y))) else none
theorem shaped_ok {d : D} (h : okD 8 d = true) : SeqAt.shaped (py d) = true := by
  obtain ⟨a, b⟩ := ok_py 8 d h
  unfold SeqAt.shaped
  rw [a, Bool.true_and]
  exact decide_eq_true (by omega)
theorem r2_eq {G : Gb} : R2M G (rEqD G.K) gEq := fun L st H x y d e z Q R dx dy hz k => by
  unfold gEq at hz
  split at hz
  · rename_i hk
    cases hz
    have a := rd_da R dx (ok_isD hk.1)
    have b := rd_da R dy (ok_isD hk.2)
    refine ⟨_, _, da_dp 8 _ _ hk.1 a, da_dp 8 _ _ hk.2 b, shaped_ok hk.1, shaped_ok hk.2, ?_⟩
    rw [eqv_py 8 _ _ hk.1 hk.2]
    exact r_same (.bl _) R k
  · cases hz
theorem r2_ne {G : Gb} : R2M G (rNeD G.K) gNe := fun L st H x y d e z Q R dx dy hz k => by
  unfold gNe at hz
  split at hz
  · rename_i hk
    cases hz
    have a := rd_da R dx (ok_isD hk.1)
    have b := rd_da R dy (ok_isD hk.2)
    refine ⟨_, _, da_dp 8 _ _ hk.1 a, da_dp 8 _ _ hk.2 b, shaped_ok hk.1, shaped_ok hk.2, ?_⟩
    rw [eqv_py 8 _ _ hk.1 hk.2]
    exact r_same (.bl _) R k
  · cases hz

/-! ### ints -/
def iop (f : Int → Int → D) (_ : Store) (x y : D) : Option D := match x, y with
  | .int i, .int j => some (f i j)
  | _, _ => none
def iopC (C : Int → Int → Prop) [∀ i j, Decidable (C i j)] (f : Int → Int → D) (_ : Store) (x y : D) : Option D := match x, y with
  | .int i, .int j => if C i j then some (f i j) else none
  | _, _ => none
theorem r2_I0 {G : Gb} {g : Int → Int → V} {f : Int → Int → D} (h : ∀ i j H, Da G H (g i j) (f i j)) : R2M G (rI0 g) (iop f) := fun L st H x y d e z Q R dx dy hz k => by
  unfold iop at hz
  split at hz
  · cases hz
    exact ⟨_, _, dx.int_inv, dy.int_inv, r_same (h _ _ _) R k⟩
  · cases hz
theorem r2_I {G : Gb} {C : Int → Int → Prop} [∀ i j, Decidable (C i j)] {g : Int → Int → V} {f : Int → Int → D} (h : ∀ i j H, Da G H (g i j) (f i j)) : R2M G (rI C g) (iopC C f) := fun L st H x y d e z Q R dx dy hz k => by
  unfold iopC at hz
  split at hz
  · split at hz
    · rename_i hc
      cases hz
      exact ⟨_, _, dx.int_inv, dy.int_inv, hc, r_same (h _ _ _) R k⟩
    · cases hz
  · cases hz
instance : ∀ i j, Decidable (CMul i j) := fun i j => by unfold CMul; exact inferInstance
instance : ∀ i j, Decidable (CDiv i j) := fun i j => by unfold CDiv; exact inferInstance
instance : ∀ i j, Decidable (CPow i j) := fun i j => by unfold CPow; exact inferInstance
abbrev gSub := iop fun i j => .int (i - j)
abbrev gMulI := iopC CMul fun i j => .int (i * j)
abbrev gMod := iopC (fun _ j => 0 < j) fun i j => .int (i % j)
abbrev gDiv := iopC CDiv fun i j => .int (i / j)
abbrev gPow := iopC CPow fun i j => .int (i ^ j.toNat)
abbrev gLt := iop fun i j => .bl (decide (i < j))
abbrev gGt := iop fun i j => .bl (decide (j < i))
abbrev gGe := iop fun i j => .bl (decide (j ≤ i))
theorem da_int {G : Gb} (f : Int → Int → Int) : ∀ i j H, Da G H (.int (f i j)) (.int (f i j)) := fun _ _ _ => .int _
theorem da_bl {G : Gb} (f : Int → Int → Bool) : ∀ i j H, Da G H (.bl (f i j)) (.bl (f i j)) := fun _ _ _ => .bl _

/-! ### + -/
def gAdd (st : Store) (x y : D) : Option D := match rd st x, rd st y with
  | .int i, .int j => some (.int (i + j))
  | .str a, .str b => if a.length + b.length ≤ big then some (.str (a ++ b)) else none
  | .lst a, .lst b => if a.length + b.length ≤ big then some (.lst (a ++ b)) else none
  | _, _ => none
def rAdd (K : PySem.W.Frag) : R2 := fun x y H Q => (rI0 (fun i j => .int (i + j)) x y H Q ∨ (∃ i j, x = .str i ∧ y = .str j ∧ i.length + j.length ≤ sizeLine ∧ Q (.str (i ++ j)) H)) ∨ rCat x y H Q
theorem op_addAny {X : Cx} : OpR X (binaryOp .Add) (rAdd X.K) := (op_add.or2 op_add_str).or2 op_cat
theorem Da.int_inv {G : Gb} {H : Hp} {v : V} {i : Int} (h : Da G H v (.int i)) : v = .int i := by cases h; rfl
theorem Da.str_inv {G : Gb} {H : Hp} {v : V} {i : Str} (h : Da G H v (.str i)) : v = .str i := by cases h; rfl
theorem big_line {n : Nat} (h : n ≤ big) : n ≤ sizeLine := by
  rw [sizeLine_eq]
  unfold big at h
  omega
/-- what is read stays read where data are wanted: the parts of a cell as data -/
theorem rd_off {G : Gb} {L : Lv} {H : Hp} {st : Store} (R : Rep G L st H) {v : V} {d : D} (h : Va G L (off L H) v d) {ds : List D} (e : rd st d = .lst ds) : ∃ a vs, v = .ref a ∧ H a = some (.lst vs) ∧ Das G (off L H) vs ds := by
  cases d with
  | ref i =>
    cases h with
    | d h => cases h
    | @ref a _ hi ha =>
      have hi2 : i < st.length := by rw [← R.len]; exact hi
      have hci : st[i]? = some st[i] := List.getElem?_eq_getElem hi2
      have hcl : L.c[i]? = some L.c[i] := List.getElem?_eq_getElem hi
      have cr := R.cell i _ _ hcl hci
      unfold rd at e
      dsimp only at e
      rw [hci] at e
      cases hx : L.c[i] with
      | none =>
        rw [hx] at cr
        cases hs : st[i] <;> rw [hs] at cr e <;> first | exact cr.elim | cases e
      | some b =>
        rw [hx] at cr hcl
        obtain rfl := ha b hcl
        cases hs : st[i] with
        | lst ds' => rw [hs] at cr e; cases e; obtain ⟨vs, q, r⟩ := cr; exact ⟨_, vs, rfl, q, r⟩
        | dK ds => rw [hs] at e; cases e
        | dT ds => rw [hs] at e; cases e
        | dN ds => rw [hs] at e; cases e
        | ins c fs => rw [hs] at e; cases e
        | dS fs => rw [hs] at e; cases e
        | lv fs => rw [hs] at e; cases e
        | dV fs => rw [hs] at e; cases e
        | dW fs => rw [hs] at e; cases e
        | dead => rw [hs] at e; cases e
  | lst ds' =>
    cases e
    obtain ⟨a, vs, q1, q2, q3⟩ := h.lst_inv
    exact ⟨a, vs, q1, (off_some q2).1, q3⟩
  | _ => cases e
theorem rd_int {st : Store} {d : D} {i : Int} (e : rd st d = .int i) : d = .int i := by
  cases d with
  | ref j => unfold rd at e; dsimp only at e; split at e <;> cases e
  | _ => exact e
theorem rd_str {st : Store} {d : D} {i : Str} (e : rd st d = .str i) : d = .str i := by
  cases d with
  | ref j => unfold rd at e; dsimp only at e; split at e <;> cases e
  | _ => exact e
theorem r2_add {G : Gb} : R2M G (rAdd G.K) gAdd := fun L st H x y d e z Q R dx dy hz k => by
  unfold gAdd at hz
  split at hz
  · rename_i i j h1 h2
    cases hz
    rw [rd_int h1] at dx
    rw [rd_int h2] at dy
    exact .inl (.inl ⟨_, _, dx.int_inv, dy.int_inv, r_same (.int _) R k⟩)
  · rename_i i j h1 h2
    split at hz
    · rename_i hl
      cases hz
      rw [rd_str h1] at dx
      rw [rd_str h2] at dy
      exact .inl (.inr ⟨_, _, dx.str_inv, dy.str_inv, big_line hl, r_same (.str _) R k⟩)
    · cases hz
  · rename_i xs ys h1 h2
    split at hz
    · rename_i hl
      cases hz
      obtain ⟨a, vs, rfl, q1, r1⟩ := rd_off R dx h1
      obtain ⟨b, us, rfl, q2, r2⟩ := rd_off R dy h2
      refine .inr ⟨a, b, vs, us, rfl, rfl, q1, q2, by rw [r1.length, r2.length]; exact big_line hl, fun p hp => ?_⟩
      exact r_new R hp (.lst (Ev.off_new R hp) (Das.mono (new_same R hp) _ _ (r1.append r2))) k
    · cases hz
  · cases hz

/-! ### displays -/
def mLst (ma : MA) : ME := fun env st => bnd (ma env st) fun ds st => if ds.length ≤ big ∧ ds.all isD = true then some (.ok (.lst ds), st) else none
def mTup (ma : MA) : ME := fun env st => bnd (ma env st) fun ds st => if ds.length ≤ big ∧ ds.all isD = true then some (.ok (.tup ds), st) else none
/-- a list that is to change: a cell -/
def mNew (ma : MA) : ME := fun env st => bnd (ma env st) fun ds st => if ds.length ≤ big ∧ ds.all isD = true then some (.ok (.ref st.length), st ++ [.lst ds]) else none
theorem new_cell {G : Gb} {L : Lv} {H : Hp} {st : Store} {x : Addr} {o : HO} {c : Cell} (R : Rep G L st H) (hx : H x = none) (hc : ∀ L' H', Rl (off L H) (off L' H') → H' x = some o → CellR G L' H' (some x) c) :
    Ev L H (L.more x) (upd H x o) ∧ Rep G (L.more x) (st ++ [c]) (upd H x o) ∧ Va G (L.more x) (off (L.more x) (upd H x o)) (.ref x) (.ref st.length) := by
  have nx : ¬ (some x ∈ L.c ∨ x ∈ L.h) := R.fresh hx
  have hup : ∀ b u, H b = some u → (upd H x o) b = some u := fun b u e => by
    rw [upd_ne (ne_of_none e hx)]
    exact e
  have ev : Ev L H (L.more x) (upd H x o) :=
    { le := ⟨by show L.c.length ≤ (L.c ++ [some x]).length; simp, fun i a hi h => by
        have h' : (L.c ++ [some x])[i]? = some (some a) := h
        rw [List.getElem?_append_left hi] at h'
        exact h'⟩
      new := fun i a hi h => by
        have h' : (L.c ++ [some x])[i]? = some (some a) := h
        rw [List.getElem?_append_right hi] at h'
        have : a = x := by
          cases hz : i - L.c.length with
          | zero => rw [hz] at h'; simp at h'; exact h'.symm
          | succ j => rw [hz] at h'; simp at h'
        rw [this]
        exact .inl hx
      same := fun b u h => by
        obtain ⟨h1, h2⟩ := off_some h
        refine .inl (off_of (hup b u h1) fun z => ?_)
        rcases z with z | z
        · rcases List.mem_append.mp z with z | z
          · exact h2 (.inl z)
          · have : b = x := Option.some.inj (List.mem_singleton.mp z)
            rw [this, hx] at h1
            cases h1
        · exact h2 (.inr z)
      there := fun _ => gone_more hup
      hh := rfl
      keep := fun a ha => by
        have q := (R.hid a ha).1.ne
        cases e : H a with
        | none => exact absurd e q
        | some u => rw [hup a u e] }
  refine ⟨ev, ⟨by show (L.c ++ [some x]).length = _; simp [R.len], fun i j a h1 h2 => ?_, fun i y c' h1 h2 => ?_, fun a ha => ⟨by rw [ev.keep a ha]; exact (R.hid a ha).1, fun z => ?_⟩, R.tabs.ext hup⟩, ?_⟩
  · have at_x : ∀ i, (L.c ++ [some x])[i]? = some (some a) → (i < L.c.length ∧ L.c[i]? = some (some a)) ∨ (i = L.c.length ∧ a = x) := fun i h => by
      by_cases hi : i < L.c.length
      · rw [List.getElem?_append_left hi] at h
        exact .inl ⟨hi, h⟩
      · rw [List.getElem?_append_right (Nat.le_of_not_lt hi)] at h
        cases hz : i - L.c.length with
        | zero => rw [hz] at h; simp at h; exact .inr ⟨by omega, h.symm⟩
        | succ j => rw [hz] at h; simp at h
    rcases at_x i h1 with ⟨i1, i2⟩ | ⟨i1, i2⟩
    · rcases at_x j h2 with ⟨j1, j2⟩ | ⟨j1, j2⟩
      · exact R.inj i j a i2 j2
      · subst j2
        exact absurd (.inl (List.mem_of_getElem? i2)) nx
    · rcases at_x j h2 with ⟨j1, j2⟩ | ⟨j1, j2⟩
      · subst i2
        exact absurd (.inl (List.mem_of_getElem? j2)) nx
      · omega
  · have h1' : (L.c ++ [some x])[i]? = some y := h1
    by_cases hi : i < L.c.length
    · rw [List.getElem?_append_left hi] at h1'
      rw [List.getElem?_append_left (by rw [← R.len]; exact hi)] at h2
      exact CellR.ev ev (fun a u _ h => hup a u h) (R.cell i y c' h1' h2)
    · rw [List.getElem?_append_right (Nat.le_of_not_lt hi)] at h1'
      rw [List.getElem?_append_right (by rw [← R.len]; exact Nat.le_of_not_lt hi), ← R.len] at h2
      cases hz : i - L.c.length with
      | zero =>
        rw [hz] at h1' h2
        simp at h1' h2
        subst h1' h2
        exact hc _ _ ev.same upd_same
      | succ j => rw [hz] at h1'; simp at h1'
  · rcases List.mem_append.mp z with z | z
    · exact (R.hid a ha).2 z
    · have : a = x := Option.some.inj (List.mem_singleton.mp z)
      exact (R.hid a ha).1.ne (by rw [this]; exact hx)
  · refine .ref (by show st.length < (L.c ++ [some x]).length; simp [R.len]) fun b q => ?_
    have q' : (L.c ++ [some x])[st.length]? = some (some b) := q
    rw [List.getElem?_append_right (by rw [R.len]; exact Nat.le_refl _), R.len, Nat.sub_self] at q'
    simp at q'
    exact q'
section
variable {G : Gm} {W : WX} {X : Cx} {es : List Expr} {mas : MA} {pos : Pos}
theorem m_lst (h : PA X es (tMA G W mas)) : PE X (.List es pos) (tM G W (mLst mas)) := PEimp (pe_lst h) fun σ H Q q => by
  obtain ⟨L, st, env, r, st', at_, hm, hp⟩ := q
  refine tMA_bnd at_ hm hp.err fun ds st1 vs L1 H1 h1 e1 a1 dv => ?_
  split at h1
  · rename_i hk
    cases h1
    refine ⟨by rw [dv.length]; exact big_line hk.1, fun p hpn => ?_⟩
    exact r_new a1.r hpn (.lst (Ev.off_new a1.r hpn) (Das.mono (new_same a1.r hpn) _ _ (dv.das hk.2))) fun v L' H' e => hp v L' H' (e1.trans e)
  · cases h1
theorem m_tup {x1} (h : PA X es (tMA G W mas)) : PE X (.Tuple es x1 pos) (tM G W (mTup mas)) := PEimp (pe_tup h) fun σ H Q q => by
  obtain ⟨L, st, env, r, st', at_, hm, hp⟩ := q
  refine tMA_bnd at_ hm hp.err fun ds st1 vs L1 H1 h1 e1 a1 dv => ?_
  split at h1
  · rename_i hk
    cases h1
    refine ⟨by rw [dv.length]; exact big_line hk.1, fun p hpn => ?_⟩
    exact r_new a1.r hpn (.tup (Ev.off_new a1.r hpn) (Das.mono (new_same a1.r hpn) _ _ (dv.das hk.2))) fun v L' H' e => hp v L' H' (e1.trans e)
  · cases h1
theorem m_new (h : PA X es (tMA G W mas)) : PE X (.List es pos) (tM G W (mNew mas)) := PEimp (pe_lst h) fun σ H Q q => by
  obtain ⟨L, st, env, r, st', at_, hm, hp⟩ := q
  refine tMA_bnd at_ hm hp.err fun ds st1 vs L1 H1 h1 e1 a1 dv => ?_
  split at h1
  · rename_i hk
    cases h1
    refine ⟨by rw [dv.length]; exact big_line hk.1, fun p hpn => ?_⟩
    obtain ⟨e2, r2, v2⟩ := new_cell (G := G) (o := .lst vs) (c := .lst ds) a1.r hpn fun L' H' s h => ⟨vs, h, Das.mono s _ _ (dv.das hk.2)⟩
    exact hp _ _ _ (e1.trans e2) r2 v2
  · cases h1
end
end M


/-! The M layer: built-ins, lists that change, fields, errors. -/
namespace M
open PySem PySem.Spec PyProof.Rows L2

/-! ### in, len, all, int, max, min, tuple -/
def gLen (st : Store) : List D → Option D
  | [x] => match rd st x with
    | .lst xs => some (.int xs.length)
    | .tup xs => some (.int xs.length)
    | .ro xs => some (.int xs.length)
    | .str a => if a.length ≤ big then some (.int a.length) else none
    | .dK kvs => some (.int kvs.length)
    | _ => none
  | _ => none
theorem DasK.length {G : Gb} {H : Hp} : ∀ {ds : List (Key × D)} {vs : List (Key × V)}, DasK G H vs ds → vs.length = ds.length
  | [], _, h => by cases h; rfl
  | (k, d) :: ds, _, h => by
    cases h with
    | cons h r => simp [DasK.length r]
theorem DasT.length {G : Gb} {H : Hp} : ∀ {ds : List (List Key × D)} {vs : List (List Key × V)}, DasT G H vs ds → vs.length = ds.length
  | [], _, h => by cases h; rfl
  | (k, d) :: ds, _, h => by
    cases h with
    | cons h r => simp [DasT.length r]
theorem call_lenDr {X : Cx} : CallR X (.builtin "len") (fun xs H Q => ∃ a kvs, xs = [V.ref a] ∧ Rd H a (.dK kvs) ∧ Q (.int kvs.length) H) := by
  intro pins s σ H xs us Q I r h
  obtain ⟨a, kvs, rfl, ha, q⟩ := h
  obtain ⟨u, rfl, ru⟩ := vals1 r
  cases ru
  exact d_len I ha fun t s' I' => ⟨.int kvs.length, H, I', ⟨t, rfl⟩, q⟩
def rLen (K : PySem.W.Frag) : List V → Hp → VK → Prop := fun xs H Q => (∃ x n, xs = [x] ∧ LenV K x H n ∧ Q (.int n) H) ∨ ∃ a kvs, xs = [V.ref a] ∧ Rd H a (.dK kvs) ∧ Q (.int kvs.length) H
theorem call_lenAny {X : Cx} : CallR X (.builtin "len") (rLen X.K) := call_len.or2 call_lenDr
theorem Das.one {G : Gb} {L : Lv} {H : Hp} {vs : List V} {d : D} (h : Vas G L H vs [d]) : ∃ v, vs = [v] ∧ Va G L H v d := by
  cases h with
  | cons h r => cases r; exact ⟨_, rfl, h⟩
theorem Das.two {G : Gb} {L : Lv} {H : Hp} {vs : List V} {d e : D} (h : Vas G L H vs [d, e]) : ∃ v w, vs = [v, w] ∧ Va G L H v d ∧ Va G L H w e := by
  cases h with
  | cons h r =>
    cases r with
    | cons h' r => cases r; exact ⟨_, _, rfl, h, h'⟩
theorem rc_len {G : Gb} : RCM G (rLen G.K) gLen := fun L st H xs ds z Q R dv hz k => by
  unfold gLen at hz
  split at hz
  · rename_i x
    obtain ⟨v, rfl, hv⟩ := Das.one dv
    split at hz
    · rename_i ys e
      cases hz
      have a := rd_da R hv (by rw [e]; rfl)
      rw [e] at a
      cases a with
      | lst h r => exact .inl ⟨_, ys.length, rfl, .inl ⟨_, .inl (.inl h), r.length.symm⟩, r_same (.int _) R k⟩
    · rename_i ys e
      cases hz
      have a := rd_da R hv (by rw [e]; rfl)
      rw [e] at a
      cases a with
      | tup h r => exact .inl ⟨_, ys.length, rfl, .inr ⟨_, .inl (.inl h), r.length.symm⟩, r_same (.int _) R k⟩
    · rename_i ys e
      cases hz
      have a := rd_da R hv (by rw [e]; rfl)
      rw [e] at a
      cases a with
      | ro h r => exact .inl ⟨_, ys.length, rfl, .inl ⟨_, h, r.length.symm⟩, r_same (.int _) R k⟩
    · rename_i y e
      split at hz
      · rename_i hl
        cases hz
        rw [rd_str e] at hv
        cases hv.str_inv
        exact .inl ⟨_, y.length, rfl, ⟨big_line hl, rfl⟩, r_same (.int _) R k⟩
      · cases hz
    · rename_i ys e
      cases hz
      have a := rd_da R hv (by rw [e]; rfl)
      rw [e] at a
      cases a with
      | dK h r => exact .inr ⟨_, _, rfl, h, by rw [r.length]; exact r_same (.int _) R k⟩
    · cases hz
  · cases hz
def gMax2 (_ : Store) : List D → Option D
  | [.int i, .int j] => some (.int (if j > i then j else i))
  | _ => none
def gMin2 (_ : Store) : List D → Option D
  | [.int i, .int j] => some (.int (if j < i then j else i))
  | _ => none
def rMax2 : List V → Hp → VK → Prop := fun xs H Q => ∃ i j, xs = [.int i, .int j] ∧ Q (.int (if j > i then j else i)) H
def rMin2 : List V → Hp → VK → Prop := fun xs H Q => ∃ i j, xs = [.int i, .int j] ∧ Q (.int (if j < i then j else i)) H
theorem call_mx {X : Cx} (hc : X.calm = true) : CallR X (.builtin "max") rMax2 := call_max2 hc
theorem call_mn {X : Cx} (hc : X.calm = true) : CallR X (.builtin "min") rMin2 := call_min2 hc
theorem rc_max2 {G : Gb} : RCM G rMax2 gMax2 := fun L st H xs ds z Q R dv hz k => by
  unfold gMax2 at hz
  split at hz
  · cases hz
    obtain ⟨v, w, rfl, h1, h2⟩ := Das.two dv
    cases h1.int_inv
    cases h2.int_inv
    exact ⟨_, _, rfl, r_same (.int _) R k⟩
  · cases hz
theorem rc_min2 {G : Gb} : RCM G rMin2 gMin2 := fun L st H xs ds z Q R dv hz k => by
  unfold gMin2 at hz
  split at hz
  · cases hz
    obtain ⟨v, w, rfl, h1, h2⟩ := Das.two dv
    cases h1.int_inv
    cases h2.int_inv
    exact ⟨_, _, rfl, r_same (.int _) R k⟩
  · cases hz
def gInt (_ : Store) : List D → Option D
  | [.int i] => some (.int i)
  | [.bl k] => some (.int (if k then 1 else 0))
  | _ => none
def rInt1 : List V → Hp → VK → Prop := fun xs H Q => (∃ i, xs = [.int i] ∧ Q (.int i) H) ∨ ∃ k, xs = [.bl k] ∧ Q (.int (if k then 1 else 0)) H
theorem call_int {X : Cx} : CallR X (.type "int") rInt1 := call_int1
theorem rc_int {G : Gb} : RCM G rInt1 gInt := fun L st H xs ds z Q R dv hz k => by
  unfold gInt at hz
  split at hz
  · cases hz
    obtain ⟨v, rfl, h1⟩ := Das.one dv
    cases h1.int_inv
    exact .inl ⟨_, rfl, r_same (.int _) R k⟩
  · cases hz
    obtain ⟨v, rfl, h1⟩ := Das.one dv
    cases h1.bl_inv
    exact .inr ⟨_, rfl, r_same (.int _) R k⟩
  · cases hz
theorem rd_tup {st : Store} {d : D} {i : List D} (e : rd st d = .tup i) : d = .tup i := by
  cases d with
  | ref j => unfold rd at e; dsimp only at e; split at e <;> cases e
  | _ => exact e
/-! ### items -/
def gIx (st : Store) (x y : D) : Option D := match rd st x, y with
  | .lst xs, .int i => atI xs i
  | .tup xs, .int i => atI xs i
  | .ro xs, .int i => atI xs i
  | _, _ => none
theorem Das.atI {G : Gb} {H : Hp} {vs : List V} {ds : List D} {i : Int} {d : D} (h : Das G H vs ds) (e : L2.atI ds i = some d) : ∃ v, L2.atI vs i = some v ∧ Da G H v d := by
  unfold L2.atI at e ⊢
  rw [h.length]
  cases hn : ixN ds.length i with
  | none => rw [hn] at e; cases e
  | some j =>
    rw [hn] at e
    exact h.getD (i := j) e
def rIx (K : PySem.W.Frag) : R2 := fun x y H Q => rIxL K x y H Q ∨ rIxT K x y H Q
theorem ix_any {X : Cx} : IxR X (rIx X.K) := ix_list.or ix_tup
theorem r2_ix {G : Gb} : R2M G (rIx G.K) gIx := fun L st H x y d e z Q R dx dy hz k => by
  unfold gIx at hz
  split at hz
  · rename_i xs i h1
    obtain ⟨a, vs, rfl, h, r⟩ := rd_off R dx h1
    obtain ⟨v, q1, q2⟩ := r.atI hz
    exact .inl ⟨a, vs, i, v, rfl, dy.int_inv, .inl (.inl h), q1, r_same q2 R k⟩
  · rename_i xs i h1
    rw [rd_tup h1] at dx
    obtain ⟨a, vs, rfl, h, r⟩ := dx.tup_inv
    obtain ⟨v, q1, q2⟩ := r.atI hz
    exact .inr ⟨a, vs, i, v, rfl, dy.int_inv, .inl (.inl (off_some h).1), q1, r_same q2 R k⟩
  · rename_i xs i h1
    have e2 : d = .ro xs := by
      cases d with
      | ref j => unfold rd at h1; dsimp only at h1; split at h1 <;> cases h1
      | _ => exact h1
    subst e2
    obtain ⟨a, vs, rfl, h, r⟩ := dx.ro_inv
    obtain ⟨v, q1, q2⟩ := r.atI hz
    exact .inl ⟨a, vs, i, v, rfl, dy.int_inv, off_sq h, q1, r_same q2 R k⟩
  · cases hz

/-! ### a cell is written -/
theorem cell_write {G : Gb} {L : Lv} {H : Hp} {st : Store} {i : Nat} {a : Addr} {o : HO} {c : Cell} (R : Rep G L st H) (hi : L.c[i]? = some (some a)) (hc : ∀ H', off L H' = off L H → H' a = some o → CellR G L H' (some a) c) :
    Ev L H L (upd H a o) ∧ Rep G L (st.set i c) (upd H a o) := by
  have ha : some a ∈ L.c := List.mem_of_getElem? hi
  have eo : off L (upd H a o) = off L H := by
    funext b
    unfold off
    by_cases e : b = a
    · subst e
      rw [if_pos (.inl ha), if_pos (.inl ha)]
    · rw [upd_ne e]
  have hl : i < st.length := by rw [← R.len]; exact (List.getElem?_eq_some_iff.mp hi).1
  refine ⟨⟨Le.refl L, fun j b hj h => (no_at hj h).elim, by rw [eo]; exact Rl.of_same (Same.refl _), fun b h => ?_, rfl, fun b hb => ?_⟩, ⟨by rw [List.length_set]; exact R.len, R.inj, fun j x c' hx hc' => ?_, fun b hb => ⟨?_, (R.hid b hb).2⟩, ?_⟩⟩
  · obtain ⟨u, hu, _, n1, _⟩ := (hc _ eo upd_same).kind
    rw [upd_same] at hu
    exact (gone_upd h (Option.some.inj hu ▸ n1)).2
  · exact upd_ne fun e => (R.hid b hb).2 (e ▸ ha)
  · by_cases e : i = j
    · subst e
      rw [List.getElem?_set_self hl] at hc'
      cases hc'
      rw [hi] at hx
      cases hx
      exact hc _ eo upd_same
    · rw [List.getElem?_set_ne e] at hc'
      refine CellR.same (L := L) (H := H) (by rw [eo]; exact Same.refl _) rfl (fun b u ex h => ?_) (R.cell j x c' hx hc')
      have nb : b ≠ a := fun z => e (R.inj i j a hi (by rw [hx, ex, z]))
      rw [upd_ne nb]
      exact h
  · rw [upd_ne (fun e : b = a => (R.hid b hb).2 (e ▸ ha))]
    exact (R.hid b hb).1
  · obtain ⟨u, hu, _, n1, n2⟩ := R.liveO ha
    exact tabs_upd R.tabs hu n1 n2
/-- the cell that a value names -/
theorem cell_of {G : Gb} {L : Lv} {H : Hp} {st : Store} {i : Nat} {v : V} {c : Cell} (R : Rep G L st H) (h : Va G L (off L H) v (.ref i)) (hc : st[i]? = some c) (nd : c ≠ .dead) : ∃ a, v = .ref a ∧ L.c[i]? = some (some a) ∧ CellR G L H (some a) c := by
  cases h with
  | d h => cases h
  | @ref a _ hi ha =>
    have hcl : L.c[i]? = some L.c[i] := List.getElem?_eq_getElem hi
    have cr := R.cell i _ _ hcl hc
    cases hx : L.c[i] with
    | none =>
      rw [hx] at cr
      cases c <;> first | exact cr.elim | exact (nd rfl).elim
    | some b =>
      rw [hx] at cr hcl
      obtain rfl := ha b hcl
      exact ⟨_, rfl, hcl, cr⟩
section
variable {G : Gm} {W : WX} {X : Cx} {o e : Expr} {es : List Expr} {mo : ME} {mas : MA} {name : Str} {apos cpos : Pos} {id : String} {r : V → List V → Hp → VK → Prop} {g : Store → D → List D → Option (D × Store)}
end
end M


/-! The M layer: isinstance, fields, enumerate, dict comprehensions, errors. -/
namespace M
open PySem PySem.Spec PyProof.Rows L2

/-! ### isinstance -/
structure KIs (G : Gb) (ids : List Nat) : Prop where
  cl : ∀ c ∈ ids, Cls G.K (G.cA c)
  ha : ∀ c ∈ ids, PySem.W.findIn G.K (.ref (G.cA c)) "__class__" = some (some (.builtin "object.__class__"))
  hm : ∀ c ∈ ids, PySem.W.mroIn G.K (G.cA c) (.type "object") = some true
  hn : PySem.W.specialIn G.K (.builtin "object.__class__") "__get__" = some (some (.builtin "getset_descriptor.__get__"))
  ht : PySem.W.takesIn G.K (.builtin "object.__class__") = some true
  oo : ∀ c ∈ ids, ∀ k ∈ ids, PySem.W.kitOne G.K (.ref (G.cA c)) (.ref (G.cA k)) = some (c == k)
  bo : ∀ (t : Tag), ∀ c ∈ ids, PySem.W.kitOne G.K (.type t.name) (.ref (G.cA c)) = some false
  ob : ∀ c ∈ ids, ∀ (t : Tag), PySem.W.kitOne G.K (.ref (G.cA c)) (.type t.name) = some false
def tag0 : D → Option (Sum Tag Nat)
  | .non => some (.inl .non)
  | .bl _ => some (.inl .bl)
  | .int _ => some (.inl .int)
  | .str _ => some (.inl .str)
  | .lst _ => some (.inl .lst)
  | .tup _ => some (.inl .tup)
  | .dK _ => some (.inl .dic)
  | .dT _ => some (.inl .dic)
  | .obj c _ => some (.inr c)
  | _ => none
def tagD (st : Store) (x : D) : Option (Sum Tag Nat) := tag0 (rd st x)
def isi1 (ids : List Nat) : Sum Tag Nat → D → Option Bool
  | .inl a, .ty b => some (decide (a = b) || (decide (a = .bl) && decide (b = .int)))
  | .inl _, .cls c => if c ∈ ids then some false else none
  | .inr k, .cls c => if k ∈ ids ∧ c ∈ ids then some (k == c) else none
  | .inr k, .ty _ => if k ∈ ids then some false else none
  | _, _ => none
def isiAny (ids : List Nat) (t : Sum Tag Nat) : List D → Option Bool
  | [] => some false
  | c :: cs => match isi1 ids t c, isiAny ids t cs with
    | some a, some b => some (a || b)
    | _, _ => none
def gIsi (ids : List Nat) (st : Store) : List D → Option D
  | [x, c] => match tagD st x with
    | some t => (match c with
      | .tup (c :: cs) => (isiAny ids t (c :: cs)).map .bl
      | c => (isi1 ids t c).map .bl)
    | none => none
  | _ => none
end M


/-! The M layer: fields, item stores, slices, more walks, dicts made. -/
namespace M
open PySem PySem.Spec PyProof.Rows L2

/-! ### fields -/
structure KFl (G : Gb) (f : Str) (ids : List Nat) : Prop where
  cl : ∀ c ∈ ids, Cls G.K (G.cA c)
  no : ∀ c ∈ ids, NoAttr G.K (G.cA c) f
def gFld (ids : List Nat) (f : Str) (st : Store) : D → Option D
  | .obj c fs => if c ∈ ids then fs.lookup f else none
  | .ref i => match st[i]? with
    | some (.ins c fs) => if c ∈ ids then fs.lookup f else none
    | _ => none
  | _ => none
section
variable {G : Gb} {L : Lv} {H : Hp} {f : Str}
theorem DasF.look : ∀ {ds : List (Str × D)} {vs : List (Str × V)} {d : D}, DasF G H vs ds → ds.lookup f = some d → ∃ v, vs.lookup f = some v ∧ Da G H v d
  | [], _, _, h, e => by cases e
  | (k, x) :: ds, _, d, h, e => by
    cases h with
    | @cons _ v vs _ _ h r =>
      rw [List.lookup_cons] at e ⊢
      by_cases q : (f == k) = true
      · rw [q] at e ⊢
        cases e
        exact ⟨_, rfl, h⟩
      · rw [Bool.not_eq_true] at q
        rw [q] at e ⊢
        exact DasF.look r e
theorem VasF.look : ∀ {vs : List (Str × V)} {ds : List (Str × D)} {d : D}, VasF G L H vs ds → ds.lookup f = some d → ∃ v, vs.lookup f = some v ∧ Va G L H v d
  | _, _, _, .nil, e => by cases e
  | _, _, _, @VasF.cons _ _ _ k v vs x ds h r, e => by
    rw [List.lookup_cons] at e ⊢
    by_cases q : (f == k) = true
    · rw [q] at e ⊢
      cases e
      exact ⟨_, rfl, h⟩
    · rw [Bool.not_eq_true] at q
      rw [q] at e ⊢
      exact VasF.look r e
def putFd (f : Str) (d : D) : List (Str × D) → List (Str × D)
  | [] => [(f, d)]
  | (g, x) :: r => if g = f then (g, d) :: r else (g, x) :: putFd f d r
theorem VasF.put {v : V} {d : D} (hv : Va G L H v d) : ∀ {vs : List (Str × V)} {ds : List (Str × D)}, VasF G L H vs ds → VasF G L H (putF f v vs) (putFd f d ds)
  | _, _, .nil => .cons hv .nil
  | _, _, @VasF.cons _ _ _ k w vs x ds h r => by
    unfold putF putFd
    by_cases e : k = f
    · rw [if_pos e, if_pos e]
      exact .cons hv r
    · rw [if_neg e, if_neg e]
      exact .cons h (VasF.put hv r)
theorem VasF.length : ∀ {vs : List (Str × V)} {ds : List (Str × D)}, VasF G L H vs ds → vs.length = ds.length
  | _, _, .nil => rfl
  | _, _, .cons h r => by simp [VasF.length r]
end
section
variable {G : Gm} {W : WX} {X : Cx} {o e value : Expr} {f : Str} {pos pos' : Pos} {ids : List Nat} {mo mv me : ME}
/-! ### item stores on a list cell -/
def gPut (st : Store) (o i v : D) : Option Store := match o, i with
  | .ref j, .int k => match st[j]? with
    | some (.lst xs) => (match ixN xs.length k with
      | some n => if isD v = true then some (st.set j (.lst (xs.set n v))) else none
      | none => none)
    | _ => none
  | _, _ => none
/-- o[i] = v: v first -/
def mPut (mo mi mv : ME) : MS := fun env st => bndS (mv env st) env fun v st => bndS (mo env st) env fun o st => bndS (mi env st) env fun i st => match gPut st o i v with
  | some st => some (.next, env, st)
  | none => none
theorem Das.set {G : Gb} {H : Hp} {v : V} {d : D} (hv : Da G H v d) : ∀ {ds : List D} {vs : List V} (n : Nat), Das G H vs ds → Das G H (vs.set n v) (ds.set n d)
  | [], _, n, h => by cases h; exact .nil
  | x :: ds, _, 0, h => by
    cases h with
    | cons h r => exact .cons hv r
  | x :: ds, _, n + 1, h => by
    cases h with
    | cons h r => exact .cons h (Das.set hv n r)
theorem ms_put {i : Expr} {mi : ME} (hv : PE X value (tM G W mv)) (ho : PE X o (tM G W mo)) (hi : PE X i (tM G W mi))
    (hs : swapsWithSole [.Subscript o i pos'] value pos.line X.env = pure false := by rfl) (hw : swappedStores [.Subscript o i pos'] value X.env = pure none := by rfl)
    (h1 : (assignEach [.Subscript o i pos'] X.env).map (·.2) = [assign (.Subscript o i pos') X.env] := by rfl)
    (ha : ∀ v, assign (.Subscript o i pos') X.env v = (do
      let ov ← holding [v] (eval o X.env)
      let iv ← holding [v, ov] (eval i X.env)
      standAt pos'
      holding [v, ov, iv] (setItem ov iv v)
      release [v, ov, iv] []) := by intro _; rfl) :
    PS X (.Assign [.Subscript o i pos'] value pos) (tMS G W (mPut mo mi mv)) := PSimp (ps_asg hv (pg_sub ho hi set_list ha) hs hw h1) fun D σ H q => by
  obtain ⟨L, st, env, fl, env', st', at_, hm, hp⟩ := q
  refine tM_bndS at_ hm (hp.err at_) fun v st1 y L1 H1 h1 e1 a1 dv => ?_
  refine tM_bndS a1 h1 ((hp.ev e1).err a1) fun o st2 x L2 H2 h2 e2 a2 dx => ?_
  refine tM_bndS a2 h2 (((hp.ev e1).ev e2).err a2) fun i st3 z L3 H3 h3 e3 a3 dz => ?_
  split at h3
  · rename_i st4 hg
    cases h3
    unfold gPut at hg
    split at hg
    · rename_i j k
      split at hg
      · rename_i xs hj
        split at hg
        · rename_i n hn
          split at hg
          · rename_i hpure
            cases hg
            obtain ⟨a, rfl, hL, cr⟩ := cell_of a3.r (e3.va dx) hj (fun z => nomatch z)
            obtain ⟨vs, q, r⟩ := cr
            have rr := Das.set (e3.da ((e2.va dv).da hpure)) n r
            obtain ⟨e4, r4⟩ := cell_write (o := .lst (vs.set n y)) (c := .lst (xs.set n v)) a3.r hL fun H' eo h => ⟨_, h, by rw [eo]; exact rr⟩
            refine ⟨a, vs, k, n, rfl, dz.int_inv, q, by rw [r.length]; exact hn, ?_⟩
            exact hp _ _ _ (((e1.trans e2).trans e3).trans e4) r4 (a3.e.ev e4)
          · cases hg
        · cases hg
      · cases hg
    · cases hg
  · cases h3
end

/-! ### slices -/
section
variable {G : Gm} {W : WX} {X : Cx} {o e value : Expr} {pos pos' p2 : Pos} {me : ME}
end

/-! ### more walks -/
section
variable {G : Gb} {L : Lv} {H : Hp} {st : Store} {a : Addr} {vs : List V} {ds : List D}
def enumD : Nat → List D → List D
  | _, [] => []
  | n, d :: ds => .tup [.int (n : Nat), d] :: enumD (n + 1) ds
theorem enumD_length : ∀ (n : Nat) (ds : List D), (enumD n ds).length = ds.length
  | _, [] => rfl
  | n, d :: ds => by
    show (enumD (n + 1) ds).length + 1 = ds.length + 1
    rw [enumD_length]
theorem enumD_get : ∀ {n i : Nat} {ds : List D} {e : D}, (enumD n ds)[i]? = some e → ∃ d, ds[i]? = some d ∧ e = .tup [.int ((n + i : Nat) : Int), d]
  | _, _, [], _, h => by simp [enumD] at h
  | n, 0, d :: ds, e, h => by
    simp [enumD] at h
    exact ⟨d, rfl, h.symm⟩
  | n, i + 1, d :: ds, e, h => by
    have h' : (enumD (n + 1) ds)[i]? = some e := by simpa [enumD] using h
    obtain ⟨d', q1, q2⟩ := enumD_get h'
    refine ⟨d', by simpa using q1, ?_⟩
    rw [q2]
    have : n + 1 + i = n + (i + 1) := by omega
    rw [this]
theorem pair_new {L' : Lv} {H' : Hp} {st : Store} {T : Addr} {i : Nat} {v : V} {d : D} (R : Rep G L' st H') (hT : H' T = none) (dv : Da G (off L' H') v d) :
    Ev L' H' L' (upd H' T (.tup [.int (i : Nat), v])) ∧ Rep G L' st (upd H' T (.tup [.int (i : Nat), v])) ∧ Da G (off L' (upd H' T (.tup [.int (i : Nat), v]))) (.ref T) (.tup [.int (i : Nat), d]) := by
  have e := Ev.new1 (G := G) R (o := .tup [.int (i : Nat), v]) hT
  exact ⟨e, Rep.new1 R hT, .tup (Ev.off_new R hT) (.cons (.int _) (.cons (e.da dv) .nil))⟩
theorem walk_enumL (h : SqL G.K (off L H) a vs) (r : Das G (off L H) vs ds) : WalkD G (Ite G.K a) (enumD 0 ds) L H := by
  have sq : ∀ L' H', Rl (off L H) (off L' H') → SqL G.K H' a vs := fun L' H' e => by
    rcases h with h | h
    · rcases h with h | ⟨o, h⟩
      · exact .inl (.inl (off_some (e.lst _ _ h)).1)
      · exact .inl (.inr ⟨o, (off_some (e.frz _ _ _ h)).1⟩)
    · exact .inr h
  refine ⟨fun i L' H' e hi => ?_, fun i L' H' st d e R hd x H2 y => ?_, fun L' H' e => ⟨vs, sq _ _ e, by rw [r.length, enumD_length]; exact Nat.le_refl _⟩⟩
  · have hv : i < vs.length := by rw [r.length]; rw [enumD_length] at hi; exact hi
    exact ⟨vs, vs[i], sq _ _ e, List.getElem?_eq_getElem hv⟩
  · obtain ⟨T, x, rfl, hT, rfl, y⟩ := y
    obtain ⟨d', q1, rfl⟩ := enumD_get hd
    obtain ⟨v, hv, dv⟩ := r.getD q1
    have hx := y vs (sq _ _ e)
    rw [hv] at hx
    cases hx
    rw [Nat.zero_add]
    exact pair_new R hT (Da.mono e _ _ dv)
theorem walk_enumT (h : off L H a = some (.tup vs)) (r : Das G (off L H) vs ds) : WalkD G (Itet G.K a) (enumD 0 ds) L H := by
  have sq : ∀ L' H', Rl (off L H) (off L' H') → SqT G.K H' a vs := fun L' H' e => .inl (.inl (off_some (e.tup _ _ h)).1)
  refine ⟨fun i L' H' e hi => ?_, fun i L' H' st d e R hd x H2 y => ?_, fun L' H' e => ⟨vs, sq _ _ e, by rw [r.length, enumD_length]⟩⟩
  · have hv : i < vs.length := by rw [r.length]; rw [enumD_length] at hi; exact hi
    exact ⟨vs, vs[i], sq _ _ e, List.getElem?_eq_getElem hv⟩
  · obtain ⟨T, x, rfl, hT, rfl, y⟩ := y
    obtain ⟨d', q1, rfl⟩ := enumD_get hd
    obtain ⟨v, hv, dv⟩ := r.getD q1
    have hx := y vs (sq _ _ e)
    rw [hv] at hx
    cases hx
    rw [Nat.zero_add]
    exact pair_new R hT (Da.mono e _ _ dv)
def charsD (x : Str) : List D := x.cps.toList.map fun c => .str ⟨#[c]⟩
end
section
variable {G : Gm} {W : WX} {X : Cx} {tg e l : Expr} {ma : ME} {mas : MA}
def mItStr (m : ME) : MA := fun env st => bnd (m env st) fun d st => match d with
  | .str x => some (.ok (charsD x), st)
  | _ => none
/-- enumerate of a list or a tuple that stays -/
def mEnum (m : ME) : MA := fun env st => bnd (m env st) fun d st => match d with
  | .lst ds => some (.ok (enumD 0 ds), st)
  | .ro ds => some (.ok (enumD 0 ds), st)
  | .tup ds => some (.ok (enumD 0 ds), st)
  | _ => none
theorem mCons1 {env : En} {st st1 : Store} {d : D} (h : ma env st = some (.ok d, st1)) : mCons ma mNil env st = some (.ok [d], st1) := by unfold mCons; rw [h]; rfl
theorem mCons1e {env : En} {st st1 : Store} {x : Xn} (h : ma env st = some (.err x, st1)) : mCons ma mNil env st = some (.err x, st1) := by unfold mCons; rw [h]; rfl
theorem Vas.one_inv {L : Lv} {H : Hp} {vs : List V} {d : D} (h : Vas G L H vs [d]) : ∃ v, vs = [v] ∧ Va G L H v d := by
  cases h with
  | cons h r => cases r; exact ⟨_, rfl, h⟩
theorem mi_enum {p pos tpos : Pos} {elts : List Expr} {kk : Nat} (hg : Gl X "enumerate") (hm : X.mg "enumerate" = none) (hK : G.K = X.K) (he : PE X e (tM G W ma)) (hs : starEach [e] X.env = [(false, eval e X.env)] := by rfl) (hs2 : starEach [e] X.env = (false, eval e X.env) :: starEach [] X.env := by rfl) :
    PI X (.Tuple elts kk tpos) (.Call (.Name "enumerate" p) [e] [] pos) (tMI G W (mEnum ma)) := PIimp (pi_or2 (pi_enum hg hm (m_cons he m_nil hs2) hs) (pi_enumT hg hm (m_cons he m_nil hs2) hs)) fun σ H R q => by
  obtain ⟨L, st, env, r, st', at_, hm, hp⟩ := q
  rcases bnd_cases hm with ⟨d, st1, h1, h2⟩ | ⟨x, h1, rfl⟩
  · cases d with
    | lst ds =>
      cases h2
      refine .inl ⟨L, st, env, .ok [.lst ds], _, at_, mCons1 h1, fun ws L1 H1 e1 r1 dv => ?_⟩
      obtain ⟨v, rfl, dw⟩ := Vas.one_inv dv
      obtain ⟨a, vs, rfl, h, rr⟩ := dw.lst_inv
      exact ⟨a, vs, rfl, .inl (.inl (off_some h).1), hK ▸ hp _ L1 H1 e1 r1 (walk_enumL (G := G) (.inl (.inl h)) rr)⟩
    | ro ds =>
      cases h2
      refine .inl ⟨L, st, env, .ok [.ro ds], _, at_, mCons1 h1, fun ws L1 H1 e1 r1 dv => ?_⟩
      obtain ⟨v, rfl, dw⟩ := Vas.one_inv dv
      obtain ⟨a, vs, rfl, h, rr⟩ := dw.ro_inv
      exact ⟨a, vs, rfl, hK ▸ off_sq h, hK ▸ hp _ L1 H1 e1 r1 (walk_enumL (G := G) h rr)⟩
    | tup ds =>
      cases h2
      refine .inr ⟨L, st, env, .ok [.tup ds], _, at_, mCons1 h1, fun ws L1 H1 e1 r1 dv => ?_⟩
      obtain ⟨v, rfl, dw⟩ := Vas.one_inv dv
      obtain ⟨a, vs, rfl, h, rr⟩ := dw.tup_inv
      exact ⟨a, vs, rfl, .inl (.inl (off_some h).1), hK ▸ hp _ L1 H1 e1 r1 (walk_enumT (G := G) h rr)⟩
    | _ => cases h2
  · exact .inl ⟨L, st, env, .err x, _, at_, mCons1e h1, hp⟩
end
end M


/-! The M layer: dict comprehensions and displays; errors of one's own: made, raised, caught. -/
namespace M
open PySem PySem.Spec PyProof.Rows L2

/-! ### a step that only adds -/
theorem same_ev {G : Gb} {L : Lv} {H H' : Hp} {st : Store} (R : Rep G L st H) (s : Same H H') : Ev L H L H' ∧ Rep G L st H' := by
  have ev : Ev L H L H' :=
    ⟨Le.refl L, fun i a hi h => (no_at hi h).elim, fun b u h => by
      obtain ⟨h1, h2⟩ := off_some h
      exact .inl (off_of (s _ _ h1) h2), fun _ => gone_more s, rfl, fun a ha => by
      cases e : H a with
      | none => exact absurd e (R.hid a ha).1.ne
      | some o => rw [s _ _ e]⟩
  exact ⟨ev, R.len, R.inj, fun i x c hx hc => CellR.ev ev (fun a o _ h => s _ _ h) (R.cell i x c hx hc), fun a ha => ⟨by rw [ev.keep a ha]; exact (R.hid a ha).1, (R.hid a ha).2⟩, R.tabs.ext s⟩

/-! ### dicts: keys ints and texts -/
def keyD : D → Option Key
  | .int i => some (.inl i)
  | .str x => some (.inr x)
  | _ => none
theorem keyD_kV {G : Gb} {L : Lv} {H : Hp} {v : V} {d : D} {k : Key} (h : Va G L H v d) (e : keyD d = some k) : v = kV k := by
  cases d with
  | int i => cases e; exact h.int_inv
  | str x => cases e; exact h.str_inv
  | _ => cases e
def putKd {κ : Type} [DecidableEq κ] (kvs : List (κ × D)) (k : κ) (d : D) : List (κ × D) :=
  if (kvs.any fun kv => decide (kv.1 = k)) = true then kvs.map (fun kv => if kv.1 = k then (kv.1, d) else kv) else kvs ++ [(k, d)]
section
variable {G : Gb} {H : Hp}
theorem DasK.any (k : Key) : ∀ {ds : List (Key × D)} {vs : List (Key × V)}, DasK G H vs ds → (vs.any fun kv => decide (kv.1 = k)) = (ds.any fun kv => decide (kv.1 = k))
  | [], _, h => by cases h; rfl
  | (j, d) :: ds, _, h => by
    cases h with
    | cons h r =>
      rw [List.any_cons, List.any_cons, DasK.any k r]
theorem DasK.setAt (k : Key) {v : V} {d : D} (hv : Da G H v d) : ∀ {ds : List (Key × D)} {vs : List (Key × V)}, DasK G H vs ds → DasK G H (vs.map fun kv => if kv.1 = k then (kv.1, v) else kv) (ds.map fun kv => if kv.1 = k then (kv.1, d) else kv)
  | [], _, h => by cases h; exact .nil
  | (j, x) :: ds, _, h => by
    cases h with
    | cons h r =>
      rw [List.map_cons, List.map_cons]
      by_cases e : j = k
      · rw [if_pos e, if_pos e]
        exact .cons hv (DasK.setAt k hv r)
      · rw [if_neg e, if_neg e]
        exact .cons h (DasK.setAt k hv r)
theorem DasK.append : ∀ {ds es : List (Key × D)} {vs us : List (Key × V)}, DasK G H vs ds → DasK G H us es → DasK G H (vs ++ us) (ds ++ es)
  | [], _, _, _, h, g => by cases h; exact g
  | (j, x) :: ds, _, _, _, h, g => by
    cases h with
    | cons h r => exact .cons h (DasK.append r g)
theorem DasK.put (k : Key) {v : V} {d : D} (hv : Da G H v d) {ds : List (Key × D)} {vs : List (Key × V)} (h : DasK G H vs ds) : DasK G H (putK vs k v) (putKd ds k d) := by
  unfold putK putKd
  rw [DasK.any k h]
  split
  · exact DasK.setAt k hv h
  · exact h.append (.cons hv .nil)
theorem DasK.len : ∀ {ds : List (Key × D)} {vs : List (Key × V)}, DasK G H vs ds → vs.length = ds.length
  | [], _, h => by cases h; rfl
  | (j, x) :: ds, _, h => by
    cases h with
    | cons h r => simp [DasK.len r]
end
section
variable {G : Gm} {W W0 : WX} {X : Cx} {kx vx tg iter : Expr} {ifs : List Expr} {scope : Scope} {own : List (Str × Nat)} {pos : Pos} {mi : MA} {g : TG} {t : Tg} {mt : MT} {mk mv : ME}
end
/-! displays -/
/-- {} that stays empty -/
def mDNil : ME := fun _ st => some (.ok (.dK []), st)
def mergeD (kvs more : List (Key × D)) : List (Key × D) := more.foldl (fun acc kv => putKd acc kv.1 kv.2) kvs
section
variable {G : Gm} {W : WX} {X : Cx} {pos : Pos}
theorem m_dnil : PE X (.Dict [] [] pos) (tM G W mDNil) := PEimp pe_dnewK fun σ H Q q => by
  obtain ⟨L, st, env, r, st', at_, hm, hp⟩ := q
  cases hm
  exact fun p hpn => hp _ _ _ (Ev.new1 (G := G) at_.r hpn) (Rep.new1 at_.r hpn) (.d (.dK (.inl (Ev.off_new at_.r hpn)) .nil))
theorem DasK.merge {G : Gb} {H : Hp} : ∀ {es : List (Key × D)} {us : List (Key × V)} {ds : List (Key × D)} {vs : List (Key × V)}, DasK G H us es → DasK G H vs ds → DasK G H (mergeK vs us) (mergeD ds es)
  | [], _, _, _, h, g => by cases h; exact g
  | (k, d) :: es, _, ds, vs, h, g => by
    cases h with
    | @cons _ v us _ _ h r => exact (show DasK G H (mergeK (putK vs k v) us) (mergeD (putKd ds k d) es) from DasK.merge r (DasK.put k h g))
end

/-! ### an error of one's own: its __init__ -/
section
variable {P : Program} {w : World} {K : PySem.W.Frag} {mg : Str → Option Value} {base : Heap} {X : Cx}
def tEInit (K : PySem.W.Frag) (f m : Str) : TS := tSeq (tDrop (tVeI K (tCons (tVar 0) (tCons (tC (.str m)) tNil)))) (tOst K f (tVar 0) (tVar 1))
theorem pure_einit {f m self : Str} {C : Addr} (T : OexC K C) (no : PySem.W.findIn K (.ref C) f = some none) (vs : List V) (H : Hp) (Q : VK) (E : XK) (h : spXI f K C vs H Q E) :
    tEInit K f m { nx := fun _ H' => Q .non H', rt := Q } (start [self, f] vs) H := by
  obtain ⟨a, y, rfl, ea, q⟩ := h
  refine ⟨_, rfl, a, C, [.str m], rfl, by show 1 ≤ 1000; decide, T, ea, ?_⟩
  exact ⟨_, rfl, _, rfl, a, C, rfl, T, no, .inl ⟨ea, fun dx h1 h2 => q dx h1 h2⟩⟩
end

/-! ### raised -/
section
variable {G : Gm} {W : WX} {X : Cx} {e : Expr} {me : ME} {pos pos2 p : Pos} {x f : Str} {c k : Nat} {fI : Addr} {fd : FuncData} {ps : List Str}
end

/-! ### caught -/
def Gx (G : Gm) (i : Nat) (a : Addr) (cls : Value) (d : Option Addr) (x : Xn) : Gm :=
  ⟨G.toGb, fun σ H => G.P σ H ∧ σ[i]? = some (some (.ref a)) ∧ XnR G.toGb H x cls d, fun σ H H' s ⟨h1, h2, h3⟩ => ⟨G.up _ _ _ s h1, h2, by
    exact ⟨h3.1, h3.2.imp id fun ⟨e, vs, z2, z3, z4⟩ => ⟨e, vs, z2, s.xd _ _ z3, DasF.mono s _ _ z4⟩⟩⟩⟩
def W0 : WX := fun _ _ _ _ => False
def tsX (G : Gm) (mx : Xn → MS) (i : Nat) (a : Addr) (cls : Value) (d : Option Addr) : TS := fun D σ H => ∃ x, tMS (Gx G i a cls d x) W0 (mx x) D σ H
section
variable {G : Gm} {W : WX} {X : Cx} {x n : Str} {c : Value} {i : Nat} {body suite : List Stmt} {b₀ : Stmt} {np pos pos' : Pos} {mb : MS} {mx : Xn → MS} {ids : List Nat} {hit : Nat → Bool}
theorem EnvR.other {G : Gb} {L : Lv} {H : Hp} {σ : L2.St} {env : En} (h : EnvR G L H σ env) (i : Nat) (o : Option V) : EnvR G L H (σ.set i o) (env.set i none) :=
  ⟨by rw [List.length_set, List.length_set]; exact h.len, fun j x q => by
    by_cases e : i = j
    · subst e
      have hi : i < env.length := by
        have := (List.getElem?_eq_some_iff.mp q).1
        rw [List.length_set] at this
        exact this
      rw [List.getElem?_set_self hi] at q
      cases q
    · rw [List.getElem?_set_ne e] at q
      rw [List.getElem?_set_ne e]
      exact h.at_ j x q⟩
/-! in the suite: e.f, isinstance(e, C) -/
end
end M


/-! The M layer: displays of dicts. -/
namespace M
open PySem PySem.Spec PyProof.Rows L2
def mPairs2 : List (ME × ME) → En → Store → Option (List (Key × D) × Store)
  | [], _, st => some ([], st)
  | (mk, mv) :: r, env, st => match mk env st with
    | some (.ok y, st1) => match mv env st1 with
      | some (.ok z, st2) => match keyD y with
        | some k => if isD z = true then (match mPairs2 r env st2 with
          | some (kvs, st3) => some ((k, z) :: kvs, st3)
          | none => none) else none
        | none => none
      | _ => none
    | _ => none
def mDisp2 (ps : List (ME × ME)) : ME := fun env st => match mPairs2 ps env st with
  | some (kvs, st) => if kvs.length ≤ 15 then some (.ok (.dK (mergeD [] kvs)), st) else none
  | none => none
section
variable {G : Gm} {W : WX} {X : Cx} {pos : Pos}
theorem At.hide {L : Lv} {st : Store} {σ : L2.St} {env : En} {H : Hp} {p : Addr} {o : HO} (a : At G L st σ env H) (hpn : H p = none) (ho : Hid o := by refine ⟨?_, ?_, ?_⟩ <;> intro _ z <;> cases z) : At G (L.hide p) st σ env (upd H p o) :=
  ⟨⟨a.e.len, fun j d q => by
    obtain ⟨v, q1, q2⟩ := a.e.at_ j d q
    exact ⟨v, q1, Va.mono (L := L) (⟨Nat.le_refl _, fun _ _ _ h => h⟩ : Le L (L.hide p)) (Rl.of_same (hide_same (L := L) hpn)) q2⟩⟩, a.r.hide hpn ho, G.up _ _ _ (Rl.of_same (hide_same (L := L) hpn)) a.p⟩
theorem t_pairs {σ : L2.St} {env : En} : ∀ (ps : List (ME × ME)) (L : Lv) (st st' : Store) (H : Hp) (kvs : List (Key × D)) (Q : List (V × V) → Hp → Prop), At G L st σ env H → mPairs2 ps env st = some (kvs, st') →
    (∀ us L' H', Ev L H L' H' → Rep G L' st' H' → DasK G (off L' H') us kvs → Q (us.map fun kv => (kV kv.1, kv.2)) H') → tPairs (ps.map fun p => (tM G W p.1, tM G W p.2)) σ H Q
  | [], L, st, st', H, kvs, Q, a, h, k => by
    cases h
    exact k [] L H (Ev.refl _ _) a.r .nil
  | (mk, mv) :: r, L, st, st', H, kvs, Q, a, h, k => by
    unfold mPairs2 at h
    cases hk : mk env st with
    | none => rw [hk] at h; cases h
    | some q =>
      obtain ⟨rk, st1⟩ := q
      rw [hk] at h
      cases rk with
      | err _ => cases h
      | ok y =>
        dsimp only at h
        refine ⟨L, st, env, _, st1, a, hk, fun vy L1 H1 e1 r1 dy => ?_⟩
        cases hv : mv env st1 with
        | none => rw [hv] at h; cases h
        | some q =>
          obtain ⟨rv, st2⟩ := q
          rw [hv] at h
          cases rv with
          | err _ => cases h
          | ok z =>
            dsimp only at h
            refine ⟨L1, st1, env, _, st2, a.ev e1 r1, hv, fun vz L2 H2 e2 r2 dz => ?_⟩
            cases hkk : keyD y with
            | none => rw [hkk] at h; cases h
            | some kk =>
              rw [hkk] at h
              dsimp only at h
              split at h
              · rename_i hp
                cases hr : mPairs2 r env st2 with
                | none => rw [hr] at h; cases h
                | some q =>
                  obtain ⟨more, st3⟩ := q
                  rw [hr] at h
                  cases h
                  refine t_pairs r L2 st2 st' H2 more _ ((a.ev e1 r1).ev e2 r2) hr fun us L3 H3 e3 r3 d3 => ?_
                  have hkv := keyD_kV dy hkk
                  subst hkv
                  exact k ((kk, vz) :: us) L3 H3 ((e1.trans e2).trans e3) r3 (.cons (e3.da (dz.da hp)) d3)
              · cases h
theorem m_disp {keys : List (Option Expr)} {values : List Expr} {ps : List (ME × ME)} (h : PPs X pos keys values (ps.map fun p => (tM G W p.1, tM G W p.2))) (hall : keys.all (·.isSome) = true) (hl : keys.length = values.length) (h0 : keys ≠ [])
    (h15 : keys.length ≤ 15) : PE X (.Dict keys values pos) (tM G W (mDisp2 ps)) := PEimp (pe_disp h hall hl h0 h15) fun σ H Q q => by
  obtain ⟨L, st, env, r, st', at_, hm, hp⟩ := q
  unfold mDisp2 at hm
  cases hr : mPairs2 ps env st with
  | none => rw [hr] at hm; cases hm
  | some q =>
    obtain ⟨kvs, st2⟩ := q
    rw [hr] at hm
    dsimp only at hm
    split at hm
    · rename_i hlen
      cases hm
      refine fun p hpn => t_pairs ps _ st _ _ kvs _ (at_.hide hpn) hr fun us L2 H2 e2 r2 d2 => ?_
      have h1 : p ∈ (L.hide p).h := List.mem_cons_self
      have hp2 : p ∈ L2.h := by rw [e2.hh]; exact h1
      have hat : H2 p = some (.dK []) := by rw [e2.keep p h1, upd_same]
      refine ⟨hat, us, rfl, by rw [d2.len]; exact hlen, ?_⟩
      have e3 := Ev.hupd (o' := .dK (mergeK [] us)) e2
      have r3 := r2.hupd (o := .dK (mergeK [] us)) hp2
      refine hp _ _ _ (e3.back at_.r hpn) (Rep.back e3 r3) (.d (.dK (.inl (back_at e3 r3 at_.r hpn)) ?_))
      refine DasK.mono (Rl.of_same (back_same e3)) _ _ ?_
      rw [off_hid hp2]
      exact DasK.merge d2 .nil
    · cases hm
theorem mp_nil : PPs X pos [] [] (([] : List (ME × ME)).map fun p => (tM G W p.1, tM G W p.2)) := pps_nil
theorem mp_cons {k v : Expr} {ks : List (Option Expr)} {vs : List Expr} {mk mv : ME} {ps : List (ME × ME)} (hk : PE X k (tM G W mk)) (hv : PE X v (tM G W mv)) (hr : PPs X pos ks vs (ps.map fun p => (tM G W p.1, tM G W p.2))) :
    PPs X pos (some k :: ks) (v :: vs) (((mk, mv) :: ps).map fun p => (tM G W p.1, tM G W p.2)) := pps_cons hk hv hr
end

/-! ### odds and ends -/
def gNeg (_ : Store) (x : D) : Option D := match x with
  | .int i => some (.int (-i))
  | _ => none
theorem r1_neg {G : Gb} : R1M G (rU fun i => .int (-i)) gNeg := fun L st H x d z Q R dx hz k => by
  unfold gNeg at hz
  split at hz
  · cases hz
    exact ⟨_, dx.int_inv, r_same (.int _) R k⟩
  · cases hz
theorem hu64 {k : Nat} {A : Around} (r : Room k A) : A.units + 64 < cLine := r.units
theorem all_cons {α : Type} {P : α → Prop} {a : α} {as : List α} (h : P a) (r : ∀ x ∈ as, P x) : ∀ x ∈ a :: as, P x := fun x hx => (List.mem_cons.mp hx).elim (fun e => e ▸ h) (r x)
theorem own_noCX {P : Program} {w : World} {st : List Env} {H : Hp} {s : Shared} {e : Value} {s' : Shared} (h : L2.CX P w st H s (fun _ _ _ => False) e s') : False := by
  obtain ⟨_, _, _, _, _, _, _, _, _, _, _, _, z⟩ := h
  exact z
/-- the promise of a law -/
def spLaw (K : PySem.W.Frag) : Sp := fun vs H Q _ => ∃ (a : Addr) (ns : List Int), vs = [.ref a] ∧ SqL K H a (ns.map V.int) ∧ ns.length ≤ 63 ∧ ∀ H', Q (.bl true) H'
/-- .. where defs make lambdas -/
def spLawT (K : PySem.W.Frag) (T : List (Addr × Str)) : Sp := fun vs H Q _ => LamX.Tabs T H ∧ ∃ (a : Addr) (ns : List Int), vs = [.ref a] ∧ SqL K H a (ns.map V.int) ∧ ns.length ≤ 63 ∧ ∀ H', Q (.bl true) H'
theorem own_kit {K : PySem.W.Frag} {C C2 : Addr} {b : Bool} (ic : PySem.W.isClsIn K C2 = true) (ty : PySem.W.typeIn K (.ref C2) = some (.type "type")) (h : PySem.W.subIn K (.ref C) (.ref C2) = some b) (ne : b = true ∨ C ≠ C2) : PySem.W.kitOne K (.ref C) (.ref C2) = some b := by
  have e1 : ((PySem.W.clsIn K C2).isSome && PySem.W.typeIn K (.ref C2) == some (.type "type")) = true := by
    have ic' : (PySem.W.clsIn K C2).isSome = true := ic
    rw [ic', ty] <;> rfl
  have e2 : PySem.W.kitCls K (.ref C) (.ref C2) = some b := by
    show (if ((PySem.W.clsIn K C2).isSome && PySem.W.typeIn K (.ref C2) == some (.type "type")) = true then PySem.W.subIn K (.ref C) (.ref C2) else none) = some b
    rw [if_pos e1]
    exact h
  unfold PySem.W.kitOne
  split
  · rename_i e
    rcases ne with rfl | ne
    · rfl
    · exact absurd (Value.ref.inj (beq_iff_eq.mp e)) ne
  · exact e2
end M


/-! The M layer: mirrors reckoned with. -/
namespace M
open PySem PySem.Spec PyProof.Rows L2

/-! ### rows of a reckoning -/
section
variable {env env1 env2 : En} {st st1 st2 : Store} {ma mb mc : ME} {mas mbs : MA} {mt mu : MT} {m k : MS} {d e z : D} {ds : List D} {b : Bool}
theorem v_var {i : Nat} (h : env[i]? = some (some d)) : mVar i env st = some (.ok d, st) := by unfold mVar; rw [h]
theorem v_op {g : Store → D → D → Option D} (h1 : ma env st = some (.ok d, st1)) (h2 : mb env st1 = some (.ok e, st2)) (h : g st2 d e = some z) : mOp g ma mb env st = some (.ok z, st2) := by
  unfold mOp; rw [h1, bnd_ok, h2, bnd_ok, h]
theorem v_un {g : Store → D → Option D} (h1 : ma env st = some (.ok d, st1)) (h : g st1 d = some z) : mUn g ma env st = some (.ok z, st1) := by
  unfold mUn; rw [h1, bnd_ok, h]
theorem v_cons (h1 : ma env st = some (.ok d, st1)) (h2 : mas env st1 = some (.ok ds, st2)) : mCons ma mas env st = some (.ok (d :: ds), st2) := by
  unfold mCons; rw [h1, bnd_ok, h2, bnd_ok]
theorem v_cb {g : Store → List D → Option D} (h1 : mas env st = some (.ok ds, st1)) (h : g st1 ds = some z) : mCB g mas env st = some (.ok z, st1) := by
  unfold mCB; rw [h1, bnd_ok, h]
theorem v_call {n : Nat} {c : Call} (h1 : mas env st = some (.ok ds, st1)) (hn : ds.length = n) {r : Option (Rs D × Store)} (h : c ds st1 = r) : mCall n c mas env st = r := by
  unfold mCall; rw [h1, bnd_ok, if_pos hn, h]
theorem v_val (h : ma env st = some (.ok (.bl b), st1)) : mVal ma env st = some (.ok b, st1) := by
  unfold mVal; rw [h, bnd_ok]
theorem v_orF (h : mt env st = some (.ok false, st1)) : mOr mt mu env st = mu env st1 := by
  unfold mOr; rw [h, bnd_ok, if_neg Bool.false_ne_true]
theorem v_seq (h : m env st = some (.next, env1, st1)) : mSeq m k env st = k env1 st1 := by
  unfold mSeq; rw [h]
theorem v_ret (h : ma env st = some (.ok d, st1)) : mRet ma env st = some (.ret d, env, st1) := by
  unfold mRet; rw [h, bndS_ok]
theorem v_asg {i : Nat} (h : ma env st = some (.ok d, st1)) : mAsg ma (.nm i) env st = some (.next, env.set i (some d), st1) := by
  unfold mAsg; rw [h, bndS_ok]; rfl
theorem v_ifT (h : mt env st = some (.ok true, st1)) : mIfS mt m k env st = m env st1 := by
  unfold mIfS; rw [h, bndS_ok, if_pos rfl]
theorem v_ifF (h : mt env st = some (.ok false, st1)) : mIfS mt m k env st = k env st1 := by
  unfold mIfS; rw [h, bndS_ok, if_neg Bool.false_ne_true]
theorem v_lst (h : mas env st = some (.ok ds, st1)) (hk : ds.length ≤ big ∧ ds.all isD = true) : mLst mas env st = some (.ok (.lst ds), st1) := by
  unfold mLst; rw [h, bnd_ok, if_pos hk]
end

/-! ### loops -/
/-- a loop whose turns change nothing but the name -/
theorem v_for {mi : MA} {t : Tg} {body : MS} {env env' : En} {st st1 st' : Store} {ds : List D} {fl : Fl} (h : mi env st = some (.ok ds, st1)) (k : forD st1.length t body ds env st1 = some (fl, env', st')) : mFor mi t body env st = some (fl, env', st') := by
  unfold mFor; rw [h, bndS_ok, k]

/-! ### comprehensions -/
/-- a store of lists alone -/
def Plain (st : Store) : Prop := ∀ c ∈ st, ∃ xs, c = .lst xs
theorem Plain.ok {st : Store} (h : Plain st) (n : Nat) : st.all (cellOk n) = true := List.all_eq_true.mpr fun c hc => by
  obtain ⟨xs, rfl⟩ := h c hc
  rfl
theorem fin_data {st : Store} {d : D} (h : st.all (cellOk st.length) = true) (hd : isD d = true) : finD st.length d st = some (d, st) := by
  unfold finD
  rw [List.take_length, if_pos h]
  cases d <;> first | rfl | cases hd
/-- a def that leaves the store as it was -/
theorem mkD_ret {m : MS} {k : Nat} {ds : List D} {st : Store} {d : D} {env' : En} (h : m (startE k ds) st = some (.ret d, env', st)) (hs : st.all (cellOk st.length) = true) (hd : isD d = true) : mkD m k ds st = some (.ok d, st) := by
  unfold mkD
  rw [h]
  dsimp only
  rw [fin_data hs hd]
theorem Plain.more {st : Store} (h : Plain st) (n c : Nat) : (st ++ [Cell.ins c []]).all (cellOk n) = true := by
  rw [List.all_append, h.ok n]; rfl
end M


/-! The M layer: dicts walked, properties, methods, own `in`. -/
namespace M
open PySem PySem.Spec PyProof.Rows L2

/-! ### a dict frozen for good -/
def kD : Key → D
  | .inl i => .int i
  | .inr x => .str x
def keysK (kvs : List (Key × D)) : List D := kvs.map fun p => kD p.1
def keysT (kvs : List (List Key × D)) : List D := kvs.map fun p => .tup (p.1.map kD)
section
variable {G : Gb} {L : Lv} {H : Hp} {d : Addr} {o : Obj}
end
section
variable {G : Gm} {W : WX} {X : Cx} {tg e : Expr} {ma : ME}
/-- for k in a dict -/
def mItD (m : ME) : MA := fun env st => bnd (m env st) fun d st => match d with
  | .dK kvs => some (.ok (keysK kvs), st)
  | .dT kvs => some (.ok (keysT kvs), st)
  | _ => none
end
end M


/-! The M layer: objects of one's own: methods, properties, `in`. -/
namespace M
open PySem PySem.Spec PyProof.Rows L2
/-- the class and the fields of what a value names -/
def objF (st : Store) : D → Option (Nat × List (Str × D))
  | .obj c fs => some (c, fs)
  | .ref i => match st[i]? with
    | some (.ins c fs) => some (c, fs)
    | _ => none
  | _ => none
theorem DasF.none {G : Gb} {H : Hp} {f : Str} : ∀ {ds : List (Str × D)} {vs : List (Str × V)}, DasF G H vs ds → ds.lookup f = none → vs.lookup f = none
  | [], _, h, _ => by cases h; rfl
  | (k, x) :: ds, _, h, e => by
    cases h with
    | cons h r =>
      rw [List.lookup_cons] at e ⊢
      by_cases q : (f == k) = true
      · rw [q] at e; cases e
      · rw [Bool.not_eq_true] at q
        rw [q] at e ⊢
        exact DasF.none r e
theorem VasF.none {G : Gb} {L : Lv} {H : Hp} {f : Str} : ∀ {vs : List (Str × V)} {ds : List (Str × D)}, VasF G L H vs ds → ds.lookup f = none → vs.lookup f = none
  | _, _, .nil, _ => rfl
  | _, _, @VasF.cons _ _ _ k v vs x ds h r, e => by
    rw [List.lookup_cons] at e ⊢
    by_cases q : (f == k) = true
    · rw [q] at e; cases e
    · rw [Bool.not_eq_true] at q
      rw [q] at e ⊢
      exact VasF.none r e
/-! ### methods -/
def mMth (cid : Nat) (m : Str) (n : Nat) (c : Call) (mo : ME) (ma : MA) : ME := fun env st => bnd (mo env st) fun o st => match objF st o with
  | some (k, fs) => if k = cid ∧ fs.lookup m = none then bnd (ma env st) fun ds st => if ds.length + 1 = n then c (o :: ds) st else none else none
  | none => none
section
variable {X : Cx} {CX : CXT} {k : Nat} {C f : Addr} {fd : FuncData} {ps : List Str} {sp : Sp} {E : L2.St → XK} {m : Str} {apos pos : Pos} {o e : Expr} {es : List Expr} {ta : TE} {t : TA}
end
section
variable {X : Cx} {G : Gm} {W : WX} {k n cid : Nat} {f p : Addr} {fd : FuncData} {ps : List Str} {c : Call} {m : Str} {apos pos : Pos} {o e : Expr} {es : List Expr} {mo : ME} {mas : MA}
/-! ### properties -/
def mProp (cid : Nat) (c : Call) (mo : ME) : ME := fun env st => bnd (mo env st) fun o st => match objF st o with
  | some (k, _) => if k = cid then (match c [o] st with
    | some (.ok d, st) => some (.ok d, st)
    | _ => none) else none
  | none => none
end
/-! ### x in o, o's class with __contains__ -/
section
variable {M : Model} {A : Around} {E : Value → Shared → Prop} {s : Shared} {K : PySem.W.Frag} {x C f : Addr} {ox : Obj} {od : Option Obj} {v : Value}
end
section
variable {X : Cx} {k : Nat} {C f : Addr} {fd : FuncData} {ps : List Str} {sp : Sp}
end
/-- an operator that may change the store -/
def mOpS (g : Store → D → D → Option (D × Store)) (ma mb : ME) : ME := fun env st => bnd (ma env st) fun x st => bnd (mb env st) fun y st => match g st x y with
  | some (z, st) => some (.ok z, st)
  | none => none
def gInO (cid : Nat) (c : Call) (neg : Bool) (st : Store) (x y : D) : Option (D × Store) := match objF st y with
  | some (k, _) => if k = cid then (match c [y, x] st with
    | some (.ok (.bl b), st) => some (.bl (b != neg), st)
    | _ => none) else none
  | none => none
section
variable {X : Cx} {G : Gm} {W : WX} {a b : Expr} {pos : Pos} {op : CmpOp} {r : R2} {g : Store → D → D → Option (D × Store)} {ma mb : ME}
end
end M


/-! The M layer: in, is None, sum, max, dict reads. -/
namespace M
open PySem PySem.Spec PyProof.Rows L2
/-! is None -/
def isNon : D → Bool
  | .non => true
  | _ => false
def gIsN (neg : Bool) (st : Store) (x y : D) : Option D := match y with
  | .non => some (.bl (isNon x != neg))
  | _ => none
theorem Va.isNon {G : Gb} {L : Lv} {H : Hp} {v : V} {d : D} (h : Va G L H v d) : decide (v = .non) = isNon d := by
  cases h with
  | d h => cases h <;> rfl
  | ref _ _ => rfl
  | pr _ _ _ _ _ => rfl
/-! sum, max of a list of ints -/
/-! ### d[k] of a dict -/
def valKd {κ : Type} [DecidableEq κ] (kvs : List (κ × D)) (k : κ) : Option D := (kvs.find? fun kv => decide (kv.1 = k)).map (·.2)
section
variable {G : Gb} {H : Hp}
theorem DasK.val (k : Key) : ∀ {ds : List (Key × D)} {vs : List (Key × V)} {d : D}, DasK G H vs ds → valKd ds k = some d → ∃ v, valV vs k = some v ∧ Da G H v d
  | [], _, _, h, e => by cases e
  | (j, x) :: ds, _, d, h, e => by
    cases h with
    | @cons _ v vs _ _ h r =>
      by_cases q : j = k
      · unfold valKd at e
        rw [List.find?_cons_of_pos (by simpa using q)] at e
        cases e
        exact ⟨v, valV_pos q, h⟩
      · unfold valKd at e
        rw [List.find?_cons_of_neg (by simpa using q)] at e
        obtain ⟨u, h1, h2⟩ := DasK.val k r e
        exact ⟨u, by rw [valV_neg q]; exact h1, h2⟩
theorem DasT.val (k : List Key) : ∀ {ds : List (List Key × D)} {vs : List (List Key × V)} {d : D}, DasT G H vs ds → valKd ds k = some d → ∃ v, valV vs k = some v ∧ Da G H v d
  | [], _, _, h, e => by cases e
  | (j, x) :: ds, _, d, h, e => by
    cases h with
    | @cons _ v vs _ _ h r =>
      by_cases q : j = k
      · unfold valKd at e
        rw [List.find?_cons_of_pos (by simpa using q)] at e
        cases e
        exact ⟨v, valV_pos q, h⟩
      · unfold valKd at e
        rw [List.find?_cons_of_neg (by simpa using q)] at e
        obtain ⟨u, h1, h2⟩ := DasT.val k r e
        exact ⟨u, by rw [valV_neg q]; exact h1, h2⟩
end
section
variable {G : Gm} {W : WX} {X : Cx} {o i : Expr} {pos : Pos} {mo mi : ME}
end
end M


/-! The M layer: list.index, xs[::-1]. -/
namespace M
open PySem PySem.Spec PyProof.Rows L2
section
variable {G : Gm} {W : WX} {X : Cx} {e : Expr} {me : ME} {k : Nat} {p1 p2 p3 pos : Pos}
end
/-! ### isinstance of own classes: the facts -/
/-- what is known of one class for isinstance -/
structure KOne (K : PySem.W.Frag) (C : Addr) : Prop where
  cl : Cls K C
  ha : PySem.W.findIn K (.ref C) "__class__" = some (some (.builtin "object.__class__"))
  hm : PySem.W.mroIn K C (.type "object") = some true
  bo : ∀ t : Tag, PySem.W.kitOne K (.type t.name) (.ref C) = some false
  ob : ∀ t : Tag, PySem.W.kitOne K (.ref C) (.type t.name) = some false
end M


/-! The M layer: list(d), dict(d) of dicts whose keys are ints and texts. -/
namespace M
open PySem PySem.Spec PyProof.Rows L2
theorem rd_see {L : Lv} {H : Hp} {a : Addr} {u : HO} (h : Rd (off L H) a u) : Rd H a u := h.elim (fun h => .inl (off_some h).1) fun ⟨o, h⟩ => .inr ⟨o, (off_some h).1⟩
end M


/-! The M layer: list comprehensions of two clauses. -/
namespace M
open PySem PySem.Spec PyProof.Rows L2
section
variable {G : Gm} {W W0 : WX} {X : Cx} {elt tg iter tg1 iter1 : Expr} {ifs ifs1 : List Expr} {scope : Scope} {own : List (Str × Nat)} {pos : Pos} {mi mi1 : MA} {g g1 : TG} {t t1 : Tg} {mt mt1 : MT} {me : ME}
end
end M


/-! The M layer: k in a dict. -/
namespace M
open PySem PySem.Spec PyProof.Rows L2
theorem DasK.isSome {G : Gb} {H : Hp} (k : Key) : ∀ {ds : List (Key × D)} {vs : List (Key × V)}, DasK G H vs ds → (valV vs k).isSome = (valKd ds k).isSome
  | [], _, h => by cases h; rfl
  | (j, x) :: ds, _, h => by
    cases h with
    | cons h r =>
      by_cases q : j = k
      · rw [valV_pos q]
        unfold valKd
        rw [List.find?_cons_of_pos (by simpa using q)]
        rfl
      · rw [valV_neg q, DasK.isSome k r]
        unfold valKd
        rw [List.find?_cons_of_neg (by simpa using q)]
section
variable {G : Gm} {W : WX} {X : Cx} {o i : Expr} {pos : Pos} {mo mi : ME}
end
end M


/-! dicts whose keys are tuples: comprehensions, stores, len, list -/
namespace L2
open PySem PySem.Spec PyProof.Rows
section
variable {X : Cx} {pins : List (Addr × Obj)} {σ : St} {H H' : Hp} {s : Shared} {a : Addr} {y v : V} {u r : Value} {E : Value → Shared → Prop} {Q : Unit → Shared → Prop}
end
section
variable {X : Cx} {o₀ : HO} {kx vx tg iter : Expr} {ifs : List Expr} {scope : Scope} {own : List (Str × Nat)} {pos : Pos} {wi : TI} {g : TG} {tt : TT} {tk tv : TE}
end
end L2


/-! The M layer: dicts with tuple keys. -/
namespace M
open PySem PySem.Spec PyProof.Rows L2
section
variable {G : Gb} {H : Hp}
theorem DasT.any (k : List Key) : ∀ {ds : List (List Key × D)} {vs : List (List Key × V)}, DasT G H vs ds → (vs.any fun kv => decide (kv.1 = k)) = ds.any fun kv => decide (kv.1 = k)
  | _, _, .nil => rfl
  | _, _, .cons h r => by rw [List.any_cons, List.any_cons, DasT.any k r]
theorem DasT.setAt (k : List Key) {v : V} {d : D} (hv : Da G H v d) : ∀ {ds : List (List Key × D)} {vs : List (List Key × V)}, DasT G H vs ds → DasT G H (vs.map fun kv => if kv.1 = k then (kv.1, v) else kv) (ds.map fun kv => if kv.1 = k then (kv.1, d) else kv)
  | _, _, .nil => .nil
  | _, _, @DasT.cons _ _ j w ws x xs h r => by
    rw [List.map_cons, List.map_cons]
    by_cases e : j = k
    · rw [if_pos e, if_pos e]; exact .cons hv (DasT.setAt k hv r)
    · rw [if_neg e, if_neg e]; exact .cons h (DasT.setAt k hv r)
theorem DasT.append : ∀ {ds es : List (List Key × D)} {vs us : List (List Key × V)}, DasT G H vs ds → DasT G H us es → DasT G H (vs ++ us) (ds ++ es)
  | _, _, _, _, .nil, g => g
  | _, _, _, _, .cons h r, g => .cons h (DasT.append r g)
theorem DasT.put (k : List Key) {v : V} {d : D} (hv : Da G H v d) {ds : List (List Key × D)} {vs : List (List Key × V)} (h : DasT G H vs ds) : DasT G H (putK vs k v) (putKd ds k d) := by
  unfold putK putKd
  rw [DasT.any k h]
  split
  · exact DasT.setAt k hv h
  · exact h.append (.cons hv .nil)
end
section
variable {G : Gm} {W W0 : WX} {X : Cx} {kx vx tg iter : Expr} {ifs : List Expr} {scope : Scope} {own : List (Str × Nat)} {pos : Pos} {mi : MA} {g : TG} {t : Tg} {mt : MT} {mk mv : ME}
end
end M


/-! The M layer: len and list of any dict, in of tuples, stores into dicts, starred items, while, x += e, extend, min. -/
namespace M
open PySem PySem.Spec PyProof.Rows L2
/-! ### len, list -/
def rLenTr : List V → Hp → VK → Prop := fun xs H Q => ∃ (a : Addr) (kvs : List (List Key × V)), xs = [.ref a] ∧ Rd H a (.dT kvs) ∧ Q (.int kvs.length) H
theorem call_lenTr {X : Cx} : CallR X (.builtin "len") rLenTr := by
  rintro pins s σ H _ us Q I same ⟨a, kvs, rfl, at_, q⟩
  obtain ⟨u, rfl, ru⟩ := vals1 same
  obtain rfl : u = .ref a := ru
  obtain ⟨few, low, rows, rel, dict⟩ := dt_rd I.hok at_
  have e : kvs.length = rows.length := Paired.length rel
  refine call_len_dictH low dict (by rw [← e]; have := sizeLine_eq; omega) ⟨.int kvs.length, H, I.tok _, ⟨_, by rw [e]⟩, q⟩
def gLenA (st : Store) : List D → Option D
  | [x] => match rd st x with
    | .dT kvs => some (.int kvs.length)
    | _ => gLen st [x]
  | _ => none
def rLenA (K : PySem.W.Frag) : List V → Hp → VK → Prop := fun xs H Q => rLen K xs H Q ∨ rLenTr xs H Q
theorem call_lenA {X : Cx} : CallR X (.builtin "len") (rLenA X.K) := call_lenAny.or2 call_lenTr
theorem rd_dT {G : Gb} {L : Lv} {H : Hp} {st : Store} (R : Rep G L st H) {v : V} {d : D} (h : Va G L (off L H) v d) {ds : List (List Key × D)} (e : rd st d = .dT ds) : ∃ a vs, v = .ref a ∧ Rd H a (.dT vs) ∧ DasT G (off L H) vs ds := by
  unfold rd at e
  split at e
  · rename_i i
    split at e
    · cases e
    · cases e
    · rename_i kvs hi
      cases e
      obtain ⟨a, rfl, hL, vs, q, r⟩ := cell_of R h hi nofun
      exact ⟨a, vs, rfl, .inl q, r⟩
    · cases e
    · cases e
  · subst e
    cases h with
    | d h => cases h with | dT h r => exact ⟨_, _, rfl, rd_see h, r⟩
theorem rd_dK {G : Gb} {L : Lv} {H : Hp} {st : Store} (R : Rep G L st H) {v : V} {d : D} (h : Va G L (off L H) v d) {ds : List (Key × D)} (e : rd st d = .dK ds) : ∃ a vs, v = .ref a ∧ Rd H a (.dK vs) ∧ DasK G (off L H) vs ds := by
  unfold rd at e
  split at e
  · rename_i i
    split at e
    · cases e
    · rename_i kvs hi
      cases e
      obtain ⟨a, rfl, hL, vs, q, r⟩ := cell_of R h hi nofun
      exact ⟨a, vs, rfl, .inl q, r⟩
    · cases e
    · cases e
    · cases e
  · subst e
    cases h with
    | d h => cases h with | dK h r => exact ⟨_, _, rfl, rd_see h, r⟩
theorem rc_lenA {G : Gb} : RCM G (rLenA G.K) gLenA := fun L st H xs ds z Q R dv hz k => by
  unfold gLenA at hz
  split at hz
  · rename_i x
    split at hz
    · rename_i kvs hk
      cases hz
      obtain ⟨v, rfl, hv⟩ := Das.one dv
      obtain ⟨a, vs, rfl, at_, r⟩ := rd_dT R hv hk
      exact .inr ⟨a, vs, rfl, at_, by rw [r.length]; exact r_same (.int _) R k⟩
    · exact .inl (rc_len L st H _ _ z Q R dv hz k)
  · cases hz
def gListT (st : Store) : List D → Option D
  | [x] => match rd st x with
    | .dT kvs => some (.lst (keysT kvs))
    | .dK kvs => some (.lst (keysK kvs))
    | _ => none
  | _ => none
/-! ### x in a list or tuple of flat values -/
def flatD : D → Bool
  | .non | .bl _ | .int _ | .str _ => true
  | _ => false
/-! ### d[k] = v -/
section
variable {G : Gm} {W : WX} {X : Cx} {o i value : Expr} {mo mi mv : ME} {pos pos' : Pos}
end
/-- {} as a cell that gets tuples as keys -/
def mDNewT : ME := fun _ st => some (.ok (.ref st.length), st ++ [.dT []])
/-! ### starred items -/
/-! ### while -/
section
variable {G : Gm} {W : WX} {X : Cx} {c : Expr} {body : List Stmt} {mt : MT} {mb : MS} {pos : Pos} {fuel : Nat}
end
/-! ### x += e -/
def mAug (f : Int → Int → Int) (i : Nat) (me : ME) : MS := fun env st => match env[i]? with
  | some (some (.int x)) => bndS (me env st) env fun d st => (match d with
    | .int y => some (.next, env.set i (some (.int (f x y))), st)
    | _ => none)
  | _ => none
/-! ### extend, min -/
end M


/-! The M layer: what is never reached. -/
namespace M
open PySem PySem.Spec PyProof.Rows L2
section
variable {G : Gm} {W : WX} {X : Cx}
theorem mss_never {ss : List Stmt} : PSs X ss (tMS G W mNever) := ⟨fun pins s σ H D I h => by
  obtain ⟨_, _, _, _, _, _, _, z, _⟩ := h
  cases z⟩
end
end M


/-! The M layer: mirrors reckoned with by simp. -/
namespace M
open PySem L2
section
variable {α β : Type} {env env' : En} {st : Store} {d e : D} {c : Prop} [Decidable c]
@[simp] theorem e_var0 {r : En} : mVar 0 (some d :: r) st = some (.ok d, st) := nr rfl
@[simp] theorem e_varS {i : Nat} {x : Option D} {r : En} : mVar (i + 1) (x :: r) st = mVar i r st := nr rfl
@[simp] theorem e_c : mC d env st = some (.ok d, st) := nr rfl
@[simp] theorem e_op {g : Store → D → D → Option D} {ma mb : ME} : mOp g ma mb env st = bnd (ma env st) fun x st => bnd (mb env st) fun y st => (g st x y).elim none fun z => some (.ok z, st) := by
  unfold mOp
  congr 1; funext x st; congr 1; funext y st
  cases g st x y <;> rfl
@[simp] theorem e_un {g : Store → D → Option D} {ma : ME} : mUn g ma env st = bnd (ma env st) fun x st => (g st x).elim none fun z => some (.ok z, st) := by
  unfold mUn
  congr 1; funext x st
  cases g st x <;> rfl
@[simp] theorem e_cb {g : Store → List D → Option D} {ma : MA} : mCB g ma env st = bnd (ma env st) fun x st => (g st x).elim none fun z => some (.ok z, st) := by
  unfold mCB
  congr 1; funext x st
  cases g st x <;> rfl
@[simp] theorem e_nil : mNil env st = some (.ok [], st) := nr rfl
@[simp] theorem e_cons {m : ME} {ms : MA} : mCons m ms env st = bnd (m env st) fun d st => bnd (ms env st) fun ds st => some (.ok (d :: ds), st) := nr rfl
@[simp] theorem e_bnd_ite {x y : Option (Rs α × Store)} {k : α → Store → Option (Rs β × Store)} : bnd (if c then x else y) k = if c then bnd x k else bnd y k := by split <;> rfl
@[simp] theorem e_bndS_ite {x y : Option (Rs α × Store)} {k : α → Store → Option (Fl × En × Store)} : bndS (if c then x else y) env k = if c then bndS x env k else bndS y env k := by split <;> rfl
@[simp] theorem e_ok_ite {a b : α} : (if c then some (Rs.ok a, st) else some (Rs.ok b, st)) = some (Rs.ok (if c then a else b), st) := by split <;> rfl
@[simp] theorem e_bl_ite {a b : Bool} : (if c then D.bl a else D.bl b) = D.bl (if c then a else b) := by split <;> rfl
@[simp] theorem e_int_ite {a b : Int} : (if c then D.int a else D.int b) = D.int (if c then a else b) := by split <;> rfl
def blK (d : D) (k : Bool → Option β) : Option β := match d with
  | .bl b => k b
  | _ => none
@[simp] theorem e_blK {b : Bool} {k : Bool → Option β} : blK (.bl b) k = k b := nr rfl
@[simp] theorem e_val {m : ME} : mVal m env st = bnd (m env st) fun d st => blK d fun k => some (.ok k, st) := by
  exact nr rfl
@[simp] theorem e_and {m k : MT} : mAnd m k env st = bnd (m env st) fun b st => if b = true then k env st else some (.ok false, st) := nr rfl
@[simp] theorem e_or {m k : MT} : mOr m k env st = bnd (m env st) fun b st => if b = true then some (.ok true, st) else k env st := nr rfl
@[simp] theorem e_not {m : MT} : mNot m env st = bnd (m env st) fun b st => some (.ok (!b), st) := nr rfl
@[simp] theorem e_andV {m k : ME} : mAndV m k env st = bnd (m env st) fun d st => blK d fun b => if b = true then k env st else some (.ok (.bl false), st) := by
  unfold mAndV
  congr 1; funext d st
  cases d <;> first | rfl | (rename_i b; cases b <;> rfl)
@[simp] theorem e_orV {m k : ME} : mOrV m k env st = bnd (m env st) fun d st => blK d fun b => if b = true then some (.ok (.bl true), st) else k env st := by
  unfold mOrV
  congr 1; funext d st
  cases d <;> first | rfl | (rename_i b; cases b <;> rfl)
@[simp] theorem e_notV {m : ME} : mNotV m env st = bnd (m env st) fun d st => blK d fun b => some (.ok (.bl (!b)), st) := by
  exact nr rfl
@[simp] theorem e_if {t : MT} {a b : ME} : mIf t a b env st = bnd (t env st) fun k st => if k = true then a env st else b env st := nr rfl
@[simp] theorem e_chain {g g' : Store → D → D → Option D} {ma mb mc : ME} : mChain g g' ma mb mc env st = bnd (ma env st) fun x st => bnd (mb env st) fun y st => (g st x y).elim none fun d => blK d fun b => if b = true then (bnd (mc env st) fun z st => (g' st y z).elim none fun u => some (.ok u, st)) else some (.ok (.bl false), st) := by
  unfold mChain
  congr 1; funext x st; congr 1; funext y st
  cases h : g st x y with
  | none => rfl
  | some d =>
    cases d <;> try rfl
    rename_i b
    cases b
    · rfl
    · show bnd _ _ = bnd _ _
      congr 1; funext z st
      cases g' st y z <;> rfl
@[simp] theorem e_call {n : Nat} {f : Call} {ma : MA} : mCall n f ma env st = bnd (ma env st) fun ds st => if ds.length = n then f ds st else none := nr rfl
@[simp] theorem e_lst {ma : MA} : mLst ma env st = bnd (ma env st) fun ds st => if ds.length ≤ big ∧ ds.all isD = true then some (.ok (.lst ds), st) else none := nr rfl
@[simp] theorem e_tup {ma : MA} : mTup ma env st = bnd (ma env st) fun ds st => if ds.length ≤ big ∧ ds.all isD = true then some (.ok (.tup ds), st) else none := nr rfl
@[simp] theorem e_new {ma : MA} : mNew ma env st = bnd (ma env st) fun ds st => if ds.length ≤ big ∧ ds.all isD = true then some (.ok (.ref st.length), st ++ [.lst ds]) else none := nr rfl
@[simp] theorem e_dnewT : mDNewT env st = some (.ok (.ref st.length), st ++ [.dT []]) := nr rfl
/-! statements -/
def seqK (r : Option (Fl × En × Store)) (k : En → Store → Option (Fl × En × Store)) : Option (Fl × En × Store) := match r with
  | some (.next, env, st) => k env st
  | r => r
@[simp] theorem e_seqN {k : En → Store → Option (Fl × En × Store)} : seqK (some (.next, env, st)) k = k env st := nr rfl
@[simp] theorem e_seqR {k : En → Store → Option (Fl × En × Store)} : seqK (some (.ret d, env, st)) k = some (.ret d, env, st) := nr rfl
@[simp] theorem e_seqE {x : Xn} {k : En → Store → Option (Fl × En × Store)} : seqK (some (.err x, env, st)) k = some (.err x, env, st) := nr rfl
@[simp] theorem e_seq_ite {x y : Option (Fl × En × Store)} {k : En → Store → Option (Fl × En × Store)} : seqK (if c then x else y) k = if c then seqK x k else seqK y k := by split <;> rfl
@[simp] theorem e_seq {m k : MS} : mSeq m k env st = seqK (m env st) k := by
  unfold mSeq seqK
  split <;> first | rfl | simp_all
@[simp] theorem e_next : mNext env st = some (.next, env, st) := nr rfl
@[simp] theorem e_ret {m : ME} : mRet m env st = bndS (m env st) env fun d st => some (.ret d, env, st) := nr rfl
@[simp] theorem e_drop {m : ME} : mDrop m env st = bndS (m env st) env fun _ st => some (.next, env, st) := nr rfl
@[simp] theorem e_ifS {t : MT} {a b : MS} : mIfS t a b env st = bndS (t env st) env fun k st => if k = true then a env st else b env st := nr rfl
@[simp] theorem e_asg {m : ME} {i : Nat} : mAsg m (.nm i) env st = bndS (m env st) env fun d st => some (.next, env.set i (some d), st) := nr rfl
@[simp] theorem e_par {m : MA} {i j : Nat} : mPar i j m env st = bndS (m env st) env fun ds st => match ds with
  | [d, e] => some (.next, (env.set i (some d)).set j (some e), st)
  | _ => none := nr rfl
@[simp] theorem e_aug {f : Int → Int → Int} {i : Nat} {m : ME} {x : Int} (h : env[i]? = some (some (.int x))) : mAug f i m env st = bndS (m env st) env fun d st => (match d with
    | .int y => some (.next, env.set i (some (.int (f x y))), st)
    | _ => none) := by
  unfold mAug
  rw [h] <;> rfl
/-! operations -/
@[simp] theorem e_add {i j : Int} : gAdd st (.int i) (.int j) = some (.int (i + j)) := nr rfl
@[simp] theorem e_addL {a b : List D} (h : a.length + b.length ≤ big) : gAdd st (.lst a) (.lst b) = some (.lst (a ++ b)) := if_pos h
@[simp] theorem e_iop {f : Int → Int → D} {i j : Int} : iop f st (.int i) (.int j) = some (f i j) := nr rfl
@[simp] theorem e_iopC {C : Int → Int → Prop} [∀ i j, Decidable (C i j)] {f : Int → Int → D} {i j : Int} (h : C i j) : iopC C f st (.int i) (.int j) = some (f i j) := if_pos h
@[simp] theorem e_rd_non : rd st .non = .non := nr rfl
@[simp] theorem e_rd_bl {b : Bool} : rd st (.bl b) = .bl b := nr rfl
@[simp] theorem e_rd_int {b : Int} : rd st (.int b) = .int b := nr rfl
@[simp] theorem e_rd_str {b : Str} : rd st (.str b) = .str b := nr rfl
@[simp] theorem e_rd_lst {b : List D} : rd st (.lst b) = .lst b := nr rfl
@[simp] theorem e_rd_ro {b : List D} : rd st (.ro b) = .ro b := nr rfl
@[simp] theorem e_rd_tup {b : List D} : rd st (.tup b) = .tup b := nr rfl
@[simp] theorem e_rd_dK {b : List (Key × D)} : rd st (.dK b) = .dK b := nr rfl
@[simp] theorem e_rd_dT {b : List (List Key × D)} : rd st (.dT b) = .dT b := nr rfl
@[simp] theorem e_rd_obj {k : Nat} {b : List (Str × D)} : rd st (.obj k b) = .obj k b := nr rfl
@[simp] theorem e_len_lst {b : List D} : gLenA st [.lst b] = some (.int b.length) := nr rfl
@[simp] theorem e_len_ro {b : List D} : gLenA st [.ro b] = some (.int b.length) := nr rfl
@[simp] theorem e_len_tup {b : List D} : gLenA st [.tup b] = some (.int b.length) := nr rfl
@[simp] theorem e_len_dK {b : List (Key × D)} : gLenA st [.dK b] = some (.int b.length) := nr rfl
@[simp] theorem e_len_dT {b : List (List Key × D)} : gLenA st [.dT b] = some (.int b.length) := nr rfl
@[simp] theorem e_len_str {b : Str} (h : b.cps.size ≤ big) : gLenA st [.str b] = some (.int b.cps.size) := if_pos h
@[simp] theorem e_int1 {i : Int} : gInt st [.int i] = some (.int i) := nr rfl
@[simp] theorem e_intb {b : Bool} : gInt st [.bl b] = some (.int (if b then 1 else 0)) := nr rfl
@[simp] theorem e_max2 {i j : Int} : gMax2 st [.int i, .int j] = some (.int (if j > i then j else i)) := nr rfl
@[simp] theorem e_min2 {i j : Int} : gMin2 st [.int i, .int j] = some (.int (if j < i then j else i)) := nr rfl
@[simp] theorem e_neg {i : Int} : gNeg st (.int i) = some (.int (-i)) := nr rfl
@[simp] theorem e_isN {n : Bool} {x : D} : gIsN n st x .non = some (.bl (isNon x != n)) := nr rfl
@[simp] theorem e_eqInt {i j : Int} : gEq st (.int i) (.int j) = some (.bl (decide (i = j))) := nr rfl
@[simp] theorem e_neInt {i j : Int} : gNe st (.int i) (.int j) = some (.bl (!decide (i = j))) := nr rfl
@[simp] theorem e_tag_non : tagD st .non = some (.inl .non) := nr rfl
@[simp] theorem e_tag_bl {b : Bool} : tagD st (.bl b) = some (.inl .bl) := nr rfl
@[simp] theorem e_tag_int {b : Int} : tagD st (.int b) = some (.inl .int) := nr rfl
@[simp] theorem e_tag_str {b : Str} : tagD st (.str b) = some (.inl .str) := nr rfl
@[simp] theorem e_tag_lst {b : List D} : tagD st (.lst b) = some (.inl .lst) := nr rfl
@[simp] theorem e_tag_tup {b : List D} : tagD st (.tup b) = some (.inl .tup) := nr rfl
@[simp] theorem e_tag_dK {b : List (Key × D)} : tagD st (.dK b) = some (.inl .dic) := nr rfl
@[simp] theorem e_tag_dT {b : List (List Key × D)} : tagD st (.dT b) = some (.inl .dic) := nr rfl
@[simp] theorem e_tag_obj {k : Nat} {b : List (Str × D)} : tagD st (.obj k b) = some (.inr k) := nr rfl
@[simp] theorem e_isi_ty {ids : List Nat} {x : D} {t : Tag} : gIsi ids st [x, .ty t] = (tagD st x).elim none fun y => (isi1 ids y (.ty t)).map .bl := by
  unfold gIsi
  dsimp only
  cases tagD st x <;> rfl
@[simp] theorem e_isi_cls {ids : List Nat} {x : D} {t : Nat} : gIsi ids st [x, .cls t] = (tagD st x).elim none fun y => (isi1 ids y (.cls t)).map .bl := by
  unfold gIsi
  dsimp only
  cases tagD st x <;> rfl
@[simp] theorem e_isi_tup {ids : List Nat} {x c : D} {cs : List D} : gIsi ids st [x, .tup (c :: cs)] = (tagD st x).elim none fun y => (isiAny ids y (c :: cs)).map .bl := by
  unfold gIsi
  dsimp only
  cases tagD st x <;> rfl
@[simp] theorem e_isi1_bb {ids : List Nat} {a b : Tag} : isi1 ids (.inl a) (.ty b) = some (decide (a = b) || (decide (a = .bl) && decide (b = .int))) := nr rfl
@[simp] theorem e_isi1_bc {ids : List Nat} {a : Tag} {k : Nat} : isi1 ids (.inl a) (.cls k) = if k ∈ ids then some false else none := nr rfl
@[simp] theorem e_isi1_oc {ids : List Nat} {a k : Nat} : isi1 ids (.inr a) (.cls k) = if a ∈ ids ∧ k ∈ ids then some (a == k) else none := nr rfl
@[simp] theorem e_isi1_ob {ids : List Nat} {a : Nat} {t : Tag} : isi1 ids (.inr a) (.ty t) = if a ∈ ids then some false else none := nr rfl
@[simp] theorem e_isiNil {ids : List Nat} {t : Sum Tag Nat} : isiAny ids t [] = some false := nr rfl
@[simp] theorem e_isiCons {ids : List Nat} {t : Sum Tag Nat} {x : D} {xs : List D} : isiAny ids t (x :: xs) = (isi1 ids t x).elim none fun a => (isiAny ids t xs).elim none fun b => some (a || b) := by
  rw [isiAny]
  cases isi1 ids t x <;> cases isiAny ids t xs <;> rfl
@[simp] theorem e_fld_obj {ids : List Nat} {f : Str} {k : Nat} {fs : List (Str × D)} : gFld ids f st (.obj k fs) = if k ∈ ids then fs.lookup f else none := nr rfl
@[simp] theorem e_objF {k : Nat} {fs : List (Str × D)} : objF st (.obj k fs) = some (k, fs) := nr rfl
@[simp] theorem e_mth {cid : Nat} {m : Str} {n : Nat} {f : Call} {mo : ME} {ma : MA} : mMth cid m n f mo ma env st = bnd (mo env st) fun o st => (objF st o).elim none fun p => if p.1 = cid ∧ p.2.lookup m = none then bnd (ma env st) fun ds st => if ds.length + 1 = n then f (o :: ds) st else none else none := by
  unfold mMth
  congr 1; funext o st
  cases objF st o <;> rfl
def okK (r : Option (Rs D × Store)) : Option (Rs D × Store) := match r with
  | some (.ok d, st) => some (.ok d, st)
  | _ => none
@[simp] theorem e_okK : okK (some (.ok d, st)) = some (.ok d, st) := nr rfl
@[simp] theorem e_prop {cid : Nat} {f : Call} {mo : ME} : mProp cid f mo env st = bnd (mo env st) fun o st => (objF st o).elim none fun p => if p.1 = cid then okK (f [o] st) else none := by
  unfold mProp okK
  congr 1; funext o st
  cases objF st o <;> rfl
@[simp] theorem e_opS {g : Store → D → D → Option (D × Store)} {ma mb : ME} : mOpS g ma mb env st = bnd (ma env st) fun x st => bnd (mb env st) fun y st => (g st x y).elim none fun p => some (.ok p.1, p.2) := by
  unfold mOpS
  congr 1; funext x st; congr 1; funext y st
  cases g st x y <;> rfl
def inK (neg : Bool) (r : Option (Rs D × Store)) : Option (D × Store) := match r with
  | some (.ok (.bl b), st) => some (.bl (b != neg), st)
  | _ => none
@[simp] theorem e_inK {neg b : Bool} : inK neg (some (.ok (.bl b), st)) = some (.bl (b != neg), st) := nr rfl
@[simp] theorem e_inO {cid : Nat} {f : Call} {neg : Bool} {x y : D} : gInO cid f neg st x y = (objF st y).elim none fun p => if p.1 = cid then inK neg (f [y, x] st) else none := by
  unfold gInO inK
  cases objF st y <;> rfl
@[simp] theorem e_listK {b : List (Key × D)} : gListT st [.dK b] = some (.lst (keysK b)) := nr rfl
@[simp] theorem e_listT {b : List (List Key × D)} : gListT st [.dT b] = some (.lst (keysT b)) := nr rfl
@[simp] theorem e_elimS {x : α} {k : α → Option β} : (some x).elim none k = k x := nr rfl
@[simp] theorem e_elim_ite {x y : Option α} {k : α → Option β} : (if c then x else y).elim none k = if c then x.elim none k else y.elim none k := by split <;> rfl
@[simp] theorem isD_non : isD .non = true := nr rfl
@[simp] theorem isD_bl {b : Bool} : isD (.bl b) = true := nr rfl
@[simp] theorem isD_int {b : Int} : isD (.int b) = true := nr rfl
@[simp] theorem isD_str {b : Str} : isD (.str b) = true := nr rfl
@[simp] theorem isD_ty {b : Tag} : isD (.ty b) = true := nr rfl
@[simp] theorem isD_lst {b : List D} : isD (.lst b) = true := nr rfl
@[simp] theorem isD_tup {b : List D} : isD (.tup b) = true := nr rfl
@[simp] theorem isD_ro {b : List D} : isD (.ro b) = true := nr rfl
@[simp] theorem isD_dK {b : List (Key × D)} : isD (.dK b) = true := nr rfl
@[simp] theorem isD_dT {b : List (List Key × D)} : isD (.dT b) = true := nr rfl
@[simp] theorem isD_obj {k : Nat} {b : List (Str × D)} : isD (.obj k b) = true := nr rfl
@[simp] theorem isD_cls {k : Nat} : isD (.cls k) = true := nr rfl
@[simp] theorem e_big : big = 1000000 := by decide +kernel
/-! walks -/
@[simp] theorem e_itL {m : ME} : mItL m env st = bnd (m env st) fun d st => (match d with
  | .lst ds => some (.ok ds, st)
  | .ro ds => some (.ok ds, st)
  | _ => none) := nr rfl
@[simp] theorem e_itD {m : ME} : mItD m env st = bnd (m env st) fun d st => (match d with
  | .dK kvs => some (.ok (keysK kvs), st)
  | .dT kvs => some (.ok (keysT kvs), st)
  | _ => none) := nr rfl
@[simp] theorem e_itStr {m : ME} : mItStr m env st = bnd (m env st) fun d st => (match d with
  | .str x => some (.ok (charsD x), st)
  | _ => none) := nr rfl
@[simp] theorem e_enum {m : ME} : mEnum m env st = bnd (m env st) fun d st => (match d with
  | .lst ds => some (.ok (enumD 0 ds), st)
  | .ro ds => some (.ok (enumD 0 ds), st)
  | .tup ds => some (.ok (enumD 0 ds), st)
  | _ => none) := nr rfl
def rngK (d : D) (st : Store) : Option (Rs (List D) × Store) := match d with
  | .int j => if -(2 ^ 62) ≤ j ∧ j < 2 ^ 62 then some (.ok (intsFrom 0 j.toNat), st) else none
  | _ => none
@[simp] theorem e_rng1 {m : ME} : mRng1 (mCons m mNil) env st = bnd (m env st) rngK := by
  unfold mRng1
  rw [e_cons]
  cases m env st with
  | none => rfl
  | some p =>
    obtain ⟨r, st1⟩ := p
    cases r with
    | err x => rfl
    | ok d => rw [bnd_ok, bnd_ok, e_nil, bnd_ok, bnd_ok]; cases d <;> rfl
@[simp] theorem e_rngK {j : Int} (h0 : 0 ≤ j) (h1 : j ≤ 1000000) : rngK (.int j) st = some (.ok ((List.range j.toNat).map fun i => D.int (i : Nat)), st) := by
  unfold rngK
  dsimp only
  rw [if_pos ⟨Int.le_trans (by decide) h0, Int.lt_of_le_of_lt h1 (by decide)⟩]
  unfold intsFrom
  simp
@[simp] theorem e_setN {i : Nat} : setT (.nm i) d env = some (env.set i (some d)) := nr rfl
@[simp] theorem e_setTp {is : List Nat} {ds : List D} : setT (.tp is) (.tup ds) env = setL is ds env := nr rfl
@[simp] theorem e_setL0 : setL [] [] env = some env := nr rfl
@[simp] theorem e_setLS {i : Nat} {is : List Nat} {ds : List D} : setL (i :: is) (d :: ds) env = setL is ds (env.set i (some d)) := nr rfl
@[simp] theorem e_wipe0 : wipeE env [] = env := nr rfl
@[simp] theorem e_wipeS {i : Nat} {is : List Nat} : wipeE env (i :: is) = (wipeE env is).set i none := nr rfl
@[simp] theorem e_yes : tYesM env st = some (.ok true, st) := nr rfl
end
/-! comprehensions whose parts leave the store -/
/-- the list comprehension: P says what is taken, g what is told -/
theorem compD_eq {α : Type} {t : Tg} {mt : MT} {me : ME} {env : En} {st : Store} {f : α → D} (P : α → Bool) (g : α → D) : ∀ xs : List α,
    (∀ x ∈ xs, ∃ env1, setT t (f x) env = some env1 ∧ mt env1 st = some (.ok (P x), st) ∧ (P x = true → me env1 st = some (.ok (g x), st) ∧ isD (g x) = true)) →
    compD t mt me env (xs.map f) st = some ((xs.filter P).map g, st)
  | [], _ => rfl
  | x :: xs, h => by
    obtain ⟨env1, h1, h2, h3⟩ := h x List.mem_cons_self
    have ih := compD_eq (t := t) (mt := mt) (me := me) (env := env) (st := st) (f := f) P g xs fun y hy => h y (List.mem_cons_of_mem _ hy)
    rw [List.map_cons]
    unfold compD
    rw [h1]
    dsimp only
    rw [h2]
    cases hp : P x with
    | false =>
      dsimp only
      rw [List.filter_cons_of_neg (by rw [hp]; exact Bool.false_ne_true)]
      exact ih
    | true =>
      obtain ⟨h4, h5⟩ := h3 hp
      dsimp only
      rw [h4]
      dsimp only
      rw [if_pos h5, ih, List.filter_cons_of_pos hp]
      rfl
theorem lc_eq {α : Type} {mi : MA} {t : Tg} {mt : MT} {me : ME} {vs : List Nat} {env : En} {st : Store} (xs : List α) (f : α → D) (P : α → Bool) (g : α → D) (hi : mi env st = some (.ok (xs.map f), st)) (hl : xs.length ≤ 1000000)
    (h : ∀ x ∈ xs, ∃ env1, setT t (f x) (wipeE env vs) = some env1 ∧ mt env1 st = some (.ok (P x), st) ∧ (P x = true → me env1 st = some (.ok (g x), st) ∧ isD (g x) = true)) :
    mLc mi t mt me vs env st = some (.ok (.lst ((xs.filter P).map g)), st) := by
  unfold mLc
  rw [hi, bnd_ok, compD_eq P g xs h]
  dsimp only
  rw [if_pos (by rw [List.length_map]; exact Nat.le_trans (List.length_filter_le _ _) hl)]
/-- without tests -/
theorem lc_map {α : Type} {mi : MA} {t : Tg} {me : ME} {vs : List Nat} {env : En} {st : Store} (xs : List α) (f : α → D) (g : α → D) (hi : mi env st = some (.ok (xs.map f), st)) (hl : xs.length ≤ 1000000)
    (h : ∀ x ∈ xs, ∃ env1, setT t (f x) (wipeE env vs) = some env1 ∧ me env1 st = some (.ok (g x), st) ∧ isD (g x) = true) :
    mLc mi t tYesM me vs env st = some (.ok (.lst (xs.map g)), st) := by
  have e := lc_eq (mt := tYesM) xs f (fun _ => true) g hi hl fun x hx => let ⟨env1, h1, h2, h3⟩ := h x hx; ⟨env1, h1, rfl, fun _ => ⟨h2, h3⟩⟩
  rwa [List.filter_eq_self.mpr fun _ _ => rfl] at e
/-- the store is in order -/
def Ok (st : Store) : Prop := st.all (cellOk st.length) = true
/-- a def that leaves the store -/
theorem fn_ret {m : MS} {k : Nat} {ds : List D} {st : Store} {d : D} {env' : En} (h : m (startE k ds) st = some (.ret d, env', st)) (hs : Ok st) (hd : isD d = true) : mkD m k ds st = some (.ok d, st) := mkD_ret h hs hd
end M


/-! The M layer: C(e, k = v, ..) with all parameters given; dicts as cells. -/
namespace M
open PySem PySem.Spec PyProof.Rows L2
section
variable {X : Cx} {G : Gm} {W : WX} {k n i j : Nat} {f C : Addr} {fd : FuncData} {ps ks : List Str} {c : Call} {x : Str} {p pos apos kpos : Pos} {e o : Expr} {es : List Expr} {kws : List Keyword} {ma mas mk : MA} {me mo : ME} {nm : Option Str}
theorem mk_nil : PK X [] (tMA G W mNil) := ⟨fun pos pins s σ H Q I q => pk_nil.run pos pins s σ H Q I (by
  obtain ⟨L, st, env, q, st', at_, hm, hp⟩ := q
  cases hm
  exact hp [] L H (Ev.refl L H) at_.r .nil)⟩
theorem mk_cons (ha : PE X e (tM G W me)) (hr : PK X kws (tMA G W mk)) : PK X (⟨nm, e, kpos⟩ :: kws) (tMA G W (mCons me mk)) := ⟨fun pos pins s σ H Q I q => (pk_cons ha hr).run pos pins s σ H Q I (t_cons q)⟩
end
end M


/-! The M layer: dict displays and dict(pairs) as cells; written tuples of texts. -/
namespace M
open PySem PySem.Spec PyProof.Rows L2
/-! ### a hidden object becomes a live cell -/
section
variable {G : Gb} {L L2' : Lv} {H H2 : Hp} {st st2 : Store} {p : Addr} {o : HO} {c : Cell}
def Lv.show (L2' L : Lv) (p : Addr) : Lv := ⟨L2'.c ++ [some p], L.h⟩
theorem off_show (hh : L2'.h = p :: L.h) : off (L2'.show L p) H2 = off L2' H2 := by
  funext a
  unfold off
  have e : (some a ∈ (L2'.show L p).c ∨ a ∈ (L2'.show L p).h) ↔ (some a ∈ L2'.c ∨ a ∈ L2'.h) := by
    rw [hh]
    show (some a ∈ L2'.c ++ [some p] ∨ a ∈ L.h) ↔ _
    rw [List.mem_append, List.mem_singleton, List.mem_cons, Option.some.injEq, or_assoc]
  by_cases q : some a ∈ L2'.c ∨ a ∈ L2'.h
  · rw [if_pos q, if_pos (e.mpr q)]
  · rw [if_neg q, if_neg fun z => q (e.mp z)]
theorem le_show : Le L2' (L2'.show L p) := ⟨by show L2'.c.length ≤ (L2'.c ++ [some p]).length; simp, fun i a hi h => by
  have h' : (L2'.c ++ [some p])[i]? = some (some a) := h
  rwa [List.getElem?_append_left hi] at h'⟩
theorem CellR.show (hh : L2'.h = p :: L.h) {x : Option Addr} {c : Cell} (h : CellR G L2' H2 x c) : CellR G (L2'.show L p) H2 x c := by
  cases x with
  | none => cases c <;> first | exact h | exact h.elim
  | some a =>
    cases c with
    | lst ds => obtain ⟨vs, q, r⟩ := h; exact ⟨vs, q, by rw [off_show hh]; exact r⟩
    | dK ds => obtain ⟨vs, q, r⟩ := h; exact ⟨vs, q, by rw [off_show hh]; exact r⟩
    | dT ds => obtain ⟨vs, q, r⟩ := h; exact ⟨vs, q, by rw [off_show hh]; exact r⟩
    | dN ds => obtain ⟨es, ep, vs, q, t, r⟩ := h; exact ⟨es, ep, vs, q, by rw [off_show hh]; exact t, by rw [off_show hh]; exact r⟩
    | ins c ds => obtain ⟨dx, vs, q, r⟩ := h; exact ⟨dx, vs, q, by rw [off_show hh]; exact r.mono le_show (Rl.of_same (Same.refl _))⟩
    | dS ds => obtain ⟨vs, q, r⟩ := h; exact ⟨vs, q, by rw [off_show hh]; exact r.mono le_show (Rl.of_same (Same.refl _))⟩
    | lv ds => obtain ⟨vs, q, r⟩ := h; exact ⟨vs, q, by rw [off_show hh]; exact r.mono le_show (Rl.of_same (Same.refl _))⟩
    | dV ds => obtain ⟨vs, q, r⟩ := h; exact ⟨vs, q, by rw [off_show hh]; exact r.mono le_show (Rl.of_same (Same.refl _))⟩
    | dW ds => obtain ⟨vs, q, r⟩ := h; exact ⟨vs, q, by rw [off_show hh]; exact r.mono le_show (Rl.of_same (Same.refl _))⟩
    | dead => exact h.elim
end
/-! ### {k: v, ..} as a cell -/
section
variable {G : Gm} {W : WX} {X : Cx} {pos : Pos}
end
/-! ### dict([(k, v), ..]) as a cell -/
theorem Paired.imp {α β : Type} {F F' : α → β → Prop} (h : ∀ a b, F a b → F' a b) : ∀ {l : List α} {m : List β}, Paired F l m → Paired F' l m
  | _, _, .nil => .nil
  | _, _, .cons a b => .cons (h _ _ a) (Paired.imp h b)
section
variable {X : Cx} {G : Gm} {W : WX} {x id : Str} {rc : List V → Hp → VK → Prop} {gc : Store → List D → Option (D × Store)} {e : Expr} {es : List Expr} {p pos : Pos} {mas : MA}
end
/-! ### written tuples of texts: named by numbers, as classes are -/
/-- what stands at a number -/
structure KTab (G : Gb) (tab : List (Nat × List Str)) : Prop where
  at_ : ∀ k xs, tab.lookup k = some xs → ∀ H, SqT G.K H (G.cA k) (xs.map V.str)
end M


/-! Own __len__ and __iter__ (iter of a dict that is kept in a field). -/
namespace L2
open PySem PySem.Spec PyProof.Rows
/-! ### len(o), o's class with __len__ -/
section
variable {X : Cx} {k : Nat} {C f : Addr} {fd : FuncData} {ps : List Str} {sp : Sp}
end
/-! ### iter(d) -/
/-- a keys' iterator at its start -/
def kObj (d : Addr) (n ep : Nat) : Obj := { cls := .type "dict_keyiterator", data := .fields #[.ref d, .int 0 0, .int n 0, .int ep 0] }
def KItO (d it : Addr) (n ep : Nat) : HO := .ext fun h => h.get? it = some (kObj d n ep)
/-- the locked dict at d, so many keys -/
def Lck (H : Hp) (d : Addr) (od : Obj) (n : Nat) : Prop := (∃ kvs : List (Key × V), H d = some (.frz od (.dK kvs)) ∧ kvs.length = n) ∨ ∃ kvs : List (List Key × V), H d = some (.frz od (.dT kvs)) ∧ kvs.length = n
theorem Lck.obj {X : Cx} {pins : List (Addr × Obj)} {σ : St} {H : Hp} {s : Shared} {d : Addr} {od : Obj} {n : Nat} (I : Inv X pins σ H s) (h : Lck H d od n) :
    ∃ es ep, (d == sysModules) = false ∧ s.heap.get? d = some od ∧ od.ExactDict ∧ od.data = .dict es ep ∧ es.size = n := by
  rcases h with ⟨_, at_, rfl⟩ | ⟨_, at_, rfl⟩
  · have ⟨a, b, c, es, ep, _, e, f, _⟩ := I.frzK at_
    exact ⟨es, ep, a, b, c, e, f⟩
  · have ⟨a, b, c, es, ep, e, f, _⟩ := I.frzT at_
    exact ⟨es, ep, a, b, c, e, f⟩
/-- young: from n0 on -/
def KIts (n0 : Nat) (d : Addr) (od : Obj) (n : Nat) (H : Hp) (Q : VK) : Prop := Lck H d od n ∧ ∀ it es ep, od.data = .dict es ep → H it = none → n0 ≤ it → Q (.ref it) (upd H it (KItO d it n ep))
def rIterK (n0 : Nat) : List V → Hp → VK → Prop := fun vs H Q => ∃ d od n, vs = [.ref d] ∧ KIts n0 d od n H Q
/-! ### o's class with __iter__: iter(self.f) -/
section
variable {P : Program} {w : World} {K : PySem.W.Frag} {mg : Str → Option Value} {base : Heap}
end
/-- such an __iter__, called -/
structure ItrOk (P : Program) (w : World) (K : PySem.W.Frag) (mg : Str → Option Value) (base : Heap) (C : Addr) (f : Str) (fa : Addr) : Prop where
  run : ∀ (A : Around) (outer : List Env) (s : Shared) (H : Hp) (a dx : Addr) (fs : List (Str × V)) (d : Addr) (od : Obj) (n : Nat) (Q : VK) (E : XK), Room 2 A → Env0 P w K mg base A outer s H → H a = some (.ins C dx fs) → fs.lookup f = some (.ref d) → KIts s.heap.objs.size d od n H Q →
    codeAny (model P w) A (.call (.ref fa) ⟨[.ref a], []⟩) (CR (L2.CX P w) outer P w H s Q E) s
theorem ItrOk.of {P : Program} {w : World} {K : PySem.W.Frag} {mg : Str → Option Value} {base : Heap} {C fa : Addr} {f qual slf : Str} {st : Stmt} {fd : FuncData} {N : List Str} (F : Fun K "__iter__" qual st fa fd) (S : FnScope N [slf] (defScope st)) (bd : Binds K fd [slf] []) (cls : Cls K C) (no : NoAttr K C f)
    (rd : ∀ (cdv : Value) (A : Around) (outer : List Env) (s : Shared) (H : Hp) (E : XK), PSs (cxOf (L2.CX P w) P w K mg base N qual (defScope st) fa cdv A outer s H E) (defBody st) (tRet (tCB (rIterK s.heap.objs.size) (tCons (tFld K (tVar 0) f) tNil)))) : ItrOk P w K mg base C f fa :=
  ⟨fun A outer s H a dx fs d od n Q E room e0 here look its => by
    obtain ⟨oc, o2, kV, doc, pm, an, cdv, ct, osl, rfl, at_, code⟩ := F.ex
    have bound := bd s [.ref a] (e0.mod.kin.keeps fun b o e => (e0.bs b o e).1) rfl
    exact LamX.run_ofS at_ code S room e0 bound (.cons (a := V.ref a) (b := Value.ref a) rfl .nil) rfl fun _ => ⟨_, rd cdv A outer s H E, .ref a, rfl, a, C, dx, fs, .ref d, rfl, here, cls, no, look, d, od, n, rfl, its⟩⟩
section
variable {X : Cx} {tg e : Expr} {te : TE} {C fa : Addr} {f : Str}
end
end L2


/-! The M layer: own objects walked, their own len. -/
namespace M
open PySem PySem.Spec PyProof.Rows L2
section
variable {G : Gm} {W : WX} {X : Cx} {tg e : Expr} {ma : ME} {fa : Addr} {f : Str} {cid : Nat}
end
/-! ### len(o) -/
theorem Vas.one {G : Gb} {L : Lv} {H : Hp} {vs : List V} {d : D} (h : Vas G L H vs [d]) : ∃ v, vs = [v] ∧ Va G L H v d := by
  cases h with
  | cons h r => cases r; exact ⟨_, rfl, h⟩
section
variable {X : Cx} {G : Gm} {W : WX} {x id : Str} {rc : List V → Hp → VK → Prop} {gc : Store → List D → Option (D × Store)} {e : Expr} {es : List Expr} {p pos : Pos} {mas : MA}
end
end M


/-! Own == and !=. -/
namespace L2
open PySem PySem.Spec PyProof.Rows
/-- a class with an own __eq__ and no own __ne__ -/
structure EqC (K : PySem.W.Frag) (C f : Addr) : Prop where
  cls : ∃ (nm q : Str) (N : Addr) (bs : List Value) (hd : Bool) (sn : List Str) (su : List Value) (ab : Bool) (co : Option Bool) (dd : Option Addr) (k0 k1 k2 k3 k5 : Option Value) (newId : String),
    K.lookup C = some (excClassObj nm q C N bs [.type "object"] hd sn su ab co dd k0 k1 k2 k3 k5 newId) ∧ PySem.W.nsOkIn K N = true ∧ PySem.W.nsIn K N "__eq__" = some (some (.ref f)) ∧ PySem.W.nsIn K N "__ne__" = some none
  at_ : PySem.W.findIn K (.ref C) "__eq__" = some (some (.ref f))
  fn : PySem.W.isFn K (.ref f) = true
theorem named_of {K : PySem.W.Frag} {h : Heap} {N : Addr} {mN : Str → Option Value} {n : Str} {v : Value} (X : K.In h) (G : h.Ns N mN) (e : PySem.W.nsIn K N n = some (some v)) : mN n = some v := by
  have ⟨o, es, ep, at_, data, _, find⟩ := G
  unfold PySem.W.nsIn at e
  split at e
  · rename_i es' _ _ q
    have same := X _ _ q
    rw [at_] at same
    cases same
    cases data
    split at e
    · rename_i en he
      cases e
      rw [← find]
      simp only [nsFind, findBy, ← Array.find?_toList, he, Option.map_some]
    · split at e <;> cases e
  · cases e
theorem EqC.heap {K : PySem.W.Frag} {C f x : Addr} {h : Heap} {o : Obj} (E : EqC K C f) (X : K.In h) (at_ : h.get? x = some o) (ty : o.cls = .ref C) : h.OwnEqNoNe x C f "object" [.type "object"] := by
  obtain ⟨nm, q, N, bs, hd, sn, su, ab, co, dd, k0, k1, k2, k3, k5, newId, look, ok, eq, ne⟩ := E.cls
  have G : h.Ns N (h.nsMap N) := .of_isNs (PySem.W.isNs_of_in X ok)
  obtain ⟨of, lf, tf⟩ := Option.map_eq_some_iff.mp (show (K.lookup f).map (·.cls) = some (.type "function") from beq_iff_eq.mp E.fn)
  exact ⟨o, of, nm, q, N, bs, hd, sn, su, ab, co, dd, k0, k1, k2, k3, k5, newId, h.nsMap N, _, at_, ty, X _ _ look, G, named_of X G eq, X _ _ lf, tf, PySem.F.cmp_object.mro, PySem.F.cmp_object.eq.lookup, PySem.W.nsMap_none_of_in X ok ne⟩
section
variable {X : Cx} {k : Nat} {C f : Addr} {fd : FuncData} {ps : List Str} {sp : Sp}
end
end L2
namespace M
open PySem PySem.Spec PyProof.Rows L2
end M


/-! Tuples compared whose items may be own objects. -/
namespace L2
open PySem PySem.Spec PyProof.Rows AutoSeq1 MeetsSeq MeetsSeq2 MeetsSeq3 SeqRoads2
section
variable {prog : Program} {w : World} {A : Around} {R : Result → Shared → Prop}
end
section
variable {X : Cx} {k : Nat} {C f : Addr} {fd : FuncData} {ps : List Str} {sp : Sp}
end
end L2
namespace M
open PySem PySem.Spec PyProof.Rows L2
open Classical in
/-- the pairs of two tuples' items: plain data, or own objects that their class's __eq__ (which leaves the store) says to be equal -/
noncomputable def pairsO (cid : Nat) (c : Call) : List D → List D → Store → Option (Bool × Store)
  | [], [], st => some (true, st)
  | d :: ds, e :: es, st => if okD 8 d = true ∧ okD 8 e = true then (if eqvD d e = true then pairsO cid c ds es st else some (false, st)) else match objF st d, objF st e with
    | some (i, _), some (j, _) => if i = cid ∧ j = cid then (match c [d, e] st with
      | some (.ok (.bl true), st') => if st' = st then pairsO cid c ds es st else none
      | _ => none) else none
    | _, _ => none
  | _, _, _ => none
end M


/-! The M layer: d[k] of a dict that may be a cell. -/
namespace M
open PySem PySem.Spec PyProof.Rows L2
section
variable {G : Gm} {W : WX} {X : Cx} {o i : Expr} {pos : Pos} {mo mi : ME}
end
end M
namespace L2
open PySem PySem.Spec PyProof.Rows
end L2


/-! More mirrors reckoned with by simp. -/
namespace M
open PySem L2
section
variable {env : En} {st : Store} {d e : D}
@[simp] theorem e_cbs {g : Store → List D → Option (D × Store)} {ma : MA} : mCBS g ma env st = bnd (ma env st) fun ds st => (g st ds).elim none fun p => some (.ok p.1, p.2) := by
  unfold mCBS
  congr 1; funext ds st
  cases g st ds <;> rfl
end
/-! k in a dict whose keys are tuples -/
theorem DasT.isSome {G : Gb} {H : Hp} (k : List Key) : ∀ {ds : List (List Key × D)} {vs : List (List Key × V)}, DasT G H vs ds → (valV vs k).isSome = (valKd ds k).isSome
  | [], _, h => by cases h; rfl
  | (j, x) :: ds, _, h => by
    cases h with
    | cons h r =>
      have ih := DasT.isSome k r
      by_cases q : j = k
      · subst q
        simp [valV, valKd]
      · simpa [valV, valKd, q] using ih
section
open PySem PySem.Spec PyProof.Rows
variable {G : Gm} {W : WX} {X : Cx} {o i : Expr} {pos : Pos} {mo mi : ME}
end
end M


/-! sorted of dicts; repr of plain values. -/
namespace L2
open PySem PySem.Spec PyProof.Rows
section
variable {X : Cx}
end
end L2


/-! The M layer: sorted of dicts and of ints, repr of plain values, zip, == of own objects or plain data. -/
namespace M
open PySem PySem.Spec PyProof.Rows L2
/-! ### sorted -/
/-! ### repr of plain values -/
def gRepr (_ : Store) : List D → Option D
  | [.non] => some (.str "None")
  | [.bl b] => some (.str (if b then "True" else "False"))
  | [.int i] => if i.natAbs.log2 < 1920 then some (.str (toString i)) else none
  | [.str x] => if (reprText x).length ≤ sizeLine then some (.str (reprText x)) else none
  | _ => none
def rRepr : List V → Hp → VK → Prop := fun xs H Q => (xs = [.non] ∧ Q (.str "None") H) ∨ (∃ b, xs = [.bl b] ∧ Q (.str (if b then "True" else "False")) H) ∨ (∃ i, xs = [.int i] ∧ i.natAbs.log2 < 1920 ∧ Q (.str (toString i)) H) ∨ ∃ x, xs = [.str x] ∧ (reprText x).length ≤ sizeLine ∧ Q (.str (reprText x)) H
theorem call_repr {X : Cx} : CallR X (.builtin "repr") rRepr := by
  rintro pins s σ H xs us Q I r (⟨rfl, q⟩ | ⟨b, rfl, q⟩ | ⟨i, rfl, h, q⟩ | ⟨x, rfl, h, q⟩)
  · obtain ⟨u, rfl, ru⟩ := vals1 r
    obtain rfl : u = Value.none := ru
    exact PySem.P.repr_of_none ⟨.str _, H, I.tok _, ⟨_, rfl⟩, q⟩
  · obtain ⟨u, rfl, ru⟩ := vals1 r
    obtain rfl : u = Value.bool b := ru
    exact PySem.P.repr_of_bool ⟨.str _, H, I.tok _, ⟨_, rfl⟩, q⟩
  · exact SkE.call_repr_int pins s σ H _ us Q I r ⟨i, rfl, h, q⟩
  · obtain ⟨u, rfl, t, rfl⟩ := vals1 r
    exact PySem.P.repr_of_str ⟨.str _, H, I.tok _, ⟨_, rfl⟩, q⟩ h
theorem rc_repr {G : Gb} : RCM G rRepr gRepr := fun L st H xs ds z Q R dv hz k => by
  unfold gRepr at hz
  split at hz
  · cases hz
    obtain ⟨v, rfl, hv⟩ := Das.one dv
    obtain rfl := hv.non_inv
    exact .inl ⟨rfl, r_same (.str _) R k⟩
  · rename_i b
    cases hz
    obtain ⟨v, rfl, hv⟩ := Das.one dv
    obtain rfl := hv.bl_inv
    exact .inr (.inl ⟨b, rfl, r_same (.str _) R k⟩)
  · rename_i i
    split at hz
    · rename_i h
      cases hz
      obtain ⟨v, rfl, hv⟩ := Das.one dv
      obtain rfl := hv.int_inv
      exact .inr (.inr (.inl ⟨i, rfl, h, r_same (.str _) R k⟩))
    · cases hz
  · rename_i x
    split at hz
    · rename_i h
      cases hz
      obtain ⟨v, rfl, hv⟩ := Das.one dv
      obtain rfl := hv.str_inv
      exact .inr (.inr (.inr ⟨x, rfl, h, r_same (.str _) R k⟩))
    · cases hz
  · cases hz
end M


/-! The M layer: a list that was a cell becomes a datum (its cell is dead from then on). -/
namespace M
open PySem PySem.Spec PyProof.Rows L2
section
variable {G : Gb} {L : Lv} {H : Hp} {st : Store} {k : Nat}
end
section
variable {G : Gm} {W : WX} {X : Cx} {e : Expr}
end
end M


/-! Defs called where no guard of repr stands: what they promise there, how they are called, how their bodies show it. -/
namespace L2
open PySem PySem.Spec PyProof.Rows
/-- room, and nobody's repr is under way -/
structure RoomG (k : Nat) (A : Around) : Prop where
  room : Room k A
  none_ : A.guards = some []
namespace RoomG
variable {j k : Nat} {A : Around}
theorem mono (r : RoomG k A) (h : j ≤ k) : RoomG j A := ⟨r.room.mono h, r.none_⟩
theorem deeper (r : RoomG (k + 1) A) (env : Env) : RoomG k (A.deeper env) := ⟨r.room.deeper env, r.none_⟩
theorem in1 (r : RoomG (k + 1) A) : RoomG k A.in1 := ⟨r.room.in1, r.none_⟩
theorem caller (r : Room k callerA) : RoomG k callerA := ⟨r, rfl⟩
end RoomG
structure FnG (P : Program) (w : World) (K : PySem.W.Frag) (mg : Str → Option Value) (base : Heap) (CX : CXT) (k : Nat) (f : Addr) (fd : FuncData) (ps : List Str) (sp : Sp) : Prop where
  len : ∀ vs H Q E, sp vs H Q E → vs.length = ps.length
  run : ∀ (A : Around) (outer : List Env) (s : Shared) (H : Hp) (args : Args) (us : List Value) (vs : List V) (Q : VK) (E : XK), RoomG k A → Env0 P w K mg base A outer s H → BindsTo s fd args (ps.zip us) → Vals vs us → sp vs H Q E →
    codeAny (model P w) A (.call (.ref f) args) (CR CX outer P w H s Q E) s
section
variable {P : Program} {w : World} {K : PySem.W.Frag} {mg : Str → Option Value} {base : Heap} {CX : CXT} {k : Nat} {f : Addr} {fd : FuncData} {ps : List Str} {sp : Sp}
end
section
variable {X : Cx} {CX : CXT} {k : Nat} {f : Addr} {fd : FuncData} {ps : List Str} {sp : Sp} {pins : List (Addr × Obj)} {σ : St} {H : Hp} {s : Shared} {Q : VK} {E : St → XK} {us : List Value} {vs : List V} {kw : List (Str × Value)}
end
/-- a body's ends, seen by the caller -/
theorem ends_of {X : Cx} {Q : VK} {H0 : Hp} {s0 s' : Shared} {outer : List Env} {P : Program} {w : World} (out : ∀ {σ : St} {H : Hp} {v : V} {u : Value}, Inv X [] σ H s' → RelV v u → Q v H → CE outer P w H0 s0 Q u s') :
    ∀ fl, SP X [] { nx := fun _ H => Q .non H, rt := Q } fl s' → CE outer P w H0 s0 Q (match fl with | .ret v => v | _ => .none) s'
  | .ret _, ⟨_, _, _, J, rel, q⟩ => out J rel q
  | .next, ⟨_, _, J, q⟩ => out (v := .non) J rfl q
  | .brk, ⟨_, _, _, q⟩ => q.elim
  | .cont, ⟨_, _, _, q⟩ => q.elim
section
variable {P : Program} {w : World} {K : PySem.W.Frag} {mg : Str → Option Value} {base : Heap} {CX : CXT} {k : Nat} {f : Addr} {name qual : Str} {params : Arguments} {body : List Stmt} {scope : Scope} {dV kV doc pm cdv ct oc : Value} {an od : Option Addr} {osl : Array (Option Value)} {N ps : List Str} {sp : Sp}
/-- a def whose body keeps its promise where no repr is under way -/
theorem fn_ofG (look : K.lookup f = some ⟨oc, od, .func (PySem.W.fnOf name qual params body scope dV kV doc pm an cdv ct), osl⟩) (code : PySem.W.codeIn K cdv qual = true) (S : FnScope N ps scope) (len : ∀ vs H Q E, sp vs H Q E → vs.length = ps.length)
    (walk : ∀ (A : Around) (outer : List Env) (s : Shared) (H : Hp) (vs : List V) (Q : VK) (E : XK), RoomG k (A.deeper (envOfC qual scope s.heap.objs.size f cdv)) → sp vs H Q E →
      ∃ t, PSs (cxOf CX P w K mg base N qual scope f cdv A outer s H E) body t ∧ t { nx := fun _ H' => Q .non H', rt := Q } (start N vs) H) :
    FnG P w K mg base CX (k + 1) f (PySem.W.fnOf name qual params body scope dV kV doc pm an cdv ct) ps sp where
  len := len
  run A outer s H args us vs Q E room e0 bound rel wish := by
    have old : ∀ b o, base.get? b = some o → s.heap.get? b = some o := fun b o e => (e0.bs b o e).1
    have places : ∀ x ∈ ps.zip us, scope.names.lookup x.1 = some .local ∨ (scope.names.lookup x.1 = some .cell ∧ ((cellsFrom (s.heap.objs.size + 1) scope.names []).lookup x.1).isSome = true) :=
      fun x hx => (S.par x.1 (List.of_mem_zip hx).1).imp_right fun cell => ⟨cell, PySem.W.cellsFrom_some _ _ _ (.inl cell)⟩
    have inner : ∀ s1, InCallC s s.heap.objs.size (bindL (envOfC qual scope s.heap.objs.size f cdv).kindOf (ps.zip us) fun _ => none) (cellsFrom (s.heap.objs.size + 1) scope.names []) (bindC (envOfC qual scope s.heap.objs.size f cdv).kindOf (ps.zip us) fun _ => none) s1 →
        codeAny (model P w) A (.func body (envOfC qual scope s.heap.objs.size f cdv)) (CR CX outer P w H s Q E) s1 := fun s1 made => by
      have ⟨t, stands, first⟩ := walk A outer s H vs Q E (room.deeper _) wish
      exact codeAny_func (wpAny_mono (stands.run [] s1 _ H _ (inv_start S room.room.hd e0 (len _ _ _ _ wish) rel made) first)
        (fun fl s' done => ends_of (fun {_ H' v _} J r q => ⟨v, H', J.os, J.bare, J.base, J.hok, r, q⟩) fl done) fun _ _ z => z)
    exact codeAny_call_function room.room.depth (old _ _ (e0.mod.kin _ _ look)) rfl S.co S.gen rfl (PySem.W.codeRec_of (e0.mod.kin.keeps old) code) (bound _ _ _ _ (wpAny_newFunctionEnv_cells S.kind places fun env same s1 made => by
      subst same
      exact ⟨(e0.mod.nolimit.keeps old).keeps made.toInCall.keep, inner s1 made⟩))
end
end L2


/-! The end: the law's def called at the top, where no repr is under way. -/
namespace L2
open PySem PySem.Spec PyProof.Rows
section
variable {P : Program} {w : World} {K : PySem.W.Frag} {mg mb : Str → Option Value} {CX : CXT} {k : Nat} {fa a : Addr} {fd : FuncData} {x : Str} {sp : Sp} {top : Shared} {vs : List Value} {ns : List Int}
/-- the script's list is the one thing that may be tracked -/
theorem law_tracked (H : Hp) (one : ∀ b, H b = none ∨ (b = a ∧ H b = some (.frz { cls := .type "list", data := .seq vs.toArray } (.lst (ns.map V.int))))) (apart : ∀ b o, K.lookup b = some o → H b = none) (KX : K.In top.heap) (glob : top.heap.Ns mainGlobals mg) (blt : top.heap.Ns builtinsNs mb) (boot : ∀ x : Str, x ≠ "__name__" → mb x = bootBuiltins x) (free : top.heap.NoLimit) (bare : top.gens = #[])
    (list : top.heap.get? a = some { cls := .type "list", data := .seq vs.toArray }) (nums : IntsAre vs ns) (few : ns.length ≤ sizeLine) (room : Room k callerA) (F : ∀ base : Heap, K.In base → base.Ns mainGlobals mg → FnG P w K mg base CX k fa fd [x] sp) (bind : ∀ (s : Shared) (u : Value), BindsTo s fd ⟨[u], []⟩ [(x, u)])
    (wish : sp [.ref a] H (fun v _ => v = .bl true) fun _ _ _ => False) (quiet : ∀ H e s', CX [] H top (fun _ _ _ => False) e s' → False) :
    codeAny (model P w) callerA (.call (.ref fa) ⟨[.ref a], []⟩) (fun r s' => r = .ok (.ret (.bool true)) ∧ OldK top.heap s'.heap ∧ s'.os = top.os ∧ AllBare s'.gens) top := by
  have seen : ∀ {b o}, top.heap.get? b = some o → H b = none → (hidT top.heap H).get? b = some o := fun e n => hidT_get e n
  have names : ∀ {L : Addr} {m : Str → Option Value}, top.heap.Ns L m → (hidT top.heap H).Ns L m := fun {L m} ⟨o, es, ep, at_, data, r⟩ => ⟨o, es, ep, seen at_ ((one L).elim id fun ⟨e, _⟩ => by
    rw [e, list] at at_
    cases at_
    cases data), data, r⟩
  have inK : K.In (hidT top.heap H) := fun b o l => seen (KX b o l) (apart b o l)
  have tracked : HOk P w H top.heap := fun b u e => by
    rcases one b with n | ⟨rfl, q⟩
    · rw [n] at e; cases e
    · rw [q] at e
      cases e
      exact ⟨list, by rw [List.length_map]; exact few, vs, 0, vals_ints nums, list⟩
  have noLimit : (hidT top.heap H).NoLimit := by
    obtain ⟨mc, at_, no⟩ := free
    exact ⟨mc, names at_, no⟩
  have e0 : Env0 P w K mg (hidT top.heap H) callerA [] top H :=
    { frames := rfl, mod := ⟨inK, names glob, ⟨mb, names blt, boot⟩, noLimit⟩, bs := fun b o e => of_hidT e, bsz := Nat.le_of_eq (hidT_size _ _), funs := True.intro, frf := (fun b z => (nomatch (show b ∈ ([] : List Addr) from z))), hok := tracked, bare := fun y hy => by rw [bare] at hy; simp at hy }
  refine codeAny_mono ((F _ inK (names glob)).run callerA [] top H ⟨[.ref a], []⟩ [.ref a] [.ref a] _ _ (RoomG.caller room) e0 (bind top (.ref a)) (.cons rfl .nil) wish) fun r s' done => ?_
  match r, done with
  | .error e, done => exact (quiet H e s' done).elim
  | .ok (.ret u), ⟨v, H', os, gens, un, hok, rel, q⟩ =>
    subst q
    obtain rfl : u = Value.bool true := rel
    refine ⟨rfl, ⟨fun b o e => .inl ?_, fun b o e => un.there b o e (fun z => (nomatch z))⟩, os, gens⟩
    rcases one b with n | ⟨rfl, t⟩
    · exact un.keep b o e n (fun z => (nomatch (show b ∈ ([] : List Addr) from z))) fun z => (nomatch z)
    · have := hok b _ (un.frzs b _ _ t)
      rw [list] at e
      cases e
      exact this.1
theorem law_callG (KX : K.In top.heap) (glob : top.heap.Ns mainGlobals mg) (blt : top.heap.Ns builtinsNs mb) (boot : ∀ x : Str, x ≠ "__name__" → mb x = bootBuiltins x) (free : top.heap.NoLimit) (bare : top.gens = #[])
    (list : top.heap.get? a = some { cls := .type "list", data := .seq vs.toArray }) (nums : IntsAre vs ns) (few : ns.length ≤ sizeLine) (room : Room k callerA) (F : ∀ base : Heap, K.In base → base.Ns mainGlobals mg → FnG P w K mg base CX k fa fd [x] sp) (bind : ∀ (s : Shared) (u : Value), BindsTo s fd ⟨[u], []⟩ [(x, u)])
    (wish : ∀ H : Hp, Only H → SqL K H a (ns.map V.int) → sp [.ref a] H (fun v _ => v = .bl true) fun _ _ _ => False) (quiet : ∀ H e s', CX [] H top (fun _ _ _ => False) e s' → False) :
    codeAny (model P w) callerA (.call (.ref fa) ⟨[.ref a], []⟩) (fun r s' => r = .ok (.ret (.bool true)) ∧ OldK top.heap s'.heap ∧ s'.os = top.os ∧ AllBare s'.gens) top := by
  cases known : K.lookup a with
  | none =>
    let H : Hp := fun b => if b = a then some (.frz { cls := .type "list", data := .seq vs.toArray } (.lst (ns.map V.int))) else none
    have here : H a = some (.frz { cls := .type "list", data := .seq vs.toArray } (.lst (ns.map V.int))) := if_pos rfl
    have one : ∀ b, H b = none ∨ (b = a ∧ H b = some (.frz { cls := .type "list", data := .seq vs.toArray } (.lst (ns.map V.int)))) := fun b => (Classical.em (b = a)).elim (fun e => .inr ⟨e, e ▸ here⟩) fun e => .inl (if_neg e)
    exact law_tracked H one (fun b o l => if_neg fun e => by rw [e, known] at l; cases l) KX glob blt boot free bare list nums few room F bind (wish H (fun b => (one b).imp id fun z => ⟨_, _, z.2⟩) (.inl (.inr ⟨_, here⟩))) quiet
  | some o =>
    have same := KX a o known
    rw [list] at same
    cases same
    exact law_tracked (fun _ => none) (fun b => .inl rfl) (fun _ _ _ => rfl) KX glob blt boot free bare list nums few room F bind (wish _ (fun b => .inl rfl) (.inr ⟨_, _, _, known, rfl, rfl, rfl, by
      have := (vals_ints nums).length
      rw [List.length_map] at this
      simp only [List.size_toArray]
      omega, vals_ints nums⟩)) quiet
end
theorem walk_ofG {l : PySem.W.OpenLaw} {n k : Nat} {q : Program} {loose : List Str} {XP : (Str → Option Value) → Heap → Prop} {YP : World → Heap → Prop} {d : DefRec} {K : Params → PySem.W.Frag} {CX : World → CXT} {sp : World → Sp} {x : Str} (most : l.most = some n) (few : n ≤ sizeLine) (plain : d.params.defaults = []) (room : Room k callerA) (kin : ∀ (w : World) (h : Heap), YP w h → (K w.params).In h)
    (F : ∀ (w : World) (mg : Str → Option Value) (fa : Addr) (h : Heap), (K w.params).In h → h.Ns mainGlobals mg → mg d.name = some (.ref fa) → ∃ fd : FuncData, (∀ (s : Shared) (u : Value), BindsTo s fd ⟨[u], []⟩ [(x, u)]) ∧ ∀ base : Heap, (K w.params).In base → base.Ns mainGlobals mg → FnG l.prog w (K w.params) mg base (CX w) k fa fd [x] (sp w))
    (wish : ∀ (w : World) (H : Hp) (a : Addr) (ns : List Int), ns.length ≤ n → Only H → SqL (K w.params) H a (ns.map V.int) → sp w [.ref a] H (fun v _ => v = .bl true) fun _ _ _ => False)
    (quiet : ∀ (w : World) (H : Hp) (s : Shared) (e : Value) (s' : Shared), CX w [] H s (fun _ _ _ => False) e s' → False) : PySem.W.WalkO q loose XP YP l.row.toRowW d [] (fun f vs => PySem.call f vs) :=
  Att.attach_call most plain fun w _ top mg _ fa _ _ _ _ a vs ns G Y _ _ _ at_ list nums len bare => by
    have KX := kin w _ Y
    obtain ⟨fd, bind, promise⟩ := F w mg fa _ KX G.T.g at_
    exact law_callG KX G.T.g G.T.b G.T.builtins G.T.nolimit bare list nums (Nat.le_trans len few) room promise bind (fun H only sq => wish w H a ns len only sq) fun H e s' => quiet w H top e s'
end L2


/-! The M layer for defs called where no repr is under way: calls, bodies, the end. -/
namespace M
open PySem PySem.Spec PyProof.Rows L2
section
variable {X : Cx} {G : Gm} {W : WX} {k n : Nat} {f : Addr} {fd : FuncData} {ps : List Str} {c : Call} {x : Str} {p pos : Pos} {e : Expr} {es : List Expr} {mas : MA}
end
section
variable {P : Program} {w : World} {K : PySem.W.Frag} {mg : Str → Option Value} {base : Heap}
theorem okG {hot : M.HotK} {x qual : Str} {st : Stmt} {f : Addr} {fd : FuncData} {N ps : List Str} {k : Nat} {sp : Sp} (F : Fun K x qual st f fd) (S : FnScope N ps (defScope st)) (len : ∀ vs H Q E, sp vs H Q E → vs.length = ps.length)
    (body : ∀ (cdv : Value) (A : Around) (outer : List Env) (s : Shared) (H : Hp) (vs : List V) (Q : VK) (E : XK), RoomG k (A.deeper (envOfC qual (defScope st) s.heap.objs.size f cdv)) → sp vs H Q E →
      ∃ t, PSs (cxOf (M.Cq hot P w) P w K mg base N qual (defScope st) f cdv A outer s H E) (defBody st) t ∧ t { nx := fun _ H' => Q .non H', rt := Q } (L2.start N vs) H) : FnG P w K mg base (M.Cq hot P w) (k + 1) f fd ps sp := by
  obtain ⟨_, _, _, _, _, _, cdv, _, _, rfl, look, code⟩ := F.ex
  exact fn_ofG look code S len fun A outer s H vs Q E => body cdv A outer s H vs Q E
theorem FnG.imp {CX : CXT} {k : Nat} {f : Addr} {fd : FuncData} {ps : List Str} {sp sp' : Sp} (F : FnG P w K mg base CX k f fd ps sp) (h : ∀ vs H Q E, sp' vs H Q E → sp vs H Q E) : FnG P w K mg base CX k f fd ps sp' :=
  ⟨fun vs H Q E q => F.len vs H Q E (h _ _ _ _ q), fun A outer s H args us vs Q E room e0 bound rel wish => F.run A outer s H args us vs Q E room e0 bound rel (h _ _ _ _ wish)⟩
end
theorem fnG_weak {hot : M.HotK} {P : Program} {w : World} {K : PySem.W.Frag} {mg : Str → Option Value} {base : Heap} {k : Nat} {f : Addr} {fd : FuncData} {ps : List Str} {sp : Sp} (F : FnG P w K mg base (M.Cq hot P w) k f fd ps sp) : FnG P w K mg base (L2.CX P w) k f fd ps sp :=
  ⟨F.len, fun A outer s H args us vs Q E room env0 bind rel wish => codeAny_mono (F.run A outer s H args us vs Q E room env0 bind rel wish) fun _ _ c => cr_weak c⟩
theorem law_okGT {hot : M.HotK} {P : Program} {w : World} {K : PySem.W.Frag} {mg : Str → Option Value} {base : Heap} {B : Gb} {k : Nat} {f : Addr} {fd : FuncData} {ps : List Str} {c : Call} (hB : B.K = K) (hc : ∀ ns : List Int, ns.length ≤ 63 → ∃ st, c [.ro (ns.map D.int)] [] = some (.ok (.bl true), st))
    (F : FnG P w K mg base (M.Cq hot P w) k f fd ps (spM B c 1)) : FnG P w K mg base (L2.CX P w) k f fd ps (spLawT K B.T) := FnG.imp (fnG_weak F) fun vs H Q E h => by
  obtain ⟨tabs, a, ns, rfl, hS, hl, q⟩ := h
  obtain ⟨st, hst⟩ := hc ns hl
  have eo : off ⟨[], []⟩ H = H := by
    funext b
    unfold off
    rw [if_neg]
    rintro (z | z) <;> cases z
  refine ⟨rfl, ⟨[], []⟩, [], [.ro (ns.map D.int)], _, st, ⟨rfl, fun i j a h => ?_, fun i x c h => ?_, fun a h => (by cases h), tabs⟩, .cons (.d ?_) .nil, hst, fun v L' H' e r va => ?_⟩
  · simp at h
  · simp at h
  · rw [eo]
    exact .ro (hB ▸ hS) (Das.ints ns)
  · cases va.bl_inv
    exact q H'
theorem law_okG {hot : M.HotK} {P : Program} {w : World} {K : PySem.W.Frag} {mg : Str → Option Value} {base : Heap} {B : Gb} {k : Nat} {f : Addr} {fd : FuncData} {ps : List Str} {c : Call} (hB : B.K = K) (hT : B.T = []) (hc : ∀ ns : List Int, ns.length ≤ 63 → ∃ st, c [.ro (ns.map D.int)] [] = some (.ok (.bl true), st))
    (F : FnG P w K mg base (M.Cq hot P w) k f fd ps (spM B c 1)) : FnG P w K mg base (L2.CX P w) k f fd ps (spLaw K) := FnG.imp (law_okGT hB hc F) fun vs H Q E h => ⟨by rw [hT]; exact fun p hp => (nomatch hp), h⟩
theorem walkMG {l : PySem.W.OpenLaw} {q : Program} {loose : List Str} {XP : (Str → Option Value) → Heap → Prop} {YP : World → Heap → Prop} {d : DefRec} {K : Params → PySem.W.Frag} (k : Nat) (x : Str) (most : l.most = some 63) (plain : d.params.defaults = []) (room : Room k callerA) (kin : ∀ (w : World) (h : Heap), YP w h → (K w.params).In h)
    (F : ∀ (w : World) (mg : Str → Option Value) (fa : Addr) (h : Heap), (K w.params).In h → h.Ns mainGlobals mg → mg d.name = some (.ref fa) →
      ∃ fd : FuncData, (∀ (s : Shared) (u : Value), BindsTo s fd ⟨[u], []⟩ [(x, u)]) ∧ ∀ base : Heap, (K w.params).In base → base.Ns mainGlobals mg → FnG l.prog w (K w.params) mg base (L2.CX l.prog w) k fa fd [x] (spLaw (K w.params))) :
    PySem.W.WalkO q loose XP YP l.row.toRowW d [] (fun f vs => PySem.call f vs) :=
  walk_ofG (n := 63) (CX := fun w => L2.CX l.prog w) (sp := fun w => spLaw (K w.params)) most (by decide) plain room kin F (fun _ _ a ns len _ sq => ⟨a, ns, rfl, sq, len, fun _ => rfl⟩) fun _ _ _ _ _ z => own_noCX z
end M


/-! repr of lists and tuples of plain data, where no repr is under way. -/
namespace M
open PySem PySem.Spec PyProof.Rows L2
def rReprD (K : PySem.W.Frag) : List V → Hp → VK → Prop := fun xs H Q => ∃ (a : Addr) (d : PyData), xs = [.ref a] ∧ Dp K H (.ref a) d ∧ d.showable = true ∧ d.hasDict = false ∧ d.shown.length ≤ sizeLine ∧ d.depth ≤ 8 ∧ Q (.str d.shown) H
theorem call_reprD {X : Cx} (none_ : X.A.guards = some []) (units : X.A.units + 64 < cLine) : CallR X (.builtin "repr") (rReprD X.K) := by
  rintro pins s σ H xs us Q I r ⟨a, d, rfl, dp, shows, noDict, size, depth, q⟩
  obtain ⟨u, rfl, ru⟩ := vals1 r
  obtain rfl : u = Value.ref a := ru
  obtain ⟨as, reads⟩ := Dp.reads I d (.ref a) (.ref a) dp rfl
  exact repr_of_reads' reads shows (fun z => by rw [noDict] at z; cases z) none_ (by omega) (fun _ _ e => e) (fun h' u tk keep => ⟨.str d.shown, H, I.turnedL (t' := tk) (ch := []) (fun b o _ e => keep b o e) (fun b z => (nomatch z)), ⟨_, rfl⟩, q⟩) size
def isSq : D → Bool
  | .lst _ | .ro _ | .tup _ => true
  | _ => false
def gReprD (st : Store) : List D → Option D
  | [x] => if isSq (rd st x) = true ∧ okD 8 (rd st x) = true ∧ (py (rd st x)).showable = true ∧ (py (rd st x)).hasDict = false ∧ (py (rd st x)).shown.length ≤ sizeLine then some (.str (py (rd st x)).shown) else gRepr st [x]
  | _ => none
theorem rc_reprD {G : Gb} : RCM G (fun xs H Q => rReprD G.K xs H Q ∨ rRepr xs H Q) gReprD := fun L st H xs ds z Q R dv hz k => by
  unfold gReprD at hz
  split at hz
  · rename_i x
    split at hz
    · rename_i ok
      obtain ⟨sq, ok8, shows, noDict, size⟩ := ok
      cases hz
      obtain ⟨v, rfl, hv⟩ := Das.one dv
      have da := rd_da R hv (ok_isD ok8)
      have dp := da_dp 8 _ _ ok8 da
      obtain ⟨a, rfl⟩ : ∃ a, v = V.ref a := by
        revert sq da
        cases rd st x <;> intro sq da <;> first | (cases sq; done) | (cases da <;> exact ⟨_, rfl⟩)
      exact .inl ⟨a, _, rfl, dp, shows, noDict, size, (ok_py 8 _ ok8).2, r_same (.str _) R k⟩
    · exact .inr (rc_repr L st H xs [x] z Q R dv hz k)
  · cases hz
theorem call_reprA {X : Cx} (none_ : X.A.guards = some []) (units : X.A.units + 64 < cLine) : CallR X (.builtin "repr") (fun xs H Q => rReprD X.K xs H Q ∨ rRepr xs H Q) := (call_reprD none_ units).or2 call_repr
end M


/-! repr of dicts whose keys are ints and texts and whose values are plain, where no repr is under way. -/
namespace M
open PySem PySem.Spec PyProof.Rows L2
def encK : Key → PyData
  | .inl i => .int i
  | .inr x => .str x
def FlatV (v : V) (d : PyData) : Prop := ∀ (h : Heap) (u : Value), RelV v u → Reads h u d []
inductive FlatKs : List (Key × V) → List (PyData × PyData) → Prop
  | nil : FlatKs [] []
  | cons {k : Key} {v : V} {d : PyData} {kvs : List (Key × V)} {ds : List (PyData × PyData)} : FlatV v d → FlatKs kvs ds → FlatKs ((k, v) :: kvs) ((encK k, d) :: ds)
theorem FlatKs.reads {h : Heap} : ∀ {kvs : List (Key × V)} {ds : List (PyData × PyData)} {us : List (Key × Value)}, FlatKs kvs ds → KV kvs us → PyProof.V.PairsRead h encK us ds []
  | _, _, _, .nil, .nil => .nil
  | _, _, _, .cons f r, .cons (b := (k, u)) ⟨e, rel⟩ t => by
    obtain rfl := e
    exact .cons (f h u rel) (r.reads t)
def rReprK : List V → Hp → VK → Prop := fun xs H Q => ∃ (a : Addr) (kvs : List (Key × V)) (ds : List (PyData × PyData)), xs = [.ref a] ∧ Rd H a (.dK kvs) ∧ FlatKs kvs ds ∧ (PyData.dict ds).showable = true ∧ (PyData.dict ds).shown.length ≤ sizeLine ∧ (PyData.dict ds).depth ≤ 8 ∧ Q (.str (PyData.dict ds).shown) H
theorem call_reprK {X : Cx} (none_ : X.A.guards = some []) (units : X.A.units + 64 < cLine) : CallR X (.builtin "repr") rReprK := by
  rintro pins s σ H xs us Q I r ⟨a, kvs, ds, rfl, at_, flat, shows, size, depth, q⟩
  obtain ⟨u, rfl, ru⟩ := vals1 r
  obtain rfl : u = Value.ref a := ru
  obtain ⟨_, low, us, rel, dict⟩ : ObjOk X.prog X.w H s.heap a (.dK kvs) := at_.elim (fun e => I.hok a _ e) fun ⟨o, e⟩ => (I.hok a _ e).2
  have reads := PyProof.V.reads_dictOf (h := s.heap) (enc := encK) (fun k key e => by
    rcases keyIs_shape e with ⟨i, t, rfl, rfl⟩ | ⟨x, t, rfl, rfl⟩
    · exact .int i t
    · exact .str x t) dict (flat.reads rel)
  exact repr_of_reads' reads shows (fun _ z => by
    rw [List.mem_singleton] at z
    subst z
    simp at low) none_ (by omega) (fun _ _ e => e) (fun h' u tk keep => ⟨.str _, H, I.turnedL (t' := tk) (ch := []) (fun b o _ e => keep b o e) (fun b z => (nomatch z)), ⟨_, rfl⟩, q⟩) size
def rowsP (kvs : List (Key × D)) : List (PyData × PyData) := kvs.map fun p => (encK p.1, py p.2)
theorem flat_da {G : Gb} {H : Hp} {v : V} {d : D} (h : Da G H v d) (f : flatD d = true) : FlatV v (py d) := by
  cases h <;> first | (cases f; done) | skip
  · intro hp u r; cases r; simp only [py]; exact .none
  · intro hp u r; cases r; simp only [py]; exact .bool _
  · intro hp u r; obtain ⟨t, rfl⟩ := r; simp only [py]; exact .int _ t
  · intro hp u r; obtain ⟨t, rfl⟩ := r; simp only [py]; exact .str _ t
theorem flat_das {G : Gb} {H : Hp} : ∀ {kvs : List (Key × D)} {vs : List (Key × V)}, DasK G H vs kvs → (kvs.all fun p => flatD p.2) = true → FlatKs vs (rowsP kvs)
  | _, _, .nil, _ => .nil
  | _, _, .cons h r, f => by
    rw [List.all_cons, Bool.and_eq_true] at f
    exact .cons (flat_da h f.1) (flat_das r f.2)
def gReprK (st : Store) : List D → Option D
  | [x] => match rd st x with
    | .dK kvs => if (kvs.all fun p => flatD p.2) = true ∧ (PyData.dict (rowsP kvs)).showable = true ∧ (PyData.dict (rowsP kvs)).shown.length ≤ sizeLine ∧ (PyData.dict (rowsP kvs)).depth ≤ 8 then some (.str (PyData.dict (rowsP kvs)).shown) else none
    | _ => gReprD st [x]
  | _ => none
theorem rc_reprK {G : Gb} : RCM G (fun xs H Q => rReprK xs H Q ∨ (rReprD G.K xs H Q ∨ rRepr xs H Q)) gReprK := fun L st H xs ds z Q R dv hz k => by
  unfold gReprK at hz
  split at hz
  · rename_i x
    split at hz
    · rename_i kvs e
      split at hz
      · rename_i ok
        cases hz
        obtain ⟨v, rfl, hv⟩ := Das.one dv
        obtain ⟨a, vs, rfl, at_, r⟩ := rd_dK R hv e
        exact .inl ⟨a, vs, _, rfl, at_, flat_das r ok.1, ok.2.1, ok.2.2.1, ok.2.2.2, r_same (.str _) R k⟩
      · cases hz
    · exact .inr (rc_reprD L st H xs [x] z Q R dv hz k)
  · cases hz
theorem call_reprAll {X : Cx} (none_ : X.A.guards = some []) (units : X.A.units + 64 < cLine) : CallR X (.builtin "repr") (fun xs H Q => rReprK xs H Q ∨ (rReprD X.K xs H Q ∨ rRepr xs H Q)) := (call_reprK none_ units).or2 (call_reprA none_ units)
end M


/-! sum of a tuple of ints; a list some times. -/
namespace M
open PySem PySem.Spec PyProof.Rows L2
/-! ### a list some times -/
def gMulL (st : Store) (x y : D) : Option D := match rd st x, rd st y with
  | .lst a, .int k => if -(2 ^ 63) ≤ k ∧ k < 2 ^ 63 ∧ a.length * k.toNat ≤ big then some (.lst (List.replicate k.toNat a).flatten) else none
  | _, _ => none
theorem Das.times {G : Gb} {H : Hp} {vs : List V} {ds : List D} (h : Das G H vs ds) : ∀ n : Nat, Das G H (List.replicate n vs).flatten (List.replicate n ds).flatten
  | 0 => .nil
  | n + 1 => by
    rw [List.replicate_succ, List.replicate_succ, List.flatten_cons, List.flatten_cons]
    exact h.append (Das.times h n)
theorem r2_mulL {G : Gb} : R2M G rRep gMulL := fun L st H x y d e z Q R dx dy hz k => by
  unfold gMulL at hz
  split at hz
  · rename_i xs j h1 h2
    split at hz
    · rename_i ok
      cases hz
      obtain ⟨a, vs, rfl, q1, r1⟩ := rd_off R dx h1
      rw [rd_int h2] at dy
      exact ⟨a, j, vs, rfl, dy.int_inv, q1, ok.1, ok.2.1, by rw [r1.length]; exact big_line ok.2.2, fun p hp => r_new R hp (.lst (Ev.off_new R hp) (Das.mono (new_same R hp) _ _ (r1.times _))) k⟩
    · cases hz
  · cases hz
@[simp] theorem e_mulL {st : Store} {a : List D} {k : Int} (h : -(2 ^ 63) ≤ k ∧ k < 2 ^ 63 ∧ a.length * k.toNat ≤ big) : gMulL st (.lst a) (.int k) = some (.lst (List.replicate k.toNat a).flatten) := if_pos h
end M


/-! try with several clauses that name the exception; one of them hits. -/
namespace M
open PySem PySem.Spec PyProof.Rows L2
abbrev Cls := Value × Nat × (Addr → Value → Option Addr → TS)
inductive Clauses (X : Cx) : List ExceptHandler → List Cls → Prop
  | last : Clauses X [] []
  | one {x n : Str} {c : Value} {i : Nat} {ts : Addr → Value → Option Addr → TS} {b₀ : Stmt} {suite : List Stmt} {np pos' : Pos} {hds : List ExceptHandler} {l : List Cls} (hi : X.N[i]? = some n) (hln : X.env.kindOf n = some .local) (hc : Names X x c)
      (run : ∀ (a : Addr) (oe : Obj) (cls : Value) (d : Option Addr) (pn : List (Addr × Obj)), Zc cls d oe → (∃ vs, oe.data = .fields vs) → PSs (X.suite a ((a, oe) :: pn)) (b₀ :: suite) (ts a cls d)) (more : Clauses X hds l) :
      Clauses X (.ExceptHandler (some (.Name x np)) (some n) (b₀ :: suite) pos' :: hds) ((c, i, ts) :: l)
section
variable {X : Cx} {pins : List (Addr × Obj)} {D : Ends}
/-- an exception in flight, met at a handler -/
structure Met (X : Cx) (pins : List (Addr × Obj)) (σ : L2.St) (H : Hp) (cls : Value) (d : Option Addr) (a : Addr) (s : Shared) : Prop where
  free : H a = none
  here : ∃ (B : Heap) (sI : Shared), L2.Inv X pins σ H sI ∧ (∀ (b : Addr) (o : Obj), sI.heap.get? b = some o → ¬b ∈ frs X.stack → B.get? b = some o) ∧ sI.heap.UpToSlots s.heap ∧ s.os = sI.os ∧ AllBare s.gens ∧ HandSPX.FlyingZ B (X.env :: X.outer) a (Zc cls d) s.heap
theorem Met.inv {σ : L2.St} {H : Hp} {cls : Value} {d : Option Addr} {a : Addr} {s : Shared} (m : Met X pins σ H cls d a s) : L2.Inv X pins σ H s := by
  obtain ⟨B, sI, J, old, up, os, bare, fly⟩ := m.here
  exact J.landed old fly.1 up os bare
/-- .. told as the suite of a clause sees it -/
theorem Met.told {σ : L2.St} {H : Hp} {cls : Value} {d : Option Addr} {a : Addr} {s : Shared} (hf : X.env.frame = some X.env.locals) (m : Met X pins σ H cls d a s) :
    ∃ oe, s.heap.get? a = some oe ∧ Zc cls d oe ∧ (∃ vs, oe.data = .fields vs) ∧ L2.Inv (X.suite a ((a, oe) :: (X.pn ++ pins))) [] σ H s := by
  have whole := m.inv
  obtain ⟨B, sI, J, old, up, os, bare, fly⟩ := m.here
  obtain ⟨oe, vs, at_, zc, data⟩ := fly.there
  have apart : ∀ e ∈ X.env :: X.outer, ∀ b, e.frame = some b → a ≠ b := by
    rintro e he b hb rfl
    obtain ⟨_, o, at2, no⟩ := fly.2.2.1.mem (List.mem_filterMap.mpr ⟨e, he, hb⟩)
    exact no vs ((Option.some.inj (at2.symm.trans at_)) ▸ data)
  refine ⟨oe, at_, zc, ⟨vs, data⟩, whole.suite at_ data m.free (apart _ List.mem_cons_self _ hf) fun z => ?_⟩
  obtain ⟨e, he, hb⟩ := List.mem_filterMap.mp z
  exact apart e (List.mem_cons_of_mem _ he) a hb rfl
end
end M


/-! the mirror of a try with several clauses. -/
namespace M
open PySem PySem.Spec PyProof.Rows L2
abbrev MC := (Nat → Bool) × Nat × (Xn → MS)
inductive CaOk (G : Gm) (X : Cx) (ids : List Nat) : List ExceptHandler → List MC → List Cls → Prop
  | last : CaOk G X ids [] [] []
  | one {x n : Str} {c : Value} {i : Nat} {b₀ : Stmt} {suite : List Stmt} {np pos' : Pos} {hit : Nat → Bool} {mx : Xn → MS} {hds : List ExceptHandler} {ms : List MC} {l : List Cls} (hK : ∀ k ∈ ids, PySem.W.exmOne X.K (.ref (G.cA k)) c = some (hit k)) (hi : X.N[i]? = some n) (hln : X.env.kindOf n = some .local) (hc : Names X x c)
      (run : ∀ (a : Addr) (oe : Obj) (cls : Value) (d : Option Addr) (pn : List (Addr × Obj)) (z : Xn), Zc cls d oe → (∃ vs, oe.data = .fields vs) → PSs (X.suite a ((a, oe) :: pn)) (b₀ :: suite) (tMS (Gx G i a cls d z) W0 (mx z))) (more : CaOk G X ids hds ms l) :
      CaOk G X ids (.ExceptHandler (some (.Name x np)) (some n) (b₀ :: suite) pos' :: hds) ((hit, i, mx) :: ms) ((c, i, tsX G mx i) :: l)
section
variable {G : Gm} {W : WX} {X : Cx} {ids : List Nat}
theorem CaOk.clauses {hds : List ExceptHandler} {ms : List MC} {l : List Cls} (h : CaOk G X ids hds ms l) : Clauses X hds l := by
  induction h with
  | last => exact .last
  | @one x n c i b₀ suite np pos' hit mx hds ms l hK hi hln hc run more ih => exact .one hi hln hc (fun a oe cls d pn hz hf => ⟨fun pins s σ H D I ⟨z, q⟩ => (run a oe cls d pn z hz hf).run pins s σ H D I q⟩) ih
end
end M


/-! repr of dicts whose keys are tuples of ints and texts and whose values are plain, where no repr is under way. -/
namespace M
open PySem PySem.Spec PyProof.Rows L2
def encT (ks : List Key) : PyData := .tuple (ks.map encK)
inductive FlatTs : List (List Key × V) → List (PyData × PyData) → Prop
  | nil : FlatTs [] []
  | cons {k : List Key} {v : V} {d : PyData} {kvs : List (List Key × V)} {ds : List (PyData × PyData)} : FlatV v d → FlatTs kvs ds → FlatTs ((k, v) :: kvs) ((encT k, d) :: ds)
end M


/-! A dict of texts whose values may be live lists: made by d[k] = [.. for ..], read, written, d[k].append. -/
namespace M
open PySem PySem.Spec PyProof.Rows L2
section
end
section
variable {G : Gb} {L : Lv} {H : Hp}
theorem VasF.any (k : Str) : ∀ {vs : List (Str × V)} {ds : List (Str × D)}, VasF G L H vs ds → (vs.any fun kv => decide (kv.1 = k)) = (ds.any fun kv => decide (kv.1 = k))
  | _, _, .nil => rfl
  | _, _, .cons h r => by rw [List.any_cons, List.any_cons, VasF.any k r]
theorem VasF.setAt (k : Str) {v : V} {d : D} (hv : Va G L H v d) : ∀ {vs : List (Str × V)} {ds : List (Str × D)}, VasF G L H vs ds → VasF G L H (vs.map fun kv => if kv.1 = k then (kv.1, v) else kv) (ds.map fun kv => if kv.1 = k then (kv.1, d) else kv)
  | _, _, .nil => .nil
  | _, _, @VasF.cons _ _ _ j w vs x ds h r => by
    rw [List.map_cons, List.map_cons]
    by_cases e : j = k
    · rw [if_pos e, if_pos e]
      exact .cons hv (VasF.setAt k hv r)
    · rw [if_neg e, if_neg e]
      exact .cons h (VasF.setAt k hv r)
theorem VasF.snoc {k : Str} {v : V} {d : D} (hv : Va G L H v d) : ∀ {vs : List (Str × V)} {ds : List (Str × D)}, VasF G L H vs ds → VasF G L H (vs ++ [(k, v)]) (ds ++ [(k, d)])
  | _, _, .nil => .cons hv .nil
  | _, _, .cons h r => .cons h (VasF.snoc hv r)
theorem VasF.putK (k : Str) {v : V} {d : D} (hv : Va G L H v d) {vs : List (Str × V)} {ds : List (Str × D)} (h : VasF G L H vs ds) : VasF G L H (L2.putK vs k v) (putKd ds k d) := by
  unfold L2.putK putKd
  rw [VasF.any k h]
  split
  · exact VasF.setAt k hv h
  · exact VasF.snoc hv h
/-- as a plain dict, once no value is live -/
def kSd (ds : List (Str × D)) : List (Key × D) := ds.map fun p => (.inr p.1, p.2)
theorem VasF.dasK : ∀ {vs : List (Str × V)} {ds : List (Str × D)}, VasF G L H vs ds → (ds.all fun p => isD p.2) = true → DasK G H (kS vs) (kSd ds)
  | _, _, .nil, _ => .nil
  | _, _, .cons h r, p => by
    rw [List.all_cons, Bool.and_eq_true] at p
    exact .cons (h.da p.1) (VasF.dasK r p.2)
end
section
variable {G : Gm} {W : WX} {X : Cx} {o i value : Expr} {mo mi mv : ME} {pos pos' : Pos}
end
section
variable {G : Gm} {W : WX} {X : Cx} {o i : Expr} {pos : Pos} {mo mi : ME}
end
section
variable {G : Gm} {W W0 : WX} {X : Cx} {elt tg iter : Expr} {ifs : List Expr} {scope : Scope} {own : List (Str × Nat)} {pos : Pos} {mi : MA} {g : TG} {t : Tg} {mt : MT} {me : ME}
end
end M


/-! A dict cell becomes a datum: what an expression gives, or what stands at a name. -/
namespace M
open PySem PySem.Spec PyProof.Rows L2
section
variable {G : Gm} {W : WX} {X : Cx} {e : Expr} {S : Stmt} {m : MS} {me : ME}
end
end M


/-! dict(zip(xs, ys)) of two lists. -/
namespace L2
open PySem PySem.Spec PyProof.Rows
section
variable {X : Cx} {e1 e2 : Expr} {p p2 pos pos2 : Pos} {t : TA}
end
end L2


/-! The M layer: dict(zip(xs, ys)), d.get(k, x), a method called by keywords in any order. -/
namespace M
open PySem PySem.Spec PyProof.Rows L2
section
variable {G : Gm} {W : WX} {X : Cx} {o i f : Expr} {apos cpos : Pos} {mo mi mx : ME}
end
end M


/-! try with several clauses, some of which do not name the exception. -/
namespace M
open PySem PySem.Spec PyProof.Rows L2
abbrev ClsU := Value × Option Nat × (Addr → Value → Option Addr → TS)
inductive ClausesU (X : Cx) : List ExceptHandler → List ClsU → Prop
  | last : ClausesU X [] []
  | one {x n : Str} {c : Value} {i : Nat} {ts : Addr → Value → Option Addr → TS} {b₀ : Stmt} {suite : List Stmt} {np pos' : Pos} {hds : List ExceptHandler} {l : List ClsU} (hi : X.N[i]? = some n) (hln : X.env.kindOf n = some .local) (hc : Names X x c)
      (run : ∀ (a : Addr) (oe : Obj) (cls : Value) (d : Option Addr) (pn : List (Addr × Obj)), Zc cls d oe → (∃ vs, oe.data = .fields vs) → PSs (X.suite a ((a, oe) :: pn)) (b₀ :: suite) (ts a cls d)) (more : ClausesU X hds l) :
      ClausesU X (.ExceptHandler (some (.Name x np)) (some n) (b₀ :: suite) pos' :: hds) ((c, some i, ts) :: l)
  | bare {x : Str} {c : Value} {ts : Addr → Value → Option Addr → TS} {b₀ : Stmt} {suite : List Stmt} {np pos' : Pos} {hds : List ExceptHandler} {l : List ClsU} (hc : Names X x c)
      (run : ∀ (a : Addr) (oe : Obj) (cls : Value) (d : Option Addr) (pn : List (Addr × Obj)), Zc cls d oe → (∃ vs, oe.data = .fields vs) → PSs (X.suite a ((a, oe) :: pn)) (b₀ :: suite) (ts a cls d)) (more : ClausesU X hds l) :
      ClausesU X (.ExceptHandler (some (.Name x np)) none (b₀ :: suite) pos' :: hds) ((c, none, ts) :: l)
section
variable {X : Cx} {pins : List (Addr × Obj)} {D : Ends}
end
abbrev MCU := (Nat → Bool) × Option Nat × (Xn → MS)
def tsU (G : Gm) (mx : Xn → MS) : Addr → Value → Option Addr → TS := fun _ _ _ D σ H => ∃ x, tMS G W0 (mx x) D σ H
inductive CaU (G : Gm) (X : Cx) (ids : List Nat) : List ExceptHandler → List MCU → List ClsU → Prop
  | last : CaU G X ids [] [] []
  | one {x n : Str} {c : Value} {i : Nat} {b₀ : Stmt} {suite : List Stmt} {np pos' : Pos} {hit : Nat → Bool} {mx : Xn → MS} {hds : List ExceptHandler} {ms : List MCU} {l : List ClsU} (hK : ∀ k ∈ ids, PySem.W.exmOne X.K (.ref (G.cA k)) c = some (hit k)) (hi : X.N[i]? = some n) (hln : X.env.kindOf n = some .local) (hc : Names X x c)
      (run : ∀ (a : Addr) (oe : Obj) (cls : Value) (d : Option Addr) (pn : List (Addr × Obj)) (z : Xn), Zc cls d oe → (∃ vs, oe.data = .fields vs) → PSs (X.suite a ((a, oe) :: pn)) (b₀ :: suite) (tMS (Gx G i a cls d z) W0 (mx z))) (more : CaU G X ids hds ms l) :
      CaU G X ids (.ExceptHandler (some (.Name x np)) (some n) (b₀ :: suite) pos' :: hds) ((hit, some i, mx) :: ms) ((c, some i, tsX G mx i) :: l)
  | bare {x : Str} {c : Value} {b₀ : Stmt} {suite : List Stmt} {np pos' : Pos} {hit : Nat → Bool} {mx : Xn → MS} {hds : List ExceptHandler} {ms : List MCU} {l : List ClsU} (hK : ∀ k ∈ ids, PySem.W.exmOne X.K (.ref (G.cA k)) c = some (hit k)) (hc : Names X x c)
      (run : ∀ (a : Addr) (oe : Obj) (cls : Value) (d : Option Addr) (pn : List (Addr × Obj)) (z : Xn), Zc cls d oe → (∃ vs, oe.data = .fields vs) → PSs (X.suite a ((a, oe) :: pn)) (b₀ :: suite) (tMS G W0 (mx z))) (more : CaU G X ids hds ms l) :
      CaU G X ids (.ExceptHandler (some (.Name x np)) none (b₀ :: suite) pos' :: hds) ((hit, none, mx) :: ms) ((c, none, tsU G mx) :: l)
section
variable {G : Gm} {W : WX} {X : Cx} {ids : List Nat}
theorem CaU.clauses {hds : List ExceptHandler} {ms : List MCU} {l : List ClsU} (h : CaU G X ids hds ms l) : ClausesU X hds l := by
  induction h with
  | last => exact .last
  | @one x n c i b₀ suite np pos' hit mx hds ms l hK hi hln hc run more ih => exact .one hi hln hc (fun a oe cls d pn hz hf => ⟨fun pins s σ H D I ⟨z, q⟩ => (run a oe cls d pn z hz hf).run pins s σ H D I q⟩) ih
  | @bare x c b₀ suite np pos' hit mx hds ms l hK hc run more ih => exact .bare hc (fun a oe cls d pn hz hf => ⟨fun pins s σ H D I ⟨z, q⟩ => (run a oe cls d pn z hz hf).run pins s σ H D I q⟩) ih
end
end M


/-! A lambda without parameters handed to a def that calls it within a try. -/
namespace L2
open PySem PySem.Spec PyProof.Rows
end L2
namespace M
open PySem PySem.Spec PyProof.Rows L2 LamX
abbrev Act := Store → Option (Rs D × Store)
abbrev LamC := Act → Store → Option (D × Store)
/-! ### x(lambda: body) -/
section
variable {X : Cx} {G : Gm} {W : WX} {x a : Str} {g cd P : Addr} {k : Nat} {stg : Stmt} {fdg : FuncData} {Ng : List Str} {params : Arguments} {body : Expr} {scope : Scope} {p lpos pos : Pos} {c : LamC} {mb : ME}
end
/-! ### the def that calls it -/
section
variable {X : Cx} {B : Gb} {x a q : Str} {g : Addr} {cdg : Value} {sg : Scope} {Ng : List Str} {ids : List Nat} {ms : List MCU} {mr : MS} {l : List ClsU} {h₀ : ExceptHandler} {hds : List ExceptHandler} {rest : List Stmt} {p1 p2 p3 p4 : Pos}
end
end M


/-! The end where defs make lambdas: their tables are tracked, too. -/
namespace L2
open PySem PySem.Spec PyProof.Rows
section
variable {P : Program} {w : World} {K : PySem.W.Frag} {mg mb : Str → Option Value} {CX : CXT} {k : Nat} {fa a : Addr} {fd : FuncData} {x : Str} {sp : Sp} {top : Shared} {vs : List Value} {ns : List Int} {cs : List (Addr × Addr)}
end
end L2


/-! Own exceptions over any built-in one (LookupError, OverflowError), made by an own __init__ that calls the base's and stores a field. -/
namespace L2
open PySem PySem.Spec PyProof.Rows
structure OexB (K : PySem.W.Frag) (C : Addr) (B newId initId : String) (mro : List Value) : Prop where
  base : ExcBaseFacts B newId initId mro
  store : StoreFacts B mro "object.__setattr__" "object"
  ini : PySem.W.excInitIn K C mro newId = true
  over : PySem.W.excOver K C mro = true
  hasD : PySem.W.hasDictIn K C = true
  setter : PySem.W.findIn K (.ref C) "__setattr__" = some (some (.builtin "object.__setattr__"))
  isX : PySem.W.subIn K (.ref C) (.type "BaseException") = some true
  kind : PySem.W.typeIn K (.ref C) = some (.type "type")
  keeps : PySem.W.keepIn K (.ref C) = true
section
variable {X : Cx} {pins : List (Addr × Obj)} {σ : St} {H : Hp} {s : Shared} {a C : Addr} {f : Str} {y : V} {u : Value} {A : Around} {E : Value → Shared → Prop} {B newId initId : String} {mro : List Value}
/-- the base's __init__ called -/
theorem oexB_init (T : OexB X.K C B newId initId mro) (I : Inv X pins σ H s) (here : H a = some (exo a C none)) {us : List Value} (few : us.length ≤ sizeLine) {Q : Value → Shared → Prop} (go : ∀ s', Inv X pins σ H s' → Q .none s') :
    wpAny (model X.prog X.w) A (call (.builtin initId) (.ref a :: us)) Q E s := by
  obtain ⟨_, _, _, _, _, _, _, _, _, _, _, _, _, _, _, _, cls, same⟩ := PySem.W.excInit_of I.kIn T.ini
  obtain ⟨t0, obj⟩ := exo_at I.hok here
  refine wpAny_call ?_
  obtain ⟨hp, gs, dr, tk, os⟩ := s
  refine PySem.HandSPX.init_base T.base same cls obj few fun h2 t2 others now => ?_
  have K2 := I.write (t' := tk) (x := a) (e := a) (o := exo a C none) (by rw [here]; trivial) (.inl rfl) others ⟨_, now⟩ (exo_ok now)
  have unchanged : upd H a (exo a C none) = H := funext fun b => by
    by_cases z : b = a
    · subst z; rw [upd_same, here]
    · rw [upd_ne z]
  rw [unchanged] at K2
  exact go _ K2
/-- the first field -/
theorem oexB_store (T : OexB X.K C B newId initId mro) (I : Inv X pins σ H s) (here : H a = some (exo a C none)) (free : PySem.W.takerIn X.K C f = some none) (same : RelV y u) {Q : Unit → Shared → Prop}
    (go : ∀ dx s', H dx = none → dx ≠ a → Inv X pins σ (upd (upd H dx (exd dx [(f, y)])) a (exo a C (some dx))) s' → Q () s') : wpAny (model X.prog X.w) A (setAttr (.ref a) f u) Q E s := by
  obtain ⟨t0, obj⟩ := exo_at I.hok here
  obtain ⟨hp, gs, dr, tk, os⟩ := s
  have I' : Inv X pins σ H ⟨hp, gs, dr, tk + 1, os⟩ := I.tok _
  refine PySem.W.set_plain (od := none) I.kIn ⟨obj, rfl, rfl, trivial⟩ T.setter (PySem.W.osa_openX (od := none) T.store I.kIn ⟨obj, rfl, rfl, trivial⟩ T.over free fun b => ?_)
  obtain ⟨cd, looks, dict⟩ := PySem.W.any_some T.hasD
  refine wpAny_bind (wpAny_pure (wpAny_bind (PySem.W.instanceDict_exc (C := C) (t := t0) (c2 := .none) obj (PySem.W.looks_clsIn I.kIn looks) dict ?_)))
  have nD : H hp.objs.size = none := I.hok.fresh (Nat.le_refl _)
  have nA : hp.objs.size ≠ a := fun z => by rw [z, here] at nD; cases nD
  -- the dict, new and empty
  let h1 := hp.push (PySem.W.dictOf [] 0)
  have at1 : h1.get? hp.objs.size = some (PySem.W.dictOf [] 0) := Heap.get?_push_at rfl rfl
  have old1 : ∀ b o, hp.get? b = some o → h1.get? b = some o := fun b o e => Heap.get?_push_of_some _ e
  have none1 : h1.Ns1 hp.objs.size fun _ => none := Heap.Ns1.of_empty ⟨_, #[], _, at1, rfl, fun e he => absurd he (by simp), fun _ => rfl⟩
  have I1 : Inv X pins σ (upd H hp.objs.size (exd hp.objs.size [])) ⟨h1, gs, dr, tk + 1, os⟩ := I'.laid (t' := tk + 1) old1 (Nat.le_refl _) (exd_ok none1 fun _ => trivial)
  -- the exception shows it
  have there := old1 a _ obj
  have I2 := I1.write (t' := tk + 1) (h' := h1.update a fun o => { o with dict := some hp.objs.size }) (x := a) (e := a) (o := exo a C (some hp.objs.size)) (by rw [upd_ne (Ne.symm nA), here]; trivial) (.inl rfl)
    (fun b o nb e => (Heap.get?_update_ne _ _ _ _ nb).trans e) ⟨_, Heap.get?_update_self _ there rfl⟩ (exo_ok (t1 := t0) (Heap.get?_update_self _ there rfl))
  have none2 : (h1.update a fun o => { o with dict := some hp.objs.size }).Ns1 hp.objs.size fun _ => none := none1.at fun o e => (Heap.get?_update_ne _ _ _ _ nA).trans e
  -- the field
  show wpAny _ _ (Builtin.ObjectAttr.storeInDict hp.objs.size (.str f _) f u) _ _ _
  refine PySem.OEX.store_in_old none2 (ns := []) (fun _ z => absurd rfl z) (by simp) fun h3 t3 ns3 but => ?_
  have I3 := I2.write (t' := t3) (h' := h3) (x := hp.objs.size) (e := hp.objs.size) (o := exd hp.objs.size [(f, y)]) (by rw [upd_ne nA, upd_same]; trivial) (.inl rfl) (fun b o nb e => (but.2 b nb).trans e)
    (let ⟨o, _, _, e, _⟩ := ns3; ⟨o, e⟩) (exd_ok ns3 (relO_put (fs := []) same fun _ => trivial))
  have same3 : upd (upd (upd H hp.objs.size (exd hp.objs.size [])) a (exo a C (some hp.objs.size))) hp.objs.size (exd hp.objs.size [(f, y)]) = upd (upd H hp.objs.size (exd hp.objs.size [(f, y)])) a (exo a C (some hp.objs.size)) := funext fun b => by
    by_cases z1 : b = hp.objs.size
    · rw [z1, upd_same, upd_ne nA, upd_same]
    · by_cases z2 : b = a
      · rw [z2, upd_ne (Ne.symm nA), upd_same, upd_same]
      · rw [upd_ne z1, upd_ne z2, upd_ne z1, upd_ne z2, upd_ne z1]
  rw [same3] at I3
  exact go _ _ nD nA I3
end
/-! ### the rules -/
def tBi (K : PySem.W.Frag) (B newId initId : String) (mro : List Value) (ta : TA) : TE := fun σ H Q => ta σ H fun vs H1 => ∃ (a C : Addr) (ws : List V), vs = .ref a :: ws ∧ ws.length ≤ 1000 ∧ OexB K C B newId initId mro ∧ H1 a = some (exo a C none) ∧ Q .non H1
def tBst (K : PySem.W.Frag) (B newId initId : String) (mro : List Value) (f : Str) (to te : TE) : TS := fun D σ H => te σ H fun y H1 => to σ H1 fun x H2 => ∃ a C : Addr, x = .ref a ∧ OexB K C B newId initId mro ∧ PySem.W.takerIn K C f = some none ∧
  H2 a = some (exo a C none) ∧ ∀ dx, H2 dx = none → dx ≠ a → D.nx σ (upd (upd H2 dx (exd dx [(f, y)])) a (exo a C (some dx)))
section
variable {X : Cx} {B newId initId : String} {mro : List Value}
theorem pe_binit {b : Str} {e : Expr} {es : List Expr} {ta : TA} {p1 p2 pos : Pos} {pl : Sem Bool} (hg : Gl X b) (hm : X.mg b = none) (boot : bootBuiltins b = some (.type B)) (ty : typeOf (.type B) = pure (.type "type")) (whole : Manifest.isStub B = false)
    (init : PySem.W.findCls X.K (.type B) (.type "type") "__init__" = some (.val (.builtin initId))) (handed : PySem.W.handedIn (.builtin initId) = true) (ha : PA X (e :: es) ta)
    (text : eval (.Call (.Attribute (.Name b p1) "__init__" p2) (e :: es) [] pos) X.env = (do
      let c ← eval (.Name b p1) X.env
      standAt p2.atName
      let (g, before) ← holding [c] (getMethod c "__init__" pl)
      callWith pos g before (backTo pos (starEach (e :: es) X.env)) (backToKw pos (keywordEach [] X.env))) := by rfl)
    (n1 : b ≠ ("__name__" : Str) := by decide) (n2 : (b == ("__debug__" : Str)) = false := by decide) (one : starEach (e :: es) X.env = (false, eval e X.env) :: starEach es X.env := by rfl) (rest : (backTo pos (starEach es X.env)).any (·.1) = false := by rfl) :
    PE X (.Call (.Attribute (.Name b p1) "__init__" p2) (e :: es) [] pos) (tBi X.K B newId initId mro ta) := ⟨fun pins s σ H Q I h => by
  obtain ⟨m, frame⟩ := I.fr
  have args : wpAny (model X.prog X.w) X.A (callWith pos (Value.builtin initId) [] (backTo pos (starEach (e :: es) X.env)) (backToKw pos (keywordEach [] X.env))) (EP X pins σ Q) X.xe { s with toks := s.toks + 1 } := by
    refine PyProof.Rows.callWith_method1 (thn (ha.run pos pins _ σ H _ (I.tok _) h) fun us s1 got => ?_) one rest
    obtain ⟨vs, H1, I1, same, a, C, more, rfl, few, ox, at_, q⟩ := got
    cases same with
    | cons first others =>
      cases first
      have := others.length
      exact oexB_init ox I1 at_ (by rw [sizeLine_eq]; omega) fun s2 J => ⟨.non, H1, J, rfl, q⟩
  exact PySem.W.methodCall_KW (ld_blt I hg hm boot (PySem.W.method_type frame I.ok.mod.kin ty whole init handed args) n1 n2) text⟩
theorem ps_bst {o e : Expr} {to te : TE} {f : Str} {p pos : Pos} (ho : PE X o to) (he : PE X e te) (plain : swapsWith e (some (.Attribute o f p)) pos.line X.env = pure false := by rfl) : PS X (.Assign [.Attribute o f p] e pos) (tBst X.K B newId initId mro f to te) :=
  ⟨fun pins s σ H D I h => plainObj_wpAny_Assign_Attribute (thn (he.run pins s σ H _ I h) fun v s1 gotV => by
    obtain ⟨y, H1, I1, sameV, more⟩ := gotV
    exact thn (ho.run pins s1 σ H1 _ I1 more) fun u s2 gotO => by
      obtain ⟨x, H2, I2, sameO, a, C, rfl, ox, free, at_, q⟩ := gotO
      obtain rfl : u = Value.ref a := sameO
      exact oexB_store ox I2 at_ free sameV fun dx s3 n ne J => ⟨σ, _, J, q dx n ne⟩) plain⟩
def tBinit (K : PySem.W.Frag) (B newId initId : String) (mro : List Value) (f m : Str) : TS := tSeq (tDrop (tBi K B newId initId mro (tCons (tVar 0) (tCons (tC (.str m)) tNil)))) (tBst K B newId initId mro f (tVar 0) (tVar 1))
theorem pure_binit {K : PySem.W.Frag} {f m self : Str} {C : Addr} (T : OexB K C B newId initId mro) (free : PySem.W.takerIn K C f = some none) (vs : List V) (H : Hp) (Q : VK) (E : XK) (h : spXI f K C vs H Q E) :
    tBinit K B newId initId mro f m { nx := fun _ H' => Q .non H', rt := Q } (start [self, f] vs) H := by
  obtain ⟨a, y, rfl, at_, q⟩ := h
  refine ⟨_, rfl, a, C, [.str m], rfl, (by decide : 1 ≤ 1000), T, at_, ?_⟩
  refine ⟨_, rfl, _, rfl, a, C, rfl, T, free, at_, fun dx h1 h2 => ?_⟩
  exact q dx h1 h2
end
end L2
namespace M
open PySem PySem.Spec PyProof.Rows L2
section
variable {G : Gm} {W : WX} {X : Cx} {e : Expr} {me : ME} {pos pos2 p : Pos} {x f : Str} {c k : Nat} {fI : Addr} {fd : FuncData} {ps : List Str} {B newId initId : String} {mro : List Value}
end
end M


/-! A list that a call has just made may be changed by who called: while the call runs, all lists are hidden, so what it hands back is none of them. -/
namespace M
open PySem PySem.Spec PyProof.Rows L2
mutual
/-- a datum without a list in it -/
def noL : D → Bool
  | .lst _ => false
  | .ro _ => false
  | .ref _ => false
  | .pr _ _ => false
  | .exc _ _ => false
  | .tup xs => noLs xs
  | .dK kvs => noLK kvs
  | .dT kvs => noLT kvs
  | .dN kvs => noLN kvs
  | .obj _ fs => noLF fs
  | _ => true
def noLs : List D → Bool
  | [] => true
  | d :: ds => noL d && noLs ds
def noLK : List (Key × D) → Bool
  | [] => true
  | (_, d) :: ds => noL d && noLK ds
def noLT : List (List Key × D) → Bool
  | [] => true
  | (_, d) :: ds => noL d && noLT ds
def noLN : List (NKey × D) → Bool
  | [] => true
  | (_, d) :: ds => noL d && noLN ds
def noLF : List (Str × D) → Bool
  | [] => true
  | (_, d) :: ds => noL d && noLF ds
end
/-- all but lists stay -/
def RlL (H H' : Hp) : Prop := ∀ a o, H a = some o → (∀ vs, o ≠ .lst vs) → H' a = some o
section
variable {G : Gb} {H H' : Hp}
theorem RlL.rd (s : RlL H H') {a : Addr} {u : HO} (h : Rd H a u) (n : ∀ vs, u ≠ .lst vs) : Rd H' a u := by
  rcases h with h | ⟨o, h⟩
  · exact .inl (s a u h n)
  · exact .inr ⟨o, s a _ h fun vs z => by cases z⟩
theorem NKAt.noL (s : RlL H H') {b : Addr} {k : NKey} (h : NKAt H b k) : NKAt H' b k := by
  obtain ⟨cs, h1, h2⟩ := h
  exact ⟨cs, s _ _ h1 (fun vs z => by cases z), Paired.mapP h2 fun _ _ z => s _ _ z (fun vs z => by cases z)⟩
theorem NTab.noL (s : RlL H H') {pw : Option (Program × World)} {vs : List (NKey × V)} {es : Array DictEntry} (h : NTab pw H vs es) : NTab pw H' vs es := by
  obtain ⟨P, w, e, h1, h2⟩ := h
  exact ⟨P, w, e, Paired.mapP h1 fun _ _ ⟨b, k1, k2, k3, k4⟩ => ⟨b, k1, k2.noL s, k3, k4⟩, h2⟩
mutual
theorem Da.noL (s : RlL H H') : ∀ (d : D) (v : V), M.noL d = true → Da G H v d → Da G H' v d
  | .non, _, _, h => by cases h; exact .non
  | .bl _, _, _, h => by cases h; exact .bl _
  | .int _, _, _, h => by cases h; exact .int _
  | .str _, _, _, h => by cases h; exact .str _
  | .ty _, _, _, h => by cases h; exact .ty _
  | .ptr _, _, _, h => by cases h; exact .ptr _
  | .cls _, _, _, h => by cases h; exact .cls _
  | .ref i, _, _, h => nomatch h
  | .pr _ _, _, _, h => nomatch h
  | .exc _ _, _, p, _ => by cases p
  | .lst ds, _, p, h => by cases p
  | .ro ds, _, p, h => by cases p
  | .tup ds, _, p, h => by
    unfold M.noL at p
    cases h with
    | tup h r => exact .tup (s _ _ h fun vs z => by cases z) (Das.noL s ds _ p r)
  | .dK ds, _, p, h => by
    unfold M.noL at p
    cases h with
    | dK h r => exact .dK (s.rd h fun vs z => by cases z) (DasK.noL s ds _ p r)
  | .dT ds, _, p, h => by
    unfold M.noL at p
    cases h with
    | dT h r => exact .dT (s.rd h fun vs z => by cases z) (DasT.noL s ds _ p r)
  | .dN ds, _, p, h => by
    unfold M.noL at p
    cases h with
    | dN h t r => exact .dN (s _ _ h fun vs z => by cases z) (t.noL s) (DasN.noL s ds _ p r)
  | .obj c ds, _, p, h => by
    unfold M.noL at p
    cases h with
    | obj h r => exact .obj (s _ _ h fun vs z => by cases z) (DasF.noL s ds _ p r)
theorem Das.noL (s : RlL H H') : ∀ (ds : List D) (vs : List V), noLs ds = true → Das G H vs ds → Das G H' vs ds
  | [], _, _, h => by cases h; exact .nil
  | d :: ds, _, p, h => by
    rw [noLs, Bool.and_eq_true] at p
    cases h with
    | cons h r => exact .cons (Da.noL s d _ p.1 h) (Das.noL s ds _ p.2 r)
theorem DasK.noL (s : RlL H H') : ∀ (ds : List (Key × D)) (vs : List (Key × V)), noLK ds = true → DasK G H vs ds → DasK G H' vs ds
  | [], _, _, h => by cases h; exact .nil
  | (k, d) :: ds, _, p, h => by
    rw [noLK, Bool.and_eq_true] at p
    cases h with
    | cons h r => exact .cons (Da.noL s d _ p.1 h) (DasK.noL s ds _ p.2 r)
theorem DasT.noL (s : RlL H H') : ∀ (ds : List (List Key × D)) (vs : List (List Key × V)), noLT ds = true → DasT G H vs ds → DasT G H' vs ds
  | [], _, _, h => by cases h; exact .nil
  | (k, d) :: ds, _, p, h => by
    rw [noLT, Bool.and_eq_true] at p
    cases h with
    | cons h r => exact .cons (Da.noL s d _ p.1 h) (DasT.noL s ds _ p.2 r)
theorem DasN.noL (s : RlL H H') : ∀ (ds : List (NKey × D)) (vs : List (NKey × V)), noLN ds = true → DasN G H vs ds → DasN G H' vs ds
  | [], _, _, h => by cases h; exact .nil
  | (k, d) :: ds, _, p, h => by
    rw [noLN, Bool.and_eq_true] at p
    cases h with
    | cons h r => exact .cons (Da.noL s d _ p.1 h) (DasN.noL s ds _ p.2 r)
theorem DasF.noL (s : RlL H H') : ∀ (ds : List (Str × D)) (vs : List (Str × V)), noLF ds = true → DasF G H vs ds → DasF G H' vs ds
  | [], _, _, h => by cases h; exact .nil
  | (k, d) :: ds, _, p, h => by
    rw [noLF, Bool.and_eq_true] at p
    cases h with
    | cons h r => exact .cons (Da.noL s d _ p.1 h) (DasF.noL s ds _ p.2 r)
end
end
/-! ### all lists hidden -/
section
variable {G : Gb} {L : Lv} {H : Hp} {st : Store} {n : Nat} {σ : L2.St} {env : En}
end
end M


/-! Defs that make lambdas: their code object is known; the end of a law with tables. -/
namespace M
open PySem PySem.Spec PyProof.Rows L2
/-- a def of the text whose code object stands at cd -/
structure FunC (K : PySem.W.Frag) (x qual : Str) (st : Stmt) (f : Addr) (fd : FuncData) (cd : Addr) : Prop where
  ex : ∃ (oc : Value) (od : Option Addr) (kV doc pm : Value) (an : Option Addr) (ct : Value) (osl : Array (Option Value)),
    fd = PySem.W.fnOf x qual (defArgs st) (defBody st) (defScope st) .none kV doc pm an (.ref cd) ct ∧ K.lookup f = some ⟨oc, od, .func fd, osl⟩ ∧ PySem.W.codeIn K (.ref cd) qual = true
section
variable {P : Program} {w : World} {K : PySem.W.Frag} {mg : Str → Option Value} {base : Heap}
end
end M


/-! An expression that only reads live lists: it sees them as data, and they are as they were behind it. list(x) as a cell. -/
namespace M
open PySem PySem.Spec PyProof.Rows L2
def isLc : Cell → Bool
  | .lst _ => true
  | .lv _ => true
  | _ => false
/-- all cells but lists hidden, the lists seen -/
def seen (L : Lv) (st : Store) : Lv := ⟨[], ((L.c.zip st).filterMap fun p => if isLc p.2 then none else p.1) ++ L.h⟩
section
variable {G : Gb} {L : Lv} {H : Hp} {st : Store} {σ : L2.St} {env : En}
end
end M


/-! list(o) of an own object with __iter__ = iter(self.f), f a dict, and with an own __len__. -/
namespace L2
open PySem PySem.Spec PyProof.Rows
/-! ### list(o) -/
section
variable {X : Cx} {C f fa fl : Addr} {fn : Str} {fdl : FuncData} {psl : List Str} {spl : Sp} {k : Nat}
end
end L2


/-! The M layer: list(o) of an own object. -/
namespace M
open PySem PySem.Spec PyProof.Rows L2
theorem CellR.rl {G : Gb} {L L1 : Lv} {H H1 : Hp} (l : Le L L1) (e : Rl (off L H) (off L1 H1)) {x : Option Addr} {c : Cell} (k : ∀ a o, x = some a → H a = some o → H1 a = some o) (h : CellR G L H x c) : CellR G L1 H1 x c := by
  cases x with
  | none => cases c <;> first | exact h | exact h.elim
  | some a =>
    cases c with
    | lst ds => obtain ⟨vs, q, r⟩ := h; exact ⟨vs, k _ _ rfl q, Das.mono e _ _ r⟩
    | dK ds => obtain ⟨vs, q, r⟩ := h; exact ⟨vs, k _ _ rfl q, DasK.mono e _ _ r⟩
    | dT ds => obtain ⟨vs, q, r⟩ := h; exact ⟨vs, k _ _ rfl q, DasT.mono e _ _ r⟩
    | dN ds => obtain ⟨es, ep, vs, q, t, r⟩ := h; exact ⟨es, ep, vs, k _ _ rfl q, t.mono e, DasN.mono e _ _ r⟩
    | ins c ds => obtain ⟨dx, vs, q, r⟩ := h; exact ⟨dx, vs, k _ _ rfl q, r.mono l e⟩
    | dS ds => obtain ⟨vs, q, r⟩ := h; exact ⟨vs, k _ _ rfl q, r.mono l e⟩
    | lv ds => obtain ⟨vs, q, r⟩ := h; exact ⟨vs, k _ _ rfl q, r.mono l e⟩
    | dV ds => obtain ⟨vs, q, r⟩ := h; exact ⟨vs, k _ _ rfl q, r.mono l e⟩
    | dW ds => obtain ⟨vs, q, r⟩ := h; exact ⟨vs, k _ _ rfl q, r.mono l e⟩
    | dead => exact h.elim
section
variable {G : Gb} {L : Lv} {H H1 : Hp} {st st' : Store} {c : Call} {o : D} {n : Int} {a d : Addr} {od : Obj} {Q : VK} {ks : List D}
end
end M


/-! Data that can be written out: repr is there, and is a text of code points. Equal data. -/
namespace M
open PySem PySem.Spec PyProof.Rows L2
/-- may be written, to the depth k, with a bulk of at most b -/
structure Nice (k b : Nat) (d : D) : Prop where
  ok : okD k d = true
  sh : (py d).showable = true
  lv : (py d).leavesShort 16 = true
  nd : (py d).hasDict = false
  bk : (py d).bulk ≤ b
  tx : PyData.strOk (py d).shown = true
theorem okD_more : ∀ (n : Nat) (d : D), okD n d = true → okD (n + 1) d = true := by
  intro n
  induction n with
  | zero => intro d h; cases d <;> first | exact h | cases h
  | succ n ih =>
    intro d h
    have all : ∀ xs : List D, xs.all (okD n) = true → xs.all (okD (n + 1)) = true := fun xs h => List.all_eq_true.mpr fun x hx => ih x (List.all_eq_true.mp h x hx)
    cases d with
    | lst xs => exact all xs h
    | ro xs => exact all xs h
    | tup xs => exact all xs h
    | non => exact h
    | bl b => exact h
    | int i => exact h
    | str x => exact h
    | _ => cases h
theorem okD_le {n m : Nat} {d : D} (h : okD n d = true) (l : n ≤ m) : okD m d = true := by
  induction l with
  | refl => exact h
  | step _ ih => exact okD_more _ _ ih
theorem Nice.mono {k k' b b' : Nat} {d : D} (h : Nice k b d) (hk : k ≤ k') (hb : b ≤ b') : Nice k' b' d := ⟨okD_le h.ok hk, h.sh, h.lv, h.nd, Nat.le_trans h.bk hb, h.tx⟩
structure Nices (k b : Nat) (xs : List D) : Prop where
  ok : xs.all (okD k) = true
  sh : PyData.showableAll (pyL xs) = true
  lv : PyData.leavesShortAll 16 (pyL xs) = true
  nd : PyData.hasDictAll (pyL xs) = false
  bk : PyData.bulkAll (pyL xs) ≤ xs.length * (b + 1)
  tx : ∀ t ∈ PyData.shownAll (pyL xs), PyData.strOk t = true
/-! ### repr of such data -/
theorem rd_plain {st : Store} {k : Nat} {d : D} (h : okD k d = true) : rd st d = d := by
  cases d <;> first | rfl | (cases k <;> cases h)
/-! ### equal data -/
theorem eqvD_refl : ∀ (n : Nat) (d : D), okD n d = true → eqvD d d = true := by
  intro n
  induction n with
  | zero =>
    intro d h
    cases d <;> first | (simp [eqvD]; done) | (cases h)
  | succ n ih =>
    have all : ∀ xs : List D, xs.all (okD n) = true → eqvL xs xs = true := by
      intro xs
      induction xs with
      | nil => intro _; simp [eqvL]
      | cons x xs ih2 =>
        intro h
        rw [List.all_cons, Bool.and_eq_true] at h
        rw [eqvL, ih x h.1, ih2 h.2]
        rfl
    intro d h
    cases d with
    | non => simp [eqvD]
    | bl b => simp [eqvD]
    | int i => simp [eqvD]
    | str x => simp [eqvD]
    | lst xs => rw [eqvD]; exact all xs (by rw [okD] at h; exact h)
    | ro xs => rw [eqvD]; exact all xs (by rw [okD] at h; exact h)
    | tup xs => rw [eqvD]; exact all xs (by rw [okD] at h; exact h)
    | _ => simp [okD] at h
theorem ne_same {d : D} {st : Store} {k : Nat} (h : okD k d = true) (hk : k ≤ 8) : gNe st d d = some (.bl false) := by
  unfold gNe
  rw [rd_plain h, if_pos ⟨okD_le h hk, okD_le h hk⟩, eqvD_refl 8 d (okD_le h hk)]
  rfl
end M


/-! A new list of new lists of texts, all of which may be changed. -/
namespace M
open PySem PySem.Spec PyProof.Rows L2
section
variable {G : Gb} {H : Hp}
/-- where the rows lie -/
inductive RowsAt (H : Hp) : List Addr → List (List Str) → Prop
  | nil : RowsAt H [] []
  | cons {a : Addr} {r : List Str} {as : List Addr} {rs : List (List Str)} (h : H a = some (.lst (r.map V.str))) (t : RowsAt H as rs) : RowsAt H (a :: as) (r :: rs)
theorem RowsAt.len : ∀ {as : List Addr} {rs : List (List Str)}, RowsAt H as rs → as.length = rs.length
  | _, _, .nil => rfl
  | _, _, .cons _ t => by rw [List.length_cons, List.length_cons, t.len]
theorem RowsAt.at_ : ∀ {as : List Addr} {rs : List (List Str)} {j : Nat} {a : Addr}, RowsAt H as rs → as[j]? = some a → ∃ r, rs[j]? = some r ∧ H a = some (.lst (r.map V.str))
  | _, _, _, _, .nil, e => by simp at e
  | _, _, 0, _, .cons h t, e => by
    simp at e
    subst e
    exact ⟨_, rfl, h⟩
  | _, _, j + 1, _, .cons h t, e => by
    obtain ⟨r, q1, q2⟩ := t.at_ (j := j) (by simpa using e)
    exact ⟨r, by simpa using q1, q2⟩
theorem RowsAt.mem {as : List Addr} {rs : List (List Str)} {a : Addr} (h : RowsAt H as rs) (e : a ∈ as) : ∃ r ∈ rs, H a = some (.lst (r.map V.str)) := by
  obtain ⟨j, hj⟩ := List.mem_iff_getElem?.mp e
  obtain ⟨r, q1, q2⟩ := h.at_ hj
  exact ⟨r, List.mem_of_getElem? q1, q2⟩
end
section
variable {G : Gb} {L : Lv} {H : Hp} {st : Store} {n : Nat}
end
theorem Vas.getD {G : Gb} {L : Lv} {H : Hp} : ∀ {ds : List D} {vs : List V} {i : Nat} {d : D}, Vas G L H vs ds → ds[i]? = some d → ∃ v, vs[i]? = some v ∧ Va G L H v d
  | _, _, _, _, .nil, e => by simp at e
  | _, _, 0, x, .cons h r, e => by
    simp at e
    subst e
    exact ⟨_, rfl, h⟩
  | _, _, i + 1, x, .cons h r, e => by
    obtain ⟨v, q, z⟩ := Vas.getD (i := i) r (by simpa using e)
    exact ⟨v, by simpa using q, z⟩
theorem Vas.atI {G : Gb} {L : Lv} {H : Hp} {vs : List V} {ds : List D} {i : Int} {d : D} (h : Vas G L H vs ds) (e : L2.atI ds i = some d) : ∃ v, L2.atI vs i = some v ∧ Va G L H v d := by
  unfold L2.atI at e ⊢
  rw [h.length]
  cases hn : ixN ds.length i with
  | none => rw [hn] at e; cases e
  | some j =>
    rw [hn] at e
    exact h.getD (i := j) e
end M


/-! sorted(xs, key=lambda y: len(y)), xs a list of lists. -/
namespace L2
open PySem PySem.Spec PyProof.Rows LamX
/-- the lists' lengths -/
inductive LensAre (H : Hp) : List V → List Nat → Prop
  | nil : LensAre H [] []
  | cons {b : Addr} {ys : List V} {xs : List V} {ns : List Nat} (h : H b = some (.lst ys)) (t : LensAre H xs ns) : LensAre H (.ref b :: xs) (ys.length :: ns)
theorem LensAre.ext {H H' : Hp} (e : ExtN H H') : ∀ {xs : List V} {ns : List Nat}, LensAre H xs ns → LensAre H' xs ns
  | _, _, .nil => .nil
  | _, _, .cons h t => .cons (e _ _ h fun _ z => by cases z) (t.ext e)
theorem LensAre.len {H : Hp} : ∀ {xs : List V} {ns : List Nat}, LensAre H xs ns → xs.length = ns.length
  | _, _, .nil => rfl
  | _, _, .cons _ t => by rw [List.length_cons, List.length_cons, t.len]
section
variable {X : Cx} {pins : List (Addr × Obj)} {σ : St} {H : Hp} {s : Shared}
end
end L2
namespace M
open PySem PySem.Spec PyProof.Rows L2 LamX
section
variable {G : Gb} {H H0 : Hp}
end
section
variable {X : Cx} {G : Gm} {W : WX} {c P : Addr} {params : Arguments} {scope : Scope} {e : Expr} {mas : MA} {y : Str} {b1 b2 b3 lpos kpos p pos : Pos} {k : Nat}
end
end M


/-! An exception that leaves an except suite with a name. -/
namespace L2
open PySem PySem.Spec PyProof.Rows HotX
section
variable {X : Cx} {pins : List (Addr × Obj)} {Wout : WX}
/-- one object more is held, of which the heap of values knows nothing -/
theorem Inv.hold {q : Addr × Obj} {σ : St} {H : Hp} {s : Shared} {fv : Array Value} (I : Inv X pins σ H s) (hf : X.env.frame = some X.env.locals) (here : s.heap.get? q.1 = some q.2) (dat : q.2.data = .fields fv) (no : H q.1 = none) (nf : q.1 ∉ frs (X.env :: X.outer)) : Inv X (q :: pins) σ H s := by
  have self_ : q.1 ≠ X.env.locals := fun z => nf (z ▸ List.mem_filterMap.mpr ⟨_, List.mem_cons_self, hf⟩)
  have outer_ : q.1 ∉ X.fs := fun m => nf (by
    obtain ⟨e, he, w⟩ := List.mem_filterMap.mp m
    exact List.mem_filterMap.mpr ⟨e, .tail _ he, w⟩)
  have noCell : ∀ v, q.2.data ≠ .cell v := fun v z => by
    rw [dat] at z
    cases z
  refine { I with pin := fun r hr => ?_ }
  by_cases z : r = q
  · exact z ▸ ⟨here, no, self_, outer_, noCell⟩
  · refine I.pin r ?_
    rw [List.mem_append, List.mem_cons] at hr
    rw [List.mem_append]
    exact hr.imp id fun t => t.resolve_left z
end
end L2


/-! small things for except (X, Y, Z); a def, whatever is promised of what it raises. -/
namespace M
open PySem PySem.Spec PyProof.Rows L2
theorem okXQ {P : Program} {w : World} {K : PySem.W.Frag} {mg : Str → Option Value} {base : Heap} {CX : CXT} {x qual : Str} {st : Stmt} {f : Addr} {fd : FuncData} {N ps : List Str} {k : Nat} {sp : Sp} (F : Fun K x qual st f fd) (S : FnScope N ps (defScope st)) (len : ∀ vs H Q E, sp vs H Q E → vs.length = ps.length)
    (body : ∀ (cdv : Value) (A : Around) (outer : List Env) (s : Shared) (H : Hp) (vs : List V) (Q : VK) (E : XK), Room k (A.deeper (envOfC qual (defScope st) s.heap.objs.size f cdv)) → sp vs H Q E →
      ∃ t, PSs (cxOf CX P w K mg base N qual (defScope st) f cdv A outer s H E) (defBody st) t ∧ t { nx := fun _ H' => Q .non H', rt := Q } (L2.start N vs) H) : FnOk P w K mg base CX (k + 1) f fd ps sp := by
  obtain ⟨_, _, _, _, _, _, cdv, _, _, rfl, look, code⟩ := F.ex
  exact fn_of look code S len fun A outer s H vs Q E => body cdv A outer s H vs Q E
end M


/-! d.setdefault(t, x) of a dict whose keys are tuples; xs.insert(i, x); written tuples of ints. -/
namespace M
open PySem PySem.Spec PyProof.Rows L2
/-! ### setdefault -/
section
variable {G : Gm} {W : WX} {X : Cx} {o e : Expr} {es : List Expr} {mo : ME} {mas : MA} {name : Str} {apos cpos : Pos} {id : String} {r : V → List V → Hp → VK → Prop} {g : Store → D → List D → Option (D × Store)}
end
/-! ### insert -/
/-! ### written tuples of ints -/
structure KTabI (G : Gb) (tab : List (Nat × List Int)) : Prop where
  at_ : ∀ k xs, tab.lookup k = some xs → ∀ H, SqT G.K H (G.cA k) (xs.map V.int)
end M


/-! Dicts whose keys are tuples of tuples: what the tracked heap tells of the real one. -/
namespace M
open PySem PySem.Spec PyProof.Rows L2
def flatK (ks : List L2.Key) : NestedKey := .tup (ks.map fun x => match x with
  | .inl i => .num i
  | .inr s => .text s)
theorem flatK_inj : ∀ {a b : List L2.Key}, flatK a = flatK b → a = b := fun {a b} h => by
  have h2 := NestedKey.tup.inj h
  have key : ∀ {a b : List L2.Key}, (a.map fun x => match x with
    | .inl i => NestedKey.num i
    | .inr s => .text s) = (b.map fun x => match x with
    | .inl i => NestedKey.num i
    | .inr s => .text s) → a = b := fun {a} => by
    induction a with
    | nil => intro b h; cases b with
      | nil => rfl
      | cons _ _ => cases h
    | cons x a ih =>
      intro b h
      cases b with
      | nil => cases h
      | cons y b =>
        rw [List.map_cons, List.map_cons] at h
        obtain ⟨h1, h2⟩ := List.cons.inj h
        have e : x = y := by
          cases x <;> cases y <;> first | (cases h1; rfl) | cases h1
        rw [e, ih h2]
  exact key h2
theorem nKey_inj {a b : NKey} (h : nKey a = nKey b) : a = b := by
  have h2 : a.map flatK = b.map flatK := NestedKey.tup.inj h
  exact (List.map_inj_right fun _ _ z => flatK_inj z).mp h2
abbrev KN (H : Hp) : List (NKey × V) → List (NestedKey × Addr × Value) → Prop := Paired fun p q => q.1 = nKey p.1 ∧ NKAt H q.2.1 p.1 ∧ RelV p.2 q.2.2
/-- a dict of nested keys, or one that is still empty -/
def NAt (pw : Option (Program × World)) (H : Hp) (a : Addr) (vs : List (NKey × V)) : Prop := (∃ es ep, H a = some (.ext (rawDict a es ep)) ∧ NTab pw H vs es) ∨ (H a = some (.dT []) ∧ vs = [])
theorem KN.val {H : Hp} {vs : List (NKey × V)} {xs : List (NestedKey × Addr × Value)} (r : KN H vs xs) (k : NKey) : RelO (valV vs k) ((atKey xs (nKey k)).map (·.2)) := by
  induction r with
  | nil => exact True.intro
  | @cons p q ps qs h t ih =>
    by_cases e : p.1 = k
    · have e' : q.1 = nKey k := by rw [h.1, e]
      have e1 : valV (p :: ps) k = some p.2 := by
        unfold valV
        rw [List.find?_cons_of_pos (by simpa using e)]
        rfl
      have e2 : atKey (q :: qs) (nKey k) = some q.2 := by
        unfold atKey
        rw [List.find?_cons_of_pos (by simpa using e')]
        rfl
      rw [e1, e2]
      exact h.2.2
    · have e' : q.1 ≠ nKey k := fun z => e (nKey_inj (h.1.symm.trans z))
      have e1 : valV (p :: ps) k = valV ps k := by
        unfold valV
        rw [List.find?_cons_of_neg (by simpa using e)]
      have e2 : atKey (q :: qs) (nKey k) = atKey qs (nKey k) := by
        unfold atKey
        rw [List.find?_cons_of_neg (by simpa using e')]
      rw [e1, e2]
      exact ih
theorem KN.snoc {H : Hp} {b : Addr} {k : NKey} {y : V} {u : Value} (hb : NKAt H b k) (ry : L2.RelV y u) : ∀ {vs : List (NKey × V)} {xs : List (NestedKey × Addr × Value)}, KN H vs xs → KN H (vs ++ [(k, y)]) (xs ++ [(nKey k, b, u)])
  | _, _, .nil => .cons ⟨rfl, hb, ry⟩ .nil
  | _, _, .cons h t => .cons h (KN.snoc hb ry t)
theorem KN.set {H : Hp} {k : NKey} {y : V} {u : Value} (ry : L2.RelV y u) : ∀ {vs : List (NKey × V)} {xs : List (NestedKey × Addr × Value)}, KN H vs xs → KN H (vs.map fun kv => if kv.1 = k then (kv.1, y) else kv) (xs.map (putAt (nKey k) u))
  | _, _, .nil => .nil
  | _, _, .cons (a := p) (b := q) h t => by
    rw [List.map_cons, List.map_cons]
    refine .cons ?_ (KN.set ry t)
    unfold putAt
    by_cases e : p.1 = k
    · rw [if_pos e, if_pos (by rw [h.1, e])]
      exact ⟨h.1, h.2.1, ry⟩
    · rw [if_neg e, if_neg fun z => e (nKey_inj (h.1.symm.trans z))]
      exact h
theorem KN.put {H : Hp} {b : Addr} {k : NKey} {y : V} {u : Value} {vs : List (NKey × V)} {xs : List (NestedKey × Addr × Value)} (r : KN H vs xs) (hb : NKAt H b k) (ry : L2.RelV y u) : KN H (putK vs k y) (storedH xs (nKey k) b u) := by
  have e : (vs.any fun kv => decide (kv.1 = k)) = (atKey xs (nKey k)).isSome := by rw [valV_any, (r.val k).isSome_eq, Option.isSome_map]
  cases c : (atKey xs (nKey k)).isSome with
  | true =>
    obtain ⟨p, hp⟩ := Option.isSome_iff_exists.mp c
    rw [storedH_old hp]
    unfold putK
    rw [e, c, if_pos rfl]
    exact r.set ry
  | false =>
    rw [storedH_new (by rw [Option.isSome_eq_false_iff] at c; exact Option.isNone_iff_eq_none.mp c)]
    unfold putK
    rw [e, c, if_neg Bool.false_ne_true]
    exact r.snoc hb ry
theorem KN.keeps {H H' : Hp} {vs : List (NKey × V)} {xs : List (NestedKey × Addr × Value)} (r : KN H vs xs) (s : ∀ b ys, H b = some (.tup ys) → H' b = some (.tup ys)) : KN H' vs xs :=
  Paired.mapP r fun _ _ ⟨h1, ⟨cs, h2, h3⟩, h4⟩ => ⟨h1, ⟨cs, s _ _ h2, Paired.mapP h3 fun _ _ z => s _ _ z⟩, h4⟩
/-! ### setdefault -/
end M


/-! Dicts whose keys are tuples of tuples: the rules. -/
namespace M
open PySem PySem.Spec PyProof.Rows L2
theorem NAt.real {P : Program} {w : World} {H : Hp} {h : Heap} {a : Addr} {vs : List (NKey × V)} (ok : HOk P w H h) (t : NAt (some (P, w)) H a vs) : ∃ es ep, h.get? a = some { cls := .type "dict", data := .dict es ep } := by
  rcases t with ⟨es, ep, e, _⟩ | ⟨e, _⟩
  · exact ⟨es, ep, (show ObjOk P w H h a (.ext (rawDict a es ep)) from ok a _ e).1.1⟩
  · obtain ⟨_, _, _, _, D⟩ := dt_of ok e
    obtain ⟨⟨oc, od, odt, os⟩, es, ep, g, ⟨x1, x2, x3⟩, hd, _⟩ := D
    dsimp only at x1 x2 x3 hd
    subst x1 x2 x3 hd
    exact ⟨es, ep, g⟩
section
variable {X : Cx} {o e i : Expr} {es : List Expr} {to td ti : TE} {t : TA} {name : Str} {apos cpos pos : Pos} {id : String} {r : V → List V → Hp → VK → Prop}
end
/-! ### walked -/
theorem NTab.size {pw : Option (Program × World)} {H : Hp} {vs : List (NKey × V)} {es : Array DictEntry} (t : NTab pw H vs es) : es.size = vs.length := by
  obtain ⟨_, _, _, h, _⟩ := t
  rw [Paired.length h]
  exact Array.length_toList.symm
theorem NTab.item {P : Program} {w : World} {H : Hp} {vs : List (NKey × V)} {es : Array DictEntry} (t : NTab (some (P, w)) H vs es) {i : Nat} (h : i < es.size) : ∃ b k v, vs[i]? = some (k, v) ∧ es[i].key = .ref b ∧ NKAt H b k := by
  obtain ⟨_, _, e, p, _⟩ := t
  have hl : i < es.toList.length := by rw [Array.length_toList]; exact h
  have go : ∀ {vs : List (NKey × V)} {l : List DictEntry} {i : Nat} (hl : i < l.length), Paired (NEnt w H) vs l → ∃ b k v, vs[i]? = some (k, v) ∧ l[i].key = .ref b ∧ NKAt H b k := by
    intro vs l i hl p
    induction p generalizing i with
    | nil => cases hl
    | @cons x y xs ys hxy t ih =>
      cases i with
      | zero =>
        cases e
        obtain ⟨b, k1, k2, _, _⟩ := hxy
        exact ⟨b, x.1, x.2, rfl, k1, k2⟩
      | succ i => exact ih (by simpa using hl)
  cases e
  obtain ⟨b, k, v, h1, h2, h3⟩ := go hl p
  exact ⟨b, k, v, h1, by rw [← h2, Array.getElem_toList], h3⟩
end M


/-! Mirrors of dicts whose keys are tuples of tuples. -/
namespace M
open PySem PySem.Spec PyProof.Rows L2
section
variable {G : Gb} {H : Hp}
theorem DasN.length : ∀ {ds : List (NKey × D)} {vs : List (NKey × V)}, DasN G H vs ds → vs.length = ds.length
  | _, _, .nil => rfl
  | _, _, .cons _ r => by rw [List.length_cons, List.length_cons, DasN.length r]
theorem DasN.val (k : NKey) : ∀ {ds : List (NKey × D)} {vs : List (NKey × V)} {d : D}, DasN G H vs ds → valKd ds k = some d → ∃ v, valV vs k = some v ∧ Da G H v d
  | [], _, _, h, e => by cases e
  | (j, x) :: ds, _, d, h, e => by
    cases h with
    | @cons _ v vs _ _ h r =>
      by_cases q : j = k
      · unfold valKd at e
        rw [List.find?_cons_of_pos (by simpa using q)] at e
        cases e
        exact ⟨v, valV_pos q, h⟩
      · unfold valKd at e
        rw [List.find?_cons_of_neg (by simpa using q)] at e
        obtain ⟨u, h1, h2⟩ := DasN.val k r e
        exact ⟨u, by rw [valV_neg q]; exact h1, h2⟩
theorem DasN.isSome (k : NKey) : ∀ {ds : List (NKey × D)} {vs : List (NKey × V)}, DasN G H vs ds → (valV vs k).isSome = (valKd ds k).isSome
  | [], _, h => by cases h; rfl
  | (j, x) :: ds, _, h => by
    cases h with
    | cons h r =>
      have ih := DasN.isSome k r
      by_cases q : j = k
      · subst q
        simp [valV, valKd]
      · simpa [valV, valKd, q] using ih
theorem DasN.any (k : NKey) : ∀ {ds : List (NKey × D)} {vs : List (NKey × V)}, DasN G H vs ds → (vs.any fun kv => decide (kv.1 = k)) = (ds.any fun kv => decide (kv.1 = k))
  | [], _, h => by cases h; rfl
  | (j, d) :: ds, _, h => by
    cases h with
    | cons h r => rw [List.any_cons, List.any_cons, DasN.any k r]
theorem DasN.setAt (k : NKey) {v : V} {d : D} (hv : Da G H v d) : ∀ {ds : List (NKey × D)} {vs : List (NKey × V)}, DasN G H vs ds → DasN G H (vs.map fun kv => if kv.1 = k then (kv.1, v) else kv) (ds.map fun kv => if kv.1 = k then (kv.1, d) else kv)
  | [], _, h => by cases h; exact .nil
  | (j, x) :: ds, _, h => by
    cases h with
    | cons h r =>
      rw [List.map_cons, List.map_cons]
      by_cases e : j = k
      · rw [if_pos e, if_pos e]; exact .cons hv (DasN.setAt k hv r)
      · rw [if_neg e, if_neg e]; exact .cons h (DasN.setAt k hv r)
theorem DasN.append : ∀ {ds es : List (NKey × D)} {vs us : List (NKey × V)}, DasN G H vs ds → DasN G H us es → DasN G H (vs ++ us) (ds ++ es)
  | _, _, _, _, .nil, g => g
  | _, _, _, _, .cons h r, g => .cons h (DasN.append r g)
theorem DasN.put (k : NKey) {v : V} {d : D} (hv : Da G H v d) {ds : List (NKey × D)} {vs : List (NKey × V)} (h : DasN G H vs ds) : DasN G H (putK vs k v) (putKd ds k d) := by
  unfold putK putKd
  rw [DasN.any k h]
  split
  · exact DasN.setAt k hv h
  · exact h.append (.cons hv .nil)
end
/-! keys -/
theorem NKAt.on {L : Lv} {H : Hp} {b : Addr} {k : NKey} (h : NKAt (off L H) b k) : NKAt H b k := by
  obtain ⟨cs, h1, h2⟩ := h
  exact ⟨cs, (off_some h1).1, Paired.mapP h2 fun _ _ z => (off_some z).1⟩
/-! the heap with and without the live cells -/
theorem NTab.to {H H' : Hp} {pw : Option (Program × World)} {vs : List (NKey × V)} {es : Array DictEntry} (h : NTab pw H vs es) (s : ∀ b k, NKAt H b k → NKAt H' b k) : NTab pw H' vs es := by
  obtain ⟨P, w, e, h1, h2⟩ := h
  exact ⟨P, w, e, Paired.mapP h1 fun _ _ ⟨b, k1, k2, k3, k4⟩ => ⟨b, k1, s _ _ k2, k3, k4⟩, h2⟩
theorem NTab.on {L : Lv} {H : Hp} {pw : Option (Program × World)} {vs : List (NKey × V)} {es : Array DictEntry} (h : NTab pw (off L H) vs es) : NTab pw H vs es := h.to fun _ _ => NKAt.on
/-! ### setdefault -/
section
variable {G : Gm} {W : WX} {X : Cx} {o e : Expr} {es : List Expr} {mo : ME} {mas : MA} {name : Str} {apos cpos : Pos} {id : String} {r : V → List V → Hp → VK → Prop} {g : Store → D → List D → Option (D × Store)}
end
/-! ### d[k], k in d -/
section
variable {G : Gm} {W : WX} {X : Cx} {o i : Expr} {pos : Pos} {mo mi : ME}
end
/-! ### for k in d -/
section
variable {G : Gm} {W : WX} {X : Cx} {tg e : Expr} {ma : ME}
end
/-! ### k in d, k not in d: d any dict of ints, texts, tuples, live or not -/
section
variable {G : Gm} {W : WX} {X : Cx} {o i : Expr} {pos : Pos} {mo mi : ME}
end
/-! ### a dict in a field becomes a datum -/
section
variable {G : Gm} {W : WX} {X : Cx}
end
end M


/-! dict(pairs), the keys tuples. -/
namespace M
open PySem PySem.Spec PyProof.Rows L2
def mergeT (kvs more : List (List L2.Key × V)) : List (List L2.Key × V) := more.foldl (fun acc kv => putK acc kv.1 kv.2) kvs
/-! the D side -/
def mergeTD (kvs more : List (List L2.Key × D)) : List (List L2.Key × D) := more.foldl (fun acc kv => putKd acc kv.1 kv.2) kvs
theorem DasT.merge {G : Gb} {H : Hp} : ∀ {more : List (List L2.Key × V)} {md : List (List L2.Key × D)} {kvs : List (List L2.Key × V)} {kd : List (List L2.Key × D)}, DasT G H more md → DasT G H kvs kd → DasT G H (mergeT kvs more) (mergeTD kd md)
  | _, _, _, _, .nil, h => h
  | _, _, kvs, kd, .cons (k := k) (v := v) (d := d) (vs := vs) (ds := ds) hv r, h => show DasT G H (mergeT (putK kvs k v) vs) (mergeTD (putKd kd k d) ds) from DasT.merge r (DasT.put k hv h)
/-! ### a new list of pairs, the second of which is a list of texts -/
section
variable {G : Gb} {L : Lv} {H : Hp} {st : Store} {n : Nat} {σ : L2.St} {env : En}
end
end M


/-! dict(zip(xs, ys)) as a datum -/
namespace Own
open PySem L2 M
end Own


/-! d != e of two dicts that hold the same whole numbers -/
namespace L2
open PySem PySem.Spec PyProof.Rows PyProof
end L2
namespace Own
open PySem L2 M
theorem DasK.len {G : Gb} {H : Hp} : ∀ {vs : List (Key × V)} {ds : List (Key × D)}, DasK G H vs ds → vs.length = ds.length
  | _, _, .nil => rfl
  | _, _, .cons _ r => congrArg (· + 1) (DasK.len r)
end Own
namespace Own
open PySem L2 M
end Own


/-! list(d.items()) -/
namespace L2
open PySem PySem.Spec PyProof.Rows PyProof
section
variable {X : Cx} {o : Expr} {p pos apos mpos : Pos} {td : TE}
end
end L2
namespace Own
open PySem L2 M
section
variable {G : Gb} {L : Lv} {H H' : Hp} {st : Store}
end
end Own


/-! zip over two iterators of any kind, as pairs that a dict takes -/
namespace ZipP
open PySem PySem.Spec PyProof.Rows PyProof
open Sem (wp)
section
variable {P : Program} {w : World} {A : Around} {z TI TO i1 i2 : Addr} {f1 f2 : List Addr} {n1 n2 : Nat} {P1 P2 : Nat → Value → Prop} {S1 S2 : Nat → Heap → Prop}
/-- the zip's own cell: nothing was handed out yet, or what was handed out is still there, off the addresses av -/
inductive Own (z TI TO : Addr) (av : List Addr) (h : Heap) : Prop
  | new (a b : Value) (hz : IsZip h z TI TO .none) (ht : IsTupOf2 h TO a b)
  | out (T : Addr) (f : Bool) (o : Obj) (hz : IsZipHeld h z TI TO T f) (ht : h.get? T = some o) (hn : T ∉ av)
end
end ZipP


/-! dict(zip(xs, t)): xs a list of keys that are tuples, t a tuple -/
namespace L2
open PySem PySem.Spec PyProof.Rows PyProof M
section
variable {X : Cx} {e1 e2 : Expr} {p p2 pos pos2 : Pos} {t : TA}
end
end L2


/-! dict(zip(xs, t)) as a datum; d.update(e), the keys tuples -/
namespace Own
open PySem PySem.Spec PyProof.Rows L2 M
/-! ### update -/
/-! ### the cell of a dict with tuple keys becomes a datum at its name -/
end Own


/-! Dicts whose keys are tuples of tuples: k not in d, d[k] = v, list(d). -/
namespace M
open PySem PySem.Spec PyProof.Rows L2
section
variable {X : Cx} {o i value : Expr} {to td ti tv : TE} {pos pos' : Pos}
end
/-! ### mirrors -/
section
variable {G : Gm} {W : WX} {X : Cx} {o i value : Expr} {mo mi mv : ME} {pos pos' : Pos}
end
end M


/-! Live lists become data: in a field of self at the end of __init__, under a key of a dict ahead of a statement. A dict with tuple keys becomes a datum where it is made. -/
namespace Own
open PySem PySem.Spec PyProof.Rows L2 M
section
variable {G : Gm} {W : WX} {X : Cx} {e : Expr} {S : Stmt} {m : MS} {me : ME}
end
end Own


/-! list(zip(a, b)): the pairs as new tuples in a new list -/
namespace F
open PySem
end F
namespace ZipP
open PySem PySem.Spec PyProof.Rows PyProof
open Sem (wp)
section
variable {P : Program} {w : World} {A : Around} {z TI TO i1 i2 L : Addr} {f1 f2 : List Addr} {n1 n2 : Nat} {P1 P2 : Nat → Value → Prop} {S1 S2 : Nat → Heap → Prop}
/-- amid list(zip(..)): the pairs so far stand in new tuples ts -/
structure Amid (z TI TO i1 i2 L : Addr) (P1 P2 : Nat → Value → Prop) (S1 S2 : Nat → Heap → Prop) (ts : List Addr) (h : Heap) : Prop where
  tup : IsTupOf2 h TI (.ref i1) (.ref i2)
  one : S1 ts.length h
  two : S2 ts.length h
  own : Own z TI TO [z, TO, i1, i2, L] h
  there : ∃ u, h.get? TO = some u
  have_ : ∀ (j : Nat) (t : Addr), ts[j]? = some t → ∃ x y, P1 j x ∧ P2 j y ∧ IsTupOf2 h t x y ∧ t ∉ [z, TO, i1, i2, L]
  rise : ts.Pairwise (· < ·)
  far : ∀ t ∈ ts, L < t
theorem Amid.more {ts : List Addr} {h h' : Heap} {t : Addr} {x y : Value} (M : Amid z TI TO i1 i2 L P1 P2 S1 S2 ts h) (htI : IsTupOf2 h' TI (.ref i1) (.ref i2)) (s1 : S1 (ts.length + 1) h') (s2 : S2 (ts.length + 1) h') (ho : Own z TI TO [z, TO, i1, i2, L] h') (hb : ∃ u, h'.get? TO = some u)
    (px : P1 ts.length x) (py : P2 ts.length y) (ht : IsTupOf2 h' t x y) (n : t ∉ [z, TO, i1, i2, L]) (hL : L < t) (up : ∀ b ∈ ts, b < t) (k : ∀ c u, c ∉ [z, TO, i1, i2, L] → h.get? c = some u → h'.get? c = some u) : Amid z TI TO i1 i2 L P1 P2 S1 S2 (ts ++ [t]) h' where
  tup := htI
  one := by rw [List.length_append]; exact s1
  two := by rw [List.length_append]; exact s2
  own := ho
  there := hb
  have_ := fun j b e => by
    rw [List.getElem?_append] at e
    split at e
    · obtain ⟨u, v, q1, q2, q3, q4⟩ := M.have_ j b e
      exact ⟨u, v, q1, q2, k _ _ q4 q3, q4⟩
    · have : j = ts.length := by
        have := (List.getElem?_eq_some_iff.mp e).1
        simp at this
        omega
      subst this
      simp at e
      subst e
      exact ⟨x, y, px, py, ht, n⟩
  rise := List.pairwise_append.mpr ⟨M.rise, List.pairwise_singleton .., fun a ha b hb => by
    rw [List.mem_singleton.mp hb]
    exact up a ha⟩
  far := fun b hb => by
    rcases List.mem_append.mp hb with q | q
    · exact M.far b q
    · rw [List.mem_singleton.mp q]
      exact hL
theorem Amid.keep {ts : List Addr} {h h' : Heap} (M : Amid z TI TO i1 i2 L P1 P2 S1 S2 ts h) (hl : L ∉ z :: TI :: TO :: (f1 ++ f2)) (D1 : Draws P w A i1 f1 n1 P1 S1) (D2 : Draws P w A i2 f2 n2 P2 S2) (k : ∀ c u, c ≠ L → h.get? c = some u → h'.get? c = some u) : Amid z TI TO i1 i2 L P1 P2 S1 S2 ts h' where
  tup := k _ _ (fun e => hl (by simp [← e])) M.tup
  one := D1.frame _ _ _ M.one fun b hb o e => k b o (fun e => hl (by simp [← e, hb])) e
  two := D2.frame _ _ _ M.two fun b hb o e => k b o (fun e => hl (by simp [← e, hb])) e
  own := by
    cases M.own with
    | new a b q1 q2 => exact .new a b (k _ _ (fun e => hl (by simp [← e])) q1) (k _ _ (fun e => hl (by simp [← e])) q2)
    | out T f o q1 q2 q3 => exact .out T f o (k _ _ (fun e => hl (by simp [← e])) q1) (k _ _ (fun e => q3 (by simp [e])) q2) q3
  there := let ⟨u, e⟩ := M.there; ⟨u, k _ _ (fun e => hl (by simp [← e])) e⟩
  have_ := fun j t e => by
    obtain ⟨u, v, q1, q2, q3, q4⟩ := M.have_ j t e
    exact ⟨u, v, q1, q2, k _ _ (fun e => q4 (by simp [e])) q3, q4⟩
  rise := M.rise
  far := M.far
end
end ZipP


/-! list(zip(xs, t)): xs a list, t a tuple -/
namespace L2
open PySem PySem.Spec PyProof.Rows PyProof M ZipP
section
variable {X : Cx}
end
section
variable {X : Cx} {e1 e2 : Expr} {p p2 pos pos2 : Pos} {t : TA}
end
end L2
namespace Own
open PySem PySem.Spec PyProof.Rows L2 M
end Own


/-! dicts with tuple keys whose values are live lists; a for that keeps the cells it makes -/
namespace M
open PySem PySem.Spec PyProof.Rows L2
/-! ### for, nothing let go -/
section
variable {G : Gm} {W : WX} {X : Cx} {tg iter : Expr} {body : List Stmt} {mi : MA} {g : TG} {t : Tg} {mb : MS} {pos : Pos}
end
/-! ### setdefault, the values live -/
section
variable {G : Gb} {L : Lv} {H : Hp}
theorem VasT.length : ∀ {ds : List (List Key × D)} {vs : List (List Key × V)}, VasT G L H vs ds → vs.length = ds.length
  | _, _, .nil => rfl
  | _, _, .cons _ r => by simp [VasT.length r]
theorem VasT.any (k : List Key) : ∀ {ds : List (List Key × D)} {vs : List (List Key × V)}, VasT G L H vs ds → (vs.any fun kv => decide (kv.1 = k)) = ds.any fun kv => decide (kv.1 = k)
  | _, _, .nil => rfl
  | _, _, .cons _ r => by rw [List.any_cons, List.any_cons, VasT.any k r]
theorem VasT.more {v : V} {d : D} {k : List Key} (hv : Va G L H v d) : ∀ {ds : List (List Key × D)} {vs : List (List Key × V)}, VasT G L H vs ds → VasT G L H (vs ++ [(k, v)]) (ds ++ [(k, d)])
  | _, _, .nil => .cons hv .nil
  | _, _, .cons h r => .cons h (VasT.more hv r)
theorem VasT.val (k : List Key) : ∀ {ds : List (List Key × D)} {vs : List (List Key × V)} {d : D}, VasT G L H vs ds → valKd ds k = some d → ∃ v, valV vs k = some v ∧ Va G L H v d
  | _, _, _, .nil, e => by cases e
  | _, _, d, @VasT.cons _ _ _ j v vs x ds h r, e => by
    by_cases q : j = k
    · unfold valKd at e
      rw [List.find?_cons_of_pos (by simpa using q)] at e
      cases e
      exact ⟨v, valV_pos q, h⟩
    · unfold valKd at e
      rw [List.find?_cons_of_neg (by simpa using q)] at e
      obtain ⟨u, h1, h2⟩ := VasT.val k r e
      exact ⟨u, by rw [valV_neg q]; exact h1, h2⟩
end
section
variable {G : Gm} {W : WX} {X : Cx} {o e : Expr} {es : List Expr} {mo : ME} {mas : MA} {name : Str} {apos cpos : Pos} {id : String} {r : V → List V → Hp → VK → Prop} {g : Store → D → List D → Option (D × Store)}
end
end M
namespace Own
open PySem PySem.Spec PyProof.Rows L2 M
/-! ### such a dict becomes a datum -/
end Own


/-! list(d) of a dict whose keys are ints and texts, within an except suite: its iterator's end is an exception, chained to the one that is handled. -/
namespace HotL
open PySem PySem.Spec PyProof.Rows PyProof L2 HotX
section
variable {P : Program} {w : World} {A : Around} {E : Value → Shared → Prop} {s : Shared} {κ : Type} [DecidableEq κ] {knd : KeyKind P w κ}
end
end HotL


/-! Own objects compared, methods called, list(d) within an except suite; try: .. except X as n, where that suite calls defs. -/
namespace L2H
open PySem PySem.Spec PyProof.Rows L2
theorem RoomH.in1 {k : Nat} {A : Around} (r : RoomH (k + 1) A) : RoomH k A.in1 :=
  ⟨by have := r.dp; show A.depth + 3 * k + 5 < _; omega, by have := r.un; show A.units + 1 + 16 * k + 200 < _; omega⟩
theorem RoomH.units {k : Nat} {A : Around} (r : RoomH k A) : A.units + 64 < cLine := by have := r.un; omega
theorem RoomH.one {k : Nat} {A : Around} (r : RoomH k A) : A.units + 1 < cLine := by have := r.un; omega
theorem RoomH.mark {k : Nat} {A : Around} (r : RoomH k A) (v : Option Value) : RoomH k (A.mark v) := ⟨r.dp, r.un⟩
end L2H
namespace L2
open PySem PySem.Spec PyProof.Rows AutoSeq1 MeetsSeq MeetsSeq2 MeetsSeq3 SeqRoads2
section
variable {X : Cx} {k : Nat} {C f : Addr} {fd : FuncData} {ps : List Str} {sp : Sp}
end
end L2
namespace M
open PySem PySem.Spec PyProof.Rows L2
section
variable {X : Cx} {CX : CXT} {k : Nat} {f C : Addr} {fd : FuncData} {ps : List Str} {sp : Sp} {E : L2.St → XK} {m : Str} {pos apos : Pos} {o : Expr} {ta : TE}
end
section
variable {X : Cx} {G : Gm} {W : WX} {k n cid : Nat} {f p : Addr} {fd : FuncData} {ps : List Str} {c : Call} {m : Str} {apos pos : Pos} {o e : Expr} {mo : ME}
end
section
variable {G : Gm} {W : WX} {X : Cx} {x n : Str} {c : Value} {i : Nat} {body suite : List Stmt} {b₀ : Stmt} {np pos pos' : Pos} {mb : MS} {mx : Xn → MS} {ids : List Nat} {hit : Nat → Bool}
end
end M


/-! dicts with int or text keys whose values are live lists: d.setdefault(k, []) -/
namespace M
open PySem PySem.Spec PyProof.Rows L2
/-! ### setdefault, the values live -/
section
variable {G : Gb} {L : Lv} {H : Hp}
theorem VasK.length : ∀ {ds : List (Key × D)} {vs : List (Key × V)}, VasK G L H vs ds → vs.length = ds.length
  | _, _, .nil => rfl
  | _, _, .cons _ r => by simp [VasK.length r]
theorem VasK.any (k : Key) : ∀ {ds : List (Key × D)} {vs : List (Key × V)}, VasK G L H vs ds → (vs.any fun kv => decide (kv.1 = k)) = ds.any fun kv => decide (kv.1 = k)
  | _, _, .nil => rfl
  | _, _, .cons _ r => by rw [List.any_cons, List.any_cons, VasK.any k r]
theorem VasK.more {v : V} {d : D} {k : Key} (hv : Va G L H v d) : ∀ {ds : List (Key × D)} {vs : List (Key × V)}, VasK G L H vs ds → VasK G L H (vs ++ [(k, v)]) (ds ++ [(k, d)])
  | _, _, .nil => .cons hv .nil
  | _, _, .cons h r => .cons h (VasK.more hv r)
theorem VasK.val (k : Key) : ∀ {ds : List (Key × D)} {vs : List (Key × V)} {d : D}, VasK G L H vs ds → valKd ds k = some d → ∃ v, valV vs k = some v ∧ Va G L H v d
  | _, _, _, .nil, e => by cases e
  | _, _, d, @VasK.cons _ _ _ j v vs x ds h r, e => by
    by_cases q : j = k
    · unfold valKd at e
      rw [List.find?_cons_of_pos (by simpa using q)] at e
      cases e
      exact ⟨v, valV_pos q, h⟩
    · unfold valKd at e
      rw [List.find?_cons_of_neg (by simpa using q)] at e
      obtain ⟨u, h1, h2⟩ := VasK.val k r e
      exact ⟨u, by rw [valV_neg q]; exact h1, h2⟩
end
section
variable {G : Gm} {W : WX} {X : Cx} {o e : Expr} {es : List Expr} {mo : ME} {mas : MA} {name : Str} {apos cpos : Pos} {id : String} {r : V → List V → Hp → VK → Prop} {g : Store → D → List D → Option (D × Store)}
end
end M
namespace Own
open PySem PySem.Spec PyProof.Rows L2 M
/-! ### such a dict with int or text keys becomes a datum -/
end Own


/-! str of a text or a whole number; f-strings of texts and whole numbers -/
namespace M
open PySem PySem.Spec PyProof.Rows L2
def fmtD : D → Option Str
  | .str a => some a
  | .int i => if i.natAbs.log2 < 1920 then some (toString i) else none
  | _ => none
theorem fmt_cases {d : D} {y : Str} (h : fmtD d = some y) : (∃ i : Int, d = .int i ∧ i.natAbs.log2 < 1920 ∧ y = toString i) ∨ d = .str y := by
  cases d with
  | str a => exact .inr (congrArg D.str (Option.some.inj h))
  | int i =>
    have h : (if i.natAbs.log2 < 1920 then some ((toString i : String) : Str) else none) = some y := h
    by_cases q : i.natAbs.log2 < 1920
    · rw [if_pos q] at h
      exact .inl ⟨i, rfl, q, (Option.some.inj h).symm⟩
    · rw [if_neg q] at h
      cases h
  | _ => cases h
/-! ### f-strings -/
def mJs : List ME → Str → ME
  | [], acc, _, st => some (.ok (.str acc), st)
  | m :: ms, acc, env, st => bnd (m env st) fun d st => match fmtD d with
    | some y => if (acc ++ y).length ≤ big then mJs ms (acc ++ y) env st else none
    | none => none
section
variable {G : Gm} {W : WX} {X : Cx}
/-- the parts and their mirrors -/
inductive PJM (X : Cx) (G : Gm) (W : WX) : List Expr → List TE → List ME → Prop where
  | nil : PJM X G W [] [] []
  | txt {a : Str} {j : Nat} {pos : Pos} {es : List Expr} {ts : List TE} {ms : List ME} (r : PJM X G W es ts ms) : PJM X G W (.Constant (.str a) j pos :: es) (tC (.str a) :: ts) (mC (.str a) :: ms)
  | fmt {e : Expr} {m : ME} {pos : Pos} {es : List Expr} {ts : List TE} {ms : List ME} (h : PE X e (tM G W m)) (r : PJM X G W es ts ms) : PJM X G W (.FormattedValue e (-1) none pos :: es) (tFmt (tM G W m) :: ts) (m :: ms)
theorem fmt_line {acc y : Str} (h : (acc ++ y).length ≤ big) : (acc ++ y).length ≤ sizeLine := big_line h
theorem PJM.run {σ : L2.St} {env : En} {Q : VK} {es : List Expr} {ts : List TE} {ms : List ME} (h : PJM X G W es ts ms) : ∀ (acc : Str) (L : Lv) (st : Store) (H : Hp) (r : Rs D) (st' : Store), At G L st σ env H → mJs ms acc env st = some (r, st') → RPost G W σ L H st' Q r →
    tJs ts acc σ H fun out H1 => Q (.str out) H1 := by
  induction h with
  | nil =>
    intro acc L st H r st' a hm hp
    cases hm
    exact hp _ L H (Ev.refl _ _) a.r (.d (.str _))
  | @txt t j pos es ts ms _ ih =>
    intro acc L st H r st' a hm hp
    have hm : (if (acc ++ t).length ≤ big then mJs ms (acc ++ t) env st else none) = some (r, st') := hm
    split at hm
    case isFalse => cases hm
    rename_i hk
    exact ⟨t, rfl, fmt_line hk, ih (acc ++ t) L st H r st' a hm hp⟩
  | @fmt e m pos es ts ms hpe _ ih =>
    intro acc L st H r st' a hm hp
    show tM G W m σ H _
    refine tM_bnd a hm hp.err fun d st1 v L1 H1 h1 e1 a1 dv => ?_
    split at h1
    case h_2 => cases h1
    rename_i y hy
    split at h1
    case isFalse => cases h1
    rename_i hk
    have nx := ih (acc ++ y) L1 st1 H1 r st' a1 h1 (hp.ev e1)
    have ly : y.length ≤ sizeLine := Nat.le_trans (by show y.cps.size ≤ (acc ++ y).cps.size; exact (by simp : y.cps.size ≤ (acc.cps ++ y.cps).size)) (fmt_line hk)
    rcases fmt_cases hy with ⟨i, rfl, hi, rfl⟩ | rfl
    · exact .inr ⟨_, dv.int_inv, hi, _, rfl, fmt_line hk, nx⟩
    · exact .inl ⟨_, dv.str_inv, ly, _, rfl, fmt_line hk, nx⟩
end
end M


namespace PySem.W
open PySem PySem.SeqAt
theorem same_text {prog : Program} {w : World} {A : Around} {E : Value → Shared → Prop} {s : Shared} {nm : String} {a b : Addr} {oa ob : Obj} {es es' : Array DictEntry} {ep ep' : Nat} {e : Nat → Bool} {Q : Bool → Shared → Prop}
    (na : (a == sysModules) = false) (nb : (b == sysModules) = false) (ha : s.heap.get? a = some oa) (da : oa.data = .dict es ep) (hb : s.heap.get? b = some ob) (db : ob.data = .dict es' ep') (hsz : es.size = es'.size)
    (hall : (es'.all fun e => isExactStrKey e.key) = true) (hk : ∀ i (h : i < es.size), ∃ x t, es[i].key = .str x t ∧ es'.findIdx? (fun e => e.key.isStr x) = some i)
    (he : ∀ i (h1 : i < es.size) (h2 : i < es'.size), EqAt A s es[i].val es'[i].val (e i)) (h : Q ((List.range es.size).all e) s) :
    wpAny (model prog w) A (Builtin.Dict.samePairs nm a b) Q E s := by
  unfold Builtin.Dict.samePairs Builtin.Dict.showsAll
  rw [na, nb]
  simp only [Bool.false_eq_true, if_false]
  refine wpAny_bind (wpAny_pure ?_)
  refine wpAny_bind (wpAny_pure ?_)
  refine wpAny_bind (wpAny_dictEntries ha da ?_)
  refine wpAny_bind (wpAny_dictEntries hb db ?_)
  rw [hsz]
  simp only [bne_self_eq_false, Bool.false_eq_true, if_false]
  refine wpAny_bind (wpAny_dictEpoch ha da ?_)
  have all_eq : ∀ r : Bool, (r = true ↔ ∀ j, j < es.size → e j = true) → r = (List.range es.size).all e := fun r hr => by
    rw [Bool.eq_iff_iff, hr, List.all_eq_true]
    exact ⟨fun h x hx => h x (List.mem_range.mp hx), fun h j hj => h j (List.mem_range.mpr hj)⟩
  refine wpAny_bind (wpAny_forIn_span 0 es'.size _ (fun i c s' => s' = s ∧ c = (none, ()) ∧ ∀ j, j < i → e j = true) _ ?_ ?_ (none, ()) ⟨rfl, rfl, fun j hj => absurd hj (Nat.not_lt_zero _)⟩)
  · rintro i c s' _ hi ⟨rfl, rfl, hpre⟩
    have hi2 : i < es.size := by omega
    obtain ⟨x, t, hkey, hfind⟩ := hk i hi2
    refine wpAny_bind (wpAny_dictEntries ha da ?_)
    rw [Array.getElem?_eq_getElem hi2]
    dsimp only
    refine wpAny_bind (wpAny_holding ?_)
    rw [hkey]
    refine wpAny_bind (PyProof.Rows.KTD.kt_dictFind_strs hb db hall ?_)
    rw [hfind]
    dsimp only
    refine wpAny_bind (wpAny_dictEntries hb db ?_)
    rw [Array.getElem?_eq_getElem hi]
    dsimp only
    refine wpAny_holding (he i hi2 hi prog w _ _ ?_)
    cases hei : e i with
    | false =>
      simp only [Bool.not_false, if_true]
      refine wpAny_pure (wpAny_pure ?_)
      rw [all_eq false ⟨nofun, fun z => by rw [z i hi2] at hei; cases hei⟩]
      exact h
    | true =>
      simp only [Bool.not_true, Bool.false_eq_true, if_false]
      refine wpAny_bind (wpAny_dictEpoch ha da ?_)
      simp only [bne_self_eq_false, Bool.false_eq_true, if_false]
      refine wpAny_pure ⟨rfl, rfl, fun j hj => ?_⟩
      by_cases q : j = i
      · rw [q]; exact hei
      · exact hpre j (by omega)
  · rintro c s' ⟨rfl, rfl, hpre⟩
    refine wpAny_pure ?_
    rw [all_eq true ⟨fun _ j hj => hpre j (by omega), fun _ => rfl⟩]
    exact h
theorem rc_text {A : Around} {s : Shared} {a b : Addr} {oa ob : Obj} {es es' : Array DictEntry} {ep ep' : Nat} {e : Nat → Bool}
    (na : (a == sysModules) = false) (nb : (b == sysModules) = false) (ha : s.heap.get? a = some oa) (xa : oa.ExactDict) (da : oa.data = .dict es ep) (hb : s.heap.get? b = some ob) (xb : ob.ExactDict) (db : ob.data = .dict es' ep') (hsz : es.size = es'.size) (hu : A.units < cLine)
    (hall : (es'.all fun e => isExactStrKey e.key) = true) (hk : ∀ i (h : i < es.size), ∃ x t, es[i].key = .str x t ∧ es'.findIdx? (fun e => e.key.isStr x) = some i)
    (he : ∀ i (h1 : i < es.size) (h2 : i < es'.size), EqAt A.in1 s es[i].val es'[i].val (e i)) : RcAt A s (.ref a) (.ref b) ((List.range es.size).all e) := by
  intro prog w E Q hq
  have ta : s.TypeIs (.ref a) "dict" := ⟨oa, ha, xa.1⟩
  have tb : s.TypeIs (.ref b) "dict" := ⟨ob, hb, xb.1⟩
  refine wpAny_richCompare_same_room (op := .Eq) ta tb PySem.F.slot_dict_eq (wpAny_call_entry PySem.F.slot_dict_eq ta PySem.F.entry_dict_eq ?_ (PySem.F.args_dict_eq_2 _ _)) hu
  have body : wpAny (model prog w) A.in1 (Builtin.Dict.dictSlotArgs "__eq__" ⟨[.ref a, .ref b], []⟩) (fun p s' => p = (.ref a, .ref b) ∧ s' = s) E s := by
    unfold Builtin.Dict.dictSlotArgs
    exact wpAny_bind (wpAny_notOrdered_dict ta (wpAny_pure ⟨rfl, rfl⟩))
  show wpAny _ _ (Builtin.Dict.dictSlotArgs "__eq__" ⟨[.ref a, .ref b], []⟩ >>= _) _ _ s
  refine wpAny_bind (wpAny_mono body ?_ fun _ _ x => x)
  rintro _ _ ⟨rfl, rfl⟩
  refine wpAny_bind (wpAny_isInstance (T := "dict") tb PySem.F.sub_dict_dict ?_)
  simp only [Bool.not_true, Bool.false_eq_true, if_false]
  refine wpAny_bind (wpAny_pure (wpAny_bind (wpAny_pure (wpAny_bind (same_text na nb ha da hb db hsz hall hk he (wpAny_pure ⟨_, rfl, nofun, ?_⟩))))))
  simpa using hq
end PySem.W
namespace L2
open PySem PySem.Spec PyProof.Rows PyProof PySem.SeqAt
abbrev encT (k : List (Str × Int)) : List (Key × V) := k.map fun p => (.inr p.1, .int p.2)
/-- a dict of texts with whole numbers -/
def TD (H : Hp) (v : V) (k : List (Str × Int)) : Prop := ∃ b, v = .ref b ∧ Rd H b (.dK (encT k))
def EntT (p : Str × Int) (e : DictEntry) : Prop := (∃ t, e.key = .str p.1 t) ∧ ∃ u, e.val = .int p.2 u
theorem ent_rows {prog : Program} {w : World} : ∀ {k : List (Str × Int)} {va : List (Key × Value)} {es : List DictEntry}, KV (encT k) va → Pairs (mixKind prog w) es va → Paired EntT k es ∧ va.map (·.1) = k.map fun p => (.inr p.1 : Key)
  | [], _, _, h, g => by
    cases h
    cases g
    exact ⟨.nil, rfl⟩
  | p :: k, _, _, h, g => by
    cases h with
    | cons h t =>
      cases g with
      | cons g1 g2 g3 =>
        obtain ⟨h1, h2⟩ := h
        obtain ⟨r1, r2⟩ := ent_rows t g3
        refine ⟨.cons ⟨?_, ?_⟩ r1, ?_⟩
        · rw [← h1] at g1
          rcases keyIs_shape (show keyIs (.inr p.1) _ = true from g1) with ⟨i, t, e1, e2⟩ | ⟨x, t, e1, e2⟩
          · cases e1
          · cases e1
            exact ⟨t, e2⟩
        · rw [g2]
          obtain ⟨t, e⟩ := h2
          exact ⟨t, e⟩
        · rw [List.map_cons, List.map_cons, r2, ← h1]
theorem pget {α β : Type} {F : α → β → Prop} : ∀ {xs : List α} {ys : List β}, Paired F xs ys → xs.length = ys.length ∧ ∀ i (h1 : i < xs.length) (h2 : i < ys.length), F xs[i] ys[i]
  | _, _, .nil => ⟨rfl, fun i h => absurd h (Nat.not_lt_zero i)⟩
  | _, _, .cons h t => by
    obtain ⟨l, g⟩ := pget t
    refine ⟨by simp [l], fun i h1 h2 => ?_⟩
    cases i with
    | zero => exact h
    | succ i => exact g i (by simpa using h1) (by simpa using h2)
theorem kfind {m : List (Str × Int)} {es : List DictEntry} (h : Paired EntT m es) (nd : (m.map fun p => (.inr p.1 : Key)).Nodup) (i : Nat) (hi : i < m.length) : es.toArray.findIdx? (fun e => e.key.isStr m[i].1) = some i := by
  obtain ⟨l, g⟩ := pget h
  rw [Array.findIdx?_eq_some_iff_getElem]
  have hi2 : i < es.length := by omega
  refine ⟨by simpa using hi2, ?_, fun j hj => ?_⟩
  · obtain ⟨⟨t, e⟩, _⟩ := g i hi hi2
    have : es.toArray[i].key = .str m[i].1 t := by simpa using e
    rw [this]
    simp [Value.isStr]
  · have hj1 : j < m.length := by omega
    obtain ⟨⟨t, e⟩, _⟩ := g j hj1 (by omega)
    have : es.toArray[j].key = .str m[j].1 t := by simpa using e
    rw [this]
    have ne := List.pairwise_iff_getElem.mp nd j i (by simpa using hj1) (by simpa using hi) hj
    simp only [List.getElem_map] at ne
    simp only [Value.isStr]
    intro c
    exact ne (by rw [eq_of_beq c])
theorem all_same : ∀ {k m : List (Str × Int)}, k.map (·.1) = m.map (·.1) → (List.range k.length).all (fun i => decide ((k.map (·.2))[i]? = (m.map (·.2))[i]?)) = decide (k = m) := by
  intro k m hk
  have hl : k.length = m.length := by simpa using congrArg List.length hk
  rw [Bool.eq_iff_iff, List.all_eq_true, decide_eq_true_iff]
  constructor
  · intro h
    apply List.ext_getElem hl
    intro i h1 h2
    have a := of_decide_eq_true (h i (List.mem_range.mpr h1))
    have b : (k.map (·.1))[i]? = (m.map (·.1))[i]? := by rw [hk]
    simp only [List.getElem?_map, List.getElem?_eq_getElem h1, List.getElem?_eq_getElem h2, Option.map_some, Option.some.injEq] at a b
    exact Prod.ext b a
  · rintro rfl x _
    exact decide_eq_true rfl
theorem td_eq {X : Cx} {pins : List (Addr × Obj)} {σ : St} {H : Hp} {s : Shared} {v w : V} {p q : Value} {k m : List (Str × Int)} {A : Around} (I : Inv X pins σ H s) (hv : TD H v k) (hw : TD H w m) (rv : RelV v p) (rw_ : RelV w q)
    (hk : k.map (·.1) = m.map (·.1)) (hu : A.units < cLine) : EqAt A s p q (decide (k = m)) := by
  obtain ⟨a, rfl, ra⟩ := hv
  obtain ⟨b, rfl, rb⟩ := hw
  obtain rfl : p = Value.ref a := rv
  obtain rfl : q = Value.ref b := rw_
  obtain ⟨_, ya, va, qa, oa, ea, epa, ga, xa, da, _, pa, na⟩ := (show ObjOk X.prog X.w H s.heap a (.dK (encT k)) from ra.ok I.hok)
  obtain ⟨_, yb, vb, qb, ob, eb, epb, gb, xb, db, _, pb, nb⟩ := (show ObjOk X.prog X.w H s.heap b (.dK (encT m)) from rb.ok I.hok)
  obtain ⟨ea1, ea2⟩ := ent_rows qa pa
  obtain ⟨eb1, eb2⟩ := ent_rows qb pb
  obtain ⟨la, fa⟩ := pget ea1
  obtain ⟨lb, fb⟩ := pget eb1
  have hl : k.length = m.length := by simpa using congrArg List.length hk
  have key : ∀ i (h1 : i < k.length) (h2 : i < m.length), k[i].1 = m[i].1 := fun i h1 h2 => by
    have := congrArg (·[i]?) hk
    simpa [List.getElem?_eq_getElem h1, List.getElem?_eq_getElem h2] using this
  by_cases hab : a = b
  · subst hab
    have e1 : oa = ob := Option.some.inj (ga.symm.trans gb)
    subst e1
    have e2 : ea = eb := by rw [da] at db; injection db
    subst e2
    have : k = m := by
      apply List.ext_getElem hl
      intro i h1 h2
      obtain ⟨_, u, e⟩ := fa i h1 (by omega)
      obtain ⟨_, u', e'⟩ := fb i h2 (by omega)
      rw [e] at e'
      injection e' with e' _
      exact Prod.ext (key i h1 h2) e'
    rw [decide_eq_true this]
    exact EqAt.same _
  · rw [← all_same hk]
    have sa : ea.size = k.length := by rw [la, Array.length_toList]
    have sb : eb.size = m.length := by rw [lb, Array.length_toList]
    rw [← sa]
    refine EqAt.of_refs hab (PySem.W.rc_text ya yb ga xa da gb xb db (by omega) hu ?_ (fun i h => ?_) fun i h1 h2 => ?_)
    · rw [Array.all_eq_true]
      intro i h
      obtain ⟨⟨t, e⟩, _⟩ := fb i (by omega) (by simpa using h)
      have : eb[i].key = .str m[i].1 t := by simpa using e
      rw [this]
      rfl
    · obtain ⟨⟨t, e⟩, _⟩ := fa i (by omega) (by simpa using h)
      refine ⟨_, t, by simpa using e, ?_⟩
      have := kfind eb1 (eb2 ▸ nb) i (by omega)
      rw [← key i (by omega) (by omega)] at this
      simpa using this
    · obtain ⟨_, u, e⟩ := fa i (by omega) (by simpa using h1)
      obtain ⟨_, u', e'⟩ := fb i (by omega) (by simpa using h2)
      have e1 : ea[i].val = .int k[i].2 u := by simpa using e
      have e2 : eb[i].val = .int m[i].2 u' := by simpa using e'
      rw [e1, e2]
      have := EqAt.int_int (A := A.in1) (s := s) k[i].2 u m[i].2 u'
      have h3 : i < k.length := by omega
      have h4 : i < m.length := by omega
      have e3 : (k[i].2 == m[i].2) = decide ((k.map (·.2))[i]? = (m.map (·.2))[i]?) := by
        rw [List.getElem?_map, List.getElem?_map, List.getElem?_eq_getElem h3, List.getElem?_eq_getElem h4]
        simp [Bool.beq_eq_decide_eq]
      rw [← e3]
      exact this
theorem Rd.one {H : Hp} {a : Addr} {x y : HO} (h : Rd H a x) (g : Rd H a y) (nx : ∀ o u, x ≠ .frz o u) (ny : ∀ o u, y ≠ .frz o u) : x = y := by
  rcases h with h | ⟨o, h⟩ <;> rcases g with g | ⟨o', g⟩ <;> rw [h] at g <;> injection g with g
  · exact absurd g (nx _ _)
  · exact absurd g.symm (ny _ _)
  · injection g
theorem encT_inj : ∀ {k m : List (Str × Int)}, encT k = encT m → k = m
  | [], [], _ => rfl
  | p :: k, q :: m, h => by
    injection h with h1 h2
    injection h1 with h3 h4
    injection h3 with h3
    injection h4 with h4
    rw [encT_inj h2, show p = q from Prod.ext h3 h4]
theorem TD.one {H : Hp} {v : V} {k m : List (Str × Int)} (h : TD H v k) (g : TD H v m) : k = m := by
  obtain ⟨a, rfl, ha⟩ := h
  obtain ⟨b, e, hb⟩ := g
  injection e with e
  subst e
  have := ha.one hb (fun _ _ e => HO.noConfusion e) (fun _ _ e => HO.noConfusion e)
  injection this with this
  exact encT_inj this
end L2
namespace L2
open PySem PySem.Spec PyProof.Rows PyProof PySem.SeqAt
/-- dicts with the keys K -/
def TDs (H : Hp) (K : List Str) : List V → List (List (Str × Int)) → Prop := Paired fun v m => TD H v m ∧ m.map (·.1) = K
def rInT (K : PySem.W.Frag) (neg : Bool) : R2 := fun x y H Q => ∃ a xs k ks, y = .ref a ∧ SqL K H a xs ∧ TD H x k ∧ TDs H (k.map (·.1)) xs ks ∧ Q (.bl ((ks.any fun m => decide (m = k)) != neg)) H
section
variable {X : Cx} {pins : List (Addr × Obj)} {σ : St} {H : Hp} {s : Shared}
open Classical in
theorem any_of {k : List (Str × Int)} {e : Value → Bool} (he : ∀ u v m, RelV v u → TD H v m → m.map (·.1) = k.map (·.1) → e u = decide (m = k)) : ∀ {xs : List V} {us : List Value} {ks : List (List (Str × Int))}, Vals xs us → TDs H (k.map (·.1)) xs ks → us.any e = ks.any fun m => decide (m = k)
  | _, _, _, .nil, .nil => rfl
  | _, _, _, .cons r rs, .cons t ts => by
    rw [List.any_cons, List.any_cons, any_of he rs ts, he _ _ _ r t.1 t.2]
theorem mem_of {T : List Str} : ∀ {xs : List V} {us : List Value} {ks : List (List (Str × Int))}, Vals xs us → TDs H T xs ks → ∀ u ∈ us, ∃ v m, RelV v u ∧ TD H v m ∧ m.map (·.1) = T
  | _, _, _, .nil, .nil, _, h => absurd h (List.not_mem_nil)
  | _, _, _, .cons r rs, .cons t ts, u, h => by
    rcases List.mem_cons.mp h with rfl | h
    · exact ⟨_, _, r, t.1, t.2⟩
    · exact mem_of rs ts u h
theorem rel_one {v w : V} {u : Value} {k m : List (Str × Int)} (hv : TD H v k) (hw : TD H w m) (a : RelV v u) (b : RelV w u) : v = w := by
  obtain ⟨x, rfl, _⟩ := hv
  obtain ⟨y, rfl, _⟩ := hw
  obtain rfl : u = Value.ref x := a
  injection (show Value.ref x = Value.ref y from b) with e
  rw [e]
open Classical in
theorem op_inT (hu : X.A.units + 65 < cLine) : OpR X (compareOp .In) (rInT X.K false) := by
  intro pins s σ H x y v u Q I rx ry h
  obtain ⟨a, xs, k, ks, rfl, hs, tx, ts, q⟩ := h
  obtain rfl : u = Value.ref a := ry
  obtain ⟨its, rv, pl, _⟩ := I.list hs
  let e : Value → Bool := fun u => decide (∃ v, RelV v u ∧ TD H v k)
  have he : ∀ u v m, RelV v u → TD H v m → m.map (·.1) = k.map (·.1) → e u = decide (m = k) := fun u v m r t _ => by
    rw [show e u = decide (∃ v, RelV v u ∧ TD H v k) from rfl, decide_eq_decide]
    exact ⟨fun ⟨w, r2, t2⟩ => by cases rel_one t t2 r r2; exact t.one t2, fun c => ⟨v, r, c ▸ t⟩⟩
  refine in_listAt e pl.isList (fun z hz => ?_) (fin_bl I q ?_)
  · obtain ⟨w, m, r, t, km⟩ := mem_of rv ts z (by simpa using hz)
    rw [he z w m r t km]
    exact td_eq I t tx r rx km (show X.A.units + 1 < cLine by omega)
  · rw [Bool.bne_false, List.any_toArray]
    exact (any_of he rv ts).symm
open Classical in
theorem op_notInT (hu : X.A.units + 65 < cLine) : OpR X (compareOp .NotIn) (rInT X.K true) := by
  intro pins s σ H x y v u Q I rx ry h
  obtain ⟨a, xs, k, ks, rfl, hs, tx, ts, q⟩ := h
  obtain rfl : u = Value.ref a := ry
  obtain ⟨its, rv, pl, _⟩ := I.list hs
  let e : Value → Bool := fun u => decide (∃ v, RelV v u ∧ TD H v k)
  have he : ∀ u v m, RelV v u → TD H v m → m.map (·.1) = k.map (·.1) → e u = decide (m = k) := fun u v m r t _ => by
    rw [show e u = decide (∃ v, RelV v u ∧ TD H v k) from rfl, decide_eq_decide]
    exact ⟨fun ⟨w, r2, t2⟩ => by cases rel_one t t2 r r2; exact t.one t2, fun c => ⟨v, r, c ▸ t⟩⟩
  refine notIn_listAt e pl.isList (fun z hz => ?_) (fin_bl I q ?_)
  · obtain ⟨w, m, r, t, km⟩ := mem_of rv ts z (by simpa using hz)
    rw [he z w m r t km]
    exact td_eq I t tx r rx km (show X.A.units + 1 < cLine by omega)
  · rw [Bool.bne_true, List.any_toArray, any_of he rv ts]
end
end L2
namespace Own
open PySem L2 M
end Own
namespace Own
open PySem L2 M PyProof.Rows
/-! == where a side may be a written tuple of ints -/
end Own


/-! str(list of plain data); sorted(xs, key=lambda y: str(y)), xs a list of lists of texts. -/
namespace M
open PySem PySem.Spec PyProof.Rows L2
end M
namespace L2
open PySem PySem.Spec PyProof.Rows LamX
/-- lists of texts -/
inductive TextsAre (H : Hp) : List V → List (List Str) → Prop
  | nil : TextsAre H [] []
  | cons {b : Addr} {ys : List Str} {xs : List V} {ns : List (List Str)} (h : H b = some (.lst (ys.map V.str))) (t : TextsAre H xs ns) : TextsAre H (.ref b :: xs) (ys :: ns)
theorem TextsAre.ext {H H' : Hp} (e : ExtN H H') : ∀ {xs : List V} {ns : List (List Str)}, TextsAre H xs ns → TextsAre H' xs ns
  | _, _, .nil => .nil
  | _, _, .cons h t => .cons (e _ _ h fun _ z => by cases z) (t.ext e)
theorem TextsAre.len {H : Hp} : ∀ {xs : List V} {ns : List (List Str)}, TextsAre H xs ns → xs.length = ns.length
  | _, _, .nil => rfl
  | _, _, .cons _ t => by rw [List.length_cons, List.length_cons, t.len]
section
variable {X : Cx} {pins : List (Addr × Obj)} {σ : St} {H : Hp} {s : Shared}
end
end L2
namespace M
open PySem PySem.Spec PyProof.Rows L2 LamX
section
variable {G : Gb} {H H0 : Hp}
end
section
variable {X : Cx} {G : Gm} {W : WX} {c P : Addr} {params : Arguments} {scope : Scope} {e : Expr} {mas : MA} {y : Str} {b1 b2 b3 lpos kpos p pos : Pos} {k : Nat}
end
end M


/-! Exceptions as data: made as values, their field read, isinstance of them. -/
namespace L2
open PySem PySem.Spec PySem.HandSPX
section
variable {prog : Program} {w : World} {A : Around} {R : Result → Shared → Prop} {h : Heap} {g : Array GenState} {d : Drawn} {t : Nat} {os : OsState} {E : Value → Shared → Prop}
variable {nm q : Str} {C N : Addr} {bs bm mro : List Value} {hdct : Bool} {sn : List Str} {sub : List Value} {ab : Bool} {col : Option Bool} {dd : Option Addr} {k0 k1 k2 k3 k5 : Option Value} {B newId initId : String} {kw : List (Str × Value)}
/-- the two looks ahead of such a call, with keywords -/
theorem kwX_type {M : Model} {Q : Unit → Shared → Prop} (look : h.get? C = some (excClassObj nm q C N bs bm hdct sn sub ab col dd k0 k1 k2 k3 k5 newId)) (go : Q () ⟨h, g, d, t, os⟩) :
    wpAny M A (checkBuiltinCall "type.__call__" ⟨[.ref C], kw⟩) Q E ⟨h, g, d, t, os⟩ := by
  have kind : PySem.W.Looks M h (isInstance (.ref C) (.type "type")) true := ((PySem.W.Looks.ld look).andThen .now).andThen (show PySem.W.Looks M h (isSubtype (.type "type") (.type "type")) true from by rw [tc_sub]; exact .now)
  exact PySem.W.check_slot tc_kind tc_split kind (PySem.W.tc_args _ _ _) go
theorem kwX_new {M : Model} {Q : Unit → Shared → Prop} (F : ExcBaseFacts B newId initId mro) (tails : ∀ Y : String, bm.contains (.type Y) = mro.contains (.type Y))
    (look : h.get? C = some (excClassObj nm q C N bs bm hdct sn sub ab col dd k0 k1 k2 k3 k5 newId)) (go : Q () ⟨h, g, d, t, os⟩) : wpAny M A (checkBuiltinCall newId ⟨[.ref C], kw⟩) Q E ⟨h, g, d, t, os⟩ := by
  have has : (Value.ref C :: bm).contains (.type B) = true := by rw [List.contains_cons, tails, F.hasB, Bool.or_true]
  have star := F.noStar
  unfold checkBuiltinCall
  rw [F.newKind, F.newSplit, F.newRow]
  repeat (any_goals first | exact go | refine wpAny_madeBy_exc look ?_ | refine wpAny_staticBase_exc look ?_ | (refine wpAny_isSubtype_exc look ?_; rw [has]) | refine wpAny_loadPart_at look ?_ | simp only [bne_self_eq_false, Bool.false_eq_true, if_false] | wp_step)
/-- the exception itself, by BaseException.__new__ -/
theorem kwX_lay (F : ExcBaseFacts B newId initId mro) (tails : ∀ Y : String, bm.contains (.type Y) = mro.contains (.type Y)) (look : h.get? C = some (excClassObj nm q C N bs bm hdct sn sub ab col dd k0 k1 k2 k3 k5 newId))
    (go : R (.ok (.ret (.ref (h.objs.size + 1)))) ⟨(h.push (PySem.W.kdv_tup [])).push (excO C h.objs.size), g, d, t, os⟩) : codeAny (model prog w) A (.builtin newId ⟨[.ref C], kw⟩) R ⟨h, g, d, t, os⟩ := by
  have mem : ∀ Y : String, (Value.ref C :: bm).contains (.type Y) = mro.contains (.type Y) := fun Y => by rw [List.contains_cons, tails]; rfl
  have long := F.ends
  refine codeAny_builtinAt F.entry ?_
  unfold Builtin.«BaseException.__new__»
  refine wpAt_bind (show PySem.wpAt _ _ _ (stack >>= _) _ _ _ from wpAt_bind (wpAt_stack fun p below => wpAt_of_wpAny ?_))
  wp_walk
  refine wpAt_of_wpAny ?_
  rw [F.owner]
  repeat (any_goals first | (refine wpAny_madeHere_exc F.canon look ?_) | (refine wpAny_isSubtype_exc look ?_; rw [mem]; first | rw [F.hasB] | rw [F.noAttr] | rw [F.noName]) | refine wpAny_loadPart_at look ?_ | wp_step)
  all_goals (try (show R _ _; rw [Heap.size_push]; exact go))
/-- C(k = v, ..) -/
theorem kwX_call {fI : Addr} (F : ExcBaseFacts B newId initId mro) (tails : ∀ Y : String, bm.contains (.type Y) = mro.contains (.type Y)) (look : h.get? C = some (excClassObj nm q C N bs bm hdct sn sub ab col dd k0 k1 k2 k3 k5 newId))
    (own : PySem.W.Looks (model prog w) h (typeLookup (.ref C) "__init__") (some (.ref fI))) (bound : ∀ self, PySem.W.Looks (model prog w) h (bindSpecial (.ref fI) self) (.ref fI, [self]))
    (body : codeAny (model prog w) (A.under (.builtin "type.__call__" ⟨[.ref C], kw⟩)) (.call (.ref fI) ⟨[.ref (h.objs.size + 1)], kw⟩) (PySem.W.InitBack (h.objs.size + 1) R) ⟨(h.push (PySem.W.kdv_tup [])).push (excO C h.objs.size), g, d, t, os⟩) :
    codeAny (model prog w) A (.call (.ref C) ⟨[], kw⟩) R ⟨h, g, d, t, os⟩ := by
  let h2 := (h.push (PySem.W.kdv_tup [])).push (excO C h.objs.size)
  have more : ∀ b o, h.get? b = some o → h2.get? b = some o := fun b o z => Heap.get?_push_of_some _ (Heap.get?_push_of_some _ z)
  have at_ : h2.get? (h.objs.size + 1) = some (excO C h.objs.size) := by show ((h.push (PySem.W.kdv_tup [])).push (excO C h.objs.size)).get? _ = _; heap_get
  have itself : (Value.ref C :: bm).contains (.ref C) = true := by simp
  have is : (⟨h, g, d, t, os⟩ : Shared).TypeIs (.ref C) "type" := ⟨_, look, rfl⟩
  have t1 := tc_lookup
  have t2 := tc_bind (.ref C)
  refine codeAny_of_tree (show wpAny _ _ (callAny (.ref C) _) _ _ _ from ?_)
  repeat (any_goals first | assumption | with_reducible refine wpAny_loadPart_at look ?_ | wp_step)
  refine ⟨rfl, codeAny_call_builtin_at (Code.quiet_builtin _ (by decide +kernel)) entry_typeCall (kwX_type look ?_)⟩
  unfold Builtin.«type.__call__»
  repeat (any_goals first | with_reducible refine wpAny_loadPart_at look ?_ | with_reducible refine wpAny_madeBy_exc look ?_ | wp_step)
  refine codeAny_call_builtin_code (Code.quiet_builtin _ F.quiet) (kwX_new F tails look (kwX_lay F tails look ?_))
  show wpAny _ _ _ _ _ _
  unfold isInstance
  repeat (any_goals first | with_reducible refine wpAny_loadPart_at at_ ?_ | (with_reducible refine wpAny_isSubtype_exc (more _ _ look) ?_; rw [itself]) | wp_step)
  show wpAny _ _ (typeLookup (.ref C) _) _ _ _
  refine (own.keeps more).at (wpAny_holding (wpAny_bind (((bound _).keeps more).at (wpAny_bind (wpAny_call (codeAny_mono body fun r s' z => ?_))))))
  match r, z with
  | .error _, z => exact z
  | .ok (.ret _), ⟨e, z⟩ =>
    subst e
    first
      | exact wpAny_pure (wpAny_pure z)
      | (wp_walk; exact z)
end
end L2
namespace L2
open PySem PySem.Spec PyProof.Rows
/-- an own exception class: what a call of it asks -/
def XCls (K : PySem.W.Frag) (C : Addr) : Prop := PySem.W.keepIn K (.ref C) = true ∧ ∃ (B newId initId : String) (mro : List Value), ExcBaseFacts B newId initId mro ∧
  ∀ h : Heap, K.In h → ∃ nm q N bs bm hdct sn sub ab col dd k0 k1 k2 k3 k5, h.get? C = some (excClassObj nm q C N bs bm hdct sn sub ab col dd k0 k1 k2 k3 k5 newId) ∧ ∀ Y : String, bm.contains (.type Y) = mro.contains (.type Y)
theorem xcls_oex {K : PySem.W.Frag} {C : Addr} (T : OexC K C) : XCls K C := by
  obtain ⟨nm, q, N, bs, bm, sn, sub, ab, col, dd, k0, k1, k2, k3, k5, look, tails⟩ := T.cls
  exact ⟨T.kC, _, _, _, _, PySem.F.excBase_ValueError, fun h I => ⟨_, _, _, _, _, _, _, _, _, _, _, _, _, _, _, _, I _ _ look, fun Y => PySem.HandSPX.refsVE_contains Y bm tails⟩⟩
theorem xcls_oexB {K : PySem.W.Frag} {C : Addr} {B newId initId : String} {mro : List Value} (T : OexB K C B newId initId mro) : XCls K C :=
  ⟨T.keeps, _, _, _, _, T.base, fun h I => by
    obtain ⟨nm, N, q, bs, bm, hdct, sn, sub, ab, col, dd, k0, k1, k2, k3, k5, look, tails⟩ := PySem.W.excInit_of I T.ini
    exact ⟨_, _, _, _, _, _, _, _, _, _, _, _, _, _, _, _, look, tails⟩⟩
/-- C(e, ..) as a value -/
def tMkX (C : Addr) (sp : Sp) (ta : TA) : TE := fun σ H Q => ta σ H fun vs H1 => vs.length ≤ 1000 ∧ ∀ a, H1 a = none → sp (.ref a :: vs) (upd H1 a (exo a C none)) (fun v H2 => v = .non ∧ Q (.ref a) H2) (fun _ _ _ => False)
section
variable {X : Cx} {CX : CXT} {x : Str} {C fI : Addr} {k : Nat} {fd : FuncData} {ps : List Str} {sp : Sp} {e : Expr} {es : List Expr} {ta : TA} {p pos : Pos}
theorem pe_mkX (T : XCls X.K C) (own : PySem.W.findIn X.K (.ref C) "__init__" = some (some (.ref fI))) (fn : PySem.W.typeIn X.K (.ref fI) = some (.type "function")) (F : FnOk X.prog X.w X.K X.mg X.base CX k fI fd ps sp) (room : Room (k + 1) X.A)
    (binds : Binds X.K fd ps []) (thru : Passes CX X (fun _ _ _ => False)) (hg : Gl X x) (hm : X.mg x = some (.ref C)) (ha : PA X (e :: es) ta) (ndb : (x == ("__debug__" : Str)) = false := by decide)
    (one : starEach (e :: es) X.env = (false, eval e X.env) :: starEach es X.env := by rfl) (rest : (backTo pos (starEach es X.env)).any (·.1) = false := by rfl) : PE X (.Call (.Name x p) (e :: es) [] pos) (tMkX C sp ta) := ⟨fun pins s σ H Q I h => by
  obtain ⟨kept, B, newId, initId, mro, base, look⟩ := T
  refine wpAny_Call_Name_kw (ld_glob I hg hm (PySem.W.callWith_K (h₀ := X.base) I.ok.mod.kin kept (thn (ha.run pos pins s σ H _ I h) fun us s1 got => ?_) one rest) ndb)
  obtain ⟨vs, H1, I1, same, small, wish⟩ := got
  refine ⟨I1.kIn, ?_⟩
  obtain ⟨hp, gs, dr, tk, os⟩ := s1
  let a := hp.objs.size + 1
  let hp2 := (hp.push (PySem.W.kdv_tup us)).push (PySem.HandSPX.excO C hp.objs.size)
  have old : ∀ b o, hp.get? b = some o → hp2.get? b = some o := fun b o z => Heap.get?_push_of_some _ (Heap.get?_push_of_some _ z)
  have now : hp2.get? a = some (PySem.HandSPX.excO C hp.objs.size) := by
    show ((hp.push (PySem.W.kdv_tup us)).push (PySem.HandSPX.excO C hp.objs.size)).get? (hp.objs.size + 1) = _
    heap_get
  have low : hp.objs.size ≤ a := Nat.le_succ _
  have wishA := wish a (I1.hok.fresh low)
  have I2 := I1.laid (t' := tk) (o := exo a C none) old low (exo_ok now)
  have args : Vals (V.ref a :: vs) (Value.ref a :: us) := .cons rfl same
  have many := args.length.symm.trans (F.len _ _ _ _ wishA)
  have few : us.length ≤ sizeLine := by
    have := same.length
    rw [sizeLine_eq]
    omega
  have to := binds _ (Value.ref a :: us) I2.kIn (by rw [List.append_nil]; exact many)
  rw [List.append_nil] at to
  obtain ⟨_, _, _, _, _, _, _, _, _, _, _, _, _, _, _, _, cls, tails⟩ := look hp I1.kIn
  refine wpAny_call (PySem.HandSPX.call_own base tails cls (PySem.W.looks_findIn I1.kIn own) (fun self => PySem.W.bind_fn I1.kIn self fn) few (codeAny_mono
    (F.run _ X.stack _ _ ⟨Value.ref a :: us, []⟩ (Value.ref a :: us) _ _ (fun _ _ _ => False) (room.make C us []) (I2.env0.make C us []) to args wishA) fun r s3 ended => ?_))
  match r, ended with
  | .error er, ended => exact thru pins σ _ _ er s3 I2 ended
  | .ok (.ret u), ended =>
    obtain ⟨v, H3, I3, rv, fine, q⟩ := I2.after ended
    subst fine
    exact ⟨rv, .ref a, H3, I3, rfl, q⟩⟩
end
/-- C(k = v, ..) as a value -/
theorem pe_mkXK {X : Cx} {CX : CXT} {x : Str} {C fI : Addr} {k : Nat} {fd : FuncData} {ps ks : List Str} {sp : Sp} {kws : List Keyword} {tk : TA} {p pos : Pos} (T : XCls X.K C) (own : PySem.W.findIn X.K (.ref C) "__init__" = some (some (.ref fI)))
    (fn : PySem.W.typeIn X.K (.ref fI) = some (.type "function")) (F : FnOk X.prog X.w X.K X.mg X.base CX k fI fd ps sp) (room : Room (k + 1) X.A) (binds : KBn X.K fd ps 1 ks (fun us ws => us ++ ws) (fun us ws => us ++ ws)) (thru : Passes CX X (fun _ _ _ => False))
    (hg : Gl X x) (hm : X.mg x = some (.ref C)) (hk : PK X kws tk) (all : (backToKw pos (keywordEach kws X.env)).all (·.1.isSome) = true := by rfl) (named : (backToKw pos (keywordEach kws X.env)).filterMap (·.1) = ks := by rfl)
    (plain : ((backTo pos (starEach [] X.env)).any (·.1) || (backToKw pos (keywordEach kws X.env)).any (·.1.isNone)) = false := by rfl) (ndb : (x == ("__debug__" : Str)) = false := by decide) :
    PE X (.Call (.Name x p) [] kws pos) (fun σ H Q => tk σ H fun vs H1 => vs.length = ks.length ∧ ∀ a, H1 a = none → sp (.ref a :: vs) (upd H1 a (exo a C none)) (fun v H2 => v = .non ∧ Q (.ref a) H2) (fun _ _ _ => False)) := ⟨fun pins s σ H Q I h => by
  obtain ⟨kept, B, newId, initId, mro, base, look⟩ := T
  refine wpAny_Call_Name_kw (ld_glob I hg hm (PySem.W.callWith_KW0 (h₀ := X.base) I.ok.mod.kin kept all (thn (hk.run pos pins s σ H _ I h) fun us s1 got => ?_) plain) ndb)
  obtain ⟨vs, H1, I1, same, len, wish⟩ := got
  refine ⟨I1.kIn, ?_⟩
  rw [named]
  obtain ⟨hp, gs, dr, tk, os⟩ := s1
  let a := hp.objs.size + 1
  let hp2 := (hp.push (PySem.W.kdv_tup [])).push (PySem.HandSPX.excO C hp.objs.size)
  have old : ∀ b o, hp.get? b = some o → hp2.get? b = some o := fun b o z => Heap.get?_push_of_some _ (Heap.get?_push_of_some _ z)
  have now : hp2.get? a = some (PySem.HandSPX.excO C hp.objs.size) := by
    show ((hp.push (PySem.W.kdv_tup [])).push (PySem.HandSPX.excO C hp.objs.size)).get? (hp.objs.size + 1) = _
    heap_get
  have low : hp.objs.size ≤ a := Nat.le_succ _
  have I2 := I1.laid (t' := tk) (o := exo a C none) old low (exo_ok now)
  have to := binds.to _ [Value.ref a] us I2.kIn rfl (same.length.symm.trans len)
  have args : Vals (V.ref a :: vs) (Value.ref a :: us) := .cons rfl same
  obtain ⟨_, _, _, _, _, _, _, _, _, _, _, _, _, _, _, _, cls, tails⟩ := look hp I1.kIn
  refine wpAny_call (kwX_call base tails cls (PySem.W.looks_findIn I1.kIn own) (fun self => PySem.W.bind_fn I1.kIn self fn) (codeAny_mono
    (F.run _ X.stack _ _ ⟨[Value.ref a], ks.zip us⟩ (Value.ref a :: us) _ _ (fun _ _ _ => False) (room.make C [] (ks.zip us)) (I2.env0.make C [] (ks.zip us)) to args (wish a (I1.hok.fresh low))) fun r s3 ended => ?_))
  match r, ended with
  | .error er, ended => exact thru pins σ _ _ er s3 I2 ended
  | .ok (.ret u), ended =>
    obtain ⟨v, H3, I3, rv, fine, q⟩ := I2.after ended
    subst fine
    exact ⟨rv, .ref a, H3, I3, rfl, q⟩⟩
/-- e.f of an exception -/
def rFldX (K : PySem.W.Frag) (f : Str) : V → Hp → VK → Prop := fun x H Q => ∃ (a C dx : Addr) (fs : List (Str × V)) (v : V), x = .ref a ∧ H a = some (exo a C (some dx)) ∧ H dx = some (exd dx fs) ∧ XfC K C ∧ PySem.W.findIn K (.ref C) f = some none ∧ fs.lookup f = some v ∧ Q v H
theorem pe_fldX {X : Cx} {e : Expr} {te : TE} {f : Str} {pos : Pos} (he : PE X e te) (hb : attributeBase e f X.env (eval e X.env) = eval e X.env := by rfl) : PE X (.Attribute e f pos) (tUn (rFldX X.K f) te) := ⟨fun pins s σ H Q I h =>
  attr_of hb (thn (he.run pins s σ H _ I h) fun u s1 got => by
    obtain ⟨x, H1, I1, same, a, C, dx, fs, v, rfl, ea, ed, T, no, look, q⟩ := got
    cases same
    obtain ⟨t0, obj⟩ := exo_at I1.hok ea
    obtain ⟨mA, ns, rel⟩ := exd_at I1.hok ed
    obtain ⟨od, there, hl⟩ := lookIn_ns ns
    obtain ⟨u, hu, ru⟩ := RelO.some_of (v := v) (o := mA f) (by rw [← look]; exact rel f)
    have inst : PySem.W.InstAt s1.heap a _ C (some od) := ⟨obj, rfl, rfl, there⟩
    exact HandSPX.exc_get I1.kIn inst T.ga T.gg T.exC (PySem.W.findObj_own T.hdC no rfl (by rw [hl, hu])) (handed_of ru) ⟨v, H1, I1.tok _, ru, q⟩)⟩
/-- isinstance(e, cv) of an exception -/
def rIsV (K : PySem.W.Frag) (cv : Value) : V → Hp → VK → Prop := fun x H Q => ∃ (a C : Addr) (b : Bool), x = .ref a ∧ ExcC K C ∧ ((∃ (dx : Addr) (fs : List (Str × V)), H a = some (exo a C (some dx)) ∧ H dx = some (exd dx fs)) ∨ H a = some (ExO (.ref C) a)) ∧
  PySem.W.kitOne K (.ref C) cv = some b ∧ Q (.bl b) H
theorem call_isV {X : Cx} {c : V} {cv : Value} (known : ∀ u, RelV c u → u = cv) : CallR X (.builtin "isinstance") (fun xs H Q => ∃ x, xs = [x, c] ∧ rIsV X.K cv x H Q) := by
  rintro pins s σ H _ us Q I same ⟨_, rfl, a, C, b, rfl, T, here, answer, q⟩
  obtain ⟨u1, u2, rfl, r1, r2⟩ := vals2 same
  cases r1
  obtain rfl := known u2 r2
  have isClass : (PySem.W.clsIn X.K C).isSome = true := by
    obtain ⟨cd, z, _⟩ := PySem.W.any_some T.hd
    rw [z]
    rfl
  have inst : ∃ (oe : Obj) (od : Option Obj), PySem.W.InstAt s.heap a oe C od := by
    rcases here with ⟨dx, fs, ea, ed⟩ | ea
    · obtain ⟨t0, obj⟩ := exo_at I.hok ea
      obtain ⟨mA, ns, _⟩ := exd_at I.hok ed
      obtain ⟨od, there, _⟩ := lookIn_ns ns
      exact ⟨_, some od, obj, rfl, rfl, there⟩
    · obtain ⟨⟨oe, vs, obj, hz, fields, _⟩, _, _⟩ := I.hok a _ ea
      exact ⟨oe, none, obj, hz.1, by unfold PySem.W.notCls; rw [fields], by rw [hz.2]; trivial⟩
  obtain ⟨oe, od, inst⟩ := inst
  exact PySem.W.kia_one (PySem.W.kitx_exc isClass T.hg T.hk T.hs T.ha T.hn T.ht T.hm) I.kIn inst answer (fun z => by cases z) fun tk => ⟨.bl b, H, I.kept (t' := tk) (fun _ _ z => z), rfl, q⟩
/-- X() as a value -/
theorem pe_exc0 {X : Cx} {C : Addr} {bmB : List Value} {B newId initId : String} {x : Str} {p pos : Pos} (F : ExcBaseFacts B newId initId bmB) (q : PySem.W.excIn X.K C bmB newId = true) (gC : X.mg x = some (.ref C)) (kC : PySem.W.keepIn X.K (.ref C) = true) (hg : Gl X x) (hdb : (x == ("__debug__" : Str)) = false := by decide) :
    PE X (.Call (.Name x p) [] [] pos) (fun σ H Q => ∀ a, H a = none → Q (.ref a) (upd H a (ExO (.ref C) a))) := ⟨fun pins s σ H Q I wish => by
  refine wpAny_Call_Name_kw (ld_glob I hg gC (PySem.W.callWith_K0 I.kIn kC ?_) hdb)
  obtain ⟨bm, N, nm, qn, bs, hdct, sn, sub, ab, col, dd, k0, k1, k2, k3, k5, mN, hC, hN, hni, T⟩ := exc_obj I.kIn q
  refine wpAny_call_exc_subT F T hC hN hni (fun h' e made => ?_) (Nat.zero_le _)
  have free : H e = none := I.hok.gone made.new
  obtain ⟨t, ht, _, _⟩ := made.there
  exact ⟨.ref e, _, I.laidN made.keeps made.new free (exO_ok ht ⟨rfl, rfl⟩ rfl rfl rfl (show 4 < 6 by decide)), rfl, wish e free⟩⟩
end L2
namespace M
open PySem PySem.Spec PyProof.Rows L2
/-! ### the mirrors -/
/-- an own exception with its one field -/
def putX (c : Nat) (f : Str) (st : Store) : List D → Option (Rs D × Store)
  | [d] => if isD d = true then some (.ok (.exc c [(f, d)]), st) else none
  | _ => none
def mMkX (c : Nat) (f : Str) (ma : MA) : ME := fun env st => bnd (ma env st) fun ds st => putX c f st ds
/-- .. without __init__: nothing is told of what it is made with -/
def mMkX0 (c : Nat) : ME := fun _ st => some (.ok (.exc c []), st)
def mMkX1 (c : Nat) (me : ME) : ME := fun env st => bnd (me env st) fun _ st => some (.ok (.exc c []), st)
def gFldX (ids : List Nat) (f : Str) (_ : Store) : D → Option D
  | .exc c fs => if c ∈ ids then fs.lookup f else none
  | _ => none
def gIsX (l : List (Nat × Bool)) (_ : Store) : D → Option D
  | .exc c _ => (l.lookup c).map .bl
  | _ => none
structure KXf (G : Gb) (f : Str) (ids : List Nat) : Prop where
  xf : ∀ c ∈ ids, XfC G.K (G.cA c)
  no : ∀ c ∈ ids, PySem.W.findIn G.K (.ref (G.cA c)) f = some none
def KXi (G : Gb) (u : Value) (l : List (Nat × Bool)) : Prop := ∀ p ∈ l, ExcC G.K (G.cA p.1) ∧ PySem.W.kitOne G.K (.ref (G.cA p.1)) u = some p.2
theorem mem_of_look {l : List (Nat × Bool)} {c : Nat} {b : Bool} (h : l.lookup c = some b) : (c, b) ∈ l := by
  induction l with
  | nil => cases h
  | cons p r ih =>
    obtain ⟨k, z⟩ := p
    rw [List.lookup_cons] at h
    by_cases e : (c == k) = true
    · rw [e] at h
      cases h
      rw [eq_of_beq e]
      exact List.mem_cons_self
    · rw [Bool.not_eq_true] at e
      rw [e] at h
      exact List.mem_cons_of_mem _ (ih h)
section
variable {G : Gm} {L : Lv} {st : Store} {H : Hp}
/-- a new exception object, with its dict -/
theorem exc_new {a dx C : Addr} {f : Str} {y : V} (n1 : H a = none) (n2 : H dx = none) (ne : dx ≠ a) :
    Same H (upd (upd (upd H a (exo a C none)) dx (exd dx [(f, y)])) a (exo a C (some dx))) ∧ upd (upd (upd H a (exo a C none)) dx (exd dx [(f, y)])) a (exo a C (some dx)) a = some (exo a C (some dx)) ∧
    upd (upd (upd H a (exo a C none)) dx (exd dx [(f, y)])) a (exo a C (some dx)) dx = some (exd dx [(f, y)]) :=
  ⟨fun b o e => by rw [upd_ne (ne_of_none e n1), upd_ne (ne_of_none e n2), upd_ne (ne_of_none e n1)]; exact e, upd_same, by rw [upd_ne ne, upd_same]⟩
end
section
variable {G : Gm} {W : WX} {X : Cx} {e e2 : Expr} {es : List Expr} {kws : List Keyword} {me : ME} {ma : MA} {p pos : Pos} {x f : Str} {c k : Nat} {fI : Addr} {fd : FuncData} {ps ks : List Str}
theorem mkX_wish {L L1 : Lv} {st1 : Store} {σ : L2.St} {H H1 : Hp} {env : En} {ds : List D} {vs : List V} {r : Rs D} {st' : Store} {Q : VK} (a1 : At G L1 st1 σ env H1) (dv : Vas G.toGb L1 (off L1 H1) vs ds) (e1 : Ev L H L1 H1) (hp : RPost G.toGb W σ L H st' Q r)
    (h1 : putX c f st1 ds = some (r, st')) :
    ∃ y, vs = [y] ∧ ∀ a, H1 a = none → spXI f X.K (G.cA c) (.ref a :: vs) (upd H1 a (exo a (G.cA c) none)) (fun v H2 => v = .non ∧ Q (.ref a) H2) (fun _ _ _ => False) := by
  cases dv with
  | nil => cases h1
  | @cons y vs d ds dw rest =>
    cases rest with
    | cons _ _ => cases h1
    | nil =>
      have h2 : (if isD d = true then some (Rs.ok (D.exc c [(f, d)]), st1) else none) = some (r, st') := h1
      clear h1
      split at h2
      · rename_i pure
        cases h2
        refine ⟨y, rfl, fun a na => ⟨a, y, rfl, upd_same, fun dx ndx ne => ⟨rfl, ?_⟩⟩⟩
        rw [upd_ne ne] at ndx
        obtain ⟨same, at1, at2⟩ := exc_new (C := G.cA c) (f := f) (y := y) na ndx ne
        obtain ⟨e2, r2⟩ := same_ev a1.r same
        exact hp _ L1 _ (e1.trans e2) r2 (.d (.exc (off_of at1 (a1.r.fresh na)) (off_of at2 (a1.r.fresh ndx)) (.cons (e2.da (dw.da pure)) .nil)))
      · cases h2
theorem m_mkX {hot : M.HotK} (T : XCls X.K (G.cA c)) (iC : PySem.W.findIn X.K (.ref (G.cA c)) "__init__" = some (some (.ref fI))) (tI : PySem.W.typeIn X.K (.ref fI) = some (.type "function"))
    (F1 : FnOk X.prog X.w X.K X.mg X.base (M.Cq hot X.prog X.w) k fI fd ps (spXI f X.K (G.cA c))) (hr : Room (k + 1) X.A) (hb : Binds X.K fd ps []) (hg : Gl X x) (hm : X.mg x = some (.ref (G.cA c))) (ha : PA X (e :: es) (tMA G W ma))
    (hdb : (x == ("__debug__" : Str)) = false := by decide) (hs : starEach (e :: es) X.env = (false, eval e X.env) :: starEach es X.env := by rfl) (hpl : (backTo pos (starEach es X.env)).any (·.1) = false := by rfl) :
    PE X (.Call (.Name x p) (e :: es) [] pos) (tM G W (mMkX c f ma)) := PEimp (pe_mkX T iC tI F1 hr hb M.passQ hg hm ha hdb hs hpl) fun σ H Q q => by
  obtain ⟨L, st, env, r, st', at_, hmm, hp⟩ := q
  refine tMA_bnd at_ hmm hp.err fun ds st1 vs L1 H1 h1 e1 a1 dv => ?_
  obtain ⟨y, rfl, go⟩ := mkX_wish (X := X) a1 dv e1 hp h1
  exact ⟨(by decide : 1 ≤ 1000), go⟩
theorem m_mkXK {hot : M.HotK} (T : XCls X.K (G.cA c)) (iC : PySem.W.findIn X.K (.ref (G.cA c)) "__init__" = some (some (.ref fI))) (tI : PySem.W.typeIn X.K (.ref fI) = some (.type "function"))
    (F1 : FnOk X.prog X.w X.K X.mg X.base (M.Cq hot X.prog X.w) k fI fd ps (spXI f X.K (G.cA c))) (hr : Room (k + 1) X.A) (hb : KBn X.K fd ps 1 ks (fun us ws => us ++ ws) (fun us ws => us ++ ws)) (one : ks.length = 1) (hg : Gl X x) (hm : X.mg x = some (.ref (G.cA c)))
    (hk : PK X kws (tMA G W ma)) (all : (backToKw pos (keywordEach kws X.env)).all (·.1.isSome) = true := by rfl) (named : (backToKw pos (keywordEach kws X.env)).filterMap (·.1) = ks := by rfl)
    (plain : ((backTo pos (starEach [] X.env)).any (·.1) || (backToKw pos (keywordEach kws X.env)).any (·.1.isNone)) = false := by rfl) (ndb : (x == ("__debug__" : Str)) = false := by decide) :
    PE X (.Call (.Name x p) [] kws pos) (tM G W (mMkX c f ma)) := PEimp (pe_mkXK T iC tI F1 hr hb M.passQ hg hm hk all named plain ndb) fun σ H Q q => by
  obtain ⟨L, st, env, r, st', at_, hmm, hp⟩ := q
  refine tMA_bnd at_ hmm hp.err fun ds st1 vs L1 H1 h1 e1 a1 dv => ?_
  obtain ⟨y, rfl, go⟩ := mkX_wish (X := X) a1 dv e1 hp h1
  exact ⟨one.symm, go⟩
theorem ex0_new {L : Lv} {st : Store} {H : Hp} {a : Addr} (R : Rep G.toGb L st H) (na : H a = none) : Ev L H L (upd H a (ExO (.ref (G.cA c)) a)) ∧ Rep G.toGb L st (upd H a (ExO (.ref (G.cA c)) a)) ∧ Va G.toGb L (off L (upd H a (ExO (.ref (G.cA c)) a))) (.ref a) (.exc c []) :=
  ⟨Ev.new1 (G := G.toGb) R na, Rep.new1 R na, .d (.ex0 (Ev.off_new R na))⟩
theorem m_mkX0 {bmB : List Value} {B newId initId : String} (F : ExcBaseFacts B newId initId bmB) (q : PySem.W.excIn X.K (G.cA c) bmB newId = true) (kC : PySem.W.keepIn X.K (.ref (G.cA c)) = true) (hg : Gl X x) (hm : X.mg x = some (.ref (G.cA c))) (hdb : (x == ("__debug__" : Str)) = false := by decide) :
    PE X (.Call (.Name x p) [] [] pos) (tM G W (mMkX0 c)) := PEimp (pe_exc0 F q hm kC hg hdb) fun σ H Q z a na => by
  obtain ⟨L, st, env, r, st', at_, hmm, hp⟩ := z
  cases hmm
  obtain ⟨e1, r1, v1⟩ := ex0_new (c := c) at_.r na
  exact hp _ _ _ e1 r1 v1
theorem m_mkX1 {bmB : List Value} {B newId initId : String} (F : ExcBaseFacts B newId initId bmB) (q : PySem.W.excIn X.K (G.cA c) bmB newId = true) (kC : PySem.W.keepIn X.K (.ref (G.cA c)) = true) (hg : Gl X x) (hm : X.mg x = some (.ref (G.cA c))) (he : PE X e (tM G W me))
    (hs : starEach [e] X.env = (false, eval e X.env) :: starEach [] X.env := by rfl) (hdb : (x == ("__debug__" : Str)) = false := by decide) :
    PE X (.Call (.Name x p) [e] [] pos) (tM G W (mMkX1 c me)) := PEimp (pe_exc1 F q hm kC hg he hs hdb) fun σ H Q z => by
  obtain ⟨L, st, env, r, st', at_, hmm, hp⟩ := z
  refine tM_bnd at_ hmm hp.err fun d st1 y L1 H1 h1 e1 a1 dy a na => ?_
  cases h1
  obtain ⟨e2, r1, v1⟩ := ex0_new (c := c) a1.r na
  exact hp _ _ _ (e1.trans e2) r1 v1
theorem r1_fldX {G : Gb} {f : Str} {ids : List Nat} (T : KXf G f ids) : R1M G (rFldX G.K f) (gFldX ids f) := fun L st H x d z Q R dx hz k => by
  unfold gFldX at hz
  split at hz
  · rename_i c fs
    split at hz
    · rename_i hc
      cases dx with
      | d h =>
        cases h with
        | exc h hx r =>
          obtain ⟨v, q1, q2⟩ := DasF.look r hz
          exact ⟨_, _, _, _, v, rfl, (off_some h).1, (off_some hx).1, T.xf _ hc, T.no _ hc, q1, k v L H (Ev.refl _ _) R (.d q2)⟩
        | ex0 h => cases hz
    · cases hz
  · cases hz
theorem m_fldX {ids : List Nat} (T : KXf G.toGb f ids) (hK : G.K = X.K) (he : PE X e (tM G W me)) (hb : attributeBase e f X.env (eval e X.env) = eval e X.env := by rfl) : PE X (.Attribute e f pos) (tM G W (mUn (gFldX ids f) me)) :=
  PEimp (pe_fldX he hb) fun σ H Q q => by
    have h := t_un (r1_fldX T) q
    rw [hK] at h
    exact h
theorem r1_isX {G : Gb} {u : Value} {cv : V} {l : List (Nat × Bool)} (T : KXi G u l) : R1M G (fun x H Q => ∃ y, [x, cv] = [y, cv] ∧ rIsV G.K u y H Q) (gIsX l) := fun L st H x d z Q R dx hz k => by
  unfold gIsX at hz
  split at hz
  · rename_i c fs
    obtain ⟨b, hb, rfl⟩ := Option.map_eq_some_iff.mp hz
    obtain ⟨hc, answer⟩ := T _ (mem_of_look hb)
    refine ⟨x, rfl, ?_⟩
    cases dx with
    | d h =>
      cases h with
      | exc h hx r => exact ⟨_, _, b, rfl, hc, .inl ⟨_, _, (off_some h).1, (off_some hx).1⟩, answer, k _ L H (Ev.refl _ _) R (.d (.bl b))⟩
      | ex0 h => exact ⟨_, _, b, rfl, hc, .inr (off_some h).1, answer, k _ L H (Ev.refl _ _) R (.d (.bl b))⟩
  · cases hz
theorem m_isX {u : Value} {cv : V} {l : List (Nat × Bool)} (T : KXi G.toGb u l) (hK : G.K = X.K) (known : ∀ v, RelV cv v → v = u) (hg : Gl X "isinstance") (hm : X.mg "isinstance" = none) (he : PE X e (tM G W me)) (hc : PE X e2 (tC cv))
    (s1 : starEach [e, e2] X.env = (false, eval e X.env) :: starEach [e2] X.env := by rfl) (s2 : starEach [e2] X.env = (false, eval e2 X.env) :: starEach [] X.env := by rfl) (pl : (backTo pos (starEach [e2] X.env)).any (·.1) = false := by rfl) :
    PE X (.Call (.Name "isinstance" p) [e, e2] [] pos) (tM G W (mUn (gIsX l) me)) :=
  PEimp (pe_callB (call_isV known) hg hm (by rfl) (pa_cons he (pa_cons hc pa_nil s2) s1) (by decide +kernel) (by decide) s1 pl) fun σ H Q q => by
    have h := t_un (r1_isX (cv := cv) T) q
    rw [hK] at h
    exact h
end
end M
namespace M
open PySem
theorem kit_clsB {K : PySem.W.Frag} {C : Addr} {T : String} {b : Bool} (m : PySem.W.kitMeta T = true) (h : PySem.W.subIn K (.ref C) (.type T) = some b) : PySem.W.kitOne K (.ref C) (.type T) = some b := by
  show (if PySem.W.kitMeta T = true then PySem.W.subIn K (.ref C) (.type T) else none) = some b
  rw [if_pos m, h]
end M


/-! repr of a list of dicts (int or text keys, plain values). -/
namespace M
open PySem PySem.Spec PyProof.Rows L2
/-- items that are such dicts -/
inductive FlatDs (H : Hp) : List V → List PyData → Prop
  | nil : FlatDs H [] []
  | cons {a : Addr} {vs : List V} {kvs : List (Key × V)} {ps : List (PyData × PyData)} {ds : List PyData} (h : Rd H a (.dK kvs)) (f : FlatKs kvs ps) (r : FlatDs H vs ds) : FlatDs H (.ref a :: vs) (.dict ps :: ds)
theorem FlatDs.reads {X : Cx} {pins : List (Addr × Obj)} {σ : L2.St} {H : Hp} {s : Shared} (I : Inv X pins σ H s) : ∀ {vs : List V} {ds : List PyData} {us : List Value}, FlatDs H vs ds → Vals vs us → ∃ as, ReadsAll s.heap us ds as ∧ sysModules ∉ as
  | _, _, _, .nil, .nil => ⟨[], .nil, by simp⟩
  | _, _, _, .cons (a := a) (kvs := kvs) at_ f r, .cons e rel => by
    cases e
    obtain ⟨_, low, us, rl, dict⟩ : ObjOk X.prog X.w H s.heap a (.dK kvs) := at_.elim (fun e => I.hok a _ e) fun ⟨o, e⟩ => (I.hok a _ e).2
    have one := PyProof.V.reads_dictOf (h := s.heap) (enc := encK) (fun k key e => by
      rcases keyIs_shape e with ⟨i, t, rfl, rfl⟩ | ⟨x, t, rfl, rfl⟩
      · exact .int i t
      · exact .str x t) dict (f.reads rl)
    obtain ⟨as, more, out⟩ := FlatDs.reads I r rel
    refine ⟨_, .cons one more, fun z => ?_⟩
    rcases List.mem_append.mp z with z | z
    · rw [List.mem_singleton] at z
      subst z
      simp at low
    · exact out z
def rReprLD : List V → Hp → VK → Prop := fun xs H Q => ∃ (a : Addr) (v : V) (vs : List V) (d : PyData) (ds : List PyData), xs = [.ref a] ∧ H a = some (.lst (v :: vs)) ∧ FlatDs H (v :: vs) (d :: ds) ∧ (PyData.list (d :: ds)).showable = true ∧ (PyData.list (d :: ds)).shown.length ≤ sizeLine ∧ (PyData.list (d :: ds)).depth ≤ 8 ∧ Q (.str (PyData.list (d :: ds)).shown) H
theorem call_reprLD {X : Cx} (none_ : X.A.guards = some []) (units : X.A.units + 64 < cLine) : CallR X (.builtin "repr") rReprLD := by
  rintro pins s σ H xs us Q I r ⟨a, v, vs, d, ds, rfl, at_, flat, shows, size, deep, q⟩
  obtain ⟨u, rfl, ru⟩ := vals1 r
  obtain rfl : u = Value.ref a := ru
  obtain ⟨_, items, n, rel, obj⟩ : ObjOk X.prog X.w H s.heap a (.lst (v :: vs)) := I.hok a _ at_
  obtain ⟨as, reads, out⟩ := flat.reads I rel
  have whole : Reads s.heap (.ref a) (.list (d :: ds)) (a :: as) := .list obj rfl rfl reads
  have size2 : (listText (PyData.shownAll (d :: ds))).length ≤ sizeLine := by simpa only [PyData.shown] using size
  have deep2 : PyData.depthAll (d :: ds) + 1 ≤ 8 := by simpa only [PyData.depth] using deep
  obtain ⟨bs, most, known⟩ := ReprAllK.of_readsAll (prog := X.prog) (w := X.w) reads (by simpa [PyData.showable] using shows) (fun _ => out) fun t ht => Nat.le_trans (listText_mem_le ht) size2
  have none2 : a ∉ bs := not_mem_of_deeper whole (by simp only [PyData.depth]; omega) most
  match items, rel with
  | x :: l, _ =>
    refine call_repr_slot (by omega) ⟨_, obj, rfl⟩ F.slot_list_repr.toG (call_list_reprK obj rfl rfl none2 (by simpa using known.length_eq) (fun i y e => known.item i y (by simpa using e)) none_ (fun b _ => Clear.nil b) ?_ (fun _ _ e => e) (fun h' u tk keep => ?_) size2)
    · show X.A.units + 1 + _ < cLine
      omega
    · exact ⟨_, _, rfl, .str _, H, I.turnedL (t' := tk) (ch := []) (fun b o _ e => keep b o e) (fun b z => (nomatch z)), ⟨_, rfl⟩, by simpa only [PyData.shown] using q⟩
def flatDict : D → Bool
  | .dK kvs => kvs.all fun p => flatD p.2
  | _ => false
def dictP : D → PyData
  | .dK kvs => .dict (rowsP kvs)
  | _ => .none
def gReprX (st : Store) : List D → Option D
  | [x] => match rd st x with
    | .lst (d :: ds) => if (d :: ds).all flatDict = true then (if (PyData.list ((d :: ds).map dictP)).showable = true ∧ (PyData.list ((d :: ds).map dictP)).shown.length ≤ sizeLine ∧ (PyData.list ((d :: ds).map dictP)).depth ≤ 8 then some (.str (PyData.list ((d :: ds).map dictP)).shown) else none) else gReprK st [x]
    | _ => gReprK st [x]
  | _ => none
theorem flat_dicts {G : Gb} {H : Hp} : ∀ {ds : List D} {vs : List V}, Das G H vs ds → ds.all flatDict = true → FlatDs H vs (ds.map dictP)
  | [], _, h, _ => by cases h; exact .nil
  | d :: ds, _, h, f => by
    rw [List.all_cons, Bool.and_eq_true] at f
    cases h with
    | cons h r =>
      cases h <;> first | (cases f.1; done) | skip
      exact .cons (by assumption) (flat_das (by assumption) f.1) (flat_dicts r f.2)
theorem FlatDs.up {L : Lv} {H : Hp} : ∀ {vs : List V} {ds : List PyData}, FlatDs (off L H) vs ds → FlatDs H vs ds
  | _, _, .nil => .nil
  | _, _, .cons h f r => .cons (h.imp (fun z => (off_some z).1) fun ⟨o, z⟩ => ⟨o, (off_some z).1⟩) f r.up
theorem rc_reprX {G : Gb} : RCM G (fun xs H Q => rReprLD xs H Q ∨ (rReprK xs H Q ∨ (rReprD G.K xs H Q ∨ rRepr xs H Q))) gReprX := fun L st H xs ds z Q R dv hz k => by
  unfold gReprX at hz
  split at hz
  · rename_i x
    split at hz
    · rename_i d ds e
      split at hz
      · rename_i all
        split at hz
        · rename_i ok
          cases hz
          obtain ⟨v, rfl, hv⟩ := Das.one dv
          obtain ⟨a, vs, rfl, at_, r⟩ := rd_off R hv e
          cases r with
          | @cons v vs _ _ h r => exact .inl ⟨a, v, vs, dictP d, ds.map dictP, rfl, at_, (flat_dicts (.cons h r) all).up, ok.1, ok.2.1, ok.2.2, r_same (.str _) R k⟩
        · cases hz
      · exact .inr (rc_reprK L st H xs [x] z Q R dv hz k)
    · exact .inr (rc_reprK L st H xs [x] z Q R dv hz k)
  · cases hz
theorem call_reprXA {X : Cx} (none_ : X.A.guards = some []) (units : X.A.units + 64 < cLine) : CallR X (.builtin "repr") (fun xs H Q => rReprLD xs H Q ∨ (rReprK xs H Q ∨ (rReprD X.K xs H Q ∨ rRepr xs H Q))) := (call_reprLD none_ units).or2 (call_reprAll none_ units)
end M


namespace Own
open PySem PySem.Spec PyProof.Rows L2 M
def top (i : Nat) : Stmt := PySem.Challenge.pw_ownmarks_k01_errors.main.body.getD i (.Pass ⟨0, 0, 0, 0⟩)
abbrev s_d_law_opened : Stmt := (top 16)
abbrev names_d_law_opened : List Str := ["_law_script", "_law_k", "_law_cell", "_law_great"]
abbrev ps_d_law_opened : List Str := ["_law_script", "_law_k"]
theorem sc_d_law_opened : FnScope names_d_law_opened ps_d_law_opened (defScope s_d_law_opened) := ⟨rfl, rfl, rfl, by decide +kernel, rfl, by decide +kernel, by decide +kernel⟩
abbrev s_d_law_draw : Stmt := (top 17)
abbrev names_d_law_draw : List Str := ["_law_pool", "_law_many", "_law_found"]
abbrev ps_d_law_draw : List Str := ["_law_pool", "_law_many"]
theorem sc_d_law_draw : FnScope names_d_law_draw ps_d_law_draw (defScope s_d_law_draw) := ⟨rfl, rfl, rfl, by decide +kernel, rfl, by decide +kernel, by decide +kernel⟩
abbrev s_d_law_pick : Stmt := (top 18)
abbrev names_d_law_pick : List Str := ["_law_pool", "_law_some"]
abbrev ps_d_law_pick : List Str := ["_law_pool", "_law_some"]
theorem sc_d_law_pick : FnScope names_d_law_pick ps_d_law_pick (defScope s_d_law_pick) := ⟨rfl, rfl, rfl, by decide +kernel, rfl, by decide +kernel, by decide +kernel⟩
abbrev s_BadCrowd_new : Stmt := (inClass (top 2) 0)
abbrev names_BadCrowd_new : List Str := ["self", "part"]
abbrev ps_BadCrowd_new : List Str := ["self", "part"]
theorem sc_BadCrowd_new : FnScope names_BadCrowd_new ps_BadCrowd_new (defScope s_BadCrowd_new) := ⟨rfl, rfl, rfl, by decide +kernel, rfl, by decide +kernel, by decide +kernel⟩
abbrev s_BadPage_new : Stmt := (inClass (top 3) 0)
abbrev names_BadPage_new : List Str := ["self", "value"]
abbrev ps_BadPage_new : List Str := ["self", "value"]
theorem sc_BadPage_new : FnScope names_BadPage_new ps_BadPage_new (defScope s_BadPage_new) := ⟨rfl, rfl, rfl, by decide +kernel, rfl, by decide +kernel, by decide +kernel⟩
abbrev s_BadRule_new : Stmt := (inClass (top 4) 0)
abbrev names_BadRule_new : List Str := ["self", "part"]
abbrev ps_BadRule_new : List Str := ["self", "part"]
theorem sc_BadRule_new : FnScope names_BadRule_new ps_BadRule_new (defScope s_BadRule_new) := ⟨rfl, rfl, rfl, by decide +kernel, rfl, by decide +kernel, by decide +kernel⟩
abbrev s_BadPair_new : Stmt := (inClass (top 5) 0)
abbrev names_BadPair_new : List Str := ["self", "value"]
abbrev ps_BadPair_new : List Str := ["self", "value"]
theorem sc_BadPair_new : FnScope names_BadPair_new ps_BadPair_new (defScope s_BadPair_new) := ⟨rfl, rfl, rfl, by decide +kernel, rfl, by decide +kernel, by decide +kernel⟩
abbrev s_BadMark_new : Stmt := (inClass (top 6) 0)
abbrev names_BadMark_new : List Str := ["self", "value"]
abbrev ps_BadMark_new : List Str := ["self", "value"]
theorem sc_BadMark_new : FnScope names_BadMark_new ps_BadMark_new (defScope s_BadMark_new) := ⟨rfl, rfl, rfl, by decide +kernel, rfl, by decide +kernel, by decide +kernel⟩
abbrev s_BadArgument_new : Stmt := (inClass (top 7) 0)
abbrev names_BadArgument_new : List Str := ["self", "value"]
abbrev ps_BadArgument_new : List Str := ["self", "value"]
theorem sc_BadArgument_new : FnScope names_BadArgument_new ps_BadArgument_new (defScope s_BadArgument_new) := ⟨rfl, rfl, rfl, by decide +kernel, rfl, by decide +kernel, by decide +kernel⟩
abbrev s_BadNumber_new : Stmt := (inClass (top 8) 0)
abbrev names_BadNumber_new : List Str := ["self", "number"]
abbrev ps_BadNumber_new : List Str := ["self", "number"]
theorem sc_BadNumber_new : FnScope names_BadNumber_new ps_BadNumber_new (defScope s_BadNumber_new) := ⟨rfl, rfl, rfl, by decide +kernel, rfl, by decide +kernel, by decide +kernel⟩
abbrev s_BadChange_new : Stmt := (inClass (top 9) 0)
abbrev names_BadChange_new : List Str := ["self", "value"]
abbrev ps_BadChange_new : List Str := ["self", "value"]
theorem sc_BadChange_new : FnScope names_BadChange_new ps_BadChange_new (defScope s_BadChange_new) := ⟨rfl, rfl, rfl, by decide +kernel, rfl, by decide +kernel, by decide +kernel⟩
abbrev s_BadCommand_new : Stmt := (inClass (top 10) 0)
abbrev names_BadCommand_new : List Str := ["self", "command"]
abbrev ps_BadCommand_new : List Str := ["self", "command"]
theorem sc_BadCommand_new : FnScope names_BadCommand_new ps_BadCommand_new (defScope s_BadCommand_new) := ⟨rfl, rfl, rfl, by decide +kernel, rfl, by decide +kernel, by decide +kernel⟩
abbrev s_BadText_new : Stmt := (inClass (top 11) 0)
abbrev names_BadText_new : List Str := ["self", "line"]
abbrev ps_BadText_new : List Str := ["self", "line"]
theorem sc_BadText_new : FnScope names_BadText_new ps_BadText_new (defScope s_BadText_new) := ⟨rfl, rfl, rfl, by decide +kernel, rfl, by decide +kernel, by decide +kernel⟩
abbrev s_TooMany_new : Stmt := (inClass (top 12) 0)
abbrev names_TooMany_new : List Str := ["self", "most"]
abbrev ps_TooMany_new : List Str := ["self", "most"]
theorem sc_TooMany_new : FnScope names_TooMany_new ps_TooMany_new (defScope s_TooMany_new) := ⟨rfl, rfl, rfl, by decide +kernel, rfl, by decide +kernel, by decide +kernel⟩
abbrev s_NotThere_new : Stmt := (inClass (top 13) 0)
abbrev names_NotThere_new : List Str := ["self", "word"]
abbrev ps_NotThere_new : List Str := ["self", "word"]
theorem sc_NotThere_new : FnScope names_NotThere_new ps_NotThere_new (defScope s_NotThere_new) := ⟨rfl, rfl, rfl, by decide +kernel, rfl, by decide +kernel, by decide +kernel⟩
abbrev s_d_law_made_errors : Stmt := (top 19)
abbrev names_d_law_made_errors : List Str := ["_law_thing", "_law_found"]
abbrev ps_d_law_made_errors : List Str := ["_law_thing"]
theorem sc_d_law_made_errors : FnScope names_d_law_made_errors ps_d_law_made_errors (defScope s_d_law_made_errors) := ⟨rfl, rfl, rfl, by decide +kernel, rfl, by decide +kernel, by decide +kernel⟩
abbrev s_d_law_named_errors : Stmt := (top 20)
abbrev names_d_law_named_errors : List Str := ["_law_thing", "_law_found"]
abbrev ps_d_law_named_errors : List Str := ["_law_thing"]
theorem sc_d_law_named_errors : FnScope names_d_law_named_errors ps_d_law_named_errors (defScope s_d_law_named_errors) := ⟨rfl, rfl, rfl, by decide +kernel, rfl, by decide +kernel, by decide +kernel⟩
abbrev s_d_law_fields : Stmt := (top 21)
abbrev names_d_law_fields : List Str := ["_law_rows", "_law_found"]
abbrev ps_d_law_fields : List Str := ["_law_rows"]
theorem sc_d_law_fields : FnScope names_d_law_fields ps_d_law_fields (defScope s_d_law_fields) := ⟨rfl, rfl, rfl, by decide +kernel, rfl, by decide +kernel, by decide +kernel⟩
abbrev s_d_law_bases : Stmt := (top 23)
abbrev names_d_law_bases : List Str := ["_law_one", "_law_found"]
abbrev ps_d_law_bases : List Str := ["_law_one"]
theorem sc_d_law_bases : FnScope names_d_law_bases ps_d_law_bases (defScope s_d_law_bases) := ⟨rfl, rfl, rfl, by decide +kernel, rfl, by decide +kernel, by decide +kernel⟩
abbrev s_d_law_kinds : Stmt := (top 22)
abbrev names_d_law_kinds : List Str := ["_law_one", "_law_found"]
abbrev ps_d_law_kinds : List Str := ["_law_one"]
theorem sc_d_law_kinds : FnScope names_d_law_kinds ps_d_law_kinds (defScope s_d_law_kinds) := ⟨rfl, rfl, rfl, by decide +kernel, rfl, by decide +kernel, by decide +kernel⟩
abbrev s_law : Stmt := (top 24)
abbrev names_law : List Str := ["_law_script", "_law_k", "_law_pool", "_law_menu", "_law_thing", "_law_due", "_law_rows", "_law_at", "_law_one", "_law_where"]
abbrev ps_law : List Str := ["_law_script"]
theorem sc_law : FnScope names_law ps_law (defScope s_law) := ⟨rfl, rfl, rfl, by decide +kernel, rfl, by decide +kernel, by decide +kernel⟩
/-! ### mirrors -/
def m_d_law_opened : MS :=
  (mSeq (mAsg (mIf (mVal (mOp gLt (mVar 1) (mCB gLenA (mCons (mVar 0) mNil)))) (mOp gIx (mVar 0) (mVar 1)) (mC (.int 5))) (.nm 2))
  (mSeq (mAsg (mCB gMax2 (mCons (mCB gInt (mCons (mVar 2) mNil)) (mCons (mCB gInt (mCons (mOp gSub (mUn gNeg (mC (.int 1))) (mVar 2)) mNil)) mNil))) (.nm 3))
  (mRet (mNew (mCons (mOp gMulI (mVar 3) (mCB gInt (mCons (mOp gGe (mVar 3) (mOp gPow (mC (.int 10)) (mC (.int 18)))) mNil))) (mCons (mOp gMod (mCB gInt (mCons (mOp gMulI (mOp gAdd (mOp gAdd (mOp gMod (mVar 3) (mC (.int 2147483629))) (mOp gMulI (mC (.int 7919)) (mVar 1))) (mC (.int 17))) (mC (.int 48271))) mNil)) (mC (.int 2147483647))) mNil))))))
def c_d_law_opened : Call := mkK m_d_law_opened 4
def m_d_law_draw : MS :=
  (mSeq (mIfS (mVal (mOp gGt (mOp gIx (mVar 0) (mC (.int 0))) (mC (.int 0)))) (mSeq (mAsg (mOp gMod (mCB gInt (mCons (mOp gIx (mVar 0) (mC (.int 0))) mNil)) (mVar 1)) (.nm 2))
  (mSeq (mPut (mVar 0) (mC (.int 0)) (mOp gDiv (mOp gIx (mVar 0) (mC (.int 0))) (mVar 1)))
  (mRet (mVar 2)))) mNext)
  (mSeq (mPut (mVar 0) (mC (.int 1)) (mOp gMod (mCB gInt (mCons (mOp gAdd (mOp gMulI (mOp gIx (mVar 0) (mC (.int 1))) (mC (.int 39373))) (mC (.int 7))) mNil)) (mC (.int 2147483647))))
  (mRet (mOp gMod (mOp gDiv (mOp gMod (mCB gInt (mCons (mOp gMulI (mOp gIx (mVar 0) (mC (.int 1))) (mOp gIx (mVar 0) (mC (.int 1)))) mNil)) (mC (.int 2147483629))) (mC (.int 32))) (mVar 1)))))
def c_d_law_draw : Call := mkD m_d_law_draw 3
def m_d_law_pick : MS :=
  (mRet (mOp gIx (mVar 1) (mCall 2 c_d_law_draw (mCons (mVar 0) (mCons (mCB gLenA (mCons (mVar 1) mNil)) mNil)))))
def c_d_law_pick : Call := mkD m_d_law_pick 2
def m_d_law_made_errors : MS :=
  (mSeq (mAsg (mLst (mCons (mMkX 1 "part" (mCons (mVar 0) mNil)) (mCons (mMkX 2 "value" (mCons (mVar 0) mNil)) (mCons (mMkX 3 "part" (mCons (mVar 0) mNil)) (mCons (mMkX 4 "value" (mCons (mVar 0) mNil)) (mCons (mMkX 5 "value" (mCons (mVar 0) mNil)) (mCons (mMkX 6 "value" (mCons (mVar 0) mNil)) mNil))))))) (.nm 1))
  (mSeq (mAsg (mOp gAdd (mVar 1) (mLst (mCons (mMkX 7 "number" (mCons (mVar 0) mNil)) (mCons (mMkX 8 "value" (mCons (mVar 0) mNil)) (mCons (mMkX 9 "command" (mCons (mVar 0) mNil)) (mCons (mMkX 10 "line" (mCons (mVar 0) mNil)) mNil)))))) (.nm 1))
  (mRet (mOp gAdd (mVar 1) (mLst (mCons (mMkX 11 "most" (mCons (mVar 0) mNil)) (mCons (mMkX 12 "word" (mCons (mVar 0) mNil)) mNil)))))))
def c_d_law_made_errors : Call := mkD m_d_law_made_errors 2
def m_d_law_named_errors : MS :=
  (mSeq (mAsg (mLst (mCons (mMkX 1 "part" (mCons (mVar 0) mNil)) (mCons (mMkX 2 "value" (mCons (mVar 0) mNil)) (mCons (mMkX 3 "part" (mCons (mVar 0) mNil)) (mCons (mMkX 4 "value" (mCons (mVar 0) mNil)) mNil))))) (.nm 1))
  (mSeq (mAsg (mOp gAdd (mVar 1) (mLst (mCons (mMkX 5 "value" (mCons (mVar 0) mNil)) (mCons (mMkX 6 "value" (mCons (mVar 0) mNil)) (mCons (mMkX 7 "number" (mCons (mVar 0) mNil)) (mCons (mMkX 8 "value" (mCons (mVar 0) mNil)) mNil)))))) (.nm 1))
  (mRet (mOp gAdd (mVar 1) (mLst (mCons (mMkX 9 "command" (mCons (mVar 0) mNil)) (mCons (mMkX 10 "line" (mCons (mVar 0) mNil)) (mCons (mMkX 11 "most" (mCons (mVar 0) mNil)) (mCons (mMkX 12 "word" (mCons (mVar 0) mNil)) mNil)))))))))
def c_d_law_named_errors : Call := mkD m_d_law_named_errors 2
def m_d_law_fields : MS :=
  (mSeq (mAsg (mLst (mCons (mUn (gFldX [1, 3] "part") (mOp gIx (mVar 0) (mC (.int 0)))) (mCons (mUn (gFldX [6, 8, 5, 2, 4] "value") (mOp gIx (mVar 0) (mC (.int 1)))) (mCons (mUn (gFldX [1, 3] "part") (mOp gIx (mVar 0) (mC (.int 2)))) (mCons (mUn (gFldX [6, 8, 5, 2, 4] "value") (mOp gIx (mVar 0) (mC (.int 3)))) (mCons (mUn (gFldX [6, 8, 5, 2, 4] "value") (mOp gIx (mVar 0) (mC (.int 4)))) (mCons (mUn (gFldX [6, 8, 5, 2, 4] "value") (mOp gIx (mVar 0) (mC (.int 5)))) mNil))))))) (.nm 1))
  (mRet (mOp gAdd (mVar 1) (mLst (mCons (mUn (gFldX [7] "number") (mOp gIx (mVar 0) (mC (.int 6)))) (mCons (mUn (gFldX [6, 8, 5, 2, 4] "value") (mOp gIx (mVar 0) (mC (.int 7)))) (mCons (mUn (gFldX [9] "command") (mOp gIx (mVar 0) (mC (.int 8)))) (mCons (mUn (gFldX [10] "line") (mOp gIx (mVar 0) (mC (.int 9)))) (mCons (mUn (gFldX [11] "most") (mOp gIx (mVar 0) (mC (.int 10)))) (mCons (mUn (gFldX [12] "word") (mOp gIx (mVar 0) (mC (.int 11)))) mNil))))))))))
def c_d_law_fields : Call := mkD m_d_law_fields 2
def m_d_law_bases : MS :=
  (mSeq (mAsg (mLst (mCons (mUn (gIsX [(0, true), (1, true), (2, true), (3, true), (4, true), (5, true), (6, true), (7, true), (8, true), (9, true), (10, true), (11, false), (12, false), (13, false)]) (mVar 0)) (mCons (mUn (gIsX [(0, true), (1, true), (2, true), (3, true), (4, true), (5, true), (6, true), (7, true), (8, true), (9, true), (10, true), (11, false), (12, false), (13, false)]) (mVar 0)) (mCons (mUn (gIsX [(0, false), (1, false), (2, false), (3, false), (4, false), (5, false), (6, false), (7, false), (8, false), (9, false), (10, false), (11, true), (12, false), (13, false)]) (mVar 0)) mNil)))) (.nm 1))
  (mRet (mOp gAdd (mVar 1) (mLst (mCons (mUn (gIsX [(0, false), (1, false), (2, false), (3, false), (4, false), (5, false), (6, false), (7, false), (8, false), (9, false), (10, false), (11, false), (12, true), (13, true)]) (mVar 0)) (mCons (mUn (gIsX [(0, false), (1, false), (2, false), (3, false), (4, false), (5, false), (6, false), (7, false), (8, false), (9, false), (10, false), (11, false), (12, false), (13, true)]) (mVar 0)) mNil))))))
def c_d_law_bases : Call := mkD m_d_law_bases 2
def m_d_law_kinds : MS :=
  (mSeq (mAsg (mLst (mCons (mUn (gIsX [(1, true), (2, false), (3, false), (4, false), (5, false), (6, false), (7, false), (8, false), (9, false), (10, false), (11, false), (12, false)]) (mVar 0)) (mCons (mUn (gIsX [(1, false), (2, true), (3, false), (4, false), (5, false), (6, false), (7, false), (8, false), (9, false), (10, false), (11, false), (12, false)]) (mVar 0)) (mCons (mUn (gIsX [(1, false), (2, false), (3, true), (4, false), (5, false), (6, false), (7, false), (8, false), (9, false), (10, false), (11, false), (12, false)]) (mVar 0)) (mCons (mUn (gIsX [(1, false), (2, false), (3, false), (4, true), (5, false), (6, false), (7, false), (8, false), (9, false), (10, false), (11, false), (12, false)]) (mVar 0)) mNil))))) (.nm 1))
  (mSeq (mAsg (mOp gAdd (mVar 1) (mLst (mCons (mUn (gIsX [(1, false), (2, false), (3, false), (4, false), (5, true), (6, false), (7, false), (8, false), (9, false), (10, false), (11, false), (12, false)]) (mVar 0)) (mCons (mUn (gIsX [(1, false), (2, false), (3, false), (4, false), (5, false), (6, true), (7, false), (8, false), (9, false), (10, false), (11, false), (12, false)]) (mVar 0)) (mCons (mUn (gIsX [(1, false), (2, false), (3, false), (4, false), (5, false), (6, false), (7, true), (8, false), (9, false), (10, false), (11, false), (12, false)]) (mVar 0)) mNil))))) (.nm 1))
  (mSeq (mAsg (mOp gAdd (mVar 1) (mLst (mCons (mUn (gIsX [(1, false), (2, false), (3, false), (4, false), (5, false), (6, false), (7, false), (8, true), (9, false), (10, false), (11, false), (12, false)]) (mVar 0)) (mCons (mUn (gIsX [(1, false), (2, false), (3, false), (4, false), (5, false), (6, false), (7, false), (8, false), (9, true), (10, false), (11, false), (12, false)]) (mVar 0)) (mCons (mUn (gIsX [(1, false), (2, false), (3, false), (4, false), (5, false), (6, false), (7, false), (8, false), (9, false), (10, true), (11, false), (12, false)]) (mVar 0)) mNil))))) (.nm 1))
  (mRet (mOp gAdd (mVar 1) (mLst (mCons (mUn (gIsX [(1, false), (2, false), (3, false), (4, false), (5, false), (6, false), (7, false), (8, false), (9, false), (10, false), (11, true), (12, false)]) (mVar 0)) (mCons (mUn (gIsX [(1, false), (2, false), (3, false), (4, false), (5, false), (6, false), (7, false), (8, false), (9, false), (10, false), (11, false), (12, true)]) (mVar 0)) mNil))))))))
def c_d_law_kinds : Call := mkD m_d_law_kinds 2
def m_law_f0 : MS :=
  (mIfS (mVal (mOp gNe (mCall 1 c_d_law_kinds (mCons (mVar 8) mNil)) (mLc (mRng1 (mCons (mC (.int 12)) mNil)) (.nm 9) tYesM (mOp gEq (mVar 9) (mVar 7)) [9]))) mNever mNext)
def m_law_f1 : MS :=
  (mSeq (mIfS (mOr (mVal (mOp gNe (mCB gReprX (mCons (mCall 1 c_d_law_fields (mCons (mVar 6) mNil)) mNil)) (mCB gReprX (mCons (mOp gMulL (mLst (mCons (mVar 4) mNil)) (mC (.int 12))) mNil)))) (mVal (mOp gNe (mLc (mItL (mVar 6)) (.nm 8) tYesM (mCall 1 c_d_law_bases (mCons (mVar 8) mNil)) [8]) (mVar 5)))) mNever mNext)
  (mFor (mEnum (mVar 6)) (.tp [7, 8]) m_law_f0))
def m_law_f2 : MS :=
  (mSeq (mAsg (mCall 2 c_d_law_opened (mCons (mVar 0) (mCons (mVar 1) mNil))) (.nm 2))
  (mSeq (mAsg (mLst (mCons (mC .non) (mCons (mC (.int 0)) (mCons (mUn gNeg (mC (.int 5))) (mCons (mOp gPow (mC (.int 10)) (mC (.int 30))) (mCons (mC (.bl true)) (mCons (mC (.str "")) (mCons (mC (.str "word")) (mCons (mTup mNil) (mCons (mTup (mCons (mC (.str "a")) (mCons (mC (.int 1)) mNil))) (mCons (mLst mNil) (mCons (mLst (mCons (mLst (mCons (mC (.int 2)) mNil)) mNil)) (mCons mDNil (mCons (mDisp2 [((mC (.str "m")), (mC (.int 1)))]) mNil)))))))))))))) (.nm 3))
  (mSeq (mAsg (mCall 2 c_d_law_pick (mCons (mVar 2) (mCons (mVar 3) mNil))) (.nm 4))
  (mSeq (mAsg (mOp gMulL (mLst (mCons (mLst (mCons (mC (.bl true)) (mCons (mC (.bl true)) (mCons (mC (.bl false)) (mCons (mC (.bl false)) (mCons (mC (.bl false)) mNil)))))) mNil)) (mC (.int 10))) (.nm 5))
  (mSeq (mAsg (mOp gAdd (mVar 5) (mLst (mCons (mLst (mCons (mC (.bl false)) (mCons (mC (.bl false)) (mCons (mC (.bl true)) (mCons (mC (.bl false)) (mCons (mC (.bl false)) mNil)))))) (mCons (mLst (mCons (mC (.bl false)) (mCons (mC (.bl false)) (mCons (mC (.bl false)) (mCons (mC (.bl true)) (mCons (mC (.bl false)) mNil)))))) mNil)))) (.nm 5))
  (mSeq (mFor (mItL (mLst (mCons (mCall 1 c_d_law_made_errors (mCons (mVar 4) mNil)) (mCons (mCall 1 c_d_law_named_errors (mCons (mVar 4) mNil)) mNil)))) (.nm 6) m_law_f1)
  (mSeq (mIfS (mOr (mVal (mOp gNe (mCall 1 c_d_law_bases (mCons (mMkX0 13) mNil)) (mLst (mCons (mC (.bl false)) (mCons (mC (.bl false)) (mCons (mC (.bl false)) (mCons (mC (.bl true)) (mCons (mC (.bl true)) mNil)))))))) (mVal (mUn (gIsX [(13, false)]) (mMkX0 13)))) mNever mNext)
  (mIfS (mVal (mOp gNe (mCall 1 c_d_law_bases (mCons (mMkX1 0 (mC (.str "x"))) mNil)) (mLst (mCons (mC (.bl true)) (mCons (mC (.bl true)) (mCons (mC (.bl false)) (mCons (mC (.bl false)) (mCons (mC (.bl false)) mNil)))))))) mNever mNext))))))))
def m_law : MS :=
  (mSeq (mFor (mRng1 (mCons (mCB gMax2 (mCons (mC (.int 1)) (mCons (mCB gMin2 (mCons (mCB gLenA (mCons (mVar 0) mNil)) (mCons (mC (.int 3)) mNil))) mNil))) mNil)) (.nm 1) m_law_f2)
  (mRet (mC (.bl true))))
def c_law : Call := mkD m_law 10
end Own


namespace Own
open PySem L2 M
/-! ### drawn numbers -/
/-- the cells' references stay within the store -/
def Flat0 (st : Store) : Prop := ∀ n : Nat, st.length ≤ n → st.all (cellOk n) = true
theorem Flat0.all {st : Store} (h : Flat0 st) (n : Nat) (hn : st.length ≤ n := by simp) : st.all (cellOk n) = true := h n hn
theorem Flat0.ok {st : Store} (h : Flat0 st) : Ok st := h _ (Nat.le_refl _)
theorem Flat0.nil : Flat0 [] := fun _ _ => rfl
theorem Flat0.lst {st : Store} {xs : List D} (h : Flat0 st) : Flat0 (.lst xs :: st) := fun n hn => by
  rw [List.all_cons, h n (Nat.le_trans (Nat.le_succ _) hn)]
  rfl
theorem Flat0.dT {st : Store} {xs : List (List Key × D)} (h : Flat0 st) : Flat0 (.dT xs :: st) := fun n hn => by
  rw [List.all_cons, h n (Nat.le_trans (Nat.le_succ _) hn)]
  rfl
/-- one more object, its fields' references within the store -/
theorem Flat0.more {st : Store} {k : Nat} {fs : List (Str × D)} (h : Flat0 st) (hf : (fs.all fun p => isD p.2) = true) : Flat0 (st ++ [.ins k fs]) := fun n hn => by
  rw [List.all_append, h n (Nat.le_trans (by simp) hn)]
  simp only [Bool.true_and, List.all_cons, List.all_nil, Bool.and_true]
  unfold cellOk
  dsimp only
  rw [List.all_eq_true] at hf ⊢
  intro p hp
  have := hf p hp
  cases h2 : p.2 <;> first | rfl | (rw [h2] at this; cases this)
theorem Flat0.dead {st : Store} (h : Flat0 st) : Flat0 (.dead :: st) := fun n hn => by
  rw [List.all_cons, h n (Nat.le_trans (Nat.le_succ _) hn)]
  rfl
theorem atI_nat {xs : List D} {i : Int} (h0 : 0 ≤ i) (h1 : i < xs.length) : L2.atI xs i = xs[i.toNat]? := by
  unfold L2.atI L2.ixN
  rw [if_pos h0, if_pos h1]
  rfl
/-- a loop told by its turns -/
theorem for_list {α : Type} {n : Nat} {t : Tg} {body : MS} {f : α → D} (xs : List α) (I : List α → En → Store → Prop) {env : En} {st : Store} (h0 : I [] env st)
    (hs : ∀ (pre : List α) (x : α) (post : List α) (env : En) (st : Store), xs = pre ++ x :: post → I pre env st → ∃ env1 env2 st2, setT t (f x) env = some env1 ∧ body env1 st = some (.next, env2, st2) ∧ (st2.take n).all (cellOk n) = true ∧ I (pre ++ [x]) (trimE n env2) (st2.take n)) :
    ∃ env' st', forD n t body (xs.map f) env st = some (.next, env', st') ∧ I xs env' st' := by
  have key : ∀ (post pre : List α) (env : En) (st : Store), xs = pre ++ post → I pre env st → ∃ env' st', forD n t body (post.map f) env st = some (.next, env', st') ∧ I xs env' st' := by
    intro post
    induction post with
    | nil =>
      intro pre env st e h
      rw [List.append_nil] at e
      exact ⟨env, st, rfl, e ▸ h⟩
    | cons x post ih =>
      intro pre env st e h
      obtain ⟨env1, env2, st2, h1, h2, h3, h4⟩ := hs pre x post env st e h
      obtain ⟨env', st', h5, h6⟩ := ih (pre ++ [x]) _ _ (by rw [e, List.append_assoc]; rfl) h4
      refine ⟨env', st', ?_, h6⟩
      rw [List.map_cons]
      unfold forD
      rw [h1]
      dsimp only
      rw [h2]
      dsimp only
      rw [if_pos h3, h5]
  exact key xs [] env st rfl h0
theorem v_put {mo mi mv : ME} {env : En} {st st1 st2 st3 st4 : Store} {o i v : D} (hv : mv env st = some (.ok v, st1)) (ho : mo env st1 = some (.ok o, st2)) (hi : mi env st2 = some (.ok i, st3)) (hg : gPut st3 o i v = some st4) : mPut mo mi mv env st = some (.next, env, st4) := by
  unfold mPut
  rw [hv, bndS_ok, ho, bndS_ok, hi, bndS_ok, hg]
theorem v_mul {env : En} {st st1 st2 : Store} {ma mb : ME} {i j : Int} (h1 : ma env st = some (.ok (.int i), st1)) (h2 : mb env st1 = some (.ok (.int j), st2)) (hc : CMul i j) : mOp gMulI ma mb env st = some (.ok (.int (i * j)), st2) :=
  v_op h1 h2 (if_pos hc)
theorem v_mod {env : En} {st st1 st2 : Store} {ma mb : ME} {i j : Int} (h1 : ma env st = some (.ok (.int i), st1)) (h2 : mb env st1 = some (.ok (.int j), st2)) (hc : 0 < j) : mOp gMod ma mb env st = some (.ok (.int (i % j)), st2) :=
  v_op h1 h2 (if_pos hc)
theorem v_div {env : En} {st st1 st2 : Store} {ma mb : ME} {i j : Int} (h1 : ma env st = some (.ok (.int i), st1)) (h2 : mb env st1 = some (.ok (.int j), st2)) (hc : CDiv i j) : mOp gDiv ma mb env st = some (.ok (.int (i / j)), st2) :=
  v_op h1 h2 (if_pos hc)
theorem v_pow {env : En} {st st1 st2 : Store} {ma mb : ME} {i j : Int} (h1 : ma env st = some (.ok (.int i), st1)) (h2 : mb env st1 = some (.ok (.int j), st2)) (hc : CPow i j) : mOp gPow ma mb env st = some (.ok (.int (i ^ j.toNat)), st2) :=
  v_op h1 h2 (if_pos hc)
theorem v_int {env : En} {st st1 : Store} {ma : ME} {i : Int} (h : ma env st = some (.ok (.int i), st1)) : mCB gInt (mCons ma mNil) env st = some (.ok (.int i), st1) := v_cb (v_cons h rfl) rfl
theorem mul_r {i j : Int} (h1 : -(2 ^ 64) < j) (h2 : j < 2 ^ 64) : CMul i j := .inr ⟨h1, h2⟩
theorem mul_l {i j : Int} (h1 : -(2 ^ 64) < i) (h2 : i < 2 ^ 64) : CMul i j := .inl ⟨h1, h2⟩
abbrev pool (a b : Int) (rest : Store) : Store := .lst [.int a, .int b] :: rest
/-- what stands behind the pool -/
def Behind (rest : Store) : Prop := rest.all (cellOk (rest.length + 1)) = true
theorem Behind.ok {rest : Store} (h : Behind rest) (a b : Int) : Ok (pool a b rest) := by
  unfold Ok
  rw [List.all_cons]
  exact h
theorem Plain.behind {rest : Store} (h : Plain rest) : Behind rest := h.ok _
theorem Flat0.behind {rest : Store} (h : Flat0 rest) : Behind rest := h.all _
theorem mkD_ret2 {m : MS} {k : Nat} {ds : List D} {st st' : Store} {d : D} {env' : En} (h : m (startE k ds) st = some (.ret d, env', st')) (hl : st'.length = st.length) (hs : Ok st') (hd : isD d = true) : mkD m k ds st = some (.ok d, st') := by
  unfold mkD
  rw [h]
  dsimp only
  rw [← hl, fin_data hs hd]
theorem draw_ok {a b many : Int} {rest : Store} (hp : Behind rest) (h0 : 0 < many) (h1 : many < 1073741824) : ∃ r a' b', c_d_law_draw [.ref 0, .int many] (pool a b rest) = some (.ok (.int r), pool a' b' rest) ∧ 0 ≤ r ∧ r < many := by
  have ix0 : ∀ (env : En) (a b : Int), env[0]? = some (some (.ref 0)) → mOp gIx (mVar 0) (mC (.int 0)) env (pool a b rest) = some (.ok (.int a), pool a b rest) := fun env a b he => v_op (v_var he) rfl rfl
  have ix1 : ∀ (env : En) (a b : Int), env[0]? = some (some (.ref 0)) → mOp gIx (mVar 0) (mC (.int 1)) env (pool a b rest) = some (.ok (.int b), pool a b rest) := fun env a b he => v_op (v_var he) rfl rfl
  have hv : ∀ (env : En), env[0]? = some (some (.ref 0)) → mVal (mOp gGt (mOp gIx (mVar 0) (mC (.int 0))) (mC (.int 0))) env (pool a b rest) = some (.ok (decide (0 < a)), pool a b rest) := fun env he => v_val (v_op (ix0 env a b he) rfl rfl)
  by_cases ha : 0 < a
  · refine ⟨a % many, a / many, b, ?_, Int.emod_nonneg _ (by omega), Int.emod_lt_of_pos _ h0⟩
    refine mkD_ret2 (env' := [some (.ref 0), some (.int many), some (.int (a % many))]) ?_ rfl (hp.ok _ _) rfl
    show m_d_law_draw [some (.ref 0), some (.int many), none] _ = _
    unfold m_d_law_draw
    have ht := hv [some (.ref 0), some (.int many), none] rfl
    rw [decide_eq_true ha] at ht
    unfold mSeq
    rw [v_ifT ht]
    rw [show (mAsg (mOp gMod (mCB gInt (mCons (mOp gIx (mVar 0) (mC (.int 0))) mNil)) (mVar 1)) (.nm 2)) [some (.ref 0), some (.int many), none] (pool a b rest) = some (.next, [some (.ref 0), some (.int many), some (.int (a % many))], pool a b rest) from v_asg (v_mod (v_int (ix0 _ a b rfl)) (v_var rfl) h0)]
    dsimp only
    rw [v_put (v_div (ix0 _ a b rfl) (v_var rfl) ⟨h0, h1⟩) (v_var rfl) rfl rfl]
    rfl
  · let b' := (b * 39373 + 7) % 2147483647
    have hb1 : 0 ≤ b' := Int.emod_nonneg _ (by decide)
    have hb2 : b' < 2147483647 := Int.emod_lt_of_pos _ (by decide)
    refine ⟨b' * b' % 2147483629 / 32 % many, a, b', ?_, Int.emod_nonneg _ (by omega), Int.emod_lt_of_pos _ h0⟩
    refine mkD_ret2 (env' := [some (.ref 0), some (.int many), none]) ?_ rfl (hp.ok _ _) rfl
    show m_d_law_draw [some (.ref 0), some (.int many), none] _ = _
    unfold m_d_law_draw
    have ht := hv [some (.ref 0), some (.int many), none] rfl
    rw [decide_eq_false ha] at ht
    rw [v_seq (env1 := [some (.ref 0), some (.int many), none]) (st1 := pool a b rest) (by rw [v_ifF ht]; rfl)]
    rw [v_seq (env1 := [some (.ref 0), some (.int many), none]) (st1 := pool a b' rest) (v_put (v := .int b') (v_mod (v_int (v_op (v_mul (ix1 _ a b rfl) rfl (mul_r (by decide) (by decide))) rfl rfl)) rfl (by decide)) (v_var rfl) rfl rfl)]
    refine v_ret (v_mod (v_div (v_mod (v_int (v_mul (ix1 _ a b' rfl) (ix1 _ a b' rfl) (mul_l (by omega) (by omega)))) rfl (by decide)) rfl ⟨by decide, by decide⟩) (v_var rfl) h0)

theorem opened_ok {ns : List Int} {k : Nat} {st : Store} (hk : k < 100) : ∃ a b, c_d_law_opened [.ro (ns.map D.int), .int (k : Int)] st = some (.ok (.ref st.length), st ++ [.lst [.int a, .int b]]) := by
  have hcell : ∃ cell : Int, mIf (mVal (mOp gLt (mVar 1) (mCB gLenA (mCons (mVar 0) mNil)))) (mOp gIx (mVar 0) (mVar 1)) (mC (.int 5)) [some (.ro (ns.map D.int)), some (.int (k : Int)), none, none] st = some (.ok (.int cell), st) := by
    have hlt : mVal (mOp gLt (mVar 1) (mCB gLenA (mCons (mVar 0) mNil))) [some (.ro (ns.map D.int)), some (.int (k : Int)), none, none] st = some (.ok (decide ((k : Int) < ((ns.map D.int).length : Int))), st) :=
      v_val (v_op (v_var rfl) (v_cb (v_cons (v_var rfl) rfl) rfl) rfl)
    unfold mIf
    rw [hlt, bnd_ok]
    by_cases h : k < ns.length
    · rw [decide_eq_true (by rw [List.length_map]; omega), if_pos rfl]
      refine ⟨ns[k], v_op (v_var rfl) (v_var rfl) ?_⟩
      show atI (ns.map D.int) (k : Int) = _
      unfold atI ixN
      rw [if_pos (by omega), if_pos (by rw [List.length_map]; omega)]
      simp [List.getElem?_eq_getElem h]
    · rw [decide_eq_false (by rw [List.length_map]; omega), if_neg Bool.false_ne_true]
      exact ⟨5, rfl⟩
  obtain ⟨cell, hcell⟩ := hcell
  let g : Int := if -1 - cell > cell then -1 - cell else cell
  have hsq : 0 ≤ g % 2147483629 ∧ g % 2147483629 < 2147483629 := ⟨Int.emod_nonneg _ (by decide), Int.emod_lt_of_pos _ (by decide)⟩
  refine ⟨g * (if decide ((10 : Int) ^ (18 : Int).toNat ≤ g) then 1 else 0), ((g % 2147483629 + 7919 * (k : Int) + 17) * 48271) % 2147483647, ?_⟩
  unfold c_d_law_opened mkK
  have hm : m_d_law_opened (startE 4 [.ro (ns.map D.int), .int (k : Int)]) st = some (.ret (.ref st.length), [some (.ro (ns.map D.int)), some (.int (k : Int)), some (.int cell), some (.int g)], st ++ [.lst [.int (g * (if decide ((10 : Int) ^ (18 : Int).toNat ≤ g) then 1 else 0)), .int (((g % 2147483629 + 7919 * (k : Int) + 17) * 48271) % 2147483647)]]) := by
    show m_d_law_opened [some (.ro (ns.map D.int)), some (.int (k : Int)), none, none] st = _
    unfold m_d_law_opened
    rw [v_seq (env1 := [some (.ro (ns.map D.int)), some (.int (k : Int)), some (.int cell), none]) (st1 := st) (v_asg hcell)]
    rw [v_seq (env1 := [some (.ro (ns.map D.int)), some (.int (k : Int)), some (.int cell), some (.int g)]) (st1 := st) (v_asg (v_cb (v_cons (v_int (v_var rfl)) (v_cons (v_int (v_op (v_un rfl rfl) (v_var rfl) rfl)) rfl)) rfl))]
    refine v_ret ?_
    unfold mNew
    have hpow : mOp gPow (mC (.int 10)) (mC (.int 18)) [some (.ro (ns.map D.int)), some (.int (k : Int)), some (.int cell), some (.int g)] st = some (.ok (.int ((10 : Int) ^ (18 : Int).toNat)), st) :=
      v_pow rfl rfl ⟨by decide, by decide, by decide⟩
    rw [v_cons (v_mul (j := if decide ((10 : Int) ^ (18 : Int).toNat ≤ g) then 1 else 0) (v_var rfl) (v_cb (v_cons (v_op (v_var rfl) hpow rfl) rfl) rfl) (mul_r (by split <;> decide) (by split <;> decide)))
      (v_cons (v_mod (v_int (v_mul (v_op (v_op (v_mod (v_var rfl) rfl (by decide)) (v_mul rfl (v_var rfl) (mul_l (by decide) (by decide))) rfl) rfl rfl) rfl (mul_r (by decide) (by decide)))) rfl (by decide)) rfl), bnd_ok]
    rfl
  rw [hm]

end Own


namespace Own
open PySem PySem.Spec L2 M
theorem v_mkX {c : Nat} {f : Str} {ma : MA} {env : En} {st st1 : Store} {d : D} (h : ma env st = some (.ok [d], st1)) (hd : isD d = true) : mMkX c f ma env st = some (.ok (.exc c [(f, d)]), st1) := by
  unfold mMkX
  rw [h, bnd_ok]
  show (if isD d = true then _ else none) = _
  rw [if_pos hd]
theorem v_addL {ma mb : ME} {env : En} {st st1 st2 : Store} {xs ys : List D} (h1 : ma env st = some (.ok (.lst xs), st1)) (h2 : mb env st1 = some (.ok (.lst ys), st2)) (hl : xs.length + ys.length ≤ 1000 := by simp) : mOp gAdd ma mb env st = some (.ok (.lst (xs ++ ys)), st2) :=
  v_op h1 h2 (if_pos (by unfold big; omega))
theorem v_l {ma : MA} {env : En} {st st1 : Store} {ds : List D} (h : ma env st = some (.ok ds, st1)) (hl : ds.length ≤ 1000 := by simp) (hd : ds.all isD = true := by rfl) : mLst ma env st = some (.ok (.lst ds), st1) := v_lst h ⟨by unfold big; omega, hd⟩
abbrev ex (t : D) (c : Nat) (f : Str) : D := .exc c [(f, t)]
abbrev madeR (t : D) : List D := [ex t 1 "part", ex t 2 "value", ex t 3 "part", ex t 4 "value", ex t 5 "value", ex t 6 "value", ex t 7 "number", ex t 8 "value", ex t 9 "command", ex t 10 "line", ex t 11 "most", ex t 12 "word"]
section
variable {t : D} {st : Store}
theorem made_ok (ht : isD t = true) (hs : Ok st) : c_d_law_made_errors [t] st = some (.ok (.lst (madeR t)), st) := by
  have k : ∀ {env : En} {c : Nat} {f : Str}, env[0]? = some (some t) → mMkX c f (mCons (mVar 0) mNil) env st = some (.ok (ex t c f), st) := fun he => v_mkX (v_cons (v_var he) rfl) ht
  refine fn_ret (env' := [some t, some (.lst ((madeR t).take 10))]) ?_ hs rfl
  show m_d_law_made_errors [some t, none] st = _
  unfold m_d_law_made_errors
  rw [v_seq (v_asg (v_l (v_cons (k rfl) (v_cons (k rfl) (v_cons (k rfl) (v_cons (k rfl) (v_cons (k rfl) (v_cons (k rfl) rfl)))))))),
    v_seq (v_asg (v_addL (v_var rfl) (v_l (v_cons (k rfl) (v_cons (k rfl) (v_cons (k rfl) (v_cons (k rfl) rfl)))))))]
  exact (v_ret (v_addL (v_var rfl) (v_l (v_cons (k rfl) (v_cons (k rfl) rfl))))).trans rfl
theorem named_ok (ht : isD t = true) (hs : Ok st) : c_d_law_named_errors [t] st = some (.ok (.lst (madeR t)), st) := by
  have k : ∀ {env : En} {c : Nat} {f : Str}, env[0]? = some (some t) → mMkX c f (mCons (mVar 0) mNil) env st = some (.ok (ex t c f), st) := fun he => v_mkX (v_cons (v_var he) rfl) ht
  refine fn_ret (env' := [some t, some (.lst ((madeR t).take 8))]) ?_ hs rfl
  show m_d_law_named_errors [some t, none] st = _
  unfold m_d_law_named_errors
  rw [v_seq (v_asg (v_l (v_cons (k rfl) (v_cons (k rfl) (v_cons (k rfl) (v_cons (k rfl) rfl)))))),
    v_seq (v_asg (v_addL (v_var rfl) (v_l (v_cons (k rfl) (v_cons (k rfl) (v_cons (k rfl) (v_cons (k rfl) rfl)))))))]
  exact (v_ret (v_addL (v_var rfl) (v_l (v_cons (k rfl) (v_cons (k rfl) (v_cons (k rfl) (v_cons (k rfl) rfl))))))).trans rfl
theorem fields_ok (ht : isD t = true) (hs : Ok st) : c_d_law_fields [.lst (madeR t)] st = some (.ok (.lst (List.replicate 12 t)), st) := by
  have k : ∀ {env : En} {ids : List Nat} {f : Str} {i : Int} {x : D}, env[0]? = some (some (.lst (madeR t))) → L2.atI (madeR t) i = some x → gFldX ids f st x = some t → mUn (gFldX ids f) (mOp gIx (mVar 0) (mC (.int i))) env st = some (.ok t, st) := fun he h1 h2 => v_un (v_op (v_var he) rfl h1) h2
  have six : ([t, t, t, t, t, t] : List D).all isD = true := by simp [ht]
  refine fn_ret (env' := [some (.lst (madeR t)), some (.lst [t, t, t, t, t, t])]) ?_ hs rfl
  show m_d_law_fields [some (.lst (madeR t)), none] st = _
  unfold m_d_law_fields
  rw [v_seq (v_asg (v_l (v_cons (k rfl rfl rfl) (v_cons (k rfl rfl rfl) (v_cons (k rfl rfl rfl) (v_cons (k rfl rfl rfl) (v_cons (k rfl rfl rfl) (v_cons (k rfl rfl rfl) rfl)))))) (hd := six)))]
  exact (v_ret (v_addL (v_var rfl) (v_l (v_cons (k rfl rfl rfl) (v_cons (k rfl rfl rfl) (v_cons (k rfl rfl rfl) (v_cons (k rfl rfl rfl) (v_cons (k rfl rfl rfl) (v_cons (k rfl rfl rfl) rfl)))))) (hd := six)))).trans rfl
/-- the bases of a class, by its number -/
def baseB (c : Nat) : List Bool := if c ≤ 10 then [true, true, false, false, false] else if c = 11 then [false, false, true, false, false] else if c = 12 then [false, false, false, true, false] else [false, false, false, true, true]
theorem lt14 {c : Nat} (h : c < 14) : c = 0 ∨ c = 1 ∨ c = 2 ∨ c = 3 ∨ c = 4 ∨ c = 5 ∨ c = 6 ∨ c = 7 ∨ c = 8 ∨ c = 9 ∨ c = 10 ∨ c = 11 ∨ c = 12 ∨ c = 13 := by omega
theorem bases_ok {c : Nat} {fs : List (Str × D)} (hc : c < 14) (hs : Ok st) : c_d_law_bases [.exc c fs] st = some (.ok (.lst ((baseB c).map D.bl)), st) := by
  refine fn_ret (env' := [some (.exc c fs), some (.lst (((baseB c).take 3).map D.bl))]) ?_ hs rfl
  show m_d_law_bases [some (.exc c fs), none] st = _
  unfold m_d_law_bases
  rcases lt14 hc with rfl | rfl | rfl | rfl | rfl | rfl | rfl | rfl | rfl | rfl | rfl | rfl | rfl | rfl <;>
  · rw [v_seq (v_asg (v_l (v_cons (v_un (v_var rfl) rfl) (v_cons (v_un (v_var rfl) rfl) (v_cons (v_un (v_var rfl) rfl) rfl)))))]
    exact (v_ret (v_addL (v_var rfl) (v_l (v_cons (v_un (v_var rfl) rfl) (v_cons (v_un (v_var rfl) rfl) rfl))))).trans rfl
theorem kinds_ok {c : Nat} {fs : List (Str × D)} (h0 : 1 ≤ c) (h1 : c < 13) (hs : Ok st) : c_d_law_kinds [.exc c fs] st = some (.ok (.lst ((List.range 12).map fun i => D.bl (decide (i + 1 = c)))), st) := by
  refine fn_ret (env' := [some (.exc c fs), some (.lst ((List.range 10).map fun i => D.bl (decide (i + 1 = c))))]) ?_ hs rfl
  show m_d_law_kinds [some (.exc c fs), none] st = _
  unfold m_d_law_kinds
  rcases lt14 (Nat.lt_trans h1 (by decide)) with rfl | rfl | rfl | rfl | rfl | rfl | rfl | rfl | rfl | rfl | rfl | rfl | rfl | rfl
  · omega
  case inr.inr.inr.inr.inr.inr.inr.inr.inr.inr.inr.inr.inr => omega
  all_goals
  · rw [v_seq (v_asg (v_l (v_cons (v_un (v_var rfl) rfl) (v_cons (v_un (v_var rfl) rfl) (v_cons (v_un (v_var rfl) rfl) (v_cons (v_un (v_var rfl) rfl) rfl)))))),
      v_seq (v_asg (v_addL (v_var rfl) (v_l (v_cons (v_un (v_var rfl) rfl) (v_cons (v_un (v_var rfl) rfl) (v_cons (v_un (v_var rfl) rfl) rfl)))))),
      v_seq (v_asg (v_addL (v_var rfl) (v_l (v_cons (v_un (v_var rfl) rfl) (v_cons (v_un (v_var rfl) rfl) (v_cons (v_un (v_var rfl) rfl) rfl))))))]
    exact (v_ret (v_addL (v_var rfl) (v_l (v_cons (v_un (v_var rfl) rfl) (v_cons (v_un (v_var rfl) rfl) rfl))))).trans rfl
end
/-! ### the thing -/
abbrev things : List D := [.non, .int 0, .int (-5), .int (10 ^ 30), .bl true, .str "", .str "word", .tup [], .tup [.str "a", .int 1], .lst [], .lst [.lst [.int 2]], .dK [], .dK [(.inr "m", .int 1)]]
def plainOk (x : D) : Prop := isSq x = true ∧ okD 8 x = true ∧ (py x).showable = true ∧ (py x).hasDict = false ∧ (py x).shown.length ≤ sizeLine
theorem shown_plain {st : Store} {d : D} {ds : List D} (h1 : (d :: ds).all flatDict = false) (h2 : plainOk (.lst (d :: ds))) : gReprX st [.lst (d :: ds)] = some (.str (py (.lst (d :: ds))).shown) := by
  show (if (d :: ds).all flatDict = true then _ else gReprK st [.lst (d :: ds)]) = _
  rw [h1, if_neg Bool.false_ne_true]
  exact if_pos h2
def dictOk (ds : List D) : Prop := (PyData.list (ds.map dictP)).showable = true ∧ (PyData.list (ds.map dictP)).shown.length ≤ sizeLine ∧ (PyData.list (ds.map dictP)).depth ≤ 8
theorem shown_dict {st : Store} {d : D} {ds : List D} (h1 : (d :: ds).all flatDict = true) (h2 : dictOk (d :: ds)) : gReprX st [.lst (d :: ds)] = some (.str (PyData.list ((d :: ds).map dictP)).shown) := by
  show (if (d :: ds).all flatDict = true then (if _ then _ else _) else _) = _
  rw [if_pos h1]
  exact if_pos h2
instance {x : D} : Decidable (plainOk x) := by unfold plainOk; infer_instance
instance {ds : List D} : Decidable (dictOk ds) := by unfold dictOk; infer_instance
theorem thing_shown {t : D} (h : t ∈ things) : ∃ x, (∀ st, gReprX st [.lst (List.replicate 12 t)] = some (.str x)) ∧ okD 8 (.str x) = true := by
  simp only [things, List.mem_cons, List.not_mem_nil, or_false] at h
  rcases h with rfl | rfl | rfl | rfl | rfl | rfl | rfl | rfl | rfl | rfl | rfl | rfl | rfl
  case inr.inr.inr.inr.inr.inr.inr.inr.inr.inr.inr.inl => exact ⟨_, fun st => shown_dict rfl (by decide +kernel), by decide +kernel⟩
  case inr.inr.inr.inr.inr.inr.inr.inr.inr.inr.inr.inr => exact ⟨_, fun st => shown_dict rfl (by decide +kernel), by decide +kernel⟩
  all_goals exact ⟨_, fun st => shown_plain rfl (by decide +kernel), by decide +kernel⟩
theorem thing_data {t : D} (h : t ∈ things) : isD t = true := by
  simp only [things, List.mem_cons, List.not_mem_nil, or_false] at h
  rcases h with rfl | rfl | rfl | rfl | rfl | rfl | rfl | rfl | rfl | rfl | rfl | rfl | rfl <;> rfl
theorem pick_ok {a b : Int} {rest : Store} {xs : List D} (hp : Behind rest) (h0 : xs ≠ []) (h1 : xs.length < 1000) (hd : xs.all isD = true) : ∃ x a' b', x ∈ xs ∧ c_d_law_pick [.ref 0, .lst xs] (pool a b rest) = some (.ok x, pool a' b' rest) := by
  have pos : 0 < xs.length := List.length_pos_iff.mpr h0
  obtain ⟨r, a', b', e, r0, r1⟩ := draw_ok (a := a) (b := b) (many := (xs.length : Int)) hp (by omega) (by omega)
  have hi : r.toNat < xs.length := by omega
  refine ⟨xs[r.toNat], a', b', List.getElem_mem hi, ?_⟩
  refine mkD_ret2 (env' := [some (.ref 0), some (.lst xs)]) ?_ rfl (hp.ok _ _) (List.all_eq_true.mp hd _ (List.getElem_mem hi))
  show m_d_law_pick [some (.ref 0), some (.lst xs)] _ = _
  unfold m_d_law_pick
  refine v_ret (v_op (v_var rfl) (v_call (v_cons (v_var rfl) (v_cons (v_cb (v_cons (v_var rfl) rfl) rfl) rfl)) rfl e) ?_)
  show L2.atI xs r = _
  rw [atI_nat r0 (by omega)]
  exact List.getElem?_eq_getElem hi
end Own


namespace Own
open PySem PySem.Spec PyProof.Rows L2 M
theorem ne_lists {st : Store} {xs : List D} (h : okD 8 (.lst xs) = true) : gNe st (.lst xs) (.lst xs) = some (.bl false) := by
  show (if okD 8 (.lst xs) = true ∧ okD 8 (.lst xs) = true then some (D.bl (!eqvD (.lst xs) (.lst xs))) else none) = _
  rw [if_pos ⟨h, h⟩, eqvD_refl 8 _ h]
  rfl
theorem times12 {st : Store} {t : D} : gMulL st (.lst [t]) (.int 12) = some (.lst (List.replicate 12 t)) := by
  unfold gMulL
  show (if -(2 ^ 63) ≤ (12 : Int) ∧ (12 : Int) < 2 ^ 63 ∧ [t].length * (12 : Int).toNat ≤ big then some (D.lst (List.replicate (12 : Int).toNat [t]).flatten) else none) = _
  rw [if_pos ⟨by decide, by decide, by show 1 * 12 ≤ big; unfold big; decide⟩]
  rfl
abbrev at12 (t : D) (i : Nat) : D := (madeR t).getD i .non
theorem at12_is {t : D} {i : Nat} (h : i < 12) : ∃ fs, at12 t i = .exc (i + 1) fs := by
  rcases (by omega : i = 0 ∨ i = 1 ∨ i = 2 ∨ i = 3 ∨ i = 4 ∨ i = 5 ∨ i = 6 ∨ i = 7 ∨ i = 8 ∨ i = 9 ∨ i = 10 ∨ i = 11) with rfl | rfl | rfl | rfl | rfl | rfl | rfl | rfl | rfl | rfl | rfl | rfl <;> exact ⟨_, rfl⟩
abbrev dueR : List D := (List.range 12).map fun i => D.lst ((baseB (i + 1)).map D.bl)
abbrev E (s : D) (k : Int) (o2 o3 o4 o5 o6 o7 o8 : Option D) : En := [some s, some (.int k), o2, o3, o4, o5, o6, o7, o8, none]
/-- nothing that is trimmed -/
def Fix (o : Option D) : Prop := ∀ n : Nat, trimO n o = o
section
variable {ns : List Int} {t : D} {k : Int} {a b : Int} {o2 o3 o4 o5 o6 o7 o8 : Option D}
/-- the kinds of one row -/
theorem f0_ok {s : D} {st : Store} {i : Nat} (hi : i < 12) (hs : Ok st) : m_law_f0 (E s k o2 o3 o4 o5 o6 (some (.int (i : Nat))) (some (at12 t i))) st = some (.next, E s k o2 o3 o4 o5 o6 (some (.int (i : Nat))) (some (at12 t i)), st) := by
  obtain ⟨fs, e⟩ := at12_is (t := t) hi
  rw [e]
  have hr : mRng1 (mCons (mC (.int 12)) mNil) (E s k o2 o3 o4 o5 o6 (some (.int (i : Nat))) (some (.exc (i + 1) fs))) st = some (.ok ((List.range 12).map fun j => D.int (j : Nat)), st) := by
    rw [e_rng1]
    show rngK (.int 12) st = _
    exact e_rngK (by decide) (by decide)
  have h2 := lc_map (t := .nm 9) (me := mOp gEq (mVar 9) (mVar 7)) (vs := [9]) (List.range 12) (fun j => D.int (j : Nat)) (fun j => D.bl (decide (j + 1 = i + 1))) hr (by rw [List.length_range]; decide) fun j hj => by
    refine ⟨_, rfl, v_op (v_var rfl) (v_var rfl) ?_, rfl⟩
    show gEq st (.int (j : Nat)) (.int (i : Nat)) = _
    rw [e_eqInt]
    congr 2
    exact decide_eq_decide.mpr ⟨fun h => by omega, fun h => by omega⟩
  refine v_ifF (v_val (v_op (v_call (v_cons (v_var rfl) rfl) rfl (kinds_ok (by omega) (by omega) hs)) h2 (ne_lists rfl)))
abbrev sc (ns : List Int) : D := .ro (ns.map D.int)
abbrev F (ns : List Int) (k : Int) (t : D) (o6 o7 o8 : Option D) : En := E (sc ns) k (some (.ref 0)) (some (.lst things)) (some t) (some (.lst dueR)) o6 o7 o8
theorem trimF (ht : isD t = true) {o6 o7 o8 : Option D} (h6 : Fix o6) (h7 : Fix o7) (h8 : Fix o8) : trimE 1 (F ns k t o6 o7 o8) = F ns k t o6 o7 o8 := by
  have h4 : trimO 1 (some t) = some t := by cases t <;> first | rfl | cases ht
  show [trimO 1 (some (sc ns)), trimO 1 (some (.int k)), trimO 1 (some (.ref 0)), trimO 1 (some (.lst things)), trimO 1 (some t), trimO 1 (some (.lst dueR)), trimO 1 o6, trimO 1 o7, trimO 1 o8, trimO 1 none] = _
  rw [h4, h6, h7, h8]
  rfl
theorem f1_ok (ht : t ∈ things) (h7 : Fix o7) (h8 : Fix o8) : ∃ p7 p8, Fix p7 ∧ Fix p8 ∧ m_law_f1 (F ns k t (some (.lst (madeR t))) o7 o8) (pool a b []) = some (.next, F ns k t (some (.lst (madeR t))) p7 p8, pool a b []) := by
  have hs : Ok (pool a b []) := rfl
  obtain ⟨x, hx, ox⟩ := thing_shown ht
  have data := thing_data ht
  have t1 : mVal (mOp gNe (mCB gReprX (mCons (mCall 1 c_d_law_fields (mCons (mVar 6) mNil)) mNil)) (mCB gReprX (mCons (mOp gMulL (mLst (mCons (mVar 4) mNil)) (mC (.int 12))) mNil))) (F ns k t (some (.lst (madeR t))) o7 o8) (pool a b []) = some (.ok false, pool a b []) :=
    v_val (v_op (v_cb (v_cons (v_call (v_cons (v_var rfl) rfl) rfl (fields_ok data hs)) rfl) (hx _)) (v_cb (v_cons (v_op (v_l (v_cons (v_var rfl) rfl) (hd := by rw [List.all_cons, data]; rfl)) rfl times12) rfl) (hx _)) (ne_same ox (Nat.le_refl _)))
  have t2 := lc_map (t := .nm 8) (me := mCall 1 c_d_law_bases (mCons (mVar 8) mNil)) (vs := [8]) (env := F ns k t (some (.lst (madeR t))) o7 o8) (st := pool a b []) (mi := mItL (mVar 6)) (List.range 12) (at12 t) (fun i => D.lst ((baseB (i + 1)).map D.bl)) rfl (by rw [List.length_range]; decide) fun i hi => by
    have hi := List.mem_range.mp hi
    obtain ⟨fs, e⟩ := at12_is (t := t) hi
    rw [e]
    refine ⟨_, rfl, v_call (v_cons (v_var rfl) rfl) rfl (bases_ok (by omega) hs), rfl⟩
  have t3 : mVal (mOp gNe (mLc (mItL (mVar 6)) (.nm 8) tYesM (mCall 1 c_d_law_bases (mCons (mVar 8) mNil)) [8]) (mVar 5)) (F ns k t (some (.lst (madeR t))) o7 o8) (pool a b []) = some (.ok false, pool a b []) := v_val (v_op t2 (v_var rfl) (ne_lists rfl))
  let I : List Nat → En → Store → Prop := fun _ env st => (∃ p7 p8, Fix p7 ∧ Fix p8 ∧ env = F ns k t (some (.lst (madeR t))) p7 p8) ∧ st = pool a b []
  obtain ⟨env', st', hloop, ⟨p7, p8, f7, f8, rfl⟩, rfl⟩ := for_list (n := 1) (t := .tp [7, 8]) (body := m_law_f0) (f := fun i : Nat => D.tup [.int (i : Nat), at12 t i]) (List.range 12) I (env := F ns k t (some (.lst (madeR t))) o7 o8) (st := pool a b []) ⟨⟨o7, o8, h7, h8, rfl⟩, rfl⟩ (by
    rintro pre i post _ _ e ⟨⟨q7, q8, g7, g8, rfl⟩, rfl⟩
    have hi : i < 12 := by
      have : i ∈ List.range 12 := by rw [e]; simp
      exact List.mem_range.mp this
    obtain ⟨fs, e2⟩ := at12_is (t := t) hi
    have gf : Fix (some (at12 t i)) := by rw [e2]; exact fun _ => rfl
    refine ⟨_, _, _, rfl, f0_ok hi hs, rfl, ⟨some (.int (i : Nat)), some (at12 t i), fun _ => rfl, gf, trimF data (fun _ => rfl) (fun _ => rfl) gf⟩, rfl⟩)
  refine ⟨p7, p8, f7, f8, ?_⟩
  unfold m_law_f1
  rw [v_seq ((v_ifF ((v_orF t1).trans t3)).trans rfl)]
  exact v_for (st1 := pool a b []) (ds := (List.range 12).map fun i => D.tup [.int (i : Nat), at12 t i]) rfl hloop
theorem times10 {st : Store} {t : D} : gMulL st (.lst [t]) (.int 10) = some (.lst (List.replicate 10 t)) := by
  unfold gMulL
  show (if -(2 ^ 63) ≤ (10 : Int) ∧ (10 : Int) < 2 ^ 63 ∧ [t].length * (10 : Int).toNat ≤ big then some (D.lst (List.replicate (10 : Int).toNat [t]).flatten) else none) = _
  rw [if_pos ⟨by decide, by decide, by show 1 * 10 ≤ big; unfold big; decide⟩]
  rfl
theorem f2_ok {i : Nat} (hi : i < 3) (h6 : Fix o6) (h7 : Fix o7) (h8 : Fix o8) : ∃ p2 p3 p4 p5 p6 p7 p8 st', Fix p6 ∧ Fix p7 ∧ Fix p8 ∧ m_law_f2 (E (sc ns) (i : Nat) o2 o3 o4 o5 o6 o7 o8) [] = some (.next, E (sc ns) (i : Nat) p2 p3 p4 p5 p6 p7 p8, st') := by
  obtain ⟨a, b, e1⟩ := opened_ok (ns := ns) (k := i) (st := []) (by omega)
  obtain ⟨t, a2, b2, ht, e3⟩ := pick_ok (a := a) (b := b) (rest := []) (xs := things) rfl (by decide) (by decide) rfl
  have data := thing_data ht
  have hs : Ok (pool a2 b2 []) := rfl
  let I : List Nat → En → Store → Prop := fun _ env st => (∃ p6 p7 p8, Fix p6 ∧ Fix p7 ∧ Fix p8 ∧ env = F ns (i : Nat) t p6 p7 p8) ∧ st = pool a2 b2 []
  obtain ⟨env', st', hloop, ⟨p6, p7, p8, f6, f7, f8, rfl⟩, rfl⟩ := for_list (n := 1) (t := .nm 6) (body := m_law_f1) (f := fun _ : Nat => D.lst (madeR t)) [0, 1] I (env := F ns (i : Nat) t o6 o7 o8) (st := pool a2 b2 []) ⟨⟨o6, o7, o8, h6, h7, h8, rfl⟩, rfl⟩ (by
      rintro pre j post _ _ e ⟨⟨q6, q7, q8, g6, g7, g8, rfl⟩, rfl⟩
      obtain ⟨p7, p8, f7, f8, e4⟩ := f1_ok (ns := ns) (k := (i : Nat)) (a := a2) (b := b2) ht g7 g8
      exact ⟨_, _, _, rfl, e4, rfl, ⟨_, p7, p8, fun _ => rfl, f7, f8, trimF data (fun _ => rfl) f7 f8⟩, rfl⟩)
  refine ⟨some (.ref 0), some (.lst things), some t, some (.lst dueR), p6, p7, p8, pool a2 b2 [], f6, f7, f8, ?_⟩
  have s1 : mAsg (mCall 2 c_d_law_opened (mCons (mVar 0) (mCons (mVar 1) mNil))) (.nm 2) (E (sc ns) (i : Nat) o2 o3 o4 o5 o6 o7 o8) [] = some (.next, E (sc ns) (i : Nat) (some (.ref 0)) o3 o4 o5 o6 o7 o8, pool a b []) := v_asg (v_call (v_cons (v_var rfl) (v_cons (v_var rfl) rfl)) rfl e1)
  have s2 : mAsg (mLst (mCons (mC .non) (mCons (mC (.int 0)) (mCons (mUn gNeg (mC (.int 5))) (mCons (mOp gPow (mC (.int 10)) (mC (.int 30))) (mCons (mC (.bl true)) (mCons (mC (.str "")) (mCons (mC (.str "word")) (mCons (mTup mNil) (mCons (mTup (mCons (mC (.str "a")) (mCons (mC (.int 1)) mNil))) (mCons (mLst mNil) (mCons (mLst (mCons (mLst (mCons (mC (.int 2)) mNil)) mNil)) (mCons mDNil (mCons (mDisp2 [((mC (.str "m")), (mC (.int 1)))]) mNil)))))))))))))) (.nm 3) (E (sc ns) (i : Nat) (some (.ref 0)) o3 o4 o5 o6 o7 o8) (pool a b []) = some (.next, E (sc ns) (i : Nat) (some (.ref 0)) (some (.lst things)) o4 o5 o6 o7 o8, pool a b []) :=
    v_asg (v_l (ds := things) (v_cons rfl (v_cons rfl (v_cons (v_un rfl rfl) (v_cons (v_pow (i := 10) (j := 30) rfl rfl ⟨by decide, by decide, by decide⟩) rfl)))))
  have s3 : mAsg (mCall 2 c_d_law_pick (mCons (mVar 2) (mCons (mVar 3) mNil))) (.nm 4) (E (sc ns) (i : Nat) (some (.ref 0)) (some (.lst things)) o4 o5 o6 o7 o8) (pool a b []) = some (.next, E (sc ns) (i : Nat) (some (.ref 0)) (some (.lst things)) (some t) o5 o6 o7 o8, pool a2 b2 []) := v_asg (v_call (v_cons (v_var rfl) (v_cons (v_var rfl) rfl)) rfl e3)
  have t7 : mOr (mVal (mOp gNe (mCall 1 c_d_law_bases (mCons (mMkX0 13) mNil)) (mLst (mCons (mC (.bl false)) (mCons (mC (.bl false)) (mCons (mC (.bl false)) (mCons (mC (.bl true)) (mCons (mC (.bl true)) mNil)))))))) (mVal (mUn (gIsX [(13, false)]) (mMkX0 13))) (F ns (i : Nat) t p6 p7 p8) (pool a2 b2 []) = some (.ok false, pool a2 b2 []) :=
    (v_orF (v_val (v_op (v_call (v_cons rfl rfl) rfl (bases_ok (c := 13) (fs := []) (by decide) hs)) (v_l (ds := [.bl false, .bl false, .bl false, .bl true, .bl true]) rfl) (ne_lists rfl)))).trans (v_val (v_un rfl rfl))
  have t8 : mVal (mOp gNe (mCall 1 c_d_law_bases (mCons (mMkX1 0 (mC (.str "x"))) mNil)) (mLst (mCons (mC (.bl true)) (mCons (mC (.bl true)) (mCons (mC (.bl false)) (mCons (mC (.bl false)) (mCons (mC (.bl false)) mNil)))))))  (F ns (i : Nat) t p6 p7 p8) (pool a2 b2 []) = some (.ok false, pool a2 b2 []) :=
    v_val (v_op (v_call (v_cons rfl rfl) rfl (bases_ok (c := 0) (fs := []) (by decide) hs)) (v_l (ds := [.bl true, .bl true, .bl false, .bl false, .bl false]) rfl) (ne_lists rfl))
  have rows : mItL (mLst (mCons (mCall 1 c_d_law_made_errors (mCons (mVar 4) mNil)) (mCons (mCall 1 c_d_law_named_errors (mCons (mVar 4) mNil)) mNil))) (F ns (i : Nat) t o6 o7 o8) (pool a2 b2 []) = some (.ok [.lst (madeR t), .lst (madeR t)], pool a2 b2 []) := by
    have e : mLst (mCons (mCall 1 c_d_law_made_errors (mCons (mVar 4) mNil)) (mCons (mCall 1 c_d_law_named_errors (mCons (mVar 4) mNil)) mNil)) (F ns (i : Nat) t o6 o7 o8) (pool a2 b2 []) = some (.ok (.lst [.lst (madeR t), .lst (madeR t)]), pool a2 b2 []) := v_l (v_cons (v_call (v_cons (v_var rfl) rfl) rfl (made_ok data hs)) (v_cons (v_call (v_cons (v_var rfl) rfl) rfl (named_ok data hs)) rfl))
    unfold mItL
    rw [e]
    rfl
  unfold m_law_f2
  rw [v_seq s1, v_seq s2, v_seq s3,
    v_seq (v_asg (v_op (v_l (v_cons (v_l (ds := [.bl true, .bl true, .bl false, .bl false, .bl false]) rfl) rfl)) rfl times10)),
    v_seq (v_asg (v_addL (v_var rfl) (v_l (ds := [.lst [.bl false, .bl false, .bl true, .bl false, .bl false], .lst [.bl false, .bl false, .bl false, .bl true, .bl false]]) (v_cons (v_l (ds := [.bl false, .bl false, .bl true, .bl false, .bl false]) rfl) (v_cons (v_l (ds := [.bl false, .bl false, .bl false, .bl true, .bl false]) rfl) rfl)))))]
  refine (v_seq (v_for rows hloop)).trans ?_
  rw [v_seq ((v_ifF t7).trans rfl)]
  exact (v_ifF t8).trans rfl
end
theorem law_true (ns : List Int) (h : ns.length ≤ 63) : ∃ st, c_law [.ro (ns.map D.int)] [] = some (.ok (.bl true), st) := by
  obtain ⟨n, hn, hn3⟩ : ∃ n : Nat, (∀ env : En, env[0]? = some (some (sc ns)) → mRng1 (mCons (mCB gMax2 (mCons (mC (.int 1)) (mCons (mCB gMin2 (mCons (mCB gLenA (mCons (mVar 0) mNil)) (mCons (mC (.int 3)) mNil))) mNil))) mNil) env [] = some (.ok ((List.range n).map fun i => D.int (i : Nat)), [])) ∧ n ≤ 3 := by
    let x : Int := if (3 : Int) < ((ns.map D.int).length : Int) then 3 else ((ns.map D.int).length : Int)
    let y : Int := if x > 1 then x else 1
    have hx : 0 ≤ x ∧ x ≤ 3 := by
      show 0 ≤ (if (3 : Int) < ((ns.map D.int).length : Int) then 3 else ((ns.map D.int).length : Int)) ∧ (if (3 : Int) < ((ns.map D.int).length : Int) then 3 else ((ns.map D.int).length : Int)) ≤ 3
      split <;> omega
    have hy : 1 ≤ y ∧ y ≤ 3 := by
      show 1 ≤ (if x > 1 then x else 1) ∧ (if x > 1 then x else 1) ≤ 3
      split <;> omega
    refine ⟨y.toNat, fun env he => ?_, by omega⟩
    rw [e_rng1, v_cb (v_cons rfl (v_cons (v_cb (v_cons (v_cb (v_cons (v_var he) rfl) e_len_ro) (v_cons rfl rfl)) e_min2) rfl)) e_max2, bnd_ok, e_rngK (by show 0 ≤ y; omega) (by show y ≤ 1000000; omega)]
  let I : List Nat → En → Store → Prop := fun _ env st => (∃ o1 o2 o3 o4 o5 o6 o7 o8, Fix o6 ∧ Fix o7 ∧ Fix o8 ∧ env = [some (sc ns), o1, o2, o3, o4, o5, o6, o7, o8, none]) ∧ st = []
  obtain ⟨env', st', hloop, ⟨o1, o2, o3, o4, o5, o6, o7, o8, _, _, _, rfl⟩, rfl⟩ := for_list (n := 0) (t := .nm 1) (body := m_law_f2) (f := fun i : Nat => D.int (i : Nat)) (List.range n) I (env := [some (sc ns), none, none, none, none, none, none, none, none, none]) (st := []) ⟨⟨none, none, none, none, none, none, none, none, fun _ => rfl, fun _ => rfl, fun _ => rfl, rfl⟩, rfl⟩ (by
    rintro pre k post _ _ e ⟨⟨o1, o2, o3, o4, o5, o6, o7, o8, h6, h7, h8, rfl⟩, rfl⟩
    have hk : k < n := by
      have : k ∈ List.range n := by rw [e]; simp
      exact List.mem_range.mp this
    obtain ⟨p2, p3, p4, p5, p6, p7, p8, st', f6, f7, f8, ht⟩ := f2_ok (ns := ns) (i := k) (o2 := o2) (o3 := o3) (o4 := o4) (o5 := o5) (by omega) h6 h7 h8
    exact ⟨_, _, _, rfl, ht, rfl, ⟨some (.int (k : Nat)), trimO 0 p2, trimO 0 p3, trimO 0 p4, trimO 0 p5, trimO 0 p6, trimO 0 p7, trimO 0 p8, fun m => by rw [f6, f6], fun m => by rw [f7, f7], fun m => by rw [f8, f8], rfl⟩, rfl⟩)
  refine ⟨[], fn_ret (env' := [some (sc ns), o1, o2, o3, o4, o5, o6, o7, o8, none]) ?_ rfl rfl⟩
  show m_law [some (sc ns), none, none, none, none, none, none, none, none, none] [] = _
  unfold m_law
  rw [v_seq (v_for (st1 := []) (hn _ rfl) hloop)]
  exact v_ret rfl
theorem law_ok {hot : M.HotK} {P : Program} {w : World} {K : PySem.W.Frag} {mg : Str → Option Value} {base : Heap} {B : Gb} {k : Nat} {f : Addr} {fd : FuncData} {ps : List Str} (hB : B.K = K) (hT : B.T = []) (F : FnG P w K mg base (M.Cq hot P w) k f fd ps (spM B c_law 1)) : FnG P w K mg base (L2.CX P w) k f fd ps (spLaw K) := law_okG hB hT law_true F
end Own


namespace Own
open PySem PySem.Spec PyProof.Rows L2 M
/-! ### facts -/
structure Ad where
  C0 : Addr
  C1 : Addr
  C2 : Addr
  C3 : Addr
  C4 : Addr
  C5 : Addr
  C6 : Addr
  C7 : Addr
  C8 : Addr
  C9 : Addr
  C10 : Addr
  C11 : Addr
  C12 : Addr
  C13 : Addr
  f_d_law_opened : Addr
  fd_d_law_opened : FuncData
  f_d_law_draw : Addr
  fd_d_law_draw : FuncData
  f_d_law_pick : Addr
  fd_d_law_pick : FuncData
  f_BadCrowd_new : Addr
  fd_BadCrowd_new : FuncData
  f_BadPage_new : Addr
  fd_BadPage_new : FuncData
  f_BadRule_new : Addr
  fd_BadRule_new : FuncData
  f_BadPair_new : Addr
  fd_BadPair_new : FuncData
  f_BadMark_new : Addr
  fd_BadMark_new : FuncData
  f_BadArgument_new : Addr
  fd_BadArgument_new : FuncData
  f_BadNumber_new : Addr
  fd_BadNumber_new : FuncData
  f_BadChange_new : Addr
  fd_BadChange_new : FuncData
  f_BadCommand_new : Addr
  fd_BadCommand_new : FuncData
  f_BadText_new : Addr
  fd_BadText_new : FuncData
  f_TooMany_new : Addr
  fd_TooMany_new : FuncData
  f_NotThere_new : Addr
  fd_NotThere_new : FuncData
  f_d_law_made_errors : Addr
  fd_d_law_made_errors : FuncData
  f_d_law_named_errors : Addr
  fd_d_law_named_errors : FuncData
  f_d_law_fields : Addr
  fd_d_law_fields : FuncData
  f_d_law_bases : Addr
  fd_d_law_bases : FuncData
  f_d_law_kinds : Addr
  fd_d_law_kinds : FuncData
  f_law : Addr
  fd_law : FuncData
def cAof (A : Ad) : Nat → Addr
  | 0 => A.C0
  | 1 => A.C1
  | 2 => A.C2
  | 3 => A.C3
  | 4 => A.C4
  | 5 => A.C5
  | 6 => A.C6
  | 7 => A.C7
  | 8 => A.C8
  | 9 => A.C9
  | 10 => A.C10
  | 11 => A.C11
  | 12 => A.C12
  | 13 => A.C13
  | _ => 0
def gb (K : PySem.W.Frag) (A : Ad) : Gb := { K := K, cA := cAof A }
abbrev hotC (A : Ad) : HotK := fun v => True
structure Txt (P : Program) (w : World) (K : PySem.W.Frag) (mg : Str → Option Value) (base : Heap) (A : Ad) : Prop where
  n_int : mg "int" = none
  n_max : mg "max" = none
  n_len : mg "len" = none
  n_OverflowError : mg "OverflowError" = none
  n_LookupError : mg "LookupError" = none
  n_isinstance : mg "isinstance" = none
  n_ValueError : mg "ValueError" = none
  n_min : mg "min" = none
  n_range : mg "range" = none
  n_enumerate : mg "enumerate" = none
  n_repr : mg "repr" = none
  g_MarksError : mg "MarksError" = some (.ref A.C0)
  g_BadCrowd : mg "BadCrowd" = some (.ref A.C1)
  g_BadPage : mg "BadPage" = some (.ref A.C2)
  g_BadRule : mg "BadRule" = some (.ref A.C3)
  g_BadPair : mg "BadPair" = some (.ref A.C4)
  g_BadMark : mg "BadMark" = some (.ref A.C5)
  g_BadArgument : mg "BadArgument" = some (.ref A.C6)
  g_BadNumber : mg "BadNumber" = some (.ref A.C7)
  g_BadChange : mg "BadChange" = some (.ref A.C8)
  g_BadCommand : mg "BadCommand" = some (.ref A.C9)
  g_BadText : mg "BadText" = some (.ref A.C10)
  g_TooMany : mg "TooMany" = some (.ref A.C11)
  g_NotThere : mg "NotThere" = some (.ref A.C12)
  g_NothingLeft : mg "NothingLeft" = some (.ref A.C13)
  F_d_law_opened : Fun K "_law_opened" "_law_opened" s_d_law_opened A.f_d_law_opened A.fd_d_law_opened
  b_d_law_opened : Binds K A.fd_d_law_opened ps_d_law_opened []
  k_d_law_opened : PySem.W.keepIn K (.ref A.f_d_law_opened) = true
  g_d_law_opened : mg "_law_opened" = some (.ref A.f_d_law_opened)
  F_d_law_draw : Fun K "_law_draw" "_law_draw" s_d_law_draw A.f_d_law_draw A.fd_d_law_draw
  b_d_law_draw : Binds K A.fd_d_law_draw ps_d_law_draw []
  k_d_law_draw : PySem.W.keepIn K (.ref A.f_d_law_draw) = true
  g_d_law_draw : mg "_law_draw" = some (.ref A.f_d_law_draw)
  F_d_law_pick : Fun K "_law_pick" "_law_pick" s_d_law_pick A.f_d_law_pick A.fd_d_law_pick
  b_d_law_pick : Binds K A.fd_d_law_pick ps_d_law_pick []
  k_d_law_pick : PySem.W.keepIn K (.ref A.f_d_law_pick) = true
  g_d_law_pick : mg "_law_pick" = some (.ref A.f_d_law_pick)
  F_BadCrowd_new : Fun K "__init__" "BadCrowd.__init__" s_BadCrowd_new A.f_BadCrowd_new A.fd_BadCrowd_new
  b_BadCrowd_new : Binds K A.fd_BadCrowd_new ps_BadCrowd_new []
  k_BadCrowd_new : PySem.W.keepIn K (.ref A.f_BadCrowd_new) = true
  F_BadPage_new : Fun K "__init__" "BadPage.__init__" s_BadPage_new A.f_BadPage_new A.fd_BadPage_new
  b_BadPage_new : Binds K A.fd_BadPage_new ps_BadPage_new []
  k_BadPage_new : PySem.W.keepIn K (.ref A.f_BadPage_new) = true
  F_BadRule_new : Fun K "__init__" "BadRule.__init__" s_BadRule_new A.f_BadRule_new A.fd_BadRule_new
  b_BadRule_new : Binds K A.fd_BadRule_new ps_BadRule_new []
  k_BadRule_new : PySem.W.keepIn K (.ref A.f_BadRule_new) = true
  F_BadPair_new : Fun K "__init__" "BadPair.__init__" s_BadPair_new A.f_BadPair_new A.fd_BadPair_new
  b_BadPair_new : Binds K A.fd_BadPair_new ps_BadPair_new []
  k_BadPair_new : PySem.W.keepIn K (.ref A.f_BadPair_new) = true
  F_BadMark_new : Fun K "__init__" "BadMark.__init__" s_BadMark_new A.f_BadMark_new A.fd_BadMark_new
  b_BadMark_new : Binds K A.fd_BadMark_new ps_BadMark_new []
  k_BadMark_new : PySem.W.keepIn K (.ref A.f_BadMark_new) = true
  F_BadArgument_new : Fun K "__init__" "BadArgument.__init__" s_BadArgument_new A.f_BadArgument_new A.fd_BadArgument_new
  b_BadArgument_new : Binds K A.fd_BadArgument_new ps_BadArgument_new []
  k_BadArgument_new : PySem.W.keepIn K (.ref A.f_BadArgument_new) = true
  F_BadNumber_new : Fun K "__init__" "BadNumber.__init__" s_BadNumber_new A.f_BadNumber_new A.fd_BadNumber_new
  b_BadNumber_new : Binds K A.fd_BadNumber_new ps_BadNumber_new []
  k_BadNumber_new : PySem.W.keepIn K (.ref A.f_BadNumber_new) = true
  F_BadChange_new : Fun K "__init__" "BadChange.__init__" s_BadChange_new A.f_BadChange_new A.fd_BadChange_new
  b_BadChange_new : Binds K A.fd_BadChange_new ps_BadChange_new []
  k_BadChange_new : PySem.W.keepIn K (.ref A.f_BadChange_new) = true
  F_BadCommand_new : Fun K "__init__" "BadCommand.__init__" s_BadCommand_new A.f_BadCommand_new A.fd_BadCommand_new
  b_BadCommand_new : Binds K A.fd_BadCommand_new ps_BadCommand_new []
  k_BadCommand_new : PySem.W.keepIn K (.ref A.f_BadCommand_new) = true
  F_BadText_new : Fun K "__init__" "BadText.__init__" s_BadText_new A.f_BadText_new A.fd_BadText_new
  b_BadText_new : Binds K A.fd_BadText_new ps_BadText_new []
  k_BadText_new : PySem.W.keepIn K (.ref A.f_BadText_new) = true
  F_TooMany_new : Fun K "__init__" "TooMany.__init__" s_TooMany_new A.f_TooMany_new A.fd_TooMany_new
  b_TooMany_new : Binds K A.fd_TooMany_new ps_TooMany_new []
  k_TooMany_new : PySem.W.keepIn K (.ref A.f_TooMany_new) = true
  F_NotThere_new : Fun K "__init__" "NotThere.__init__" s_NotThere_new A.f_NotThere_new A.fd_NotThere_new
  b_NotThere_new : Binds K A.fd_NotThere_new ps_NotThere_new []
  k_NotThere_new : PySem.W.keepIn K (.ref A.f_NotThere_new) = true
  F_d_law_made_errors : Fun K "_law_made_errors" "_law_made_errors" s_d_law_made_errors A.f_d_law_made_errors A.fd_d_law_made_errors
  b_d_law_made_errors : Binds K A.fd_d_law_made_errors ps_d_law_made_errors []
  k_d_law_made_errors : PySem.W.keepIn K (.ref A.f_d_law_made_errors) = true
  g_d_law_made_errors : mg "_law_made_errors" = some (.ref A.f_d_law_made_errors)
  F_d_law_named_errors : Fun K "_law_named_errors" "_law_named_errors" s_d_law_named_errors A.f_d_law_named_errors A.fd_d_law_named_errors
  b_d_law_named_errors : Binds K A.fd_d_law_named_errors ps_d_law_named_errors []
  k_d_law_named_errors : PySem.W.keepIn K (.ref A.f_d_law_named_errors) = true
  g_d_law_named_errors : mg "_law_named_errors" = some (.ref A.f_d_law_named_errors)
  F_d_law_fields : Fun K "_law_fields" "_law_fields" s_d_law_fields A.f_d_law_fields A.fd_d_law_fields
  b_d_law_fields : Binds K A.fd_d_law_fields ps_d_law_fields []
  k_d_law_fields : PySem.W.keepIn K (.ref A.f_d_law_fields) = true
  g_d_law_fields : mg "_law_fields" = some (.ref A.f_d_law_fields)
  F_d_law_bases : Fun K "_law_bases" "_law_bases" s_d_law_bases A.f_d_law_bases A.fd_d_law_bases
  b_d_law_bases : Binds K A.fd_d_law_bases ps_d_law_bases []
  k_d_law_bases : PySem.W.keepIn K (.ref A.f_d_law_bases) = true
  g_d_law_bases : mg "_law_bases" = some (.ref A.f_d_law_bases)
  F_d_law_kinds : Fun K "_law_kinds" "_law_kinds" s_d_law_kinds A.f_d_law_kinds A.fd_d_law_kinds
  b_d_law_kinds : Binds K A.fd_d_law_kinds ps_d_law_kinds []
  k_d_law_kinds : PySem.W.keepIn K (.ref A.f_d_law_kinds) = true
  g_d_law_kinds : mg "_law_kinds" = some (.ref A.f_d_law_kinds)
  F_law : Fun K "law" "law" s_law A.f_law A.fd_law
  b_law : Binds K A.fd_law ps_law []
  k_law : PySem.W.keepIn K (.ref A.f_law) = true
  g_law : mg "law" = some (.ref A.f_law)
  fi_OverflowError : PySem.W.findCls K (.type "OverflowError") (.type "type") "__init__" = some (.val (.builtin "OverflowError.__init__"))
  fi_LookupError : PySem.W.findCls K (.type "LookupError") (.type "type") "__init__" = some (.val (.builtin "LookupError.__init__"))
  xi0_MarksError : PySem.W.excIn K A.C0 [.type "ValueError", .type "Exception", .type "BaseException", .type "object"] "ValueError.__new__" = true
  kc0_MarksError : PySem.W.keepIn K (.ref A.C0) = true
  be0_MarksError : PySem.W.subIn K (.ref A.C0) (.type "BaseException") = some true
  ty0_MarksError : PySem.W.typeIn K (.ref A.C0) = some (.type "type")
  hd0_MarksError : PySem.W.hasDictIn K A.C0 = true
  xi0_NothingLeft : PySem.W.excIn K A.C13 [.type "LookupError", .type "Exception", .type "BaseException", .type "object"] "LookupError.__new__" = true
  kc0_NothingLeft : PySem.W.keepIn K (.ref A.C13) = true
  be0_NothingLeft : PySem.W.subIn K (.ref A.C13) (.type "BaseException") = some true
  ty0_NothingLeft : PySem.W.typeIn K (.ref A.C13) = some (.type "type")
  hd0_NothingLeft : PySem.W.hasDictIn K A.C13 = true
  oxb_TooMany : OexB K A.C11 "OverflowError" "OverflowError.__new__" "OverflowError.__init__" [.type "OverflowError", .type "ArithmeticError", .type "Exception", .type "BaseException", .type "object"]
  tk_TooMany_most : PySem.W.takerIn K A.C11 "most" = some none
  i_TooMany : PySem.W.findIn K (.ref A.C11) "__init__" = some (some (.ref A.f_TooMany_new))
  ti_TooMany : PySem.W.typeIn K (.ref A.f_TooMany_new) = some (.type "function")
  oxb_NotThere : OexB K A.C12 "LookupError" "LookupError.__new__" "LookupError.__init__" [.type "LookupError", .type "Exception", .type "BaseException", .type "object"]
  tk_NotThere_word : PySem.W.takerIn K A.C12 "word" = some none
  i_NotThere : PySem.W.findIn K (.ref A.C12) "__init__" = some (some (.ref A.f_NotThere_new))
  ti_NotThere : PySem.W.typeIn K (.ref A.f_NotThere_new) = some (.type "function")
  ox_BadText : OexC K A.C10
  i_BadText : PySem.W.findIn K (.ref A.C10) "__init__" = some (some (.ref A.f_BadText_new))
  ti_BadText : PySem.W.typeIn K (.ref A.f_BadText_new) = some (.type "function")
  ox_BadCommand : OexC K A.C9
  i_BadCommand : PySem.W.findIn K (.ref A.C9) "__init__" = some (some (.ref A.f_BadCommand_new))
  ti_BadCommand : PySem.W.typeIn K (.ref A.f_BadCommand_new) = some (.type "function")
  ox_BadChange : OexC K A.C8
  i_BadChange : PySem.W.findIn K (.ref A.C8) "__init__" = some (some (.ref A.f_BadChange_new))
  ti_BadChange : PySem.W.typeIn K (.ref A.f_BadChange_new) = some (.type "function")
  ox_BadNumber : OexC K A.C7
  i_BadNumber : PySem.W.findIn K (.ref A.C7) "__init__" = some (some (.ref A.f_BadNumber_new))
  ti_BadNumber : PySem.W.typeIn K (.ref A.f_BadNumber_new) = some (.type "function")
  ox_BadArgument : OexC K A.C6
  i_BadArgument : PySem.W.findIn K (.ref A.C6) "__init__" = some (some (.ref A.f_BadArgument_new))
  ti_BadArgument : PySem.W.typeIn K (.ref A.f_BadArgument_new) = some (.type "function")
  ox_BadMark : OexC K A.C5
  i_BadMark : PySem.W.findIn K (.ref A.C5) "__init__" = some (some (.ref A.f_BadMark_new))
  ti_BadMark : PySem.W.typeIn K (.ref A.f_BadMark_new) = some (.type "function")
  ox_BadPair : OexC K A.C4
  i_BadPair : PySem.W.findIn K (.ref A.C4) "__init__" = some (some (.ref A.f_BadPair_new))
  ti_BadPair : PySem.W.typeIn K (.ref A.f_BadPair_new) = some (.type "function")
  ox_BadRule : OexC K A.C3
  i_BadRule : PySem.W.findIn K (.ref A.C3) "__init__" = some (some (.ref A.f_BadRule_new))
  ti_BadRule : PySem.W.typeIn K (.ref A.f_BadRule_new) = some (.type "function")
  ox_BadPage : OexC K A.C2
  i_BadPage : PySem.W.findIn K (.ref A.C2) "__init__" = some (some (.ref A.f_BadPage_new))
  ti_BadPage : PySem.W.typeIn K (.ref A.f_BadPage_new) = some (.type "function")
  ox_BadCrowd : OexC K A.C1
  i_BadCrowd : PySem.W.findIn K (.ref A.C1) "__init__" = some (some (.ref A.f_BadCrowd_new))
  ti_BadCrowd : PySem.W.typeIn K (.ref A.f_BadCrowd_new) = some (.type "function")
  oi_MarksError : OInitC K mg "MarksError" A.C0
  no_BadCrowd_part : PySem.W.findIn K (.ref A.C1) "part" = some none
  no_BadPage_value : PySem.W.findIn K (.ref A.C2) "value" = some none
  no_BadRule_part : PySem.W.findIn K (.ref A.C3) "part" = some none
  no_BadPair_value : PySem.W.findIn K (.ref A.C4) "value" = some none
  no_BadMark_value : PySem.W.findIn K (.ref A.C5) "value" = some none
  no_BadArgument_value : PySem.W.findIn K (.ref A.C6) "value" = some none
  no_BadNumber_number : PySem.W.findIn K (.ref A.C7) "number" = some none
  no_BadChange_value : PySem.W.findIn K (.ref A.C8) "value" = some none
  no_BadCommand_command : PySem.W.findIn K (.ref A.C9) "command" = some none
  no_BadText_line : PySem.W.findIn K (.ref A.C10) "line" = some none
  no_TooMany_most : PySem.W.findIn K (.ref A.C11) "most" = some none
  no_NotThere_word : PySem.W.findIn K (.ref A.C12) "word" = some none
  xf_BadCrowd : XfC K A.C1
  xf_BadPage : XfC K A.C2
  xf_BadRule : XfC K A.C3
  xf_BadPair : XfC K A.C4
  xf_BadMark : XfC K A.C5
  xf_BadArgument : XfC K A.C6
  xf_BadNumber : XfC K A.C7
  xf_BadChange : XfC K A.C8
  xf_BadCommand : XfC K A.C9
  xf_BadText : XfC K A.C10
  xf_TooMany : XfC K A.C11
  xf_NotThere : XfC K A.C12
  xd_word_0 : KXf (gb K A) "word" [12]
  xd_most_1 : KXf (gb K A) "most" [11]
  xd_line_2 : KXf (gb K A) "line" [10]
  xd_command_3 : KXf (gb K A) "command" [9]
  xd_value_4 : KXf (gb K A) "value" [6, 8, 5, 2, 4]
  xd_number_5 : KXf (gb K A) "number" [7]
  xd_part_6 : KXf (gb K A) "part" [1, 3]
  xi_0 : KXi (gb K A) (.ref A.C13) [(0, false), (1, false), (2, false), (3, false), (4, false), (5, false), (6, false), (7, false), (8, false), (9, false), (10, false), (11, false), (12, false), (13, true)]
  xi_1 : KXi (gb K A) (.type "LookupError") [(0, false), (1, false), (2, false), (3, false), (4, false), (5, false), (6, false), (7, false), (8, false), (9, false), (10, false), (11, false), (12, true), (13, true)]
  xi_2 : KXi (gb K A) (.type "OverflowError") [(0, false), (1, false), (2, false), (3, false), (4, false), (5, false), (6, false), (7, false), (8, false), (9, false), (10, false), (11, true), (12, false), (13, false)]
  xi_3 : KXi (gb K A) (.type "ValueError") [(0, true), (1, true), (2, true), (3, true), (4, true), (5, true), (6, true), (7, true), (8, true), (9, true), (10, true), (11, false), (12, false), (13, false)]
  xi_4 : KXi (gb K A) (.ref A.C0) [(0, true), (1, true), (2, true), (3, true), (4, true), (5, true), (6, true), (7, true), (8, true), (9, true), (10, true), (11, false), (12, false), (13, false)]
  xi_5 : KXi (gb K A) (.ref A.C12) [(1, false), (2, false), (3, false), (4, false), (5, false), (6, false), (7, false), (8, false), (9, false), (10, false), (11, false), (12, true)]
  xi_6 : KXi (gb K A) (.ref A.C11) [(1, false), (2, false), (3, false), (4, false), (5, false), (6, false), (7, false), (8, false), (9, false), (10, false), (11, true), (12, false)]
  xi_7 : KXi (gb K A) (.ref A.C10) [(1, false), (2, false), (3, false), (4, false), (5, false), (6, false), (7, false), (8, false), (9, false), (10, true), (11, false), (12, false)]
  xi_8 : KXi (gb K A) (.ref A.C9) [(1, false), (2, false), (3, false), (4, false), (5, false), (6, false), (7, false), (8, false), (9, true), (10, false), (11, false), (12, false)]
  xi_9 : KXi (gb K A) (.ref A.C8) [(1, false), (2, false), (3, false), (4, false), (5, false), (6, false), (7, false), (8, true), (9, false), (10, false), (11, false), (12, false)]
  xi_10 : KXi (gb K A) (.ref A.C7) [(1, false), (2, false), (3, false), (4, false), (5, false), (6, false), (7, true), (8, false), (9, false), (10, false), (11, false), (12, false)]
  xi_11 : KXi (gb K A) (.ref A.C6) [(1, false), (2, false), (3, false), (4, false), (5, false), (6, true), (7, false), (8, false), (9, false), (10, false), (11, false), (12, false)]
  xi_12 : KXi (gb K A) (.ref A.C5) [(1, false), (2, false), (3, false), (4, false), (5, true), (6, false), (7, false), (8, false), (9, false), (10, false), (11, false), (12, false)]
  xi_13 : KXi (gb K A) (.ref A.C4) [(1, false), (2, false), (3, false), (4, true), (5, false), (6, false), (7, false), (8, false), (9, false), (10, false), (11, false), (12, false)]
  xi_14 : KXi (gb K A) (.ref A.C3) [(1, false), (2, false), (3, true), (4, false), (5, false), (6, false), (7, false), (8, false), (9, false), (10, false), (11, false), (12, false)]
  xi_15 : KXi (gb K A) (.ref A.C2) [(1, false), (2, true), (3, false), (4, false), (5, false), (6, false), (7, false), (8, false), (9, false), (10, false), (11, false), (12, false)]
  xi_16 : KXi (gb K A) (.ref A.C1) [(1, true), (2, false), (3, false), (4, false), (5, false), (6, false), (7, false), (8, false), (9, false), (10, false), (11, false), (12, false)]
  xi_17 : KXi (gb K A) (.ref A.C12) [(13, false)]
  kx1_NotThere_new : KBn K A.fd_NotThere_new ps_NotThere_new 1 ["word"] (fun us ws => us ++ ws) (fun us ws => us ++ ws)
  kx1_TooMany_new : KBn K A.fd_TooMany_new ps_TooMany_new 1 ["most"] (fun us ws => us ++ ws) (fun us ws => us ++ ws)
  kx1_BadText_new : KBn K A.fd_BadText_new ps_BadText_new 1 ["line"] (fun us ws => us ++ ws) (fun us ws => us ++ ws)
  kx1_BadCommand_new : KBn K A.fd_BadCommand_new ps_BadCommand_new 1 ["command"] (fun us ws => us ++ ws) (fun us ws => us ++ ws)
  kx1_BadChange_new : KBn K A.fd_BadChange_new ps_BadChange_new 1 ["value"] (fun us ws => us ++ ws) (fun us ws => us ++ ws)
  kx1_BadNumber_new : KBn K A.fd_BadNumber_new ps_BadNumber_new 1 ["number"] (fun us ws => us ++ ws) (fun us ws => us ++ ws)
  kx1_BadArgument_new : KBn K A.fd_BadArgument_new ps_BadArgument_new 1 ["value"] (fun us ws => us ++ ws) (fun us ws => us ++ ws)
  kx1_BadMark_new : KBn K A.fd_BadMark_new ps_BadMark_new 1 ["value"] (fun us ws => us ++ ws) (fun us ws => us ++ ws)
  kx1_BadPair_new : KBn K A.fd_BadPair_new ps_BadPair_new 1 ["value"] (fun us ws => us ++ ws) (fun us ws => us ++ ws)
  kx1_BadRule_new : KBn K A.fd_BadRule_new ps_BadRule_new 1 ["part"] (fun us ws => us ++ ws) (fun us ws => us ++ ws)
  kx1_BadPage_new : KBn K A.fd_BadPage_new ps_BadPage_new 1 ["value"] (fun us ws => us ++ ws) (fun us ws => us ++ ws)
  kx1_BadCrowd_new : KBn K A.fd_BadCrowd_new ps_BadCrowd_new 1 ["part"] (fun us ws => us ++ ws) (fun us ws => us ++ ws)
  ec_MarksError : ExcC K A.C0
  ec_BadCrowd : ExcC K A.C1
  ec_BadPage : ExcC K A.C2
  ec_BadRule : ExcC K A.C3
  ec_BadPair : ExcC K A.C4
  ec_BadMark : ExcC K A.C5
  ec_BadArgument : ExcC K A.C6
  ec_BadNumber : ExcC K A.C7
  ec_BadChange : ExcC K A.C8
  ec_BadCommand : ExcC K A.C9
  ec_BadText : ExcC K A.C10
  ec_TooMany : ExcC K A.C11
  ec_NotThere : ExcC K A.C12
  ec_NothingLeft : ExcC K A.C13
  isi : KIs (gb K A) []
section
variable {P : Program} {w : World} {K : PySem.W.Frag} {mg : Str → Option Value} {base : Heap} {A : Ad}
theorem ok_d_law_opened (T : Txt P w K mg base A) : FnOk P w K mg base (Cq (hotC A) P w) 1 A.f_d_law_opened A.fd_d_law_opened ps_d_law_opened (spM (gb K A) c_d_law_opened 2) := by
  refine okXQ T.F_d_law_opened sc_d_law_opened (fun vs H Q E h => h.1) (fun cdv A0 outer s H vs Q E hr h => ⟨_, ?_, def_runK (N := names_d_law_opened) h⟩)
  have tk0 := tk_of (hot := hotC A) (X := cxOf (Cq (hotC A) P w) P w K mg base names_d_law_opened "_law_opened" (defScope s_d_law_opened) A.f_d_law_opened cdv A0 outer s H E) rfl rfl rfl rfl
  have po0 := passes_of (X := cxOf (Cq (hotC A) P w) P w K mg base names_d_law_opened "_law_opened" (defScope s_d_law_opened) A.f_d_law_opened cdv A0 outer s H E) rfl
  exact (ms_cons (ms_set (i := 2) sc_d_law_opened.nd rfl (by first | exact Or.inl rfl | exact Or.inr rfl) (m_ifExp (m_tcmp op_lt (r2_I0 (da_bl _)) (m_var (pv 1)) (m_callB call_lenA rc_lenA (by rfl) T.n_len (by decide +kernel) (m_cons (m_var (pv 0)) m_nil)) (nomark _)) (m_ix ix_any r2_ix (m_var (pv 0)) (m_var (pv 1)) (fun _ _ => rfl)) (m_c pe_int (fun _ => .int _))))
    (ms_cons (ms_set (i := 3) sc_d_law_opened.nd rfl (by first | exact Or.inl rfl | exact Or.inr rfl) (m_callB (call_mx rfl) rc_max2 (by rfl) T.n_max (by decide +kernel) (m_cons (m_callTy call_int rc_int (by rfl) T.n_int (by decide +kernel) (m_cons (m_var (pv 2)) m_nil)) (m_cons (m_callTy call_int rc_int (by rfl) T.n_int (by decide +kernel) (m_cons (m_op op_sub (r2_I0 (da_int _)) (m_un un_neg r1_neg (m_c pe_int (fun _ => .int _))) (m_var (pv 2))) m_nil)) m_nil))))
    (ms_one (ms_ret (m_new (m_cons (m_op op_mul (r2_I (da_int _)) (m_var (pv 3)) (m_callTy call_int rc_int (by rfl) T.n_int (by decide +kernel) (m_cons (m_cmp op_ge (r2_I0 (da_bl _)) (m_var (pv 3)) (m_op op_pow (r2_I (da_int _)) (m_c pe_int (fun _ => .int _)) (m_c pe_int (fun _ => .int _))) (nomark _)) m_nil))) (m_cons (m_op op_mod (r2_I (da_int _)) (m_callTy call_int rc_int (by rfl) T.n_int (by decide +kernel) (m_cons (m_op op_mul (r2_I (da_int _)) (m_op op_addAny r2_add (m_op op_addAny r2_add (m_op op_mod (r2_I (da_int _)) (m_var (pv 3)) (m_c pe_int (fun _ => .int _))) (m_op op_mul (r2_I (da_int _)) (m_c pe_int (fun _ => .int _)) (m_var (pv 1)))) (m_c pe_int (fun _ => .int _))) (m_c pe_int (fun _ => .int _))) m_nil)) (m_c pe_int (fun _ => .int _))) m_nil)))))))
theorem ok_d_law_draw (T : Txt P w K mg base A) : FnOk P w K mg base (Cq (hotC A) P w) 1 A.f_d_law_draw A.fd_d_law_draw ps_d_law_draw (spM (gb K A) c_d_law_draw 2) := by
  refine okXQ T.F_d_law_draw sc_d_law_draw (fun vs H Q E h => h.1) (fun cdv A0 outer s H vs Q E hr h => ⟨_, ?_, def_run (N := names_d_law_draw) h⟩)
  have tk0 := tk_of (hot := hotC A) (X := cxOf (Cq (hotC A) P w) P w K mg base names_d_law_draw "_law_draw" (defScope s_d_law_draw) A.f_d_law_draw cdv A0 outer s H E) rfl rfl rfl rfl
  have po0 := passes_of (X := cxOf (Cq (hotC A) P w) P w K mg base names_d_law_draw "_law_draw" (defScope s_d_law_draw) A.f_d_law_draw cdv A0 outer s H E) rfl
  exact (ms_cons (ms_if (m_tcmp op_gt (r2_I0 (da_bl _)) (m_ix ix_any r2_ix (m_var (pv 0)) (m_c pe_int (fun _ => .int _)) (fun _ _ => rfl)) (m_c pe_int (fun _ => .int _)) (nomark _)) (ms_cons (ms_set (i := 2) sc_d_law_draw.nd rfl (by first | exact Or.inl rfl | exact Or.inr rfl) (m_op op_mod (r2_I (da_int _)) (m_callTy call_int rc_int (by rfl) T.n_int (by decide +kernel) (m_cons (m_ix ix_any r2_ix (m_var (pv 0)) (m_c pe_int (fun _ => .int _)) (fun _ _ => rfl)) m_nil)) (m_var (pv 1))))
    (ms_cons (ms_put (m_op op_fdiv (r2_I (da_int _)) (m_ix ix_any r2_ix (m_var (pv 0)) (m_c pe_int (fun _ => .int _)) (fun _ _ => rfl)) (m_var (pv 1))) (m_var (pv 0)) (m_c pe_int (fun _ => .int _)))
    (ms_one (ms_ret (m_var (pv 2)))))) ms_nil)
    (ms_cons (ms_put (m_op op_mod (r2_I (da_int _)) (m_callTy call_int rc_int (by rfl) T.n_int (by decide +kernel) (m_cons (m_op op_addAny r2_add (m_op op_mul (r2_I (da_int _)) (m_ix ix_any r2_ix (m_var (pv 0)) (m_c pe_int (fun _ => .int _)) (fun _ _ => rfl)) (m_c pe_int (fun _ => .int _))) (m_c pe_int (fun _ => .int _))) m_nil)) (m_c pe_int (fun _ => .int _))) (m_var (pv 0)) (m_c pe_int (fun _ => .int _)))
    (ms_one (ms_ret (m_op op_mod (r2_I (da_int _)) (m_op op_fdiv (r2_I (da_int _)) (m_op op_mod (r2_I (da_int _)) (m_callTy call_int rc_int (by rfl) T.n_int (by decide +kernel) (m_cons (m_op op_mul (r2_I (da_int _)) (m_ix ix_any r2_ix (m_var (pv 0)) (m_c pe_int (fun _ => .int _)) (fun _ _ => rfl)) (m_ix ix_any r2_ix (m_var (pv 0)) (m_c pe_int (fun _ => .int _)) (fun _ _ => rfl))) m_nil)) (m_c pe_int (fun _ => .int _))) (m_c pe_int (fun _ => .int _))) (m_var (pv 1)))))))
theorem ok_d_law_pick (T : Txt P w K mg base A) : FnOk P w K mg base (Cq (hotC A) P w) 2 A.f_d_law_pick A.fd_d_law_pick ps_d_law_pick (spM (gb K A) c_d_law_pick 2) := by
  refine okXQ T.F_d_law_pick sc_d_law_pick (fun vs H Q E h => h.1) (fun cdv A0 outer s H vs Q E hr h => ⟨_, ?_, def_run (N := names_d_law_pick) h⟩)
  have tk0 := tk_of (hot := hotC A) (X := cxOf (Cq (hotC A) P w) P w K mg base names_d_law_pick "_law_pick" (defScope s_d_law_pick) A.f_d_law_pick cdv A0 outer s H E) rfl rfl rfl rfl
  have po0 := passes_of (X := cxOf (Cq (hotC A) P w) P w K mg base names_d_law_pick "_law_pick" (defScope s_d_law_pick) A.f_d_law_pick cdv A0 outer s H E) rfl
  exact (ms_one (ms_ret (m_ix ix_any r2_ix (m_var (pv 1)) (m_call (n := 2) (c := c_d_law_draw) tk0 (ok_d_law_draw T) (hr.mono (by decide)) rfl T.g_d_law_draw T.k_d_law_draw T.b_d_law_draw (m_cons (m_var (pv 0)) (m_cons (m_callB call_lenA rc_lenA (by rfl) T.n_len (by decide +kernel) (m_cons (m_var (pv 1)) m_nil)) m_nil))) (fun _ _ => rfl))))
theorem ok_BadCrowd_new (T : Txt P w K mg base A) : FnOk P w K mg base (Cq (hotC A) P w) 1 A.f_BadCrowd_new A.fd_BadCrowd_new ps_BadCrowd_new (spXI "part" K A.C1) := by
  refine okXQ T.F_BadCrowd_new sc_BadCrowd_new (fun vs H Q E h => ?_) (fun cdv A0 outer s H vs Q E hr h => ⟨tEInit K "part" "a crowd cannot have such a part", ?_, pure_einit T.ox_BadCrowd T.no_BadCrowd_part _ _ _ _ h⟩)
  · obtain ⟨a, y, rfl, _⟩ := h
    rfl
  · exact pss_cons (ps_expr (pe_moinit T.oi_MarksError rfl (pa_cons (pv 0) (pa_cons pe_str pa_nil)))) (pss_one (ps_ost (pv 0) (pv 1)))
theorem ok_BadPage_new (T : Txt P w K mg base A) : FnOk P w K mg base (Cq (hotC A) P w) 1 A.f_BadPage_new A.fd_BadPage_new ps_BadPage_new (spXI "value" K A.C2) := by
  refine okXQ T.F_BadPage_new sc_BadPage_new (fun vs H Q E h => ?_) (fun cdv A0 outer s H vs Q E hr h => ⟨tEInit K "value" "not the marks of a page", ?_, pure_einit T.ox_BadPage T.no_BadPage_value _ _ _ _ h⟩)
  · obtain ⟨a, y, rfl, _⟩ := h
    rfl
  · exact pss_cons (ps_expr (pe_moinit T.oi_MarksError rfl (pa_cons (pv 0) (pa_cons pe_str pa_nil)))) (pss_one (ps_ost (pv 0) (pv 1)))
theorem ok_BadRule_new (T : Txt P w K mg base A) : FnOk P w K mg base (Cq (hotC A) P w) 1 A.f_BadRule_new A.fd_BadRule_new ps_BadRule_new (spXI "part" K A.C3) := by
  refine okXQ T.F_BadRule_new sc_BadRule_new (fun vs H Q E h => ?_) (fun cdv A0 outer s H vs Q E hr h => ⟨tEInit K "part" "a rule cannot have such a part", ?_, pure_einit T.ox_BadRule T.no_BadRule_part _ _ _ _ h⟩)
  · obtain ⟨a, y, rfl, _⟩ := h
    rfl
  · exact pss_cons (ps_expr (pe_moinit T.oi_MarksError rfl (pa_cons (pv 0) (pa_cons pe_str pa_nil)))) (pss_one (ps_ost (pv 0) (pv 1)))
theorem ok_BadPair_new (T : Txt P w K mg base A) : FnOk P w K mg base (Cq (hotC A) P w) 1 A.f_BadPair_new A.fd_BadPair_new ps_BadPair_new (spXI "value" K A.C4) := by
  refine okXQ T.F_BadPair_new sc_BadPair_new (fun vs H Q E h => ?_) (fun cdv A0 outer s H vs Q E hr h => ⟨tEInit K "value" "not a pair of two people of the crowd", ?_, pure_einit T.ox_BadPair T.no_BadPair_value _ _ _ _ h⟩)
  · obtain ⟨a, y, rfl, _⟩ := h
    rfl
  · exact pss_cons (ps_expr (pe_moinit T.oi_MarksError rfl (pa_cons (pv 0) (pa_cons pe_str pa_nil)))) (pss_one (ps_ost (pv 0) (pv 1)))
theorem ok_BadMark_new (T : Txt P w K mg base A) : FnOk P w K mg base (Cq (hotC A) P w) 1 A.f_BadMark_new A.fd_BadMark_new ps_BadMark_new (spXI "value" K A.C5) := by
  refine okXQ T.F_BadMark_new sc_BadMark_new (fun vs H Q E h => ?_) (fun cdv A0 outer s H vs Q E hr h => ⟨tEInit K "value" "not a mark or a row of marks", ?_, pure_einit T.ox_BadMark T.no_BadMark_value _ _ _ _ h⟩)
  · obtain ⟨a, y, rfl, _⟩ := h
    rfl
  · exact pss_cons (ps_expr (pe_moinit T.oi_MarksError rfl (pa_cons (pv 0) (pa_cons pe_str pa_nil)))) (pss_one (ps_ost (pv 0) (pv 1)))
theorem ok_BadArgument_new (T : Txt P w K mg base A) : FnOk P w K mg base (Cq (hotC A) P w) 1 A.f_BadArgument_new A.fd_BadArgument_new ps_BadArgument_new (spXI "value" K A.C6) := by
  refine okXQ T.F_BadArgument_new sc_BadArgument_new (fun vs H Q E h => ?_) (fun cdv A0 outer s H vs Q E hr h => ⟨tEInit K "value" "not such an argument", ?_, pure_einit T.ox_BadArgument T.no_BadArgument_value _ _ _ _ h⟩)
  · obtain ⟨a, y, rfl, _⟩ := h
    rfl
  · exact pss_cons (ps_expr (pe_moinit T.oi_MarksError rfl (pa_cons (pv 0) (pa_cons pe_str pa_nil)))) (pss_one (ps_ost (pv 0) (pv 1)))
theorem ok_BadNumber_new (T : Txt P w K mg base A) : FnOk P w K mg base (Cq (hotC A) P w) 1 A.f_BadNumber_new A.fd_BadNumber_new ps_BadNumber_new (spXI "number" K A.C7) := by
  refine okXQ T.F_BadNumber_new sc_BadNumber_new (fun vs H Q E h => ?_) (fun cdv A0 outer s H vs Q E hr h => ⟨tEInit K "number" "not such a number", ?_, pure_einit T.ox_BadNumber T.no_BadNumber_number _ _ _ _ h⟩)
  · obtain ⟨a, y, rfl, _⟩ := h
    rfl
  · exact pss_cons (ps_expr (pe_moinit T.oi_MarksError rfl (pa_cons (pv 0) (pa_cons pe_str pa_nil)))) (pss_one (ps_ost (pv 0) (pv 1)))
theorem ok_BadChange_new (T : Txt P w K mg base A) : FnOk P w K mg base (Cq (hotC A) P w) 1 A.f_BadChange_new A.fd_BadChange_new ps_BadChange_new (spXI "value" K A.C8) := by
  refine okXQ T.F_BadChange_new sc_BadChange_new (fun vs H Q E h => ?_) (fun cdv A0 outer s H vs Q E hr h => ⟨tEInit K "value" "no change that can be made here", ?_, pure_einit T.ox_BadChange T.no_BadChange_value _ _ _ _ h⟩)
  · obtain ⟨a, y, rfl, _⟩ := h
    rfl
  · exact pss_cons (ps_expr (pe_moinit T.oi_MarksError rfl (pa_cons (pv 0) (pa_cons pe_str pa_nil)))) (pss_one (ps_ost (pv 0) (pv 1)))
theorem ok_BadCommand_new (T : Txt P w K mg base A) : FnOk P w K mg base (Cq (hotC A) P w) 1 A.f_BadCommand_new A.fd_BadCommand_new ps_BadCommand_new (spXI "command" K A.C9) := by
  refine okXQ T.F_BadCommand_new sc_BadCommand_new (fun vs H Q E h => ?_) (fun cdv A0 outer s H vs Q E hr h => ⟨tEInit K "command" "no command", ?_, pure_einit T.ox_BadCommand T.no_BadCommand_command _ _ _ _ h⟩)
  · obtain ⟨a, y, rfl, _⟩ := h
    rfl
  · exact pss_cons (ps_expr (pe_moinit T.oi_MarksError rfl (pa_cons (pv 0) (pa_cons pe_str pa_nil)))) (pss_one (ps_ost (pv 0) (pv 1)))
theorem ok_BadText_new (T : Txt P w K mg base A) : FnOk P w K mg base (Cq (hotC A) P w) 1 A.f_BadText_new A.fd_BadText_new ps_BadText_new (spXI "line" K A.C10) := by
  refine okXQ T.F_BadText_new sc_BadText_new (fun vs H Q E h => ?_) (fun cdv A0 outer s H vs Q E hr h => ⟨tEInit K "line" "a line that is none", ?_, pure_einit T.ox_BadText T.no_BadText_line _ _ _ _ h⟩)
  · obtain ⟨a, y, rfl, _⟩ := h
    rfl
  · exact pss_cons (ps_expr (pe_moinit T.oi_MarksError rfl (pa_cons (pv 0) (pa_cons pe_str pa_nil)))) (pss_one (ps_ost (pv 0) (pv 1)))
theorem ok_TooMany_new (T : Txt P w K mg base A) : FnOk P w K mg base (Cq (hotC A) P w) 1 A.f_TooMany_new A.fd_TooMany_new ps_TooMany_new (spXI "most" K A.C11) := by
  refine okXQ T.F_TooMany_new sc_TooMany_new (fun vs H Q E h => ?_) (fun cdv A0 outer s H vs Q E hr h => ⟨tBinit K "OverflowError" "OverflowError.__new__" "OverflowError.__init__" [.type "OverflowError", .type "ArithmeticError", .type "Exception", .type "BaseException", .type "object"] "most" "too many to go through", ?_, pure_binit T.oxb_TooMany T.tk_TooMany_most _ _ _ _ h⟩)
  · obtain ⟨a, y, rfl, _⟩ := h
    rfl
  · exact pss_cons (ps_expr (pe_binit rfl T.n_OverflowError (by rfl) (by rfl) (by decide +kernel) T.fi_OverflowError (by decide +kernel) (pa_cons (pv 0) (pa_cons pe_str pa_nil)))) (pss_one (ps_bst (pv 0) (pv 1)))
theorem ok_NotThere_new (T : Txt P w K mg base A) : FnOk P w K mg base (Cq (hotC A) P w) 1 A.f_NotThere_new A.fd_NotThere_new ps_NotThere_new (spXI "word" K A.C12) := by
  refine okXQ T.F_NotThere_new sc_NotThere_new (fun vs H Q E h => ?_) (fun cdv A0 outer s H vs Q E hr h => ⟨tBinit K "LookupError" "LookupError.__new__" "LookupError.__init__" [.type "LookupError", .type "Exception", .type "BaseException", .type "object"] "word" "not there", ?_, pure_binit T.oxb_NotThere T.tk_NotThere_word _ _ _ _ h⟩)
  · obtain ⟨a, y, rfl, _⟩ := h
    rfl
  · exact pss_cons (ps_expr (pe_binit rfl T.n_LookupError (by rfl) (by rfl) (by decide +kernel) T.fi_LookupError (by decide +kernel) (pa_cons (pv 0) (pa_cons pe_str pa_nil)))) (pss_one (ps_bst (pv 0) (pv 1)))
theorem ok_d_law_made_errors (T : Txt P w K mg base A) : FnOk P w K mg base (Cq (hotC A) P w) 3 A.f_d_law_made_errors A.fd_d_law_made_errors ps_d_law_made_errors (spM (gb K A) c_d_law_made_errors 1) := by
  refine okXQ T.F_d_law_made_errors sc_d_law_made_errors (fun vs H Q E h => h.1) (fun cdv A0 outer s H vs Q E hr h => ⟨_, ?_, def_run (N := names_d_law_made_errors) h⟩)
  have tk0 := tk_of (hot := hotC A) (X := cxOf (Cq (hotC A) P w) P w K mg base names_d_law_made_errors "_law_made_errors" (defScope s_d_law_made_errors) A.f_d_law_made_errors cdv A0 outer s H E) rfl rfl rfl rfl
  have po0 := passes_of (X := cxOf (Cq (hotC A) P w) P w K mg base names_d_law_made_errors "_law_made_errors" (defScope s_d_law_made_errors) A.f_d_law_made_errors cdv A0 outer s H E) rfl
  exact (ms_cons (ms_set (i := 1) sc_d_law_made_errors.nd rfl (by first | exact Or.inl rfl | exact Or.inr rfl) (m_lst (m_cons (m_mkX (c := 1) (f := "part") (xcls_oex T.ox_BadCrowd) T.i_BadCrowd T.ti_BadCrowd (ok_BadCrowd_new T) (hr.mono (by decide)) T.b_BadCrowd_new rfl T.g_BadCrowd (m_cons (m_var (pv 0)) m_nil)) (m_cons (m_mkX (c := 2) (f := "value") (xcls_oex T.ox_BadPage) T.i_BadPage T.ti_BadPage (ok_BadPage_new T) (hr.mono (by decide)) T.b_BadPage_new rfl T.g_BadPage (m_cons (m_var (pv 0)) m_nil)) (m_cons (m_mkX (c := 3) (f := "part") (xcls_oex T.ox_BadRule) T.i_BadRule T.ti_BadRule (ok_BadRule_new T) (hr.mono (by decide)) T.b_BadRule_new rfl T.g_BadRule (m_cons (m_var (pv 0)) m_nil)) (m_cons (m_mkX (c := 4) (f := "value") (xcls_oex T.ox_BadPair) T.i_BadPair T.ti_BadPair (ok_BadPair_new T) (hr.mono (by decide)) T.b_BadPair_new rfl T.g_BadPair (m_cons (m_var (pv 0)) m_nil)) (m_cons (m_mkX (c := 5) (f := "value") (xcls_oex T.ox_BadMark) T.i_BadMark T.ti_BadMark (ok_BadMark_new T) (hr.mono (by decide)) T.b_BadMark_new rfl T.g_BadMark (m_cons (m_var (pv 0)) m_nil)) (m_cons (m_mkX (c := 6) (f := "value") (xcls_oex T.ox_BadArgument) T.i_BadArgument T.ti_BadArgument (ok_BadArgument_new T) (hr.mono (by decide)) T.b_BadArgument_new rfl T.g_BadArgument (m_cons (m_var (pv 0)) m_nil)) m_nil))))))))
    (ms_cons (ms_set (i := 1) sc_d_law_made_errors.nd rfl (by first | exact Or.inl rfl | exact Or.inr rfl) (m_op op_addAny r2_add (m_var (pv 1)) (m_lst (m_cons (m_mkX (c := 7) (f := "number") (xcls_oex T.ox_BadNumber) T.i_BadNumber T.ti_BadNumber (ok_BadNumber_new T) (hr.mono (by decide)) T.b_BadNumber_new rfl T.g_BadNumber (m_cons (m_var (pv 0)) m_nil)) (m_cons (m_mkX (c := 8) (f := "value") (xcls_oex T.ox_BadChange) T.i_BadChange T.ti_BadChange (ok_BadChange_new T) (hr.mono (by decide)) T.b_BadChange_new rfl T.g_BadChange (m_cons (m_var (pv 0)) m_nil)) (m_cons (m_mkX (c := 9) (f := "command") (xcls_oex T.ox_BadCommand) T.i_BadCommand T.ti_BadCommand (ok_BadCommand_new T) (hr.mono (by decide)) T.b_BadCommand_new rfl T.g_BadCommand (m_cons (m_var (pv 0)) m_nil)) (m_cons (m_mkX (c := 10) (f := "line") (xcls_oex T.ox_BadText) T.i_BadText T.ti_BadText (ok_BadText_new T) (hr.mono (by decide)) T.b_BadText_new rfl T.g_BadText (m_cons (m_var (pv 0)) m_nil)) m_nil)))))))
    (ms_one (ms_ret (m_op op_addAny r2_add (m_var (pv 1)) (m_lst (m_cons (m_mkX (c := 11) (f := "most") (xcls_oexB T.oxb_TooMany) T.i_TooMany T.ti_TooMany (ok_TooMany_new T) (hr.mono (by decide)) T.b_TooMany_new rfl T.g_TooMany (m_cons (m_var (pv 0)) m_nil)) (m_cons (m_mkX (c := 12) (f := "word") (xcls_oexB T.oxb_NotThere) T.i_NotThere T.ti_NotThere (ok_NotThere_new T) (hr.mono (by decide)) T.b_NotThere_new rfl T.g_NotThere (m_cons (m_var (pv 0)) m_nil)) m_nil))))))))
theorem ok_d_law_named_errors (T : Txt P w K mg base A) : FnOk P w K mg base (Cq (hotC A) P w) 3 A.f_d_law_named_errors A.fd_d_law_named_errors ps_d_law_named_errors (spM (gb K A) c_d_law_named_errors 1) := by
  refine okXQ T.F_d_law_named_errors sc_d_law_named_errors (fun vs H Q E h => h.1) (fun cdv A0 outer s H vs Q E hr h => ⟨_, ?_, def_run (N := names_d_law_named_errors) h⟩)
  have tk0 := tk_of (hot := hotC A) (X := cxOf (Cq (hotC A) P w) P w K mg base names_d_law_named_errors "_law_named_errors" (defScope s_d_law_named_errors) A.f_d_law_named_errors cdv A0 outer s H E) rfl rfl rfl rfl
  have po0 := passes_of (X := cxOf (Cq (hotC A) P w) P w K mg base names_d_law_named_errors "_law_named_errors" (defScope s_d_law_named_errors) A.f_d_law_named_errors cdv A0 outer s H E) rfl
  exact (ms_cons (ms_set (i := 1) sc_d_law_named_errors.nd rfl (by first | exact Or.inl rfl | exact Or.inr rfl) (m_lst (m_cons (m_mkXK (c := 1) (f := "part") (xcls_oex T.ox_BadCrowd) T.i_BadCrowd T.ti_BadCrowd (ok_BadCrowd_new T) (hr.mono (by decide)) T.kx1_BadCrowd_new rfl rfl T.g_BadCrowd (mk_cons (m_var (pv 0)) mk_nil)) (m_cons (m_mkXK (c := 2) (f := "value") (xcls_oex T.ox_BadPage) T.i_BadPage T.ti_BadPage (ok_BadPage_new T) (hr.mono (by decide)) T.kx1_BadPage_new rfl rfl T.g_BadPage (mk_cons (m_var (pv 0)) mk_nil)) (m_cons (m_mkXK (c := 3) (f := "part") (xcls_oex T.ox_BadRule) T.i_BadRule T.ti_BadRule (ok_BadRule_new T) (hr.mono (by decide)) T.kx1_BadRule_new rfl rfl T.g_BadRule (mk_cons (m_var (pv 0)) mk_nil)) (m_cons (m_mkXK (c := 4) (f := "value") (xcls_oex T.ox_BadPair) T.i_BadPair T.ti_BadPair (ok_BadPair_new T) (hr.mono (by decide)) T.kx1_BadPair_new rfl rfl T.g_BadPair (mk_cons (m_var (pv 0)) mk_nil)) m_nil))))))
    (ms_cons (ms_set (i := 1) sc_d_law_named_errors.nd rfl (by first | exact Or.inl rfl | exact Or.inr rfl) (m_op op_addAny r2_add (m_var (pv 1)) (m_lst (m_cons (m_mkXK (c := 5) (f := "value") (xcls_oex T.ox_BadMark) T.i_BadMark T.ti_BadMark (ok_BadMark_new T) (hr.mono (by decide)) T.kx1_BadMark_new rfl rfl T.g_BadMark (mk_cons (m_var (pv 0)) mk_nil)) (m_cons (m_mkXK (c := 6) (f := "value") (xcls_oex T.ox_BadArgument) T.i_BadArgument T.ti_BadArgument (ok_BadArgument_new T) (hr.mono (by decide)) T.kx1_BadArgument_new rfl rfl T.g_BadArgument (mk_cons (m_var (pv 0)) mk_nil)) (m_cons (m_mkXK (c := 7) (f := "number") (xcls_oex T.ox_BadNumber) T.i_BadNumber T.ti_BadNumber (ok_BadNumber_new T) (hr.mono (by decide)) T.kx1_BadNumber_new rfl rfl T.g_BadNumber (mk_cons (m_var (pv 0)) mk_nil)) (m_cons (m_mkXK (c := 8) (f := "value") (xcls_oex T.ox_BadChange) T.i_BadChange T.ti_BadChange (ok_BadChange_new T) (hr.mono (by decide)) T.kx1_BadChange_new rfl rfl T.g_BadChange (mk_cons (m_var (pv 0)) mk_nil)) m_nil)))))))
    (ms_one (ms_ret (m_op op_addAny r2_add (m_var (pv 1)) (m_lst (m_cons (m_mkXK (c := 9) (f := "command") (xcls_oex T.ox_BadCommand) T.i_BadCommand T.ti_BadCommand (ok_BadCommand_new T) (hr.mono (by decide)) T.kx1_BadCommand_new rfl rfl T.g_BadCommand (mk_cons (m_var (pv 0)) mk_nil)) (m_cons (m_mkXK (c := 10) (f := "line") (xcls_oex T.ox_BadText) T.i_BadText T.ti_BadText (ok_BadText_new T) (hr.mono (by decide)) T.kx1_BadText_new rfl rfl T.g_BadText (mk_cons (m_var (pv 0)) mk_nil)) (m_cons (m_mkXK (c := 11) (f := "most") (xcls_oexB T.oxb_TooMany) T.i_TooMany T.ti_TooMany (ok_TooMany_new T) (hr.mono (by decide)) T.kx1_TooMany_new rfl rfl T.g_TooMany (mk_cons (m_var (pv 0)) mk_nil)) (m_cons (m_mkXK (c := 12) (f := "word") (xcls_oexB T.oxb_NotThere) T.i_NotThere T.ti_NotThere (ok_NotThere_new T) (hr.mono (by decide)) T.kx1_NotThere_new rfl rfl T.g_NotThere (mk_cons (m_var (pv 0)) mk_nil)) m_nil))))))))))
theorem ok_d_law_fields (T : Txt P w K mg base A) : FnOk P w K mg base (Cq (hotC A) P w) 1 A.f_d_law_fields A.fd_d_law_fields ps_d_law_fields (spM (gb K A) c_d_law_fields 1) := by
  refine okXQ T.F_d_law_fields sc_d_law_fields (fun vs H Q E h => h.1) (fun cdv A0 outer s H vs Q E hr h => ⟨_, ?_, def_run (N := names_d_law_fields) h⟩)
  have tk0 := tk_of (hot := hotC A) (X := cxOf (Cq (hotC A) P w) P w K mg base names_d_law_fields "_law_fields" (defScope s_d_law_fields) A.f_d_law_fields cdv A0 outer s H E) rfl rfl rfl rfl
  have po0 := passes_of (X := cxOf (Cq (hotC A) P w) P w K mg base names_d_law_fields "_law_fields" (defScope s_d_law_fields) A.f_d_law_fields cdv A0 outer s H E) rfl
  exact (ms_cons (ms_set (i := 1) sc_d_law_fields.nd rfl (by first | exact Or.inl rfl | exact Or.inr rfl) (m_lst (m_cons (m_fldX T.xd_part_6 rfl (m_ix ix_any r2_ix (m_var (pv 0)) (m_c pe_int (fun _ => .int _)) (fun _ _ => rfl))) (m_cons (m_fldX T.xd_value_4 rfl (m_ix ix_any r2_ix (m_var (pv 0)) (m_c pe_int (fun _ => .int _)) (fun _ _ => rfl))) (m_cons (m_fldX T.xd_part_6 rfl (m_ix ix_any r2_ix (m_var (pv 0)) (m_c pe_int (fun _ => .int _)) (fun _ _ => rfl))) (m_cons (m_fldX T.xd_value_4 rfl (m_ix ix_any r2_ix (m_var (pv 0)) (m_c pe_int (fun _ => .int _)) (fun _ _ => rfl))) (m_cons (m_fldX T.xd_value_4 rfl (m_ix ix_any r2_ix (m_var (pv 0)) (m_c pe_int (fun _ => .int _)) (fun _ _ => rfl))) (m_cons (m_fldX T.xd_value_4 rfl (m_ix ix_any r2_ix (m_var (pv 0)) (m_c pe_int (fun _ => .int _)) (fun _ _ => rfl))) m_nil))))))))
    (ms_one (ms_ret (m_op op_addAny r2_add (m_var (pv 1)) (m_lst (m_cons (m_fldX T.xd_number_5 rfl (m_ix ix_any r2_ix (m_var (pv 0)) (m_c pe_int (fun _ => .int _)) (fun _ _ => rfl))) (m_cons (m_fldX T.xd_value_4 rfl (m_ix ix_any r2_ix (m_var (pv 0)) (m_c pe_int (fun _ => .int _)) (fun _ _ => rfl))) (m_cons (m_fldX T.xd_command_3 rfl (m_ix ix_any r2_ix (m_var (pv 0)) (m_c pe_int (fun _ => .int _)) (fun _ _ => rfl))) (m_cons (m_fldX T.xd_line_2 rfl (m_ix ix_any r2_ix (m_var (pv 0)) (m_c pe_int (fun _ => .int _)) (fun _ _ => rfl))) (m_cons (m_fldX T.xd_most_1 rfl (m_ix ix_any r2_ix (m_var (pv 0)) (m_c pe_int (fun _ => .int _)) (fun _ _ => rfl))) (m_cons (m_fldX T.xd_word_0 rfl (m_ix ix_any r2_ix (m_var (pv 0)) (m_c pe_int (fun _ => .int _)) (fun _ _ => rfl))) m_nil)))))))))))
theorem ok_d_law_bases (T : Txt P w K mg base A) : FnOk P w K mg base (Cq (hotC A) P w) 1 A.f_d_law_bases A.fd_d_law_bases ps_d_law_bases (spM (gb K A) c_d_law_bases 1) := by
  refine okXQ T.F_d_law_bases sc_d_law_bases (fun vs H Q E h => h.1) (fun cdv A0 outer s H vs Q E hr h => ⟨_, ?_, def_run (N := names_d_law_bases) h⟩)
  have tk0 := tk_of (hot := hotC A) (X := cxOf (Cq (hotC A) P w) P w K mg base names_d_law_bases "_law_bases" (defScope s_d_law_bases) A.f_d_law_bases cdv A0 outer s H E) rfl rfl rfl rfl
  have po0 := passes_of (X := cxOf (Cq (hotC A) P w) P w K mg base names_d_law_bases "_law_bases" (defScope s_d_law_bases) A.f_d_law_bases cdv A0 outer s H E) rfl
  exact (ms_cons (ms_set (i := 1) sc_d_law_bases.nd rfl (by first | exact Or.inl rfl | exact Or.inr rfl) (m_lst (m_cons (m_isX (u := .ref A.C0) (cv := .ref A.C0) T.xi_4 rfl (fun _ h => h) rfl T.n_isinstance (m_var (pv 0)) (pe_glob (v := .ref A.C0) rfl T.g_MarksError rfl)) (m_cons (m_isX (u := .type "ValueError") (cv := .ty "ValueError") T.xi_3 rfl (fun _ h => h) rfl T.n_isinstance (m_var (pv 0)) (pe_bltn (v := .ty "ValueError") (by rfl) T.n_ValueError (by decide +kernel) rfl)) (m_cons (m_isX (u := .type "OverflowError") (cv := .ty "OverflowError") T.xi_2 rfl (fun _ h => h) rfl T.n_isinstance (m_var (pv 0)) (pe_bltn (v := .ty "OverflowError") (by rfl) T.n_OverflowError (by decide +kernel) rfl)) m_nil)))))
    (ms_one (ms_ret (m_op op_addAny r2_add (m_var (pv 1)) (m_lst (m_cons (m_isX (u := .type "LookupError") (cv := .ty "LookupError") T.xi_1 rfl (fun _ h => h) rfl T.n_isinstance (m_var (pv 0)) (pe_bltn (v := .ty "LookupError") (by rfl) T.n_LookupError (by decide +kernel) rfl)) (m_cons (m_isX (u := .ref A.C13) (cv := .ref A.C13) T.xi_0 rfl (fun _ h => h) rfl T.n_isinstance (m_var (pv 0)) (pe_glob (v := .ref A.C13) rfl T.g_NothingLeft rfl)) m_nil)))))))
theorem ok_d_law_kinds (T : Txt P w K mg base A) : FnOk P w K mg base (Cq (hotC A) P w) 1 A.f_d_law_kinds A.fd_d_law_kinds ps_d_law_kinds (spM (gb K A) c_d_law_kinds 1) := by
  refine okXQ T.F_d_law_kinds sc_d_law_kinds (fun vs H Q E h => h.1) (fun cdv A0 outer s H vs Q E hr h => ⟨_, ?_, def_run (N := names_d_law_kinds) h⟩)
  have tk0 := tk_of (hot := hotC A) (X := cxOf (Cq (hotC A) P w) P w K mg base names_d_law_kinds "_law_kinds" (defScope s_d_law_kinds) A.f_d_law_kinds cdv A0 outer s H E) rfl rfl rfl rfl
  have po0 := passes_of (X := cxOf (Cq (hotC A) P w) P w K mg base names_d_law_kinds "_law_kinds" (defScope s_d_law_kinds) A.f_d_law_kinds cdv A0 outer s H E) rfl
  exact (ms_cons (ms_set (i := 1) sc_d_law_kinds.nd rfl (by first | exact Or.inl rfl | exact Or.inr rfl) (m_lst (m_cons (m_isX (u := .ref A.C1) (cv := .ref A.C1) T.xi_16 rfl (fun _ h => h) rfl T.n_isinstance (m_var (pv 0)) (pe_glob (v := .ref A.C1) rfl T.g_BadCrowd rfl)) (m_cons (m_isX (u := .ref A.C2) (cv := .ref A.C2) T.xi_15 rfl (fun _ h => h) rfl T.n_isinstance (m_var (pv 0)) (pe_glob (v := .ref A.C2) rfl T.g_BadPage rfl)) (m_cons (m_isX (u := .ref A.C3) (cv := .ref A.C3) T.xi_14 rfl (fun _ h => h) rfl T.n_isinstance (m_var (pv 0)) (pe_glob (v := .ref A.C3) rfl T.g_BadRule rfl)) (m_cons (m_isX (u := .ref A.C4) (cv := .ref A.C4) T.xi_13 rfl (fun _ h => h) rfl T.n_isinstance (m_var (pv 0)) (pe_glob (v := .ref A.C4) rfl T.g_BadPair rfl)) m_nil))))))
    (ms_cons (ms_set (i := 1) sc_d_law_kinds.nd rfl (by first | exact Or.inl rfl | exact Or.inr rfl) (m_op op_addAny r2_add (m_var (pv 1)) (m_lst (m_cons (m_isX (u := .ref A.C5) (cv := .ref A.C5) T.xi_12 rfl (fun _ h => h) rfl T.n_isinstance (m_var (pv 0)) (pe_glob (v := .ref A.C5) rfl T.g_BadMark rfl)) (m_cons (m_isX (u := .ref A.C6) (cv := .ref A.C6) T.xi_11 rfl (fun _ h => h) rfl T.n_isinstance (m_var (pv 0)) (pe_glob (v := .ref A.C6) rfl T.g_BadArgument rfl)) (m_cons (m_isX (u := .ref A.C7) (cv := .ref A.C7) T.xi_10 rfl (fun _ h => h) rfl T.n_isinstance (m_var (pv 0)) (pe_glob (v := .ref A.C7) rfl T.g_BadNumber rfl)) m_nil))))))
    (ms_cons (ms_set (i := 1) sc_d_law_kinds.nd rfl (by first | exact Or.inl rfl | exact Or.inr rfl) (m_op op_addAny r2_add (m_var (pv 1)) (m_lst (m_cons (m_isX (u := .ref A.C8) (cv := .ref A.C8) T.xi_9 rfl (fun _ h => h) rfl T.n_isinstance (m_var (pv 0)) (pe_glob (v := .ref A.C8) rfl T.g_BadChange rfl)) (m_cons (m_isX (u := .ref A.C9) (cv := .ref A.C9) T.xi_8 rfl (fun _ h => h) rfl T.n_isinstance (m_var (pv 0)) (pe_glob (v := .ref A.C9) rfl T.g_BadCommand rfl)) (m_cons (m_isX (u := .ref A.C10) (cv := .ref A.C10) T.xi_7 rfl (fun _ h => h) rfl T.n_isinstance (m_var (pv 0)) (pe_glob (v := .ref A.C10) rfl T.g_BadText rfl)) m_nil))))))
    (ms_one (ms_ret (m_op op_addAny r2_add (m_var (pv 1)) (m_lst (m_cons (m_isX (u := .ref A.C11) (cv := .ref A.C11) T.xi_6 rfl (fun _ h => h) rfl T.n_isinstance (m_var (pv 0)) (pe_glob (v := .ref A.C11) rfl T.g_TooMany rfl)) (m_cons (m_isX (u := .ref A.C12) (cv := .ref A.C12) T.xi_5 rfl (fun _ h => h) rfl T.n_isinstance (m_var (pv 0)) (pe_glob (v := .ref A.C12) rfl T.g_NotThere rfl)) m_nil)))))))))
theorem ok_law (T : Txt P w K mg base A) : FnG P w K mg base (Cq (hotC A) P w) 4 A.f_law A.fd_law ps_law (spM (gb K A) c_law 1) := by
  refine okG T.F_law sc_law (fun vs H Q E h => h.1) (fun cdv A0 outer s H vs Q E hr h => ⟨_, ?_, def_run (N := names_law) h⟩)
  have tk0 := tk_of (hot := hotC A) (X := cxOf (Cq (hotC A) P w) P w K mg base names_law "law" (defScope s_law) A.f_law cdv A0 outer s H E) rfl rfl rfl rfl
  have po0 := passes_of (X := cxOf (Cq (hotC A) P w) P w K mg base names_law "law" (defScope s_law) A.f_law cdv A0 outer s H E) rfl
  exact (ms_cons (ms_for po0 rfl (mi_rng1 rfl T.n_range (m_cons (m_callB (call_mx rfl) rc_max2 (by rfl) T.n_max (by decide +kernel) (m_cons (m_c pe_int (fun _ => .int _)) (m_cons (m_callB (call_mn rfl) rc_min2 (by rfl) T.n_min (by decide +kernel) (m_cons (m_callB call_lenA rc_lenA (by rfl) T.n_len (by decide +kernel) (m_cons (m_var (pv 0)) m_nil)) (m_cons (m_c pe_int (fun _ => .int _)) m_nil))) m_nil))) m_nil)) (pg_name (i := 1) sc_law.nd rfl (by first | exact Or.inl rfl | exact Or.inr rfl)) tg_nm (ms_cons (ms_set (i := 2) sc_law.nd rfl (by first | exact Or.inl rfl | exact Or.inr rfl) (m_call (n := 2) (c := c_d_law_opened) tk0 (ok_d_law_opened T) (hr.room.mono (by decide)) rfl T.g_d_law_opened T.k_d_law_opened T.b_d_law_opened (m_cons (m_var (pv 0)) (m_cons (m_var (pv 1)) m_nil))))
    (ms_cons (ms_set (i := 3) sc_law.nd rfl (by first | exact Or.inl rfl | exact Or.inr rfl) (m_lst (m_cons (m_c pe_non (fun _ => .non)) (m_cons (m_c pe_int (fun _ => .int _)) (m_cons (m_un un_neg r1_neg (m_c pe_int (fun _ => .int _))) (m_cons (m_op op_pow (r2_I (da_int _)) (m_c pe_int (fun _ => .int _)) (m_c pe_int (fun _ => .int _))) (m_cons (m_c pe_bl (fun _ => .bl _)) (m_cons (m_c pe_str (fun _ => .str _)) (m_cons (m_c pe_str (fun _ => .str _)) (m_cons (m_tup m_nil) (m_cons (m_tup (m_cons (m_c pe_str (fun _ => .str _)) (m_cons (m_c pe_int (fun _ => .int _)) m_nil))) (m_cons (m_lst m_nil) (m_cons (m_lst (m_cons (m_lst (m_cons (m_c pe_int (fun _ => .int _)) m_nil)) m_nil)) (m_cons m_dnil (m_cons (m_disp (mp_cons (m_c pe_str (fun _ => .str _)) (m_c pe_int (fun _ => .int _)) mp_nil) (by rfl) (by rfl) (fun z => nomatch z) (by decide)) m_nil)))))))))))))))
    (ms_cons (ms_set (i := 4) sc_law.nd rfl (by first | exact Or.inl rfl | exact Or.inr rfl) (m_call (n := 2) (c := c_d_law_pick) tk0 (ok_d_law_pick T) (hr.room.mono (by decide)) rfl T.g_d_law_pick T.k_d_law_pick T.b_d_law_pick (m_cons (m_var (pv 2)) (m_cons (m_var (pv 3)) m_nil))))
    (ms_cons (ms_set (i := 5) sc_law.nd rfl (by first | exact Or.inl rfl | exact Or.inr rfl) (m_op op_rep r2_mulL (m_lst (m_cons (m_lst (m_cons (m_c pe_bl (fun _ => .bl _)) (m_cons (m_c pe_bl (fun _ => .bl _)) (m_cons (m_c pe_bl (fun _ => .bl _)) (m_cons (m_c pe_bl (fun _ => .bl _)) (m_cons (m_c pe_bl (fun _ => .bl _)) m_nil)))))) m_nil)) (m_c pe_int (fun _ => .int _))))
    (ms_cons (ms_set (i := 5) sc_law.nd rfl (by first | exact Or.inl rfl | exact Or.inr rfl) (m_op op_addAny r2_add (m_var (pv 5)) (m_lst (m_cons (m_lst (m_cons (m_c pe_bl (fun _ => .bl _)) (m_cons (m_c pe_bl (fun _ => .bl _)) (m_cons (m_c pe_bl (fun _ => .bl _)) (m_cons (m_c pe_bl (fun _ => .bl _)) (m_cons (m_c pe_bl (fun _ => .bl _)) m_nil)))))) (m_cons (m_lst (m_cons (m_c pe_bl (fun _ => .bl _)) (m_cons (m_c pe_bl (fun _ => .bl _)) (m_cons (m_c pe_bl (fun _ => .bl _)) (m_cons (m_c pe_bl (fun _ => .bl _)) (m_cons (m_c pe_bl (fun _ => .bl _)) m_nil)))))) m_nil)))))
    (ms_cons (ms_for po0 rfl (mi_list (m_lst (m_cons (m_call (n := 1) (c := c_d_law_made_errors) tk0 (ok_d_law_made_errors T) (hr.room.mono (by decide)) rfl T.g_d_law_made_errors T.k_d_law_made_errors T.b_d_law_made_errors (m_cons (m_var (pv 4)) m_nil)) (m_cons (m_call (n := 1) (c := c_d_law_named_errors) tk0 (ok_d_law_named_errors T) (hr.room.mono (by decide)) rfl T.g_d_law_named_errors T.k_d_law_named_errors T.b_d_law_named_errors (m_cons (m_var (pv 4)) m_nil)) m_nil)))) (pg_name (i := 6) sc_law.nd rfl (by first | exact Or.inl rfl | exact Or.inr rfl)) tg_nm (ms_cons (ms_if (PW.pt (m_or (m_tcmp (op_neD (hu64 hr.room)) r2_ne (m_callB (call_reprXA hr.none_ hr.room.units) rc_reprX (by rfl) T.n_repr (by decide +kernel) (m_cons (m_call (n := 1) (c := c_d_law_fields) tk0 (ok_d_law_fields T) (hr.room.mono (by decide)) rfl T.g_d_law_fields T.k_d_law_fields T.b_d_law_fields (m_cons (m_var (pv 6)) m_nil)) m_nil)) (m_callB (call_reprXA hr.none_ hr.room.units) rc_reprX (by rfl) T.n_repr (by decide +kernel) (m_cons (m_op op_rep r2_mulL (m_lst (m_cons (m_var (pv 4)) m_nil)) (m_c pe_int (fun _ => .int _))) m_nil)) (nomark _)) (pw_or1 (m_tcmp (op_neD (hu64 hr.room)) r2_ne (m_lc (W0 := M.W0) (own := [("_law_one", 8)]) rfl sc_law.nd (mi_list (m_var (pv 6))) (blkOk_by (own := [("_law_one", 8)]) (N := names_law) (sc := defScope s_law) (by decide +kernel)) (fun _ _ _ _ _ => (pg_name (i := 8) sc_law.nd rfl (by first | exact Or.inl rfl | exact Or.inr rfl))) (fun _ _ _ _ _ => mts_nil) (fun _ _ _ _ _ => (m_call (n := 1) (c := c_d_law_bases) (Tk.of takes0) (ok_d_law_bases T) (hr.room.mono (by decide)) rfl T.g_d_law_bases T.k_d_law_bases T.b_d_law_bases (m_cons (m_var (pv 8)) m_nil))) tg_nm (by decide)) (m_var (pv 5)) (nomark _))))) mss_never ms_nil)
    (ms_one (ms_for po0 rfl (mi_enum rfl T.n_enumerate rfl (m_var (pv 6))) (pg_tup (n := 2) rfl (pgs_cons (pg_name (i := 7) sc_law.nd rfl (by first | exact Or.inl rfl | exact Or.inr rfl)) (pgs_cons (pg_name (i := 8) sc_law.nd rfl (by first | exact Or.inl rfl | exact Or.inr rfl)) pgs_nil))) (tg_tp (is := [7, 8])) (ms_one (ms_if (m_tcmp (op_neD (hu64 hr.room)) r2_ne (m_call (n := 1) (c := c_d_law_kinds) tk0 (ok_d_law_kinds T) (hr.room.mono (by decide)) rfl T.g_d_law_kinds T.k_d_law_kinds T.b_d_law_kinds (m_cons (m_var (pv 8)) m_nil)) (m_lc (W0 := M.W0) (own := [("_law_where", 9)]) rfl sc_law.nd (mi_rng1 rfl T.n_range (m_cons (m_c pe_int (fun _ => .int _)) m_nil)) (blkOk_by (own := [("_law_where", 9)]) (N := names_law) (sc := defScope s_law) (by decide +kernel)) (fun _ _ _ _ _ => (pg_name (i := 9) sc_law.nd rfl (by first | exact Or.inl rfl | exact Or.inr rfl))) (fun _ _ _ _ _ => mts_nil) (fun _ _ _ _ _ => (m_cmp (op_eqD (hu64 hr.room)) r2_eq (m_var (pv 9)) (m_var (pv 7)) (nomark _))) tg_nm (by decide)) (nomark _)) mss_never ms_nil))))))
    (ms_cons (ms_if (PW.pt (m_or (m_tcmp (op_neD (hu64 hr.room)) r2_ne (m_call (n := 1) (c := c_d_law_bases) tk0 (ok_d_law_bases T) (hr.room.mono (by decide)) rfl T.g_d_law_bases T.k_d_law_bases T.b_d_law_bases (m_cons (m_mkX0 (c := 13) PySem.F.excBase_LookupError T.xi0_NothingLeft T.kc0_NothingLeft rfl T.g_NothingLeft) m_nil)) (m_lst (m_cons (m_c pe_bl (fun _ => .bl _)) (m_cons (m_c pe_bl (fun _ => .bl _)) (m_cons (m_c pe_bl (fun _ => .bl _)) (m_cons (m_c pe_bl (fun _ => .bl _)) (m_cons (m_c pe_bl (fun _ => .bl _)) m_nil)))))) (nomark _)) (pw_or1 (m_val (m_isX (u := .ref A.C12) (cv := .ref A.C12) T.xi_17 rfl (fun _ h => h) rfl T.n_isinstance (m_mkX0 (c := 13) PySem.F.excBase_LookupError T.xi0_NothingLeft T.kc0_NothingLeft rfl T.g_NothingLeft) (pe_glob (v := .ref A.C12) rfl T.g_NotThere rfl)))))) mss_never ms_nil)
    (ms_one (ms_if (m_tcmp (op_neD (hu64 hr.room)) r2_ne (m_call (n := 1) (c := c_d_law_bases) tk0 (ok_d_law_bases T) (hr.room.mono (by decide)) rfl T.g_d_law_bases T.k_d_law_bases T.b_d_law_bases (m_cons (m_mkX1 (c := 0) PySem.F.excBase_ValueError T.xi0_MarksError T.kc0_MarksError rfl T.g_MarksError (m_c pe_str (fun _ => .str _))) m_nil)) (m_lst (m_cons (m_c pe_bl (fun _ => .bl _)) (m_cons (m_c pe_bl (fun _ => .bl _)) (m_cons (m_c pe_bl (fun _ => .bl _)) (m_cons (m_c pe_bl (fun _ => .bl _)) (m_cons (m_c pe_bl (fun _ => .bl _)) m_nil)))))) (nomark _)) mss_never ms_nil))))))))))
    (ms_one (ms_ret (m_c pe_bl (fun _ => .bl _)))))
end
theorem all_mk {P : Program} {w : World} {K : PySem.W.Frag} {h : Heap} {mg : Str → Option Value} {fa : Addr} (X : K.In h) (G : h.Ns mainGlobals mg) (hfa : mg "law" = some (.ref fa))
    {C0 C1 C2 C3 C4 C5 C6 C7 C8 C9 C10 C11 C12 C13 f_d_law_opened f_d_law_draw f_d_law_pick f_BadCrowd_new f_BadPage_new f_BadRule_new f_BadPair_new f_BadMark_new f_BadArgument_new f_BadNumber_new f_BadChange_new f_BadCommand_new f_BadText_new f_TooMany_new f_NotThere_new f_d_law_made_errors f_d_law_named_errors f_d_law_fields f_d_law_bases f_d_law_kinds f_law N10 N9 N8 N7 N6 N5 N4 N3 N2 N1 : Addr}
    {oc_d_law_opened kV_d_law_opened dc_d_law_opened pm_d_law_opened cd_d_law_opened ct_d_law_opened oc_d_law_draw kV_d_law_draw dc_d_law_draw pm_d_law_draw cd_d_law_draw ct_d_law_draw oc_d_law_pick kV_d_law_pick dc_d_law_pick pm_d_law_pick cd_d_law_pick ct_d_law_pick oc_BadCrowd_new kV_BadCrowd_new dc_BadCrowd_new pm_BadCrowd_new cd_BadCrowd_new ct_BadCrowd_new oc_BadPage_new kV_BadPage_new dc_BadPage_new pm_BadPage_new cd_BadPage_new ct_BadPage_new oc_BadRule_new kV_BadRule_new dc_BadRule_new pm_BadRule_new cd_BadRule_new ct_BadRule_new oc_BadPair_new kV_BadPair_new dc_BadPair_new pm_BadPair_new cd_BadPair_new ct_BadPair_new oc_BadMark_new kV_BadMark_new dc_BadMark_new pm_BadMark_new cd_BadMark_new ct_BadMark_new oc_BadArgument_new kV_BadArgument_new dc_BadArgument_new pm_BadArgument_new cd_BadArgument_new ct_BadArgument_new oc_BadNumber_new kV_BadNumber_new dc_BadNumber_new pm_BadNumber_new cd_BadNumber_new ct_BadNumber_new oc_BadChange_new kV_BadChange_new dc_BadChange_new pm_BadChange_new cd_BadChange_new ct_BadChange_new oc_BadCommand_new kV_BadCommand_new dc_BadCommand_new pm_BadCommand_new cd_BadCommand_new ct_BadCommand_new oc_BadText_new kV_BadText_new dc_BadText_new pm_BadText_new cd_BadText_new ct_BadText_new oc_TooMany_new kV_TooMany_new dc_TooMany_new pm_TooMany_new cd_TooMany_new ct_TooMany_new oc_NotThere_new kV_NotThere_new dc_NotThere_new pm_NotThere_new cd_NotThere_new ct_NotThere_new oc_d_law_made_errors kV_d_law_made_errors dc_d_law_made_errors pm_d_law_made_errors cd_d_law_made_errors ct_d_law_made_errors oc_d_law_named_errors kV_d_law_named_errors dc_d_law_named_errors pm_d_law_named_errors cd_d_law_named_errors ct_d_law_named_errors oc_d_law_fields kV_d_law_fields dc_d_law_fields pm_d_law_fields cd_d_law_fields ct_d_law_fields oc_d_law_bases kV_d_law_bases dc_d_law_bases pm_d_law_bases cd_d_law_bases ct_d_law_bases oc_d_law_kinds kV_d_law_kinds dc_d_law_kinds pm_d_law_kinds cd_d_law_kinds ct_d_law_kinds oc_law kV_law dc_law pm_law cd_law ct_law : Value}
    {od_d_law_opened an_d_law_opened od_d_law_draw an_d_law_draw od_d_law_pick an_d_law_pick od_BadCrowd_new an_BadCrowd_new od_BadPage_new an_BadPage_new od_BadRule_new an_BadRule_new od_BadPair_new an_BadPair_new od_BadMark_new an_BadMark_new od_BadArgument_new an_BadArgument_new od_BadNumber_new an_BadNumber_new od_BadChange_new an_BadChange_new od_BadCommand_new an_BadCommand_new od_BadText_new an_BadText_new od_TooMany_new an_TooMany_new od_NotThere_new an_NotThere_new od_d_law_made_errors an_d_law_made_errors od_d_law_named_errors an_d_law_named_errors od_d_law_fields an_d_law_fields od_d_law_bases an_d_law_bases od_d_law_kinds an_d_law_kinds od_law an_law dd10 dd9 dd8 dd7 dd6 dd5 dd4 dd3 dd2 dd1 : Option Addr}
    {sl_d_law_opened sl_d_law_draw sl_d_law_pick sl_BadCrowd_new sl_BadPage_new sl_BadRule_new sl_BadPair_new sl_BadMark_new sl_BadArgument_new sl_BadNumber_new sl_BadChange_new sl_BadCommand_new sl_BadText_new sl_TooMany_new sl_NotThere_new sl_d_law_made_errors sl_d_law_named_errors sl_d_law_fields sl_d_law_bases sl_d_law_kinds sl_law : Array (Option Value)}
    {nm10 qn10 nm9 qn9 nm8 qn8 nm7 qn7 nm6 qn6 nm5 qn5 nm4 qn4 nm3 qn3 nm2 qn2 nm1 qn1 : Str}
    {bs10 su10 bs9 su9 bs8 su8 bs7 su7 bs6 su6 bs5 su5 bs4 su4 bs3 su3 bs2 su2 bs1 su1 : List Value}
    {sn10 sn9 sn8 sn7 sn6 sn5 sn4 sn3 sn2 sn1 : List Str}
    {ab10 ab9 ab8 ab7 ab6 ab5 ab4 ab3 ab2 ab1 : Bool}
    {co10 co9 co8 co7 co6 co5 co4 co3 co2 co1 : Option Bool}
    {m0_10 m1_10 m2_10 m3_10 m5_10 m0_9 m1_9 m2_9 m3_9 m5_9 m0_8 m1_8 m2_8 m3_8 m5_8 m0_7 m1_7 m2_7 m3_7 m5_7 m0_6 m1_6 m2_6 m3_6 m5_6 m0_5 m1_5 m2_5 m3_5 m5_5 m0_4 m1_4 m2_4 m3_4 m5_4 m0_3 m1_3 m2_3 m3_3 m5_3 m0_2 m1_2 m2_2 m3_2 m5_2 m0_1 m1_1 m2_1 m3_1 m5_1 : Option Value}
    (z_int : PySem.W.nsIn K mainGlobals "int" = some none)
    (z_max : PySem.W.nsIn K mainGlobals "max" = some none)
    (z_len : PySem.W.nsIn K mainGlobals "len" = some none)
    (z_OverflowError : PySem.W.nsIn K mainGlobals "OverflowError" = some none)
    (z_LookupError : PySem.W.nsIn K mainGlobals "LookupError" = some none)
    (z_isinstance : PySem.W.nsIn K mainGlobals "isinstance" = some none)
    (z_ValueError : PySem.W.nsIn K mainGlobals "ValueError" = some none)
    (z_min : PySem.W.nsIn K mainGlobals "min" = some none)
    (z_range : PySem.W.nsIn K mainGlobals "range" = some none)
    (z_enumerate : PySem.W.nsIn K mainGlobals "enumerate" = some none)
    (z_repr : PySem.W.nsIn K mainGlobals "repr" = some none)
    (a_MarksError : PySem.W.nsIn K mainGlobals "MarksError" = some (some (.ref C0)))
    (a_BadCrowd : PySem.W.nsIn K mainGlobals "BadCrowd" = some (some (.ref C1)))
    (a_BadPage : PySem.W.nsIn K mainGlobals "BadPage" = some (some (.ref C2)))
    (a_BadRule : PySem.W.nsIn K mainGlobals "BadRule" = some (some (.ref C3)))
    (a_BadPair : PySem.W.nsIn K mainGlobals "BadPair" = some (some (.ref C4)))
    (a_BadMark : PySem.W.nsIn K mainGlobals "BadMark" = some (some (.ref C5)))
    (a_BadArgument : PySem.W.nsIn K mainGlobals "BadArgument" = some (some (.ref C6)))
    (a_BadNumber : PySem.W.nsIn K mainGlobals "BadNumber" = some (some (.ref C7)))
    (a_BadChange : PySem.W.nsIn K mainGlobals "BadChange" = some (some (.ref C8)))
    (a_BadCommand : PySem.W.nsIn K mainGlobals "BadCommand" = some (some (.ref C9)))
    (a_BadText : PySem.W.nsIn K mainGlobals "BadText" = some (some (.ref C10)))
    (a_TooMany : PySem.W.nsIn K mainGlobals "TooMany" = some (some (.ref C11)))
    (a_NotThere : PySem.W.nsIn K mainGlobals "NotThere" = some (some (.ref C12)))
    (a_NothingLeft : PySem.W.nsIn K mainGlobals "NothingLeft" = some (some (.ref C13)))
    (a_d_law_opened : PySem.W.nsIn K mainGlobals "_law_opened" = some (some (.ref f_d_law_opened)))
    (l_d_law_opened : K.lookup f_d_law_opened = some ⟨oc_d_law_opened, od_d_law_opened, .func (PySem.W.fnOf "_law_opened" "_law_opened" (defArgs s_d_law_opened) (defBody s_d_law_opened) (defScope s_d_law_opened) .none kV_d_law_opened dc_d_law_opened pm_d_law_opened an_d_law_opened cd_d_law_opened ct_d_law_opened), sl_d_law_opened⟩)
    (c_d_law_opened : PySem.W.codeIn K cd_d_law_opened "_law_opened" = true)
    (k_d_law_opened : PySem.W.keepIn K (.ref f_d_law_opened) = true)
    (a_d_law_draw : PySem.W.nsIn K mainGlobals "_law_draw" = some (some (.ref f_d_law_draw)))
    (l_d_law_draw : K.lookup f_d_law_draw = some ⟨oc_d_law_draw, od_d_law_draw, .func (PySem.W.fnOf "_law_draw" "_law_draw" (defArgs s_d_law_draw) (defBody s_d_law_draw) (defScope s_d_law_draw) .none kV_d_law_draw dc_d_law_draw pm_d_law_draw an_d_law_draw cd_d_law_draw ct_d_law_draw), sl_d_law_draw⟩)
    (c_d_law_draw : PySem.W.codeIn K cd_d_law_draw "_law_draw" = true)
    (k_d_law_draw : PySem.W.keepIn K (.ref f_d_law_draw) = true)
    (a_d_law_pick : PySem.W.nsIn K mainGlobals "_law_pick" = some (some (.ref f_d_law_pick)))
    (l_d_law_pick : K.lookup f_d_law_pick = some ⟨oc_d_law_pick, od_d_law_pick, .func (PySem.W.fnOf "_law_pick" "_law_pick" (defArgs s_d_law_pick) (defBody s_d_law_pick) (defScope s_d_law_pick) .none kV_d_law_pick dc_d_law_pick pm_d_law_pick an_d_law_pick cd_d_law_pick ct_d_law_pick), sl_d_law_pick⟩)
    (c_d_law_pick : PySem.W.codeIn K cd_d_law_pick "_law_pick" = true)
    (k_d_law_pick : PySem.W.keepIn K (.ref f_d_law_pick) = true)
    (a_BadCrowd_new : PySem.W.findIn K (.ref C1) "__init__" = some (some (.ref f_BadCrowd_new)))
    (l_BadCrowd_new : K.lookup f_BadCrowd_new = some ⟨oc_BadCrowd_new, od_BadCrowd_new, .func (PySem.W.fnOf "__init__" "BadCrowd.__init__" (defArgs s_BadCrowd_new) (defBody s_BadCrowd_new) (defScope s_BadCrowd_new) .none kV_BadCrowd_new dc_BadCrowd_new pm_BadCrowd_new an_BadCrowd_new cd_BadCrowd_new ct_BadCrowd_new), sl_BadCrowd_new⟩)
    (c_BadCrowd_new : PySem.W.codeIn K cd_BadCrowd_new "BadCrowd.__init__" = true)
    (k_BadCrowd_new : PySem.W.keepIn K (.ref f_BadCrowd_new) = true)
    (a_BadPage_new : PySem.W.findIn K (.ref C2) "__init__" = some (some (.ref f_BadPage_new)))
    (l_BadPage_new : K.lookup f_BadPage_new = some ⟨oc_BadPage_new, od_BadPage_new, .func (PySem.W.fnOf "__init__" "BadPage.__init__" (defArgs s_BadPage_new) (defBody s_BadPage_new) (defScope s_BadPage_new) .none kV_BadPage_new dc_BadPage_new pm_BadPage_new an_BadPage_new cd_BadPage_new ct_BadPage_new), sl_BadPage_new⟩)
    (c_BadPage_new : PySem.W.codeIn K cd_BadPage_new "BadPage.__init__" = true)
    (k_BadPage_new : PySem.W.keepIn K (.ref f_BadPage_new) = true)
    (a_BadRule_new : PySem.W.findIn K (.ref C3) "__init__" = some (some (.ref f_BadRule_new)))
    (l_BadRule_new : K.lookup f_BadRule_new = some ⟨oc_BadRule_new, od_BadRule_new, .func (PySem.W.fnOf "__init__" "BadRule.__init__" (defArgs s_BadRule_new) (defBody s_BadRule_new) (defScope s_BadRule_new) .none kV_BadRule_new dc_BadRule_new pm_BadRule_new an_BadRule_new cd_BadRule_new ct_BadRule_new), sl_BadRule_new⟩)
    (c_BadRule_new : PySem.W.codeIn K cd_BadRule_new "BadRule.__init__" = true)
    (k_BadRule_new : PySem.W.keepIn K (.ref f_BadRule_new) = true)
    (a_BadPair_new : PySem.W.findIn K (.ref C4) "__init__" = some (some (.ref f_BadPair_new)))
    (l_BadPair_new : K.lookup f_BadPair_new = some ⟨oc_BadPair_new, od_BadPair_new, .func (PySem.W.fnOf "__init__" "BadPair.__init__" (defArgs s_BadPair_new) (defBody s_BadPair_new) (defScope s_BadPair_new) .none kV_BadPair_new dc_BadPair_new pm_BadPair_new an_BadPair_new cd_BadPair_new ct_BadPair_new), sl_BadPair_new⟩)
    (c_BadPair_new : PySem.W.codeIn K cd_BadPair_new "BadPair.__init__" = true)
    (k_BadPair_new : PySem.W.keepIn K (.ref f_BadPair_new) = true)
    (a_BadMark_new : PySem.W.findIn K (.ref C5) "__init__" = some (some (.ref f_BadMark_new)))
    (l_BadMark_new : K.lookup f_BadMark_new = some ⟨oc_BadMark_new, od_BadMark_new, .func (PySem.W.fnOf "__init__" "BadMark.__init__" (defArgs s_BadMark_new) (defBody s_BadMark_new) (defScope s_BadMark_new) .none kV_BadMark_new dc_BadMark_new pm_BadMark_new an_BadMark_new cd_BadMark_new ct_BadMark_new), sl_BadMark_new⟩)
    (c_BadMark_new : PySem.W.codeIn K cd_BadMark_new "BadMark.__init__" = true)
    (k_BadMark_new : PySem.W.keepIn K (.ref f_BadMark_new) = true)
    (a_BadArgument_new : PySem.W.findIn K (.ref C6) "__init__" = some (some (.ref f_BadArgument_new)))
    (l_BadArgument_new : K.lookup f_BadArgument_new = some ⟨oc_BadArgument_new, od_BadArgument_new, .func (PySem.W.fnOf "__init__" "BadArgument.__init__" (defArgs s_BadArgument_new) (defBody s_BadArgument_new) (defScope s_BadArgument_new) .none kV_BadArgument_new dc_BadArgument_new pm_BadArgument_new an_BadArgument_new cd_BadArgument_new ct_BadArgument_new), sl_BadArgument_new⟩)
    (c_BadArgument_new : PySem.W.codeIn K cd_BadArgument_new "BadArgument.__init__" = true)
    (k_BadArgument_new : PySem.W.keepIn K (.ref f_BadArgument_new) = true)
    (a_BadNumber_new : PySem.W.findIn K (.ref C7) "__init__" = some (some (.ref f_BadNumber_new)))
    (l_BadNumber_new : K.lookup f_BadNumber_new = some ⟨oc_BadNumber_new, od_BadNumber_new, .func (PySem.W.fnOf "__init__" "BadNumber.__init__" (defArgs s_BadNumber_new) (defBody s_BadNumber_new) (defScope s_BadNumber_new) .none kV_BadNumber_new dc_BadNumber_new pm_BadNumber_new an_BadNumber_new cd_BadNumber_new ct_BadNumber_new), sl_BadNumber_new⟩)
    (c_BadNumber_new : PySem.W.codeIn K cd_BadNumber_new "BadNumber.__init__" = true)
    (k_BadNumber_new : PySem.W.keepIn K (.ref f_BadNumber_new) = true)
    (a_BadChange_new : PySem.W.findIn K (.ref C8) "__init__" = some (some (.ref f_BadChange_new)))
    (l_BadChange_new : K.lookup f_BadChange_new = some ⟨oc_BadChange_new, od_BadChange_new, .func (PySem.W.fnOf "__init__" "BadChange.__init__" (defArgs s_BadChange_new) (defBody s_BadChange_new) (defScope s_BadChange_new) .none kV_BadChange_new dc_BadChange_new pm_BadChange_new an_BadChange_new cd_BadChange_new ct_BadChange_new), sl_BadChange_new⟩)
    (c_BadChange_new : PySem.W.codeIn K cd_BadChange_new "BadChange.__init__" = true)
    (k_BadChange_new : PySem.W.keepIn K (.ref f_BadChange_new) = true)
    (a_BadCommand_new : PySem.W.findIn K (.ref C9) "__init__" = some (some (.ref f_BadCommand_new)))
    (l_BadCommand_new : K.lookup f_BadCommand_new = some ⟨oc_BadCommand_new, od_BadCommand_new, .func (PySem.W.fnOf "__init__" "BadCommand.__init__" (defArgs s_BadCommand_new) (defBody s_BadCommand_new) (defScope s_BadCommand_new) .none kV_BadCommand_new dc_BadCommand_new pm_BadCommand_new an_BadCommand_new cd_BadCommand_new ct_BadCommand_new), sl_BadCommand_new⟩)
    (c_BadCommand_new : PySem.W.codeIn K cd_BadCommand_new "BadCommand.__init__" = true)
    (k_BadCommand_new : PySem.W.keepIn K (.ref f_BadCommand_new) = true)
    (a_BadText_new : PySem.W.findIn K (.ref C10) "__init__" = some (some (.ref f_BadText_new)))
    (l_BadText_new : K.lookup f_BadText_new = some ⟨oc_BadText_new, od_BadText_new, .func (PySem.W.fnOf "__init__" "BadText.__init__" (defArgs s_BadText_new) (defBody s_BadText_new) (defScope s_BadText_new) .none kV_BadText_new dc_BadText_new pm_BadText_new an_BadText_new cd_BadText_new ct_BadText_new), sl_BadText_new⟩)
    (c_BadText_new : PySem.W.codeIn K cd_BadText_new "BadText.__init__" = true)
    (k_BadText_new : PySem.W.keepIn K (.ref f_BadText_new) = true)
    (a_TooMany_new : PySem.W.findIn K (.ref C11) "__init__" = some (some (.ref f_TooMany_new)))
    (l_TooMany_new : K.lookup f_TooMany_new = some ⟨oc_TooMany_new, od_TooMany_new, .func (PySem.W.fnOf "__init__" "TooMany.__init__" (defArgs s_TooMany_new) (defBody s_TooMany_new) (defScope s_TooMany_new) .none kV_TooMany_new dc_TooMany_new pm_TooMany_new an_TooMany_new cd_TooMany_new ct_TooMany_new), sl_TooMany_new⟩)
    (c_TooMany_new : PySem.W.codeIn K cd_TooMany_new "TooMany.__init__" = true)
    (k_TooMany_new : PySem.W.keepIn K (.ref f_TooMany_new) = true)
    (a_NotThere_new : PySem.W.findIn K (.ref C12) "__init__" = some (some (.ref f_NotThere_new)))
    (l_NotThere_new : K.lookup f_NotThere_new = some ⟨oc_NotThere_new, od_NotThere_new, .func (PySem.W.fnOf "__init__" "NotThere.__init__" (defArgs s_NotThere_new) (defBody s_NotThere_new) (defScope s_NotThere_new) .none kV_NotThere_new dc_NotThere_new pm_NotThere_new an_NotThere_new cd_NotThere_new ct_NotThere_new), sl_NotThere_new⟩)
    (c_NotThere_new : PySem.W.codeIn K cd_NotThere_new "NotThere.__init__" = true)
    (k_NotThere_new : PySem.W.keepIn K (.ref f_NotThere_new) = true)
    (a_d_law_made_errors : PySem.W.nsIn K mainGlobals "_law_made_errors" = some (some (.ref f_d_law_made_errors)))
    (l_d_law_made_errors : K.lookup f_d_law_made_errors = some ⟨oc_d_law_made_errors, od_d_law_made_errors, .func (PySem.W.fnOf "_law_made_errors" "_law_made_errors" (defArgs s_d_law_made_errors) (defBody s_d_law_made_errors) (defScope s_d_law_made_errors) .none kV_d_law_made_errors dc_d_law_made_errors pm_d_law_made_errors an_d_law_made_errors cd_d_law_made_errors ct_d_law_made_errors), sl_d_law_made_errors⟩)
    (c_d_law_made_errors : PySem.W.codeIn K cd_d_law_made_errors "_law_made_errors" = true)
    (k_d_law_made_errors : PySem.W.keepIn K (.ref f_d_law_made_errors) = true)
    (a_d_law_named_errors : PySem.W.nsIn K mainGlobals "_law_named_errors" = some (some (.ref f_d_law_named_errors)))
    (l_d_law_named_errors : K.lookup f_d_law_named_errors = some ⟨oc_d_law_named_errors, od_d_law_named_errors, .func (PySem.W.fnOf "_law_named_errors" "_law_named_errors" (defArgs s_d_law_named_errors) (defBody s_d_law_named_errors) (defScope s_d_law_named_errors) .none kV_d_law_named_errors dc_d_law_named_errors pm_d_law_named_errors an_d_law_named_errors cd_d_law_named_errors ct_d_law_named_errors), sl_d_law_named_errors⟩)
    (c_d_law_named_errors : PySem.W.codeIn K cd_d_law_named_errors "_law_named_errors" = true)
    (k_d_law_named_errors : PySem.W.keepIn K (.ref f_d_law_named_errors) = true)
    (a_d_law_fields : PySem.W.nsIn K mainGlobals "_law_fields" = some (some (.ref f_d_law_fields)))
    (l_d_law_fields : K.lookup f_d_law_fields = some ⟨oc_d_law_fields, od_d_law_fields, .func (PySem.W.fnOf "_law_fields" "_law_fields" (defArgs s_d_law_fields) (defBody s_d_law_fields) (defScope s_d_law_fields) .none kV_d_law_fields dc_d_law_fields pm_d_law_fields an_d_law_fields cd_d_law_fields ct_d_law_fields), sl_d_law_fields⟩)
    (c_d_law_fields : PySem.W.codeIn K cd_d_law_fields "_law_fields" = true)
    (k_d_law_fields : PySem.W.keepIn K (.ref f_d_law_fields) = true)
    (a_d_law_bases : PySem.W.nsIn K mainGlobals "_law_bases" = some (some (.ref f_d_law_bases)))
    (l_d_law_bases : K.lookup f_d_law_bases = some ⟨oc_d_law_bases, od_d_law_bases, .func (PySem.W.fnOf "_law_bases" "_law_bases" (defArgs s_d_law_bases) (defBody s_d_law_bases) (defScope s_d_law_bases) .none kV_d_law_bases dc_d_law_bases pm_d_law_bases an_d_law_bases cd_d_law_bases ct_d_law_bases), sl_d_law_bases⟩)
    (c_d_law_bases : PySem.W.codeIn K cd_d_law_bases "_law_bases" = true)
    (k_d_law_bases : PySem.W.keepIn K (.ref f_d_law_bases) = true)
    (a_d_law_kinds : PySem.W.nsIn K mainGlobals "_law_kinds" = some (some (.ref f_d_law_kinds)))
    (l_d_law_kinds : K.lookup f_d_law_kinds = some ⟨oc_d_law_kinds, od_d_law_kinds, .func (PySem.W.fnOf "_law_kinds" "_law_kinds" (defArgs s_d_law_kinds) (defBody s_d_law_kinds) (defScope s_d_law_kinds) .none kV_d_law_kinds dc_d_law_kinds pm_d_law_kinds an_d_law_kinds cd_d_law_kinds ct_d_law_kinds), sl_d_law_kinds⟩)
    (c_d_law_kinds : PySem.W.codeIn K cd_d_law_kinds "_law_kinds" = true)
    (k_d_law_kinds : PySem.W.keepIn K (.ref f_d_law_kinds) = true)
    (a_law : PySem.W.nsIn K mainGlobals "law" = some (some (.ref f_law)))
    (l_law : K.lookup f_law = some ⟨oc_law, od_law, .func (PySem.W.fnOf "law" "law" (defArgs s_law) (defBody s_law) (defScope s_law) .none kV_law dc_law pm_law an_law cd_law ct_law), sl_law⟩)
    (c_law : PySem.W.codeIn K cd_law "law" = true)
    (k_law : PySem.W.keepIn K (.ref f_law) = true)
    (fb_OverflowError : PySem.W.findCls K (.type "OverflowError") (.type "type") "__init__" = some (.val (.builtin "OverflowError.__init__")))
    (fb_LookupError : PySem.W.findCls K (.type "LookupError") (.type "type") "__init__" = some (.val (.builtin "LookupError.__init__")))
    (rxi0_MarksError : PySem.W.excIn K C0 [.type "ValueError", .type "Exception", .type "BaseException", .type "object"] "ValueError.__new__" = true)
    (rkc0_MarksError : PySem.W.keepIn K (.ref C0) = true)
    (be_MarksError : PySem.W.subIn K (.ref C0) (.type "BaseException") = some true)
    (ty_MarksError : PySem.W.typeIn K (.ref C0) = some (.type "type"))
    (hd_MarksError : PySem.W.hasDictIn K C0 = true)
    (rxi0_NothingLeft : PySem.W.excIn K C13 [.type "LookupError", .type "Exception", .type "BaseException", .type "object"] "LookupError.__new__" = true)
    (rkc0_NothingLeft : PySem.W.keepIn K (.ref C13) = true)
    (be_NothingLeft : PySem.W.subIn K (.ref C13) (.type "BaseException") = some true)
    (ty_NothingLeft : PySem.W.typeIn K (.ref C13) = some (.type "type"))
    (hd_NothingLeft : PySem.W.hasDictIn K C13 = true)
    (xin_TooMany : PySem.W.excInitIn K C11 [.type "OverflowError", .type "ArithmeticError", .type "Exception", .type "BaseException", .type "object"] "OverflowError.__new__" = true)
    (xov_TooMany : PySem.W.excOver K C11 [.type "OverflowError", .type "ArithmeticError", .type "Exception", .type "BaseException", .type "object"] = true)
    (hd_TooMany : PySem.W.hasDictIn K C11 = true)
    (sa_TooMany : PySem.W.findIn K (.ref C11) "__setattr__" = some (some (.builtin "object.__setattr__")))
    (be_TooMany : PySem.W.subIn K (.ref C11) (.type "BaseException") = some true)
    (ty_TooMany : PySem.W.typeIn K (.ref C11) = some (.type "type"))
    (kc_TooMany : PySem.W.keepIn K (.ref C11) = true)
    (ti_TooMany : PySem.W.typeIn K (.ref f_TooMany_new) = some (.type "function"))
    (tk_TooMany_most : PySem.W.takerIn K C11 "most" = some none)
    (xin_NotThere : PySem.W.excInitIn K C12 [.type "LookupError", .type "Exception", .type "BaseException", .type "object"] "LookupError.__new__" = true)
    (xov_NotThere : PySem.W.excOver K C12 [.type "LookupError", .type "Exception", .type "BaseException", .type "object"] = true)
    (hd_NotThere : PySem.W.hasDictIn K C12 = true)
    (sa_NotThere : PySem.W.findIn K (.ref C12) "__setattr__" = some (some (.builtin "object.__setattr__")))
    (be_NotThere : PySem.W.subIn K (.ref C12) (.type "BaseException") = some true)
    (ty_NotThere : PySem.W.typeIn K (.ref C12) = some (.type "type"))
    (kc_NotThere : PySem.W.keepIn K (.ref C12) = true)
    (ti_NotThere : PySem.W.typeIn K (.ref f_NotThere_new) = some (.type "function"))
    (tk_NotThere_word : PySem.W.takerIn K C12 "word" = some none)
    (x_BadText : K.lookup C10 = some (excClassObj nm10 qn10 C10 N10 bs10 [.ref C0, .type "ValueError", .type "Exception", .type "BaseException", .type "object"] true sn10 su10 ab10 co10 dd10 m0_10 m1_10 m2_10 m3_10 m5_10 "ValueError.__new__"))
    (sa_BadText : PySem.W.findIn K (.ref C10) "__setattr__" = some (some (.builtin "object.__setattr__")))
    (be_BadText : PySem.W.subIn K (.ref C10) (.type "BaseException") = some true)
    (ty_BadText : PySem.W.typeIn K (.ref C10) = some (.type "type"))
    (kc_BadText : PySem.W.keepIn K (.ref C10) = true)
    (ti_BadText : PySem.W.typeIn K (.ref f_BadText_new) = some (.type "function"))
    (x_BadCommand : K.lookup C9 = some (excClassObj nm9 qn9 C9 N9 bs9 [.ref C0, .type "ValueError", .type "Exception", .type "BaseException", .type "object"] true sn9 su9 ab9 co9 dd9 m0_9 m1_9 m2_9 m3_9 m5_9 "ValueError.__new__"))
    (sa_BadCommand : PySem.W.findIn K (.ref C9) "__setattr__" = some (some (.builtin "object.__setattr__")))
    (be_BadCommand : PySem.W.subIn K (.ref C9) (.type "BaseException") = some true)
    (ty_BadCommand : PySem.W.typeIn K (.ref C9) = some (.type "type"))
    (kc_BadCommand : PySem.W.keepIn K (.ref C9) = true)
    (ti_BadCommand : PySem.W.typeIn K (.ref f_BadCommand_new) = some (.type "function"))
    (x_BadChange : K.lookup C8 = some (excClassObj nm8 qn8 C8 N8 bs8 [.ref C0, .type "ValueError", .type "Exception", .type "BaseException", .type "object"] true sn8 su8 ab8 co8 dd8 m0_8 m1_8 m2_8 m3_8 m5_8 "ValueError.__new__"))
    (sa_BadChange : PySem.W.findIn K (.ref C8) "__setattr__" = some (some (.builtin "object.__setattr__")))
    (be_BadChange : PySem.W.subIn K (.ref C8) (.type "BaseException") = some true)
    (ty_BadChange : PySem.W.typeIn K (.ref C8) = some (.type "type"))
    (kc_BadChange : PySem.W.keepIn K (.ref C8) = true)
    (ti_BadChange : PySem.W.typeIn K (.ref f_BadChange_new) = some (.type "function"))
    (x_BadNumber : K.lookup C7 = some (excClassObj nm7 qn7 C7 N7 bs7 [.ref C0, .type "ValueError", .type "Exception", .type "BaseException", .type "object"] true sn7 su7 ab7 co7 dd7 m0_7 m1_7 m2_7 m3_7 m5_7 "ValueError.__new__"))
    (sa_BadNumber : PySem.W.findIn K (.ref C7) "__setattr__" = some (some (.builtin "object.__setattr__")))
    (be_BadNumber : PySem.W.subIn K (.ref C7) (.type "BaseException") = some true)
    (ty_BadNumber : PySem.W.typeIn K (.ref C7) = some (.type "type"))
    (kc_BadNumber : PySem.W.keepIn K (.ref C7) = true)
    (ti_BadNumber : PySem.W.typeIn K (.ref f_BadNumber_new) = some (.type "function"))
    (x_BadArgument : K.lookup C6 = some (excClassObj nm6 qn6 C6 N6 bs6 [.ref C0, .type "ValueError", .type "Exception", .type "BaseException", .type "object"] true sn6 su6 ab6 co6 dd6 m0_6 m1_6 m2_6 m3_6 m5_6 "ValueError.__new__"))
    (sa_BadArgument : PySem.W.findIn K (.ref C6) "__setattr__" = some (some (.builtin "object.__setattr__")))
    (be_BadArgument : PySem.W.subIn K (.ref C6) (.type "BaseException") = some true)
    (ty_BadArgument : PySem.W.typeIn K (.ref C6) = some (.type "type"))
    (kc_BadArgument : PySem.W.keepIn K (.ref C6) = true)
    (ti_BadArgument : PySem.W.typeIn K (.ref f_BadArgument_new) = some (.type "function"))
    (x_BadMark : K.lookup C5 = some (excClassObj nm5 qn5 C5 N5 bs5 [.ref C0, .type "ValueError", .type "Exception", .type "BaseException", .type "object"] true sn5 su5 ab5 co5 dd5 m0_5 m1_5 m2_5 m3_5 m5_5 "ValueError.__new__"))
    (sa_BadMark : PySem.W.findIn K (.ref C5) "__setattr__" = some (some (.builtin "object.__setattr__")))
    (be_BadMark : PySem.W.subIn K (.ref C5) (.type "BaseException") = some true)
    (ty_BadMark : PySem.W.typeIn K (.ref C5) = some (.type "type"))
    (kc_BadMark : PySem.W.keepIn K (.ref C5) = true)
    (ti_BadMark : PySem.W.typeIn K (.ref f_BadMark_new) = some (.type "function"))
    (x_BadPair : K.lookup C4 = some (excClassObj nm4 qn4 C4 N4 bs4 [.ref C0, .type "ValueError", .type "Exception", .type "BaseException", .type "object"] true sn4 su4 ab4 co4 dd4 m0_4 m1_4 m2_4 m3_4 m5_4 "ValueError.__new__"))
    (sa_BadPair : PySem.W.findIn K (.ref C4) "__setattr__" = some (some (.builtin "object.__setattr__")))
    (be_BadPair : PySem.W.subIn K (.ref C4) (.type "BaseException") = some true)
    (ty_BadPair : PySem.W.typeIn K (.ref C4) = some (.type "type"))
    (kc_BadPair : PySem.W.keepIn K (.ref C4) = true)
    (ti_BadPair : PySem.W.typeIn K (.ref f_BadPair_new) = some (.type "function"))
    (x_BadRule : K.lookup C3 = some (excClassObj nm3 qn3 C3 N3 bs3 [.ref C0, .type "ValueError", .type "Exception", .type "BaseException", .type "object"] true sn3 su3 ab3 co3 dd3 m0_3 m1_3 m2_3 m3_3 m5_3 "ValueError.__new__"))
    (sa_BadRule : PySem.W.findIn K (.ref C3) "__setattr__" = some (some (.builtin "object.__setattr__")))
    (be_BadRule : PySem.W.subIn K (.ref C3) (.type "BaseException") = some true)
    (ty_BadRule : PySem.W.typeIn K (.ref C3) = some (.type "type"))
    (kc_BadRule : PySem.W.keepIn K (.ref C3) = true)
    (ti_BadRule : PySem.W.typeIn K (.ref f_BadRule_new) = some (.type "function"))
    (x_BadPage : K.lookup C2 = some (excClassObj nm2 qn2 C2 N2 bs2 [.ref C0, .type "ValueError", .type "Exception", .type "BaseException", .type "object"] true sn2 su2 ab2 co2 dd2 m0_2 m1_2 m2_2 m3_2 m5_2 "ValueError.__new__"))
    (sa_BadPage : PySem.W.findIn K (.ref C2) "__setattr__" = some (some (.builtin "object.__setattr__")))
    (be_BadPage : PySem.W.subIn K (.ref C2) (.type "BaseException") = some true)
    (ty_BadPage : PySem.W.typeIn K (.ref C2) = some (.type "type"))
    (kc_BadPage : PySem.W.keepIn K (.ref C2) = true)
    (ti_BadPage : PySem.W.typeIn K (.ref f_BadPage_new) = some (.type "function"))
    (x_BadCrowd : K.lookup C1 = some (excClassObj nm1 qn1 C1 N1 bs1 [.ref C0, .type "ValueError", .type "Exception", .type "BaseException", .type "object"] true sn1 su1 ab1 co1 dd1 m0_1 m1_1 m2_1 m3_1 m5_1 "ValueError.__new__"))
    (sa_BadCrowd : PySem.W.findIn K (.ref C1) "__setattr__" = some (some (.builtin "object.__setattr__")))
    (be_BadCrowd : PySem.W.subIn K (.ref C1) (.type "BaseException") = some true)
    (ty_BadCrowd : PySem.W.typeIn K (.ref C1) = some (.type "type"))
    (kc_BadCrowd : PySem.W.keepIn K (.ref C1) = true)
    (ti_BadCrowd : PySem.W.typeIn K (.ref f_BadCrowd_new) = some (.type "function"))
    (og_MarksError : PySem.W.specialIn K (.ref C0) "__getattribute__" = some (some (.builtin "type.__getattribute__")))
    (or_MarksError : PySem.W.readsIn K C0 (.type "type") = true)
    (of_MarksError : PySem.W.findCls K (.ref C0) (.type "type") "__init__" = some (.val (.builtin "ValueError.__init__")))
    (no_BadCrowd_part : PySem.W.findIn K (.ref C1) "part" = some none)
    (no_BadPage_value : PySem.W.findIn K (.ref C2) "value" = some none)
    (no_BadRule_part : PySem.W.findIn K (.ref C3) "part" = some none)
    (no_BadPair_value : PySem.W.findIn K (.ref C4) "value" = some none)
    (no_BadMark_value : PySem.W.findIn K (.ref C5) "value" = some none)
    (no_BadArgument_value : PySem.W.findIn K (.ref C6) "value" = some none)
    (no_BadNumber_number : PySem.W.findIn K (.ref C7) "number" = some none)
    (no_BadChange_value : PySem.W.findIn K (.ref C8) "value" = some none)
    (no_BadCommand_command : PySem.W.findIn K (.ref C9) "command" = some none)
    (no_BadText_line : PySem.W.findIn K (.ref C10) "line" = some none)
    (no_TooMany_most : PySem.W.findIn K (.ref C11) "most" = some none)
    (no_NotThere_word : PySem.W.findIn K (.ref C12) "word" = some none)
    (ga_BadCrowd : PySem.W.findIn K (.ref C1) "__getattribute__" = some (some (.builtin "BaseException.__getattribute__")))
    (gg_BadCrowd : PySem.W.findIn K (.ref C1) "__getattr__" = some none)
    (hd_BadCrowd : PySem.W.hasDictIn K C1 = true)
    (ga_BadPage : PySem.W.findIn K (.ref C2) "__getattribute__" = some (some (.builtin "BaseException.__getattribute__")))
    (gg_BadPage : PySem.W.findIn K (.ref C2) "__getattr__" = some none)
    (hd_BadPage : PySem.W.hasDictIn K C2 = true)
    (ga_BadRule : PySem.W.findIn K (.ref C3) "__getattribute__" = some (some (.builtin "BaseException.__getattribute__")))
    (gg_BadRule : PySem.W.findIn K (.ref C3) "__getattr__" = some none)
    (hd_BadRule : PySem.W.hasDictIn K C3 = true)
    (ga_BadPair : PySem.W.findIn K (.ref C4) "__getattribute__" = some (some (.builtin "BaseException.__getattribute__")))
    (gg_BadPair : PySem.W.findIn K (.ref C4) "__getattr__" = some none)
    (hd_BadPair : PySem.W.hasDictIn K C4 = true)
    (ga_BadMark : PySem.W.findIn K (.ref C5) "__getattribute__" = some (some (.builtin "BaseException.__getattribute__")))
    (gg_BadMark : PySem.W.findIn K (.ref C5) "__getattr__" = some none)
    (hd_BadMark : PySem.W.hasDictIn K C5 = true)
    (ga_BadArgument : PySem.W.findIn K (.ref C6) "__getattribute__" = some (some (.builtin "BaseException.__getattribute__")))
    (gg_BadArgument : PySem.W.findIn K (.ref C6) "__getattr__" = some none)
    (hd_BadArgument : PySem.W.hasDictIn K C6 = true)
    (ga_BadNumber : PySem.W.findIn K (.ref C7) "__getattribute__" = some (some (.builtin "BaseException.__getattribute__")))
    (gg_BadNumber : PySem.W.findIn K (.ref C7) "__getattr__" = some none)
    (hd_BadNumber : PySem.W.hasDictIn K C7 = true)
    (ga_BadChange : PySem.W.findIn K (.ref C8) "__getattribute__" = some (some (.builtin "BaseException.__getattribute__")))
    (gg_BadChange : PySem.W.findIn K (.ref C8) "__getattr__" = some none)
    (hd_BadChange : PySem.W.hasDictIn K C8 = true)
    (ga_BadCommand : PySem.W.findIn K (.ref C9) "__getattribute__" = some (some (.builtin "BaseException.__getattribute__")))
    (gg_BadCommand : PySem.W.findIn K (.ref C9) "__getattr__" = some none)
    (hd_BadCommand : PySem.W.hasDictIn K C9 = true)
    (ga_BadText : PySem.W.findIn K (.ref C10) "__getattribute__" = some (some (.builtin "BaseException.__getattribute__")))
    (gg_BadText : PySem.W.findIn K (.ref C10) "__getattr__" = some none)
    (hd_BadText : PySem.W.hasDictIn K C10 = true)
    (ga_TooMany : PySem.W.findIn K (.ref C11) "__getattribute__" = some (some (.builtin "BaseException.__getattribute__")))
    (gg_TooMany : PySem.W.findIn K (.ref C11) "__getattr__" = some none)
    (ga_NotThere : PySem.W.findIn K (.ref C12) "__getattribute__" = some (some (.builtin "BaseException.__getattribute__")))
    (gg_NotThere : PySem.W.findIn K (.ref C12) "__getattr__" = some none)
    (ga_MarksError : PySem.W.findIn K (.ref C0) "__getattribute__" = some (some (.builtin "BaseException.__getattribute__")))
    (gg_MarksError : PySem.W.findIn K (.ref C0) "__getattr__" = some none)
    (ga_NothingLeft : PySem.W.findIn K (.ref C13) "__getattribute__" = some (some (.builtin "BaseException.__getattribute__")))
    (gg_NothingLeft : PySem.W.findIn K (.ref C13) "__getattr__" = some none)
    (su_NothingLeft_NothingLeft : PySem.W.subIn K (.ref C13) (.ref C13) = some true)
    (ic_NothingLeft : PySem.W.isClsIn K C13 = true)
    (su_NotThere_NothingLeft : PySem.W.subIn K (.ref C12) (.ref C13) = some false)
    (ne_12_13 : C12 ≠ C13)
    (su_TooMany_NothingLeft : PySem.W.subIn K (.ref C11) (.ref C13) = some false)
    (ne_11_13 : C11 ≠ C13)
    (su_BadText_NothingLeft : PySem.W.subIn K (.ref C10) (.ref C13) = some false)
    (ne_10_13 : C10 ≠ C13)
    (su_BadCommand_NothingLeft : PySem.W.subIn K (.ref C9) (.ref C13) = some false)
    (ne_9_13 : C9 ≠ C13)
    (su_BadChange_NothingLeft : PySem.W.subIn K (.ref C8) (.ref C13) = some false)
    (ne_8_13 : C8 ≠ C13)
    (su_BadNumber_NothingLeft : PySem.W.subIn K (.ref C7) (.ref C13) = some false)
    (ne_7_13 : C7 ≠ C13)
    (su_BadArgument_NothingLeft : PySem.W.subIn K (.ref C6) (.ref C13) = some false)
    (ne_6_13 : C6 ≠ C13)
    (su_BadMark_NothingLeft : PySem.W.subIn K (.ref C5) (.ref C13) = some false)
    (ne_5_13 : C5 ≠ C13)
    (su_BadPair_NothingLeft : PySem.W.subIn K (.ref C4) (.ref C13) = some false)
    (ne_4_13 : C4 ≠ C13)
    (su_BadRule_NothingLeft : PySem.W.subIn K (.ref C3) (.ref C13) = some false)
    (ne_3_13 : C3 ≠ C13)
    (su_BadPage_NothingLeft : PySem.W.subIn K (.ref C2) (.ref C13) = some false)
    (ne_2_13 : C2 ≠ C13)
    (su_BadCrowd_NothingLeft : PySem.W.subIn K (.ref C1) (.ref C13) = some false)
    (ne_1_13 : C1 ≠ C13)
    (su_MarksError_NothingLeft : PySem.W.subIn K (.ref C0) (.ref C13) = some false)
    (ne_0_13 : C0 ≠ C13)
    (su_NothingLeft_LookupError : PySem.W.subIn K (.ref C13) (.type "LookupError") = some true)
    (su_NotThere_LookupError : PySem.W.subIn K (.ref C12) (.type "LookupError") = some true)
    (su_TooMany_LookupError : PySem.W.subIn K (.ref C11) (.type "LookupError") = some false)
    (su_BadText_LookupError : PySem.W.subIn K (.ref C10) (.type "LookupError") = some false)
    (su_BadCommand_LookupError : PySem.W.subIn K (.ref C9) (.type "LookupError") = some false)
    (su_BadChange_LookupError : PySem.W.subIn K (.ref C8) (.type "LookupError") = some false)
    (su_BadNumber_LookupError : PySem.W.subIn K (.ref C7) (.type "LookupError") = some false)
    (su_BadArgument_LookupError : PySem.W.subIn K (.ref C6) (.type "LookupError") = some false)
    (su_BadMark_LookupError : PySem.W.subIn K (.ref C5) (.type "LookupError") = some false)
    (su_BadPair_LookupError : PySem.W.subIn K (.ref C4) (.type "LookupError") = some false)
    (su_BadRule_LookupError : PySem.W.subIn K (.ref C3) (.type "LookupError") = some false)
    (su_BadPage_LookupError : PySem.W.subIn K (.ref C2) (.type "LookupError") = some false)
    (su_BadCrowd_LookupError : PySem.W.subIn K (.ref C1) (.type "LookupError") = some false)
    (su_MarksError_LookupError : PySem.W.subIn K (.ref C0) (.type "LookupError") = some false)
    (su_NothingLeft_OverflowError : PySem.W.subIn K (.ref C13) (.type "OverflowError") = some false)
    (su_NotThere_OverflowError : PySem.W.subIn K (.ref C12) (.type "OverflowError") = some false)
    (su_TooMany_OverflowError : PySem.W.subIn K (.ref C11) (.type "OverflowError") = some true)
    (su_BadText_OverflowError : PySem.W.subIn K (.ref C10) (.type "OverflowError") = some false)
    (su_BadCommand_OverflowError : PySem.W.subIn K (.ref C9) (.type "OverflowError") = some false)
    (su_BadChange_OverflowError : PySem.W.subIn K (.ref C8) (.type "OverflowError") = some false)
    (su_BadNumber_OverflowError : PySem.W.subIn K (.ref C7) (.type "OverflowError") = some false)
    (su_BadArgument_OverflowError : PySem.W.subIn K (.ref C6) (.type "OverflowError") = some false)
    (su_BadMark_OverflowError : PySem.W.subIn K (.ref C5) (.type "OverflowError") = some false)
    (su_BadPair_OverflowError : PySem.W.subIn K (.ref C4) (.type "OverflowError") = some false)
    (su_BadRule_OverflowError : PySem.W.subIn K (.ref C3) (.type "OverflowError") = some false)
    (su_BadPage_OverflowError : PySem.W.subIn K (.ref C2) (.type "OverflowError") = some false)
    (su_BadCrowd_OverflowError : PySem.W.subIn K (.ref C1) (.type "OverflowError") = some false)
    (su_MarksError_OverflowError : PySem.W.subIn K (.ref C0) (.type "OverflowError") = some false)
    (su_NothingLeft_ValueError : PySem.W.subIn K (.ref C13) (.type "ValueError") = some false)
    (su_NotThere_ValueError : PySem.W.subIn K (.ref C12) (.type "ValueError") = some false)
    (su_TooMany_ValueError : PySem.W.subIn K (.ref C11) (.type "ValueError") = some false)
    (su_BadText_ValueError : PySem.W.subIn K (.ref C10) (.type "ValueError") = some true)
    (su_BadCommand_ValueError : PySem.W.subIn K (.ref C9) (.type "ValueError") = some true)
    (su_BadChange_ValueError : PySem.W.subIn K (.ref C8) (.type "ValueError") = some true)
    (su_BadNumber_ValueError : PySem.W.subIn K (.ref C7) (.type "ValueError") = some true)
    (su_BadArgument_ValueError : PySem.W.subIn K (.ref C6) (.type "ValueError") = some true)
    (su_BadMark_ValueError : PySem.W.subIn K (.ref C5) (.type "ValueError") = some true)
    (su_BadPair_ValueError : PySem.W.subIn K (.ref C4) (.type "ValueError") = some true)
    (su_BadRule_ValueError : PySem.W.subIn K (.ref C3) (.type "ValueError") = some true)
    (su_BadPage_ValueError : PySem.W.subIn K (.ref C2) (.type "ValueError") = some true)
    (su_BadCrowd_ValueError : PySem.W.subIn K (.ref C1) (.type "ValueError") = some true)
    (su_MarksError_ValueError : PySem.W.subIn K (.ref C0) (.type "ValueError") = some true)
    (su_NothingLeft_MarksError : PySem.W.subIn K (.ref C13) (.ref C0) = some false)
    (ic_MarksError : PySem.W.isClsIn K C0 = true)
    (ne_13_0 : C13 ≠ C0)
    (su_NotThere_MarksError : PySem.W.subIn K (.ref C12) (.ref C0) = some false)
    (ne_12_0 : C12 ≠ C0)
    (su_TooMany_MarksError : PySem.W.subIn K (.ref C11) (.ref C0) = some false)
    (ne_11_0 : C11 ≠ C0)
    (su_BadText_MarksError : PySem.W.subIn K (.ref C10) (.ref C0) = some true)
    (su_BadCommand_MarksError : PySem.W.subIn K (.ref C9) (.ref C0) = some true)
    (su_BadChange_MarksError : PySem.W.subIn K (.ref C8) (.ref C0) = some true)
    (su_BadNumber_MarksError : PySem.W.subIn K (.ref C7) (.ref C0) = some true)
    (su_BadArgument_MarksError : PySem.W.subIn K (.ref C6) (.ref C0) = some true)
    (su_BadMark_MarksError : PySem.W.subIn K (.ref C5) (.ref C0) = some true)
    (su_BadPair_MarksError : PySem.W.subIn K (.ref C4) (.ref C0) = some true)
    (su_BadRule_MarksError : PySem.W.subIn K (.ref C3) (.ref C0) = some true)
    (su_BadPage_MarksError : PySem.W.subIn K (.ref C2) (.ref C0) = some true)
    (su_BadCrowd_MarksError : PySem.W.subIn K (.ref C1) (.ref C0) = some true)
    (su_MarksError_MarksError : PySem.W.subIn K (.ref C0) (.ref C0) = some true)
    (su_NotThere_NotThere : PySem.W.subIn K (.ref C12) (.ref C12) = some true)
    (ic_NotThere : PySem.W.isClsIn K C12 = true)
    (su_TooMany_NotThere : PySem.W.subIn K (.ref C11) (.ref C12) = some false)
    (ne_11_12 : C11 ≠ C12)
    (su_BadText_NotThere : PySem.W.subIn K (.ref C10) (.ref C12) = some false)
    (ne_10_12 : C10 ≠ C12)
    (su_BadCommand_NotThere : PySem.W.subIn K (.ref C9) (.ref C12) = some false)
    (ne_9_12 : C9 ≠ C12)
    (su_BadChange_NotThere : PySem.W.subIn K (.ref C8) (.ref C12) = some false)
    (ne_8_12 : C8 ≠ C12)
    (su_BadNumber_NotThere : PySem.W.subIn K (.ref C7) (.ref C12) = some false)
    (ne_7_12 : C7 ≠ C12)
    (su_BadArgument_NotThere : PySem.W.subIn K (.ref C6) (.ref C12) = some false)
    (ne_6_12 : C6 ≠ C12)
    (su_BadMark_NotThere : PySem.W.subIn K (.ref C5) (.ref C12) = some false)
    (ne_5_12 : C5 ≠ C12)
    (su_BadPair_NotThere : PySem.W.subIn K (.ref C4) (.ref C12) = some false)
    (ne_4_12 : C4 ≠ C12)
    (su_BadRule_NotThere : PySem.W.subIn K (.ref C3) (.ref C12) = some false)
    (ne_3_12 : C3 ≠ C12)
    (su_BadPage_NotThere : PySem.W.subIn K (.ref C2) (.ref C12) = some false)
    (ne_2_12 : C2 ≠ C12)
    (su_BadCrowd_NotThere : PySem.W.subIn K (.ref C1) (.ref C12) = some false)
    (ne_1_12 : C1 ≠ C12)
    (su_NotThere_TooMany : PySem.W.subIn K (.ref C12) (.ref C11) = some false)
    (ic_TooMany : PySem.W.isClsIn K C11 = true)
    (ne_12_11 : C12 ≠ C11)
    (su_TooMany_TooMany : PySem.W.subIn K (.ref C11) (.ref C11) = some true)
    (su_BadText_TooMany : PySem.W.subIn K (.ref C10) (.ref C11) = some false)
    (ne_10_11 : C10 ≠ C11)
    (su_BadCommand_TooMany : PySem.W.subIn K (.ref C9) (.ref C11) = some false)
    (ne_9_11 : C9 ≠ C11)
    (su_BadChange_TooMany : PySem.W.subIn K (.ref C8) (.ref C11) = some false)
    (ne_8_11 : C8 ≠ C11)
    (su_BadNumber_TooMany : PySem.W.subIn K (.ref C7) (.ref C11) = some false)
    (ne_7_11 : C7 ≠ C11)
    (su_BadArgument_TooMany : PySem.W.subIn K (.ref C6) (.ref C11) = some false)
    (ne_6_11 : C6 ≠ C11)
    (su_BadMark_TooMany : PySem.W.subIn K (.ref C5) (.ref C11) = some false)
    (ne_5_11 : C5 ≠ C11)
    (su_BadPair_TooMany : PySem.W.subIn K (.ref C4) (.ref C11) = some false)
    (ne_4_11 : C4 ≠ C11)
    (su_BadRule_TooMany : PySem.W.subIn K (.ref C3) (.ref C11) = some false)
    (ne_3_11 : C3 ≠ C11)
    (su_BadPage_TooMany : PySem.W.subIn K (.ref C2) (.ref C11) = some false)
    (ne_2_11 : C2 ≠ C11)
    (su_BadCrowd_TooMany : PySem.W.subIn K (.ref C1) (.ref C11) = some false)
    (ne_1_11 : C1 ≠ C11)
    (su_NotThere_BadText : PySem.W.subIn K (.ref C12) (.ref C10) = some false)
    (ic_BadText : PySem.W.isClsIn K C10 = true)
    (ne_12_10 : C12 ≠ C10)
    (su_TooMany_BadText : PySem.W.subIn K (.ref C11) (.ref C10) = some false)
    (ne_11_10 : C11 ≠ C10)
    (su_BadText_BadText : PySem.W.subIn K (.ref C10) (.ref C10) = some true)
    (su_BadCommand_BadText : PySem.W.subIn K (.ref C9) (.ref C10) = some false)
    (ne_9_10 : C9 ≠ C10)
    (su_BadChange_BadText : PySem.W.subIn K (.ref C8) (.ref C10) = some false)
    (ne_8_10 : C8 ≠ C10)
    (su_BadNumber_BadText : PySem.W.subIn K (.ref C7) (.ref C10) = some false)
    (ne_7_10 : C7 ≠ C10)
    (su_BadArgument_BadText : PySem.W.subIn K (.ref C6) (.ref C10) = some false)
    (ne_6_10 : C6 ≠ C10)
    (su_BadMark_BadText : PySem.W.subIn K (.ref C5) (.ref C10) = some false)
    (ne_5_10 : C5 ≠ C10)
    (su_BadPair_BadText : PySem.W.subIn K (.ref C4) (.ref C10) = some false)
    (ne_4_10 : C4 ≠ C10)
    (su_BadRule_BadText : PySem.W.subIn K (.ref C3) (.ref C10) = some false)
    (ne_3_10 : C3 ≠ C10)
    (su_BadPage_BadText : PySem.W.subIn K (.ref C2) (.ref C10) = some false)
    (ne_2_10 : C2 ≠ C10)
    (su_BadCrowd_BadText : PySem.W.subIn K (.ref C1) (.ref C10) = some false)
    (ne_1_10 : C1 ≠ C10)
    (su_NotThere_BadCommand : PySem.W.subIn K (.ref C12) (.ref C9) = some false)
    (ic_BadCommand : PySem.W.isClsIn K C9 = true)
    (ne_12_9 : C12 ≠ C9)
    (su_TooMany_BadCommand : PySem.W.subIn K (.ref C11) (.ref C9) = some false)
    (ne_11_9 : C11 ≠ C9)
    (su_BadText_BadCommand : PySem.W.subIn K (.ref C10) (.ref C9) = some false)
    (ne_10_9 : C10 ≠ C9)
    (su_BadCommand_BadCommand : PySem.W.subIn K (.ref C9) (.ref C9) = some true)
    (su_BadChange_BadCommand : PySem.W.subIn K (.ref C8) (.ref C9) = some false)
    (ne_8_9 : C8 ≠ C9)
    (su_BadNumber_BadCommand : PySem.W.subIn K (.ref C7) (.ref C9) = some false)
    (ne_7_9 : C7 ≠ C9)
    (su_BadArgument_BadCommand : PySem.W.subIn K (.ref C6) (.ref C9) = some false)
    (ne_6_9 : C6 ≠ C9)
    (su_BadMark_BadCommand : PySem.W.subIn K (.ref C5) (.ref C9) = some false)
    (ne_5_9 : C5 ≠ C9)
    (su_BadPair_BadCommand : PySem.W.subIn K (.ref C4) (.ref C9) = some false)
    (ne_4_9 : C4 ≠ C9)
    (su_BadRule_BadCommand : PySem.W.subIn K (.ref C3) (.ref C9) = some false)
    (ne_3_9 : C3 ≠ C9)
    (su_BadPage_BadCommand : PySem.W.subIn K (.ref C2) (.ref C9) = some false)
    (ne_2_9 : C2 ≠ C9)
    (su_BadCrowd_BadCommand : PySem.W.subIn K (.ref C1) (.ref C9) = some false)
    (ne_1_9 : C1 ≠ C9)
    (su_NotThere_BadChange : PySem.W.subIn K (.ref C12) (.ref C8) = some false)
    (ic_BadChange : PySem.W.isClsIn K C8 = true)
    (ne_12_8 : C12 ≠ C8)
    (su_TooMany_BadChange : PySem.W.subIn K (.ref C11) (.ref C8) = some false)
    (ne_11_8 : C11 ≠ C8)
    (su_BadText_BadChange : PySem.W.subIn K (.ref C10) (.ref C8) = some false)
    (ne_10_8 : C10 ≠ C8)
    (su_BadCommand_BadChange : PySem.W.subIn K (.ref C9) (.ref C8) = some false)
    (ne_9_8 : C9 ≠ C8)
    (su_BadChange_BadChange : PySem.W.subIn K (.ref C8) (.ref C8) = some true)
    (su_BadNumber_BadChange : PySem.W.subIn K (.ref C7) (.ref C8) = some false)
    (ne_7_8 : C7 ≠ C8)
    (su_BadArgument_BadChange : PySem.W.subIn K (.ref C6) (.ref C8) = some false)
    (ne_6_8 : C6 ≠ C8)
    (su_BadMark_BadChange : PySem.W.subIn K (.ref C5) (.ref C8) = some false)
    (ne_5_8 : C5 ≠ C8)
    (su_BadPair_BadChange : PySem.W.subIn K (.ref C4) (.ref C8) = some false)
    (ne_4_8 : C4 ≠ C8)
    (su_BadRule_BadChange : PySem.W.subIn K (.ref C3) (.ref C8) = some false)
    (ne_3_8 : C3 ≠ C8)
    (su_BadPage_BadChange : PySem.W.subIn K (.ref C2) (.ref C8) = some false)
    (ne_2_8 : C2 ≠ C8)
    (su_BadCrowd_BadChange : PySem.W.subIn K (.ref C1) (.ref C8) = some false)
    (ne_1_8 : C1 ≠ C8)
    (su_NotThere_BadNumber : PySem.W.subIn K (.ref C12) (.ref C7) = some false)
    (ic_BadNumber : PySem.W.isClsIn K C7 = true)
    (ne_12_7 : C12 ≠ C7)
    (su_TooMany_BadNumber : PySem.W.subIn K (.ref C11) (.ref C7) = some false)
    (ne_11_7 : C11 ≠ C7)
    (su_BadText_BadNumber : PySem.W.subIn K (.ref C10) (.ref C7) = some false)
    (ne_10_7 : C10 ≠ C7)
    (su_BadCommand_BadNumber : PySem.W.subIn K (.ref C9) (.ref C7) = some false)
    (ne_9_7 : C9 ≠ C7)
    (su_BadChange_BadNumber : PySem.W.subIn K (.ref C8) (.ref C7) = some false)
    (ne_8_7 : C8 ≠ C7)
    (su_BadNumber_BadNumber : PySem.W.subIn K (.ref C7) (.ref C7) = some true)
    (su_BadArgument_BadNumber : PySem.W.subIn K (.ref C6) (.ref C7) = some false)
    (ne_6_7 : C6 ≠ C7)
    (su_BadMark_BadNumber : PySem.W.subIn K (.ref C5) (.ref C7) = some false)
    (ne_5_7 : C5 ≠ C7)
    (su_BadPair_BadNumber : PySem.W.subIn K (.ref C4) (.ref C7) = some false)
    (ne_4_7 : C4 ≠ C7)
    (su_BadRule_BadNumber : PySem.W.subIn K (.ref C3) (.ref C7) = some false)
    (ne_3_7 : C3 ≠ C7)
    (su_BadPage_BadNumber : PySem.W.subIn K (.ref C2) (.ref C7) = some false)
    (ne_2_7 : C2 ≠ C7)
    (su_BadCrowd_BadNumber : PySem.W.subIn K (.ref C1) (.ref C7) = some false)
    (ne_1_7 : C1 ≠ C7)
    (su_NotThere_BadArgument : PySem.W.subIn K (.ref C12) (.ref C6) = some false)
    (ic_BadArgument : PySem.W.isClsIn K C6 = true)
    (ne_12_6 : C12 ≠ C6)
    (su_TooMany_BadArgument : PySem.W.subIn K (.ref C11) (.ref C6) = some false)
    (ne_11_6 : C11 ≠ C6)
    (su_BadText_BadArgument : PySem.W.subIn K (.ref C10) (.ref C6) = some false)
    (ne_10_6 : C10 ≠ C6)
    (su_BadCommand_BadArgument : PySem.W.subIn K (.ref C9) (.ref C6) = some false)
    (ne_9_6 : C9 ≠ C6)
    (su_BadChange_BadArgument : PySem.W.subIn K (.ref C8) (.ref C6) = some false)
    (ne_8_6 : C8 ≠ C6)
    (su_BadNumber_BadArgument : PySem.W.subIn K (.ref C7) (.ref C6) = some false)
    (ne_7_6 : C7 ≠ C6)
    (su_BadArgument_BadArgument : PySem.W.subIn K (.ref C6) (.ref C6) = some true)
    (su_BadMark_BadArgument : PySem.W.subIn K (.ref C5) (.ref C6) = some false)
    (ne_5_6 : C5 ≠ C6)
    (su_BadPair_BadArgument : PySem.W.subIn K (.ref C4) (.ref C6) = some false)
    (ne_4_6 : C4 ≠ C6)
    (su_BadRule_BadArgument : PySem.W.subIn K (.ref C3) (.ref C6) = some false)
    (ne_3_6 : C3 ≠ C6)
    (su_BadPage_BadArgument : PySem.W.subIn K (.ref C2) (.ref C6) = some false)
    (ne_2_6 : C2 ≠ C6)
    (su_BadCrowd_BadArgument : PySem.W.subIn K (.ref C1) (.ref C6) = some false)
    (ne_1_6 : C1 ≠ C6)
    (su_NotThere_BadMark : PySem.W.subIn K (.ref C12) (.ref C5) = some false)
    (ic_BadMark : PySem.W.isClsIn K C5 = true)
    (ne_12_5 : C12 ≠ C5)
    (su_TooMany_BadMark : PySem.W.subIn K (.ref C11) (.ref C5) = some false)
    (ne_11_5 : C11 ≠ C5)
    (su_BadText_BadMark : PySem.W.subIn K (.ref C10) (.ref C5) = some false)
    (ne_10_5 : C10 ≠ C5)
    (su_BadCommand_BadMark : PySem.W.subIn K (.ref C9) (.ref C5) = some false)
    (ne_9_5 : C9 ≠ C5)
    (su_BadChange_BadMark : PySem.W.subIn K (.ref C8) (.ref C5) = some false)
    (ne_8_5 : C8 ≠ C5)
    (su_BadNumber_BadMark : PySem.W.subIn K (.ref C7) (.ref C5) = some false)
    (ne_7_5 : C7 ≠ C5)
    (su_BadArgument_BadMark : PySem.W.subIn K (.ref C6) (.ref C5) = some false)
    (ne_6_5 : C6 ≠ C5)
    (su_BadMark_BadMark : PySem.W.subIn K (.ref C5) (.ref C5) = some true)
    (su_BadPair_BadMark : PySem.W.subIn K (.ref C4) (.ref C5) = some false)
    (ne_4_5 : C4 ≠ C5)
    (su_BadRule_BadMark : PySem.W.subIn K (.ref C3) (.ref C5) = some false)
    (ne_3_5 : C3 ≠ C5)
    (su_BadPage_BadMark : PySem.W.subIn K (.ref C2) (.ref C5) = some false)
    (ne_2_5 : C2 ≠ C5)
    (su_BadCrowd_BadMark : PySem.W.subIn K (.ref C1) (.ref C5) = some false)
    (ne_1_5 : C1 ≠ C5)
    (su_NotThere_BadPair : PySem.W.subIn K (.ref C12) (.ref C4) = some false)
    (ic_BadPair : PySem.W.isClsIn K C4 = true)
    (ne_12_4 : C12 ≠ C4)
    (su_TooMany_BadPair : PySem.W.subIn K (.ref C11) (.ref C4) = some false)
    (ne_11_4 : C11 ≠ C4)
    (su_BadText_BadPair : PySem.W.subIn K (.ref C10) (.ref C4) = some false)
    (ne_10_4 : C10 ≠ C4)
    (su_BadCommand_BadPair : PySem.W.subIn K (.ref C9) (.ref C4) = some false)
    (ne_9_4 : C9 ≠ C4)
    (su_BadChange_BadPair : PySem.W.subIn K (.ref C8) (.ref C4) = some false)
    (ne_8_4 : C8 ≠ C4)
    (su_BadNumber_BadPair : PySem.W.subIn K (.ref C7) (.ref C4) = some false)
    (ne_7_4 : C7 ≠ C4)
    (su_BadArgument_BadPair : PySem.W.subIn K (.ref C6) (.ref C4) = some false)
    (ne_6_4 : C6 ≠ C4)
    (su_BadMark_BadPair : PySem.W.subIn K (.ref C5) (.ref C4) = some false)
    (ne_5_4 : C5 ≠ C4)
    (su_BadPair_BadPair : PySem.W.subIn K (.ref C4) (.ref C4) = some true)
    (su_BadRule_BadPair : PySem.W.subIn K (.ref C3) (.ref C4) = some false)
    (ne_3_4 : C3 ≠ C4)
    (su_BadPage_BadPair : PySem.W.subIn K (.ref C2) (.ref C4) = some false)
    (ne_2_4 : C2 ≠ C4)
    (su_BadCrowd_BadPair : PySem.W.subIn K (.ref C1) (.ref C4) = some false)
    (ne_1_4 : C1 ≠ C4)
    (su_NotThere_BadRule : PySem.W.subIn K (.ref C12) (.ref C3) = some false)
    (ic_BadRule : PySem.W.isClsIn K C3 = true)
    (ne_12_3 : C12 ≠ C3)
    (su_TooMany_BadRule : PySem.W.subIn K (.ref C11) (.ref C3) = some false)
    (ne_11_3 : C11 ≠ C3)
    (su_BadText_BadRule : PySem.W.subIn K (.ref C10) (.ref C3) = some false)
    (ne_10_3 : C10 ≠ C3)
    (su_BadCommand_BadRule : PySem.W.subIn K (.ref C9) (.ref C3) = some false)
    (ne_9_3 : C9 ≠ C3)
    (su_BadChange_BadRule : PySem.W.subIn K (.ref C8) (.ref C3) = some false)
    (ne_8_3 : C8 ≠ C3)
    (su_BadNumber_BadRule : PySem.W.subIn K (.ref C7) (.ref C3) = some false)
    (ne_7_3 : C7 ≠ C3)
    (su_BadArgument_BadRule : PySem.W.subIn K (.ref C6) (.ref C3) = some false)
    (ne_6_3 : C6 ≠ C3)
    (su_BadMark_BadRule : PySem.W.subIn K (.ref C5) (.ref C3) = some false)
    (ne_5_3 : C5 ≠ C3)
    (su_BadPair_BadRule : PySem.W.subIn K (.ref C4) (.ref C3) = some false)
    (ne_4_3 : C4 ≠ C3)
    (su_BadRule_BadRule : PySem.W.subIn K (.ref C3) (.ref C3) = some true)
    (su_BadPage_BadRule : PySem.W.subIn K (.ref C2) (.ref C3) = some false)
    (ne_2_3 : C2 ≠ C3)
    (su_BadCrowd_BadRule : PySem.W.subIn K (.ref C1) (.ref C3) = some false)
    (ne_1_3 : C1 ≠ C3)
    (su_NotThere_BadPage : PySem.W.subIn K (.ref C12) (.ref C2) = some false)
    (ic_BadPage : PySem.W.isClsIn K C2 = true)
    (ne_12_2 : C12 ≠ C2)
    (su_TooMany_BadPage : PySem.W.subIn K (.ref C11) (.ref C2) = some false)
    (ne_11_2 : C11 ≠ C2)
    (su_BadText_BadPage : PySem.W.subIn K (.ref C10) (.ref C2) = some false)
    (ne_10_2 : C10 ≠ C2)
    (su_BadCommand_BadPage : PySem.W.subIn K (.ref C9) (.ref C2) = some false)
    (ne_9_2 : C9 ≠ C2)
    (su_BadChange_BadPage : PySem.W.subIn K (.ref C8) (.ref C2) = some false)
    (ne_8_2 : C8 ≠ C2)
    (su_BadNumber_BadPage : PySem.W.subIn K (.ref C7) (.ref C2) = some false)
    (ne_7_2 : C7 ≠ C2)
    (su_BadArgument_BadPage : PySem.W.subIn K (.ref C6) (.ref C2) = some false)
    (ne_6_2 : C6 ≠ C2)
    (su_BadMark_BadPage : PySem.W.subIn K (.ref C5) (.ref C2) = some false)
    (ne_5_2 : C5 ≠ C2)
    (su_BadPair_BadPage : PySem.W.subIn K (.ref C4) (.ref C2) = some false)
    (ne_4_2 : C4 ≠ C2)
    (su_BadRule_BadPage : PySem.W.subIn K (.ref C3) (.ref C2) = some false)
    (ne_3_2 : C3 ≠ C2)
    (su_BadPage_BadPage : PySem.W.subIn K (.ref C2) (.ref C2) = some true)
    (su_BadCrowd_BadPage : PySem.W.subIn K (.ref C1) (.ref C2) = some false)
    (ne_1_2 : C1 ≠ C2)
    (su_NotThere_BadCrowd : PySem.W.subIn K (.ref C12) (.ref C1) = some false)
    (ic_BadCrowd : PySem.W.isClsIn K C1 = true)
    (ne_12_1 : C12 ≠ C1)
    (su_TooMany_BadCrowd : PySem.W.subIn K (.ref C11) (.ref C1) = some false)
    (ne_11_1 : C11 ≠ C1)
    (su_BadText_BadCrowd : PySem.W.subIn K (.ref C10) (.ref C1) = some false)
    (ne_10_1 : C10 ≠ C1)
    (su_BadCommand_BadCrowd : PySem.W.subIn K (.ref C9) (.ref C1) = some false)
    (ne_9_1 : C9 ≠ C1)
    (su_BadChange_BadCrowd : PySem.W.subIn K (.ref C8) (.ref C1) = some false)
    (ne_8_1 : C8 ≠ C1)
    (su_BadNumber_BadCrowd : PySem.W.subIn K (.ref C7) (.ref C1) = some false)
    (ne_7_1 : C7 ≠ C1)
    (su_BadArgument_BadCrowd : PySem.W.subIn K (.ref C6) (.ref C1) = some false)
    (ne_6_1 : C6 ≠ C1)
    (su_BadMark_BadCrowd : PySem.W.subIn K (.ref C5) (.ref C1) = some false)
    (ne_5_1 : C5 ≠ C1)
    (su_BadPair_BadCrowd : PySem.W.subIn K (.ref C4) (.ref C1) = some false)
    (ne_4_1 : C4 ≠ C1)
    (su_BadRule_BadCrowd : PySem.W.subIn K (.ref C3) (.ref C1) = some false)
    (ne_3_1 : C3 ≠ C1)
    (su_BadPage_BadCrowd : PySem.W.subIn K (.ref C2) (.ref C1) = some false)
    (ne_2_1 : C2 ≠ C1)
    (su_BadCrowd_BadCrowd : PySem.W.subIn K (.ref C1) (.ref C1) = some true)
    (su_NothingLeft_NotThere : PySem.W.subIn K (.ref C13) (.ref C12) = some false)
    (ne_13_12 : C13 ≠ C12)
    (gs0 : PySem.W.specialIn K (.builtin "object.__class__") "__get__" = some (some (.builtin "getset_descriptor.__get__")))
    (gs1 : PySem.W.takesIn K (.builtin "object.__class__") = some true)
    (hc_MarksError : PySem.W.findIn K (.ref C0) "__class__" = some (some (.builtin "object.__class__")))
    (hm_MarksError : PySem.W.mroIn K C0 (.type "object") = some true)
    (hc_BadCrowd : PySem.W.findIn K (.ref C1) "__class__" = some (some (.builtin "object.__class__")))
    (hm_BadCrowd : PySem.W.mroIn K C1 (.type "object") = some true)
    (hc_BadPage : PySem.W.findIn K (.ref C2) "__class__" = some (some (.builtin "object.__class__")))
    (hm_BadPage : PySem.W.mroIn K C2 (.type "object") = some true)
    (hc_BadRule : PySem.W.findIn K (.ref C3) "__class__" = some (some (.builtin "object.__class__")))
    (hm_BadRule : PySem.W.mroIn K C3 (.type "object") = some true)
    (hc_BadPair : PySem.W.findIn K (.ref C4) "__class__" = some (some (.builtin "object.__class__")))
    (hm_BadPair : PySem.W.mroIn K C4 (.type "object") = some true)
    (hc_BadMark : PySem.W.findIn K (.ref C5) "__class__" = some (some (.builtin "object.__class__")))
    (hm_BadMark : PySem.W.mroIn K C5 (.type "object") = some true)
    (hc_BadArgument : PySem.W.findIn K (.ref C6) "__class__" = some (some (.builtin "object.__class__")))
    (hm_BadArgument : PySem.W.mroIn K C6 (.type "object") = some true)
    (hc_BadNumber : PySem.W.findIn K (.ref C7) "__class__" = some (some (.builtin "object.__class__")))
    (hm_BadNumber : PySem.W.mroIn K C7 (.type "object") = some true)
    (hc_BadChange : PySem.W.findIn K (.ref C8) "__class__" = some (some (.builtin "object.__class__")))
    (hm_BadChange : PySem.W.mroIn K C8 (.type "object") = some true)
    (hc_BadCommand : PySem.W.findIn K (.ref C9) "__class__" = some (some (.builtin "object.__class__")))
    (hm_BadCommand : PySem.W.mroIn K C9 (.type "object") = some true)
    (hc_BadText : PySem.W.findIn K (.ref C10) "__class__" = some (some (.builtin "object.__class__")))
    (hm_BadText : PySem.W.mroIn K C10 (.type "object") = some true)
    (hc_TooMany : PySem.W.findIn K (.ref C11) "__class__" = some (some (.builtin "object.__class__")))
    (hm_TooMany : PySem.W.mroIn K C11 (.type "object") = some true)
    (hc_NotThere : PySem.W.findIn K (.ref C12) "__class__" = some (some (.builtin "object.__class__")))
    (hm_NotThere : PySem.W.mroIn K C12 (.type "object") = some true)
    (hc_NothingLeft : PySem.W.findIn K (.ref C13) "__class__" = some (some (.builtin "object.__class__")))
    (hm_NothingLeft : PySem.W.mroIn K C13 (.type "object") = some true)
    : ∃ fd : FuncData, (∀ (s : Shared) (v : Value), BindsTo s fd ⟨[v], []⟩ [("_law_script", v)]) ∧ ∀ base : Heap, K.In base → base.Ns mainGlobals mg → FnG P w K mg base (L2.CX P w) 4 fa fd ["_law_script"] (spLaw K) := by
  have e := hfa.symm.trans (PySem.W.mg_of X G a_law)
  cases e
  have T : ∀ base : Heap, Txt P w K mg base ⟨C0, C1, C2, C3, C4, C5, C6, C7, C8, C9, C10, C11, C12, C13, f_d_law_opened, PySem.W.fnOf "_law_opened" "_law_opened" (defArgs s_d_law_opened) (defBody s_d_law_opened) (defScope s_d_law_opened) .none kV_d_law_opened dc_d_law_opened pm_d_law_opened an_d_law_opened cd_d_law_opened ct_d_law_opened, f_d_law_draw, PySem.W.fnOf "_law_draw" "_law_draw" (defArgs s_d_law_draw) (defBody s_d_law_draw) (defScope s_d_law_draw) .none kV_d_law_draw dc_d_law_draw pm_d_law_draw an_d_law_draw cd_d_law_draw ct_d_law_draw, f_d_law_pick, PySem.W.fnOf "_law_pick" "_law_pick" (defArgs s_d_law_pick) (defBody s_d_law_pick) (defScope s_d_law_pick) .none kV_d_law_pick dc_d_law_pick pm_d_law_pick an_d_law_pick cd_d_law_pick ct_d_law_pick, f_BadCrowd_new, PySem.W.fnOf "__init__" "BadCrowd.__init__" (defArgs s_BadCrowd_new) (defBody s_BadCrowd_new) (defScope s_BadCrowd_new) .none kV_BadCrowd_new dc_BadCrowd_new pm_BadCrowd_new an_BadCrowd_new cd_BadCrowd_new ct_BadCrowd_new, f_BadPage_new, PySem.W.fnOf "__init__" "BadPage.__init__" (defArgs s_BadPage_new) (defBody s_BadPage_new) (defScope s_BadPage_new) .none kV_BadPage_new dc_BadPage_new pm_BadPage_new an_BadPage_new cd_BadPage_new ct_BadPage_new, f_BadRule_new, PySem.W.fnOf "__init__" "BadRule.__init__" (defArgs s_BadRule_new) (defBody s_BadRule_new) (defScope s_BadRule_new) .none kV_BadRule_new dc_BadRule_new pm_BadRule_new an_BadRule_new cd_BadRule_new ct_BadRule_new, f_BadPair_new, PySem.W.fnOf "__init__" "BadPair.__init__" (defArgs s_BadPair_new) (defBody s_BadPair_new) (defScope s_BadPair_new) .none kV_BadPair_new dc_BadPair_new pm_BadPair_new an_BadPair_new cd_BadPair_new ct_BadPair_new, f_BadMark_new, PySem.W.fnOf "__init__" "BadMark.__init__" (defArgs s_BadMark_new) (defBody s_BadMark_new) (defScope s_BadMark_new) .none kV_BadMark_new dc_BadMark_new pm_BadMark_new an_BadMark_new cd_BadMark_new ct_BadMark_new, f_BadArgument_new, PySem.W.fnOf "__init__" "BadArgument.__init__" (defArgs s_BadArgument_new) (defBody s_BadArgument_new) (defScope s_BadArgument_new) .none kV_BadArgument_new dc_BadArgument_new pm_BadArgument_new an_BadArgument_new cd_BadArgument_new ct_BadArgument_new, f_BadNumber_new, PySem.W.fnOf "__init__" "BadNumber.__init__" (defArgs s_BadNumber_new) (defBody s_BadNumber_new) (defScope s_BadNumber_new) .none kV_BadNumber_new dc_BadNumber_new pm_BadNumber_new an_BadNumber_new cd_BadNumber_new ct_BadNumber_new, f_BadChange_new, PySem.W.fnOf "__init__" "BadChange.__init__" (defArgs s_BadChange_new) (defBody s_BadChange_new) (defScope s_BadChange_new) .none kV_BadChange_new dc_BadChange_new pm_BadChange_new an_BadChange_new cd_BadChange_new ct_BadChange_new, f_BadCommand_new, PySem.W.fnOf "__init__" "BadCommand.__init__" (defArgs s_BadCommand_new) (defBody s_BadCommand_new) (defScope s_BadCommand_new) .none kV_BadCommand_new dc_BadCommand_new pm_BadCommand_new an_BadCommand_new cd_BadCommand_new ct_BadCommand_new, f_BadText_new, PySem.W.fnOf "__init__" "BadText.__init__" (defArgs s_BadText_new) (defBody s_BadText_new) (defScope s_BadText_new) .none kV_BadText_new dc_BadText_new pm_BadText_new an_BadText_new cd_BadText_new ct_BadText_new, f_TooMany_new, PySem.W.fnOf "__init__" "TooMany.__init__" (defArgs s_TooMany_new) (defBody s_TooMany_new) (defScope s_TooMany_new) .none kV_TooMany_new dc_TooMany_new pm_TooMany_new an_TooMany_new cd_TooMany_new ct_TooMany_new, f_NotThere_new, PySem.W.fnOf "__init__" "NotThere.__init__" (defArgs s_NotThere_new) (defBody s_NotThere_new) (defScope s_NotThere_new) .none kV_NotThere_new dc_NotThere_new pm_NotThere_new an_NotThere_new cd_NotThere_new ct_NotThere_new, f_d_law_made_errors, PySem.W.fnOf "_law_made_errors" "_law_made_errors" (defArgs s_d_law_made_errors) (defBody s_d_law_made_errors) (defScope s_d_law_made_errors) .none kV_d_law_made_errors dc_d_law_made_errors pm_d_law_made_errors an_d_law_made_errors cd_d_law_made_errors ct_d_law_made_errors, f_d_law_named_errors, PySem.W.fnOf "_law_named_errors" "_law_named_errors" (defArgs s_d_law_named_errors) (defBody s_d_law_named_errors) (defScope s_d_law_named_errors) .none kV_d_law_named_errors dc_d_law_named_errors pm_d_law_named_errors an_d_law_named_errors cd_d_law_named_errors ct_d_law_named_errors, f_d_law_fields, PySem.W.fnOf "_law_fields" "_law_fields" (defArgs s_d_law_fields) (defBody s_d_law_fields) (defScope s_d_law_fields) .none kV_d_law_fields dc_d_law_fields pm_d_law_fields an_d_law_fields cd_d_law_fields ct_d_law_fields, f_d_law_bases, PySem.W.fnOf "_law_bases" "_law_bases" (defArgs s_d_law_bases) (defBody s_d_law_bases) (defScope s_d_law_bases) .none kV_d_law_bases dc_d_law_bases pm_d_law_bases an_d_law_bases cd_d_law_bases ct_d_law_bases, f_d_law_kinds, PySem.W.fnOf "_law_kinds" "_law_kinds" (defArgs s_d_law_kinds) (defBody s_d_law_kinds) (defScope s_d_law_kinds) .none kV_d_law_kinds dc_d_law_kinds pm_d_law_kinds an_d_law_kinds cd_d_law_kinds ct_d_law_kinds, fa, PySem.W.fnOf "law" "law" (defArgs s_law) (defBody s_law) (defScope s_law) .none kV_law dc_law pm_law an_law cd_law ct_law⟩ := fun base =>
    { n_int := PySem.W.mg_none_of X G z_int,
      n_max := PySem.W.mg_none_of X G z_max,
      n_len := PySem.W.mg_none_of X G z_len,
      n_OverflowError := PySem.W.mg_none_of X G z_OverflowError,
      n_LookupError := PySem.W.mg_none_of X G z_LookupError,
      n_isinstance := PySem.W.mg_none_of X G z_isinstance,
      n_ValueError := PySem.W.mg_none_of X G z_ValueError,
      n_min := PySem.W.mg_none_of X G z_min,
      n_range := PySem.W.mg_none_of X G z_range,
      n_enumerate := PySem.W.mg_none_of X G z_enumerate,
      n_repr := PySem.W.mg_none_of X G z_repr,
      g_MarksError := PySem.W.mg_of X G a_MarksError,
      g_BadCrowd := PySem.W.mg_of X G a_BadCrowd,
      g_BadPage := PySem.W.mg_of X G a_BadPage,
      g_BadRule := PySem.W.mg_of X G a_BadRule,
      g_BadPair := PySem.W.mg_of X G a_BadPair,
      g_BadMark := PySem.W.mg_of X G a_BadMark,
      g_BadArgument := PySem.W.mg_of X G a_BadArgument,
      g_BadNumber := PySem.W.mg_of X G a_BadNumber,
      g_BadChange := PySem.W.mg_of X G a_BadChange,
      g_BadCommand := PySem.W.mg_of X G a_BadCommand,
      g_BadText := PySem.W.mg_of X G a_BadText,
      g_TooMany := PySem.W.mg_of X G a_TooMany,
      g_NotThere := PySem.W.mg_of X G a_NotThere,
      g_NothingLeft := PySem.W.mg_of X G a_NothingLeft,
      F_d_law_opened := fun_mk (st := s_d_law_opened) l_d_law_opened c_d_law_opened k_d_law_opened,
      b_d_law_opened := (fun_mk (st := s_d_law_opened) l_d_law_opened c_d_law_opened k_d_law_opened).binds (ps := ps_d_law_opened) fun _ _ _ _ _ _ us hl => match us, hl with | [_, _], _ => rfl,
      k_d_law_opened := k_d_law_opened,
      g_d_law_opened := PySem.W.mg_of X G a_d_law_opened,
      F_d_law_draw := fun_mk (st := s_d_law_draw) l_d_law_draw c_d_law_draw k_d_law_draw,
      b_d_law_draw := (fun_mk (st := s_d_law_draw) l_d_law_draw c_d_law_draw k_d_law_draw).binds (ps := ps_d_law_draw) fun _ _ _ _ _ _ us hl => match us, hl with | [_, _], _ => rfl,
      k_d_law_draw := k_d_law_draw,
      g_d_law_draw := PySem.W.mg_of X G a_d_law_draw,
      F_d_law_pick := fun_mk (st := s_d_law_pick) l_d_law_pick c_d_law_pick k_d_law_pick,
      b_d_law_pick := (fun_mk (st := s_d_law_pick) l_d_law_pick c_d_law_pick k_d_law_pick).binds (ps := ps_d_law_pick) fun _ _ _ _ _ _ us hl => match us, hl with | [_, _], _ => rfl,
      k_d_law_pick := k_d_law_pick,
      g_d_law_pick := PySem.W.mg_of X G a_d_law_pick,
      F_BadCrowd_new := fun_mk (st := s_BadCrowd_new) l_BadCrowd_new c_BadCrowd_new k_BadCrowd_new,
      b_BadCrowd_new := (fun_mk (st := s_BadCrowd_new) l_BadCrowd_new c_BadCrowd_new k_BadCrowd_new).binds (ps := ps_BadCrowd_new) fun _ _ _ _ _ _ us hl => match us, hl with | [_, _], _ => rfl,
      k_BadCrowd_new := k_BadCrowd_new,
      F_BadPage_new := fun_mk (st := s_BadPage_new) l_BadPage_new c_BadPage_new k_BadPage_new,
      b_BadPage_new := (fun_mk (st := s_BadPage_new) l_BadPage_new c_BadPage_new k_BadPage_new).binds (ps := ps_BadPage_new) fun _ _ _ _ _ _ us hl => match us, hl with | [_, _], _ => rfl,
      k_BadPage_new := k_BadPage_new,
      F_BadRule_new := fun_mk (st := s_BadRule_new) l_BadRule_new c_BadRule_new k_BadRule_new,
      b_BadRule_new := (fun_mk (st := s_BadRule_new) l_BadRule_new c_BadRule_new k_BadRule_new).binds (ps := ps_BadRule_new) fun _ _ _ _ _ _ us hl => match us, hl with | [_, _], _ => rfl,
      k_BadRule_new := k_BadRule_new,
      F_BadPair_new := fun_mk (st := s_BadPair_new) l_BadPair_new c_BadPair_new k_BadPair_new,
      b_BadPair_new := (fun_mk (st := s_BadPair_new) l_BadPair_new c_BadPair_new k_BadPair_new).binds (ps := ps_BadPair_new) fun _ _ _ _ _ _ us hl => match us, hl with | [_, _], _ => rfl,
      k_BadPair_new := k_BadPair_new,
      F_BadMark_new := fun_mk (st := s_BadMark_new) l_BadMark_new c_BadMark_new k_BadMark_new,
      b_BadMark_new := (fun_mk (st := s_BadMark_new) l_BadMark_new c_BadMark_new k_BadMark_new).binds (ps := ps_BadMark_new) fun _ _ _ _ _ _ us hl => match us, hl with | [_, _], _ => rfl,
      k_BadMark_new := k_BadMark_new,
      F_BadArgument_new := fun_mk (st := s_BadArgument_new) l_BadArgument_new c_BadArgument_new k_BadArgument_new,
      b_BadArgument_new := (fun_mk (st := s_BadArgument_new) l_BadArgument_new c_BadArgument_new k_BadArgument_new).binds (ps := ps_BadArgument_new) fun _ _ _ _ _ _ us hl => match us, hl with | [_, _], _ => rfl,
      k_BadArgument_new := k_BadArgument_new,
      F_BadNumber_new := fun_mk (st := s_BadNumber_new) l_BadNumber_new c_BadNumber_new k_BadNumber_new,
      b_BadNumber_new := (fun_mk (st := s_BadNumber_new) l_BadNumber_new c_BadNumber_new k_BadNumber_new).binds (ps := ps_BadNumber_new) fun _ _ _ _ _ _ us hl => match us, hl with | [_, _], _ => rfl,
      k_BadNumber_new := k_BadNumber_new,
      F_BadChange_new := fun_mk (st := s_BadChange_new) l_BadChange_new c_BadChange_new k_BadChange_new,
      b_BadChange_new := (fun_mk (st := s_BadChange_new) l_BadChange_new c_BadChange_new k_BadChange_new).binds (ps := ps_BadChange_new) fun _ _ _ _ _ _ us hl => match us, hl with | [_, _], _ => rfl,
      k_BadChange_new := k_BadChange_new,
      F_BadCommand_new := fun_mk (st := s_BadCommand_new) l_BadCommand_new c_BadCommand_new k_BadCommand_new,
      b_BadCommand_new := (fun_mk (st := s_BadCommand_new) l_BadCommand_new c_BadCommand_new k_BadCommand_new).binds (ps := ps_BadCommand_new) fun _ _ _ _ _ _ us hl => match us, hl with | [_, _], _ => rfl,
      k_BadCommand_new := k_BadCommand_new,
      F_BadText_new := fun_mk (st := s_BadText_new) l_BadText_new c_BadText_new k_BadText_new,
      b_BadText_new := (fun_mk (st := s_BadText_new) l_BadText_new c_BadText_new k_BadText_new).binds (ps := ps_BadText_new) fun _ _ _ _ _ _ us hl => match us, hl with | [_, _], _ => rfl,
      k_BadText_new := k_BadText_new,
      F_TooMany_new := fun_mk (st := s_TooMany_new) l_TooMany_new c_TooMany_new k_TooMany_new,
      b_TooMany_new := (fun_mk (st := s_TooMany_new) l_TooMany_new c_TooMany_new k_TooMany_new).binds (ps := ps_TooMany_new) fun _ _ _ _ _ _ us hl => match us, hl with | [_, _], _ => rfl,
      k_TooMany_new := k_TooMany_new,
      F_NotThere_new := fun_mk (st := s_NotThere_new) l_NotThere_new c_NotThere_new k_NotThere_new,
      b_NotThere_new := (fun_mk (st := s_NotThere_new) l_NotThere_new c_NotThere_new k_NotThere_new).binds (ps := ps_NotThere_new) fun _ _ _ _ _ _ us hl => match us, hl with | [_, _], _ => rfl,
      k_NotThere_new := k_NotThere_new,
      F_d_law_made_errors := fun_mk (st := s_d_law_made_errors) l_d_law_made_errors c_d_law_made_errors k_d_law_made_errors,
      b_d_law_made_errors := (fun_mk (st := s_d_law_made_errors) l_d_law_made_errors c_d_law_made_errors k_d_law_made_errors).binds (ps := ps_d_law_made_errors) fun _ _ _ _ _ _ us hl => match us, hl with | [_], _ => rfl,
      k_d_law_made_errors := k_d_law_made_errors,
      g_d_law_made_errors := PySem.W.mg_of X G a_d_law_made_errors,
      F_d_law_named_errors := fun_mk (st := s_d_law_named_errors) l_d_law_named_errors c_d_law_named_errors k_d_law_named_errors,
      b_d_law_named_errors := (fun_mk (st := s_d_law_named_errors) l_d_law_named_errors c_d_law_named_errors k_d_law_named_errors).binds (ps := ps_d_law_named_errors) fun _ _ _ _ _ _ us hl => match us, hl with | [_], _ => rfl,
      k_d_law_named_errors := k_d_law_named_errors,
      g_d_law_named_errors := PySem.W.mg_of X G a_d_law_named_errors,
      F_d_law_fields := fun_mk (st := s_d_law_fields) l_d_law_fields c_d_law_fields k_d_law_fields,
      b_d_law_fields := (fun_mk (st := s_d_law_fields) l_d_law_fields c_d_law_fields k_d_law_fields).binds (ps := ps_d_law_fields) fun _ _ _ _ _ _ us hl => match us, hl with | [_], _ => rfl,
      k_d_law_fields := k_d_law_fields,
      g_d_law_fields := PySem.W.mg_of X G a_d_law_fields,
      F_d_law_bases := fun_mk (st := s_d_law_bases) l_d_law_bases c_d_law_bases k_d_law_bases,
      b_d_law_bases := (fun_mk (st := s_d_law_bases) l_d_law_bases c_d_law_bases k_d_law_bases).binds (ps := ps_d_law_bases) fun _ _ _ _ _ _ us hl => match us, hl with | [_], _ => rfl,
      k_d_law_bases := k_d_law_bases,
      g_d_law_bases := PySem.W.mg_of X G a_d_law_bases,
      F_d_law_kinds := fun_mk (st := s_d_law_kinds) l_d_law_kinds c_d_law_kinds k_d_law_kinds,
      b_d_law_kinds := (fun_mk (st := s_d_law_kinds) l_d_law_kinds c_d_law_kinds k_d_law_kinds).binds (ps := ps_d_law_kinds) fun _ _ _ _ _ _ us hl => match us, hl with | [_], _ => rfl,
      k_d_law_kinds := k_d_law_kinds,
      g_d_law_kinds := PySem.W.mg_of X G a_d_law_kinds,
      F_law := fun_mk (st := s_law) l_law c_law k_law,
      b_law := (fun_mk (st := s_law) l_law c_law k_law).binds (ps := ps_law) fun _ _ _ _ _ _ us hl => match us, hl with | [_], _ => rfl,
      k_law := k_law,
      g_law := PySem.W.mg_of X G a_law,
      fi_OverflowError := fb_OverflowError,
      fi_LookupError := fb_LookupError,
      xi0_MarksError := rxi0_MarksError,
      kc0_MarksError := rkc0_MarksError,
      be0_MarksError := be_MarksError,
      ty0_MarksError := ty_MarksError,
      hd0_MarksError := hd_MarksError,
      xi0_NothingLeft := rxi0_NothingLeft,
      kc0_NothingLeft := rkc0_NothingLeft,
      be0_NothingLeft := be_NothingLeft,
      ty0_NothingLeft := ty_NothingLeft,
      hd0_NothingLeft := hd_NothingLeft,
      oxb_TooMany := ⟨PySem.F.excBase_OverflowError, PySem.F.store_OverflowError, xin_TooMany, xov_TooMany, hd_TooMany, sa_TooMany, be_TooMany, ty_TooMany, kc_TooMany⟩,
      tk_TooMany_most := tk_TooMany_most,
      i_TooMany := a_TooMany_new,
      ti_TooMany := ti_TooMany,
      oxb_NotThere := ⟨PySem.F.excBase_LookupError, PySem.F.store_LookupError, xin_NotThere, xov_NotThere, hd_NotThere, sa_NotThere, be_NotThere, ty_NotThere, kc_NotThere⟩,
      tk_NotThere_word := tk_NotThere_word,
      i_NotThere := a_NotThere_new,
      ti_NotThere := ti_NotThere,
      ox_BadText := ⟨⟨_, _, _, _, _, _, _, _, _, _, _, _, _, _, _, x_BadText, by rfl⟩, sa_BadText, be_BadText, ty_BadText, kc_BadText⟩,
      i_BadText := a_BadText_new,
      ti_BadText := ti_BadText,
      ox_BadCommand := ⟨⟨_, _, _, _, _, _, _, _, _, _, _, _, _, _, _, x_BadCommand, by rfl⟩, sa_BadCommand, be_BadCommand, ty_BadCommand, kc_BadCommand⟩,
      i_BadCommand := a_BadCommand_new,
      ti_BadCommand := ti_BadCommand,
      ox_BadChange := ⟨⟨_, _, _, _, _, _, _, _, _, _, _, _, _, _, _, x_BadChange, by rfl⟩, sa_BadChange, be_BadChange, ty_BadChange, kc_BadChange⟩,
      i_BadChange := a_BadChange_new,
      ti_BadChange := ti_BadChange,
      ox_BadNumber := ⟨⟨_, _, _, _, _, _, _, _, _, _, _, _, _, _, _, x_BadNumber, by rfl⟩, sa_BadNumber, be_BadNumber, ty_BadNumber, kc_BadNumber⟩,
      i_BadNumber := a_BadNumber_new,
      ti_BadNumber := ti_BadNumber,
      ox_BadArgument := ⟨⟨_, _, _, _, _, _, _, _, _, _, _, _, _, _, _, x_BadArgument, by rfl⟩, sa_BadArgument, be_BadArgument, ty_BadArgument, kc_BadArgument⟩,
      i_BadArgument := a_BadArgument_new,
      ti_BadArgument := ti_BadArgument,
      ox_BadMark := ⟨⟨_, _, _, _, _, _, _, _, _, _, _, _, _, _, _, x_BadMark, by rfl⟩, sa_BadMark, be_BadMark, ty_BadMark, kc_BadMark⟩,
      i_BadMark := a_BadMark_new,
      ti_BadMark := ti_BadMark,
      ox_BadPair := ⟨⟨_, _, _, _, _, _, _, _, _, _, _, _, _, _, _, x_BadPair, by rfl⟩, sa_BadPair, be_BadPair, ty_BadPair, kc_BadPair⟩,
      i_BadPair := a_BadPair_new,
      ti_BadPair := ti_BadPair,
      ox_BadRule := ⟨⟨_, _, _, _, _, _, _, _, _, _, _, _, _, _, _, x_BadRule, by rfl⟩, sa_BadRule, be_BadRule, ty_BadRule, kc_BadRule⟩,
      i_BadRule := a_BadRule_new,
      ti_BadRule := ti_BadRule,
      ox_BadPage := ⟨⟨_, _, _, _, _, _, _, _, _, _, _, _, _, _, _, x_BadPage, by rfl⟩, sa_BadPage, be_BadPage, ty_BadPage, kc_BadPage⟩,
      i_BadPage := a_BadPage_new,
      ti_BadPage := ti_BadPage,
      ox_BadCrowd := ⟨⟨_, _, _, _, _, _, _, _, _, _, _, _, _, _, _, x_BadCrowd, by rfl⟩, sa_BadCrowd, be_BadCrowd, ty_BadCrowd, kc_BadCrowd⟩,
      i_BadCrowd := a_BadCrowd_new,
      ti_BadCrowd := ti_BadCrowd,
      oi_MarksError := ⟨PySem.W.mg_of X G a_MarksError, og_MarksError, or_MarksError, of_MarksError⟩,
      no_BadCrowd_part := no_BadCrowd_part,
      no_BadPage_value := no_BadPage_value,
      no_BadRule_part := no_BadRule_part,
      no_BadPair_value := no_BadPair_value,
      no_BadMark_value := no_BadMark_value,
      no_BadArgument_value := no_BadArgument_value,
      no_BadNumber_number := no_BadNumber_number,
      no_BadChange_value := no_BadChange_value,
      no_BadCommand_command := no_BadCommand_command,
      no_BadText_line := no_BadText_line,
      no_TooMany_most := no_TooMany_most,
      no_NotThere_word := no_NotThere_word,
      xf_BadCrowd := ⟨ga_BadCrowd, gg_BadCrowd, be_BadCrowd, hd_BadCrowd⟩,
      xf_BadPage := ⟨ga_BadPage, gg_BadPage, be_BadPage, hd_BadPage⟩,
      xf_BadRule := ⟨ga_BadRule, gg_BadRule, be_BadRule, hd_BadRule⟩,
      xf_BadPair := ⟨ga_BadPair, gg_BadPair, be_BadPair, hd_BadPair⟩,
      xf_BadMark := ⟨ga_BadMark, gg_BadMark, be_BadMark, hd_BadMark⟩,
      xf_BadArgument := ⟨ga_BadArgument, gg_BadArgument, be_BadArgument, hd_BadArgument⟩,
      xf_BadNumber := ⟨ga_BadNumber, gg_BadNumber, be_BadNumber, hd_BadNumber⟩,
      xf_BadChange := ⟨ga_BadChange, gg_BadChange, be_BadChange, hd_BadChange⟩,
      xf_BadCommand := ⟨ga_BadCommand, gg_BadCommand, be_BadCommand, hd_BadCommand⟩,
      xf_BadText := ⟨ga_BadText, gg_BadText, be_BadText, hd_BadText⟩,
      xf_TooMany := ⟨ga_TooMany, gg_TooMany, be_TooMany, hd_TooMany⟩,
      xf_NotThere := ⟨ga_NotThere, gg_NotThere, be_NotThere, hd_NotThere⟩,
      xd_word_0 := ⟨(all_cons ⟨ga_NotThere, gg_NotThere, be_NotThere, hd_NotThere⟩ (fun _ h => nomatch h)), (all_cons no_NotThere_word (fun _ h => nomatch h))⟩,
      xd_most_1 := ⟨(all_cons ⟨ga_TooMany, gg_TooMany, be_TooMany, hd_TooMany⟩ (fun _ h => nomatch h)), (all_cons no_TooMany_most (fun _ h => nomatch h))⟩,
      xd_line_2 := ⟨(all_cons ⟨ga_BadText, gg_BadText, be_BadText, hd_BadText⟩ (fun _ h => nomatch h)), (all_cons no_BadText_line (fun _ h => nomatch h))⟩,
      xd_command_3 := ⟨(all_cons ⟨ga_BadCommand, gg_BadCommand, be_BadCommand, hd_BadCommand⟩ (fun _ h => nomatch h)), (all_cons no_BadCommand_command (fun _ h => nomatch h))⟩,
      xd_value_4 := ⟨(all_cons ⟨ga_BadArgument, gg_BadArgument, be_BadArgument, hd_BadArgument⟩ (all_cons ⟨ga_BadChange, gg_BadChange, be_BadChange, hd_BadChange⟩ (all_cons ⟨ga_BadMark, gg_BadMark, be_BadMark, hd_BadMark⟩ (all_cons ⟨ga_BadPage, gg_BadPage, be_BadPage, hd_BadPage⟩ (all_cons ⟨ga_BadPair, gg_BadPair, be_BadPair, hd_BadPair⟩ (fun _ h => nomatch h)))))), (all_cons no_BadArgument_value (all_cons no_BadChange_value (all_cons no_BadMark_value (all_cons no_BadPage_value (all_cons no_BadPair_value (fun _ h => nomatch h))))))⟩,
      xd_number_5 := ⟨(all_cons ⟨ga_BadNumber, gg_BadNumber, be_BadNumber, hd_BadNumber⟩ (fun _ h => nomatch h)), (all_cons no_BadNumber_number (fun _ h => nomatch h))⟩,
      xd_part_6 := ⟨(all_cons ⟨ga_BadCrowd, gg_BadCrowd, be_BadCrowd, hd_BadCrowd⟩ (all_cons ⟨ga_BadRule, gg_BadRule, be_BadRule, hd_BadRule⟩ (fun _ h => nomatch h))), (all_cons no_BadCrowd_part (all_cons no_BadRule_part (fun _ h => nomatch h)))⟩,
      xi_0 := (all_cons ⟨⟨ga_MarksError, gg_MarksError, be_MarksError, hd_MarksError, hc_MarksError, gs0, gs1, hm_MarksError⟩, (own_kit ic_NothingLeft ty_NothingLeft su_MarksError_NothingLeft (.inr ne_0_13))⟩ (all_cons ⟨⟨ga_BadCrowd, gg_BadCrowd, be_BadCrowd, hd_BadCrowd, hc_BadCrowd, gs0, gs1, hm_BadCrowd⟩, (own_kit ic_NothingLeft ty_NothingLeft su_BadCrowd_NothingLeft (.inr ne_1_13))⟩ (all_cons ⟨⟨ga_BadPage, gg_BadPage, be_BadPage, hd_BadPage, hc_BadPage, gs0, gs1, hm_BadPage⟩, (own_kit ic_NothingLeft ty_NothingLeft su_BadPage_NothingLeft (.inr ne_2_13))⟩ (all_cons ⟨⟨ga_BadRule, gg_BadRule, be_BadRule, hd_BadRule, hc_BadRule, gs0, gs1, hm_BadRule⟩, (own_kit ic_NothingLeft ty_NothingLeft su_BadRule_NothingLeft (.inr ne_3_13))⟩ (all_cons ⟨⟨ga_BadPair, gg_BadPair, be_BadPair, hd_BadPair, hc_BadPair, gs0, gs1, hm_BadPair⟩, (own_kit ic_NothingLeft ty_NothingLeft su_BadPair_NothingLeft (.inr ne_4_13))⟩ (all_cons ⟨⟨ga_BadMark, gg_BadMark, be_BadMark, hd_BadMark, hc_BadMark, gs0, gs1, hm_BadMark⟩, (own_kit ic_NothingLeft ty_NothingLeft su_BadMark_NothingLeft (.inr ne_5_13))⟩ (all_cons ⟨⟨ga_BadArgument, gg_BadArgument, be_BadArgument, hd_BadArgument, hc_BadArgument, gs0, gs1, hm_BadArgument⟩, (own_kit ic_NothingLeft ty_NothingLeft su_BadArgument_NothingLeft (.inr ne_6_13))⟩ (all_cons ⟨⟨ga_BadNumber, gg_BadNumber, be_BadNumber, hd_BadNumber, hc_BadNumber, gs0, gs1, hm_BadNumber⟩, (own_kit ic_NothingLeft ty_NothingLeft su_BadNumber_NothingLeft (.inr ne_7_13))⟩ (all_cons ⟨⟨ga_BadChange, gg_BadChange, be_BadChange, hd_BadChange, hc_BadChange, gs0, gs1, hm_BadChange⟩, (own_kit ic_NothingLeft ty_NothingLeft su_BadChange_NothingLeft (.inr ne_8_13))⟩ (all_cons ⟨⟨ga_BadCommand, gg_BadCommand, be_BadCommand, hd_BadCommand, hc_BadCommand, gs0, gs1, hm_BadCommand⟩, (own_kit ic_NothingLeft ty_NothingLeft su_BadCommand_NothingLeft (.inr ne_9_13))⟩ (all_cons ⟨⟨ga_BadText, gg_BadText, be_BadText, hd_BadText, hc_BadText, gs0, gs1, hm_BadText⟩, (own_kit ic_NothingLeft ty_NothingLeft su_BadText_NothingLeft (.inr ne_10_13))⟩ (all_cons ⟨⟨ga_TooMany, gg_TooMany, be_TooMany, hd_TooMany, hc_TooMany, gs0, gs1, hm_TooMany⟩, (own_kit ic_NothingLeft ty_NothingLeft su_TooMany_NothingLeft (.inr ne_11_13))⟩ (all_cons ⟨⟨ga_NotThere, gg_NotThere, be_NotThere, hd_NotThere, hc_NotThere, gs0, gs1, hm_NotThere⟩, (own_kit ic_NothingLeft ty_NothingLeft su_NotThere_NothingLeft (.inr ne_12_13))⟩ (all_cons ⟨⟨ga_NothingLeft, gg_NothingLeft, be_NothingLeft, hd_NothingLeft, hc_NothingLeft, gs0, gs1, hm_NothingLeft⟩, (own_kit ic_NothingLeft ty_NothingLeft su_NothingLeft_NothingLeft (.inl rfl))⟩ (fun _ h => nomatch h))))))))))))))),
      xi_1 := (all_cons ⟨⟨ga_MarksError, gg_MarksError, be_MarksError, hd_MarksError, hc_MarksError, gs0, gs1, hm_MarksError⟩, (kit_clsB (by decide +kernel) su_MarksError_LookupError)⟩ (all_cons ⟨⟨ga_BadCrowd, gg_BadCrowd, be_BadCrowd, hd_BadCrowd, hc_BadCrowd, gs0, gs1, hm_BadCrowd⟩, (kit_clsB (by decide +kernel) su_BadCrowd_LookupError)⟩ (all_cons ⟨⟨ga_BadPage, gg_BadPage, be_BadPage, hd_BadPage, hc_BadPage, gs0, gs1, hm_BadPage⟩, (kit_clsB (by decide +kernel) su_BadPage_LookupError)⟩ (all_cons ⟨⟨ga_BadRule, gg_BadRule, be_BadRule, hd_BadRule, hc_BadRule, gs0, gs1, hm_BadRule⟩, (kit_clsB (by decide +kernel) su_BadRule_LookupError)⟩ (all_cons ⟨⟨ga_BadPair, gg_BadPair, be_BadPair, hd_BadPair, hc_BadPair, gs0, gs1, hm_BadPair⟩, (kit_clsB (by decide +kernel) su_BadPair_LookupError)⟩ (all_cons ⟨⟨ga_BadMark, gg_BadMark, be_BadMark, hd_BadMark, hc_BadMark, gs0, gs1, hm_BadMark⟩, (kit_clsB (by decide +kernel) su_BadMark_LookupError)⟩ (all_cons ⟨⟨ga_BadArgument, gg_BadArgument, be_BadArgument, hd_BadArgument, hc_BadArgument, gs0, gs1, hm_BadArgument⟩, (kit_clsB (by decide +kernel) su_BadArgument_LookupError)⟩ (all_cons ⟨⟨ga_BadNumber, gg_BadNumber, be_BadNumber, hd_BadNumber, hc_BadNumber, gs0, gs1, hm_BadNumber⟩, (kit_clsB (by decide +kernel) su_BadNumber_LookupError)⟩ (all_cons ⟨⟨ga_BadChange, gg_BadChange, be_BadChange, hd_BadChange, hc_BadChange, gs0, gs1, hm_BadChange⟩, (kit_clsB (by decide +kernel) su_BadChange_LookupError)⟩ (all_cons ⟨⟨ga_BadCommand, gg_BadCommand, be_BadCommand, hd_BadCommand, hc_BadCommand, gs0, gs1, hm_BadCommand⟩, (kit_clsB (by decide +kernel) su_BadCommand_LookupError)⟩ (all_cons ⟨⟨ga_BadText, gg_BadText, be_BadText, hd_BadText, hc_BadText, gs0, gs1, hm_BadText⟩, (kit_clsB (by decide +kernel) su_BadText_LookupError)⟩ (all_cons ⟨⟨ga_TooMany, gg_TooMany, be_TooMany, hd_TooMany, hc_TooMany, gs0, gs1, hm_TooMany⟩, (kit_clsB (by decide +kernel) su_TooMany_LookupError)⟩ (all_cons ⟨⟨ga_NotThere, gg_NotThere, be_NotThere, hd_NotThere, hc_NotThere, gs0, gs1, hm_NotThere⟩, (kit_clsB (by decide +kernel) su_NotThere_LookupError)⟩ (all_cons ⟨⟨ga_NothingLeft, gg_NothingLeft, be_NothingLeft, hd_NothingLeft, hc_NothingLeft, gs0, gs1, hm_NothingLeft⟩, (kit_clsB (by decide +kernel) su_NothingLeft_LookupError)⟩ (fun _ h => nomatch h))))))))))))))),
      xi_2 := (all_cons ⟨⟨ga_MarksError, gg_MarksError, be_MarksError, hd_MarksError, hc_MarksError, gs0, gs1, hm_MarksError⟩, (kit_clsB (by decide +kernel) su_MarksError_OverflowError)⟩ (all_cons ⟨⟨ga_BadCrowd, gg_BadCrowd, be_BadCrowd, hd_BadCrowd, hc_BadCrowd, gs0, gs1, hm_BadCrowd⟩, (kit_clsB (by decide +kernel) su_BadCrowd_OverflowError)⟩ (all_cons ⟨⟨ga_BadPage, gg_BadPage, be_BadPage, hd_BadPage, hc_BadPage, gs0, gs1, hm_BadPage⟩, (kit_clsB (by decide +kernel) su_BadPage_OverflowError)⟩ (all_cons ⟨⟨ga_BadRule, gg_BadRule, be_BadRule, hd_BadRule, hc_BadRule, gs0, gs1, hm_BadRule⟩, (kit_clsB (by decide +kernel) su_BadRule_OverflowError)⟩ (all_cons ⟨⟨ga_BadPair, gg_BadPair, be_BadPair, hd_BadPair, hc_BadPair, gs0, gs1, hm_BadPair⟩, (kit_clsB (by decide +kernel) su_BadPair_OverflowError)⟩ (all_cons ⟨⟨ga_BadMark, gg_BadMark, be_BadMark, hd_BadMark, hc_BadMark, gs0, gs1, hm_BadMark⟩, (kit_clsB (by decide +kernel) su_BadMark_OverflowError)⟩ (all_cons ⟨⟨ga_BadArgument, gg_BadArgument, be_BadArgument, hd_BadArgument, hc_BadArgument, gs0, gs1, hm_BadArgument⟩, (kit_clsB (by decide +kernel) su_BadArgument_OverflowError)⟩ (all_cons ⟨⟨ga_BadNumber, gg_BadNumber, be_BadNumber, hd_BadNumber, hc_BadNumber, gs0, gs1, hm_BadNumber⟩, (kit_clsB (by decide +kernel) su_BadNumber_OverflowError)⟩ (all_cons ⟨⟨ga_BadChange, gg_BadChange, be_BadChange, hd_BadChange, hc_BadChange, gs0, gs1, hm_BadChange⟩, (kit_clsB (by decide +kernel) su_BadChange_OverflowError)⟩ (all_cons ⟨⟨ga_BadCommand, gg_BadCommand, be_BadCommand, hd_BadCommand, hc_BadCommand, gs0, gs1, hm_BadCommand⟩, (kit_clsB (by decide +kernel) su_BadCommand_OverflowError)⟩ (all_cons ⟨⟨ga_BadText, gg_BadText, be_BadText, hd_BadText, hc_BadText, gs0, gs1, hm_BadText⟩, (kit_clsB (by decide +kernel) su_BadText_OverflowError)⟩ (all_cons ⟨⟨ga_TooMany, gg_TooMany, be_TooMany, hd_TooMany, hc_TooMany, gs0, gs1, hm_TooMany⟩, (kit_clsB (by decide +kernel) su_TooMany_OverflowError)⟩ (all_cons ⟨⟨ga_NotThere, gg_NotThere, be_NotThere, hd_NotThere, hc_NotThere, gs0, gs1, hm_NotThere⟩, (kit_clsB (by decide +kernel) su_NotThere_OverflowError)⟩ (all_cons ⟨⟨ga_NothingLeft, gg_NothingLeft, be_NothingLeft, hd_NothingLeft, hc_NothingLeft, gs0, gs1, hm_NothingLeft⟩, (kit_clsB (by decide +kernel) su_NothingLeft_OverflowError)⟩ (fun _ h => nomatch h))))))))))))))),
      xi_3 := (all_cons ⟨⟨ga_MarksError, gg_MarksError, be_MarksError, hd_MarksError, hc_MarksError, gs0, gs1, hm_MarksError⟩, (kit_clsB (by decide +kernel) su_MarksError_ValueError)⟩ (all_cons ⟨⟨ga_BadCrowd, gg_BadCrowd, be_BadCrowd, hd_BadCrowd, hc_BadCrowd, gs0, gs1, hm_BadCrowd⟩, (kit_clsB (by decide +kernel) su_BadCrowd_ValueError)⟩ (all_cons ⟨⟨ga_BadPage, gg_BadPage, be_BadPage, hd_BadPage, hc_BadPage, gs0, gs1, hm_BadPage⟩, (kit_clsB (by decide +kernel) su_BadPage_ValueError)⟩ (all_cons ⟨⟨ga_BadRule, gg_BadRule, be_BadRule, hd_BadRule, hc_BadRule, gs0, gs1, hm_BadRule⟩, (kit_clsB (by decide +kernel) su_BadRule_ValueError)⟩ (all_cons ⟨⟨ga_BadPair, gg_BadPair, be_BadPair, hd_BadPair, hc_BadPair, gs0, gs1, hm_BadPair⟩, (kit_clsB (by decide +kernel) su_BadPair_ValueError)⟩ (all_cons ⟨⟨ga_BadMark, gg_BadMark, be_BadMark, hd_BadMark, hc_BadMark, gs0, gs1, hm_BadMark⟩, (kit_clsB (by decide +kernel) su_BadMark_ValueError)⟩ (all_cons ⟨⟨ga_BadArgument, gg_BadArgument, be_BadArgument, hd_BadArgument, hc_BadArgument, gs0, gs1, hm_BadArgument⟩, (kit_clsB (by decide +kernel) su_BadArgument_ValueError)⟩ (all_cons ⟨⟨ga_BadNumber, gg_BadNumber, be_BadNumber, hd_BadNumber, hc_BadNumber, gs0, gs1, hm_BadNumber⟩, (kit_clsB (by decide +kernel) su_BadNumber_ValueError)⟩ (all_cons ⟨⟨ga_BadChange, gg_BadChange, be_BadChange, hd_BadChange, hc_BadChange, gs0, gs1, hm_BadChange⟩, (kit_clsB (by decide +kernel) su_BadChange_ValueError)⟩ (all_cons ⟨⟨ga_BadCommand, gg_BadCommand, be_BadCommand, hd_BadCommand, hc_BadCommand, gs0, gs1, hm_BadCommand⟩, (kit_clsB (by decide +kernel) su_BadCommand_ValueError)⟩ (all_cons ⟨⟨ga_BadText, gg_BadText, be_BadText, hd_BadText, hc_BadText, gs0, gs1, hm_BadText⟩, (kit_clsB (by decide +kernel) su_BadText_ValueError)⟩ (all_cons ⟨⟨ga_TooMany, gg_TooMany, be_TooMany, hd_TooMany, hc_TooMany, gs0, gs1, hm_TooMany⟩, (kit_clsB (by decide +kernel) su_TooMany_ValueError)⟩ (all_cons ⟨⟨ga_NotThere, gg_NotThere, be_NotThere, hd_NotThere, hc_NotThere, gs0, gs1, hm_NotThere⟩, (kit_clsB (by decide +kernel) su_NotThere_ValueError)⟩ (all_cons ⟨⟨ga_NothingLeft, gg_NothingLeft, be_NothingLeft, hd_NothingLeft, hc_NothingLeft, gs0, gs1, hm_NothingLeft⟩, (kit_clsB (by decide +kernel) su_NothingLeft_ValueError)⟩ (fun _ h => nomatch h))))))))))))))),
      xi_4 := (all_cons ⟨⟨ga_MarksError, gg_MarksError, be_MarksError, hd_MarksError, hc_MarksError, gs0, gs1, hm_MarksError⟩, (own_kit ic_MarksError ty_MarksError su_MarksError_MarksError (.inl rfl))⟩ (all_cons ⟨⟨ga_BadCrowd, gg_BadCrowd, be_BadCrowd, hd_BadCrowd, hc_BadCrowd, gs0, gs1, hm_BadCrowd⟩, (own_kit ic_MarksError ty_MarksError su_BadCrowd_MarksError (.inl rfl))⟩ (all_cons ⟨⟨ga_BadPage, gg_BadPage, be_BadPage, hd_BadPage, hc_BadPage, gs0, gs1, hm_BadPage⟩, (own_kit ic_MarksError ty_MarksError su_BadPage_MarksError (.inl rfl))⟩ (all_cons ⟨⟨ga_BadRule, gg_BadRule, be_BadRule, hd_BadRule, hc_BadRule, gs0, gs1, hm_BadRule⟩, (own_kit ic_MarksError ty_MarksError su_BadRule_MarksError (.inl rfl))⟩ (all_cons ⟨⟨ga_BadPair, gg_BadPair, be_BadPair, hd_BadPair, hc_BadPair, gs0, gs1, hm_BadPair⟩, (own_kit ic_MarksError ty_MarksError su_BadPair_MarksError (.inl rfl))⟩ (all_cons ⟨⟨ga_BadMark, gg_BadMark, be_BadMark, hd_BadMark, hc_BadMark, gs0, gs1, hm_BadMark⟩, (own_kit ic_MarksError ty_MarksError su_BadMark_MarksError (.inl rfl))⟩ (all_cons ⟨⟨ga_BadArgument, gg_BadArgument, be_BadArgument, hd_BadArgument, hc_BadArgument, gs0, gs1, hm_BadArgument⟩, (own_kit ic_MarksError ty_MarksError su_BadArgument_MarksError (.inl rfl))⟩ (all_cons ⟨⟨ga_BadNumber, gg_BadNumber, be_BadNumber, hd_BadNumber, hc_BadNumber, gs0, gs1, hm_BadNumber⟩, (own_kit ic_MarksError ty_MarksError su_BadNumber_MarksError (.inl rfl))⟩ (all_cons ⟨⟨ga_BadChange, gg_BadChange, be_BadChange, hd_BadChange, hc_BadChange, gs0, gs1, hm_BadChange⟩, (own_kit ic_MarksError ty_MarksError su_BadChange_MarksError (.inl rfl))⟩ (all_cons ⟨⟨ga_BadCommand, gg_BadCommand, be_BadCommand, hd_BadCommand, hc_BadCommand, gs0, gs1, hm_BadCommand⟩, (own_kit ic_MarksError ty_MarksError su_BadCommand_MarksError (.inl rfl))⟩ (all_cons ⟨⟨ga_BadText, gg_BadText, be_BadText, hd_BadText, hc_BadText, gs0, gs1, hm_BadText⟩, (own_kit ic_MarksError ty_MarksError su_BadText_MarksError (.inl rfl))⟩ (all_cons ⟨⟨ga_TooMany, gg_TooMany, be_TooMany, hd_TooMany, hc_TooMany, gs0, gs1, hm_TooMany⟩, (own_kit ic_MarksError ty_MarksError su_TooMany_MarksError (.inr ne_11_0))⟩ (all_cons ⟨⟨ga_NotThere, gg_NotThere, be_NotThere, hd_NotThere, hc_NotThere, gs0, gs1, hm_NotThere⟩, (own_kit ic_MarksError ty_MarksError su_NotThere_MarksError (.inr ne_12_0))⟩ (all_cons ⟨⟨ga_NothingLeft, gg_NothingLeft, be_NothingLeft, hd_NothingLeft, hc_NothingLeft, gs0, gs1, hm_NothingLeft⟩, (own_kit ic_MarksError ty_MarksError su_NothingLeft_MarksError (.inr ne_13_0))⟩ (fun _ h => nomatch h))))))))))))))),
      xi_5 := (all_cons ⟨⟨ga_BadCrowd, gg_BadCrowd, be_BadCrowd, hd_BadCrowd, hc_BadCrowd, gs0, gs1, hm_BadCrowd⟩, (own_kit ic_NotThere ty_NotThere su_BadCrowd_NotThere (.inr ne_1_12))⟩ (all_cons ⟨⟨ga_BadPage, gg_BadPage, be_BadPage, hd_BadPage, hc_BadPage, gs0, gs1, hm_BadPage⟩, (own_kit ic_NotThere ty_NotThere su_BadPage_NotThere (.inr ne_2_12))⟩ (all_cons ⟨⟨ga_BadRule, gg_BadRule, be_BadRule, hd_BadRule, hc_BadRule, gs0, gs1, hm_BadRule⟩, (own_kit ic_NotThere ty_NotThere su_BadRule_NotThere (.inr ne_3_12))⟩ (all_cons ⟨⟨ga_BadPair, gg_BadPair, be_BadPair, hd_BadPair, hc_BadPair, gs0, gs1, hm_BadPair⟩, (own_kit ic_NotThere ty_NotThere su_BadPair_NotThere (.inr ne_4_12))⟩ (all_cons ⟨⟨ga_BadMark, gg_BadMark, be_BadMark, hd_BadMark, hc_BadMark, gs0, gs1, hm_BadMark⟩, (own_kit ic_NotThere ty_NotThere su_BadMark_NotThere (.inr ne_5_12))⟩ (all_cons ⟨⟨ga_BadArgument, gg_BadArgument, be_BadArgument, hd_BadArgument, hc_BadArgument, gs0, gs1, hm_BadArgument⟩, (own_kit ic_NotThere ty_NotThere su_BadArgument_NotThere (.inr ne_6_12))⟩ (all_cons ⟨⟨ga_BadNumber, gg_BadNumber, be_BadNumber, hd_BadNumber, hc_BadNumber, gs0, gs1, hm_BadNumber⟩, (own_kit ic_NotThere ty_NotThere su_BadNumber_NotThere (.inr ne_7_12))⟩ (all_cons ⟨⟨ga_BadChange, gg_BadChange, be_BadChange, hd_BadChange, hc_BadChange, gs0, gs1, hm_BadChange⟩, (own_kit ic_NotThere ty_NotThere su_BadChange_NotThere (.inr ne_8_12))⟩ (all_cons ⟨⟨ga_BadCommand, gg_BadCommand, be_BadCommand, hd_BadCommand, hc_BadCommand, gs0, gs1, hm_BadCommand⟩, (own_kit ic_NotThere ty_NotThere su_BadCommand_NotThere (.inr ne_9_12))⟩ (all_cons ⟨⟨ga_BadText, gg_BadText, be_BadText, hd_BadText, hc_BadText, gs0, gs1, hm_BadText⟩, (own_kit ic_NotThere ty_NotThere su_BadText_NotThere (.inr ne_10_12))⟩ (all_cons ⟨⟨ga_TooMany, gg_TooMany, be_TooMany, hd_TooMany, hc_TooMany, gs0, gs1, hm_TooMany⟩, (own_kit ic_NotThere ty_NotThere su_TooMany_NotThere (.inr ne_11_12))⟩ (all_cons ⟨⟨ga_NotThere, gg_NotThere, be_NotThere, hd_NotThere, hc_NotThere, gs0, gs1, hm_NotThere⟩, (own_kit ic_NotThere ty_NotThere su_NotThere_NotThere (.inl rfl))⟩ (fun _ h => nomatch h))))))))))))),
      xi_6 := (all_cons ⟨⟨ga_BadCrowd, gg_BadCrowd, be_BadCrowd, hd_BadCrowd, hc_BadCrowd, gs0, gs1, hm_BadCrowd⟩, (own_kit ic_TooMany ty_TooMany su_BadCrowd_TooMany (.inr ne_1_11))⟩ (all_cons ⟨⟨ga_BadPage, gg_BadPage, be_BadPage, hd_BadPage, hc_BadPage, gs0, gs1, hm_BadPage⟩, (own_kit ic_TooMany ty_TooMany su_BadPage_TooMany (.inr ne_2_11))⟩ (all_cons ⟨⟨ga_BadRule, gg_BadRule, be_BadRule, hd_BadRule, hc_BadRule, gs0, gs1, hm_BadRule⟩, (own_kit ic_TooMany ty_TooMany su_BadRule_TooMany (.inr ne_3_11))⟩ (all_cons ⟨⟨ga_BadPair, gg_BadPair, be_BadPair, hd_BadPair, hc_BadPair, gs0, gs1, hm_BadPair⟩, (own_kit ic_TooMany ty_TooMany su_BadPair_TooMany (.inr ne_4_11))⟩ (all_cons ⟨⟨ga_BadMark, gg_BadMark, be_BadMark, hd_BadMark, hc_BadMark, gs0, gs1, hm_BadMark⟩, (own_kit ic_TooMany ty_TooMany su_BadMark_TooMany (.inr ne_5_11))⟩ (all_cons ⟨⟨ga_BadArgument, gg_BadArgument, be_BadArgument, hd_BadArgument, hc_BadArgument, gs0, gs1, hm_BadArgument⟩, (own_kit ic_TooMany ty_TooMany su_BadArgument_TooMany (.inr ne_6_11))⟩ (all_cons ⟨⟨ga_BadNumber, gg_BadNumber, be_BadNumber, hd_BadNumber, hc_BadNumber, gs0, gs1, hm_BadNumber⟩, (own_kit ic_TooMany ty_TooMany su_BadNumber_TooMany (.inr ne_7_11))⟩ (all_cons ⟨⟨ga_BadChange, gg_BadChange, be_BadChange, hd_BadChange, hc_BadChange, gs0, gs1, hm_BadChange⟩, (own_kit ic_TooMany ty_TooMany su_BadChange_TooMany (.inr ne_8_11))⟩ (all_cons ⟨⟨ga_BadCommand, gg_BadCommand, be_BadCommand, hd_BadCommand, hc_BadCommand, gs0, gs1, hm_BadCommand⟩, (own_kit ic_TooMany ty_TooMany su_BadCommand_TooMany (.inr ne_9_11))⟩ (all_cons ⟨⟨ga_BadText, gg_BadText, be_BadText, hd_BadText, hc_BadText, gs0, gs1, hm_BadText⟩, (own_kit ic_TooMany ty_TooMany su_BadText_TooMany (.inr ne_10_11))⟩ (all_cons ⟨⟨ga_TooMany, gg_TooMany, be_TooMany, hd_TooMany, hc_TooMany, gs0, gs1, hm_TooMany⟩, (own_kit ic_TooMany ty_TooMany su_TooMany_TooMany (.inl rfl))⟩ (all_cons ⟨⟨ga_NotThere, gg_NotThere, be_NotThere, hd_NotThere, hc_NotThere, gs0, gs1, hm_NotThere⟩, (own_kit ic_TooMany ty_TooMany su_NotThere_TooMany (.inr ne_12_11))⟩ (fun _ h => nomatch h))))))))))))),
      xi_7 := (all_cons ⟨⟨ga_BadCrowd, gg_BadCrowd, be_BadCrowd, hd_BadCrowd, hc_BadCrowd, gs0, gs1, hm_BadCrowd⟩, (own_kit ic_BadText ty_BadText su_BadCrowd_BadText (.inr ne_1_10))⟩ (all_cons ⟨⟨ga_BadPage, gg_BadPage, be_BadPage, hd_BadPage, hc_BadPage, gs0, gs1, hm_BadPage⟩, (own_kit ic_BadText ty_BadText su_BadPage_BadText (.inr ne_2_10))⟩ (all_cons ⟨⟨ga_BadRule, gg_BadRule, be_BadRule, hd_BadRule, hc_BadRule, gs0, gs1, hm_BadRule⟩, (own_kit ic_BadText ty_BadText su_BadRule_BadText (.inr ne_3_10))⟩ (all_cons ⟨⟨ga_BadPair, gg_BadPair, be_BadPair, hd_BadPair, hc_BadPair, gs0, gs1, hm_BadPair⟩, (own_kit ic_BadText ty_BadText su_BadPair_BadText (.inr ne_4_10))⟩ (all_cons ⟨⟨ga_BadMark, gg_BadMark, be_BadMark, hd_BadMark, hc_BadMark, gs0, gs1, hm_BadMark⟩, (own_kit ic_BadText ty_BadText su_BadMark_BadText (.inr ne_5_10))⟩ (all_cons ⟨⟨ga_BadArgument, gg_BadArgument, be_BadArgument, hd_BadArgument, hc_BadArgument, gs0, gs1, hm_BadArgument⟩, (own_kit ic_BadText ty_BadText su_BadArgument_BadText (.inr ne_6_10))⟩ (all_cons ⟨⟨ga_BadNumber, gg_BadNumber, be_BadNumber, hd_BadNumber, hc_BadNumber, gs0, gs1, hm_BadNumber⟩, (own_kit ic_BadText ty_BadText su_BadNumber_BadText (.inr ne_7_10))⟩ (all_cons ⟨⟨ga_BadChange, gg_BadChange, be_BadChange, hd_BadChange, hc_BadChange, gs0, gs1, hm_BadChange⟩, (own_kit ic_BadText ty_BadText su_BadChange_BadText (.inr ne_8_10))⟩ (all_cons ⟨⟨ga_BadCommand, gg_BadCommand, be_BadCommand, hd_BadCommand, hc_BadCommand, gs0, gs1, hm_BadCommand⟩, (own_kit ic_BadText ty_BadText su_BadCommand_BadText (.inr ne_9_10))⟩ (all_cons ⟨⟨ga_BadText, gg_BadText, be_BadText, hd_BadText, hc_BadText, gs0, gs1, hm_BadText⟩, (own_kit ic_BadText ty_BadText su_BadText_BadText (.inl rfl))⟩ (all_cons ⟨⟨ga_TooMany, gg_TooMany, be_TooMany, hd_TooMany, hc_TooMany, gs0, gs1, hm_TooMany⟩, (own_kit ic_BadText ty_BadText su_TooMany_BadText (.inr ne_11_10))⟩ (all_cons ⟨⟨ga_NotThere, gg_NotThere, be_NotThere, hd_NotThere, hc_NotThere, gs0, gs1, hm_NotThere⟩, (own_kit ic_BadText ty_BadText su_NotThere_BadText (.inr ne_12_10))⟩ (fun _ h => nomatch h))))))))))))),
      xi_8 := (all_cons ⟨⟨ga_BadCrowd, gg_BadCrowd, be_BadCrowd, hd_BadCrowd, hc_BadCrowd, gs0, gs1, hm_BadCrowd⟩, (own_kit ic_BadCommand ty_BadCommand su_BadCrowd_BadCommand (.inr ne_1_9))⟩ (all_cons ⟨⟨ga_BadPage, gg_BadPage, be_BadPage, hd_BadPage, hc_BadPage, gs0, gs1, hm_BadPage⟩, (own_kit ic_BadCommand ty_BadCommand su_BadPage_BadCommand (.inr ne_2_9))⟩ (all_cons ⟨⟨ga_BadRule, gg_BadRule, be_BadRule, hd_BadRule, hc_BadRule, gs0, gs1, hm_BadRule⟩, (own_kit ic_BadCommand ty_BadCommand su_BadRule_BadCommand (.inr ne_3_9))⟩ (all_cons ⟨⟨ga_BadPair, gg_BadPair, be_BadPair, hd_BadPair, hc_BadPair, gs0, gs1, hm_BadPair⟩, (own_kit ic_BadCommand ty_BadCommand su_BadPair_BadCommand (.inr ne_4_9))⟩ (all_cons ⟨⟨ga_BadMark, gg_BadMark, be_BadMark, hd_BadMark, hc_BadMark, gs0, gs1, hm_BadMark⟩, (own_kit ic_BadCommand ty_BadCommand su_BadMark_BadCommand (.inr ne_5_9))⟩ (all_cons ⟨⟨ga_BadArgument, gg_BadArgument, be_BadArgument, hd_BadArgument, hc_BadArgument, gs0, gs1, hm_BadArgument⟩, (own_kit ic_BadCommand ty_BadCommand su_BadArgument_BadCommand (.inr ne_6_9))⟩ (all_cons ⟨⟨ga_BadNumber, gg_BadNumber, be_BadNumber, hd_BadNumber, hc_BadNumber, gs0, gs1, hm_BadNumber⟩, (own_kit ic_BadCommand ty_BadCommand su_BadNumber_BadCommand (.inr ne_7_9))⟩ (all_cons ⟨⟨ga_BadChange, gg_BadChange, be_BadChange, hd_BadChange, hc_BadChange, gs0, gs1, hm_BadChange⟩, (own_kit ic_BadCommand ty_BadCommand su_BadChange_BadCommand (.inr ne_8_9))⟩ (all_cons ⟨⟨ga_BadCommand, gg_BadCommand, be_BadCommand, hd_BadCommand, hc_BadCommand, gs0, gs1, hm_BadCommand⟩, (own_kit ic_BadCommand ty_BadCommand su_BadCommand_BadCommand (.inl rfl))⟩ (all_cons ⟨⟨ga_BadText, gg_BadText, be_BadText, hd_BadText, hc_BadText, gs0, gs1, hm_BadText⟩, (own_kit ic_BadCommand ty_BadCommand su_BadText_BadCommand (.inr ne_10_9))⟩ (all_cons ⟨⟨ga_TooMany, gg_TooMany, be_TooMany, hd_TooMany, hc_TooMany, gs0, gs1, hm_TooMany⟩, (own_kit ic_BadCommand ty_BadCommand su_TooMany_BadCommand (.inr ne_11_9))⟩ (all_cons ⟨⟨ga_NotThere, gg_NotThere, be_NotThere, hd_NotThere, hc_NotThere, gs0, gs1, hm_NotThere⟩, (own_kit ic_BadCommand ty_BadCommand su_NotThere_BadCommand (.inr ne_12_9))⟩ (fun _ h => nomatch h))))))))))))),
      xi_9 := (all_cons ⟨⟨ga_BadCrowd, gg_BadCrowd, be_BadCrowd, hd_BadCrowd, hc_BadCrowd, gs0, gs1, hm_BadCrowd⟩, (own_kit ic_BadChange ty_BadChange su_BadCrowd_BadChange (.inr ne_1_8))⟩ (all_cons ⟨⟨ga_BadPage, gg_BadPage, be_BadPage, hd_BadPage, hc_BadPage, gs0, gs1, hm_BadPage⟩, (own_kit ic_BadChange ty_BadChange su_BadPage_BadChange (.inr ne_2_8))⟩ (all_cons ⟨⟨ga_BadRule, gg_BadRule, be_BadRule, hd_BadRule, hc_BadRule, gs0, gs1, hm_BadRule⟩, (own_kit ic_BadChange ty_BadChange su_BadRule_BadChange (.inr ne_3_8))⟩ (all_cons ⟨⟨ga_BadPair, gg_BadPair, be_BadPair, hd_BadPair, hc_BadPair, gs0, gs1, hm_BadPair⟩, (own_kit ic_BadChange ty_BadChange su_BadPair_BadChange (.inr ne_4_8))⟩ (all_cons ⟨⟨ga_BadMark, gg_BadMark, be_BadMark, hd_BadMark, hc_BadMark, gs0, gs1, hm_BadMark⟩, (own_kit ic_BadChange ty_BadChange su_BadMark_BadChange (.inr ne_5_8))⟩ (all_cons ⟨⟨ga_BadArgument, gg_BadArgument, be_BadArgument, hd_BadArgument, hc_BadArgument, gs0, gs1, hm_BadArgument⟩, (own_kit ic_BadChange ty_BadChange su_BadArgument_BadChange (.inr ne_6_8))⟩ (all_cons ⟨⟨ga_BadNumber, gg_BadNumber, be_BadNumber, hd_BadNumber, hc_BadNumber, gs0, gs1, hm_BadNumber⟩, (own_kit ic_BadChange ty_BadChange su_BadNumber_BadChange (.inr ne_7_8))⟩ (all_cons ⟨⟨ga_BadChange, gg_BadChange, be_BadChange, hd_BadChange, hc_BadChange, gs0, gs1, hm_BadChange⟩, (own_kit ic_BadChange ty_BadChange su_BadChange_BadChange (.inl rfl))⟩ (all_cons ⟨⟨ga_BadCommand, gg_BadCommand, be_BadCommand, hd_BadCommand, hc_BadCommand, gs0, gs1, hm_BadCommand⟩, (own_kit ic_BadChange ty_BadChange su_BadCommand_BadChange (.inr ne_9_8))⟩ (all_cons ⟨⟨ga_BadText, gg_BadText, be_BadText, hd_BadText, hc_BadText, gs0, gs1, hm_BadText⟩, (own_kit ic_BadChange ty_BadChange su_BadText_BadChange (.inr ne_10_8))⟩ (all_cons ⟨⟨ga_TooMany, gg_TooMany, be_TooMany, hd_TooMany, hc_TooMany, gs0, gs1, hm_TooMany⟩, (own_kit ic_BadChange ty_BadChange su_TooMany_BadChange (.inr ne_11_8))⟩ (all_cons ⟨⟨ga_NotThere, gg_NotThere, be_NotThere, hd_NotThere, hc_NotThere, gs0, gs1, hm_NotThere⟩, (own_kit ic_BadChange ty_BadChange su_NotThere_BadChange (.inr ne_12_8))⟩ (fun _ h => nomatch h))))))))))))),
      xi_10 := (all_cons ⟨⟨ga_BadCrowd, gg_BadCrowd, be_BadCrowd, hd_BadCrowd, hc_BadCrowd, gs0, gs1, hm_BadCrowd⟩, (own_kit ic_BadNumber ty_BadNumber su_BadCrowd_BadNumber (.inr ne_1_7))⟩ (all_cons ⟨⟨ga_BadPage, gg_BadPage, be_BadPage, hd_BadPage, hc_BadPage, gs0, gs1, hm_BadPage⟩, (own_kit ic_BadNumber ty_BadNumber su_BadPage_BadNumber (.inr ne_2_7))⟩ (all_cons ⟨⟨ga_BadRule, gg_BadRule, be_BadRule, hd_BadRule, hc_BadRule, gs0, gs1, hm_BadRule⟩, (own_kit ic_BadNumber ty_BadNumber su_BadRule_BadNumber (.inr ne_3_7))⟩ (all_cons ⟨⟨ga_BadPair, gg_BadPair, be_BadPair, hd_BadPair, hc_BadPair, gs0, gs1, hm_BadPair⟩, (own_kit ic_BadNumber ty_BadNumber su_BadPair_BadNumber (.inr ne_4_7))⟩ (all_cons ⟨⟨ga_BadMark, gg_BadMark, be_BadMark, hd_BadMark, hc_BadMark, gs0, gs1, hm_BadMark⟩, (own_kit ic_BadNumber ty_BadNumber su_BadMark_BadNumber (.inr ne_5_7))⟩ (all_cons ⟨⟨ga_BadArgument, gg_BadArgument, be_BadArgument, hd_BadArgument, hc_BadArgument, gs0, gs1, hm_BadArgument⟩, (own_kit ic_BadNumber ty_BadNumber su_BadArgument_BadNumber (.inr ne_6_7))⟩ (all_cons ⟨⟨ga_BadNumber, gg_BadNumber, be_BadNumber, hd_BadNumber, hc_BadNumber, gs0, gs1, hm_BadNumber⟩, (own_kit ic_BadNumber ty_BadNumber su_BadNumber_BadNumber (.inl rfl))⟩ (all_cons ⟨⟨ga_BadChange, gg_BadChange, be_BadChange, hd_BadChange, hc_BadChange, gs0, gs1, hm_BadChange⟩, (own_kit ic_BadNumber ty_BadNumber su_BadChange_BadNumber (.inr ne_8_7))⟩ (all_cons ⟨⟨ga_BadCommand, gg_BadCommand, be_BadCommand, hd_BadCommand, hc_BadCommand, gs0, gs1, hm_BadCommand⟩, (own_kit ic_BadNumber ty_BadNumber su_BadCommand_BadNumber (.inr ne_9_7))⟩ (all_cons ⟨⟨ga_BadText, gg_BadText, be_BadText, hd_BadText, hc_BadText, gs0, gs1, hm_BadText⟩, (own_kit ic_BadNumber ty_BadNumber su_BadText_BadNumber (.inr ne_10_7))⟩ (all_cons ⟨⟨ga_TooMany, gg_TooMany, be_TooMany, hd_TooMany, hc_TooMany, gs0, gs1, hm_TooMany⟩, (own_kit ic_BadNumber ty_BadNumber su_TooMany_BadNumber (.inr ne_11_7))⟩ (all_cons ⟨⟨ga_NotThere, gg_NotThere, be_NotThere, hd_NotThere, hc_NotThere, gs0, gs1, hm_NotThere⟩, (own_kit ic_BadNumber ty_BadNumber su_NotThere_BadNumber (.inr ne_12_7))⟩ (fun _ h => nomatch h))))))))))))),
      xi_11 := (all_cons ⟨⟨ga_BadCrowd, gg_BadCrowd, be_BadCrowd, hd_BadCrowd, hc_BadCrowd, gs0, gs1, hm_BadCrowd⟩, (own_kit ic_BadArgument ty_BadArgument su_BadCrowd_BadArgument (.inr ne_1_6))⟩ (all_cons ⟨⟨ga_BadPage, gg_BadPage, be_BadPage, hd_BadPage, hc_BadPage, gs0, gs1, hm_BadPage⟩, (own_kit ic_BadArgument ty_BadArgument su_BadPage_BadArgument (.inr ne_2_6))⟩ (all_cons ⟨⟨ga_BadRule, gg_BadRule, be_BadRule, hd_BadRule, hc_BadRule, gs0, gs1, hm_BadRule⟩, (own_kit ic_BadArgument ty_BadArgument su_BadRule_BadArgument (.inr ne_3_6))⟩ (all_cons ⟨⟨ga_BadPair, gg_BadPair, be_BadPair, hd_BadPair, hc_BadPair, gs0, gs1, hm_BadPair⟩, (own_kit ic_BadArgument ty_BadArgument su_BadPair_BadArgument (.inr ne_4_6))⟩ (all_cons ⟨⟨ga_BadMark, gg_BadMark, be_BadMark, hd_BadMark, hc_BadMark, gs0, gs1, hm_BadMark⟩, (own_kit ic_BadArgument ty_BadArgument su_BadMark_BadArgument (.inr ne_5_6))⟩ (all_cons ⟨⟨ga_BadArgument, gg_BadArgument, be_BadArgument, hd_BadArgument, hc_BadArgument, gs0, gs1, hm_BadArgument⟩, (own_kit ic_BadArgument ty_BadArgument su_BadArgument_BadArgument (.inl rfl))⟩ (all_cons ⟨⟨ga_BadNumber, gg_BadNumber, be_BadNumber, hd_BadNumber, hc_BadNumber, gs0, gs1, hm_BadNumber⟩, (own_kit ic_BadArgument ty_BadArgument su_BadNumber_BadArgument (.inr ne_7_6))⟩ (all_cons ⟨⟨ga_BadChange, gg_BadChange, be_BadChange, hd_BadChange, hc_BadChange, gs0, gs1, hm_BadChange⟩, (own_kit ic_BadArgument ty_BadArgument su_BadChange_BadArgument (.inr ne_8_6))⟩ (all_cons ⟨⟨ga_BadCommand, gg_BadCommand, be_BadCommand, hd_BadCommand, hc_BadCommand, gs0, gs1, hm_BadCommand⟩, (own_kit ic_BadArgument ty_BadArgument su_BadCommand_BadArgument (.inr ne_9_6))⟩ (all_cons ⟨⟨ga_BadText, gg_BadText, be_BadText, hd_BadText, hc_BadText, gs0, gs1, hm_BadText⟩, (own_kit ic_BadArgument ty_BadArgument su_BadText_BadArgument (.inr ne_10_6))⟩ (all_cons ⟨⟨ga_TooMany, gg_TooMany, be_TooMany, hd_TooMany, hc_TooMany, gs0, gs1, hm_TooMany⟩, (own_kit ic_BadArgument ty_BadArgument su_TooMany_BadArgument (.inr ne_11_6))⟩ (all_cons ⟨⟨ga_NotThere, gg_NotThere, be_NotThere, hd_NotThere, hc_NotThere, gs0, gs1, hm_NotThere⟩, (own_kit ic_BadArgument ty_BadArgument su_NotThere_BadArgument (.inr ne_12_6))⟩ (fun _ h => nomatch h))))))))))))),
      xi_12 := (all_cons ⟨⟨ga_BadCrowd, gg_BadCrowd, be_BadCrowd, hd_BadCrowd, hc_BadCrowd, gs0, gs1, hm_BadCrowd⟩, (own_kit ic_BadMark ty_BadMark su_BadCrowd_BadMark (.inr ne_1_5))⟩ (all_cons ⟨⟨ga_BadPage, gg_BadPage, be_BadPage, hd_BadPage, hc_BadPage, gs0, gs1, hm_BadPage⟩, (own_kit ic_BadMark ty_BadMark su_BadPage_BadMark (.inr ne_2_5))⟩ (all_cons ⟨⟨ga_BadRule, gg_BadRule, be_BadRule, hd_BadRule, hc_BadRule, gs0, gs1, hm_BadRule⟩, (own_kit ic_BadMark ty_BadMark su_BadRule_BadMark (.inr ne_3_5))⟩ (all_cons ⟨⟨ga_BadPair, gg_BadPair, be_BadPair, hd_BadPair, hc_BadPair, gs0, gs1, hm_BadPair⟩, (own_kit ic_BadMark ty_BadMark su_BadPair_BadMark (.inr ne_4_5))⟩ (all_cons ⟨⟨ga_BadMark, gg_BadMark, be_BadMark, hd_BadMark, hc_BadMark, gs0, gs1, hm_BadMark⟩, (own_kit ic_BadMark ty_BadMark su_BadMark_BadMark (.inl rfl))⟩ (all_cons ⟨⟨ga_BadArgument, gg_BadArgument, be_BadArgument, hd_BadArgument, hc_BadArgument, gs0, gs1, hm_BadArgument⟩, (own_kit ic_BadMark ty_BadMark su_BadArgument_BadMark (.inr ne_6_5))⟩ (all_cons ⟨⟨ga_BadNumber, gg_BadNumber, be_BadNumber, hd_BadNumber, hc_BadNumber, gs0, gs1, hm_BadNumber⟩, (own_kit ic_BadMark ty_BadMark su_BadNumber_BadMark (.inr ne_7_5))⟩ (all_cons ⟨⟨ga_BadChange, gg_BadChange, be_BadChange, hd_BadChange, hc_BadChange, gs0, gs1, hm_BadChange⟩, (own_kit ic_BadMark ty_BadMark su_BadChange_BadMark (.inr ne_8_5))⟩ (all_cons ⟨⟨ga_BadCommand, gg_BadCommand, be_BadCommand, hd_BadCommand, hc_BadCommand, gs0, gs1, hm_BadCommand⟩, (own_kit ic_BadMark ty_BadMark su_BadCommand_BadMark (.inr ne_9_5))⟩ (all_cons ⟨⟨ga_BadText, gg_BadText, be_BadText, hd_BadText, hc_BadText, gs0, gs1, hm_BadText⟩, (own_kit ic_BadMark ty_BadMark su_BadText_BadMark (.inr ne_10_5))⟩ (all_cons ⟨⟨ga_TooMany, gg_TooMany, be_TooMany, hd_TooMany, hc_TooMany, gs0, gs1, hm_TooMany⟩, (own_kit ic_BadMark ty_BadMark su_TooMany_BadMark (.inr ne_11_5))⟩ (all_cons ⟨⟨ga_NotThere, gg_NotThere, be_NotThere, hd_NotThere, hc_NotThere, gs0, gs1, hm_NotThere⟩, (own_kit ic_BadMark ty_BadMark su_NotThere_BadMark (.inr ne_12_5))⟩ (fun _ h => nomatch h))))))))))))),
      xi_13 := (all_cons ⟨⟨ga_BadCrowd, gg_BadCrowd, be_BadCrowd, hd_BadCrowd, hc_BadCrowd, gs0, gs1, hm_BadCrowd⟩, (own_kit ic_BadPair ty_BadPair su_BadCrowd_BadPair (.inr ne_1_4))⟩ (all_cons ⟨⟨ga_BadPage, gg_BadPage, be_BadPage, hd_BadPage, hc_BadPage, gs0, gs1, hm_BadPage⟩, (own_kit ic_BadPair ty_BadPair su_BadPage_BadPair (.inr ne_2_4))⟩ (all_cons ⟨⟨ga_BadRule, gg_BadRule, be_BadRule, hd_BadRule, hc_BadRule, gs0, gs1, hm_BadRule⟩, (own_kit ic_BadPair ty_BadPair su_BadRule_BadPair (.inr ne_3_4))⟩ (all_cons ⟨⟨ga_BadPair, gg_BadPair, be_BadPair, hd_BadPair, hc_BadPair, gs0, gs1, hm_BadPair⟩, (own_kit ic_BadPair ty_BadPair su_BadPair_BadPair (.inl rfl))⟩ (all_cons ⟨⟨ga_BadMark, gg_BadMark, be_BadMark, hd_BadMark, hc_BadMark, gs0, gs1, hm_BadMark⟩, (own_kit ic_BadPair ty_BadPair su_BadMark_BadPair (.inr ne_5_4))⟩ (all_cons ⟨⟨ga_BadArgument, gg_BadArgument, be_BadArgument, hd_BadArgument, hc_BadArgument, gs0, gs1, hm_BadArgument⟩, (own_kit ic_BadPair ty_BadPair su_BadArgument_BadPair (.inr ne_6_4))⟩ (all_cons ⟨⟨ga_BadNumber, gg_BadNumber, be_BadNumber, hd_BadNumber, hc_BadNumber, gs0, gs1, hm_BadNumber⟩, (own_kit ic_BadPair ty_BadPair su_BadNumber_BadPair (.inr ne_7_4))⟩ (all_cons ⟨⟨ga_BadChange, gg_BadChange, be_BadChange, hd_BadChange, hc_BadChange, gs0, gs1, hm_BadChange⟩, (own_kit ic_BadPair ty_BadPair su_BadChange_BadPair (.inr ne_8_4))⟩ (all_cons ⟨⟨ga_BadCommand, gg_BadCommand, be_BadCommand, hd_BadCommand, hc_BadCommand, gs0, gs1, hm_BadCommand⟩, (own_kit ic_BadPair ty_BadPair su_BadCommand_BadPair (.inr ne_9_4))⟩ (all_cons ⟨⟨ga_BadText, gg_BadText, be_BadText, hd_BadText, hc_BadText, gs0, gs1, hm_BadText⟩, (own_kit ic_BadPair ty_BadPair su_BadText_BadPair (.inr ne_10_4))⟩ (all_cons ⟨⟨ga_TooMany, gg_TooMany, be_TooMany, hd_TooMany, hc_TooMany, gs0, gs1, hm_TooMany⟩, (own_kit ic_BadPair ty_BadPair su_TooMany_BadPair (.inr ne_11_4))⟩ (all_cons ⟨⟨ga_NotThere, gg_NotThere, be_NotThere, hd_NotThere, hc_NotThere, gs0, gs1, hm_NotThere⟩, (own_kit ic_BadPair ty_BadPair su_NotThere_BadPair (.inr ne_12_4))⟩ (fun _ h => nomatch h))))))))))))),
      xi_14 := (all_cons ⟨⟨ga_BadCrowd, gg_BadCrowd, be_BadCrowd, hd_BadCrowd, hc_BadCrowd, gs0, gs1, hm_BadCrowd⟩, (own_kit ic_BadRule ty_BadRule su_BadCrowd_BadRule (.inr ne_1_3))⟩ (all_cons ⟨⟨ga_BadPage, gg_BadPage, be_BadPage, hd_BadPage, hc_BadPage, gs0, gs1, hm_BadPage⟩, (own_kit ic_BadRule ty_BadRule su_BadPage_BadRule (.inr ne_2_3))⟩ (all_cons ⟨⟨ga_BadRule, gg_BadRule, be_BadRule, hd_BadRule, hc_BadRule, gs0, gs1, hm_BadRule⟩, (own_kit ic_BadRule ty_BadRule su_BadRule_BadRule (.inl rfl))⟩ (all_cons ⟨⟨ga_BadPair, gg_BadPair, be_BadPair, hd_BadPair, hc_BadPair, gs0, gs1, hm_BadPair⟩, (own_kit ic_BadRule ty_BadRule su_BadPair_BadRule (.inr ne_4_3))⟩ (all_cons ⟨⟨ga_BadMark, gg_BadMark, be_BadMark, hd_BadMark, hc_BadMark, gs0, gs1, hm_BadMark⟩, (own_kit ic_BadRule ty_BadRule su_BadMark_BadRule (.inr ne_5_3))⟩ (all_cons ⟨⟨ga_BadArgument, gg_BadArgument, be_BadArgument, hd_BadArgument, hc_BadArgument, gs0, gs1, hm_BadArgument⟩, (own_kit ic_BadRule ty_BadRule su_BadArgument_BadRule (.inr ne_6_3))⟩ (all_cons ⟨⟨ga_BadNumber, gg_BadNumber, be_BadNumber, hd_BadNumber, hc_BadNumber, gs0, gs1, hm_BadNumber⟩, (own_kit ic_BadRule ty_BadRule su_BadNumber_BadRule (.inr ne_7_3))⟩ (all_cons ⟨⟨ga_BadChange, gg_BadChange, be_BadChange, hd_BadChange, hc_BadChange, gs0, gs1, hm_BadChange⟩, (own_kit ic_BadRule ty_BadRule su_BadChange_BadRule (.inr ne_8_3))⟩ (all_cons ⟨⟨ga_BadCommand, gg_BadCommand, be_BadCommand, hd_BadCommand, hc_BadCommand, gs0, gs1, hm_BadCommand⟩, (own_kit ic_BadRule ty_BadRule su_BadCommand_BadRule (.inr ne_9_3))⟩ (all_cons ⟨⟨ga_BadText, gg_BadText, be_BadText, hd_BadText, hc_BadText, gs0, gs1, hm_BadText⟩, (own_kit ic_BadRule ty_BadRule su_BadText_BadRule (.inr ne_10_3))⟩ (all_cons ⟨⟨ga_TooMany, gg_TooMany, be_TooMany, hd_TooMany, hc_TooMany, gs0, gs1, hm_TooMany⟩, (own_kit ic_BadRule ty_BadRule su_TooMany_BadRule (.inr ne_11_3))⟩ (all_cons ⟨⟨ga_NotThere, gg_NotThere, be_NotThere, hd_NotThere, hc_NotThere, gs0, gs1, hm_NotThere⟩, (own_kit ic_BadRule ty_BadRule su_NotThere_BadRule (.inr ne_12_3))⟩ (fun _ h => nomatch h))))))))))))),
      xi_15 := (all_cons ⟨⟨ga_BadCrowd, gg_BadCrowd, be_BadCrowd, hd_BadCrowd, hc_BadCrowd, gs0, gs1, hm_BadCrowd⟩, (own_kit ic_BadPage ty_BadPage su_BadCrowd_BadPage (.inr ne_1_2))⟩ (all_cons ⟨⟨ga_BadPage, gg_BadPage, be_BadPage, hd_BadPage, hc_BadPage, gs0, gs1, hm_BadPage⟩, (own_kit ic_BadPage ty_BadPage su_BadPage_BadPage (.inl rfl))⟩ (all_cons ⟨⟨ga_BadRule, gg_BadRule, be_BadRule, hd_BadRule, hc_BadRule, gs0, gs1, hm_BadRule⟩, (own_kit ic_BadPage ty_BadPage su_BadRule_BadPage (.inr ne_3_2))⟩ (all_cons ⟨⟨ga_BadPair, gg_BadPair, be_BadPair, hd_BadPair, hc_BadPair, gs0, gs1, hm_BadPair⟩, (own_kit ic_BadPage ty_BadPage su_BadPair_BadPage (.inr ne_4_2))⟩ (all_cons ⟨⟨ga_BadMark, gg_BadMark, be_BadMark, hd_BadMark, hc_BadMark, gs0, gs1, hm_BadMark⟩, (own_kit ic_BadPage ty_BadPage su_BadMark_BadPage (.inr ne_5_2))⟩ (all_cons ⟨⟨ga_BadArgument, gg_BadArgument, be_BadArgument, hd_BadArgument, hc_BadArgument, gs0, gs1, hm_BadArgument⟩, (own_kit ic_BadPage ty_BadPage su_BadArgument_BadPage (.inr ne_6_2))⟩ (all_cons ⟨⟨ga_BadNumber, gg_BadNumber, be_BadNumber, hd_BadNumber, hc_BadNumber, gs0, gs1, hm_BadNumber⟩, (own_kit ic_BadPage ty_BadPage su_BadNumber_BadPage (.inr ne_7_2))⟩ (all_cons ⟨⟨ga_BadChange, gg_BadChange, be_BadChange, hd_BadChange, hc_BadChange, gs0, gs1, hm_BadChange⟩, (own_kit ic_BadPage ty_BadPage su_BadChange_BadPage (.inr ne_8_2))⟩ (all_cons ⟨⟨ga_BadCommand, gg_BadCommand, be_BadCommand, hd_BadCommand, hc_BadCommand, gs0, gs1, hm_BadCommand⟩, (own_kit ic_BadPage ty_BadPage su_BadCommand_BadPage (.inr ne_9_2))⟩ (all_cons ⟨⟨ga_BadText, gg_BadText, be_BadText, hd_BadText, hc_BadText, gs0, gs1, hm_BadText⟩, (own_kit ic_BadPage ty_BadPage su_BadText_BadPage (.inr ne_10_2))⟩ (all_cons ⟨⟨ga_TooMany, gg_TooMany, be_TooMany, hd_TooMany, hc_TooMany, gs0, gs1, hm_TooMany⟩, (own_kit ic_BadPage ty_BadPage su_TooMany_BadPage (.inr ne_11_2))⟩ (all_cons ⟨⟨ga_NotThere, gg_NotThere, be_NotThere, hd_NotThere, hc_NotThere, gs0, gs1, hm_NotThere⟩, (own_kit ic_BadPage ty_BadPage su_NotThere_BadPage (.inr ne_12_2))⟩ (fun _ h => nomatch h))))))))))))),
      xi_16 := (all_cons ⟨⟨ga_BadCrowd, gg_BadCrowd, be_BadCrowd, hd_BadCrowd, hc_BadCrowd, gs0, gs1, hm_BadCrowd⟩, (own_kit ic_BadCrowd ty_BadCrowd su_BadCrowd_BadCrowd (.inl rfl))⟩ (all_cons ⟨⟨ga_BadPage, gg_BadPage, be_BadPage, hd_BadPage, hc_BadPage, gs0, gs1, hm_BadPage⟩, (own_kit ic_BadCrowd ty_BadCrowd su_BadPage_BadCrowd (.inr ne_2_1))⟩ (all_cons ⟨⟨ga_BadRule, gg_BadRule, be_BadRule, hd_BadRule, hc_BadRule, gs0, gs1, hm_BadRule⟩, (own_kit ic_BadCrowd ty_BadCrowd su_BadRule_BadCrowd (.inr ne_3_1))⟩ (all_cons ⟨⟨ga_BadPair, gg_BadPair, be_BadPair, hd_BadPair, hc_BadPair, gs0, gs1, hm_BadPair⟩, (own_kit ic_BadCrowd ty_BadCrowd su_BadPair_BadCrowd (.inr ne_4_1))⟩ (all_cons ⟨⟨ga_BadMark, gg_BadMark, be_BadMark, hd_BadMark, hc_BadMark, gs0, gs1, hm_BadMark⟩, (own_kit ic_BadCrowd ty_BadCrowd su_BadMark_BadCrowd (.inr ne_5_1))⟩ (all_cons ⟨⟨ga_BadArgument, gg_BadArgument, be_BadArgument, hd_BadArgument, hc_BadArgument, gs0, gs1, hm_BadArgument⟩, (own_kit ic_BadCrowd ty_BadCrowd su_BadArgument_BadCrowd (.inr ne_6_1))⟩ (all_cons ⟨⟨ga_BadNumber, gg_BadNumber, be_BadNumber, hd_BadNumber, hc_BadNumber, gs0, gs1, hm_BadNumber⟩, (own_kit ic_BadCrowd ty_BadCrowd su_BadNumber_BadCrowd (.inr ne_7_1))⟩ (all_cons ⟨⟨ga_BadChange, gg_BadChange, be_BadChange, hd_BadChange, hc_BadChange, gs0, gs1, hm_BadChange⟩, (own_kit ic_BadCrowd ty_BadCrowd su_BadChange_BadCrowd (.inr ne_8_1))⟩ (all_cons ⟨⟨ga_BadCommand, gg_BadCommand, be_BadCommand, hd_BadCommand, hc_BadCommand, gs0, gs1, hm_BadCommand⟩, (own_kit ic_BadCrowd ty_BadCrowd su_BadCommand_BadCrowd (.inr ne_9_1))⟩ (all_cons ⟨⟨ga_BadText, gg_BadText, be_BadText, hd_BadText, hc_BadText, gs0, gs1, hm_BadText⟩, (own_kit ic_BadCrowd ty_BadCrowd su_BadText_BadCrowd (.inr ne_10_1))⟩ (all_cons ⟨⟨ga_TooMany, gg_TooMany, be_TooMany, hd_TooMany, hc_TooMany, gs0, gs1, hm_TooMany⟩, (own_kit ic_BadCrowd ty_BadCrowd su_TooMany_BadCrowd (.inr ne_11_1))⟩ (all_cons ⟨⟨ga_NotThere, gg_NotThere, be_NotThere, hd_NotThere, hc_NotThere, gs0, gs1, hm_NotThere⟩, (own_kit ic_BadCrowd ty_BadCrowd su_NotThere_BadCrowd (.inr ne_12_1))⟩ (fun _ h => nomatch h))))))))))))),
      xi_17 := (all_cons ⟨⟨ga_NothingLeft, gg_NothingLeft, be_NothingLeft, hd_NothingLeft, hc_NothingLeft, gs0, gs1, hm_NothingLeft⟩, (own_kit ic_NotThere ty_NotThere su_NothingLeft_NotThere (.inr ne_13_12))⟩ (fun _ h => nomatch h)),
      kx1_NotThere_new := ⟨fun s us ws X l1 l2 => BindsTo.of_eq (match us, ws, l1, l2 with | [_], [_], _, _ => rfl), fun r1 r2 => r1.append r2⟩,
      kx1_TooMany_new := ⟨fun s us ws X l1 l2 => BindsTo.of_eq (match us, ws, l1, l2 with | [_], [_], _, _ => rfl), fun r1 r2 => r1.append r2⟩,
      kx1_BadText_new := ⟨fun s us ws X l1 l2 => BindsTo.of_eq (match us, ws, l1, l2 with | [_], [_], _, _ => rfl), fun r1 r2 => r1.append r2⟩,
      kx1_BadCommand_new := ⟨fun s us ws X l1 l2 => BindsTo.of_eq (match us, ws, l1, l2 with | [_], [_], _, _ => rfl), fun r1 r2 => r1.append r2⟩,
      kx1_BadChange_new := ⟨fun s us ws X l1 l2 => BindsTo.of_eq (match us, ws, l1, l2 with | [_], [_], _, _ => rfl), fun r1 r2 => r1.append r2⟩,
      kx1_BadNumber_new := ⟨fun s us ws X l1 l2 => BindsTo.of_eq (match us, ws, l1, l2 with | [_], [_], _, _ => rfl), fun r1 r2 => r1.append r2⟩,
      kx1_BadArgument_new := ⟨fun s us ws X l1 l2 => BindsTo.of_eq (match us, ws, l1, l2 with | [_], [_], _, _ => rfl), fun r1 r2 => r1.append r2⟩,
      kx1_BadMark_new := ⟨fun s us ws X l1 l2 => BindsTo.of_eq (match us, ws, l1, l2 with | [_], [_], _, _ => rfl), fun r1 r2 => r1.append r2⟩,
      kx1_BadPair_new := ⟨fun s us ws X l1 l2 => BindsTo.of_eq (match us, ws, l1, l2 with | [_], [_], _, _ => rfl), fun r1 r2 => r1.append r2⟩,
      kx1_BadRule_new := ⟨fun s us ws X l1 l2 => BindsTo.of_eq (match us, ws, l1, l2 with | [_], [_], _, _ => rfl), fun r1 r2 => r1.append r2⟩,
      kx1_BadPage_new := ⟨fun s us ws X l1 l2 => BindsTo.of_eq (match us, ws, l1, l2 with | [_], [_], _, _ => rfl), fun r1 r2 => r1.append r2⟩,
      kx1_BadCrowd_new := ⟨fun s us ws X l1 l2 => BindsTo.of_eq (match us, ws, l1, l2 with | [_], [_], _, _ => rfl), fun r1 r2 => r1.append r2⟩,
      ec_MarksError := ⟨ga_MarksError, gg_MarksError, be_MarksError, hd_MarksError, hc_MarksError, gs0, gs1, hm_MarksError⟩,
      ec_BadCrowd := ⟨ga_BadCrowd, gg_BadCrowd, be_BadCrowd, hd_BadCrowd, hc_BadCrowd, gs0, gs1, hm_BadCrowd⟩,
      ec_BadPage := ⟨ga_BadPage, gg_BadPage, be_BadPage, hd_BadPage, hc_BadPage, gs0, gs1, hm_BadPage⟩,
      ec_BadRule := ⟨ga_BadRule, gg_BadRule, be_BadRule, hd_BadRule, hc_BadRule, gs0, gs1, hm_BadRule⟩,
      ec_BadPair := ⟨ga_BadPair, gg_BadPair, be_BadPair, hd_BadPair, hc_BadPair, gs0, gs1, hm_BadPair⟩,
      ec_BadMark := ⟨ga_BadMark, gg_BadMark, be_BadMark, hd_BadMark, hc_BadMark, gs0, gs1, hm_BadMark⟩,
      ec_BadArgument := ⟨ga_BadArgument, gg_BadArgument, be_BadArgument, hd_BadArgument, hc_BadArgument, gs0, gs1, hm_BadArgument⟩,
      ec_BadNumber := ⟨ga_BadNumber, gg_BadNumber, be_BadNumber, hd_BadNumber, hc_BadNumber, gs0, gs1, hm_BadNumber⟩,
      ec_BadChange := ⟨ga_BadChange, gg_BadChange, be_BadChange, hd_BadChange, hc_BadChange, gs0, gs1, hm_BadChange⟩,
      ec_BadCommand := ⟨ga_BadCommand, gg_BadCommand, be_BadCommand, hd_BadCommand, hc_BadCommand, gs0, gs1, hm_BadCommand⟩,
      ec_BadText := ⟨ga_BadText, gg_BadText, be_BadText, hd_BadText, hc_BadText, gs0, gs1, hm_BadText⟩,
      ec_TooMany := ⟨ga_TooMany, gg_TooMany, be_TooMany, hd_TooMany, hc_TooMany, gs0, gs1, hm_TooMany⟩,
      ec_NotThere := ⟨ga_NotThere, gg_NotThere, be_NotThere, hd_NotThere, hc_NotThere, gs0, gs1, hm_NotThere⟩,
      ec_NothingLeft := ⟨ga_NothingLeft, gg_NothingLeft, be_NothingLeft, hd_NothingLeft, hc_NothingLeft, gs0, gs1, hm_NothingLeft⟩,
      isi := ⟨(fun _ h => nomatch h), (fun _ h => nomatch h), (fun _ h => nomatch h), gs0, gs1, (fun _ h => nomatch h), (fun t => (fun _ h => nomatch h)), (fun _ h => nomatch h)⟩ }
  exact ⟨_, fun s v => .of_eq rfl, fun base _ _ => law_ok rfl rfl (ok_law (T base))⟩
end Own


open PySem PySem.W PyProof.Rows L2 M
set_option maxRecDepth 100000 in
set_option maxHeartbeats 0 in
theorem PySem.Challenge.cw_ownmarks_k01_errors_holds : PySem.Challenge.rw_ownmarks_k01_errors.Holds := by
  w_on; o_law; k_head; (case hw => w_witness2)
  k_fill
  refine M.walkMG (l := PySem.Challenge.rw_ownmarks_k01_errors) 4 "_law_script" rfl rfl ⟨rfl, by decide, by decide⟩ (fun w h Y => PySem.W.kIn_of Y) ?F
  case F =>
    intro w mg fa h KX G hmg
    refine' Own.all_mk KX G hmg ?z_int ?z_max ?z_len ?z_OverflowError ?z_LookupError ?z_isinstance ?z_ValueError ?z_min ?z_range ?z_enumerate ?z_repr ?a_MarksError ?a_BadCrowd ?a_BadPage ?a_BadRule ?a_BadPair ?a_BadMark ?a_BadArgument ?a_BadNumber ?a_BadChange ?a_BadCommand ?a_BadText ?a_TooMany ?a_NotThere ?a_NothingLeft ?a_d_law_opened ?l_d_law_opened ?c_d_law_opened ?k_d_law_opened ?a_d_law_draw ?l_d_law_draw ?c_d_law_draw ?k_d_law_draw ?a_d_law_pick ?l_d_law_pick ?c_d_law_pick ?k_d_law_pick ?a_BadCrowd_new ?l_BadCrowd_new ?c_BadCrowd_new ?k_BadCrowd_new ?a_BadPage_new ?l_BadPage_new ?c_BadPage_new ?k_BadPage_new ?a_BadRule_new ?l_BadRule_new ?c_BadRule_new ?k_BadRule_new ?a_BadPair_new ?l_BadPair_new ?c_BadPair_new ?k_BadPair_new ?a_BadMark_new ?l_BadMark_new ?c_BadMark_new ?k_BadMark_new ?a_BadArgument_new ?l_BadArgument_new ?c_BadArgument_new ?k_BadArgument_new ?a_BadNumber_new ?l_BadNumber_new ?c_BadNumber_new ?k_BadNumber_new ?a_BadChange_new ?l_BadChange_new ?c_BadChange_new ?k_BadChange_new ?a_BadCommand_new ?l_BadCommand_new ?c_BadCommand_new ?k_BadCommand_new ?a_BadText_new ?l_BadText_new ?c_BadText_new ?k_BadText_new ?a_TooMany_new ?l_TooMany_new ?c_TooMany_new ?k_TooMany_new ?a_NotThere_new ?l_NotThere_new ?c_NotThere_new ?k_NotThere_new ?a_d_law_made_errors ?l_d_law_made_errors ?c_d_law_made_errors ?k_d_law_made_errors ?a_d_law_named_errors ?l_d_law_named_errors ?c_d_law_named_errors ?k_d_law_named_errors ?a_d_law_fields ?l_d_law_fields ?c_d_law_fields ?k_d_law_fields ?a_d_law_bases ?l_d_law_bases ?c_d_law_bases ?k_d_law_bases ?a_d_law_kinds ?l_d_law_kinds ?c_d_law_kinds ?k_d_law_kinds ?a_law ?l_law ?c_law ?k_law ?fb_OverflowError ?fb_LookupError ?rxi0_MarksError ?rkc0_MarksError ?be_MarksError ?ty_MarksError ?hd_MarksError ?rxi0_NothingLeft ?rkc0_NothingLeft ?be_NothingLeft ?ty_NothingLeft ?hd_NothingLeft ?xin_TooMany ?xov_TooMany ?hd_TooMany ?sa_TooMany ?be_TooMany ?ty_TooMany ?kc_TooMany ?ti_TooMany ?tk_TooMany_most ?xin_NotThere ?xov_NotThere ?hd_NotThere ?sa_NotThere ?be_NotThere ?ty_NotThere ?kc_NotThere ?ti_NotThere ?tk_NotThere_word ?x_BadText ?sa_BadText ?be_BadText ?ty_BadText ?kc_BadText ?ti_BadText ?x_BadCommand ?sa_BadCommand ?be_BadCommand ?ty_BadCommand ?kc_BadCommand ?ti_BadCommand ?x_BadChange ?sa_BadChange ?be_BadChange ?ty_BadChange ?kc_BadChange ?ti_BadChange ?x_BadNumber ?sa_BadNumber ?be_BadNumber ?ty_BadNumber ?kc_BadNumber ?ti_BadNumber ?x_BadArgument ?sa_BadArgument ?be_BadArgument ?ty_BadArgument ?kc_BadArgument ?ti_BadArgument ?x_BadMark ?sa_BadMark ?be_BadMark ?ty_BadMark ?kc_BadMark ?ti_BadMark ?x_BadPair ?sa_BadPair ?be_BadPair ?ty_BadPair ?kc_BadPair ?ti_BadPair ?x_BadRule ?sa_BadRule ?be_BadRule ?ty_BadRule ?kc_BadRule ?ti_BadRule ?x_BadPage ?sa_BadPage ?be_BadPage ?ty_BadPage ?kc_BadPage ?ti_BadPage ?x_BadCrowd ?sa_BadCrowd ?be_BadCrowd ?ty_BadCrowd ?kc_BadCrowd ?ti_BadCrowd ?og_MarksError ?or_MarksError ?of_MarksError ?no_BadCrowd_part ?no_BadPage_value ?no_BadRule_part ?no_BadPair_value ?no_BadMark_value ?no_BadArgument_value ?no_BadNumber_number ?no_BadChange_value ?no_BadCommand_command ?no_BadText_line ?no_TooMany_most ?no_NotThere_word ?ga_BadCrowd ?gg_BadCrowd ?hd_BadCrowd ?ga_BadPage ?gg_BadPage ?hd_BadPage ?ga_BadRule ?gg_BadRule ?hd_BadRule ?ga_BadPair ?gg_BadPair ?hd_BadPair ?ga_BadMark ?gg_BadMark ?hd_BadMark ?ga_BadArgument ?gg_BadArgument ?hd_BadArgument ?ga_BadNumber ?gg_BadNumber ?hd_BadNumber ?ga_BadChange ?gg_BadChange ?hd_BadChange ?ga_BadCommand ?gg_BadCommand ?hd_BadCommand ?ga_BadText ?gg_BadText ?hd_BadText ?ga_TooMany ?gg_TooMany ?ga_NotThere ?gg_NotThere ?ga_MarksError ?gg_MarksError ?ga_NothingLeft ?gg_NothingLeft ?su_NothingLeft_NothingLeft ?ic_NothingLeft ?su_NotThere_NothingLeft ?ne_12_13 ?su_TooMany_NothingLeft ?ne_11_13 ?su_BadText_NothingLeft ?ne_10_13 ?su_BadCommand_NothingLeft ?ne_9_13 ?su_BadChange_NothingLeft ?ne_8_13 ?su_BadNumber_NothingLeft ?ne_7_13 ?su_BadArgument_NothingLeft ?ne_6_13 ?su_BadMark_NothingLeft ?ne_5_13 ?su_BadPair_NothingLeft ?ne_4_13 ?su_BadRule_NothingLeft ?ne_3_13 ?su_BadPage_NothingLeft ?ne_2_13 ?su_BadCrowd_NothingLeft ?ne_1_13 ?su_MarksError_NothingLeft ?ne_0_13 ?su_NothingLeft_LookupError ?su_NotThere_LookupError ?su_TooMany_LookupError ?su_BadText_LookupError ?su_BadCommand_LookupError ?su_BadChange_LookupError ?su_BadNumber_LookupError ?su_BadArgument_LookupError ?su_BadMark_LookupError ?su_BadPair_LookupError ?su_BadRule_LookupError ?su_BadPage_LookupError ?su_BadCrowd_LookupError ?su_MarksError_LookupError ?su_NothingLeft_OverflowError ?su_NotThere_OverflowError ?su_TooMany_OverflowError ?su_BadText_OverflowError ?su_BadCommand_OverflowError ?su_BadChange_OverflowError ?su_BadNumber_OverflowError ?su_BadArgument_OverflowError ?su_BadMark_OverflowError ?su_BadPair_OverflowError ?su_BadRule_OverflowError ?su_BadPage_OverflowError ?su_BadCrowd_OverflowError ?su_MarksError_OverflowError ?su_NothingLeft_ValueError ?su_NotThere_ValueError ?su_TooMany_ValueError ?su_BadText_ValueError ?su_BadCommand_ValueError ?su_BadChange_ValueError ?su_BadNumber_ValueError ?su_BadArgument_ValueError ?su_BadMark_ValueError ?su_BadPair_ValueError ?su_BadRule_ValueError ?su_BadPage_ValueError ?su_BadCrowd_ValueError ?su_MarksError_ValueError ?su_NothingLeft_MarksError ?ic_MarksError ?ne_13_0 ?su_NotThere_MarksError ?ne_12_0 ?su_TooMany_MarksError ?ne_11_0 ?su_BadText_MarksError ?su_BadCommand_MarksError ?su_BadChange_MarksError ?su_BadNumber_MarksError ?su_BadArgument_MarksError ?su_BadMark_MarksError ?su_BadPair_MarksError ?su_BadRule_MarksError ?su_BadPage_MarksError ?su_BadCrowd_MarksError ?su_MarksError_MarksError ?su_NotThere_NotThere ?ic_NotThere ?su_TooMany_NotThere ?ne_11_12 ?su_BadText_NotThere ?ne_10_12 ?su_BadCommand_NotThere ?ne_9_12 ?su_BadChange_NotThere ?ne_8_12 ?su_BadNumber_NotThere ?ne_7_12 ?su_BadArgument_NotThere ?ne_6_12 ?su_BadMark_NotThere ?ne_5_12 ?su_BadPair_NotThere ?ne_4_12 ?su_BadRule_NotThere ?ne_3_12 ?su_BadPage_NotThere ?ne_2_12 ?su_BadCrowd_NotThere ?ne_1_12 ?su_NotThere_TooMany ?ic_TooMany ?ne_12_11 ?su_TooMany_TooMany ?su_BadText_TooMany ?ne_10_11 ?su_BadCommand_TooMany ?ne_9_11 ?su_BadChange_TooMany ?ne_8_11 ?su_BadNumber_TooMany ?ne_7_11 ?su_BadArgument_TooMany ?ne_6_11 ?su_BadMark_TooMany ?ne_5_11 ?su_BadPair_TooMany ?ne_4_11 ?su_BadRule_TooMany ?ne_3_11 ?su_BadPage_TooMany ?ne_2_11 ?su_BadCrowd_TooMany ?ne_1_11 ?su_NotThere_BadText ?ic_BadText ?ne_12_10 ?su_TooMany_BadText ?ne_11_10 ?su_BadText_BadText ?su_BadCommand_BadText ?ne_9_10 ?su_BadChange_BadText ?ne_8_10 ?su_BadNumber_BadText ?ne_7_10 ?su_BadArgument_BadText ?ne_6_10 ?su_BadMark_BadText ?ne_5_10 ?su_BadPair_BadText ?ne_4_10 ?su_BadRule_BadText ?ne_3_10 ?su_BadPage_BadText ?ne_2_10 ?su_BadCrowd_BadText ?ne_1_10 ?su_NotThere_BadCommand ?ic_BadCommand ?ne_12_9 ?su_TooMany_BadCommand ?ne_11_9 ?su_BadText_BadCommand ?ne_10_9 ?su_BadCommand_BadCommand ?su_BadChange_BadCommand ?ne_8_9 ?su_BadNumber_BadCommand ?ne_7_9 ?su_BadArgument_BadCommand ?ne_6_9 ?su_BadMark_BadCommand ?ne_5_9 ?su_BadPair_BadCommand ?ne_4_9 ?su_BadRule_BadCommand ?ne_3_9 ?su_BadPage_BadCommand ?ne_2_9 ?su_BadCrowd_BadCommand ?ne_1_9 ?su_NotThere_BadChange ?ic_BadChange ?ne_12_8 ?su_TooMany_BadChange ?ne_11_8 ?su_BadText_BadChange ?ne_10_8 ?su_BadCommand_BadChange ?ne_9_8 ?su_BadChange_BadChange ?su_BadNumber_BadChange ?ne_7_8 ?su_BadArgument_BadChange ?ne_6_8 ?su_BadMark_BadChange ?ne_5_8 ?su_BadPair_BadChange ?ne_4_8 ?su_BadRule_BadChange ?ne_3_8 ?su_BadPage_BadChange ?ne_2_8 ?su_BadCrowd_BadChange ?ne_1_8 ?su_NotThere_BadNumber ?ic_BadNumber ?ne_12_7 ?su_TooMany_BadNumber ?ne_11_7 ?su_BadText_BadNumber ?ne_10_7 ?su_BadCommand_BadNumber ?ne_9_7 ?su_BadChange_BadNumber ?ne_8_7 ?su_BadNumber_BadNumber ?su_BadArgument_BadNumber ?ne_6_7 ?su_BadMark_BadNumber ?ne_5_7 ?su_BadPair_BadNumber ?ne_4_7 ?su_BadRule_BadNumber ?ne_3_7 ?su_BadPage_BadNumber ?ne_2_7 ?su_BadCrowd_BadNumber ?ne_1_7 ?su_NotThere_BadArgument ?ic_BadArgument ?ne_12_6 ?su_TooMany_BadArgument ?ne_11_6 ?su_BadText_BadArgument ?ne_10_6 ?su_BadCommand_BadArgument ?ne_9_6 ?su_BadChange_BadArgument ?ne_8_6 ?su_BadNumber_BadArgument ?ne_7_6 ?su_BadArgument_BadArgument ?su_BadMark_BadArgument ?ne_5_6 ?su_BadPair_BadArgument ?ne_4_6 ?su_BadRule_BadArgument ?ne_3_6 ?su_BadPage_BadArgument ?ne_2_6 ?su_BadCrowd_BadArgument ?ne_1_6 ?su_NotThere_BadMark ?ic_BadMark ?ne_12_5 ?su_TooMany_BadMark ?ne_11_5 ?su_BadText_BadMark ?ne_10_5 ?su_BadCommand_BadMark ?ne_9_5 ?su_BadChange_BadMark ?ne_8_5 ?su_BadNumber_BadMark ?ne_7_5 ?su_BadArgument_BadMark ?ne_6_5 ?su_BadMark_BadMark ?su_BadPair_BadMark ?ne_4_5 ?su_BadRule_BadMark ?ne_3_5 ?su_BadPage_BadMark ?ne_2_5 ?su_BadCrowd_BadMark ?ne_1_5 ?su_NotThere_BadPair ?ic_BadPair ?ne_12_4 ?su_TooMany_BadPair ?ne_11_4 ?su_BadText_BadPair ?ne_10_4 ?su_BadCommand_BadPair ?ne_9_4 ?su_BadChange_BadPair ?ne_8_4 ?su_BadNumber_BadPair ?ne_7_4 ?su_BadArgument_BadPair ?ne_6_4 ?su_BadMark_BadPair ?ne_5_4 ?su_BadPair_BadPair ?su_BadRule_BadPair ?ne_3_4 ?su_BadPage_BadPair ?ne_2_4 ?su_BadCrowd_BadPair ?ne_1_4 ?su_NotThere_BadRule ?ic_BadRule ?ne_12_3 ?su_TooMany_BadRule ?ne_11_3 ?su_BadText_BadRule ?ne_10_3 ?su_BadCommand_BadRule ?ne_9_3 ?su_BadChange_BadRule ?ne_8_3 ?su_BadNumber_BadRule ?ne_7_3 ?su_BadArgument_BadRule ?ne_6_3 ?su_BadMark_BadRule ?ne_5_3 ?su_BadPair_BadRule ?ne_4_3 ?su_BadRule_BadRule ?su_BadPage_BadRule ?ne_2_3 ?su_BadCrowd_BadRule ?ne_1_3 ?su_NotThere_BadPage ?ic_BadPage ?ne_12_2 ?su_TooMany_BadPage ?ne_11_2 ?su_BadText_BadPage ?ne_10_2 ?su_BadCommand_BadPage ?ne_9_2 ?su_BadChange_BadPage ?ne_8_2 ?su_BadNumber_BadPage ?ne_7_2 ?su_BadArgument_BadPage ?ne_6_2 ?su_BadMark_BadPage ?ne_5_2 ?su_BadPair_BadPage ?ne_4_2 ?su_BadRule_BadPage ?ne_3_2 ?su_BadPage_BadPage ?su_BadCrowd_BadPage ?ne_1_2 ?su_NotThere_BadCrowd ?ic_BadCrowd ?ne_12_1 ?su_TooMany_BadCrowd ?ne_11_1 ?su_BadText_BadCrowd ?ne_10_1 ?su_BadCommand_BadCrowd ?ne_9_1 ?su_BadChange_BadCrowd ?ne_8_1 ?su_BadNumber_BadCrowd ?ne_7_1 ?su_BadArgument_BadCrowd ?ne_6_1 ?su_BadMark_BadCrowd ?ne_5_1 ?su_BadPair_BadCrowd ?ne_4_1 ?su_BadRule_BadCrowd ?ne_3_1 ?su_BadPage_BadCrowd ?ne_2_1 ?su_BadCrowd_BadCrowd ?su_NothingLeft_NotThere ?ne_13_12 ?gs0 ?gs1 ?hc_MarksError ?hm_MarksError ?hc_BadCrowd ?hm_BadCrowd ?hc_BadPage ?hm_BadPage ?hc_BadRule ?hm_BadRule ?hc_BadPair ?hm_BadPair ?hc_BadMark ?hm_BadMark ?hc_BadArgument ?hm_BadArgument ?hc_BadNumber ?hm_BadNumber ?hc_BadChange ?hm_BadChange ?hc_BadCommand ?hm_BadCommand ?hc_BadText ?hm_BadText ?hc_TooMany ?hm_TooMany ?hc_NotThere ?hm_NotThere ?hc_NothingLeft ?hm_NothingLeft
    (case z_int => k_is)
    (case z_max => k_is)
    (case z_len => k_is)
    (case z_OverflowError => k_is)
    (case z_LookupError => k_is)
    (case z_isinstance => k_is)
    (case z_ValueError => k_is)
    (case z_min => k_is)
    (case z_range => k_is)
    (case z_enumerate => k_is)
    (case z_repr => k_is)
    (case a_MarksError => k_is)
    (case a_BadCrowd => k_is)
    (case a_BadPage => k_is)
    (case a_BadRule => k_is)
    (case a_BadPair => k_is)
    (case a_BadMark => k_is)
    (case a_BadArgument => k_is)
    (case a_BadNumber => k_is)
    (case a_BadChange => k_is)
    (case a_BadCommand => k_is)
    (case a_BadText => k_is)
    (case a_TooMany => k_is)
    (case a_NotThere => k_is)
    (case a_NothingLeft => k_is)
    (case a_d_law_opened => k_is)
    (case l_d_law_opened => k_is)
    (case c_d_law_opened => k_is)
    (case k_d_law_opened => k_is)
    (case a_d_law_draw => k_is)
    (case l_d_law_draw => k_is)
    (case c_d_law_draw => k_is)
    (case k_d_law_draw => k_is)
    (case a_d_law_pick => k_is)
    (case l_d_law_pick => k_is)
    (case c_d_law_pick => k_is)
    (case k_d_law_pick => k_is)
    (case a_BadCrowd_new => k_is)
    (case l_BadCrowd_new => k_is)
    (case c_BadCrowd_new => k_is)
    (case k_BadCrowd_new => k_is)
    (case a_BadPage_new => k_is)
    (case l_BadPage_new => k_is)
    (case c_BadPage_new => k_is)
    (case k_BadPage_new => k_is)
    (case a_BadRule_new => k_is)
    (case l_BadRule_new => k_is)
    (case c_BadRule_new => k_is)
    (case k_BadRule_new => k_is)
    (case a_BadPair_new => k_is)
    (case l_BadPair_new => k_is)
    (case c_BadPair_new => k_is)
    (case k_BadPair_new => k_is)
    (case a_BadMark_new => k_is)
    (case l_BadMark_new => k_is)
    (case c_BadMark_new => k_is)
    (case k_BadMark_new => k_is)
    (case a_BadArgument_new => k_is)
    (case l_BadArgument_new => k_is)
    (case c_BadArgument_new => k_is)
    (case k_BadArgument_new => k_is)
    (case a_BadNumber_new => k_is)
    (case l_BadNumber_new => k_is)
    (case c_BadNumber_new => k_is)
    (case k_BadNumber_new => k_is)
    (case a_BadChange_new => k_is)
    (case l_BadChange_new => k_is)
    (case c_BadChange_new => k_is)
    (case k_BadChange_new => k_is)
    (case a_BadCommand_new => k_is)
    (case l_BadCommand_new => k_is)
    (case c_BadCommand_new => k_is)
    (case k_BadCommand_new => k_is)
    (case a_BadText_new => k_is)
    (case l_BadText_new => k_is)
    (case c_BadText_new => k_is)
    (case k_BadText_new => k_is)
    (case a_TooMany_new => k_is)
    (case l_TooMany_new => k_is)
    (case c_TooMany_new => k_is)
    (case k_TooMany_new => k_is)
    (case a_NotThere_new => k_is)
    (case l_NotThere_new => k_is)
    (case c_NotThere_new => k_is)
    (case k_NotThere_new => k_is)
    (case a_d_law_made_errors => k_is)
    (case l_d_law_made_errors => k_is)
    (case c_d_law_made_errors => k_is)
    (case k_d_law_made_errors => k_is)
    (case a_d_law_named_errors => k_is)
    (case l_d_law_named_errors => k_is)
    (case c_d_law_named_errors => k_is)
    (case k_d_law_named_errors => k_is)
    (case a_d_law_fields => k_is)
    (case l_d_law_fields => k_is)
    (case c_d_law_fields => k_is)
    (case k_d_law_fields => k_is)
    (case a_d_law_bases => k_is)
    (case l_d_law_bases => k_is)
    (case c_d_law_bases => k_is)
    (case k_d_law_bases => k_is)
    (case a_d_law_kinds => k_is)
    (case l_d_law_kinds => k_is)
    (case c_d_law_kinds => k_is)
    (case k_d_law_kinds => k_is)
    (case a_law => k_is)
    (case l_law => k_is)
    (case c_law => k_is)
    (case k_law => k_is)
    (case fb_OverflowError => k_is)
    (case fb_LookupError => k_is)
    (case rxi0_MarksError => k_exc)
    (case rkc0_MarksError => k_is)
    (case be_MarksError => k_is)
    (case ty_MarksError => k_is)
    (case hd_MarksError => k_is)
    (case rxi0_NothingLeft => k_exc)
    (case rkc0_NothingLeft => k_is)
    (case be_NothingLeft => k_is)
    (case ty_NothingLeft => k_is)
    (case hd_NothingLeft => k_is)
    (case xin_TooMany => kx_is)
    (case xov_TooMany => kx_is)
    (case hd_TooMany => k_is)
    (case sa_TooMany => k_is)
    (case be_TooMany => k_is)
    (case ty_TooMany => k_is)
    (case kc_TooMany => k_is)
    (case ti_TooMany => k_is)
    (case tk_TooMany_most => k_is)
    (case xin_NotThere => kx_is)
    (case xov_NotThere => kx_is)
    (case hd_NotThere => k_is)
    (case sa_NotThere => k_is)
    (case be_NotThere => k_is)
    (case ty_NotThere => k_is)
    (case kc_NotThere => k_is)
    (case ti_NotThere => k_is)
    (case tk_NotThere_word => k_is)
    (case x_BadText => k_is)
    (case sa_BadText => k_is)
    (case be_BadText => k_is)
    (case ty_BadText => k_is)
    (case kc_BadText => k_is)
    (case ti_BadText => k_is)
    (case x_BadCommand => k_is)
    (case sa_BadCommand => k_is)
    (case be_BadCommand => k_is)
    (case ty_BadCommand => k_is)
    (case kc_BadCommand => k_is)
    (case ti_BadCommand => k_is)
    (case x_BadChange => k_is)
    (case sa_BadChange => k_is)
    (case be_BadChange => k_is)
    (case ty_BadChange => k_is)
    (case kc_BadChange => k_is)
    (case ti_BadChange => k_is)
    (case x_BadNumber => k_is)
    (case sa_BadNumber => k_is)
    (case be_BadNumber => k_is)
    (case ty_BadNumber => k_is)
    (case kc_BadNumber => k_is)
    (case ti_BadNumber => k_is)
    (case x_BadArgument => k_is)
    (case sa_BadArgument => k_is)
    (case be_BadArgument => k_is)
    (case ty_BadArgument => k_is)
    (case kc_BadArgument => k_is)
    (case ti_BadArgument => k_is)
    (case x_BadMark => k_is)
    (case sa_BadMark => k_is)
    (case be_BadMark => k_is)
    (case ty_BadMark => k_is)
    (case kc_BadMark => k_is)
    (case ti_BadMark => k_is)
    (case x_BadPair => k_is)
    (case sa_BadPair => k_is)
    (case be_BadPair => k_is)
    (case ty_BadPair => k_is)
    (case kc_BadPair => k_is)
    (case ti_BadPair => k_is)
    (case x_BadRule => k_is)
    (case sa_BadRule => k_is)
    (case be_BadRule => k_is)
    (case ty_BadRule => k_is)
    (case kc_BadRule => k_is)
    (case ti_BadRule => k_is)
    (case x_BadPage => k_is)
    (case sa_BadPage => k_is)
    (case be_BadPage => k_is)
    (case ty_BadPage => k_is)
    (case kc_BadPage => k_is)
    (case ti_BadPage => k_is)
    (case x_BadCrowd => k_is)
    (case sa_BadCrowd => k_is)
    (case be_BadCrowd => k_is)
    (case ty_BadCrowd => k_is)
    (case kc_BadCrowd => k_is)
    (case ti_BadCrowd => k_is)
    (case og_MarksError => k_is)
    (case or_MarksError => k_is)
    (case of_MarksError => k_is)
    (case no_BadCrowd_part => k_is)
    (case no_BadPage_value => k_is)
    (case no_BadRule_part => k_is)
    (case no_BadPair_value => k_is)
    (case no_BadMark_value => k_is)
    (case no_BadArgument_value => k_is)
    (case no_BadNumber_number => k_is)
    (case no_BadChange_value => k_is)
    (case no_BadCommand_command => k_is)
    (case no_BadText_line => k_is)
    (case no_TooMany_most => k_is)
    (case no_NotThere_word => k_is)
    (case ga_BadCrowd => k_is)
    (case gg_BadCrowd => k_is)
    (case hd_BadCrowd => k_is)
    (case ga_BadPage => k_is)
    (case gg_BadPage => k_is)
    (case hd_BadPage => k_is)
    (case ga_BadRule => k_is)
    (case gg_BadRule => k_is)
    (case hd_BadRule => k_is)
    (case ga_BadPair => k_is)
    (case gg_BadPair => k_is)
    (case hd_BadPair => k_is)
    (case ga_BadMark => k_is)
    (case gg_BadMark => k_is)
    (case hd_BadMark => k_is)
    (case ga_BadArgument => k_is)
    (case gg_BadArgument => k_is)
    (case hd_BadArgument => k_is)
    (case ga_BadNumber => k_is)
    (case gg_BadNumber => k_is)
    (case hd_BadNumber => k_is)
    (case ga_BadChange => k_is)
    (case gg_BadChange => k_is)
    (case hd_BadChange => k_is)
    (case ga_BadCommand => k_is)
    (case gg_BadCommand => k_is)
    (case hd_BadCommand => k_is)
    (case ga_BadText => k_is)
    (case gg_BadText => k_is)
    (case hd_BadText => k_is)
    (case ga_TooMany => k_is)
    (case gg_TooMany => k_is)
    (case ga_NotThere => k_is)
    (case gg_NotThere => k_is)
    (case ga_MarksError => k_is)
    (case gg_MarksError => k_is)
    (case ga_NothingLeft => k_is)
    (case gg_NothingLeft => k_is)
    (case su_NothingLeft_NothingLeft => k_is)
    (case ic_NothingLeft => k_is)
    (case su_NotThere_NothingLeft => k_is)
    (case ne_12_13 => decide)
    (case su_TooMany_NothingLeft => k_is)
    (case ne_11_13 => decide)
    (case su_BadText_NothingLeft => k_is)
    (case ne_10_13 => decide)
    (case su_BadCommand_NothingLeft => k_is)
    (case ne_9_13 => decide)
    (case su_BadChange_NothingLeft => k_is)
    (case ne_8_13 => decide)
    (case su_BadNumber_NothingLeft => k_is)
    (case ne_7_13 => decide)
    (case su_BadArgument_NothingLeft => k_is)
    (case ne_6_13 => decide)
    (case su_BadMark_NothingLeft => k_is)
    (case ne_5_13 => decide)
    (case su_BadPair_NothingLeft => k_is)
    (case ne_4_13 => decide)
    (case su_BadRule_NothingLeft => k_is)
    (case ne_3_13 => decide)
    (case su_BadPage_NothingLeft => k_is)
    (case ne_2_13 => decide)
    (case su_BadCrowd_NothingLeft => k_is)
    (case ne_1_13 => decide)
    (case su_MarksError_NothingLeft => k_is)
    (case ne_0_13 => decide)
    (case su_NothingLeft_LookupError => k_is)
    (case su_NotThere_LookupError => k_is)
    (case su_TooMany_LookupError => k_is)
    (case su_BadText_LookupError => k_is)
    (case su_BadCommand_LookupError => k_is)
    (case su_BadChange_LookupError => k_is)
    (case su_BadNumber_LookupError => k_is)
    (case su_BadArgument_LookupError => k_is)
    (case su_BadMark_LookupError => k_is)
    (case su_BadPair_LookupError => k_is)
    (case su_BadRule_LookupError => k_is)
    (case su_BadPage_LookupError => k_is)
    (case su_BadCrowd_LookupError => k_is)
    (case su_MarksError_LookupError => k_is)
    (case su_NothingLeft_OverflowError => k_is)
    (case su_NotThere_OverflowError => k_is)
    (case su_TooMany_OverflowError => k_is)
    (case su_BadText_OverflowError => k_is)
    (case su_BadCommand_OverflowError => k_is)
    (case su_BadChange_OverflowError => k_is)
    (case su_BadNumber_OverflowError => k_is)
    (case su_BadArgument_OverflowError => k_is)
    (case su_BadMark_OverflowError => k_is)
    (case su_BadPair_OverflowError => k_is)
    (case su_BadRule_OverflowError => k_is)
    (case su_BadPage_OverflowError => k_is)
    (case su_BadCrowd_OverflowError => k_is)
    (case su_MarksError_OverflowError => k_is)
    (case su_NothingLeft_ValueError => k_is)
    (case su_NotThere_ValueError => k_is)
    (case su_TooMany_ValueError => k_is)
    (case su_BadText_ValueError => k_is)
    (case su_BadCommand_ValueError => k_is)
    (case su_BadChange_ValueError => k_is)
    (case su_BadNumber_ValueError => k_is)
    (case su_BadArgument_ValueError => k_is)
    (case su_BadMark_ValueError => k_is)
    (case su_BadPair_ValueError => k_is)
    (case su_BadRule_ValueError => k_is)
    (case su_BadPage_ValueError => k_is)
    (case su_BadCrowd_ValueError => k_is)
    (case su_MarksError_ValueError => k_is)
    (case su_NothingLeft_MarksError => k_is)
    (case ic_MarksError => k_is)
    (case ne_13_0 => decide)
    (case su_NotThere_MarksError => k_is)
    (case ne_12_0 => decide)
    (case su_TooMany_MarksError => k_is)
    (case ne_11_0 => decide)
    (case su_BadText_MarksError => k_is)
    (case su_BadCommand_MarksError => k_is)
    (case su_BadChange_MarksError => k_is)
    (case su_BadNumber_MarksError => k_is)
    (case su_BadArgument_MarksError => k_is)
    (case su_BadMark_MarksError => k_is)
    (case su_BadPair_MarksError => k_is)
    (case su_BadRule_MarksError => k_is)
    (case su_BadPage_MarksError => k_is)
    (case su_BadCrowd_MarksError => k_is)
    (case su_MarksError_MarksError => k_is)
    (case su_NotThere_NotThere => k_is)
    (case ic_NotThere => k_is)
    (case su_TooMany_NotThere => k_is)
    (case ne_11_12 => decide)
    (case su_BadText_NotThere => k_is)
    (case ne_10_12 => decide)
    (case su_BadCommand_NotThere => k_is)
    (case ne_9_12 => decide)
    (case su_BadChange_NotThere => k_is)
    (case ne_8_12 => decide)
    (case su_BadNumber_NotThere => k_is)
    (case ne_7_12 => decide)
    (case su_BadArgument_NotThere => k_is)
    (case ne_6_12 => decide)
    (case su_BadMark_NotThere => k_is)
    (case ne_5_12 => decide)
    (case su_BadPair_NotThere => k_is)
    (case ne_4_12 => decide)
    (case su_BadRule_NotThere => k_is)
    (case ne_3_12 => decide)
    (case su_BadPage_NotThere => k_is)
    (case ne_2_12 => decide)
    (case su_BadCrowd_NotThere => k_is)
    (case ne_1_12 => decide)
    (case su_NotThere_TooMany => k_is)
    (case ic_TooMany => k_is)
    (case ne_12_11 => decide)
    (case su_TooMany_TooMany => k_is)
    (case su_BadText_TooMany => k_is)
    (case ne_10_11 => decide)
    (case su_BadCommand_TooMany => k_is)
    (case ne_9_11 => decide)
    (case su_BadChange_TooMany => k_is)
    (case ne_8_11 => decide)
    (case su_BadNumber_TooMany => k_is)
    (case ne_7_11 => decide)
    (case su_BadArgument_TooMany => k_is)
    (case ne_6_11 => decide)
    (case su_BadMark_TooMany => k_is)
    (case ne_5_11 => decide)
    (case su_BadPair_TooMany => k_is)
    (case ne_4_11 => decide)
    (case su_BadRule_TooMany => k_is)
    (case ne_3_11 => decide)
    (case su_BadPage_TooMany => k_is)
    (case ne_2_11 => decide)
    (case su_BadCrowd_TooMany => k_is)
    (case ne_1_11 => decide)
    (case su_NotThere_BadText => k_is)
    (case ic_BadText => k_is)
    (case ne_12_10 => decide)
    (case su_TooMany_BadText => k_is)
    (case ne_11_10 => decide)
    (case su_BadText_BadText => k_is)
    (case su_BadCommand_BadText => k_is)
    (case ne_9_10 => decide)
    (case su_BadChange_BadText => k_is)
    (case ne_8_10 => decide)
    (case su_BadNumber_BadText => k_is)
    (case ne_7_10 => decide)
    (case su_BadArgument_BadText => k_is)
    (case ne_6_10 => decide)
    (case su_BadMark_BadText => k_is)
    (case ne_5_10 => decide)
    (case su_BadPair_BadText => k_is)
    (case ne_4_10 => decide)
    (case su_BadRule_BadText => k_is)
    (case ne_3_10 => decide)
    (case su_BadPage_BadText => k_is)
    (case ne_2_10 => decide)
    (case su_BadCrowd_BadText => k_is)
    (case ne_1_10 => decide)
    (case su_NotThere_BadCommand => k_is)
    (case ic_BadCommand => k_is)
    (case ne_12_9 => decide)
    (case su_TooMany_BadCommand => k_is)
    (case ne_11_9 => decide)
    (case su_BadText_BadCommand => k_is)
    (case ne_10_9 => decide)
    (case su_BadCommand_BadCommand => k_is)
    (case su_BadChange_BadCommand => k_is)
    (case ne_8_9 => decide)
    (case su_BadNumber_BadCommand => k_is)
    (case ne_7_9 => decide)
    (case su_BadArgument_BadCommand => k_is)
    (case ne_6_9 => decide)
    (case su_BadMark_BadCommand => k_is)
    (case ne_5_9 => decide)
    (case su_BadPair_BadCommand => k_is)
    (case ne_4_9 => decide)
    (case su_BadRule_BadCommand => k_is)
    (case ne_3_9 => decide)
    (case su_BadPage_BadCommand => k_is)
    (case ne_2_9 => decide)
    (case su_BadCrowd_BadCommand => k_is)
    (case ne_1_9 => decide)
    (case su_NotThere_BadChange => k_is)
    (case ic_BadChange => k_is)
    (case ne_12_8 => decide)
    (case su_TooMany_BadChange => k_is)
    (case ne_11_8 => decide)
    (case su_BadText_BadChange => k_is)
    (case ne_10_8 => decide)
    (case su_BadCommand_BadChange => k_is)
    (case ne_9_8 => decide)
    (case su_BadChange_BadChange => k_is)
    (case su_BadNumber_BadChange => k_is)
    (case ne_7_8 => decide)
    (case su_BadArgument_BadChange => k_is)
    (case ne_6_8 => decide)
    (case su_BadMark_BadChange => k_is)
    (case ne_5_8 => decide)
    (case su_BadPair_BadChange => k_is)
    (case ne_4_8 => decide)
    (case su_BadRule_BadChange => k_is)
    (case ne_3_8 => decide)
    (case su_BadPage_BadChange => k_is)
    (case ne_2_8 => decide)
    (case su_BadCrowd_BadChange => k_is)
    (case ne_1_8 => decide)
    (case su_NotThere_BadNumber => k_is)
    (case ic_BadNumber => k_is)
    (case ne_12_7 => decide)
    (case su_TooMany_BadNumber => k_is)
    (case ne_11_7 => decide)
    (case su_BadText_BadNumber => k_is)
    (case ne_10_7 => decide)
    (case su_BadCommand_BadNumber => k_is)
    (case ne_9_7 => decide)
    (case su_BadChange_BadNumber => k_is)
    (case ne_8_7 => decide)
    (case su_BadNumber_BadNumber => k_is)
    (case su_BadArgument_BadNumber => k_is)
    (case ne_6_7 => decide)
    (case su_BadMark_BadNumber => k_is)
    (case ne_5_7 => decide)
    (case su_BadPair_BadNumber => k_is)
    (case ne_4_7 => decide)
    (case su_BadRule_BadNumber => k_is)
    (case ne_3_7 => decide)
    (case su_BadPage_BadNumber => k_is)
    (case ne_2_7 => decide)
    (case su_BadCrowd_BadNumber => k_is)
    (case ne_1_7 => decide)
    (case su_NotThere_BadArgument => k_is)
    (case ic_BadArgument => k_is)
    (case ne_12_6 => decide)
    (case su_TooMany_BadArgument => k_is)
    (case ne_11_6 => decide)
    (case su_BadText_BadArgument => k_is)
    (case ne_10_6 => decide)
    (case su_BadCommand_BadArgument => k_is)
    (case ne_9_6 => decide)
    (case su_BadChange_BadArgument => k_is)
    (case ne_8_6 => decide)
    (case su_BadNumber_BadArgument => k_is)
    (case ne_7_6 => decide)
    (case su_BadArgument_BadArgument => k_is)
    (case su_BadMark_BadArgument => k_is)
    (case ne_5_6 => decide)
    (case su_BadPair_BadArgument => k_is)
    (case ne_4_6 => decide)
    (case su_BadRule_BadArgument => k_is)
    (case ne_3_6 => decide)
    (case su_BadPage_BadArgument => k_is)
    (case ne_2_6 => decide)
    (case su_BadCrowd_BadArgument => k_is)
    (case ne_1_6 => decide)
    (case su_NotThere_BadMark => k_is)
    (case ic_BadMark => k_is)
    (case ne_12_5 => decide)
    (case su_TooMany_BadMark => k_is)
    (case ne_11_5 => decide)
    (case su_BadText_BadMark => k_is)
    (case ne_10_5 => decide)
    (case su_BadCommand_BadMark => k_is)
    (case ne_9_5 => decide)
    (case su_BadChange_BadMark => k_is)
    (case ne_8_5 => decide)
    (case su_BadNumber_BadMark => k_is)
    (case ne_7_5 => decide)
    (case su_BadArgument_BadMark => k_is)
    (case ne_6_5 => decide)
    (case su_BadMark_BadMark => k_is)
    (case su_BadPair_BadMark => k_is)
    (case ne_4_5 => decide)
    (case su_BadRule_BadMark => k_is)
    (case ne_3_5 => decide)
    (case su_BadPage_BadMark => k_is)
    (case ne_2_5 => decide)
    (case su_BadCrowd_BadMark => k_is)
    (case ne_1_5 => decide)
    (case su_NotThere_BadPair => k_is)
    (case ic_BadPair => k_is)
    (case ne_12_4 => decide)
    (case su_TooMany_BadPair => k_is)
    (case ne_11_4 => decide)
    (case su_BadText_BadPair => k_is)
    (case ne_10_4 => decide)
    (case su_BadCommand_BadPair => k_is)
    (case ne_9_4 => decide)
    (case su_BadChange_BadPair => k_is)
    (case ne_8_4 => decide)
    (case su_BadNumber_BadPair => k_is)
    (case ne_7_4 => decide)
    (case su_BadArgument_BadPair => k_is)
    (case ne_6_4 => decide)
    (case su_BadMark_BadPair => k_is)
    (case ne_5_4 => decide)
    (case su_BadPair_BadPair => k_is)
    (case su_BadRule_BadPair => k_is)
    (case ne_3_4 => decide)
    (case su_BadPage_BadPair => k_is)
    (case ne_2_4 => decide)
    (case su_BadCrowd_BadPair => k_is)
    (case ne_1_4 => decide)
    (case su_NotThere_BadRule => k_is)
    (case ic_BadRule => k_is)
    (case ne_12_3 => decide)
    (case su_TooMany_BadRule => k_is)
    (case ne_11_3 => decide)
    (case su_BadText_BadRule => k_is)
    (case ne_10_3 => decide)
    (case su_BadCommand_BadRule => k_is)
    (case ne_9_3 => decide)
    (case su_BadChange_BadRule => k_is)
    (case ne_8_3 => decide)
    (case su_BadNumber_BadRule => k_is)
    (case ne_7_3 => decide)
    (case su_BadArgument_BadRule => k_is)
    (case ne_6_3 => decide)
    (case su_BadMark_BadRule => k_is)
    (case ne_5_3 => decide)
    (case su_BadPair_BadRule => k_is)
    (case ne_4_3 => decide)
    (case su_BadRule_BadRule => k_is)
    (case su_BadPage_BadRule => k_is)
    (case ne_2_3 => decide)
    (case su_BadCrowd_BadRule => k_is)
    (case ne_1_3 => decide)
    (case su_NotThere_BadPage => k_is)
    (case ic_BadPage => k_is)
    (case ne_12_2 => decide)
    (case su_TooMany_BadPage => k_is)
    (case ne_11_2 => decide)
    (case su_BadText_BadPage => k_is)
    (case ne_10_2 => decide)
    (case su_BadCommand_BadPage => k_is)
    (case ne_9_2 => decide)
    (case su_BadChange_BadPage => k_is)
    (case ne_8_2 => decide)
    (case su_BadNumber_BadPage => k_is)
    (case ne_7_2 => decide)
    (case su_BadArgument_BadPage => k_is)
    (case ne_6_2 => decide)
    (case su_BadMark_BadPage => k_is)
    (case ne_5_2 => decide)
    (case su_BadPair_BadPage => k_is)
    (case ne_4_2 => decide)
    (case su_BadRule_BadPage => k_is)
    (case ne_3_2 => decide)
    (case su_BadPage_BadPage => k_is)
    (case su_BadCrowd_BadPage => k_is)
    (case ne_1_2 => decide)
    (case su_NotThere_BadCrowd => k_is)
    (case ic_BadCrowd => k_is)
    (case ne_12_1 => decide)
    (case su_TooMany_BadCrowd => k_is)
    (case ne_11_1 => decide)
    (case su_BadText_BadCrowd => k_is)
    (case ne_10_1 => decide)
    (case su_BadCommand_BadCrowd => k_is)
    (case ne_9_1 => decide)
    (case su_BadChange_BadCrowd => k_is)
    (case ne_8_1 => decide)
    (case su_BadNumber_BadCrowd => k_is)
    (case ne_7_1 => decide)
    (case su_BadArgument_BadCrowd => k_is)
    (case ne_6_1 => decide)
    (case su_BadMark_BadCrowd => k_is)
    (case ne_5_1 => decide)
    (case su_BadPair_BadCrowd => k_is)
    (case ne_4_1 => decide)
    (case su_BadRule_BadCrowd => k_is)
    (case ne_3_1 => decide)
    (case su_BadPage_BadCrowd => k_is)
    (case ne_2_1 => decide)
    (case su_BadCrowd_BadCrowd => k_is)
    (case su_NothingLeft_NotThere => k_is)
    (case ne_13_12 => decide)
    (case gs0 => k_is)
    (case gs1 => k_is)
    (case hc_MarksError => k_is)
    (case hm_MarksError => k_is)
    (case hc_BadCrowd => k_is)
    (case hm_BadCrowd => k_is)
    (case hc_BadPage => k_is)
    (case hm_BadPage => k_is)
    (case hc_BadRule => k_is)
    (case hm_BadRule => k_is)
    (case hc_BadPair => k_is)
    (case hm_BadPair => k_is)
    (case hc_BadMark => k_is)
    (case hm_BadMark => k_is)
    (case hc_BadArgument => k_is)
    (case hm_BadArgument => k_is)
    (case hc_BadNumber => k_is)
    (case hm_BadNumber => k_is)
    (case hc_BadChange => k_is)
    (case hm_BadChange => k_is)
    (case hc_BadCommand => k_is)
    (case hm_BadCommand => k_is)
    (case hc_BadText => k_is)
    (case hm_BadText => k_is)
    (case hc_TooMany => k_is)
    (case hm_TooMany => k_is)
    (case hc_NotThere => k_is)
    (case hm_NotThere => k_is)
    (case hc_NothingLeft => k_is)
    (case hm_NothingLeft => k_is)

